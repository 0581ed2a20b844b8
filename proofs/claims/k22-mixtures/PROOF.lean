import PyProof.Rows.All
import Wide.All
import OpenK.AllK
import Wide.FinOn
import HandS.ForMost
import HandS.Exc
import HandS.TryOnly
import HandS.ExcOwn
import HandS.WordsExc
import HandS.Lambda
import HandS.TryMany
import HandS.Wide
import HandS.WideBits
import HandS.Conv
import HandS.Zip
import HandS.Flow
import HandS.TupAny
import HandS.TupLe
import HandS.EndTab
import HandS.SortInts
import HandS.Deep
import HandS.TupMul
import HandS.RaiseMore
import PyProof.ZipIter
import PyProof.Draws
import PyProof.EnumMake
import PyProof.StrOps2
import PyProof.ExcBaseAll.ValueError
import PySem.Challenge.RW_fewestbits_k22_whole_mixtures_of_voices

-- DL0
set_option Elab.async false
set_option linter.all false
set_option maxRecDepth 100000
set_option maxHeartbeats 4000000
/-! The data layer: values as plain data, a result monad, what stands for what. -/
namespace DL
open PySem PySem.Spec PyProof.Rows L2

abbrev Sg := L2.St
/-- plain data -/
inductive D where
  | non | bl (b : Bool) | int (i : Int) | str (s : List Nat)
  | tup (xs : List D) | lst (xs : List D)
  | dic (kvs : List (Sum Int (List Nat) × D))
  | ins (c : Str) (fs : List (Str × D))
  | tape
  deriving Inhabited

/-- results: a value, an exception of a class, stuck -/
inductive R (α : Type) where
  | ok (a : α) | ex (c : Str) | st
namespace R
variable {α β γ : Type}
def bind : R α → (α → R β) → R β
  | .ok a, f => f a
  | .ex c, _ => .ex c
  | .st, _ => .st
def lift : Option α → R α
  | some a => .ok a
  | none => .st
/-- exceptions are stuck -/
def nx : R α → R α
  | .ok a => .ok a
  | _ => .st
@[simp] theorem bind_ok (a : α) (f : α → R β) : (R.ok a).bind f = f a := rfl
@[simp] theorem bind_ex (c : Str) (f : α → R β) : (R.ex c : R α).bind f = .ex c := rfl
@[simp] theorem bind_st (f : α → R β) : (R.st : R α).bind f = .st := rfl
@[simp] theorem lift_some (a : α) : R.lift (some a) = .ok a := rfl
@[simp] theorem lift_none : R.lift (none : Option α) = .st := rfl
@[simp] theorem nx_ok (a : α) : (R.ok a).nx = .ok a := rfl
@[simp] theorem nx_ex (c : Str) : (R.ex c : R α).nx = .st := rfl
@[simp] theorem nx_st : (R.st : R α).nx = .st := rfl
theorem bind_assoc (m : R α) (f : α → R β) (g : β → R γ) : (m.bind f).bind g = m.bind fun a => (f a).bind g := by
  cases m <;> rfl
end R

/-- a key of a dict -/
def keyD : Sum Int (List Nat) → Key
  | .inl i => .inl i
  | .inr s => .inr ⟨s.toArray⟩
def SS (s : List Nat) : Str := ⟨s.toArray⟩
/-- a tape: a dict with these keys; it may change at any time and stays one -/
def tapeKs : List Key := [.inr ("cells" : Str), .inr ("at" : Str), .inr ("left" : Str), .inr ("seed" : Str), .inr ("salt" : Str)]
def TapeO (o : HO) : Prop := ∃ kvs, o = .dK kvs ∧ kvs.map (·.1) = tapeKs
def tapeKvs (c : Addr) (i l s t : Int) : List (Key × V) := [(.inr ("cells" : Str), .ref c), (.inr ("at" : Str), .int i), (.inr ("left" : Str), .int l), (.inr ("seed" : Str), .int s), (.inr ("salt" : Str), .int t)]
def TapeOk (F : Addr → Prop) (H : Hp) (a : Addr) : Prop := ∃ (c : Addr) (cs : List Int) (i l s t : Int), H a = some (.dK (tapeKvs c i l s t)) ∧ F c ∧ Rd H c (.lst (cs.map V.int)) ∧ 0 ≤ i
/-- something stands there, no table -/
def Dat (H : Hp) (a : Addr) : Prop := ∃ o, H a = some o ∧ ∀ ps, o ≠ .tbl ps
theorem nd_none {H : Hp} {a : Addr} (h : H a = none) : ¬ Dat H a := fun ⟨o, e, _⟩ => by rw [h] at e; cases e
theorem Dat.ne {H : Hp} {a : Addr} (h : Dat H a) : H a ≠ none := by obtain ⟨o, e, _⟩ := h; rw [e]; simp
def NoTbl (o : HO) : Prop := (∀ ps, o ≠ .tbl ps) ∧ ¬ TapeO o
/-- signs are signs -/
def Okc (s : List Nat) : Prop := ∀ c ∈ s, c < 0x110000

mutual
/-- the value v in the heap H stands for the data d; the lists and dicts in it lie in F -/
inductive Rep (K : PySem.W.Frag) (F : Addr → Prop) (H : Hp) : V → D → Prop
  | non : Rep K F H .non .non
  | bl (b : Bool) : Rep K F H (.bl b) (.bl b)
  | int (i : Int) : Rep K F H (.int i) (.int i)
  | str (s : List Nat) (h : Okc s) : Rep K F H (.str (SS s)) (.str s)
  | tup {a : Addr} {vs : List V} {xs : List D} : SqT K H a vs → Reps K F H vs xs → Rep K F H (.ref a) (.tup xs)
  | lst {a : Addr} {vs : List V} {xs : List D} : F a → Rd H a (.lst vs) → Reps K F H vs xs → Rep K F H (.ref a) (.lst xs)
  | dic {a : Addr} {kvs : List (Key × V)} {xs : List (Sum Int (List Nat) × D)} : F a → Rd H a (.dK kvs) → NoTbl (.dK kvs) → RepKs K F H kvs xs → Rep K F H (.ref a) (.dic xs)
  | tape {a : Addr} : TapeOk F H a → Rep K F H (.ref a) .tape
inductive Reps (K : PySem.W.Frag) (F : Addr → Prop) (H : Hp) : List V → List D → Prop
  | nil : Reps K F H [] []
  | cons {v : V} {d : D} {vs : List V} {ds : List D} : Rep K F H v d → Reps K F H vs ds → Reps K F H (v :: vs) (d :: ds)
inductive RepKs (K : PySem.W.Frag) (F : Addr → Prop) (H : Hp) : List (Key × V) → List (Sum Int (List Nat) × D) → Prop
  | nil : RepKs K F H [] []
  | cons {k : Sum Int (List Nat)} {v : V} {d : D} {kvs : List (Key × V)} {xs : List (Sum Int (List Nat) × D)} : Rep K F H v d → RepKs K F H kvs xs → RepKs K F H ((keyD k, v) :: kvs) ((k, d) :: xs)
end

/-- what lies in F, and what never changes, stays -/
structure Grow (F : Addr → Prop) (H : Hp) (F' : Addr → Prop) (H' : Hp) : Prop where
  inc : ∀ a, F a → F' a
  keepF : ∀ b o, F b → H b = some o → NoTbl o → H' b = some o
  tups : ∀ b xs, H b = some (.tup xs) → H' b = some (.tup xs)
  frzs : ∀ b o u, H b = some (.frz o u) → H' b = some (.frz o u)
  tape : ∀ a, TapeOk F H a → TapeOk F' H' a
theorem Grow.refl {F : Addr → Prop} {H : Hp} : Grow F H F H := ⟨fun _ h => h, fun _ _ _ h _ => h, fun _ _ h => h, fun _ _ _ h => h, fun _ h => h⟩
theorem Grow.trans {F F1 F2 : Addr → Prop} {H H1 H2 : Hp} (a : Grow F H F1 H1) (b : Grow F1 H1 F2 H2) : Grow F H F2 H2 :=
  ⟨fun x h => b.inc x (a.inc x h), fun x o h e n => b.keepF x o (a.inc x h) (a.keepF x o h e n) n, fun x xs e => b.tups x xs (a.tups x xs e), fun x o u e => b.frzs x o u (a.frzs x o u e), fun x h => b.tape x (a.tape x h)⟩

section
variable {K : PySem.W.Frag} {F F' F1 F2 : Addr → Prop} {H H' H1 H2 : Hp} {a b : Addr} {v : V} {d : D} {vs : List V} {ds : List D}
theorem Grow.rdF {o : HO} (g : Grow F H F' H') (hF : F a) (hn : NoTbl o) (h : Rd H a o) : Rd H' a o := by
  rcases h with h | ⟨ob, h⟩
  · exact .inl (g.keepF a o hF h hn)
  · exact .inr ⟨ob, g.frzs a ob o h⟩
theorem Grow.sqT {xs : List V} (g : Grow F H F' H') (h : SqT K H a xs) : SqT K H' a xs := by
  rcases h with (h | ⟨o, h⟩) | h
  · exact .inl (.inl (g.tups a xs h))
  · exact .inl (.inr ⟨o, g.frzs a o _ h⟩)
  · exact .inr h
theorem noTbl_lst (xs : List V) : NoTbl (.lst xs) := ⟨fun _ e => (by cases e), fun ⟨_, e, _⟩ => (by cases e)⟩
theorem noTbl_tup (xs : List V) : NoTbl (.tup xs) := ⟨fun _ e => (by cases e), fun ⟨_, e, _⟩ => (by cases e)⟩
theorem noTbl_ins (C dx : Addr) (fs : List (Str × V)) : NoTbl (.ins C dx fs) := ⟨fun _ e => (by cases e), fun ⟨_, e, _⟩ => (by cases e)⟩
theorem noTbl_frz (o : Obj) (u : HO) : NoTbl (.frz o u) := ⟨fun _ e => (by cases e), fun ⟨_, e, _⟩ => (by cases e)⟩
theorem tapeO_kvs (c : Addr) (i l s t : Int) : TapeO (.dK (tapeKvs c i l s t)) := ⟨_, rfl, rfl⟩
mutual
theorem Rep.mono (g : Grow F H F' H') {v : V} : {d : D} → Rep K F H v d → Rep K F' H' v d
  | _, .non => .non
  | _, .bl b => .bl b
  | _, .int i => .int i
  | _, .str s h => .str s h
  | _, .tup h hs => .tup (g.sqT h) (Reps.mono g hs)
  | _, .lst hF h hs => .lst (g.inc _ hF) (g.rdF hF (noTbl_lst _) h) (Reps.mono g hs)
  | _, .dic hF h n hs => .dic (g.inc _ hF) (g.rdF hF n h) n (RepKs.mono g hs)
  | _, .tape h => .tape (g.tape _ h)
theorem Reps.mono (g : Grow F H F' H') {vs : List V} : {ds : List D} → Reps K F H vs ds → Reps K F' H' vs ds
  | _, .nil => .nil
  | _, .cons h t => .cons (Rep.mono g h) (Reps.mono g t)
theorem RepKs.mono (g : Grow F H F' H') {kvs : List (Key × V)} : {xs : List (Sum Int (List Nat) × D)} → RepKs K F H kvs xs → RepKs K F' H' kvs xs
  | _, .nil => .nil
  | _, .cons h t => .cons (Rep.mono g h) (RepKs.mono g t)
end
theorem Reps.length : ∀ {vs : List V} {ds : List D}, Reps K F H vs ds → vs.length = ds.length
  | _, _, .nil => rfl
  | _, _, .cons _ t => by rw [List.length_cons, List.length_cons, Reps.length t]
theorem Reps.append : ∀ {vs : List V} {ds : List D} {vs' : List V} {ds' : List D}, Reps K F H vs ds → Reps K F H vs' ds' → Reps K F H (vs ++ vs') (ds ++ ds')
  | _, _, _, _, .nil, s => s
  | _, _, _, _, .cons h t, s => .cons h (Reps.append t s)
theorem Reps.get : ∀ {vs : List V} {ds : List D} {i : Nat} {d : D}, Reps K F H vs ds → ds[i]? = some d → ∃ v, vs[i]? = some v ∧ Rep K F H v d
  | _, _, _, _, .nil, e => by simp at e
  | _, _, 0, _, .cons h _, e => by simp at e; subst e; exact ⟨_, rfl, h⟩
  | _, _, i + 1, _, .cons _ t, e => by
    obtain ⟨v, h1, h2⟩ := Reps.get (i := i) t (by simpa using e)
    exact ⟨v, by simpa using h1, h2⟩
theorem Reps.getV : ∀ {vs : List V} {ds : List D} {i : Nat} {v : V}, Reps K F H vs ds → vs[i]? = some v → ∃ d, ds[i]? = some d ∧ Rep K F H v d
  | _, _, _, _, .nil, e => by simp at e
  | _, _, 0, _, .cons h _, e => by simp at e; subst e; exact ⟨_, rfl, h⟩
  | _, _, i + 1, _, .cons _ t, e => by
    obtain ⟨v, h1, h2⟩ := Reps.getV (i := i) t (by simpa using e)
    exact ⟨v, by simpa using h1, h2⟩
theorem Reps.take : ∀ {vs : List V} {ds : List D} (n : Nat), Reps K F H vs ds → Reps K F H (vs.take n) (ds.take n)
  | _, _, 0, _ => .nil
  | _, _, _ + 1, .nil => .nil
  | _, _, n + 1, .cons h t => .cons h (Reps.take n t)
theorem Reps.drop : ∀ {vs : List V} {ds : List D} (n : Nat), Reps K F H vs ds → Reps K F H (vs.drop n) (ds.drop n)
  | _, _, 0, h => h
  | _, _, _ + 1, .nil => .nil
  | _, _, n + 1, .cons _ t => Reps.drop n t
theorem Reps.set : ∀ {vs : List V} {ds : List D} {v : V} {d : D} (i : Nat), Reps K F H vs ds → Rep K F H v d → Reps K F H (vs.set i v) (ds.set i d)
  | _, _, _, _, _, .nil, _ => .nil
  | _, _, _, _, 0, .cons _ t, r => .cons r t
  | _, _, _, _, i + 1, .cons h t, r => .cons h (Reps.set i t r)
theorem Reps.reverse : ∀ {vs : List V} {ds : List D}, Reps K F H vs ds → Reps K F H vs.reverse ds.reverse
  | _, _, .nil => .nil
  | _, _, .cons h t => by rw [List.reverse_cons, List.reverse_cons]; exact (Reps.reverse t).append (.cons h .nil)
theorem Reps.replicate (n : Nat) (h : Rep K F H v d) : Reps K F H (List.replicate n v) (List.replicate n d) := by
  induction n with
  | zero => exact .nil
  | succ n ih => rw [List.replicate_succ, List.replicate_succ]; exact .cons h ih
theorem Reps.flatRep (n : Nat) (h : Reps K F H vs ds) : Reps K F H (List.replicate n vs).flatten (List.replicate n ds).flatten := by
  induction n with
  | zero => exact .nil
  | succ n ih => rw [List.replicate_succ, List.replicate_succ, List.flatten_cons, List.flatten_cons]; exact h.append ih
/-- lists of a kind -/
theorem Reps.ints : ∀ {vs : List V} {is : List Int}, Reps K F H vs (is.map D.int) → vs = is.map V.int
  | _, [], .nil => rfl
  | _, i :: is, .cons h t => by cases h; rw [Reps.ints t]; rfl
theorem Reps.bls : ∀ {vs : List V} {is : List Bool}, Reps K F H vs (is.map D.bl) → vs = is.map V.bl
  | _, [], .nil => rfl
  | _, i :: is, .cons h t => by cases h; rw [Reps.bls t]; rfl
theorem Reps.strs : ∀ {vs : List V} {is : List (List Nat)}, Reps K F H vs (is.map D.str) → vs = (is.map SS).map V.str
  | _, [], .nil => rfl
  | _, i :: is, .cons h t => by cases h; rw [Reps.strs t]; rfl
theorem reps_ints : ∀ (is : List Int), Reps K F H (is.map V.int) (is.map D.int)
  | [] => .nil
  | i :: is => .cons (.int i) (reps_ints is)
theorem Reps.strOk : ∀ {vs : List V} {is : List (List Nat)}, Reps K F H vs (is.map D.str) → ∀ s ∈ is, Okc s
  | _, [], .nil, _, h => nomatch h
  | _, i :: is, .cons h t, s, hs => by
    rcases List.mem_cons.mp hs with e | e
    · cases h; rw [e]; assumption
    · exact Reps.strOk t s e
theorem reps_strs : ∀ (is : List (List Nat)), (∀ s ∈ is, Okc s) → Reps K F H ((is.map SS).map V.str) (is.map D.str)
  | [], _ => .nil
  | i :: is, h => .cons (.str i (h i List.mem_cons_self)) (reps_strs is fun s hs => h s (List.mem_cons_of_mem _ hs))
end

/-- how an expression's value is had: O: a new list (dict) of one's own, S: as data, B: looked at (a list may be another's own) -/
inductive Md | O | S | B

section
variable (K : PySem.W.Frag) (F : Addr → Prop) (H : Hp)
/-- an object of one's own at a -/
def OwnAt (a : Addr) : D → Prop
  | .lst xs => ∃ vs, H a = some (.lst vs) ∧ Reps K F H vs xs
  | .dic xs => ∃ kvs, H a = some (.dK kvs) ∧ NoTbl (.dK kvs) ∧ RepKs K F H kvs xs
  | _ => False
/-- what stands at a, looked at -/
def TopAt (a : Addr) : D → Prop
  | .lst xs => ∃ vs, Rd H a (.lst vs) ∧ Reps K F H vs xs
  | .dic xs => ∃ kvs, Rd H a (.dK kvs) ∧ NoTbl (.dK kvs) ∧ RepKs K F H kvs xs
  | _ => False
def Top (v : V) (d : D) : Prop := Rep K F H v d ∨ ∃ a, v = .ref a ∧ TopAt K F H a d
def RepM (md : Md) (H0 : Hp) (v : V) (d : D) : Prop :=
  match md with
  | .S => Rep K F H v d
  | .B => Top K F H v d
  | .O => ∃ a, v = .ref a ∧ ¬ Dat H0 a ∧ ¬ F a ∧ OwnAt K F H a d
end

/-- a slot: nothing known, shared data, an object of one's own -/
inductive Sl where
  | no | sh (d : D) | ow (d : D)
  deriving Inhabited
def SlR (K : PySem.W.Frag) (F : Addr → Prop) (H : Hp) (x : Option V) : Sl → Prop
  | .no => True
  | .sh d => ∃ v, x = some v ∧ Rep K F H v d
  | .ow d => ∃ a, x = some (.ref a) ∧ OwnAt K F H a d
/-- the slot i holds an object of one's own at a -/
def OwnI (σ : Sg) (env : List Sl) (i : Nat) (a : Addr) : Prop := (∃ d, env[i]? = some (.ow d)) ∧ σ[i]? = some (some (.ref a))
abbrev Tb := List (Addr × Str)
structure ER (K : PySem.W.Frag) (T : Tb) (F : Addr → Prop) (σ : Sg) (H : Hp) (env : List Sl) : Prop where
  len : σ.length = env.length
  slots : ∀ (i : Nat) (sl : Sl), env[i]? = some sl → ∃ x : Option V, σ[i]? = some x ∧ SlR K F H x sl
  nd : ∀ (i j : Nat) (a : Addr), OwnI σ env i a → OwnI σ env j a → i = j
  nf : ∀ (i : Nat) (a : Addr), OwnI σ env i a → ¬ F a
  ftr : ∀ a, F a → Dat H a
  tabs : LamX.Tabs T H

/-- a step that changes nothing that stood but tables -/
structure Stp (T : Tb) (F : Addr → Prop) (H : Hp) (F' : Addr → Prop) (H' : Hp) : Prop where
  inc : ∀ a, F a → F' a
  new : ∀ a, F' a → F a ∨ ¬ Dat H a
  keep : ∀ b o, H b = some o → NoTbl o → H' b = some o
  there : ∀ b, Dat H b → Dat H' b
  tape : ∀ a, TapeOk F H a → TapeOk F' H' a
  tabs : LamX.Tabs T H → LamX.Tabs T H'
  ftr : (∀ a, F a → Dat H a) → ∀ a, F' a → Dat H' a
section
variable {K : PySem.W.Frag} {T : Tb} {F F' F1 F2 : Addr → Prop} {H H' H1 H2 : Hp} {a b p : Addr} {v : V} {d : D} {vs : List V} {ds : List D}
theorem Stp.refl : Stp T F H F H := ⟨fun _ h => h, fun _ h => .inl h, fun _ _ h _ => h, fun _ h => h, fun _ h => h, fun h => h, fun h => h⟩
theorem Stp.back (s : Stp T F H F' H') (h : ¬ Dat H' a) : ¬ Dat H a := fun z => h (s.there a z)
theorem Stp.trans (a : Stp T F H F1 H1) (b : Stp T F1 H1 F2 H2) : Stp T F H F2 H2 where
  inc := fun x h => b.inc x (a.inc x h)
  new := fun x h => by
    rcases b.new x h with h | h
    · exact a.new x h
    · exact .inr (a.back h)
  keep := fun x o e n => b.keep x o (a.keep x o e n) n
  there := fun x h => b.there x (a.there x h)
  tape := fun x h => b.tape x (a.tape x h)
  tabs := fun h => b.tabs (a.tabs h)
  ftr := fun h => b.ftr (a.ftr h)
theorem Stp.grow (s : Stp T F H F' H') : Grow F H F' H' :=
  ⟨s.inc, fun b o _ e n => s.keep b o e n, fun b xs e => s.keep b _ e (noTbl_tup xs), fun b o u e => s.keep b _ e (noTbl_frz o u), s.tape⟩
theorem Stp.rd {o : HO} (s : Stp T F H F' H') (hn : NoTbl o) (h : Rd H a o) : Rd H' a o := by
  rcases h with h | ⟨ob, h⟩
  · exact .inl (s.keep a o h hn)
  · exact .inr ⟨ob, s.keep a _ h (noTbl_frz ob o)⟩
theorem Stp.topAt (s : Stp T F H F' H') : {d : D} → TopAt K F H a d → TopAt K F' H' a d
  | .lst _, ⟨vs, h, r⟩ => ⟨vs, s.rd (noTbl_lst _) h, r.mono s.grow⟩
  | .dic _, ⟨kvs, h, n, r⟩ => ⟨kvs, s.rd n h, n, r.mono s.grow⟩
theorem Stp.top (s : Stp T F H F' H') (h : Top K F H v d) : Top K F' H' v d := by
  rcases h with h | ⟨a, e, h⟩
  · exact .inl (h.mono s.grow)
  · exact .inr ⟨a, e, s.topAt h⟩
theorem Stp.ownAt (s : Stp T F H F' H') : {d : D} → OwnAt K F H a d → OwnAt K F' H' a d
  | .lst _, ⟨vs, h, r⟩ => ⟨vs, s.keep _ _ h (noTbl_lst _), r.mono s.grow⟩
  | .dic _, ⟨kvs, h, n, r⟩ => ⟨kvs, s.keep _ _ h n, n, r.mono s.grow⟩
theorem OwnAt.tr : {d : D} → OwnAt K F H a d → Dat H a
  | .lst _, ⟨vs, h, r⟩ => ⟨_, h, fun _ z => by cases z⟩
  | .dic _, ⟨kvs, h, n, r⟩ => ⟨_, h, fun _ z => by cases z⟩
theorem OwnAt.topAt : {d : D} → OwnAt K F H a d → TopAt K F H a d
  | .lst _, ⟨vs, h, r⟩ => ⟨vs, .inl h, r⟩
  | .dic _, ⟨kvs, h, n, r⟩ => ⟨kvs, .inl h, n, r⟩
theorem TopAt.rep (hF : F a) : {d : D} → TopAt K F H a d → Rep K F H (.ref a) d
  | .lst _, ⟨vs, h, r⟩ => .lst hF h r
  | .dic _, ⟨kvs, h, n, r⟩ => .dic hF h n r
theorem Rep.top (h : Rep K F H v d) : Top K F H v d := .inl h
theorem Stp.mode {md : Md} {H0 : Hp} (s : Stp T F H F' H') (hO : md = .O → ∀ a, ¬ Dat H0 a → ¬ F a → Dat H a → ¬ F' a) (h : RepM K F H md H0 v d) : RepM K F' H' md H0 v d := by
  cases md with
  | S => exact Rep.mono s.grow h
  | B => exact s.top h
  | O =>
    obtain ⟨a, e, h0, nf, o⟩ := h
    exact ⟨a, e, h0, hO rfl a h0 nf o.tr, s.ownAt o⟩
/-- a mode is made weaker -/
theorem Stp.notF (s : Stp T F H F' H') (nf : ¬ F a) (ht : Dat H a) : ¬ F' a := fun h => by
  rcases s.new a h with h | h
  · exact nf h
  · exact h ht
theorem tabs_upd {o : HO} (h : LamX.Tabs T H) (hp : H p = none) : LamX.Tabs T (upd H p o) := h.ext fun b u e => by rw [upd_ne (ne_of_none e hp)]; exact e
theorem TapeOk.upd {o : HO} (h : TapeOk F H a) (hap : a ≠ p) (hcp : ¬ F p) : TapeOk F (upd H p o) a := by
  obtain ⟨c, cs, i, l, s, t, h1, h2, h3, h4⟩ := h
  have hc : c ≠ p := fun e => hcp (by rw [← e]; exact h2)
  refine ⟨c, cs, i, l, s, t, by rw [upd_ne hap]; exact h1, h2, ?_, h4⟩
  rcases h3 with h3 | ⟨ob, h3⟩
  · exact .inl (by rw [upd_ne hc]; exact h3)
  · exact .inr ⟨ob, by rw [upd_ne hc]; exact h3⟩
theorem TapeOk.upd_none {o : HO} (h : TapeOk F H a) (hp : H p = none) : TapeOk F (L2.upd H p o) a := by
  obtain ⟨c, cs, i, l, s, t, h1, h2, h3, h4⟩ := h
  refine ⟨c, cs, i, l, s, t, by rw [upd_ne (ne_of_none h1 hp)]; exact h1, h2, ?_, h4⟩
  rcases h3 with h3 | ⟨ob, h3⟩
  · exact .inl (by rw [upd_ne (ne_of_none h3 hp)]; exact h3)
  · exact .inr ⟨ob, by rw [upd_ne (ne_of_none h3 hp)]; exact h3⟩
theorem TapeOk.addF (h : TapeOk F H a) (hi : ∀ b, F b → F' b) : TapeOk F' H a := by
  obtain ⟨c, cs, i, l, s, t, h1, h2, h3, h4⟩ := h
  exact ⟨c, cs, i, l, s, t, h1, hi c h2, h3, h4⟩
/-- a new object -/
theorem Dat.upd {o : HO} (h : Dat H a) (hp : H p = none) : Dat (L2.upd H p o) a := by
  obtain ⟨u, e, n⟩ := h
  exact ⟨u, by rw [upd_ne (ne_of_none e hp)]; exact e, n⟩
theorem Stp.new1 {o : HO} (hp : H p = none) : Stp T F H F (L2.upd H p o) where
  inc := fun _ h => h
  new := fun _ h => .inl h
  keep := fun b u e _ => by rw [upd_ne (ne_of_none e hp)]; exact e
  there := fun b h => h.upd hp
  tape := fun b h => h.upd_none hp
  tabs := fun h => tabs_upd h hp
  ftr := fun h a hF => (h a hF).upd hp
/-- .. that lies in F from now on -/
def Fa (F : Addr → Prop) (p : Addr) : Addr → Prop := fun a => F a ∨ a = p
theorem Stp.addF (hp : ¬ Dat H p) (s : Stp T F H F' H') (ht : Dat H' p) : Stp T F H (Fa F' p) H' where
  inc := fun a h => .inl (s.inc a h)
  new := fun a h => by
    rcases h with h | h
    · exact s.new a h
    · rw [h]; exact .inr hp
  keep := s.keep
  there := s.there
  tape := fun a h => (s.tape a h).addF fun _ h => .inl h
  tabs := s.tabs
  ftr := fun h a hF => by
    rcases hF with hF | hF
    · exact s.ftr h a hF
    · rw [hF]; exact ht
theorem Grow.addF : Grow F H (Fa F p) H := ⟨fun _ h => .inl h, fun _ _ _ h _ => h, fun _ _ h => h, fun _ _ _ h => h, fun _ h => h.addF fun _ h => .inl h⟩
theorem TopAt.addF (h : TopAt K F H a d) : TopAt K (Fa F p) H a d := by
  cases d with
  | lst xs => obtain ⟨vs, h, r⟩ := h; exact ⟨vs, h, r.mono Grow.addF⟩
  | dic xs => obtain ⟨vs, h, n, r⟩ := h; exact ⟨vs, h, n, r.mono Grow.addF⟩
  | _ => exact h.elim
theorem SlR.stp (s : Stp T F H F' H') {x : Option V} : {sl : Sl} → SlR K F H x sl → SlR K F' H' x sl
  | .no, _ => trivial
  | .sh _, ⟨v, e, r⟩ => ⟨v, e, r.mono s.grow⟩
  | .ow _, ⟨a, e, r⟩ => ⟨a, e, s.ownAt r⟩
theorem ER.sh_at {σ : Sg} {env : List Sl} {i : Nat} {d : D} (I : ER K T F σ H env) (e : env[i]? = some (.sh d)) : ∃ v, σ[i]? = some (some v) ∧ Rep K F H v d := by
  obtain ⟨x, h1, v, h2, h3⟩ := I.slots i _ e
  exact ⟨v, by rw [h1, h2], h3⟩
theorem ER.ow_at {σ : Sg} {env : List Sl} {i : Nat} {d : D} (I : ER K T F σ H env) (e : env[i]? = some (.ow d)) : ∃ a, σ[i]? = some (some (.ref a)) ∧ OwnAt K F H a d := by
  obtain ⟨x, h1, v, h2, h3⟩ := I.slots i _ e
  exact ⟨v, by rw [h1, h2], h3⟩
theorem ER.own {σ : Sg} {env : List Sl} {i : Nat} (I : ER K T F σ H env) (h : OwnI σ env i a) : ∃ d, env[i]? = some (.ow d) ∧ OwnAt K F H a d := by
  obtain ⟨⟨d, e⟩, h2⟩ := h
  obtain ⟨b, h1, h3⟩ := I.ow_at e
  rw [h1] at h2
  cases h2
  exact ⟨d, e, h3⟩
theorem ER.stp {σ : Sg} {env : List Sl} (I : ER K T F σ H env) (s : Stp T F H F' H') : ER K T F' σ H' env where
  len := I.len
  slots := fun i sl e => by
    obtain ⟨x, h1, h2⟩ := I.slots i sl e
    exact ⟨x, h1, h2.stp s⟩
  nd := I.nd
  nf := fun i a h => by
    obtain ⟨d, _, o⟩ := I.own h
    exact s.notF (I.nf i a h) o.tr
  ftr := s.ftr I.ftr
  tabs := s.tabs I.tabs
end
end DL

-- DL1
set_option Elab.async false
set_option linter.all false
set_option maxRecDepth 100000
set_option maxHeartbeats 4000000
/-! The data layer: expressions. -/
namespace DL
open PySem PySem.Spec PyProof.Rows L2

/-! ### names, told by the kernel -/
def visB (sc : Scope) (x : Str) : Bool := match sc.names.lookup x with
  | some .local => true
  | some .cell => true
  | some .free => true
  | _ => false
def locB (sc : Scope) (x : Str) : Bool := match sc.names.lookup x with
  | some .local => true
  | some .cell => true
  | _ => false
theorem vis_of {sc : Scope} {x : Str} (h : visB sc x = true) : Vis sc x := by
  unfold visB at h
  unfold Vis
  split at h <;> simp_all
theorem loc_of {sc : Scope} {x : Str} (h : locB sc x = true) : L2.Loc sc x := by
  unfold locB at h
  unfold L2.Loc
  split at h <;> simp_all
theorem gl_of {X : Cx} {x : Str} (h : X.env.kindOf x = some .globalImplicit) : Gl X x := h
theorem ne_name {x : Str} (h : (x == "__name__") = false) : x ≠ "__name__" := fun e => by subst e; simp at h
/-! ### the strongest readings -/
@[irreducible] def wpE (X : Cx) (e : Expr) : TE := fun σ H Q => ∀ pins s, Inv X pins σ H s → wpAny (model X.prog X.w) X.A (eval e X.env) (EP X pins σ Q) X.xe s
@[irreducible] def wpT (X : Cx) (e : Expr) : TT := fun σ H Q => ∀ pins s, Inv X pins σ H s → wpAny (model X.prog X.w) X.A (isTrue e X.env (eval e X.env)) (TP X pins σ Q) X.xe s
@[irreducible] def wpW (X : Cx) (e : Expr) : TT := fun σ H Q => ∀ whole pins s, Inv X pins σ H s → wpAny (model X.prog X.w) X.A (isTrue e X.env whole) (TP X pins σ Q) X.xe s
@[irreducible] def wpA (X : Cx) (es : List Expr) : TA := fun σ H Q => ∀ pos pins s, Inv X pins σ H s → wpAny (model X.prog X.w) X.A (spliced (backTo pos (starEach es X.env))) (AP X pins σ Q) X.xe s
@[irreducible] def wpF (X : Cx) (f : Value → Value → Sem Value) : R2 := fun x y H Q => ∀ pins s σ v u, Inv X pins σ H s → RelV x v → RelV y u → wpAny (model X.prog X.w) X.A (f v u) (EP X pins σ Q) X.xe s
theorem pe_wp {X : Cx} {e : Expr} : PE X e (wpE X e) := ⟨fun pins s _ _ _ I h => by unfold wpE at h; exact h pins s I⟩
theorem pt_wp {X : Cx} {e : Expr} : PT X e (wpT X e) := ⟨fun pins s _ _ _ I h => by unfold wpT at h; exact h pins s I⟩
theorem pw_wp {X : Cx} {e : Expr} : PW X e (wpW X e) := ⟨fun wh pins s _ _ _ I h => by unfold wpW at h; exact h wh pins s I⟩
theorem pa_wp {X : Cx} {es : List Expr} : PA X es (wpA X es) := ⟨fun pos pins s _ _ _ I h => by unfold wpA at h; exact h pos pins s I⟩
theorem op_wp {X : Cx} {f : Value → Value → Sem Value} : OpR X f (wpF X f) := fun pins s σ _ _ _ v u _ I a b h => by unfold wpF at h; exact h pins s σ v u I a b
theorem _root_.L2.PE.wp {X : Cx} {e : Expr} {t : TE} (h : PE X e t) {σ : Sg} {H : Hp} {Q : VK} (q : t σ H Q) : wpE X e σ H Q := by unfold wpE; exact fun pins s I => h.run pins s σ H Q I q
theorem _root_.L2.PT.wp {X : Cx} {e : Expr} {t : TT} (h : PT X e t) {σ : Sg} {H : Hp} {Q : Bool → Hp → Prop} (q : t σ H Q) : wpT X e σ H Q := by unfold wpT; exact fun pins s I => h.run pins s σ H Q I q
theorem _root_.L2.PW.wp {X : Cx} {e : Expr} {t : TT} (h : PW X e t) {σ : Sg} {H : Hp} {Q : Bool → Hp → Prop} (q : t σ H Q) : wpW X e σ H Q := by unfold wpW; exact fun wh pins s I => h.run wh pins s σ H Q I q
theorem _root_.L2.PA.wp {X : Cx} {es : List Expr} {t : TA} (h : PA X es t) {σ : Sg} {H : Hp} {Q : List V → Hp → Prop} (q : t σ H Q) : wpA X es σ H Q := by unfold wpA; exact fun pos pins s I => h.run pos pins s σ H Q I q
theorem _root_.L2.OpR.wp {X : Cx} {f : Value → Value → Sem Value} {r : R2} (h : OpR X f r) {x y : V} {H : Hp} {Q : VK} (q : r x y H Q) : wpF X f x y H Q := by unfold wpF; exact fun pins s σ v u I a b => h pins s σ H x y v u Q I a b q

/-! ### what is wanted of a result -/
section
variable (X : Cx) (T : Tb) (W : WX) (F : Addr → Prop) (σ : Sg) (H : Hp)
/-- an exception of the class c -/
def PostX (c : Str) : Prop := ∀ F' C dd H', Stp T F H F' H' → X.mg c = some (.ref C) → W (.ref C) dd σ H'
def PostE (md : Md) (m : R D) (Q : VK) : Prop :=
  match m with
  | .ok d => ∀ F' v H', Stp T F H F' H' → RepM X.K F' H' md H v d → Q v H'
  | .ex c => PostX X T W F σ H c
  | .st => False
def PostT (m : R Bool) (Q : Bool → Hp → Prop) : Prop :=
  match m with
  | .ok b => ∀ F' H', Stp T F H F' H' → Q b H'
  | .ex c => PostX X T W F σ H c
  | .st => False
def PostA (m : R (List D)) (Q : List V → Hp → Prop) : Prop :=
  match m with
  | .ok ds => ∀ F' vs H', Stp T F H F' H' → Reps X.K F' H' vs ds → Q vs H'
  | .ex c => PostX X T W F σ H c
  | .st => False
/-- of a value alone -/
def PostV (md : Md) (o : Option D) (Q : VK) : Prop :=
  match o with
  | some d => ∀ F' v H', Stp T F H F' H' → RepM X.K F' H' md H v d → Q v H'
  | none => False
end
def DE (md : Md) (X : Cx) (T : Tb) (W : WX) (env : List Sl) (e : Expr) (m : R D) : Prop :=
  ∀ F σ H Q, ER X.K T F σ H env → PostE X T W F σ H md m Q → wpE X e σ H Q
def DT (X : Cx) (T : Tb) (W : WX) (env : List Sl) (e : Expr) (m : R Bool) : Prop :=
  ∀ F σ H Q, ER X.K T F σ H env → PostT X T W F σ H m Q → wpT X e σ H Q
def DW (X : Cx) (T : Tb) (W : WX) (env : List Sl) (e : Expr) (m : R Bool) : Prop :=
  ∀ F σ H Q, ER X.K T F σ H env → PostT X T W F σ H m Q → wpW X e σ H Q
structure DA (X : Cx) (T : Tb) (W : WX) (env : List Sl) (es : List Expr) (m : R (List D)) : Prop where
  len : ∀ xs, m = .ok xs → xs.length = es.length
  run : ∀ F σ H Q, ER X.K T F σ H env → PostA X T W F σ H m Q → wpA X es σ H Q

section
variable {X : Cx} {T : Tb} {W : WX} {F F' F1 F2 : Addr → Prop} {σ : Sg} {H H' H1 H2 : Hp} {env : List Sl} {md md1 : Md} {e a b c : Expr} {es : List Expr} {m ma mb mc : R D} {mt mt1 mt2 : R Bool} {mas : R (List D)} {pos : Pos}
theorem PostX.stp {cl : Str} (s : Stp T F H F' H') (h : PostX X T W F σ H cl) : PostX X T W F' σ H' cl := fun F2 C dd H2 s2 hm => h F2 C dd H2 (s.trans s2) hm
theorem RepM.base {K : PySem.W.Frag} {v : V} {d : D} (s : Stp T F H F' H') (r : RepM K F2 H2 md H' v d) : RepM K F2 H2 md H v d := by
  cases md with
  | O => obtain ⟨a, e, n, r⟩ := r; exact ⟨a, e, s.back n, r⟩
  | S => exact r
  | B => exact r
theorem PostE.stp {Q : VK} (s : Stp T F H F' H') (h : PostE X T W F σ H md m Q) : PostE X T W F' σ H' md m Q := by
  cases m with
  | ok d => exact fun F2 v H2 s2 r => h F2 v H2 (s.trans s2) (RepM.base s r)
  | ex c => exact PostX.stp s h
  | st => exact h
theorem PostT.stp {Q : Bool → Hp → Prop} (s : Stp T F H F' H') (h : PostT X T W F σ H mt Q) : PostT X T W F' σ H' mt Q := by
  cases mt with
  | ok d => exact fun F2 H2 s2 => h F2 H2 (s.trans s2)
  | ex c => exact PostX.stp s h
  | st => exact h
theorem PostA.stp {Q : List V → Hp → Prop} (s : Stp T F H F' H') (h : PostA X T W F σ H mas Q) : PostA X T W F' σ H' mas Q := by
  cases mas with
  | ok d => exact fun F2 v H2 s2 r => h F2 v H2 (s.trans s2) r
  | ex c => exact PostX.stp s h
  | st => exact h
/-- weaker modes -/
theorem RepM.toB {K : PySem.W.Frag} {v : V} {d : D} (r : RepM K F H md H1 v d) : Top K F H v d := by
  cases md with
  | O => obtain ⟨a, e, _, _, r⟩ := r; exact .inr ⟨a, e, r.topAt⟩
  | S => exact .inl r
  | B => exact r
theorem DE.toB (h : DE md X T W env e m) : DE .B X T W env e m := fun F σ H Q I q => h F σ H Q I (by
  cases m with
  | ok d => exact fun F' v H' s r => q F' v H' s (RepM.toB r)
  | ex c => exact q
  | st => exact q)
theorem DE.ofO (h : DE .O X T W env e m) : DE .S X T W env e m := fun F σ H Q I q => h F σ H Q I (by
  cases m with
  | ok d =>
    intro F' v H' s r
    obtain ⟨p, ev, h0, nf, o⟩ := r
    subst ev
    exact q (Fa F' p) (.ref p) H' (s.addF h0 o.tr) (o.topAt.addF.rep (.inr rfl))
  | ex c => exact q
  | st => exact q)
/-- one expression, then more -/
theorem runE {α : Type} {Q1 : VK} {f : D → R α} {P : (Addr → Prop) → Hp → R α → Prop} (ha : DE md X T W env a ma) (I : ER X.K T F σ H env)
    (hx : ∀ c, P F H (.ex c) → PostX X T W F σ H c) (hs : P F H .st → False) (hP : ∀ F' H' r, Stp T F H F' H' → P F H r → P F' H' r)
    (h : P F H (ma.bind f)) (k : ∀ d F' v H', Stp T F H F' H' → RepM X.K F' H' md H v d → P F' H' (f d) → Q1 v H') : wpE X a σ H Q1 := by
  refine ha F σ H Q1 I ?_
  cases ma with
  | ok d => exact fun F' v H' s r => k d F' v H' s r (hP F' H' _ s h)
  | ex c => exact hx c h
  | st => exact (hs h).elim
theorem runEE {Q Q1 : VK} {f : D → R D} (ha : DE md X T W env a ma) (I : ER X.K T F σ H env) (h : PostE X T W F σ H md1 (ma.bind f) Q)
    (k : ∀ d F' v H', Stp T F H F' H' → RepM X.K F' H' md H v d → PostE X T W F' σ H' md1 (f d) Q → Q1 v H') : wpE X a σ H Q1 :=
  runE (P := fun F H r => PostE X T W F σ H md1 r Q) ha I (fun _ h => h) (fun h => h) (fun _ _ _ s h => PostE.stp s h) h k
theorem runET {Q1 : VK} {Q : Bool → Hp → Prop} {f : D → R Bool} (ha : DE md X T W env a ma) (I : ER X.K T F σ H env) (h : PostT X T W F σ H (ma.bind f) Q)
    (k : ∀ d F' v H', Stp T F H F' H' → RepM X.K F' H' md H v d → PostT X T W F' σ H' (f d) Q → Q1 v H') : wpE X a σ H Q1 :=
  runE (P := fun F H r => PostT X T W F σ H r Q) ha I (fun _ h => h) (fun h => h) (fun _ _ _ s h => PostT.stp s h) h k
theorem runEA {Q1 : VK} {Q : List V → Hp → Prop} {f : D → R (List D)} (ha : DE md X T W env a ma) (I : ER X.K T F σ H env) (h : PostA X T W F σ H (ma.bind f) Q)
    (k : ∀ d F' v H', Stp T F H F' H' → RepM X.K F' H' md H v d → PostA X T W F' σ H' (f d) Q → Q1 v H') : wpE X a σ H Q1 :=
  runE (P := fun F H r => PostA X T W F σ H r Q) ha I (fun _ h => h) (fun h => h) (fun _ _ _ s h => PostA.stp s h) h k
theorem runAE {Q : VK} {Q1 : List V → Hp → Prop} {f : List D → R D} (ha : DA X T W env es mas) (I : ER X.K T F σ H env) (h : PostE X T W F σ H md (mas.bind f) Q)
    (k : ∀ ds F' vs H', Stp T F H F' H' → Reps X.K F' H' vs ds → PostE X T W F' σ H' md (f ds) Q → Q1 vs H') : wpA X es σ H Q1 := by
  refine ha.run F σ H Q1 I ?_
  cases mas with
  | ok d => exact fun F' v H' s r => k d F' v H' s r (PostE.stp s h)
  | ex c => exact h
  | st => exact h.elim
theorem runTE {Q : VK} {Q1 : Bool → Hp → Prop} {f : Bool → R D} (ha : DT X T W env c mt) (I : ER X.K T F σ H env) (h : PostE X T W F σ H md (mt.bind f) Q)
    (k : ∀ b F' H', Stp T F H F' H' → PostE X T W F' σ H' md (f b) Q → Q1 b H') : wpT X c σ H Q1 := by
  refine ha F σ H Q1 I ?_
  cases mt with
  | ok d => exact fun F' H' s => k d F' H' s (PostE.stp s h)
  | ex c => exact h
  | st => exact h.elim
theorem runTT {Q Q1 : Bool → Hp → Prop} {f : Bool → R Bool} (ha : DT X T W env c mt) (I : ER X.K T F σ H env) (h : PostT X T W F σ H (mt.bind f) Q)
    (k : ∀ b F' H', Stp T F H F' H' → PostT X T W F' σ H' (f b) Q → Q1 b H') : wpT X c σ H Q1 := by
  refine ha F σ H Q1 I ?_
  cases mt with
  | ok d => exact fun F' H' s => k d F' H' s (PostT.stp s h)
  | ex c => exact h
  | st => exact h.elim
theorem PostE.lift {o : Option D} {Q : VK} (h : PostE X T W F σ H md (R.lift o) Q) : PostV X T F H md o Q := by
  cases o with
  | some d => exact h
  | none => exact h

/-! ### names, constants -/
theorem de_v {i : Nat} {x : Str} {d : D} (he : env[i]? = some (.sh d)) (hN : X.N[i]? = some x := by kernel_rfl) (hv : Vis X.env.scope x := by exact vis_of (by kernel_rfl))
    (hd : (x == ("__debug__" : Str)) = false := by kernel_rfl) (hcd : (x == ("__classdict__" : Str)) = false := by kernel_rfl) : DE .S X T W env (.Name x pos) (.ok d) := fun F σ H Q I q => by
  obtain ⟨v, e1, r⟩ := I.sh_at he
  exact (pe_var (pos := pos) hN hv hd hcd).wp ⟨v, e1, q F v H .refl r⟩
theorem de_vo {i : Nat} {x : Str} {d : D} (he : env[i]? = some (.ow d)) (hN : X.N[i]? = some x := by kernel_rfl) (hv : Vis X.env.scope x := by exact vis_of (by kernel_rfl))
    (hd : (x == ("__debug__" : Str)) = false := by kernel_rfl) (hcd : (x == ("__classdict__" : Str)) = false := by kernel_rfl) : DE .B X T W env (.Name x pos) (.ok d) := fun F σ H Q I q => by
  obtain ⟨a, e1, r⟩ := I.ow_at he
  exact (pe_var (pos := pos) hN hv hd hcd).wp ⟨.ref a, e1, q F (.ref a) H .refl (.inr ⟨a, rfl, r.topAt⟩)⟩
theorem de_int {i : Int} {j : Nat} : DE .S X T W env (.Constant (.int i) j pos) (.ok (.int i)) := fun F σ H Q I q => pe_int.wp (q F _ H .refl (.int i))
theorem de_bl {i : Bool} {j : Nat} : DE .S X T W env (.Constant (.bool i) j pos) (.ok (.bl i)) := fun F σ H Q I q => pe_bl.wp (q F _ H .refl (.bl i))
theorem de_non {j : Nat} : DE .S X T W env (.Constant .none j pos) (.ok .non) := fun F σ H Q I q => pe_non.wp (q F _ H .refl .non)
def okcB (s : List Nat) : Bool := s.all fun c => decide (c < 0x110000)
theorem okc_of {s : List Nat} (h : okcB s = true) : Okc s := fun c hc => of_decide_eq_true (List.all_eq_true.mp h c hc)
theorem de_str {x : Str} {s : List Nat} {j : Nat} (he : x = SS s := by kernel_rfl) (ho : okcB s = true := by kernel_rfl) : DE .S X T W env (.Constant (.str x) j pos) (.ok (.str s)) := fun F σ H Q I q => by
  subst he
  exact pe_str.wp (q F _ H .refl (.str s (okc_of ho)))
/-- a name of the module whose value is data of the written part -/
def KRep (K : PySem.W.Frag) (v : V) (d : D) : Prop := ∀ F H, Rep K F H v d
theorem de_glob {x : Str} {u : Value} {v : V} {d : D} (hm : X.mg x = some u) (r : RelV v u) (k : KRep X.K v d) (hg : Gl X x := by exact gl_of (by kernel_rfl)) (hd : (x == ("__debug__" : Str)) = false := by kernel_rfl) : DE .S X T W env (.Name x pos) (.ok d) :=
  fun F σ H Q I q => (pe_glob (pos := pos) hg hm r hd).wp (q F v H .refl (k F H))

/-! ### operators -/
/-- an operator on data -/
structure OpD (md : Md) (X : Cx) (T : Tb) (f : Value → Value → Sem Value) (g : D → D → Option D) : Prop where
  run : ∀ F H vx vy x y Q, Top X.K F H vx x → Top X.K F H vy y → PostV X T F H md (g x y) Q → wpF X f vx vy H Q
theorem de_op {op : Operator} {g : D → D → Option D} (ho : OpD md X T (binaryOp op) g) (ha : DE .B X T W env a ma) (hb : DE .B X T W env b mb) :
    DE md X T W env (.BinOp a op b pos) (ma.bind fun x => mb.bind fun y => R.lift (g x y)) := fun F σ H Q I q => by
  refine (pe_op (pos := pos) (op_wp (X := X) (f := binaryOp op)) pe_wp pe_wp).wp ?_
  refine runEE ha I q fun x F1 vx H1 s1 rx q1 => ?_
  refine runEE hb (I.stp s1) q1 fun y F2 vy H2 s2 ry q2 => ?_
  exact ho.run F2 H2 vx vy x y Q (s2.top rx) ry q2.lift
theorem de_cmp {op : CmpOp} {g : D → D → Option Bool} (ho : OpD .S X T (compareOp op) fun x y => (g x y).map D.bl) (ha : DE .B X T W env a ma) (hb : DE .B X T W env b mb) (hm : behindInMarks op b = false := by first | exact nomark _ | rfl) :
    DE .S X T W env (.Compare a [op] [b] pos) (ma.bind fun x => mb.bind fun y => R.lift ((g x y).map D.bl)) := fun F σ H Q I q => by
  refine (pe_cmpR (pos := pos) (op_wp (X := X) (f := compareOp op)) pe_wp pe_wp hm).wp ?_
  refine runEE ha I q fun x F1 vx H1 s1 rx q1 => ?_
  refine runEE hb (I.stp s1) q1 fun y F2 vy H2 s2 ry q2 => ?_
  exact ho.run F2 H2 vx vy x y Q (s2.top rx) ry q2.lift
theorem dt_cmp {op : CmpOp} {g : D → D → Option Bool} (ho : OpD .S X T (compareOp op) fun x y => (g x y).map D.bl) (ha : DE .B X T W env a ma) (hb : DE .B X T W env b mb) (hm : behindInMarks op b = false := by first | exact nomark _ | rfl) :
    DT X T W env (.Compare a [op] [b] pos) (ma.bind fun x => mb.bind fun y => R.lift (g x y)) := fun F σ H Q I q => by
  refine (pt_cmpR (pos := pos) (op_wp (X := X) (f := compareOp op)) pe_wp pe_wp hm).wp ?_
  refine runET ha I q fun x F1 vx H1 s1 rx q1 => ?_
  refine runET hb (I.stp s1) q1 fun y F2 vy H2 s2 ry q2 => ?_
  refine ho.run F2 H2 vx vy x y _ (s2.top rx) ry ?_
  revert q2
  cases g x y with
  | none => exact fun q2 => q2
  | some k =>
    intro q2 F3 v H3 s3 r
    cases r
    exact ⟨k, rfl, q2 F3 H3 s3⟩
/-- a < b < c -/
theorem dt_chain {op op' : CmpOp} {g g' : D → D → Option Bool} {c : Expr} (ho : OpD .S X T (compareOp op) fun x y => (g x y).map D.bl) (ho' : OpD .S X T (compareOp op') fun x y => (g' x y).map D.bl) (ha : DE .B X T W env a ma) (hb : DE .B X T W env b mb) (hc : DE .B X T W env c mc)
    (hp : PT X (.Compare a [op, op'] [b, c] pos) (tTest (tChain (wpF X (compareOp op)) (wpF X (compareOp op')) (wpE X a) (wpE X b) (wpE X c))) := by exact pt_chain op_wp op_wp pe_wp pe_wp pe_wp) :
    DT X T W env (.Compare a [op, op'] [b, c] pos) (ma.bind fun x => mb.bind fun y => (R.lift (g x y)).bind fun k => if k = true then mc.bind fun z => R.lift (g' y z) else .ok false) := fun F σ H Q I q => by
  refine hp.wp ?_
  refine runET ha I q fun x F1 vx H1 s1 rx q1 => ?_
  refine runET hb (I.stp s1) q1 fun y F2 vy H2 s2 ry q2 => ?_
  refine ho.run F2 H2 vx vy x y _ (s2.top rx) ry ?_
  revert q2
  cases g x y with
  | none => exact fun q2 => q2
  | some k =>
    intro q2 F3 v H3 s3 r
    cases r
    have q3 := PostT.stp s3 q2
    refine ⟨k, rfl, ?_⟩
    cases k with
    | false => exact ⟨false, rfl, q3 F3 H3 .refl⟩
    | true =>
      refine runET hc (((I.stp s1).stp s2).stp s3) q3 fun z F4 vz H4 s4 rz q4 => ?_
      refine ho'.run F4 H4 vy vz y z _ (s4.top (s3.top ry)) rz ?_
      revert q4
      cases g' y z with
      | none => exact fun q4 => q4
      | some k2 =>
        intro q4 F5 v H5 s5 r
        cases r
        exact ⟨k2, rfl, q4 F5 H5 s5⟩

/-! ### tests -/
/-- a value's truth -/
def truD : D → Option Bool
  | .non => some false
  | .bl b => some b
  | .int i => some (i != 0)
  | .str s => if s.length ≤ sizeLine then some (!s.isEmpty) else none
  | .tup xs => some (!xs.isEmpty)
  | .lst xs => some (!xs.isEmpty)
  | .dic _ => none
  | .ins _ _ => none
  | .tape => none
theorem isEmpty_reps {K : PySem.W.Frag} {vs : List V} {ds : List D} (r : Reps K F H vs ds) : (!vs.isEmpty) = !ds.isEmpty := by cases r <;> rfl
theorem tru_rep {K : PySem.W.Frag} {v : V} {d : D} {k : Bool} (r : Top K F H v d) (e : truD d = some k) : TruV K v H k := by
  rcases r with r | ⟨p, rfl, r⟩
  · cases r with
    | non => cases e; rfl
    | bl b => cases e; rfl
    | int i => cases e; rfl
    | str s hs =>
      have e' : (if s.length ≤ sizeLine then some (!s.isEmpty) else none) = some k := e
      by_cases hl : s.length ≤ sizeLine
      · rw [if_pos hl] at e'
        cases e'
        refine ⟨by simpa [SS, Str.length] using hl, ?_⟩
        cases s with
        | nil => rfl
        | cons a s =>
          have : (SS (a :: s)).length = s.length + 1 := by simp [SS, Str.length]
          rw [this]
          exact (bne_iff_ne.mpr (by omega)).symm
      · rw [if_neg hl] at e'
        cases e'
    | tup h hs => cases e; exact .inr (.inl ⟨_, h, (isEmpty_reps hs).symm⟩)
    | lst hF h hs => cases e; exact .inl ⟨_, .inl h, (isEmpty_reps hs).symm⟩
    | dic hF h n hs => cases e
    | tape h => cases e
  · cases d with
    | lst xs =>
      obtain ⟨vs, h, hs⟩ := r
      cases e
      exact .inl ⟨_, .inl h, (isEmpty_reps hs).symm⟩
    | dic xs => cases e
    | _ => exact r.elim
theorem dt_tru (ha : DE .B X T W env a ma) (he : ∀ whole, isTrue a X.env whole = (do let v ← whole; standAt a.pos; holding [v] (truthy v)) := by intro _; kernel_rfl) :
    DT X T W env a (ma.bind fun x => R.lift (truD x)) := fun F σ H Q I q => by
  refine (pt_truth pe_wp he).wp ?_
  refine runET ha I q fun x F1 vx H1 s1 rx q1 => ?_
  revert q1
  cases e : truD x with
  | none => exact fun q1 => q1.elim
  | some k => exact fun q1 => ⟨k, tru_rep rx e, q1 F1 H1 .refl⟩
theorem dt_not (ha : DT X T W env a mt) : DT X T W env (.UnaryOp .Not a pos) (mt.bind fun k => .ok (!k)) := fun F σ H Q I q => by
  refine (pt_not (pos := pos) pt_wp).wp ?_
  exact runTT ha I q fun k F1 H1 s1 q1 => q1 F1 H1 .refl
theorem dw_and1 (ha : DT X T W env a mt) : DW X T W env (.BoolOp .And [a] pos) mt := fun F σ H Q I q => (pw_and1 (pos := pos) pt_wp).wp (ha F σ H Q I q)
theorem dw_or1 (ha : DT X T W env a mt) : DW X T W env (.BoolOp .Or [a] pos) mt := fun F σ H Q I q => (pw_or1 (pos := pos) pt_wp).wp (ha F σ H Q I q)
theorem dw_and {es : List Expr} (ha : DT X T W env a mt1) (hb : DW X T W env (.BoolOp .And (b :: es) pos) mt2) : DW X T W env (.BoolOp .And (a :: b :: es) pos) (mt1.bind fun k => if k = true then mt2 else .ok false) := fun F σ H Q I q => by
  refine (pw_and (pos := pos) pt_wp pw_wp).wp ?_
  refine runTT ha I q fun k F1 H1 s1 q1 => ?_
  cases k with
  | true => exact hb F1 σ H1 Q (I.stp s1) q1
  | false => exact q1 F1 H1 .refl
theorem dw_or {es : List Expr} (ha : DT X T W env a mt1) (hb : DW X T W env (.BoolOp .Or (b :: es) pos) mt2) : DW X T W env (.BoolOp .Or (a :: b :: es) pos) (mt1.bind fun k => if k = true then .ok true else mt2) := fun F σ H Q I q => by
  refine (pw_or (pos := pos) pt_wp pw_wp).wp ?_
  refine runTT ha I q fun k F1 H1 s1 q1 => ?_
  cases k with
  | false => exact hb F1 σ H1 Q (I.stp s1) q1
  | true => exact q1 F1 H1 .refl
theorem dt_w (h : DW X T W env e mt) : DT X T W env e mt := fun F σ H Q I q => by
  unfold wpT
  intro pins s Iv
  have z := h F σ H Q I q
  unfold wpW at z
  exact z _ pins s Iv
/-- a value that is told to be a bool -/
def blD : D → Option Bool
  | .bl b => some b
  | _ => none
theorem de_not (ha : DT X T W env a mt) (hn : isTrue a X.env (eval a X.env) = isTrue a X.env (eval a X.env) := by kernel_rfl) (hp : PE X (.UnaryOp .Not a pos) (fun σ H Q => wpT X a σ H fun k H1 => Q (.bl (!k)) H1)) : DE .S X T W env (.UnaryOp .Not a pos) (mt.bind fun k => .ok (.bl (!k))) := fun F σ H Q I q => by
  refine hp.wp ?_
  exact runTE ha I q fun k F1 H1 s1 q1 => q1 F1 _ H1 .refl (.bl _)
theorem de_if (hc : DT X T W env c mt) (ha : DE md X T W env a ma) (hb : DE md X T W env b mb) : DE md X T W env (.IfExp c a b pos) (mt.bind fun k => if k = true then ma else mb) := fun F σ H Q I q => by
  refine (pe_ifExp (pos := pos) pt_wp pe_wp pe_wp).wp ?_
  refine runTE hc I q fun k F1 H1 s1 q1 => ?_
  cases k with
  | true => exact ha F1 σ H1 Q (I.stp s1) q1
  | false => exact hb F1 σ H1 Q (I.stp s1) q1
/-! ### lists of expressions, displays -/
theorem da_nil : DA X T W env [] (.ok []) := ⟨fun xs e => by cases e; rfl, fun F σ H Q I q => pa_nil.wp (q F [] H .refl .nil)⟩
theorem da_cons {es : List Expr} (ha : DE .S X T W env a ma) (hr : DA X T W env es mas) (hs : starEach (a :: es) X.env = (false, eval a X.env) :: starEach es X.env := by kernel_rfl) :
    DA X T W env (a :: es) (ma.bind fun x => mas.bind fun xs => .ok (x :: xs)) := by
  refine ⟨fun zs e => ?_, fun F σ H Q I q => ?_⟩
  · cases ma with
    | ok x =>
      cases mas with
      | ok xs => cases e; rw [List.length_cons, List.length_cons, hr.len xs rfl]
      | ex c => cases e
      | st => cases e
    | ex c => cases e
    | st => cases e
  refine (pa_cons pe_wp pa_wp hs).wp ?_
  refine runEA ha I q fun x F1 vx H1 s1 rx q1 => ?_
  refine hr.run F1 σ H1 _ (I.stp s1) ?_
  revert q1
  cases mas with
  | ok xs => exact fun q1 F2 vs H2 s2 r => q1 F2 (vx :: vs) H2 s2 (.cons (Rep.mono s2.grow rx) r)
  | ex c => exact fun q1 => q1
  | st => exact fun q1 => q1
theorem small_line {n : Nat} (h : n ≤ 100000) : n ≤ sizeLine := Nat.le_trans h (by decide)
theorem de_tup {k : Nat} (h : DA X T W env es mas) (hl : es.length ≤ 100000 := by decide) : DE .S X T W env (.Tuple es k pos) (mas.bind fun xs => .ok (.tup xs)) := fun F σ H Q I q => by
  refine (pe_tup (pos := pos) (x1 := k) pa_wp).wp ?_
  have hk := h.len
  cases mas with
  | ok ds =>
    refine h.run F σ H _ I fun F1 vs H1 s1 r => ⟨by rw [r.length, hk ds rfl]; exact small_line hl, fun p hp => ?_⟩
    exact q F1 (.ref p) _ (s1.trans (.new1 hp)) (.tup (.inl (.inl upd_same)) (r.mono (Stp.new1 (T := T) hp).grow))
  | ex c => exact h.run F σ H _ I q
  | st => exact q.elim
theorem de_lst (h : DA X T W env es mas) (hl : es.length ≤ 100000 := by decide) : DE .O X T W env (.List es pos) (mas.bind fun xs => .ok (.lst xs)) := fun F σ H Q I q => by
  refine (pe_lst (pos := pos) pa_wp).wp ?_
  have hk := h.len
  cases mas with
  | ok ds =>
    refine h.run F σ H _ I fun F1 vs H1 s1 r => ⟨by rw [r.length, hk ds rfl]; exact small_line hl, fun p hp => ?_⟩
    refine q F1 (.ref p) _ (s1.trans (.new1 hp)) ⟨p, rfl, s1.back (nd_none hp), fun hF => ?_, ⟨vs, upd_same, r.mono (Stp.new1 (T := T) hp).grow⟩⟩
    exact (s1.ftr I.ftr p hF).ne hp
  | ex c => exact h.run F σ H _ I q
  | st => exact q.elim
end
end DL

-- DL2
set_option Elab.async false
set_option linter.all false
set_option maxRecDepth 100000
set_option maxHeartbeats 4000000
/-! The data layer: operators, subscripts, slices, built-in functions. -/
namespace DL
open PySem PySem.Spec PyProof.Rows L2

section
variable {K : PySem.W.Frag} {T : Tb} {F F' : Addr → Prop} {H H' : Hp} {v : V} {p : Addr}
theorem top_int {i : Int} (h : Top K F H v (.int i)) : v = .int i := by
  rcases h with h | ⟨a, _, h⟩
  · cases h; rfl
  · exact h.elim
theorem top_bl {i : Bool} (h : Top K F H v (.bl i)) : v = .bl i := by
  rcases h with h | ⟨a, _, h⟩
  · cases h; rfl
  · exact h.elim
theorem top_non (h : Top K F H v .non) : v = .non := by
  rcases h with h | ⟨a, _, h⟩
  · cases h; rfl
  · exact h.elim
theorem top_str {s : List Nat} (h : Top K F H v (.str s)) : v = .str (SS s) ∧ Okc s := by
  rcases h with h | ⟨a, _, h⟩
  · cases h; exact ⟨rfl, by assumption⟩
  · exact h.elim
theorem top_tup {xs : List D} (h : Top K F H v (.tup xs)) : ∃ a vs, v = .ref a ∧ SqT K H a vs ∧ Reps K F H vs xs := by
  rcases h with h | ⟨a, _, h⟩
  · cases h; exact ⟨_, _, rfl, by assumption, by assumption⟩
  · exact h.elim
theorem top_lst {xs : List D} (h : Top K F H v (.lst xs)) : ∃ a vs, v = .ref a ∧ Rd H a (.lst vs) ∧ Reps K F H vs xs := by
  rcases h with h | ⟨a, e, h⟩
  · cases h; exact ⟨_, _, rfl, by assumption, by assumption⟩
  · obtain ⟨vs, h1, h2⟩ := h; exact ⟨a, vs, e, h1, h2⟩
theorem top_dic {xs : List (Sum Int (List Nat) × D)} (h : Top K F H v (.dic xs)) : ∃ a vs, v = .ref a ∧ Rd H a (.dK vs) ∧ RepKs K F H vs xs := by
  rcases h with h | ⟨a, e, h⟩
  · cases h; exact ⟨_, _, rfl, by assumption, by assumption⟩
  · obtain ⟨vs, h1, _, h2⟩ := h; exact ⟨a, vs, e, h1, h2⟩
/-- a new list, tuple as data -/
theorem newL {vs : List V} {xs : List D} (hp : H p = none) (r : Reps K F H vs xs) : Stp T F H (Fa F p) (upd H p (.lst vs)) ∧ Rep K (Fa F p) (upd H p (.lst vs)) (.ref p) (.lst xs) := by
  have s := Stp.addF (nd_none hp) (Stp.new1 (T := T) (F := F) (o := .lst vs) hp) ⟨_, upd_same, fun _ z => by cases z⟩
  exact ⟨s, .lst (.inr rfl) (.inl upd_same) (r.mono s.grow)⟩
theorem newT {vs : List V} {xs : List D} (hp : H p = none) (r : Reps K F H vs xs) : Stp T F H F (upd H p (.tup vs)) ∧ Rep K F (upd H p (.tup vs)) (.ref p) (.tup xs) := by
  have s := Stp.new1 (T := T) (F := F) (o := .tup vs) hp
  exact ⟨s, .tup (.inl (.inl upd_same)) (r.mono s.grow)⟩
/-- .. a list of one's own -/
theorem newO {vs : List V} {xs : List D} (hp : H p = none) (hf : ∀ a, F a → Dat H a) (r : Reps K F H vs xs) : Stp T F H F (upd H p (.lst vs)) ∧ RepM K F (upd H p (.lst vs)) .O H (.ref p) (.lst xs) := by
  have s := Stp.new1 (T := T) (F := F) (o := .lst vs) hp
  exact ⟨s, p, rfl, nd_none hp, fun h => (hf p h).ne hp, vs, upd_same, r.mono s.grow⟩
end

/-! ### sizes of numbers -/
def lim : Nat := 60000000
@[irreducible] def Small (i : Int) : Prop := i.natAbs < 2 ^ lim
theorem Small.lt {i : Int} (h : Small i) : i.natAbs < 2 ^ lim := by unfold Small at h; exact h
theorem small_of {i : Int} (k : Nat) (h : i.natAbs < 2 ^ k) (hk : k ≤ 60000000) : Small i := by
  unfold Small
  exact Nat.lt_of_lt_of_le h (Nat.pow_le_pow_right (by decide) hk)
open Classical in
noncomputable instance (p : Prop) : Decidable (PLift.{0} p → False) := propDecidable _
/-- a test that is never computed -/
noncomputable def chk (p : Prop) : Bool := @decide p (Classical.propDecidable p)
@[simp] theorem chk_true {p : Prop} : chk p = true ↔ p := by unfold chk; exact @decide_eq_true_iff p (Classical.propDecidable p)
theorem chk_of {p : Prop} (h : p) : chk p = true := chk_true.mpr h

/-! ### operators on data -/
noncomputable def addD : D → D → Option D
  | .int i, .int j => some (.int (i + j))
  | .str a, .str b => if a.length + b.length ≤ sizeLine then some (.str (a ++ b)) else none
  | .lst a, .lst b => if a.length + b.length ≤ sizeLine then some (.lst (a ++ b)) else none
  | .tup a, .tup b => if a.length + b.length ≤ sizeLine then some (.tup (a ++ b)) else none
  | _, _ => none
def subD : D → D → Option D
  | .int i, .int j => some (.int (i - j))
  | _, _ => none
noncomputable def mulD : D → D → Option D
  | .int i, .int j => if chk (Small i ∧ Small j) then some (.int (i * j)) else none
  | .str a, .int k => if 0 ≤ k ∧ a.length * k.toNat ≤ sizeLine ∧ k < 2 ^ 63 then some (.str (List.replicate k.toNat a).flatten) else none
  | .lst a, .int k => if -(2 ^ 63) ≤ k ∧ k < 2 ^ 63 ∧ a.length * k.toNat ≤ sizeLine then some (.lst (List.replicate k.toNat a).flatten) else none
  | _, _ => none
noncomputable def fdivD : D → D → Option D
  | .int i, .int j => if chk (0 < j ∧ j.natAbs < 2 ^ 9000) then some (.int (i / j)) else none
  | _, _ => none
def modD : D → D → Option D
  | .int i, .int j => if 0 < j then some (.int (i % j)) else none
  | _, _ => none
noncomputable def powD : D → D → Option D
  | .int i, .int j => if chk (0 ≤ j ∧ j ≤ 1000000 ∧ i.natAbs < 2 ^ 64) then some (.int (i ^ j.toNat)) else none
  | _, _ => none
noncomputable def shlD : D → D → Option D
  | .int i, .int j => if chk (0 ≤ j ∧ j ≤ 1000000 ∧ Small i) then some (.int (i * 2 ^ j.toNat)) else none
  | _, _ => none
def shrD : D → D → Option D
  | .int i, .int j => if 0 ≤ j then some (.int (i / 2 ^ j.toNat)) else none
  | _, _ => none
def andD : D → D → Option D
  | .int i, .int j => some (.int (Builtin.bitAnd i j))
  | _, _ => none
def orD : D → D → Option D
  | .int i, .int j => some (.int (Builtin.bitOr i j))
  | _, _ => none
def xorD : D → D → Option D
  | .int i, .int j => some (.int (Builtin.bitXor i j))
  | _, _ => none
/-- order -/
def cmpI (f : Int → Int → Bool) : D → D → Option Bool
  | .int i, .int j => some (f i j)
  | _, _ => none
def ltD : D → D → Option Bool
  | .int i, .int j => some (decide (i < j))
  | .str a, .str b => some (decide (a < b))
  | _, _ => none
def leD : D → D → Option Bool
  | .int i, .int j => some (decide (i ≤ j))
  | .str a, .str b => some (!decide (b < a))
  | _, _ => none
def gtD (x y : D) : Option Bool := ltD y x
def geD (x y : D) : Option Bool := leD y x

mutual
def eqv : D → D → Bool
  | .non, .non => true
  | .bl a, .bl b => a == b
  | .bl a, .int j => (if a then 1 else 0) == j
  | .int i, .bl b => i == (if b then 1 else 0)
  | .int i, .int j => i == j
  | .str x, .str y => x == y
  | .lst xs, .lst ys => eqvs xs ys
  | .tup xs, .tup ys => eqvs xs ys
  | _, _ => false
def eqvs : List D → List D → Bool
  | [], [] => true
  | x :: xs, y :: ys => eqv x y && eqvs xs ys
  | _, _ => false
end
mutual
/-- no dicts, nested to a depth of at most n -/
def shal : Nat → D → Bool
  | _, .non => true
  | _, .bl _ => true
  | _, .int _ => true
  | _, .str _ => true
  | n + 1, .tup xs => shals n xs
  | n + 1, .lst xs => shals n xs
  | _, _ => false
def shals : Nat → List D → Bool
  | _, [] => true
  | n, x :: xs => shal n x && shals n xs
end
/-- scalars -/
def scalD : D → Bool
  | .non => true
  | .bl _ => true
  | .int _ => true
  | .str _ => true
  | _ => false
def eqD (x y : D) : Option Bool := if shal 60 x && shal 60 y then some (eqv x y) else none
def neD (x y : D) : Option Bool := (eqD x y).map (!·)
def isD : D → D → Option Bool
  | .non, .non => some true
  | _, .non => some false
  | _, _ => none
def isNotD (x y : D) : Option Bool := (isD x y).map (!·)

/-! .. stand for the library's -/
mutual
def toPy : D → PyData
  | .non => .none
  | .bl b => .bool b
  | .int i => .int i
  | .str s => .str (SS s)
  | .tup xs => .tuple (toPys xs)
  | .lst xs => .list (toPys xs)
  | .dic _ => .dict []
  | .ins _ _ => .dict []
  | .tape => .dict []
def toPys : List D → List PyData
  | [] => []
  | x :: xs => toPy x :: toPys xs
end
theorem SS_inj {a b : List Nat} (h : SS a = SS b) : a = b := by
  have := congrArg (fun s : Str => s.cps.toList) h
  simpa [SS] using this
theorem SS_beq (a b : List Nat) : (SS a == SS b) = (a == b) := by
  by_cases e : a = b
  · subst e; simp
  · rw [beq_eq_false_iff_ne.mpr e]; exact beq_eq_false_iff_ne.mpr fun h => e (SS_inj h)
mutual
theorem eqv_py : ∀ (n : Nat) (d e : D), shal n d = true → PyData.eqv (toPy d) (toPy e) = eqv d e
  | n, .non, e, h => by cases e <;> rfl
  | n, .bl b, e, h => by cases e <;> rfl
  | n, .int i, e, h => by cases e <;> rfl
  | n, .str s, e, h => by cases e <;> first | rfl | exact SS_beq _ _
  | n + 1, .tup xs, e, h => by cases e <;> first | rfl | exact eqvs_py n xs _ h
  | n + 1, .lst xs, e, h => by cases e <;> first | rfl | exact eqvs_py n xs _ h
  | 0, .tup xs, e, h => by simp [shal] at h
  | 0, .lst xs, e, h => by simp [shal] at h
  | n, .dic xs, e, h => by cases n <;> simp [shal] at h
  | n, .ins _ _, e, h => by cases n <;> simp [shal] at h
  | n, .tape, e, h => by cases n <;> simp [shal] at h
theorem eqvs_py : ∀ (n : Nat) (xs ys : List D), shals n xs = true → PyData.eqvAll (toPys xs) (toPys ys) = eqvs xs ys
  | n, [], ys, h => by cases ys <;> rfl
  | n, x :: xs, [], h => rfl
  | n, x :: xs, y :: ys, h => by
    have h' : shal n x = true ∧ shals n xs = true := by simpa [shals] using h
    show (PyData.eqv (toPy x) (toPy y) && PyData.eqvAll (toPys xs) (toPys ys)) = _
    rw [eqv_py n x y h'.1, eqvs_py n xs ys h'.2]
    rfl
end
mutual
theorem shal_depth : ∀ (n : Nat) (d : D), shal n d = true → (toPy d).depth ≤ n
  | n, .non, h => Nat.zero_le _
  | n, .bl b, h => Nat.zero_le _
  | n, .int i, h => Nat.zero_le _
  | n, .str s, h => Nat.zero_le _
  | n + 1, .tup xs, h => Nat.succ_le_succ (shals_depth n xs h)
  | n + 1, .lst xs, h => Nat.succ_le_succ (shals_depth n xs h)
  | 0, .tup xs, h => by simp [shal] at h
  | 0, .lst xs, h => by simp [shal] at h
  | n, .dic xs, h => by cases n <;> simp [shal] at h
  | n, .ins _ _, h => by cases n <;> simp [shal] at h
  | n, .tape, h => by cases n <;> simp [shal] at h
theorem shals_depth : ∀ (n : Nat) (xs : List D), shals n xs = true → PyData.depthAll (toPys xs) ≤ n
  | n, [], h => Nat.zero_le _
  | n, x :: xs, h => by
    have h' : shal n x = true ∧ shals n xs = true := by simpa [shals] using h
    exact Nat.max_le.mpr ⟨shal_depth n x h'.1, shals_depth n xs h'.2⟩
end
section
variable {K : PySem.W.Frag} {F : Addr → Prop} {H : Hp}
mutual
theorem rep_dp : ∀ (n : Nat) {v : V} {d : D}, Rep K F H v d → shal n d = true → Dp K H v (toPy d) ∧ (toPy d).canLay0 = true
  | n, _, _, .non, h => ⟨.non, rfl⟩
  | n, _, _, .bl b, h => ⟨.bl b, rfl⟩
  | n, _, _, .int i, h => ⟨.int i, rfl⟩
  | n, _, _, .str s ho, h => by
    refine ⟨.str _, ?_⟩
    show PyData.strOk (SS s) = true
    unfold PyData.strOk
    simp only [SS]
    rw [List.all_toArray, List.all_eq_true]
    exact fun c hc => decide_eq_true (ho c hc)
  | 0, _, .tup xs, .tup a b, h => by simp [shal] at h
  | 0, _, .lst xs, .lst a b c, h => by simp [shal] at h
  | n + 1, _, .tup xs, .tup a b, h => by
    obtain ⟨h1, h2⟩ := reps_dp n b h
    exact ⟨.tup a h1, h2⟩
  | n + 1, _, .lst xs, .lst a b c, h => by
    obtain ⟨h1, h2⟩ := reps_dp n c h
    exact ⟨.lst (.inl b) h1, h2⟩
  | n, _, .dic xs, .dic a b z c, h => by cases n <;> simp [shal] at h
  | n, _, .tape, .tape a, h => by cases n <;> simp [shal] at h
theorem reps_dp : ∀ (n : Nat) {vs : List V} {ds : List D}, Reps K F H vs ds → shals n ds = true → DpAll K H vs (toPys ds) ∧ PyData.canLayAll0 (toPys ds) = true
  | n, _, _, .nil, h => ⟨.nil, rfl⟩
  | n, _, x :: xs, .cons a b, h => by
    have h' : shal n x = true ∧ shals n xs = true := by simpa [shals] using h
    obtain ⟨h1, h2⟩ := rep_dp n a h'.1
    obtain ⟨h3, h4⟩ := reps_dp n b h'.2
    refine ⟨.cons h1 h3, ?_⟩
    show ((toPy x).canLay0 && PyData.canLayAll0 (toPys xs)) = true
    rw [h2, h4]
    rfl
end
theorem top_dp {n : Nat} {v : V} {d : D} (h : Top K F H v d) (hs : shal n d = true) : Dp K H v (toPy d) ∧ (toPy d).canLay0 = true := by
  rcases h with h | ⟨a, rfl, h⟩
  · exact rep_dp n h hs
  · cases d with
    | lst xs =>
      obtain ⟨vs, h1, h2⟩ := h
      cases n with
      | zero => simp [shal] at hs
      | succ n =>
        obtain ⟨h3, h4⟩ := reps_dp n h2 hs
        exact ⟨.lst (.inl h1) h3, h4⟩
    | dic xs => cases n <;> simp [shal] at hs
    | _ => exact h.elim
theorem top_shaped {v : V} {d : D} (h : Top K F H v d) (hs : shal 60 d = true) : Dp K H v (toPy d) ∧ SeqAt.shaped (toPy d) = true := by
  obtain ⟨h1, h2⟩ := top_dp h hs
  refine ⟨h1, ?_⟩
  unfold SeqAt.shaped
  rw [h2, decide_eq_true (Nat.le_trans (shal_depth 60 d hs) (by decide))]
  rfl
end

section
variable {X : Cx} {T : Tb} {W : WX} {F F' : Addr → Prop} {σ : Sg} {H H' : Hp} {env : List Sl} {md : Md}
/-- an operator by its library rule -/
theorem opd_of {f : Value → Value → Sem Value} {r : R2} {g : D → D → Option D} (ho : OpR X f r)
    (h : ∀ F H vx vy x y Q, Top X.K F H vx x → Top X.K F H vy y → PostV X T F H md (g x y) Q → r vx vy H Q) : OpD md X T f g :=
  ⟨fun F H vx vy x y Q rx ry q => ho.wp (h F H vx vy x y Q rx ry q)⟩
theorem PostV.imm {d : D} {v : V} {Q : VK} (h : PostV X T F H .S (some d) Q) (r : Rep X.K F H v d) : Q v H := h F v H .refl r
theorem okc_app {a b : List Nat} (h : Okc a) (h' : Okc b) : Okc (a ++ b) := fun c hc => (List.mem_append.mp hc).elim (h c) (h' c)
theorem SS_app (a b : List Nat) : SS a ++ SS b = SS (a ++ b) := by
  show (⟨a.toArray ++ b.toArray⟩ : Str) = ⟨(a ++ b).toArray⟩
  simp
theorem SS_len (a : List Nat) : (SS a).length = a.length := by simp [SS, Str.length]
/-- lists laid together, whoever holds them -/
theorem op_catR : OpR X (binaryOp .Add) (fun x y H Q => ∃ l b xs zs, x = .ref l ∧ y = .ref b ∧ Rd H l (.lst xs) ∧ Rd H b (.lst zs) ∧ xs.length + zs.length ≤ sizeLine ∧ ∀ p, H p = none → Q (.ref p) (upd H p (.lst (xs ++ zs)))) := by
  intro pins s σ H x y v u Q I rx ry h
  obtain ⟨l, b, xs, zs, rfl, rfl, hH, hB, hz, q⟩ := h
  cases rx
  cases ry
  obtain ⟨z, its, n, r, e⟩ := hH.ok I.hok
  obtain ⟨z2, its2, n2, r2, e2⟩ := hB.ok I.hok
  have hl := r.length
  have hl2 := r2.length
  refine PySem.P.add_list e e2 ?_ (by rw [List.size_toArray, List.size_toArray]; omega)
  have ea : its.toArray ++ its2.toArray = (its ++ its2).toArray := by simp
  rw [ea]
  exact ⟨.ref _, _, I.lnew (t' := s.toks) (r.append r2) (by rw [List.length_append]; omega), rfl, q _ I.fresh⟩
theorem o_add : OpD .S X T (binaryOp .Add) addD := by
  refine opd_of (((op_add (X := X)).or op_add_str).or (op_catR.or op_catA)) fun F H vx vy x y Q rx ry q => ?_
  cases x <;> cases y <;> try exact q.elim
  · rw [top_int rx, top_int ry]
    exact .inl (.inl ⟨_, _, rfl, rfl, q.imm (.int _)⟩)
  · rename_i a b
    obtain ⟨e1, o1⟩ := top_str rx
    obtain ⟨e2, o2⟩ := top_str ry
    rw [e1, e2]
    by_cases hl : a.length + b.length ≤ sizeLine
    · rw [show addD (.str a) (.str b) = some (.str (a ++ b)) from if_pos hl] at q
      refine .inl (.inr ⟨_, _, rfl, rfl, by rw [SS_len, SS_len]; exact hl, ?_⟩)
      rw [SS_app]
      exact q.imm (.str _ (okc_app o1 o2))
    · rw [show addD (.str a) (.str b) = none from if_neg hl] at q
      exact q.elim
  · rename_i xs ys
    obtain ⟨a, vs, e1, h1, r1⟩ := top_tup rx
    obtain ⟨b, ws, e2, h2, r2⟩ := top_tup ry
    rw [e1, e2]
    by_cases hl : xs.length + ys.length ≤ sizeLine
    · rw [show addD (.tup xs) (.tup ys) = some (.tup (xs ++ ys)) from if_pos hl] at q
      refine .inr (.inr ⟨a, b, vs, ws, rfl, rfl, h1, h2, by rw [r1.length, r2.length]; exact hl, fun hx => ?_, fun hx hy => ?_, fun hx hy p hp => ?_⟩)
      · subst hx
        cases r1
        exact q.imm (.tup h2 r2)
      · subst hy
        cases r2
        rw [List.append_nil] at q
        exact q.imm (.tup h1 r1)
      · obtain ⟨s, r⟩ := newT (T := T) hp (r1.append r2)
        exact q F _ _ s r
    · rw [show addD (.tup xs) (.tup ys) = none from if_neg hl] at q
      exact q.elim
  · rename_i xs ys
    obtain ⟨a, vs, e1, h1, r1⟩ := top_lst rx
    obtain ⟨b, ws, e2, h2, r2⟩ := top_lst ry
    rw [e1, e2]
    by_cases hl : xs.length + ys.length ≤ sizeLine
    · rw [show addD (.lst xs) (.lst ys) = some (.lst (xs ++ ys)) from if_pos hl] at q
      refine .inr (.inl ⟨a, b, vs, ws, rfl, rfl, h1, h2, by rw [r1.length, r2.length]; exact hl, fun p hp => ?_⟩)
      obtain ⟨s, r⟩ := newL (T := T) hp (r1.append r2)
      exact q _ _ _ s r
    · rw [show addD (.lst xs) (.lst ys) = none from if_neg hl] at q
      exact q.elim
theorem o_sub : OpD .S X T (binaryOp .Sub) subD := by
  refine opd_of op_sub fun F H vx vy x y Q rx ry q => ?_
  cases x <;> cases y <;> try exact q.elim
  rw [top_int rx, top_int ry]
  exact ⟨_, _, rfl, rfl, q.imm (.int _)⟩
/-- ints under a condition -/
theorem opI_of {f : Value → Value → Sem Value} {C : Int → Int → Prop} {g : Int → Int → Int} {gd : D → D → Option D} {c : Int → Int → Prop} (ho : OpR X f (rI C fun i j => .int (g i j)))
    (hg : ∀ x y, gd x y ≠ none → ∃ i j, x = .int i ∧ y = .int j ∧ C i j ∧ gd x y = some (.int (g i j))) : OpD .S X T f gd := by
  refine opd_of ho fun F H vx vy x y Q rx ry q => ?_
  by_cases h : gd x y = none
  · rw [h] at q; exact q.elim
  · obtain ⟨i, j, rfl, rfl, hc, e⟩ := hg x y h
    rw [e] at q
    rw [top_int rx, top_int ry]
    exact ⟨_, _, rfl, rfl, hc, q.imm (.int _)⟩
theorem mulSmall {i j : Int} (h : Small i ∧ Small j) : CMulX i j := mulx_ok h.1.lt h.2.lt (by decide)
theorem op_repR : OpR X (binaryOp .Mult) (fun x y H Q => ∃ l k xs, x = .ref l ∧ y = .int k ∧ H l = some (.lst xs) ∧ -(2 ^ 63) ≤ k ∧ k < 2 ^ 63 ∧ xs.length * k.toNat ≤ sizeLine ∧ ∀ p, H p = none → Q (.ref p) (upd H p (.lst (List.replicate k.toNat xs).flatten))) := op_rep
theorem o_mulI : OpD .S X T (binaryOp .Mult) (fun x y => match x, y with | .int i, .int j => if chk (Small i ∧ Small j) then some (.int (i * j)) else none | _, _ => none) := by
  refine opI_of (C := CMulX) (c := fun _ _ => True) op_mulX fun x y h => ?_
  cases x <;> cases y <;> simp at h
  rename_i i j
  refine ⟨i, j, rfl, rfl, mulSmall h, ?_⟩
  simp [h]
theorem o_fdiv : OpD .S X T (binaryOp .FloorDiv) fdivD := by
  refine opI_of (C := CDivW) (c := fun _ _ => True) op_fdivW fun x y h => ?_
  cases x <;> cases y <;> simp [fdivD] at h
  rename_i i j
  refine ⟨i, j, rfl, rfl, wide_div h.1 h.2 (by decide) (by decide), ?_⟩
  simp [fdivD, h]
theorem o_mod : OpD .S X T (binaryOp .Mod) modD := by
  refine opI_of (C := fun _ j => 0 < j) (c := fun _ _ => True) op_mod fun x y h => ?_
  cases x <;> cases y <;> simp [modD] at h
  rename_i i j
  refine ⟨i, j, rfl, rfl, h, ?_⟩
  simp [modD, h]
theorem o_pow : OpD .S X T (binaryOp .Pow) powD := by
  refine opI_of (C := CPow) (c := fun _ _ => True) op_pow fun x y h => ?_
  cases x <;> cases y <;> simp [powD] at h
  rename_i i j
  refine ⟨i, j, rfl, rfl, ⟨h.1, h.2.1, h.2.2⟩, ?_⟩
  simp [powD, h]
theorem o_shl : OpD .S X T (binaryOp .LShift) shlD := by
  refine opI_of (C := CShl) (c := fun _ _ => True) op_shlW fun x y h => ?_
  cases x <;> cases y <;> simp [shlD] at h
  rename_i i j
  obtain ⟨n, rfl⟩ : ∃ n : Nat, j = n := ⟨j.toNat, by omega⟩
  refine ⟨i, _, rfl, rfl, shl_ok h.2.2.lt (by have : lim = 60000000 := rfl; omega), ?_⟩
  simp [shlD, h]
theorem o_shr : OpD .S X T (binaryOp .RShift) shrD := by
  refine opI_of (C := fun _ j => 0 ≤ j) (c := fun _ _ => True) op_shr fun x y h => ?_
  cases x <;> cases y <;> simp [shrD] at h
  rename_i i j
  refine ⟨i, j, rfl, rfl, h, ?_⟩
  simp [shrD, h]
theorem o_and : OpD .S X T (binaryOp .BitAnd) andD := by
  refine opd_of op_and fun F H vx vy x y Q rx ry q => ?_
  cases x <;> cases y <;> try exact q.elim
  rw [top_int rx, top_int ry]
  exact ⟨_, _, rfl, rfl, q.imm (.int _)⟩
theorem o_or : OpD .S X T (binaryOp .BitOr) orD := by
  refine opd_of op_or fun F H vx vy x y Q rx ry q => ?_
  cases x <;> cases y <;> try exact q.elim
  rw [top_int rx, top_int ry]
  exact ⟨_, _, rfl, rfl, q.imm (.int _)⟩
theorem o_xor : OpD .S X T (binaryOp .BitXor) xorD := by
  refine opd_of op_xor fun F H vx vy x y Q rx ry q => ?_
  cases x <;> cases y <;> try exact q.elim
  rw [top_int rx, top_int ry]
  exact ⟨_, _, rfl, rfl, q.imm (.int _)⟩
theorem dec_eq {p : Prop} {i j : Decidable p} : @decide p i = @decide p j := by
  cases i <;> cases j <;> first | rfl | contradiction
theorem o_lt : OpD .S X T (compareOp .Lt) (fun x y => (ltD x y).map D.bl) := by
  refine opd_of (op_lt.or op_lt_str) fun F H vx vy x y Q rx ry q => ?_
  cases x <;> cases y <;> try exact q.elim
  · rw [top_int rx, top_int ry]
    exact .inl ⟨_, _, rfl, rfl, q.imm (.bl _)⟩
  · rw [(top_str rx).1, (top_str ry).1]
    exact .inr ⟨_, _, rfl, rfl, q.imm (.bl _)⟩
theorem o_le : OpD .S X T (compareOp .LtE) (fun x y => (leD x y).map D.bl) := by
  refine opd_of (op_le.or op_le_str) fun F H vx vy x y Q rx ry q => ?_
  cases x <;> cases y <;> try exact q.elim
  · rw [top_int rx, top_int ry]
    exact .inl ⟨_, _, rfl, rfl, q.imm (.bl _)⟩
  · rw [(top_str rx).1, (top_str ry).1]
    exact .inr ⟨_, _, rfl, rfl, q.imm (.bl _)⟩
theorem o_gt : OpD .S X T (compareOp .Gt) (fun x y => (gtD x y).map D.bl) := by
  refine opd_of (op_gt.or op_gt_str) fun F H vx vy x y Q rx ry q => ?_
  cases x <;> cases y <;> try exact q.elim
  · rw [top_int rx, top_int ry]
    exact .inl ⟨_, _, rfl, rfl, q.imm (.bl _)⟩
  · rw [(top_str rx).1, (top_str ry).1]
    exact .inr ⟨_, _, rfl, rfl, q.imm (.bl _)⟩
theorem o_ge : OpD .S X T (compareOp .GtE) (fun x y => (geD x y).map D.bl) := by
  refine opd_of (op_ge.or op_ge_str) fun F H vx vy x y Q rx ry q => ?_
  cases x <;> cases y <;> try exact q.elim
  · rw [top_int rx, top_int ry]
    exact .inl ⟨_, _, rfl, rfl, q.imm (.bl _)⟩
  · rw [(top_str rx).1, (top_str ry).1]
    exact .inr ⟨_, _, rfl, rfl, q.imm (.bl _)⟩
theorem o_eq (hu : X.A.units + 64 < cLine) : OpD .S X T (compareOp .Eq) (fun x y => (eqD x y).map D.bl) := by
  refine opd_of (op_eqD hu) fun F H vx vy x y Q rx ry q => ?_
  unfold eqD at q
  by_cases h : (shal 60 x && shal 60 y) = true
  · rw [if_pos h] at q
    rw [Bool.and_eq_true] at h
    obtain ⟨a1, a2⟩ := top_shaped rx h.1
    obtain ⟨b1, b2⟩ := top_shaped ry h.2
    refine ⟨_, _, a1, b1, a2, b2, ?_⟩
    rw [eqv_py 60 x y h.1]
    exact q.imm (.bl _)
  · rw [if_neg h] at q
    exact q.elim
theorem o_ne (hu : X.A.units + 64 < cLine) : OpD .S X T (compareOp .NotEq) (fun x y => (neD x y).map D.bl) := by
  refine opd_of (op_neD hu) fun F H vx vy x y Q rx ry q => ?_
  unfold neD eqD at q
  by_cases h : (shal 60 x && shal 60 y) = true
  · rw [if_pos h] at q
    rw [Bool.and_eq_true] at h
    obtain ⟨a1, a2⟩ := top_shaped rx h.1
    obtain ⟨b1, b2⟩ := top_shaped ry h.2
    refine ⟨_, _, a1, b1, a2, b2, ?_⟩
    rw [eqv_py 60 x y h.1]
    exact q.imm (.bl _)
  · rw [if_neg h] at q
    exact q.elim
theorem top_isN {K : PySem.W.Frag} {v : V} {d : D} (h : Top K F H v d) : decide (v = .non) = (match d with | .non => true | _ => false) := by
  rcases h with h | ⟨a, rfl, h⟩
  · cases h <;> rfl
  · cases d <;> first | exact h.elim | rfl
theorem o_is : OpD .S X T (compareOp .Is) (fun x y => (isD x y).map D.bl) := by
  refine opd_of op_isN fun F H vx vy x y Q rx ry q => ?_
  cases y <;> try (cases x <;> exact q.elim)
  rw [top_non ry]
  refine ⟨rfl, ?_⟩
  rw [top_isN rx]
  cases x <;> exact q.imm (.bl _)
theorem o_isnot : OpD .S X T (compareOp .IsNot) (fun x y => (isNotD x y).map D.bl) := by
  refine opd_of op_notN fun F H vx vy x y Q rx ry q => ?_
  cases y <;> try (cases x <;> exact q.elim)
  rw [top_non ry]
  refine ⟨rfl, ?_⟩
  rw [top_isN rx]
  cases x <;> exact q.imm (.bl _)
end
end DL

-- DL3
set_option Elab.async false
set_option linter.all false
set_option maxRecDepth 100000
set_option maxHeartbeats 4000000
/-! The data layer: subscripts, slices, calls. -/
namespace DL
open PySem PySem.Spec PyProof.Rows L2

/-! ### subscripts, slices on data -/
def idxD : D → D → Option D
  | .lst xs, .int i => atI xs i
  | .tup xs, .int i => atI xs i
  | .str s, .int i => if s.length ≤ sizeLine then (atI s i).map fun c => .str [c] else none
  | _, _ => none
def cutL {α : Type} (xs : List α) (lo hi : Option Int) : List α := (xs.drop (HT.sIx xs.length 0 lo)).take (HT.sIx xs.length xs.length hi - HT.sIx xs.length 0 lo)
def slcD (x : D) (lo hi : Option Int) : Option D :=
  match x with
  | .lst xs => some (.lst (cutL xs lo hi))
  | .tup xs => some (.tup (cutL xs lo hi))
  | .str s => if s.length ≤ sizeLine then some (.str (cutL s lo hi)) else none
  | _ => none
section
variable {K : PySem.W.Frag} {F : Addr → Prop} {H : Hp}
theorem atI_mem {α : Type} {xs : List α} {i : Int} {x : α} (h : atI xs i = some x) : x ∈ xs := by
  unfold atI at h
  cases e : ixN xs.length i with
  | none => rw [e] at h; cases h
  | some j => rw [e] at h; exact List.mem_of_getElem? h
theorem reps_at {vs : List V} {xs : List D} {i : Int} {d : D} (r : Reps K F H vs xs) (h : atI xs i = some d) : ∃ v, atI vs i = some v ∧ Rep K F H v d := by
  unfold atI at h ⊢
  rw [r.length]
  cases e : ixN xs.length i with
  | none => rw [e] at h; cases h
  | some j => rw [e] at h; exact r.get h
theorem reps_cut {vs : List V} {xs : List D} (lo hi : Option Int) (r : Reps K F H vs xs) : Reps K F H (cutV vs lo hi) (cutL xs lo hi) := by
  unfold cutV cutL
  rw [r.length]
  exact (r.drop _).take _
theorem okc_cut {s : List Nat} (lo hi : Option Int) (h : Okc s) : Okc (cutL s lo hi) := fun c hc => h c (List.mem_of_mem_drop (List.mem_of_mem_take hc))
end
section
variable {X : Cx} {T : Tb} {W : WX} {F F' : Addr → Prop} {σ : Sg} {H H' : Hp} {env : List Sl} {md : Md} {e a b c : Expr} {es : List Expr} {m ma mb mc : R D} {mas : R (List D)} {pos p2 : Pos}
theorem de_ix (ha : DE .B X T W env a ma) (hb : DE .B X T W env b mb) (hs : PlainIx b := by intro _ _; kernel_rfl) : DE .S X T W env (.Subscript a b pos) (ma.bind fun x => mb.bind fun y => R.lift (idxD x y)) := fun F σ H Q I q => by
  refine (pe_ix (pos := pos) ix_seq pe_wp pe_wp hs).wp ?_
  refine runEE ha I q fun x F1 vx H1 s1 rx q1 => ?_
  refine runEE hb (I.stp s1) q1 fun y F2 vy H2 s2 ry q2 => ?_
  replace rx : Top X.K F2 H2 vx x := s2.top rx
  cases x <;> cases y <;> try exact q2.elim
  · rename_i s i
    obtain ⟨e1, o1⟩ := top_str rx
    rw [e1, top_int ry]
    by_cases hl : s.length ≤ sizeLine
    · rw [show idxD (.str s) (.int i) = (atI s i).map fun c => D.str [c] from if_pos hl] at q2
      cases hc : atI s i with
      | none => rw [hc] at q2; exact q2.elim
      | some c =>
        rw [hc] at q2
        have := q2.lift.imm (.str [c] fun d hd => by rw [List.mem_singleton.mp hd]; exact o1 c (atI_mem hc))
        exact .inr (.inr ⟨SS s, i, c, rfl, rfl, by rw [SS_len]; exact hl, hc, this⟩)
    · rw [show idxD (.str s) (.int i) = none from if_neg hl] at q2
      exact q2.elim
  · rename_i xs i
    obtain ⟨p, vs, e1, h1, r1⟩ := top_tup rx
    rw [e1, top_int ry]
    rw [show idxD (.tup xs) (.int i) = atI xs i from rfl] at q2
    cases hc : atI xs i with
    | none => rw [hc] at q2; exact q2.elim
    | some d =>
      rw [hc] at q2
      obtain ⟨v, hv, rv⟩ := reps_at r1 hc
      exact .inr (.inl ⟨p, vs, i, v, rfl, rfl, h1, hv, q2.lift.imm rv⟩)
  · rename_i xs i
    obtain ⟨p, vs, e1, h1, r1⟩ := top_lst rx
    rw [e1, top_int ry]
    rw [show idxD (.lst xs) (.int i) = atI xs i from rfl] at q2
    cases hc : atI xs i with
    | none => rw [hc] at q2; exact q2.elim
    | some d =>
      rw [hc] at q2
      obtain ⟨v, hv, rv⟩ := reps_at r1 hc
      exact .inl ⟨p, vs, i, v, rfl, rfl, .inl h1, hv, q2.lift.imm rv⟩
/-- a part of a slice -/
def DP (X : Cx) (T : Tb) (W : WX) (env : List Sl) (o : Option Expr) (m : R (Option Int)) : Prop :=
  (o = none ∧ m = .ok none) ∨ ∃ e me, o = some e ∧ DE .S X T W env e me ∧ m = me.bind fun d => match d with | .int i => .ok (some i) | _ => .st
theorem dp_none : DP X T W env none (.ok none) := .inl ⟨rfl, rfl⟩
def intP (d : D) : R (Option Int) := match d with | .int i => .ok (some i) | _ => .st
@[simp] theorem intP_int (i : Int) : intP (.int i) = .ok (some i) := rfl
theorem dp_some (he : DE .S X T W env e m) : DP X T W env (some e) (m.bind intP) := .inr ⟨e, m, rfl, he, rfl⟩
theorem runP {Q : VK} {Q1 : Option Int → Hp → Prop} {o : Option Expr} {mo : R (Option Int)} {f : Option Int → R D} (h : DP X T W env o mo) (I : ER X.K T F σ H env) (q : PostE X T W F σ H md (mo.bind f) Q)
    (k : ∀ i F' H', Stp T F H F' H' → PostE X T W F' σ H' md (f i) Q → Q1 i H') : ∃ t, PO X o t ∧ t σ H Q1 := by
  rcases h with ⟨rfl, rfl⟩ | ⟨e, me, rfl, he, rfl⟩
  · exact ⟨_, po_none, k none F H .refl q⟩
  · refine ⟨_, po_some pe_wp, ?_⟩
    rw [R.bind_assoc] at q
    refine runEE he I q fun d F1 v H1 s1 r q1 => ?_
    cases d <;> try exact q1.elim
    cases r
    exact ⟨_, rfl, k _ F1 H1 s1 q1⟩
/-- the strongest reading of a part -/
@[irreducible] def wpO (X : Cx) (o : Option Expr) : TO := fun σ H Q => ∀ pins s, Inv X pins σ H s → wpAny (model X.prog X.w) X.A (evalPart o X.env) (fun u s' => ∃ o H', Inv X pins σ H' s' ∧ IsPart u o ∧ Q o H') X.xe s
theorem po_wp {o : Option Expr} : PO X o (wpO X o) := ⟨fun pins s _ _ _ I h => by unfold wpO at h; exact h pins s I⟩
theorem runO {Q : VK} {Q1 : Option Int → Hp → Prop} {o : Option Expr} {mo : R (Option Int)} {f : Option Int → R D} (h : DP X T W env o mo) (I : ER X.K T F σ H env) (q : PostE X T W F σ H md (mo.bind f) Q)
    (k : ∀ i F' H', Stp T F H F' H' → PostE X T W F' σ H' md (f i) Q → Q1 i H') : wpO X o σ H Q1 := by
  obtain ⟨t, h1, h2⟩ := runP h I q k
  unfold wpO
  exact fun pins s Iv => h1.run pins s σ H Q1 Iv h2
theorem de_slc {lo hi : Option Expr} {ml mh : R (Option Int)} (ha : DE .B X T W env a ma) (hl : DP X T W env lo ml) (hh : DP X T W env hi mh) :
    DE .S X T W env (.Subscript a (.Slice lo hi none p2) pos) (ma.bind fun x => ml.bind fun l => mh.bind fun h => R.lift (slcD x l h)) := fun F σ H Q I q => by
  refine (pe_slice (pos := pos) (p2 := p2) ((sl_list (X := X)).or (sl_tupA.or sl_str)) pe_wp po_wp po_wp).wp ?_
  refine runEE ha I q fun x F1 vx H1 s1 rx q1 => ?_
  refine runO hl (I.stp s1) q1 fun l F2 H2 s2 q2 => ?_
  refine runO hh ((I.stp s1).stp s2) q2 fun u F3 H3 s3 q3 => ?_
  replace rx : Top X.K F3 H3 vx x := s3.top (s2.top rx)
  cases x <;> try exact q3.elim
  · rename_i s
    obtain ⟨e1, o1⟩ := top_str rx
    rw [e1]
    by_cases hl : s.length ≤ sizeLine
    · rw [show slcD (.str s) l u = some (.str (cutL s l u)) from if_pos hl] at q3
      exact .inr (.inr ⟨SS s, rfl, by rw [SS_len]; exact hl, q3.lift.imm (v := .str (SS (cutL s l u))) (.str _ (okc_cut l u o1))⟩)
    · rw [show slcD (.str s) l u = none from if_neg hl] at q3
      exact q3.elim
  · rename_i xs
    obtain ⟨p, vs, e1, h1, r1⟩ := top_tup rx
    rw [e1]
    refine .inr (.inl ⟨p, vs, rfl, h1, fun hw => ?_, fun hw q hq => ?_⟩)
    · have e2 : cutL xs l u = xs := by
        unfold cutL
        rw [r1.length] at hw
        rw [hw.1, hw.2, Nat.sub_zero, List.drop_zero, List.take_length]
      rw [show slcD (.tup xs) l u = some (.tup (cutL xs l u)) from rfl, e2] at q3
      exact q3.lift.imm (.tup h1 r1)
    · obtain ⟨s, r⟩ := newT (T := T) hq (reps_cut l u r1)
      exact q3 F3 _ _ s r
  · rename_i xs
    obtain ⟨p, vs, e1, h1, r1⟩ := top_lst rx
    rw [e1]
    refine .inl ⟨p, vs, rfl, .inl h1, fun q hq => ?_⟩
    obtain ⟨s, r⟩ := newL (T := T) hq (reps_cut l u r1)
    exact q3 _ _ _ s r

/-! ### built-in functions -/
@[irreducible] def wpC (X : Cx) (f : Value) : List V → Hp → VK → Prop := fun vs H Q => ∀ pins s σ us, Inv X pins σ H s → Vals vs us → wpAny (model X.prog X.w) X.A (call f us) (EP X pins σ Q) X.xe s
theorem call_wp {f : Value} : CallR X f (wpC X f) := fun pins s σ _ _ us _ I r h => by unfold wpC at h; exact h pins s σ us I r
theorem _root_.L2.CallR.wp {f : Value} {r : List V → Hp → VK → Prop} (h : CallR X f r) {vs : List V} {Q : VK} (q : r vs H Q) : wpC X f vs H Q := by unfold wpC; exact fun pins s σ us I rv => h pins s σ H vs us Q I rv q
structure Cal1 (md : Md) (X : Cx) (T : Tb) (f : Value) (g : D → Option D) : Prop where
  run : ∀ F H v d Q, (∀ a, F a → Dat H a) → Top X.K F H v d → PostV X T F H md (g d) Q → wpC X f [v] H Q
structure Cal2 (md : Md) (X : Cx) (T : Tb) (f : Value) (g : D → D → Option D) : Prop where
  run : ∀ F H v w d e Q, (∀ a, F a → Dat H a) → Top X.K F H v d → Top X.K F H w e → PostV X T F H md (g d e) Q → wpC X f [v, w] H Q
theorem tA1 {Q : List V → Hp → Prop} (h : wpE X a σ H fun x H1 => Q [x] H1) (hs : starEach [a] X.env = (false, eval a X.env) :: starEach [] X.env) : wpA X [a] σ H Q :=
  (pa_cons pe_wp pa_nil hs).wp h
/-- f(a), f a built-in function -/
theorem de_c1B {id : String} {x : Str} {p : Pos} {g : D → Option D} (ho : Cal1 md X T (.builtin id) g) (hv : bootBuiltins x = some (.builtin id)) (hm : X.mg x = none) (ha : DE .B X T W env a ma) (hg : Gl X x := by exact gl_of (by kernel_rfl)) (hn : x ≠ "__name__" := by exact ne_name (by kernel_rfl)) (hdb : (x == ("__debug__" : Str)) = false := by kernel_rfl)
    (he : starEach [a] X.env = (false, eval a X.env) :: starEach [] X.env := by kernel_rfl) (hpl : (backTo pos (starEach [] X.env)).any (·.1) = false := by kernel_rfl) :
    DE md X T W env (.Call (.Name x p) [a] [] pos) (ma.bind fun d => R.lift (g d)) := fun F σ H Q I q => by
  refine (pe_callB (pos := pos) (p := p) call_wp hg hm hv (pa_cons pe_wp pa_nil he) hn hdb he hpl).wp ?_
  refine runEE ha I q fun d F1 v H1 s1 r q1 => ?_
  exact ho.run F1 H1 v d Q (s1.ftr I.ftr) r q1.lift
theorem de_c1T {ty : String} {x : Str} {p : Pos} {g : D → Option D} (ho : Cal1 md X T (.type ty) g) (hv : bootBuiltins x = some (.type ty)) (hm : X.mg x = none) (ha : DE .B X T W env a ma) (hg : Gl X x := by exact gl_of (by kernel_rfl)) (hn : x ≠ "__name__" := by exact ne_name (by kernel_rfl)) (hdb : (x == ("__debug__" : Str)) = false := by kernel_rfl)
    (he : starEach [a] X.env = (false, eval a X.env) :: starEach [] X.env := by kernel_rfl) (hpl : (backTo pos (starEach [] X.env)).any (·.1) = false := by kernel_rfl) :
    DE md X T W env (.Call (.Name x p) [a] [] pos) (ma.bind fun d => R.lift (g d)) := fun F σ H Q I q => by
  refine (pe_callTy (pos := pos) (p := p) call_wp hg hm hv (pa_cons pe_wp pa_nil he) hn hdb he hpl).wp ?_
  refine runEE ha I q fun d F1 v H1 s1 r q1 => ?_
  exact ho.run F1 H1 v d Q (s1.ftr I.ftr) r q1.lift
theorem de_c2B {id : String} {x : Str} {p : Pos} {g : D → D → Option D} (ho : Cal2 md X T (.builtin id) g) (hv : bootBuiltins x = some (.builtin id)) (hm : X.mg x = none) (ha : DE .B X T W env a ma) (hb : DE .B X T W env b mb) (hg : Gl X x := by exact gl_of (by kernel_rfl)) (hn : x ≠ "__name__" := by exact ne_name (by kernel_rfl)) (hdb : (x == ("__debug__" : Str)) = false := by kernel_rfl)
    (he : starEach [a, b] X.env = (false, eval a X.env) :: starEach [b] X.env := by kernel_rfl) (he2 : starEach [b] X.env = (false, eval b X.env) :: starEach [] X.env := by kernel_rfl) (hpl : (backTo pos (starEach [b] X.env)).any (·.1) = false := by kernel_rfl) :
    DE md X T W env (.Call (.Name x p) [a, b] [] pos) (ma.bind fun d => mb.bind fun e => R.lift (g d e)) := fun F σ H Q I q => by
  refine (pe_callB (pos := pos) (p := p) call_wp hg hm hv (pa_cons pe_wp (pa_cons pe_wp pa_nil he2) he) hn hdb he hpl).wp ?_
  refine runEE ha I q fun d F1 v H1 s1 r q1 => ?_
  refine runEE hb (I.stp s1) q1 fun e F2 w H2 s2 r2 q2 => ?_
  exact ho.run F2 H2 v w d e Q (s2.ftr (s1.ftr I.ftr)) (s2.top r) r2 q2.lift
theorem cal1_of {f : Value} {r : List V → Hp → VK → Prop} {g : D → Option D} (ho : CallR X f r) (h : ∀ F H v d Q, (∀ a, F a → Dat H a) → Top X.K F H v d → PostV X T F H md (g d) Q → r [v] H Q) : Cal1 md X T f g :=
  ⟨fun F H v d Q hF rx q => ho.wp (h F H v d Q hF rx q)⟩
theorem cal2_of {f : Value} {r : List V → Hp → VK → Prop} {g : D → D → Option D} (ho : CallR X f r) (h : ∀ F H v w d e Q, (∀ a, F a → Dat H a) → Top X.K F H v d → Top X.K F H w e → PostV X T F H md (g d e) Q → r [v, w] H Q) : Cal2 md X T f g :=
  ⟨fun F H v w d e Q hF rx ry q => ho.wp (h F H v w d e Q hF rx ry q)⟩
def lenD : D → Option D
  | .str s => if s.length ≤ sizeLine then some (.int s.length) else none
  | .lst xs => some (.int xs.length)
  | .tup xs => some (.int xs.length)
  | _ => none
theorem c_len : Cal1 .S X T (.builtin "len") lenD := cal1_of (call_len_seq.or call_len_str) fun F H v d Q hF rx q => by
  cases d <;> try exact q.elim
  · rename_i s
    rw [(top_str rx).1]
    by_cases hl : s.length ≤ sizeLine
    · rw [show lenD (.str s) = some (.int s.length) from if_pos hl] at q
      exact .inr ⟨_, rfl, by rw [SS_len]; exact hl, by rw [SS_len]; exact q.imm (.int _)⟩
    · rw [show lenD (.str s) = none from if_neg hl] at q
      exact q.elim
  · obtain ⟨a, vs, e1, h1, r1⟩ := top_tup rx
    rw [e1]
    exact .inl ⟨a, vs, rfl, .inr h1, by rw [r1.length]; exact q.imm (.int _)⟩
  · obtain ⟨a, vs, e1, h1, r1⟩ := top_lst rx
    rw [e1]
    exact .inl ⟨a, vs, rfl, .inl (.inl h1), by rw [r1.length]; exact q.imm (.int _)⟩
def absD : D → Option D
  | .int i => some (.int (i.natAbs : Int))
  | _ => none
theorem c_abs : Cal1 .S X T (.builtin "abs") absD := cal1_of call_abs fun F H v d Q hF rx q => by
  cases d <;> try exact q.elim
  rename_i i
  rw [top_int rx]
  refine ⟨i, rfl, ?_⟩
  have : (if i < 0 then -i else i) = (i.natAbs : Int) := by split <;> omega
  rw [this]
  exact q.imm (.int _)
def intD : D → Option D
  | .int i => some (.int i)
  | .bl b => some (.int (if b then 1 else 0))
  | _ => none
theorem c_int : Cal1 .S X T (.type "int") intD := cal1_of call_int1 fun F H v d Q hF rx q => by
  cases d <;> try exact q.elim
  · rw [top_bl rx]; exact .inr ⟨_, rfl, q.imm (.int _)⟩
  · rw [top_int rx]; exact .inl ⟨_, rfl, q.imm (.int _)⟩
/-- int of a text of digits (few of them) -/
def digS (s : List Nat) : Bool := !s.isEmpty && s.all fun c => decide (48 ≤ c ∧ c ≤ 57)
def strI (i : Int) : List Nat := (Str.ofString (toString i)).cps.toList
theorem strI_nat (n : Nat) : strI (n : Int) = TL.numL n := TL.tl_num n
def strD : D → Option D
  | .int i => if i.natAbs < 2 ^ 1900 then some (.str (strI i)) else none
  | .str s => some (.str s)
  | _ => none
theorem ofStr_okc (s : String) : Okc (Str.ofString s).cps.toList := by
  rw [show (Str.ofString s).cps.toList = s.toList.map Char.toNat from PyProof.Rows.signs_ofString s]
  intro c hc
  obtain ⟨ch, _, rfl⟩ := List.mem_map.mp hc
  have h := ch.valid
  unfold Char.toNat
  rcases h with h | ⟨_, h⟩ <;> (have : ch.val.toNat < _ := h) <;> omega
theorem SS_ofStr (s : String) : SS (Str.ofString s).cps.toList = Str.ofString s := TL.mk_tl _
theorem c_str : Cal1 .S X T (.type "str") strD := cal1_of (call_str_int.or SkE.call_str_str) fun F H v d Q hF rx q => by
  cases d <;> try exact q.elim
  · rename_i i
    rw [top_int rx]
    by_cases hl : i.natAbs < 2 ^ 1900
    · rw [show strD (.int i) = some (.str (strI i)) from if_pos hl] at q
      refine .inl ⟨i, rfl, Nat.lt_of_lt_of_le (PySem.Flt.log2_lt_of (k := 1900) (by decide) hl) (by decide), ?_⟩
      have := q.imm (v := .str (SS (strI i))) (.str _ (ofStr_okc _))
      rw [show SS (strI i) = Str.ofString (toString i) from SS_ofStr _] at this
      exact this
    · rw [show strD (.int i) = none from if_neg hl] at q
      exact q.elim
  · obtain ⟨e1, o1⟩ := top_str rx
    rw [e1]
    exact .inr ⟨_, rfl, q.imm (.str _ o1)⟩
def ordD : D → Option D
  | .str [c] => some (.int c)
  | _ => none
theorem c_ord : Cal1 .S X T (.builtin "ord") ordD := cal1_of call_ord fun F H v d Q hF rx q => by
  cases d <;> try exact q.elim
  rename_i s
  cases s with
  | nil => exact q.elim
  | cons c r =>
    cases r with
    | cons c' r => exact q.elim
    | nil =>
      rw [(top_str rx).1]
      exact ⟨_, rfl, rfl, q.imm (.int _)⟩
def chrD : D → Option D
  | .int i => if 0 ≤ i ∧ i < 1114112 then some (.str [i.toNat]) else none
  | _ => none
theorem c_chr : Cal1 .S X T (.builtin "chr") chrD := cal1_of call_chr fun F H v d Q hF rx q => by
  cases d <;> try exact q.elim
  rename_i i
  rw [top_int rx]
  by_cases hl : 0 ≤ i ∧ i < 1114112
  · rw [show chrD (.int i) = some (.str [i.toNat]) from if_pos hl] at q
    exact ⟨i, rfl, hl.1, by omega, q.imm (v := .str (SS [i.toNat])) (.str _ fun c hc => by rw [List.mem_singleton.mp hc]; omega)⟩
  · rw [show chrD (.int i) = none from if_neg hl] at q
    exact q.elim
def listD : D → Option D
  | .lst xs => some (.lst xs)
  | .tup xs => some (.lst xs)
  | _ => none
theorem c_list : Cal1 .O X T (.type "list") listD := cal1_of call_list_of fun F H v d Q hF rx q => by
  cases d <;> try exact q.elim
  · obtain ⟨a, vs, e1, h1, r1⟩ := top_tup rx
    rw [e1]
    refine ⟨a, vs, rfl, .inr h1, fun l hl => ?_⟩
    obtain ⟨s, r⟩ := newO (T := T) hl hF r1
    exact q F _ _ s r
  · obtain ⟨a, vs, e1, h1, r1⟩ := top_lst rx
    rw [e1]
    refine ⟨a, vs, rfl, .inl (.inl h1), fun l hl => ?_⟩
    obtain ⟨s, r⟩ := newO (T := T) hl hF r1
    exact q F _ _ s r
def tupD : D → Option D
  | .lst xs => some (.tup xs)
  | .tup xs => some (.tup xs)
  | _ => none
theorem c_tuple : Cal1 .S X T (.type "tuple") tupD := cal1_of call_tuple_of fun F H v d Q hF rx q => by
  cases d <;> try exact q.elim
  · obtain ⟨a, vs, e1, h1, r1⟩ := top_tup rx
    rw [e1]
    exact ⟨a, vs, rfl, .inr ⟨h1, q.imm (.tup h1 r1)⟩⟩
  · obtain ⟨a, vs, e1, h1, r1⟩ := top_lst rx
    rw [e1]
    refine ⟨a, vs, rfl, .inl ⟨.inl h1, fun l hl => ?_⟩⟩
    obtain ⟨s, r⟩ := newT (T := T) hl r1
    exact q F _ _ s r
/-- a list of ints, of bools -/
def intsOf : List D → Option (List Int)
  | [] => some []
  | .int i :: xs => (intsOf xs).map (i :: ·)
  | _ :: _ => none
def blsOf : List D → Option (List Bool)
  | [] => some []
  | .bl i :: xs => (blsOf xs).map (i :: ·)
  | _ :: _ => none
def strsOf : List D → Option (List (List Nat))
  | [] => some []
  | .str i :: xs => (strsOf xs).map (i :: ·)
  | _ :: _ => none
theorem intsOf_eq : ∀ {xs : List D} {is : List Int}, intsOf xs = some is → xs = is.map D.int
  | [], is, h => by cases h; rfl
  | x :: xs, is, h => by
    cases x <;> try (cases h; done)
    rename_i i
    cases e : intsOf xs with
    | none => unfold intsOf at h; rw [e] at h; cases h
    | some js =>
      unfold intsOf at h
      rw [e] at h
      cases h
      rw [intsOf_eq e]
      rfl
theorem blsOf_eq : ∀ {xs : List D} {is : List Bool}, blsOf xs = some is → xs = is.map D.bl
  | [], is, h => by cases h; rfl
  | x :: xs, is, h => by
    cases x <;> try (cases h; done)
    rename_i i
    cases e : blsOf xs with
    | none => unfold blsOf at h; rw [e] at h; cases h
    | some js =>
      unfold blsOf at h
      rw [e] at h
      cases h
      rw [blsOf_eq e]
      rfl
theorem strsOf_eq : ∀ {xs : List D} {is : List (List Nat)}, strsOf xs = some is → xs = is.map D.str
  | [], is, h => by cases h; rfl
  | x :: xs, is, h => by
    cases x <;> try (cases h; done)
    rename_i i
    cases e : strsOf xs with
    | none => unfold strsOf at h; rw [e] at h; cases h
    | some js =>
      unfold strsOf at h
      rw [e] at h
      cases h
      rw [strsOf_eq e]
      rfl
@[simp] theorem intsOf_map (is : List Int) : intsOf (is.map D.int) = some is := by
  induction is with
  | nil => rfl
  | cons i is ih => rw [List.map_cons]; unfold intsOf; rw [ih]; rfl
@[simp] theorem blsOf_map (is : List Bool) : blsOf (is.map D.bl) = some is := by
  induction is with
  | nil => rfl
  | cons i is ih => rw [List.map_cons]; unfold blsOf; rw [ih]; rfl
@[simp] theorem strsOf_map (is : List (List Nat)) : strsOf (is.map D.str) = some is := by
  induction is with
  | nil => rfl
  | cons i is ih => rw [List.map_cons]; unfold strsOf; rw [ih]; rfl
def seqOf : D → Option (List D)
  | .lst xs => some xs
  | .tup xs => some xs
  | _ => none
def lstOf : D → Option (List D)
  | .lst xs => some xs
  | _ => none
def sumD (d : D) : Option D := ((lstOf d).bind intsOf).map fun is => .int is.sum
def allD (d : D) : Option D := ((lstOf d).bind blsOf).map fun is => .bl (is.all id)
def anyD (d : D) : Option D := ((lstOf d).bind blsOf).map fun is => .bl (is.any id)
theorem top_ints {K : PySem.W.Frag} {v : V} {d : D} {is : List Int} (h : (lstOf d).bind intsOf = some is) (r : Top K F H v d) : ∃ a, v = .ref a ∧ SqL K H a (is.map V.int) := by
  cases d <;> try (cases h; done)
  obtain ⟨a, vs, e1, h1, r1⟩ := top_lst r
  have e := intsOf_eq h
  subst e
  exact ⟨a, e1, .inl (by rw [← r1.ints]; exact h1)⟩
theorem top_bls {K : PySem.W.Frag} {v : V} {d : D} {is : List Bool} (h : (lstOf d).bind blsOf = some is) (r : Top K F H v d) : ∃ a, v = .ref a ∧ SqL K H a (is.map V.bl) := by
  cases d <;> try (cases h; done)
  obtain ⟨a, vs, e1, h1, r1⟩ := top_lst r
  have e := blsOf_eq h
  subst e
  exact ⟨a, e1, .inl (by rw [← r1.bls]; exact h1)⟩
theorem c_sum (hc : X.calm = true) : Cal1 .S X T (.builtin "sum") sumD := cal1_of (cr_sum hc) fun F H v d Q hF rx q => by
  unfold sumD at q
  cases e : (lstOf d).bind intsOf with
  | none => rw [e] at q; exact q.elim
  | some is =>
    rw [e] at q
    obtain ⟨a, e1, h1⟩ := top_ints e rx
    rw [e1]
    exact ⟨a, is, rfl, h1, q.imm (.int _)⟩
theorem c_all (hc : X.calm = true) : Cal1 .S X T (.builtin "all") allD := cal1_of (cr_all hc) fun F H v d Q hF rx q => by
  unfold allD at q
  cases e : (lstOf d).bind blsOf with
  | none => rw [e] at q; exact q.elim
  | some is =>
    rw [e] at q
    obtain ⟨a, e1, h1⟩ := top_bls e rx
    rw [e1]
    exact ⟨a, is, rfl, h1, q.imm (.bl _)⟩
theorem c_any (hc : X.calm = true) : Cal1 .S X T (.builtin "any") anyD := cal1_of (cr_any hc) fun F H v d Q hF rx q => by
  unfold anyD at q
  cases e : (lstOf d).bind blsOf with
  | none => rw [e] at q; exact q.elim
  | some is =>
    rw [e] at q
    obtain ⟨a, e1, h1⟩ := top_bls e rx
    rw [e1]
    exact ⟨a, is, rfl, h1, q.imm (.bl _)⟩
/-- the greatest, the least of ints -/
def maxL : List Int → Option Int
  | [] => none
  | [i] => some i
  | i :: is => (maxL is).map fun m => if i < m then m else i
def minL : List Int → Option Int
  | [] => none
  | [i] => some i
  | i :: is => (minL is).map fun m => if m < i then m else i
theorem maxL_of : ∀ {is : List Int} {m : Int}, m ∈ is → (∀ y ∈ is, y ≤ m) → maxL is = some m
  | [], m, h, _ => nomatch h
  | [i], m, h, _ => by rw [List.mem_singleton.mp h]; rfl
  | i :: j :: is, m, h, hm => by
    have hi := hm i List.mem_cons_self
    by_cases e : m ∈ j :: is
    · have ih := maxL_of e fun y hy => hm y (List.mem_cons_of_mem _ hy)
      show (maxL (j :: is)).map _ = _
      rw [ih]
      show some (if i < m then m else i) = some m
      by_cases hlt : i < m
      · rw [if_pos hlt]
      · rw [if_neg hlt, show i = m by omega]
    · have ei : m = i := (List.mem_cons.mp h).resolve_right e
      subst ei
      have : ∃ m', maxL (j :: is) = some m' ∧ m' ∈ j :: is := maxL_some j is
      obtain ⟨m', e1, e2⟩ := this
      show (maxL (j :: is)).map _ = _
      rw [e1]
      show some (if m < m' then m' else m) = some m
      rw [if_neg (by have := hm m' (List.mem_cons_of_mem _ e2); omega)]
where maxL_some : ∀ (j : Int) (is : List Int), ∃ m', maxL (j :: is) = some m' ∧ m' ∈ j :: is
  | j, [] => ⟨j, rfl, List.mem_cons_self⟩
  | j, k :: is => by
    obtain ⟨m', e1, e2⟩ := maxL_some k is
    show ∃ m'', (maxL (k :: is)).map _ = _ ∧ _
    rw [e1]
    refine ⟨_, rfl, ?_⟩
    dsimp only
    split
    · exact List.mem_cons_of_mem _ e2
    · exact List.mem_cons_self
theorem minL_of : ∀ {is : List Int} {m : Int}, m ∈ is → (∀ y ∈ is, m ≤ y) → minL is = some m
  | [], m, h, _ => nomatch h
  | [i], m, h, _ => by rw [List.mem_singleton.mp h]; rfl
  | i :: j :: is, m, h, hm => by
    have hi := hm i List.mem_cons_self
    by_cases e : m ∈ j :: is
    · have ih := minL_of e fun y hy => hm y (List.mem_cons_of_mem _ hy)
      show (minL (j :: is)).map _ = _
      rw [ih]
      show some (if m < i then m else i) = some m
      by_cases hlt : m < i
      · rw [if_pos hlt]
      · rw [if_neg hlt, show i = m by omega]
    · have ei : m = i := (List.mem_cons.mp h).resolve_right e
      subst ei
      obtain ⟨m', e1, e2⟩ := minL_some j is
      show (minL (j :: is)).map _ = _
      rw [e1]
      show some (if m' < m then m' else m) = some m
      rw [if_neg (by have := hm m' (List.mem_cons_of_mem _ e2); omega)]
where minL_some : ∀ (j : Int) (is : List Int), ∃ m', minL (j :: is) = some m' ∧ m' ∈ j :: is
  | j, [] => ⟨j, rfl, List.mem_cons_self⟩
  | j, k :: is => by
    obtain ⟨m', e1, e2⟩ := minL_some k is
    show ∃ m'', (minL (k :: is)).map _ = _ ∧ _
    rw [e1]
    refine ⟨_, rfl, ?_⟩
    dsimp only
    split
    · exact List.mem_cons_of_mem _ e2
    · exact List.mem_cons_self
def maxD (d : D) : Option D := (((lstOf d).bind intsOf).bind maxL).map .int
def minD (d : D) : Option D := (((lstOf d).bind intsOf).bind minL).map .int
theorem c_max (hc : X.calm = true) : Cal1 .S X T (.builtin "max") maxD := cal1_of (cr_max hc) fun F H v d Q hF rx q => by
  unfold maxD at q
  cases e : (lstOf d).bind intsOf with
  | none => rw [e] at q; exact q.elim
  | some is =>
    rw [e] at q
    obtain ⟨a, e1, h1⟩ := top_ints e rx
    rw [e1]
    cases is with
    | nil => exact q.elim
    | cons i is =>
      refine ⟨a, i :: is, rfl, h1, by simp, fun m hm hm2 => ?_⟩
      have em : maxL (i :: is) = some m := maxL_of hm hm2
      rw [show (some (i :: is)).bind maxL = maxL (i :: is) from rfl, em] at q
      exact q.imm (.int m)
theorem c_min (hc : X.calm = true) : Cal1 .S X T (.builtin "min") minD := cal1_of (cr_min hc) fun F H v d Q hF rx q => by
  unfold minD at q
  cases e : (lstOf d).bind intsOf with
  | none => rw [e] at q; exact q.elim
  | some is =>
    rw [e] at q
    obtain ⟨a, e1, h1⟩ := top_ints e rx
    rw [e1]
    cases is with
    | nil => exact q.elim
    | cons i is =>
      refine ⟨a, i :: is, rfl, h1, by simp, fun m hm hm2 => ?_⟩
      have em : minL (i :: is) = some m := minL_of hm hm2
      rw [show (some (i :: is)).bind minL = minL (i :: is) from rfl, em] at q
      exact q.imm (.int m)
def max2D : D → D → Option D
  | .int i, .int j => some (.int (max i j))
  | _, _ => none
def min2D : D → D → Option D
  | .int i, .int j => some (.int (min i j))
  | _, _ => none
theorem c_max2 (hc : X.calm = true) : Cal2 .S X T (.builtin "max") max2D := cal2_of (call_max2 hc) fun F H v w d e Q hF rx ry q => by
  cases d <;> cases e <;> try exact q.elim
  rename_i i j
  rw [top_int rx, top_int ry]
  refine ⟨i, j, rfl, ?_⟩
  have : (if j > i then j else i) = max i j := by rw [Int.max_def]; split <;> split <;> omega
  rw [this]
  exact q.imm (.int _)
theorem c_min2 (hc : X.calm = true) : Cal2 .S X T (.builtin "min") min2D := cal2_of (call_min2 hc) fun F H v w d e Q hF rx ry q => by
  cases d <;> cases e <;> try exact q.elim
  rename_i i j
  rw [top_int rx, top_int ry]
  refine ⟨i, j, rfl, ?_⟩
  have : (if j < i then j else i) = min i j := by rw [Int.min_def]; split <;> split <;> omega
  rw [this]
  exact q.imm (.int _)
/-- sorted ints -/
def insI (i : Int) : List Int → List Int
  | [] => [i]
  | j :: r => if i ≤ j then i :: j :: r else j :: insI i r
def sortI : List Int → List Int
  | [] => []
  | i :: r => insI i (sortI r)
theorem insI_perm (i : Int) : ∀ l, (insI i l).Perm (i :: l)
  | [] => .refl _
  | j :: r => by
    unfold insI
    split
    · exact .refl _
    · exact ((insI_perm i r).cons j).trans (List.Perm.swap i j r)
theorem sortI_perm : ∀ l, (sortI l).Perm l
  | [] => .refl _
  | i :: r => (insI_perm i _).trans ((sortI_perm r).cons i)
theorem insI_sorted (i : Int) : ∀ l : List Int, l.Pairwise (· ≤ ·) → (insI i l).Pairwise (· ≤ ·)
  | [], _ => by unfold insI; simp
  | j :: r, h => by
    unfold insI
    have hj := List.pairwise_cons.mp h
    split
    · rename_i hij
      exact List.pairwise_cons.mpr ⟨fun y hy => by
        rcases List.mem_cons.mp hy with e | e
        · rw [e]; exact hij
        · exact Int.le_trans hij (hj.1 y e), h⟩
    · rename_i hij
      refine List.pairwise_cons.mpr ⟨fun y hy => ?_, insI_sorted i r hj.2⟩
      rcases List.mem_cons.mp ((insI_perm i r).mem_iff.mp hy) with e | e
      · rw [e]; omega
      · exact hj.1 y e
theorem sortI_sorted : ∀ l : List Int, (sortI l).Pairwise (· ≤ ·)
  | [] => .nil
  | i :: r => insI_sorted i _ (sortI_sorted r)
theorem sorted_uniq {a b : List Int} (p : a.Perm b) (ha : a.Pairwise (· ≤ ·)) (hb : b.Pairwise (· ≤ ·)) : a = b :=
  p.eq_of_pairwise (fun _ _ _ _ h1 h2 => Int.le_antisymm h1 h2) ha hb
def sortedD (d : D) : Option D := ((lstOf d).bind intsOf).map fun is => .lst ((sortI is).map D.int)
theorem c_sorted : Cal1 .O X T (.builtin "sorted") sortedD := cal1_of cr_sortedI fun F H v d Q hF rx q => by
  unfold sortedD at q
  cases e : (lstOf d).bind intsOf with
  | none => rw [e] at q; exact q.elim
  | some is =>
    rw [e] at q
    obtain ⟨a, e1, h1⟩ := top_ints e rx
    rw [e1]
    refine ⟨a, is, rfl, h1, fun ns' p hp hs hn => ?_⟩
    have en : ns' = sortI is := sorted_uniq (hp.trans (sortI_perm is).symm) hs (sortI_sorted is)
    subst en
    obtain ⟨s, r⟩ := newO (T := T) hn hF (reps_ints (K := X.K) (F := F) (H := H) (sortI is))
    exact q F _ _ s r

/-! ### methods of texts -/
/-- sep.join(list) -/
def joinD (a : List Nat) (d : D) : Option D := ((seqOf d).bind strsOf).bind fun ys => if (ys.map (·.length)).sum + ys.length * a.length ≤ 16777216 then some (.str (TL.joinL a ys)) else none
/-- a text is wanted -/
def strR {α : Type} (x : D) (k : List Nat → R α) : R α := match x with | .str a => k a | _ => .st
@[simp] theorem strR_str {α : Type} (a : List Nat) (k : List Nat → R α) : strR (.str a) k = k a := rfl
theorem okc_join {a : List Nat} (ha : Okc a) : ∀ {ys : List (List Nat)}, (∀ s ∈ ys, Okc s) → Okc (TL.joinL a ys)
  | [], _ => fun c hc => nomatch hc
  | [p], h => h p List.mem_cons_self
  | p :: q :: r, h => okc_app (h p List.mem_cons_self) (okc_app ha (okc_join ha fun s hs => h s (List.mem_cons_of_mem _ hs)))
theorem SS_join (a : List Nat) (ys : List (List Nat)) : Txt.join (SS a) (ys.map SS) = SS (TL.joinL a ys) := by
  rw [TL.join_eq]
  refine TL.ext_tl ?_
  rw [TL.tl_join, List.map_map]
  have : (TL.tl ∘ SS) = id := by funext s; rfl
  rw [this, List.map_id]
  rfl
theorem de_join {apos : Pos} (ha : DE .B X T W env a ma) (hb : DE .B X T W env b mb) (hs : starEach [b] X.env = [(false, eval b X.env)] := by kernel_rfl) (hbase : attributeBase a "join" X.env (eval a X.env) = eval a X.env := by kernel_rfl) (hline : (apos.endLine == pos.line) = true := by kernel_rfl) :
    DE .S X T W env (.Call (.Attribute a "join" apos) [b] [] pos) (ma.bind fun x => strR x fun x => mb.bind fun y => R.lift (joinD x y)) := fun F σ H Q I q => by
  refine (pe_join (pos := pos) (apos := apos) pe_wp pe_wp hs hbase hline).wp ?_
  refine runEE ha I q fun x F1 vx H1 s1 rx q1 => ?_
  cases x <;> try exact q1.elim
  rename_i sa
  obtain ⟨e1, o1⟩ := top_str (RepM.toB (md := .B) (H1 := H) rx)
  subst e1
  refine ⟨⟨_, rfl⟩, ?_⟩
  refine runEE hb (I.stp s1) q1 fun y F2 vy H2 s2 ry q2 => ?_
  unfold joinD at q2
  cases e : (seqOf y).bind strsOf with
  | none => rw [e] at q2; exact q2.elim
  | some ys =>
    rw [e] at q2
    by_cases hl : (ys.map (·.length)).sum + ys.length * sa.length ≤ 16777216
    · rw [show ((some ys).bind fun ys => if (ys.map (·.length)).sum + ys.length * sa.length ≤ 16777216 then some (D.str (TL.joinL sa ys)) else none) = some (D.str (TL.joinL sa ys)) from if_pos hl] at q2
      have fin : ∀ {p : Addr} {vs : List V}, (SqL X.K H2 p vs ∨ SqT X.K H2 p vs) → Reps X.K F2 H2 vs (ys.map D.str) →
          ∃ a p', ∃ ys : List Str, V.str (SS sa) = .str a ∧ [V.ref p] = [.ref p'] ∧ (SqL X.K H2 p' (ys.map V.str) ∨ SqT X.K H2 p' (ys.map V.str)) ∧ (ys.map (·.length)).sum + ys.length * a.length ≤ 16777216 ∧ Q (.str (Txt.join a ys)) H2 := by
        intro p vs hp r
        refine ⟨SS sa, p, ys.map SS, rfl, rfl, by rw [← r.strs]; exact hp, ?_, ?_⟩
        · rw [List.map_map, List.length_map, SS_len, show ((fun s : Str => s.length) ∘ SS) = List.length from by funext s; exact SS_len s]
          exact hl
        · rw [SS_join]
          exact q2.lift.imm (.str _ (okc_join o1 r.strOk))
      cases y <;> try (cases e; done)
      · obtain ⟨p, vs, e1, h1, r1⟩ := top_tup ry
        have ey := strsOf_eq e
        subst ey
        subst e1
        exact fin (.inr h1) r1
      · obtain ⟨p, vs, e1, h1, r1⟩ := top_lst ry
        have ey := strsOf_eq e
        subst ey
        subst e1
        exact fin (.inl (.inl h1)) r1
    · rw [show ((some ys).bind fun ys => if (ys.map (·.length)).sum + ys.length * sa.length ≤ 16777216 then some (D.str (TL.joinL sa ys)) else none) = none from if_neg hl] at q2
      exact q2.elim
end
end DL

-- DL4
set_option Elab.async false
set_option linter.all false
set_option maxRecDepth 100000
set_option maxHeartbeats 4000000
/-! The data layer: defs, statements. -/
namespace DL
open PySem PySem.Spec PyProof.Rows L2

/-! ### what a statement comes to -/
inductive O (τ ρ : Type) where
  | nx (s : τ) | rt (d : D) (us : List D) | bk (s : ρ) | ct (s : ρ) | xc (c : Str) | st
namespace O
variable {τ ρ α τ' : Type}
def ofR : R α → (α → O τ ρ) → O τ ρ
  | .ok a, f => f a
  | .ex c, _ => .xc c
  | .st, _ => .st
def seq : O τ ρ → (τ → O τ' ρ) → O τ' ρ
  | .nx s, f => f s
  | .rt d us, _ => .rt d us
  | .bk s, _ => .bk s
  | .ct s, _ => .ct s
  | .xc c, _ => .xc c
  | .st, _ => .st
def toR : O τ ρ → R D
  | .nx _ => .ok .non
  | .rt d _ => .ok d
  | .xc c => .ex c
  | _ => .st
@[simp] theorem ofR_ok (a : α) (f : α → O τ ρ) : O.ofR (R.ok a) f = f a := rfl
@[simp] theorem ofR_ex (c : Str) (f : α → O τ ρ) : O.ofR (R.ex c) f = .xc c := rfl
@[simp] theorem ofR_st (f : α → O τ ρ) : O.ofR R.st f = .st := rfl
@[simp] theorem seq_nx (s : τ) (f : τ → O τ' ρ) : (O.nx s : O τ ρ).seq f = f s := rfl
@[simp] theorem seq_rt (d : D) (us : List D) (f : τ → O τ' ρ) : (O.rt d us : O τ ρ).seq f = .rt d us := rfl
@[simp] theorem seq_bk (s : ρ) (f : τ → O τ' ρ) : (O.bk s : O τ ρ).seq f = .bk s := rfl
@[simp] theorem seq_ct (s : ρ) (f : τ → O τ' ρ) : (O.ct s : O τ ρ).seq f = .ct s := rfl
@[simp] theorem seq_xc (c : Str) (f : τ → O τ' ρ) : (O.xc c : O τ ρ).seq f = .xc c := rfl
@[simp] theorem seq_st (f : τ → O τ' ρ) : (O.st : O τ ρ).seq f = .st := rfl
@[simp] theorem toR_nx (s : τ) : (O.nx s : O τ ρ).toR = .ok .non := rfl
@[simp] theorem toR_rt (d : D) (us : List D) : (O.rt d us : O τ ρ).toR = .ok d := rfl
@[simp] theorem toR_xc (c : Str) : (O.xc c : O τ ρ).toR = .ex c := rfl
@[simp] theorem toR_st : (O.st : O τ ρ).toR = .st := rfl
end O

/-- what stood at the entry of a def: data in F0, the heap H0, the objects A that are handed in to be changed -/
structure Gh where
  F0 : Addr → Prop
  H0 : Hp
  A : List Addr
/-- weaker knowledge of the slots -/
inductive Wk : List Sl → List Sl → Prop
  | nil : Wk [] []
  | eq {s : Sl} {a b : List Sl} : Wk a b → Wk (s :: a) (s :: b)
  | no {s : Sl} {a b : List Sl} : Wk a b → Wk (s :: a) (.no :: b)
theorem Wk.refl : ∀ {a : List Sl}, Wk a a
  | [] => .nil
  | _ :: _ => .eq Wk.refl
theorem Wk.length : ∀ {a b : List Sl}, Wk a b → a.length = b.length
  | _, _, .nil => rfl
  | _, _, .eq t => by rw [List.length_cons, List.length_cons, Wk.length t]
  | _, _, .no t => by rw [List.length_cons, List.length_cons, Wk.length t]
theorem Wk.get : ∀ {a b : List Sl} {i : Nat} {s : Sl}, Wk a b → b[i]? = some s → (s = .no ∧ ∃ s', a[i]? = some s') ∨ a[i]? = some s
  | _, _, _, _, .nil, h => by simp at h
  | _, _, 0, _, .eq _, h => .inr h
  | _, _, 0, _, .no _, h => .inl ⟨by simpa using h.symm, _, rfl⟩
  | _, _, i + 1, _, .eq t, h => by simpa using Wk.get (i := i) t (by simpa using h)
  | _, _, i + 1, _, .no t, h => by simpa using Wk.get (i := i) t (by simpa using h)
theorem Wk.nos {n : Nat} : ∀ {a : List Sl}, a.length = n → Wk a (List.replicate n .no)
  | [], h => by subst h; exact .nil
  | _ :: a, h => by subst h; exact .no (Wk.nos rfl)
theorem ER.wk {K : PySem.W.Frag} {T : Tb} {F : Addr → Prop} {σ : Sg} {H : Hp} {a b : List Sl} (I : ER K T F σ H a) (w : Wk a b) : ER K T F σ H b where
  len := I.len.trans w.length
  slots := fun i sl e => by
    rcases w.get e with ⟨rfl, s', h⟩ | h
    · obtain ⟨x, h1, _⟩ := I.slots i s' h
      exact ⟨x, h1, trivial⟩
    · exact I.slots i sl h
  nd := fun i j p hi hj => by
    obtain ⟨⟨d, e1⟩, e2⟩ := hi
    obtain ⟨⟨d', e3⟩, e4⟩ := hj
    rcases w.get e1 with ⟨z, _⟩ | h1
    · cases z
    · rcases w.get e3 with ⟨z, _⟩ | h2
      · cases z
      · exact I.nd i j p ⟨⟨d, h1⟩, e2⟩ ⟨⟨d', h2⟩, e4⟩
  nf := fun i p hi => by
    obtain ⟨⟨d, e1⟩, e2⟩ := hi
    rcases w.get e1 with ⟨z, _⟩ | h1
    · cases z
    · exact I.nf i p ⟨⟨d, h1⟩, e2⟩
  ftr := I.ftr
  tabs := I.tabs
/-- the slots at ip hold the objects A -/
inductive IoAt (σ : Sg) : List Nat → List Addr → Prop
  | nil : IoAt σ [] []
  | cons {i : Nat} {a : Addr} {ip : List Nat} {A : List Addr} : σ[i]? = some (some (.ref a)) → IoAt σ ip A → IoAt σ (i :: ip) (a :: A)
theorem IoAt.mono {σ σ' : Sg} : ∀ {ip : List Nat} {A : List Addr}, IoAt σ ip A → (∀ i ∈ ip, σ'[i]? = σ[i]?) → IoAt σ' ip A
  | _, _, .nil, _ => .nil
  | _, _, .cons h t, k => .cons (by rw [k _ List.mem_cons_self]; exact h) (IoAt.mono t fun i hi => k i (List.mem_cons_of_mem _ hi))
structure ER2 (K : PySem.W.Frag) (T : Tb) (G : Gh) (ip : List Nat) (F : Addr → Prop) (σ : Sg) (H : Hp) (env : List Sl) : Prop where
  er : ER K T F σ H env
  inc : ∀ a, G.F0 a → F a
  new : ∀ a, F a → G.F0 a ∨ ¬ Dat G.H0 a
  keep : ∀ b o, G.H0 b = some o → NoTbl o → b ∉ G.A → H b = some o
  there : ∀ b, Dat G.H0 b → Dat H b
  tape : ∀ a, TapeOk G.F0 G.H0 a → TapeOk F H a
  own : ∀ i a, OwnI σ env i a → ¬ Dat G.H0 a ∨ a ∈ G.A
  io : IoAt σ ip G.A
/-- the objects A hold us -/
inductive OwnsAt (K : PySem.W.Frag) (F : Addr → Prop) (H : Hp) : List Addr → List D → Prop
  | nil : OwnsAt K F H [] []
  | cons {a : Addr} {d : D} {A : List Addr} {us : List D} : OwnAt K F H a d → OwnsAt K F H A us → OwnsAt K F H (a :: A) (d :: us)
/-- from the entry to a return -/
structure StpR (T : Tb) (G : Gh) (F' : Addr → Prop) (H' : Hp) : Prop where
  inc : ∀ a, G.F0 a → F' a
  new : ∀ a, F' a → G.F0 a ∨ ¬ Dat G.H0 a
  keep : ∀ b o, G.H0 b = some o → NoTbl o → b ∉ G.A → H' b = some o
  there : ∀ b, Dat G.H0 b → Dat H' b
  tape : ∀ a, TapeOk G.F0 G.H0 a → TapeOk F' H' a
  tabs : LamX.Tabs T H'
  ftr : ∀ a, F' a → Dat H' a

section
variable {K : PySem.W.Frag} {T : Tb} {G : Gh} {ip : List Nat} {F F' : Addr → Prop} {σ σ' : Sg} {H H' : Hp} {env env' : List Sl} {a : Addr} {v : V} {d : D}
theorem ER2.stp (I : ER2 K T G ip F σ H env) (s : Stp T F H F' H') : ER2 K T G ip F' σ H' env where
  er := I.er.stp s
  inc := fun a h => s.inc a (I.inc a h)
  new := fun a h => by
    rcases s.new a h with h | h
    · exact I.new a h
    · exact .inr fun z => h (I.there a z)
  keep := fun b o e n hb => s.keep b o (I.keep b o e n hb) n
  there := fun b h => s.there b (I.there b h)
  tape := fun a h => s.tape a (I.tape a h)
  own := I.own
  io := I.io
theorem ER2.wk (I : ER2 K T G ip F σ H env) (w : Wk env env') : ER2 K T G ip F σ H env' :=
  ⟨I.er.wk w, I.inc, I.new, I.keep, I.there, I.tape, fun i a ⟨⟨d, e1⟩, e2⟩ => by
    rcases w.get e1 with ⟨z, _⟩ | h1
    · cases z
    · exact I.own i a ⟨⟨d, h1⟩, e2⟩, I.io⟩
theorem ER2.nos (I : ER2 K T G ip F σ H env) : ER2 K T G ip F σ H (List.replicate σ.length .no) := I.wk (Wk.nos I.er.len.symm)
theorem ER2.stpR (I : ER2 K T G ip F σ H env) : StpR T G F H := ⟨I.inc, I.new, I.keep, I.there, I.tape, I.er.tabs, I.er.ftr⟩
theorem ER2.back (I : ER2 K T G ip F σ H env) (h : ¬ Dat H a) : ¬ Dat G.H0 a := fun z => h (I.there a z)
theorem getSet {α : Type} {l : List α} {i j : Nat} {x y : α} (h : (l.set i x)[j]? = some y) : (j = i ∧ y = x) ∨ (j ≠ i ∧ l[j]? = some y) := by
  by_cases e : j = i
  · subst e
    by_cases hl : j < l.length
    · rw [List.getElem?_set_self hl] at h
      exact .inl ⟨rfl, (Option.some.inj h).symm⟩
    · rw [List.getElem?_eq_none (by simpa using Nat.le_of_not_lt hl)] at h
      cases h
  · rw [List.getElem?_set_ne (Ne.symm e)] at h
    exact .inr ⟨e, h⟩
/-- a slot gets shared data -/
theorem ER.set_sh {i : Nat} (I : ER K T F σ H env) (r : Rep K F H v d) : ER K T F (σ.set i (some v)) H (env.set i (.sh d)) where
  len := by rw [List.length_set, List.length_set]; exact I.len
  slots := fun j sl e => by
    rcases getSet e with ⟨rfl, rfl⟩ | ⟨hj, e⟩
    · have hl : j < env.length := by
        by_cases hl : j < env.length
        · exact hl
        · rw [List.getElem?_eq_none (by simpa using Nat.le_of_not_lt hl)] at e; cases e
      exact ⟨some v, List.getElem?_set_self (by rw [I.len]; exact hl), v, rfl, r⟩
    · obtain ⟨x, h1, h2⟩ := I.slots j sl e
      exact ⟨x, by rw [List.getElem?_set_ne (Ne.symm hj)]; exact h1, h2⟩
  nd := fun j k p hj hk => by
    obtain ⟨⟨dj, e1⟩, e2⟩ := hj
    obtain ⟨⟨dk, e3⟩, e4⟩ := hk
    rcases getSet e1 with ⟨_, z⟩ | ⟨n1, e1⟩
    · cases z
    · rcases getSet e3 with ⟨_, z⟩ | ⟨n2, e3⟩
      · cases z
      · rw [List.getElem?_set_ne (Ne.symm n1)] at e2
        rw [List.getElem?_set_ne (Ne.symm n2)] at e4
        exact I.nd j k p ⟨⟨dj, e1⟩, e2⟩ ⟨⟨dk, e3⟩, e4⟩
  nf := fun j p hj => by
    obtain ⟨⟨dj, e1⟩, e2⟩ := hj
    rcases getSet e1 with ⟨_, z⟩ | ⟨n1, e1⟩
    · cases z
    · rw [List.getElem?_set_ne (Ne.symm n1)] at e2
      exact I.nf j p ⟨⟨dj, e1⟩, e2⟩
  ftr := I.ftr
  tabs := I.tabs
theorem ER2.set_sh {i : Nat} (I : ER2 K T G ip F σ H env) (r : Rep K F H v d) (hi : i ∉ ip) : ER2 K T G ip F (σ.set i (some v)) H (env.set i (.sh d)) :=
  ⟨I.er.set_sh r, I.inc, I.new, I.keep, I.there, I.tape, fun j p ⟨⟨dj, e1⟩, e2⟩ => by
    rcases getSet e1 with ⟨_, z⟩ | ⟨n1, e1⟩
    · cases z
    · rw [List.getElem?_set_ne (Ne.symm n1)] at e2
      exact I.own j p ⟨⟨dj, e1⟩, e2⟩, I.io.mono fun j hj => List.getElem?_set_ne (fun e => hi (by rw [e]; exact hj))⟩
/-- a slot gets an object of its own, new -/
theorem ER.set_ow {i : Nat} (I : ER K T F σ H env) (o : OwnAt K F H a d) (nf : ¬ F a) (nn : ∀ j, ¬ OwnI σ env j a) : ER K T F (σ.set i (some (.ref a))) H (env.set i (.ow d)) where
  len := by rw [List.length_set, List.length_set]; exact I.len
  slots := fun j sl e => by
    rcases getSet e with ⟨rfl, rfl⟩ | ⟨hj, e⟩
    · have hl : j < env.length := by
        by_cases hl : j < env.length
        · exact hl
        · rw [List.getElem?_eq_none (by simpa using Nat.le_of_not_lt hl)] at e; cases e
      exact ⟨some (.ref a), List.getElem?_set_self (by rw [I.len]; exact hl), a, rfl, o⟩
    · obtain ⟨x, h1, h2⟩ := I.slots j sl e
      exact ⟨x, by rw [List.getElem?_set_ne (Ne.symm hj)]; exact h1, h2⟩
  nd := fun j k p hj hk => by
    obtain ⟨⟨dj, e1⟩, e2⟩ := hj
    obtain ⟨⟨dk, e3⟩, e4⟩ := hk
    rcases getSet e1 with ⟨rfl, _⟩ | ⟨n1, e1'⟩
    · rcases getSet e2 with ⟨_, z⟩ | ⟨n, _⟩
      · cases z
        rcases getSet e3 with ⟨rfl, _⟩ | ⟨n2, e3⟩
        · rfl
        · rw [List.getElem?_set_ne (Ne.symm n2)] at e4
          exact absurd ⟨⟨dk, e3⟩, e4⟩ (nn k)
      · exact absurd rfl n
    · rw [List.getElem?_set_ne (Ne.symm n1)] at e2
      rcases getSet e3 with ⟨rfl, _⟩ | ⟨n2, e3'⟩
      · rcases getSet e4 with ⟨_, z⟩ | ⟨n, _⟩
        · cases z
          exact absurd ⟨⟨dj, e1'⟩, e2⟩ (nn j)
        · exact absurd rfl n
      · rw [List.getElem?_set_ne (Ne.symm n2)] at e4
        exact I.nd j k p ⟨⟨dj, e1'⟩, e2⟩ ⟨⟨dk, e3'⟩, e4⟩
  nf := fun j p hj => by
    obtain ⟨⟨dj, e1⟩, e2⟩ := hj
    rcases getSet e1 with ⟨rfl, _⟩ | ⟨n1, e1⟩
    · rcases getSet e2 with ⟨_, z⟩ | ⟨n, _⟩
      · cases z; exact nf
      · exact absurd rfl n
    · rw [List.getElem?_set_ne (Ne.symm n1)] at e2
      exact I.nf j p ⟨⟨dj, e1⟩, e2⟩
  ftr := I.ftr
  tabs := I.tabs
theorem ER2.set_ow {i : Nat} (I : ER2 K T G ip F σ H env) (o : OwnAt K F H a d) (nf : ¬ F a) (nn : ∀ j, ¬ OwnI σ env j a) (h0 : ¬ Dat G.H0 a) (hi : i ∉ ip) : ER2 K T G ip F (σ.set i (some (.ref a))) H (env.set i (.ow d)) :=
  ⟨I.er.set_ow o nf nn, I.inc, I.new, I.keep, I.there, I.tape, fun j p ⟨⟨dj, e1⟩, e2⟩ => by
    rcases getSet e1 with ⟨rfl, _⟩ | ⟨n1, e1⟩
    · rcases getSet e2 with ⟨_, z⟩ | ⟨n, _⟩
      · cases z; exact .inl h0
      · exact absurd rfl n
    · rw [List.getElem?_set_ne (Ne.symm n1)] at e2
      exact I.own j p ⟨⟨dj, e1⟩, e2⟩, I.io.mono fun j hj => List.getElem?_set_ne (fun e => hi (by rw [e]; exact hj))⟩
/-- what is one's own is changed -/
theorem upd_rep {p : Addr} {o : HO} (nf : ¬ F p) (hm : ∀ u, H p = some u → (∀ xs, u ≠ .tup xs) ∧ (∀ ob w, u ≠ .frz ob w) ∧ ¬ TapeO u) : Grow F H F (upd H p o) :=
  ⟨fun _ h => h, fun b u hb e _ => by rw [upd_ne (fun z => nf (by rw [← z]; exact hb))]; exact e,
    fun b xs e => by rw [upd_ne (fun z => by subst z; exact (hm _ e).1 xs rfl)]; exact e,
    fun b ob w e => by rw [upd_ne (fun z => by subst z; exact (hm _ e).2.1 ob w rfl)]; exact e,
    fun b h => h.upd (fun z => by subst z; obtain ⟨c, cs, i, l, s, t, e, _⟩ := h; exact (hm _ e).2.2 (tapeO_kvs ..)) nf⟩
theorem OwnAt.kind {d : D} (o : OwnAt K F H a d) : ∀ u, H a = some u → (∀ xs, u ≠ .tup xs) ∧ (∀ ob w, u ≠ .frz ob w) ∧ ¬ TapeO u := fun u e => by
  cases d with
  | lst xs => obtain ⟨vs, h, _⟩ := o; rw [h] at e; cases e; exact ⟨fun _ z => (by cases z), fun _ _ z => (by cases z), (noTbl_lst _).2⟩
  | dic xs => obtain ⟨vs, h, n, _⟩ := o; rw [h] at e; cases e; exact ⟨fun _ z => (by cases z), fun _ _ z => (by cases z), n.2⟩
  | _ => exact o.elim
theorem OwnAt.notbl {d : D} (o : OwnAt K F H a d) : ∀ ps, H a ≠ some (.tbl ps) := fun ps e => by
  cases d with
  | lst xs => obtain ⟨vs, h, _⟩ := o; rw [h] at e; cases e
  | dic xs => obtain ⟨vs, h, _⟩ := o; rw [h] at e; cases e
  | _ => exact o.elim
/-- code objects are no data -/
theorem tabs_write {T : Tb} {p : Addr} {o : HO} {d : D} (t : LamX.Tabs T H) (ho : OwnAt K F H p d) : LamX.Tabs T (upd H p o) := fun q hq => by
  obtain ⟨ps, h1, h2, h3⟩ := t q hq
  refine ⟨ps, ?_, h2, fun pos cv hc => ?_⟩
  · rw [upd_ne (fun z => by rw [z] at h1; exact ho.notbl ps h1)]; exact h1
  · obtain ⟨c, e1, e2⟩ := h3 pos cv hc
    refine ⟨c, e1, ?_⟩
    rw [upd_ne (fun z => ?_)]
    · exact e2
    · subst z
      cases d with
      | lst xs => obtain ⟨vs, h, _⟩ := ho; rw [h] at e2; unfold LamX.CodeO at e2; cases e2
      | dic xs => obtain ⟨vs, h, _⟩ := ho; rw [h] at e2; unfold LamX.CodeO at e2; cases e2
      | _ => exact ho.elim
theorem OwnAt.grow {d : D} {b : Addr} (g : Grow F H F H') (hb : H' b = H b) (o : OwnAt K F H b d) : OwnAt K F H' b d := by
  cases d with
  | lst xs => obtain ⟨vs, h, r⟩ := o; exact ⟨vs, by rw [hb]; exact h, r.mono g⟩
  | dic xs => obtain ⟨vs, h, n, r⟩ := o; exact ⟨vs, by rw [hb]; exact h, n, r.mono g⟩
  | _ => exact o.elim
theorem ER2.write {i : Nat} {o : HO} {d d' : D} (I : ER2 K T G ip F σ H env) (he : env[i]? = some (.ow d)) (hs : σ[i]? = some (some (.ref a)))
    (ho' : OwnAt K F (upd H a o) a d') : ER2 K T G ip F σ (upd H a o) (env.set i (.ow d')) := by
  have hi : OwnI σ env i a := ⟨⟨d, he⟩, hs⟩
  obtain ⟨d0, e0, ho⟩ := I.er.own hi
  rw [he] at e0; cases e0
  have nf := I.er.nf i a hi
  have g : Grow F H F (upd H a o) := upd_rep nf ho.kind
  have hil : i < env.length := by
    by_cases hl : i < env.length
    · exact hl
    · rw [List.getElem?_eq_none (by simpa using Nat.le_of_not_lt hl)] at he; cases he
  have ow' : ∀ j p, OwnI σ (env.set i (.ow d')) j p → OwnI σ env j p := fun j p ⟨⟨dj, e1⟩, e2⟩ => by
    rcases getSet e1 with ⟨rfl, _⟩ | ⟨n1, e1⟩
    · exact ⟨⟨d, he⟩, e2⟩
    · exact ⟨⟨dj, e1⟩, e2⟩
  have datU : ∀ b, Dat H b → Dat (upd H a o) b := fun b h => by
    by_cases z : b = a
    · subst z; exact ho'.tr
    · obtain ⟨u, e, n⟩ := h; exact ⟨u, by rw [upd_ne z]; exact e, n⟩
  refine ⟨⟨by rw [List.length_set]; exact I.er.len, fun j sl e => ?_, fun j k p hj hk => I.er.nd j k p (ow' j p hj) (ow' k p hk), fun j p hj => I.er.nf j p (ow' j p hj), fun b hb => datU b (I.er.ftr b hb), tabs_write I.er.tabs ho⟩,
    I.inc, I.new, fun b u e n hb => ?_, fun b h => datU b (I.there b h), fun b h => g.tape b (I.tape b h), fun j p hj => I.own j p (ow' j p hj), I.io⟩
  · rcases getSet e with ⟨rfl, rfl⟩ | ⟨hj, e⟩
    · exact ⟨_, hs, a, rfl, ho'⟩
    · obtain ⟨x, h1, h2⟩ := I.er.slots j sl e
      refine ⟨x, h1, ?_⟩
      cases sl with
      | no => trivial
      | sh d => obtain ⟨v, e1, r⟩ := h2; exact ⟨v, e1, r.mono g⟩
      | ow dj =>
        obtain ⟨p, e1, r⟩ := h2
        refine ⟨p, e1, r.grow g (upd_ne fun z => ?_)⟩
        subst z
        exact hj (I.er.nd j i p ⟨⟨dj, e⟩, by rw [h1, e1]⟩ hi)
  · rw [upd_ne (fun z => ?_)]
    · exact I.keep b u e n hb
    · subst z
      rcases I.own i b hi with h | h
      · exact h ⟨u, e, n.1⟩
      · exact hb h
theorem ER2.write_grow {i : Nat} {o : HO} {d : D} (I : ER2 K T G ip F σ H env) (he : env[i]? = some (.ow d)) (hs : σ[i]? = some (some (.ref a))) : Grow F H F (upd H a o) := by
  have hi : OwnI σ env i a := ⟨⟨d, he⟩, hs⟩
  obtain ⟨d0, e0, ho⟩ := I.er.own hi
  exact upd_rep (I.er.nf i a hi) ho.kind
end

/-! ### the judgement of statements -/
@[irreducible] def wpS (X : Cx) (ss : List Stmt) : TS := fun D σ H => ∀ pins s, Inv X pins σ H s → wpAny (model X.prog X.w) X.A (execs ss X.env) (SP X pins D) X.xe s
theorem ps_wp {X : Cx} {ss : List Stmt} : PSs X ss (wpS X ss) := ⟨fun pins s _ _ _ I h => by unfold wpS at h; exact h pins s I⟩
theorem _root_.L2.PSs.wp {X : Cx} {ss : List Stmt} {t : TS} (h : PSs X ss t) {D : Ends} {σ : Sg} {H : Hp} (q : t D σ H) : wpS X ss D σ H := by unfold wpS; exact fun pins s I => h.run pins s σ H D I q
theorem wpS_cons {X : Cx} {st : Stmt} {ss : List Stmt} {t : TS} (h : PS X st t) {D : Ends} {σ : Sg} {H : Hp} (q : t { D with nx := wpS X ss D } σ H) : wpS X (st :: ss) D σ H := (pss_cons h ps_wp).wp q

def PostS {τ ρ : Type} (X : Cx) (T : Tb) (W : WX) (G : Gh) (ip : List Nat) (rm : Md) (inj : τ → List Sl) (injL : ρ → List Sl) (envX : List Sl) (F : Addr → Prop) (H : Hp) (m : O τ ρ) (D : Ends) : Prop :=
  match m with
  | .nx s => ∀ F' σ' H', ER2 X.K T G ip F' σ' H' (inj s) → Grow F H F' H' → D.nx σ' H'
  | .rt d us => ∀ F' v H', StpR T G F' H' → RepM X.K F' H' rm G.H0 v d → OwnsAt X.K F' H' G.A us → D.rt v H'
  | .bk s => ∀ F' σ' H', ER2 X.K T G ip F' σ' H' (injL s) → Grow F H F' H' → D.bk σ' H'
  | .ct s => ∀ F' σ' H', ER2 X.K T G ip F' σ' H' (injL s) → Grow F H F' H' → D.ct σ' H'
  | .xc c => ∀ F' C dd σ' H', ER2 X.K T G ip F' σ' H' (List.replicate σ'.length .no) → X.mg c = some (.ref C) → W (.ref C) dd σ' H'
  | .st => False
/-- statements from env come to m -/
def DS {τ ρ : Type} (X : Cx) (T : Tb) (W : WX) (ip : List Nat) (rm : Md) (inj : τ → List Sl) (injL : ρ → List Sl) (envX env : List Sl) (ss : List Stmt) (m : O τ ρ) : Prop :=
  ∀ G F σ H D, ER2 X.K T G ip F σ H env → PostS X T W G ip rm inj injL envX F H m D → wpS X ss D σ H

section
variable {X : Cx} {T : Tb} {W : WX} {ip : List Nat} {rm : Md} {τ ρ τ' : Type} {inj : τ → List Sl} {injL : ρ → List Sl} {envX env : List Sl} {G : Gh} {F F' : Addr → Prop} {σ : Sg} {H H' : Hp} {ss : List Stmt} {e : Expr} {me : R D} {md : Md} {pos : Pos}
theorem PostS.grow {m : O τ ρ} {D : Ends} (g : Grow F H F' H') (h : PostS X T W G ip rm inj injL envX F H m D) : PostS X T W G ip rm inj injL envX F' H' m D := by
  cases m with
  | nx s => exact fun F2 σ2 H2 I g2 => h F2 σ2 H2 I (g.trans g2)
  | rt d us => exact h
  | bk s => exact fun F2 σ2 H2 I g2 => h F2 σ2 H2 I (g.trans g2)
  | ct s => exact fun F2 σ2 H2 I g2 => h F2 σ2 H2 I (g.trans g2)
  | xc c => exact h
  | st => exact h
/-- an expression in a statement -/
theorem runS {Q1 : VK} {f : D → O τ ρ} {D : Ends} (he : DE md X T W env e me) (wx : True) (I : ER2 X.K T G ip F σ H env) (h : PostS X T W G ip rm inj injL envX F H (O.ofR me f) D)
    (k : ∀ d F' v H', Stp T F H F' H' → RepM X.K F' H' md H v d → ER2 X.K T G ip F' σ H' env → PostS X T W G ip rm inj injL envX F' H' (f d) D → Q1 v H') : wpE X e σ H Q1 := by
  refine he F σ H Q1 I.er ?_
  cases me with
  | ok d => exact fun F' v H' s r => k d F' v H' s r (I.stp s) (PostS.grow s.grow h)
  | ex c => exact fun F' C dd H' s hm => h F' C dd σ H' (I.stp s).nos hm
  | st => exact h
theorem runST {mt : R Bool} {Q1 : Bool → Hp → Prop} {f : Bool → O τ ρ} {D : Ends} (he : DT X T W env e mt) (wx : True) (I : ER2 X.K T G ip F σ H env) (h : PostS X T W G ip rm inj injL envX F H (O.ofR mt f) D)
    (k : ∀ b F' H', Stp T F H F' H' → ER2 X.K T G ip F' σ H' env → PostS X T W G ip rm inj injL envX F' H' (f b) D → Q1 b H') : wpT X e σ H Q1 := by
  refine he F σ H Q1 I.er ?_
  cases mt with
  | ok b => exact fun F' H' s => k b F' H' s (I.stp s) (PostS.grow s.grow h)
  | ex c => exact fun F' C dd H' s hm => h F' C dd σ H' (I.stp s).nos hm
  | st => exact h

theorem dss_nil {s : τ} (w : Wk env (inj s)) : DS X T W ip rm inj injL envX env [] (.nx s) := fun G F σ H D I h => pss_nil.wp (h F σ H (I.wk w) .refl)
/-- x = e, shared -/
theorem dss_set {i : Nat} {x : Str} {p' : Pos} {f : D → O τ ρ} (he : DE .S X T W env e me) (hr : ∀ d, DS X T W ip rm inj injL envX (env.set i (.sh d)) ss (f d)) (wx : True) (hN : X.N.Nodup) (hi : X.N[i]? = some x := by kernel_rfl)
    (hx : Loc X.env.scope x := by exact loc_of (by kernel_rfl)) (hip : i ∉ ip := by decide) (hs : swapsWith e (some (.Name x p')) pos.line X.env = pure false := by kernel_rfl) (hf : X.fn x = true ∨ X.env.scope.names.lookup x = some .local := by first | exact .inl rfl | exact .inr rfl) :
    DS X T W ip rm inj injL envX env (.Assign [.Name x p'] e pos :: ss) (O.ofR me f) := fun G F σ H D I h => by
  refine wpS_cons (ps_set (pos := pos) (pos' := p') hN hi hx pe_wp hs hf) ?_
  refine runS he wx I h fun d F1 v H1 s1 r I1 q1 => ?_
  exact hr d G F1 _ H1 D (I1.set_sh r hip) q1
/-- x = e, a new object of one's own -/
theorem dss_setO {i : Nat} {x : Str} {p' : Pos} {f : D → O τ ρ} (he : DE .O X T W env e me) (hr : ∀ d, DS X T W ip rm inj injL envX (env.set i (.ow d)) ss (f d)) (wx : True) (hN : X.N.Nodup) (hi : X.N[i]? = some x := by kernel_rfl)
    (hx : Loc X.env.scope x := by exact loc_of (by kernel_rfl)) (hip : i ∉ ip := by decide) (hs : swapsWith e (some (.Name x p')) pos.line X.env = pure false := by kernel_rfl) (hf : X.fn x = true ∨ X.env.scope.names.lookup x = some .local := by first | exact .inl rfl | exact .inr rfl) :
    DS X T W ip rm inj injL envX env (.Assign [.Name x p'] e pos :: ss) (O.ofR me f) := fun G F σ H D I h => by
  refine wpS_cons (ps_set (pos := pos) (pos' := p') hN hi hx pe_wp hs hf) ?_
  refine runS he wx I h fun d F1 v H1 s1 r I1 q1 => ?_
  obtain ⟨a, rfl, h0, nf, o⟩ := r
  refine hr d G F1 _ H1 D (I1.set_ow o nf (fun j hj => ?_) (I.back h0) hip) q1
  obtain ⟨d', _, o'⟩ := I.er.own hj
  exact h0 o'.tr
/-- a, b = x, y: both sides written, plain names -/
theorem dss_par {i j : Nat} {x y : Str} {a b : Expr} {mas : R (List D)} {px py pt : Pos} {kt k2 : Nat} {pt2 : Pos} {f : D → D → O τ ρ} (ha : DA X T W env [a, b] mas)
    (hr : ∀ c d, DS X T W ip rm inj injL envX ((env.set i (.sh c)).set j (.sh d)) ss (f c d)) (wx : True) (hc : X.calm = true) (hN : X.N.Nodup)
    (hi : X.N[i]? = some x := by kernel_rfl) (hj : X.N[j]? = some y := by kernel_rfl) (hij : i ≠ j := by decide) (hx : X.env.scope.names.lookup x = some .local := by kernel_rfl) (hy : X.env.scope.names.lookup y = some .local := by kernel_rfl) (hip : i ∉ ip := by decide) (hjp : j ∉ ip := by decide)
    (hw : swappedStores [.Tuple [.Name x px, .Name y py] kt pt] (.Tuple [a, b] k2 pt2) X.env = pure (some [x, y]) := by kernel_rfl)
    (hs : swapsWithSole [.Tuple [.Name x px, .Name y py] kt pt] (.Tuple [a, b] k2 pt2) pos.line X.env = pure false := by kernel_rfl) :
    DS X T W ip rm inj injL envX env (.Assign [.Tuple [.Name x px, .Name y py] kt pt] (.Tuple [a, b] k2 pt2) pos :: ss) (O.ofR mas fun ds => match ds with | [c, d] => f c d | _ => .st) := fun G F σ H D I h => by
  refine wpS_cons (ps_par (pos := pos) hc hN hi hj hij hx hy pa_wp hw hs) ?_
  refine ha.run F σ H _ I.er ?_
  have hlen := ha.len
  cases mas with
  | ok ds =>
    intro F' vs H' s r
    have hl := hlen ds rfl
    match ds, hl, r with
    | [c, d], _, .cons r1 (.cons r2 .nil) =>
      exact ⟨_, _, rfl, hr c d G F' _ H' D (((I.stp s).set_sh r1 hip).set_sh r2 hjp) (PostS.grow s.grow h)⟩
  | ex c => exact fun F' C dd H' s hm => h F' C dd σ H' (I.stp s).nos hm
  | st => exact h.elim
/-- if; what follows goes on with the branches' ends -/
theorem dss_if {c : Expr} {a b : List Stmt} {mt : R Bool} {inj1 : τ' → List Sl} {oa ob : O τ' ρ} {f : τ' → O τ ρ} (hc : DT X T W env c mt) (ha : DS X T W ip rm inj1 injL envX env a oa) (hb : DS X T W ip rm inj1 injL envX env b ob)
    (hr : ∀ s, DS X T W ip rm inj injL envX (inj1 s) ss (f s)) (wx : True) : DS X T W ip rm inj injL envX env (.If c a b pos :: ss) ((O.ofR mt fun k => if k = true then oa else ob).seq f) := fun G F σ H D I h => by
  refine wpS_cons (ps_if (pos := pos) pt_wp ps_wp ps_wp) ?_
  have h' : PostS X T W G ip rm inj1 injL envX F H (O.ofR mt fun k => if k = true then oa else ob) { D with nx := wpS X ss D } := by
    revert h
    cases (O.ofR mt fun k => if k = true then oa else ob) with
    | nx s => exact fun h F' σ' H' I' g => hr s G F' σ' H' D I' (PostS.grow g h)
    | rt d us => exact fun h => h
    | bk s => exact fun h => h
    | ct s => exact fun h => h
    | xc c => exact fun h => h
    | st => exact fun h => h
  refine runST hc wx I h' fun k F1 H1 s1 I1 q1 => ?_
  cases k with
  | true => exact ha G F1 σ H1 _ I1 q1
  | false => exact hb G F1 σ H1 _ I1 q1
/-- if without else whose suite does not go on: what follows stands once -/
theorem dss_pass (hr : ∀ (s : Unit), DS X T W ip rm inj injL envX env ss m) : DS X T W ip rm inj injL envX env (.Pass pos :: ss) m := fun G F σ H D I h => by
  refine wpS_cons (ps_pass (pos := pos)) ?_
  exact hr () G F σ H D I h
/-- return e -/
def ioUs (env : List Sl) (ip : List Nat) (us : List D) : Prop := us.length = ip.length ∧ ∀ (k : Nat) (i : Nat), ip[k]? = some i → ∃ d, env[i]? = some (.ow d) ∧ us[k]? = some d
theorem owns_of (I : ER X.K T F σ H env) : ∀ {ip : List Nat} {A : List Addr} {us : List D}, IoAt σ ip A → (us.length = ip.length ∧ ∀ (k : Nat) (i : Nat), ip[k]? = some i → ∃ d, env[i]? = some (.ow d) ∧ us[k]? = some d) → OwnsAt X.K F H A us
  | _, _, us, .nil, h => by
    have : us = [] := List.length_eq_zero_iff.mp h.1
    subst this
    exact .nil
  | i :: ip, a :: A, us, .cons e t, h => by
    match us, h with
    | [], h => exact absurd h.1 (by simp)
    | u :: us, h =>
      obtain ⟨d, e1, e2⟩ := h.2 0 i rfl
      have : d = u := by simpa using e2.symm
      subst this
      obtain ⟨b, e3, o⟩ := I.ow_at e1
      rw [e] at e3
      cases e3
      exact .cons o (owns_of I t ⟨by simpa using h.1, fun k j hj => by simpa using h.2 (k + 1) j (by simpa using hj)⟩)
theorem dss_ret {us : List D} (he : DE rm X T W env e me) (wx : True) (hu : ioUs env ip us) : DS X T W ip rm inj injL envX env (.Return (some e) pos :: ss) (O.ofR me fun d => .rt d us) := fun G F σ H D I h => by
  refine wpS_cons (ps_ret (pos := pos) pe_wp) ?_
  refine runS (f := fun d => .rt d us) he wx I h fun d F1 v H1 s1 r I1 q1 => ?_
  refine q1 F1 v H1 I1.stpR ?_ (owns_of (A := G.A) I1.er I1.io hu)
  cases rm with
  | S => exact r
  | B => exact r
  | O => obtain ⟨a, e, h0, nf, o⟩ := r; exact ⟨a, e, I.back h0, nf, o⟩
/-- return of a list (dict) of one's own, whole -/
theorem dss_retO {i : Nat} {x : Str} {p : Pos} {d : D} {us : List D} (hv : env[i]? = some (.ow d)) (hu : ioUs env ip us) (hip : i ∉ ip := by decide) (hN : X.N[i]? = some x := by kernel_rfl) (hvi : Vis X.env.scope x := by exact vis_of (by kernel_rfl))
    (hd : (x == ("__debug__" : Str)) = false := by kernel_rfl) (hcd : (x == ("__classdict__" : Str)) = false := by kernel_rfl)
    (hA : ∀ (k j : Nat), ip[k]? = some j → ∃ d, env[j]? = some (Sl.ow d)) : DS X T W ip .O inj injL envX env (.Return (some (.Name x p)) pos :: ss) (.rt d us) := fun G F σ H D I h => by
  refine wpS_cons (ps_ret (pos := pos) (pe_var (pos := p) hN hvi hd hcd)) ?_
  obtain ⟨a, e1, o⟩ := I.er.ow_at hv
  refine ⟨.ref a, e1, h F (.ref a) H I.stpR ⟨a, rfl, ?_, I.er.nf i a ⟨⟨d, hv⟩, e1⟩, o⟩ (owns_of I.er I.io hu)⟩
  rcases I.own i a ⟨⟨d, hv⟩, e1⟩ with h0 | h0
  · exact h0
  · exfalso
    have key : ∀ {ip : List Nat} {A : List Addr}, IoAt σ ip A → a ∈ A → ∃ (k j : Nat), ip[k]? = some j ∧ σ[j]? = some (some (V.ref a)) := by
      intro ip A t
      induction t with
      | nil => intro h; cases h
      | cons e t ih =>
        intro h
        rcases List.mem_cons.mp h with z | z
        · subst z; exact ⟨0, _, rfl, e⟩
        · obtain ⟨k, j, h1, h2⟩ := ih z
          exact ⟨k + 1, j, by simpa using h1, h2⟩
    obtain ⟨k, j, h1, h2⟩ := key I.io h0
    obtain ⟨dj, h3⟩ := hA k j h1
    have : i = j := I.er.nd i j a ⟨⟨d, hv⟩, e1⟩ ⟨⟨dj, h3⟩, h2⟩
    subst this
    exact hip (List.mem_of_getElem? h1)
theorem dss_retN {us : List D} (hu : ioUs env ip us) : DS X T W ip .S inj injL envX env (.Return none pos :: ss) (.rt .non us) := fun G F σ H D I h => by
  refine wpS_cons (ps_retN (pos := pos)) ?_
  exact h F .non H I.stpR .non (owns_of I.er I.io hu)
/-- an expression as a statement, its value dropped -/
theorem dss_expr {f : O τ ρ} (he : DE md X T W env e me) (hr : DS X T W ip rm inj injL envX env ss f) (wx : True) (hs : swapsWith e none pos.line X.env = pure false := by kernel_rfl) :
    DS X T W ip rm inj injL envX env (.Expr e pos :: ss) (O.ofR me fun _ => f) := fun G F σ H D I h => by
  refine wpS_cons (ps_expr (pos := pos) pe_wp hs) ?_
  exact runS (f := fun _ => f) he wx I h fun d F1 v H1 s1 r I1 q1 => hr G F1 σ H1 D I1 q1
/-- an own object is shared from now on -/
theorem ER2.freeze {i : Nat} {d : D} (I : ER2 X.K T G ip F σ H env) (hv : env[i]? = some (.ow d)) (hip : i ∉ ip) (hA : ∀ (k j : Nat), ip[k]? = some j → ∃ d, env[j]? = some (Sl.ow d)) : ∃ F', ER2 X.K T G ip F' σ H (env.set i (.sh d)) ∧ Grow F H F' H := by
  obtain ⟨a, e1, o⟩ := I.er.ow_at hv
  have hi : OwnI σ env i a := ⟨⟨d, hv⟩, e1⟩
  have hil : i < σ.length := (List.getElem?_eq_some_iff.mp e1).1
  have nA : ¬ Dat G.H0 a := by
    rcases I.own i a hi with h0 | h0
    · exact h0
    · exfalso
      have key : ∀ {ip : List Nat} {A : List Addr}, IoAt σ ip A → a ∈ A → ∃ (k j : Nat), ip[k]? = some j ∧ σ[j]? = some (some (V.ref a)) := by
        intro ip A t
        induction t with
        | nil => intro h; cases h
        | cons e t ih =>
          intro h
          rcases List.mem_cons.mp h with z | z
          · subst z; exact ⟨0, _, rfl, e⟩
          · obtain ⟨k, j, h1, h2⟩ := ih z
            exact ⟨k + 1, j, by simpa using h1, h2⟩
      obtain ⟨k, j, h1, h2⟩ := key I.io h0
      obtain ⟨dj, h3⟩ := hA k j h1
      have : i = j := I.er.nd i j a hi ⟨⟨dj, h3⟩, h2⟩
      subst this
      exact hip (List.mem_of_getElem? h1)
  have g : Grow F H (Fa F a) H := Grow.addF
  have ow' : ∀ j p, OwnI σ (env.set i (.sh d)) j p → OwnI σ env j p ∧ j ≠ i := fun j p ⟨⟨dj, e1⟩, e2⟩ => by
    rcases getSet e1 with ⟨_, z⟩ | ⟨n1, e1⟩
    · cases z
    · exact ⟨⟨⟨dj, e1⟩, e2⟩, n1⟩
  refine ⟨Fa F a, ⟨⟨by rw [List.length_set]; exact I.er.len, fun j sl e => ?_, fun j k p hj hk => I.er.nd j k p (ow' j p hj).1 (ow' k p hk).1, fun j p hj z => ?_, fun b hb => ?_, I.er.tabs⟩,
    fun b hb => .inl (I.inc b hb), fun b hb => ?_, I.keep, I.there, fun b h => g.tape b (I.tape b h), fun j p hj => I.own j p (ow' j p hj).1, I.io⟩, g⟩
  · rcases getSet e with ⟨rfl, rfl⟩ | ⟨hj, e⟩
    · exact ⟨_, e1, .ref a, rfl, o.topAt.addF.rep (.inr rfl)⟩
    · obtain ⟨x, h1, h2⟩ := I.er.slots j sl e
      refine ⟨x, h1, ?_⟩
      cases sl with
      | no => trivial
      | sh d => obtain ⟨v, e1, r⟩ := h2; exact ⟨v, e1, r.mono g⟩
      | ow dj =>
        obtain ⟨p, e1, r⟩ := h2
        refine ⟨p, e1, ?_⟩
        cases dj with
        | lst xs => obtain ⟨vs, h, r⟩ := r; exact ⟨vs, h, r.mono g⟩
        | dic xs => obtain ⟨vs, h, n, r⟩ := r; exact ⟨vs, h, n, r.mono g⟩
        | _ => exact r.elim
  · obtain ⟨h1, h2⟩ := ow' j p hj
    rcases z with z | z
    · exact I.er.nf j p h1 z
    · subst z
      exact h2 (I.er.nd j i p h1 hi)
  · rcases hb with hb | hb
    · exact I.er.ftr b hb
    · rw [hb]; exact o.tr
  · rcases hb with hb | hb
    · exact I.new b hb
    · rw [hb]; exact .inr nA
theorem dss_freeze {i : Nat} {d : D} {m : O τ ρ} (hv : env[i]? = some (.ow d)) (hr : DS X T W ip rm inj injL envX (env.set i (.sh d)) ss m) (hip : i ∉ ip := by decide) (hA : ∀ (k j : Nat), ip[k]? = some j → ∃ d, env[j]? = some (Sl.ow d)) : DS X T W ip rm inj injL envX env ss m := fun G F σ H D I h => by
  obtain ⟨F', I', g⟩ := I.freeze hv hip hA
  exact hr G F' σ H D I' (PostS.grow g h)
end
end DL

-- DL5
set_option Elab.async false
set_option linter.all false
set_option maxRecDepth 100000
set_option maxHeartbeats 4000000
/-! The data layer: calls of defs, raise, targets, loops. -/
namespace DL
open PySem PySem.Spec PyProof.Rows L2

/-! ### a def's promise -/
def spD (K : PySem.W.Frag) (T : Tb) (mg : Str → Option Value) (md : Md) (n : Nat) (M : List D → R D) : Sp := fun vs H Q E => vs.length = n ∧ ∃ (F : Addr → Prop) (ds : List D), (∀ a, F a → Dat H a) ∧ LamX.Tabs T H ∧ Reps K F H vs ds ∧
  match M ds with
  | .ok d => ∀ F' v H', Stp T F H F' H' → RepM K F' H' md H v d → Q v H'
  | .ex c => ∀ F' C dd H', Stp T F H F' H' → mg c = some (.ref C) → E (.ref C) dd H'
  | .st => False
structure FnD (P : Program) (w : World) (K : PySem.W.Frag) (mg : Str → Option Value) (base : Heap) (T : Tb) (k : Nat) (x : Str) (n : Nat) (md : Md) (M : List D → R D) : Prop where
  ex : ∃ (f : Addr) (fd : FuncData) (ps : List Str), mg x = some (.ref f) ∧ PySem.W.keepIn K (.ref f) = true ∧ Binds K fd ps [] ∧ FnOk P w K mg base (L2.CX P w) k f fd ps (spD K T mg md n M)
theorem FnD.mono {P : Program} {w : World} {K : PySem.W.Frag} {mg : Str → Option Value} {base : Heap} {T : Tb} {j k : Nat} {x : Str} {n : Nat} {md : Md} {M : List D → R D} (h : FnD P w K mg base T j x n md M) (hk : j ≤ k) : FnD P w K mg base T k x n md M := by
  obtain ⟨f, fd, ps, h1, h2, h3, h4⟩ := h.ex
  exact ⟨f, fd, ps, h1, h2, h3, h4.mono hk⟩
section
variable {X : Cx} {T : Tb} {W : WX} {ip : List Nat} {rm : Md} {τ ρ τ' : Type} {inj : τ → List Sl} {injL : ρ → List Sl} {envX env : List Sl} {G : Gh} {F F' : Addr → Prop} {σ : Sg} {H H' : Hp} {ss : List Stmt} {e : Expr} {es : List Expr} {me : R D} {mas : R (List D)} {md : Md} {pos : Pos}
/-- f(e, ..), f a def of the text -/
theorem de_call {k j n : Nat} {x : Str} {p : Pos} {M : List D → R D} (Fn : FnD X.prog X.w X.K X.mg X.base T k x n md M) (hr : Room j X.A) (tk : Takes X W) (ha : DA X T W env (e :: es) mas) (hk : k ≤ j := by decide) (hn : (e :: es).length = n := by kernel_rfl) (hg : Gl X x := by exact gl_of (by kernel_rfl))
    (hdb : (x == ("__debug__" : Str)) = false := by kernel_rfl) (he : starEach (e :: es) X.env = (false, eval e X.env) :: starEach es X.env := by kernel_rfl) (hpl : (backTo pos (starEach es X.env)).any (·.1) = false := by kernel_rfl) :
    DE md X T W env (.Call (.Name x p) (e :: es) [] pos) (mas.bind M) := fun F σ H Q I q => by
  obtain ⟨f, fd, ps, h1, h2, h3, h4⟩ := Fn.ex
  refine (pe_callS (pos := pos) (p := p) h4 (hr.mono hk) hg h1 h2 h3 (fun σ => passAt tk σ) pa_wp hdb he hpl).wp ?_
  have hlen := ha.len
  refine ha.run F σ H _ I ?_
  cases mas with
  | ok ds =>
    intro F1 vs H1 s1 r
    refine ⟨by rw [r.length, hlen ds rfl]; exact hn, F1, ds, s1.ftr I.ftr, s1.tabs I.tabs, r, ?_⟩
    have q1 := PostE.stp s1 q
    revert q1
    show PostE X T W F1 σ H1 md (M ds) Q → _
    cases M ds with
    | ok d => exact fun q1 => q1
    | ex c => exact fun q1 => q1
    | st => exact fun q1 => q1
  | ex c => exact q
  | st => exact q.elim
/-- raise X('..') -/
theorem dss_raise {c : Str} {C : Addr} {m : Str} {j : Nat} {p p2 p3 : Pos} {bmB : List Value} {B newId initId : String} (tk : Takes X W) (wx : True) (hc : X.calm = true) (Fb : ExcBaseFacts B newId initId bmB) (q : PySem.W.excIn X.K C bmB newId = true) (gC : X.mg c = some (.ref C)) (kC : PySem.W.keepIn X.K (.ref C) = true)
    (r : Raises X (.ref C)) (hg : Gl X c := by exact gl_of (by kernel_rfl)) (hdb : (c == ("__debug__" : Str)) = false := by kernel_rfl) :
    DS X T W ip rm inj injL envX env (.Raise (some (.Call (.Name c p) [.Constant (.str m) j p2] [] p3)) none pos :: ss) (.xc c) := fun G F σ H D I h =>
  wpS_cons (ps_raise (pos := pos) hc tk (pmk_own (p := p) (p2 := p2) (pos := p3) Fb q gC kC r hg hdb)) (h F C none σ H I.nos gC)
theorem dss_break {s : ρ} (w : Wk env (injL s)) : DS X T W ip rm inj injL envX env (.Break pos :: ss) (.bk s) := fun G F σ H D I h => wpS_cons (ps_break (pos := pos)) (h F σ H (I.wk w) .refl)
theorem dss_continue {s : ρ} (w : Wk env (injL s)) : DS X T W ip rm inj injL envX env (.Continue pos :: ss) (.ct s) := fun G F σ H D I h => wpS_cons (ps_continue (pos := pos)) (h F σ H (I.wk w) .refl)
end

/-! ### targets -/
inductive Pat where
  | nm (i : Nat) | tp (ps : List Pat)
mutual
def Pat.bind : Pat → D → List Sl → Option (List Sl)
  | .nm i, d, env => some (env.set i (.sh d))
  | .tp ps, .tup ds, env => Pat.binds ps ds env
  | .tp _, _, _ => none
def Pat.binds : List Pat → List D → List Sl → Option (List Sl)
  | [], [], env => some env
  | p :: ps, d :: ds, env => (Pat.bind p d env).bind (Pat.binds ps ds)
  | _, _, _ => none
end
mutual
def Pat.ixs : Pat → List Nat
  | .nm i => [i]
  | .tp ps => Pat.ixss ps
def Pat.ixss : List Pat → List Nat
  | [] => []
  | p :: ps => Pat.ixs p ++ Pat.ixss ps
end
section
variable (K : PySem.W.Frag) (F : Addr → Prop) (H : Hp)
mutual
/-- d is stored at the pattern's slots -/
def Pat.Upd : Pat → D → Sg → Sg → Prop
  | .nm i, d, σ, σ' => ∃ v, Rep K F H v d ∧ σ' = σ.set i (some v)
  | .tp ps, .tup ds, σ, σ' => Pat.Upds ps ds σ σ'
  | .tp _, _, _, _ => False
def Pat.Upds : List Pat → List D → Sg → Sg → Prop
  | [], [], σ, σ' => σ' = σ
  | p :: ps, d :: ds, σ, σ' => ∃ σ1, Pat.Upd p d σ σ1 ∧ Pat.Upds ps ds σ1 σ'
  | _, _, _, _ => False
end
end
section
variable {K : PySem.W.Frag} {T : Tb} {G : Gh} {ip : List Nat} {F : Addr → Prop} {H : Hp}
mutual
theorem Pat.er : ∀ {p : Pat} {d : D} {σ σ' : Sg} {env env' : List Sl}, Pat.Upd K F H p d σ σ' → p.bind d env = some env' → ER K T F σ H env → ER K T F σ' H env'
  | .nm i, d, σ, σ', env, env', ⟨v, r, e⟩, h, I => by cases h; subst e; exact I.set_sh r
  | .tp ps, .tup ds, σ, σ', env, env', u, h, I => Pat.ers (ps := ps) (ds := ds) u h I
  | .tp ps, .non, _, _, _, _, u, h, I => u.elim
  | .tp ps, .bl _, _, _, _, _, u, h, I => u.elim
  | .tp ps, .int _, _, _, _, _, u, h, I => u.elim
  | .tp ps, .str _, _, _, _, _, u, h, I => u.elim
  | .tp ps, .lst _, _, _, _, _, u, h, I => u.elim
  | .tp ps, .dic _, _, _, _, _, u, h, I => u.elim
  | .tp ps, .ins _ _, _, _, _, _, u, h, I => u.elim
  | .tp ps, .tape, _, _, _, _, u, h, I => u.elim
theorem Pat.ers : ∀ {ps : List Pat} {ds : List D} {σ σ' : Sg} {env env' : List Sl}, Pat.Upds K F H ps ds σ σ' → Pat.binds ps ds env = some env' → ER K T F σ H env → ER K T F σ' H env'
  | [], [], σ, σ', env, env', u, h, I => by cases h; have u' : σ' = σ := u; subst u'; exact I
  | p :: ps, d :: ds, σ, σ', env, env', ⟨σ1, u1, u2⟩, h, I => by
    have h' : (p.bind d env).bind (Pat.binds ps ds) = some env' := h
    cases e : p.bind d env with
    | none => rw [e] at h'; cases h'
    | some env1 =>
      rw [e] at h'
      exact Pat.ers u2 h' (Pat.er u1 e I)
  | [], _ :: _, _, _, _, _, u, _, _ => u.elim
  | _ :: _, [], _, _, _, _, u, _, _ => u.elim
end
mutual
theorem Pat.er2 : ∀ {p : Pat} {d : D} {σ σ' : Sg} {env env' : List Sl}, Pat.Upd K F H p d σ σ' → p.bind d env = some env' → (∀ i ∈ p.ixs, i ∉ ip) → ER2 K T G ip F σ H env → ER2 K T G ip F σ' H env'
  | .nm i, d, σ, σ', env, env', ⟨v, r, e⟩, h, hp, I => by cases h; subst e; exact I.set_sh r (hp i (List.mem_singleton.mpr rfl))
  | .tp ps, .tup ds, σ, σ', env, env', u, h, hp, I => Pat.er2s (ps := ps) (ds := ds) u h hp I
  | .tp ps, .non, _, _, _, _, u, h, _, I => u.elim
  | .tp ps, .bl _, _, _, _, _, u, h, _, I => u.elim
  | .tp ps, .int _, _, _, _, _, u, h, _, I => u.elim
  | .tp ps, .str _, _, _, _, _, u, h, _, I => u.elim
  | .tp ps, .lst _, _, _, _, _, u, h, _, I => u.elim
  | .tp ps, .dic _, _, _, _, _, u, h, _, I => u.elim
  | .tp ps, .ins _ _, _, _, _, _, u, h, _, I => u.elim
  | .tp ps, .tape, _, _, _, _, u, h, _, I => u.elim
theorem Pat.er2s : ∀ {ps : List Pat} {ds : List D} {σ σ' : Sg} {env env' : List Sl}, Pat.Upds K F H ps ds σ σ' → Pat.binds ps ds env = some env' → (∀ i ∈ Pat.ixss ps, i ∉ ip) → ER2 K T G ip F σ H env → ER2 K T G ip F σ' H env'
  | [], [], σ, σ', env, env', u, h, _, I => by cases h; have u' : σ' = σ := u; subst u'; exact I
  | p :: ps, d :: ds, σ, σ', env, env', ⟨σ1, u1, u2⟩, h, hp, I => by
    have h' : (p.bind d env).bind (Pat.binds ps ds) = some env' := h
    cases e : p.bind d env with
    | none => rw [e] at h'; cases h'
    | some env1 =>
      rw [e] at h'
      exact Pat.er2s u2 h' (fun i hi => hp i (List.mem_append_right _ hi)) (Pat.er2 u1 e (fun i hi => hp i (List.mem_append_left _ hi)) I)
  | [], _ :: _, _, _, _, _, u, _, _, _ => u.elim
  | _ :: _, [], _, _, _, _, u, _, _, _ => u.elim
end
theorem wipe_set {σ : Sg} {i : Nat} {x : Option V} : ∀ {vs : List Nat}, i ∈ vs → wipe (σ.set i x) vs = wipe σ vs
  | v :: vs, h => by
    show (wipe (σ.set i x) vs).set v none = (wipe σ vs).set v none
    by_cases hi : i ∈ vs
    · rw [wipe_set hi]
    · have e : i = v := (List.mem_cons.mp h).resolve_right hi
      subst e
      have key : ∀ {vs : List Nat}, i ∉ vs → wipe (σ.set i x) vs = (wipe σ vs).set i x := by
        intro vs
        induction vs with
        | nil => intro _; rfl
        | cons w vs ih =>
          intro hw
          show (wipe (σ.set i x) vs).set w none = ((wipe σ vs).set w none).set i x
          rw [ih (fun z => hw (List.mem_cons_of_mem _ z)), List.set_comm _ _ (fun z => hw (by rw [z]; exact List.mem_cons_self))]
      rw [key hi, List.set_set]
mutual
theorem Pat.wipe : ∀ {p : Pat} {d : D} {σ σ' : Sg} {vs : List Nat}, Pat.Upd K F H p d σ σ' → (∀ i ∈ p.ixs, i ∈ vs) → L2.wipe σ' vs = L2.wipe σ vs
  | .nm i, d, σ, σ', vs, ⟨v, r, e⟩, hp => by subst e; exact wipe_set (hp i (List.mem_singleton.mpr rfl))
  | .tp ps, .tup ds, σ, σ', vs, u, hp => Pat.wipes (ps := ps) (ds := ds) u hp
  | .tp ps, .non, _, _, _, u, _ => u.elim
  | .tp ps, .bl _, _, _, _, u, _ => u.elim
  | .tp ps, .int _, _, _, _, u, _ => u.elim
  | .tp ps, .str _, _, _, _, u, _ => u.elim
  | .tp ps, .lst _, _, _, _, u, _ => u.elim
  | .tp ps, .dic _, _, _, _, u, _ => u.elim
  | .tp ps, .ins _ _, _, _, _, u, _ => u.elim
  | .tp ps, .tape, _, _, _, u, _ => u.elim
theorem Pat.wipes : ∀ {ps : List Pat} {ds : List D} {σ σ' : Sg} {vs : List Nat}, Pat.Upds K F H ps ds σ σ' → (∀ i ∈ Pat.ixss ps, i ∈ vs) → L2.wipe σ' vs = L2.wipe σ vs
  | [], [], σ, σ', vs, u, _ => by have u' : σ' = σ := u; subst u'; rfl
  | p :: ps, d :: ds, σ, σ', vs, ⟨σ1, u1, u2⟩, hp => (Pat.wipes u2 fun i hi => hp i (List.mem_append_right _ hi)).trans (Pat.wipe u1 fun i hi => hp i (List.mem_append_left _ hi))
  | [], _ :: _, _, _, _, u, _ => u.elim
  | _ :: _, [], _, _, _, u, _ => u.elim
end
end
mutual
theorem Pat.dec : ∀ (p : Pat) (d : D) (e1 e2 : List Sl), p.bind d e1 = none → p.bind d e2 = none
  | .nm i, d, e1, e2, h => by cases h
  | .tp ps, .tup ds, e1, e2, h => Pat.decs ps ds e1 e2 h
  | .tp ps, .non, e1, e2, h => rfl
  | .tp ps, .bl _, e1, e2, h => rfl
  | .tp ps, .int _, e1, e2, h => rfl
  | .tp ps, .str _, e1, e2, h => rfl
  | .tp ps, .lst _, e1, e2, h => rfl
  | .tp ps, .dic _, e1, e2, h => rfl
  | .tp ps, .ins _ _, e1, e2, h => rfl
  | .tp ps, .tape, e1, e2, h => rfl
theorem Pat.decs : ∀ (ps : List Pat) (ds : List D) (e1 e2 : List Sl), Pat.binds ps ds e1 = none → Pat.binds ps ds e2 = none
  | [], [], e1, e2, h => by cases h
  | [], _ :: _, e1, e2, h => rfl
  | _ :: _, [], e1, e2, h => rfl
  | p :: ps, d :: ds, e1, e2, h => by
    have h' : (p.bind d e1).bind (Pat.binds ps ds) = none := h
    show (p.bind d e2).bind (Pat.binds ps ds) = none
    cases a : p.bind d e1 with
    | none => rw [Pat.dec p d e1 e2 a]; rfl
    | some e3 =>
      rw [a] at h'
      cases b : p.bind d e2 with
      | none => rfl
      | some e4 => exact Pat.decs ps ds e3 e4 h'
end
@[irreducible] def wpG (X : Cx) (tg : Expr) : TG := fun v σ H Q => ∀ pins s u, Inv X pins σ H s → RelV v u → wpAny (model X.prog X.w) X.A (assign tg X.env u) (fun _ s' => ∃ σ' H', Inv X pins σ' H' s' ∧ Q σ' H') X.xe s
@[irreducible] def wpGs (X : Cx) (ts : List Expr) : TGs := fun vs σ H Q => ∀ pins s us, Inv X pins σ H s → Vals vs us → wpAny (model X.prog X.w) X.A (assignInOrder ((assignEach ts X.env).map (·.2)) us) (fun _ s' => ∃ σ' H', Inv X pins σ' H' s' ∧ Q σ' H') X.xe s
theorem pg_wp {X : Cx} {tg : Expr} : PG X tg (wpG X tg) := ⟨fun pins s σ H v u Q I r h => by unfold wpG at h; exact h pins s u I r⟩
theorem pgs_wp {X : Cx} {ts : List Expr} : PGs X ts (wpGs X ts) := ⟨fun pins s σ H vs us Q I r h => by unfold wpGs at h; exact h pins s us I r⟩
/-- the target tg is the pattern p -/
def GT (X : Cx) (tg : Expr) (p : Pat) : Prop := ∀ F H v d σ Q, Rep X.K F H v d → (∀ env, p.bind d env ≠ none) → (∀ σ', Pat.Upd X.K F H p d σ σ' → Q σ' H) → wpG X tg v σ H Q
def GTs (X : Cx) (ts : List Expr) (ps : List Pat) : Prop := ts.length = ps.length ∧ ∀ F H vs ds σ Q, Reps X.K F H vs ds → (∀ env, Pat.binds ps ds env ≠ none) → (∀ σ', Pat.Upds X.K F H ps ds σ σ' → Q σ' H) → wpGs X ts vs σ H Q
section
variable {X : Cx} {pos : Pos}
theorem gt_nm {i : Nat} {x : Str} (hN : X.N.Nodup) (hi : X.N[i]? = some x := by kernel_rfl) (hx : Loc X.env.scope x := by exact loc_of (by kernel_rfl)) (hf : X.fn x = true ∨ X.env.scope.names.lookup x = some .local := by first | exact .inl rfl | exact .inr rfl) : GT X (.Name x pos) (.nm i) :=
  fun F H v d σ Q r _ q => by
  unfold wpG
  exact fun pins s u I ru => (pg_name (pos := pos) hN hi hx hf).run pins s σ H v u Q I ru (q _ ⟨v, r, rfl⟩)
theorem gts_nil : GTs X [] [] := ⟨rfl, fun F H vs ds σ Q r hb q => by
  unfold wpGs
  intro pins s us I rv
  cases r with
  | nil => exact pgs_nil.run pins s σ H [] us Q I rv ⟨rfl, q σ rfl⟩
  | cons r t => exact absurd rfl (hb [])⟩
theorem binds_len : ∀ {ps : List Pat} {ds : List D} {env : List Sl}, Pat.binds ps ds env ≠ none → ps.length = ds.length
  | [], [], _, _ => rfl
  | p :: ps, d :: ds, env, h => by
    have h' : (p.bind d env).bind (Pat.binds ps ds) ≠ none := h
    cases e : p.bind d env with
    | none => rw [e] at h'; exact absurd rfl h'
    | some env1 => rw [e] at h'; rw [List.length_cons, List.length_cons, binds_len h']
  | [], _ :: _, _, h => absurd rfl h
  | _ :: _, [], _, h => absurd rfl h
theorem gts_cons {e : Expr} {es : List Expr} {p : Pat} {ps : List Pat} (h1 : GT X e p) (h2 : GTs X es ps) (hs : (assignEach (e :: es) X.env).map (·.2) = assign e X.env :: (assignEach es X.env).map (·.2) := by kernel_rfl) : GTs X (e :: es) (p :: ps) := by
  refine ⟨by rw [List.length_cons, List.length_cons, h2.1], fun F H vs ds σ Q r hb q => ?_⟩
  unfold wpGs
  intro pins s us I rv
  cases r with
  | nil => exact absurd rfl (hb [])
  | cons r t =>
    refine (pgs_cons pg_wp pgs_wp hs).run pins s σ H _ us Q I rv ⟨_, _, rfl, ?_⟩
    refine h1 F H _ _ σ _ r (fun env z => hb env (show (Pat.bind _ _ _).bind _ = none by rw [z]; rfl)) fun σ1 u1 => ?_
    refine h2.2 F H _ _ σ1 _ t (fun env z => ?_) fun σ2 u2 => q σ2 ⟨σ1, u1, u2⟩
    refine hb env ?_
    show (Pat.bind _ _ _).bind _ = none
    cases a : Pat.bind p _ env with
    | none => rfl
    | some e3 => exact Pat.decs ps _ env e3 z
theorem gt_tup {es : List Expr} {k : Nat} {ps : List Pat} (h : GTs X es ps) (hc : X.calm = true) (hst : (assignEach es X.env).findIdx? (·.1) = none := by kernel_rfl) (hl : (assignEach es X.env).length = es.length := by kernel_rfl) : GT X (.Tuple es k pos) (.tp ps) := by
  intro F H v d σ Q r hb q
  unfold wpG
  intro pins s u I ru
  cases r <;> try exact absurd rfl (hb [])
  rename_i a vs xs hq hr
  refine (pg_tup (pos := pos) (k := k) (n := es.length) hc pgs_wp hl hst).run pins s σ H _ u Q I ru ⟨a, vs, rfl, hq, ?_, ?_⟩
  · rw [hr.length, ← binds_len (hb []), h.1]
  · exact h.2 F H vs xs σ Q hr hb q
end

/-! ### what is walked -/
/-- J walks over the data ds; md S: whatever grows; else: as long as nothing that stood changes -/
structure WalkD (md : Md) (K : PySem.W.Frag) (T : Tb) (F : Addr → Prop) (H : Hp) (J : It) (ds : List D) : Prop where
  ex : ∃ Gd : (Addr → Prop) → Hp → Prop, 
    (∀ F' H', (md = .S → Grow F H F' H') → (md ≠ .S → Stp T F H F' H') → Gd F' H') ∧
    (∀ i F H, i < ds.length → Gd F H → J.go i H) ∧ (∀ F H, Gd F H → J.stop ds.length H) ∧
    (∀ i F H x H', i < ds.length → Gd F H → J.yld i H x H' → ∃ d, ds[i]? = some d ∧ ∃ F', Stp T F H F' H' ∧ Rep K F' H' x d)
@[irreducible] def wpI (X : Cx) (tg iter : Expr) : TI := fun σ H R => ∀ pins s, Inv X pins σ H s → wpAny (model X.prog X.w) X.A (eval iter X.env) (fun v s1 => wpAny (model X.prog X.w) X.A (pyIter v) (PIE X pins σ tg R) X.xe s1) X.xe s
theorem pi_wp {X : Cx} {tg iter : Expr} : PI X tg iter (wpI X tg iter) := ⟨fun pins s _ _ _ I h => by unfold wpI at h; exact h pins s I⟩
theorem _root_.L2.PI.wp {X : Cx} {tg iter : Expr} {wi : TI} (h : PI X tg iter wi) {σ : Sg} {H : Hp} {R : It → Hp → Prop} (q : wi σ H R) : wpI X tg iter σ H R := by unfold wpI; exact fun pins s I => h.run pins s σ H R I q
def PostI (md : Md) (X : Cx) (T : Tb) (W : WX) (F : Addr → Prop) (σ : Sg) (H : Hp) (m : R (List D)) (R : It → Hp → Prop) : Prop :=
  match m with
  | .ok ds => ∀ F' H' J, Stp T F H F' H' → WalkD md X.K T F' H' J ds → ds.length ≤ sizeLine → R J H'
  | .ex c => PostX X T W F σ H c
  | .st => False
def DI (md : Md) (X : Cx) (T : Tb) (W : WX) (env : List Sl) (tg iter : Expr) (m : R (List D)) : Prop :=
  ∀ F σ H (R : It → Hp → Prop), ER X.K T F σ H env → PostI md X T W F σ H m R → wpI X tg iter σ H R
section
variable {X : Cx} {T : Tb} {W : WX} {ip : List Nat} {rm : Md} {τ ρ τ' : Type} {inj : τ → List Sl} {injL : ρ → List Sl} {envX env : List Sl} {G : Gh} {F F' : Addr → Prop} {σ : Sg} {H H' : Hp} {ss : List Stmt} {e a b c tg : Expr} {es : List Expr} {me ma mb mc : R D} {mas : R (List D)} {md : Md} {pos p : Pos}
/-- a list, a tuple, a text -/
def iterD : D → Option (List D)
  | .lst xs => some xs
  | .tup xs => some xs
  | .str s => if s.length ≤ sizeLine then some (s.map fun c => .str [c]) else none
  | _ => none
theorem pi_any {l : Expr} {tl : TE} (hl : PE X l tl) : PI X tg l (fun σ H R => tl σ H fun x H1 => (∃ a, x = .ref a ∧ ∃ xs, SqL X.K H1 a xs ∧ (xs.length ≤ sizeLine → R (Itl X.K a) H1)) ∨ (∃ a, x = .ref a ∧ ∃ xs, SqT X.K H1 a xs ∧ (xs.length ≤ sizeLine → R (Itt X.K a) H1)) ∨ ∃ z, x = .str z ∧ R (Its z) H1) := by
  refine ⟨fun pins s σ H R I h => ?_⟩
  refine thn (hl.run pins s σ H _ I h) fun v s1 ⟨x, H1, I1, r1, q1⟩ => ?_
  rcases q1 with ⟨a, e, xs, hq, q⟩ | ⟨a, e, xs, hq, q⟩ | ⟨z, e, q⟩
  · subst e
    cases r1
    obtain ⟨its, rv, p, hz⟩ := I1.list hq
    refine wpAny_pyIter_list p.isList ?_
    refine ⟨s1.heap.objs.size, [s1.heap.objs.size], _, _, H1, rfl, I1.kept (t' := s1.toks) fun b o e => Heap.get?_push_of_some _ e, turn_list a _, ⟨_, Heap.get?_push_size _ rfl, rfl, rfl⟩, fun b hb => ?_, q hz⟩
    have e : b = s1.heap.objs.size := by simpa using hb
    subst e
    exact I1.fpOk (Nat.le_refl _) (I1.hok.fresh (Nat.le_refl _))
  · subst e
    cases r1
    obtain ⟨its, rv, p, hz⟩ := I1.tuple hq
    refine wpAny_pyIter_tuple (show s1.heap.IsTuple a its.toArray from p) ?_
    refine ⟨s1.heap.objs.size, [s1.heap.objs.size], _, _, H1, rfl, I1.kept (t' := s1.toks) fun b o e => Heap.get?_push_of_some _ e, turn_tuple a _, ⟨_, Heap.get?_push_size _ rfl, rfl, rfl⟩, fun b hb => ?_, q hz⟩
    have e : b = s1.heap.objs.size := by simpa using hb
    subst e
    exact I1.fpOk (Nat.le_refl _) (I1.hok.fresh (Nat.le_refl _))
  · subst e
    obtain ⟨t, rfl⟩ := r1
    cases ha : z.cps.all (· < 128)
    · exact wpAny_pyIter_wide ha (pi_one (tk := s1.toks) I1 _ (turn_str _ z t "str_iterator" (.inr rfl)) ⟨_, Heap.get?_push_size _ rfl, rfl, rfl⟩ q)
    · exact wpAny_pyIter_ascii ha (pi_one (tk := s1.toks) I1 _ (turn_str _ z t "str_ascii_iterator" (.inl rfl)) ⟨_, Heap.get?_push_size _ rfl, rfl, rfl⟩ q)
theorem walkD_lst {a : Addr} {vs : List V} {xs : List D} (hF : md = .S → F a) (h : Rd H a (.lst vs)) (r : Reps X.K F H vs xs) : WalkD md X.K T F H (Itl X.K a) xs := by
  refine ⟨fun F H => Rd H a (.lst vs) ∧ Reps X.K F H vs xs, fun F' H' k1 k2 => ?_, fun i F H hi ⟨g2, g3⟩ => ?_, fun F H ⟨g2, g3⟩ => ⟨vs, .inl g2, by rw [g3.length]; exact Nat.le_refl _⟩, fun i F H x H' hi ⟨g2, g3⟩ y => ?_⟩
  · by_cases e : md = .S
    · have k := k1 e
      exact ⟨k.rdF (hF e) (noTbl_lst _) h, r.mono k⟩
    · have k := k2 e
      exact ⟨k.rd (noTbl_lst _) h, r.mono k.grow⟩
  · have : i < vs.length := by rw [g3.length]; exact hi
    exact ⟨vs, vs[i], .inl g2, by simp [this]⟩
  · obtain ⟨rfl, h2⟩ := y
    obtain ⟨d, h3, h4⟩ := g3.getV (h2 vs (.inl g2))
    exact ⟨d, h3, F, .refl, h4⟩
theorem walkD_tup {a : Addr} {vs : List V} {xs : List D} (h : SqT X.K H a vs) (r : Reps X.K F H vs xs) : WalkD md X.K T F H (Itt X.K a) xs := by
  refine ⟨fun F H => SqT X.K H a vs ∧ Reps X.K F H vs xs, fun F' H' k1 k2 => ?_, fun i F H hi ⟨g2, g3⟩ => ?_, fun F H ⟨g2, g3⟩ => ⟨vs, g2, by rw [g3.length]; exact Nat.le_refl _⟩, fun i F H x H' hi ⟨g2, g3⟩ y => ?_⟩
  · by_cases e : md = .S
    · have k := k1 e
      exact ⟨k.sqT h, r.mono k⟩
    · have k := (k2 e).grow
      exact ⟨k.sqT h, r.mono k⟩
  · have : i < vs.length := by rw [g3.length]; exact hi
    exact ⟨vs, vs[i], g2, by simp [this]⟩
  · obtain ⟨rfl, h2⟩ := y
    obtain ⟨d, h3, h4⟩ := g3.getV (h2 vs g2)
    exact ⟨d, h3, F, .refl, h4⟩
theorem walkD_str {s : List Nat} (ho : Okc s) : WalkD md X.K T F H (Its (SS s)) (s.map fun c => .str [c]) := by
  refine ⟨fun F H => True, fun _ _ _ _ => trivial, fun i F H hi _ => ?_, fun F H _ => ?_, fun i F H x H' hi _ y => ?_⟩
  · show i < (SS s).cps.size
    rw [List.length_map] at hi
    simpa [SS] using hi
  · show (SS s).cps.size ≤ _
    rw [List.length_map]
    simp [SS]
  · obtain ⟨rfl, c, hc, rfl⟩ := y
    have hc' : s[i]? = some c := by simpa [SS] using hc
    refine ⟨.str [c], by rw [List.getElem?_map, hc']; rfl, F, .refl, .str [c] fun z hz => ?_⟩
    rw [List.mem_singleton.mp hz]
    exact ho c (List.mem_of_getElem? hc')
/-- an iterable's data with its mode -/
theorem di_any (ha : DE md X T W env e me) (hm : md = .S ∨ md = .B) : DI md X T W env tg e (me.bind fun x => R.lift (iterD x)) := fun F σ H Rr I q => by
  refine (pi_any pe_wp).wp ?_
  refine ha F σ H _ I ?_
  cases me with
  | ex c => exact q
  | st => exact q.elim
  | ok d =>
    intro F1 v H1 s1 r
    have q1 : PostI md X T W F σ H (R.lift (iterD d)) Rr := q
    have top : Top X.K F1 H1 v d := RepM.toB r
    cases d <;> try exact q1.elim
    · rename_i z
      obtain ⟨e1, o1⟩ := top_str top
      by_cases hl : z.length ≤ sizeLine
      · rw [show iterD (.str z) = some (z.map fun c => D.str [c]) from if_pos hl] at q1
        exact .inr (.inr ⟨_, e1, q1 F1 H1 _ s1 (walkD_str o1) (by rw [List.length_map]; exact hl)⟩)
      · rw [show iterD (.str z) = none from if_neg hl] at q1
        exact q1.elim
    · obtain ⟨a, vs, e1, h1, r1⟩ := top_tup top
      exact .inr (.inl ⟨a, e1, vs, h1, fun hz => q1 F1 H1 _ s1 (walkD_tup h1 r1) (by rw [← r1.length]; exact hz)⟩)
    · rename_i xs
      rcases hm with e | e
      · subst e
        have r' : Rep X.K F1 H1 v (.lst xs) := r
        cases r' with
        | lst hF h hs => exact .inl ⟨_, rfl, _, .inl h, fun hz => q1 F1 H1 _ s1 (walkD_lst (fun _ => hF) h hs) (by rw [← hs.length]; exact hz)⟩
      · subst e
        obtain ⟨a, vs, e1, h1, r1⟩ := top_lst top
        exact .inl ⟨a, e1, vs, .inl h1, fun hz => q1 F1 H1 _ s1 (walkD_lst (fun z => nomatch z) h1 r1) (by rw [← r1.length]; exact hz)⟩
/-- ranges -/
def rangeL (lo : Int) (n : Nat) (c : Int) : List D := (List.range n).map fun (k : Nat) => .int (lo + (k : Int) * c)
def int62 (i : Int) : Prop := -(2 ^ 62) ≤ i ∧ i < 2 ^ 62
noncomputable def rng1 : D → Option (List D)
  | .int j => if chk (int62 j ∧ j.toNat ≤ sizeLine) then some (rangeL 0 j.toNat 1) else none
  | _ => none
noncomputable def rng2 : D → D → Option (List D)
  | .int i, .int j => if chk ((int62 i ∧ int62 j) ∧ (j - i).toNat ≤ sizeLine) then some (rangeL i (j - i).toNat 1) else none
  | _, _ => none
noncomputable def rng3 : D → D → D → Option (List D)
  | .int i, .int j, .int c => if chk (∃ n : Nat, RgC i j c n ∧ n ≤ sizeLine) then some (rangeL i (Builtin.Range.rangeSize i j c).toNat c) else none
  | _, _, _ => none
theorem rangeL_len (lo c : Int) (n : Nat) : (rangeL lo n c).length = n := by simp [rangeL]
theorem walkD_rng {lo : Int} {n : Nat} : WalkD md X.K T F H (Itr lo n) (rangeL lo n 1) := by
  have hl : (rangeL lo n 1).length = n := by simp [rangeL]
  refine ⟨fun F H => True, fun _ _ _ _ => trivial, fun i F H hi _ => by rw [hl] at hi; exact hi, fun F H _ => by rw [hl]; exact Nat.le_refl n, fun i F H x H' hi _ y => ?_⟩
  obtain ⟨rfl, rfl⟩ := y
  rw [hl] at hi
  refine ⟨.int (lo + i), ?_, F, .refl, .int _⟩
  simp [rangeL, hi]
theorem walkD_rngC {lo c : Int} {n : Nat} : WalkD md X.K T F H (Itc lo c n) (rangeL lo n c) := by
  have hl : (rangeL lo n c).length = n := by simp [rangeL]
  refine ⟨fun F H => True, fun _ _ _ _ => trivial, fun i F H hi _ => by rw [hl] at hi; exact hi, fun F H _ => by rw [hl]; exact Nat.le_refl n, fun i F H x H' hi _ y => ?_⟩
  obtain ⟨rfl, rfl⟩ := y
  rw [hl] at hi
  refine ⟨.int (lo + (i : Nat) * c), ?_, F, .refl, .int _⟩
  simp [rangeL, hi]
theorem di_r1 (ha : DE .S X T W env a ma) (hm : X.mg "range" = none) (hg : Gl X "range" := by exact gl_of (by kernel_rfl)) (hs : starEach [a] X.env = [(false, eval a X.env)] := by kernel_rfl) : DI md X T W env tg (.Call (.Name "range" p) [a] [] pos) (ma.bind fun x => R.lift (rng1 x)) := fun F σ H Rr I q => by
  refine (pi_range1 (p := p) (pos := pos) hg hm (pa_cons pe_wp pa_nil (by rw [hs]; rfl)) hs).wp ?_
  refine ha F σ H _ I ?_
  cases ma with
  | ex c => exact q
  | st => exact q.elim
  | ok d =>
    intro F1 v H1 s1 r
    have q1 : PostI md X T W F σ H (R.lift (rng1 d)) Rr := q
    cases d <;> try exact q1.elim
    rename_i j
    cases r
    by_cases hj : int62 j ∧ j.toNat ≤ sizeLine
    · rw [show rng1 (.int j) = some (rangeL 0 j.toNat 1) from if_pos (chk_of hj)] at q1
      exact ⟨j, rfl, hj.1.1, hj.1.2, q1 F1 H1 _ s1 walkD_rng (by rw [rangeL_len]; exact hj.2)⟩
    · rw [show rng1 (.int j) = none from if_neg (fun z => hj (chk_true.mp z))] at q1
      exact q1.elim
theorem di_r2 (ha : DE .S X T W env a ma) (hb : DE .S X T W env b mb) (hm : X.mg "range" = none) (hg : Gl X "range" := by exact gl_of (by kernel_rfl)) (hs : starEach [a, b] X.env = [(false, eval a X.env), (false, eval b X.env)] := by kernel_rfl) (hs2 : starEach [b] X.env = [(false, eval b X.env)] := by kernel_rfl) :
    DI md X T W env tg (.Call (.Name "range" p) [a, b] [] pos) (ma.bind fun x => mb.bind fun y => R.lift (rng2 x y)) := fun F σ H Rr I q => by
  refine (pi_range2 (p := p) (pos := pos) hg hm (pa_cons pe_wp (pa_cons pe_wp pa_nil (by rw [hs2]; rfl)) (by rw [hs, hs2])) hs hs2).wp ?_
  refine ha F σ H _ I ?_
  cases ma with
  | ex c => exact q
  | st => exact q.elim
  | ok d =>
    intro F1 v H1 s1 r
    refine hb F1 σ H1 _ (I.stp s1) ?_
    cases mb with
    | ex c => exact PostX.stp s1 q
    | st => exact q.elim
    | ok d2 =>
      intro F2 v2 H2 s2 r2
      have q1 : PostI md X T W F σ H (R.lift (rng2 d d2)) Rr := q
      cases d <;> try exact q1.elim
      rename_i i
      cases d2 <;> try exact q1.elim
      rename_i j
      cases r
      cases r2
      by_cases hj : (int62 i ∧ int62 j) ∧ (j - i).toNat ≤ sizeLine
      · rw [show rng2 (.int i) (.int j) = some (rangeL i (j - i).toNat 1) from if_pos (chk_of hj)] at q1
        exact ⟨i, j, rfl, ⟨hj.1.1.1, hj.1.1.2, hj.1.2.1, hj.1.2.2⟩, q1 F2 H2 _ (s1.trans s2) walkD_rng (by rw [rangeL_len]; exact hj.2)⟩
      · rw [show rng2 (.int i) (.int j) = none from if_neg (fun z => hj (chk_true.mp z))] at q1
        exact q1.elim
theorem di_r3 (ha : DE .S X T W env a ma) (hb : DE .S X T W env b mb) (hc : DE .S X T W env c mc) (hm : X.mg "range" = none) (hg : Gl X "range" := by exact gl_of (by kernel_rfl)) (hs : starEach [a, b, c] X.env = (false, eval a X.env) :: starEach [b, c] X.env := by kernel_rfl)
    (hs2 : starEach [b, c] X.env = (false, eval b X.env) :: starEach [c] X.env := by kernel_rfl) (hs3 : starEach [c] X.env = (false, eval c X.env) :: starEach [] X.env := by kernel_rfl) (hpl : (backTo pos (starEach [b, c] X.env)).any (·.1) = false := by kernel_rfl) :
    DI md X T W env tg (.Call (.Name "range" p) [a, b, c] [] pos) (ma.bind fun x => mb.bind fun y => mc.bind fun z => R.lift (rng3 x y z)) := fun F σ H Rr I q => by
  refine (pi_range3 (p := p) (pos := pos) hg hm (pa_cons pe_wp (pa_cons pe_wp (pa_cons pe_wp pa_nil hs3) hs2) hs) hs hpl).wp ?_
  refine ha F σ H _ I ?_
  cases ma with
  | ex c => exact q
  | st => exact q.elim
  | ok d =>
    intro F1 v H1 s1 r
    refine hb F1 σ H1 _ (I.stp s1) ?_
    cases mb with
    | ex c => exact PostX.stp s1 q
    | st => exact q.elim
    | ok d2 =>
      intro F2 v2 H2 s2 r2
      refine hc F2 σ H2 _ ((I.stp s1).stp s2) ?_
      cases mc with
      | ex c => exact PostX.stp s2 (PostX.stp s1 q)
      | st => exact q.elim
      | ok d3 =>
        intro F3 v3 H3 s3 r3
        have q1 : PostI md X T W F σ H (R.lift (rng3 d d2 d3)) Rr := q
        cases d <;> try exact q1.elim
        rename_i i
        cases d2 <;> try exact q1.elim
        rename_i j
        cases d3 <;> try exact q1.elim
        rename_i k
        cases r
        cases r2
        cases r3
        by_cases hj : ∃ n : Nat, RgC i j k n ∧ n ≤ sizeLine
        · rw [show rng3 (.int i) (.int j) (.int k) = some (rangeL i (Builtin.Range.rangeSize i j k).toNat k) from if_pos (chk_of hj)] at q1
          obtain ⟨n, hn, hz⟩ := hj
          have en : (Builtin.Range.rangeSize i j k).toNat = n := by rw [hn.2.2.2, Int.toNat_natCast]
          rw [en] at q1
          exact ⟨i, j, k, n, rfl, hn, q1 F3 H3 _ ((s1.trans s2).trans s3) walkD_rngC (by rw [rangeL_len]; exact hz)⟩
        · rw [show rng3 (.int i) (.int j) (.int k) = none from if_neg (fun z => hj (chk_true.mp z))] at q1
          exact q1.elim

/-! ### loops -/
def forO {σ ρ : Type} : List D → σ → (D → σ → O σ σ) → O σ ρ
  | [], s, _ => .nx s
  | d :: ds, s, f => match f d s with
    | .nx s' => forO ds s' f
    | .ct s' => forO ds s' f
    | .bk s' => .nx s'
    | .rt d us => .rt d us
    | .xc c => .xc c
    | .st => .st
def whileO {σ ρ : Type} : Nat → σ → (σ → R Bool) → (σ → O σ σ) → O σ ρ
  | 0, _, _, _ => .st
  | n + 1, s, c, f => O.ofR (c s) fun k => if k = true then (match f s with
    | .nx s' => whileO n s' c f
    | .ct s' => whileO n s' c f
    | .bk s' => .nx s'
    | .rt d us => .rt d us
    | .xc c => .xc c
    | .st => .st) else .nx s
/-- statements behind a target's stores -/
def DSo {τ ρ : Type} (X : Cx) (T : Tb) (W : WX) (ip : List Nat) (rm : Md) (inj : τ → List Sl) (injL : ρ → List Sl) (envX : List Sl) (oe : Option (List Sl)) (ss : List Stmt) (m : O τ ρ) : Prop :=
  match oe with
  | some env => DS X T W ip rm inj injL envX env ss m
  | none => m = .st
theorem pat_dec {p : Pat} {d : D} {env : List Sl} (h : p.bind d env ≠ none) (env' : List Sl) : p.bind d env' ≠ none := fun z => h (Pat.dec p d env' env z)
theorem dss_for {tg iter : Expr} {body : List Stmt} {mi : R (List D)} {pt : Pat} {τb : Type} {injb : τb → List Sl} {s0 : τb} {ob : D → τb → O τb τb} {f : τb → O τ ρ} (hi : DI .S X T W env tg iter mi) (hg : GT X tg pt)
    (hb : ∀ d s, DSo X T W ip rm injb injb envX (pt.bind d (injb s)) body (ob d s)) (hr : ∀ s, DS X T W ip rm inj injL envX (injb s) ss (f s)) (w0 : Wk env (injb s0)) (wx : True) (hp : PassesOwn (model X.prog X.w) X.A X.env X.xe) (hc : X.calm = true)
    (hip : ∀ i ∈ pt.ixs, i ∉ ip := by decide) (hs : ∀ x, foldedSetIterable iter X.env x = pure x := by intro _; kernel_rfl) :
    DS X T W ip rm inj injL envX env (.For tg iter body [] pos :: ss) ((O.ofR mi fun ds => forO ds s0 ob).seq f) := fun G F σ H D I h => by
  refine wpS_cons (ps_for (pos := pos) hp hc pi_wp pg_wp ps_wp hs) ?_
  refine hi F σ H _ I.er ?_
  cases mi with
  | ex c => exact fun F' C dd H' s hm => h F' C dd σ H' (I.stp s).nos hm
  | st => exact h.elim
  | ok ds =>
    intro F1 H1 J s1 ⟨Gd, gst, ggo, gstop, gyld⟩ _
    have h1 : PostS X T W G ip rm inj injL envX F1 H1 ((forO ds s0 ob : O τb ρ).seq f) D := PostS.grow s1.grow h
    refine ⟨fun i m σ' H' => ∃ F' s, m = ds.length - i ∧ i ≤ ds.length ∧ ER2 X.K T G ip F' σ' H' (injb s) ∧ Grow F1 H1 F' H' ∧ PostS X T W G ip rm inj injL envX F' H' ((forO (ds.drop i) s ob : O τb ρ).seq f) D, ⟨_, F1, s0, rfl, Nat.zero_le _, (I.stp s1).wk w0, .refl, by rw [List.drop_zero]; exact h1⟩, ?_⟩
    rintro i m σ2 H2 ⟨F2, s, rfl, hil, I2, w2, h2⟩
    have g2 : Gd F2 H2 := gst F2 H2 (fun _ => w2) (fun z => absurd rfl z)
    by_cases hlt : i < ds.length
    · refine .inr ⟨ggo i F2 H2 hlt g2, fun σ' H' => ∃ F' s, ER2 X.K T G ip F' σ' H' (injb s) ∧ Grow F1 H1 F' H' ∧ PostS X T W G ip rm inj injL envX F' H' ((forO (ds.drop (i + 1)) s ob : O τb ρ).seq f) D, fun σ' H' ⟨F', s, a, b, c⟩ => ⟨ds.length - (i + 1), by omega, F', s, rfl, hlt, a, b, c⟩, fun x H3 hy => ?_⟩
      obtain ⟨d, hd, F3, s3, r3⟩ := gyld i F2 H2 x H3 hlt g2 hy
      have I3 := I2.stp s3
      have w3 := w2.trans s3.grow
      have h3 := PostS.grow s3.grow h2
      have ed : ds.drop i = d :: ds.drop (i + 1) := by
        rw [List.drop_eq_getElem_cons hlt]
        have := (List.getElem?_eq_some_iff.mp hd).2
        rw [this]
      rw [ed] at h3
      have hbd := hb d s
      cases eb : pt.bind d (injb s) with
      | none =>
        rw [eb] at hbd
        have z : ob d s = .st := hbd
        have h4 : PostS X T W G ip rm inj injL envX F3 H3 ((match ob d s with | .nx s' => forO (ds.drop (i + 1)) s' ob | .ct s' => forO (ds.drop (i + 1)) s' ob | .bk s' => .nx s' | .rt d us => .rt d us | .xc c => .xc c | .st => .st : O τb ρ).seq f) D := h3
        rw [z] at h4
        exact h4.elim
      | some env3 =>
        rw [eb] at hbd
        have hbd : DS X T W ip rm injb injb envX env3 body (ob d s) := hbd
        refine hg F3 H3 x d σ2 _ r3 (fun env' => pat_dec (by rw [eb]; simp) env') fun σ4 u4 => ?_
        have I4 := Pat.er2 u4 eb hip I3
        refine hbd G F3 σ4 H3 _ I4 ?_
        have h4 : PostS X T W G ip rm inj injL envX F3 H3 ((match ob d s with | .nx s' => forO (ds.drop (i + 1)) s' ob | .ct s' => forO (ds.drop (i + 1)) s' ob | .bk s' => .nx s' | .rt d us => .rt d us | .xc c => .xc c | .st => .st : O τb ρ).seq f) D := h3
        revert h4
        cases ob d s with
        | nx s' => exact fun h4 F5 σ5 H5 I5 g5 => ⟨F5, s', I5, w3.trans g5, PostS.grow g5 h4⟩
        | ct s' => exact fun h4 F5 σ5 H5 I5 g5 => ⟨F5, s', I5, w3.trans g5, PostS.grow g5 h4⟩
        | bk s' => exact fun h4 F5 σ5 H5 I5 g5 => hr s' G F5 σ5 H5 D I5 (PostS.grow g5 h4)
        | rt d us => exact fun h4 => h4
        | xc c => exact fun h4 => h4
        | st => exact fun h4 => h4
    · have e : i = ds.length := by omega
      subst e
      refine .inl ⟨gstop F2 H2 g2, ?_⟩
      rw [List.drop_length] at h2
      exact hr s G F2 σ2 H2 D I2 h2
theorem dss_while {c : Expr} {body : List Stmt} {τb : Type} {injb : τb → List Sl} {s0 : τb} {n : Nat} {mc : τb → R Bool} {ob : τb → O τb τb} {f : τb → O τ ρ} (hcn : ∀ s, DT X T W (injb s) c (mc s))
    (hb : ∀ s, DS X T W ip rm injb injb envX (injb s) body (ob s)) (hr : ∀ s, DS X T W ip rm inj injL envX (injb s) ss (f s)) (w0 : Wk env (injb s0)) (wx : True) (hp : PassesOwn (model X.prog X.w) X.A X.env X.xe) :
    DS X T W ip rm inj injL envX env (.While c body [] pos :: ss) ((whileO n s0 mc ob : O τb ρ).seq f) := fun G F σ H D I h => by
  refine wpS_cons (ps_while (pos := pos) hp pt_wp ps_wp) ?_
  refine ⟨fun m σ' H' => ∃ F' s, ER2 X.K T G ip F' σ' H' (injb s) ∧ PostS X T W G ip rm inj injL envX F' H' ((whileO m s mc ob : O τb ρ).seq f) D, ⟨n, F, s0, I.wk w0, h⟩, ?_⟩
  rintro m σ1 H1 ⟨F1, s, I1, h1⟩
  cases m with
  | zero => exact h1.elim
  | succ m =>
    have h2 : PostS X T W G ip rm inj injL envX F1 H1 ((O.ofR (mc s) fun k => if k = true then (match ob s with | .nx s' => whileO m s' mc ob | .ct s' => whileO m s' mc ob | .bk s' => .nx s' | .rt d us => .rt d us | .xc c => .xc c | .st => .st) else .nx s : O τb ρ).seq f) D := h1
    refine hcn s F1 σ1 H1 _ I1.er ?_
    revert h2
    cases mc s with
    | ex c => exact fun h2 F' C dd H' st hm => h2 F' C dd σ1 H' (I1.stp st).nos hm
    | st => exact fun h2 => h2
    | ok k =>
      intro h2 F2 H2 s2
      have I2 := I1.stp s2
      have h2 := PostS.grow s2.grow h2
      cases k with
      | false =>
        rw [if_neg Bool.false_ne_true]
        exact hr s G F2 σ1 H2 D I2 h2
      | true =>
        rw [if_pos rfl]
        refine ⟨fun σ' H' => ∃ F' s, ER2 X.K T G ip F' σ' H' (injb s) ∧ PostS X T W G ip rm inj injL envX F' H' ((whileO m s mc ob : O τb ρ).seq f) D, fun σ' H' ⟨F', s, a, b⟩ => ⟨m, Nat.lt_succ_self m, F', s, a, b⟩, ?_⟩
        refine hb s G F2 σ1 H2 _ I2 ?_
        have h4 : PostS X T W G ip rm inj injL envX F2 H2 ((match ob s with | .nx s' => whileO m s' mc ob | .ct s' => whileO m s' mc ob | .bk s' => .nx s' | .rt d us => .rt d us | .xc c => .xc c | .st => .st : O τb ρ).seq f) D := h2
        revert h4
        cases ob s with
        | nx s' => exact fun h4 F5 σ5 H5 I5 g5 => ⟨F5, s', I5, PostS.grow g5 h4⟩
        | ct s' => exact fun h4 F5 σ5 H5 I5 g5 => ⟨F5, s', I5, PostS.grow g5 h4⟩
        | bk s' => exact fun h4 F5 σ5 H5 I5 g5 => hr s' G F5 σ5 H5 D I5 (PostS.grow g5 h4)
        | rt d us => exact fun h4 => h4
        | xc c => exact fun h4 => h4
        | st => exact fun h4 => h4
/-! targets as they stand -/
def tup2 {α : Type} (z : α) (d : D) (k : D → D → α) : α := match d with | .tup [a, b] => k a b | _ => z
def tup3 {α : Type} (z : α) (d : D) (k : D → D → D → α) : α := match d with | .tup [a, b, c] => k a b c | _ => z
def tup4 {α : Type} (z : α) (d : D) (k : D → D → D → D → α) : α := match d with | .tup [a, b, c, e] => k a b c e | _ => z
@[simp] theorem tup2_tup {α : Type} (z : α) (a b : D) (k : D → D → α) : tup2 z (.tup [a, b]) k = k a b := rfl
@[simp] theorem tup3_tup {α : Type} (z : α) (a b c : D) (k : D → D → D → α) : tup3 z (.tup [a, b, c]) k = k a b c := rfl
@[simp] theorem tup4_tup {α : Type} (z : α) (a b c e : D) (k : D → D → D → D → α) : tup4 z (.tup [a, b, c, e]) k = k a b c e := rfl
theorem dso_nm {i : Nat} {d : D} {m : O τ ρ} (h : DS X T W ip rm inj injL envX (env.set i (.sh d)) ss m) : DSo X T W ip rm inj injL envX ((Pat.nm i).bind d env) ss m := h
theorem dso_2 {p q : Pat} {d : D} {m : D → D → O τ ρ} (h : ∀ a b, DSo X T W ip rm inj injL envX ((p.bind a env).bind (q.bind b)) ss (m a b)) : DSo X T W ip rm inj injL envX ((Pat.tp [p, q]).bind d env) ss (tup2 .st d m) := by
  have key : ∀ a b, Pat.binds [p, q] [a, b] env = (p.bind a env).bind (q.bind b) := fun a b => by
    show (p.bind a env).bind (fun e => (q.bind b e).bind (Pat.binds [] [])) = _
    cases p.bind a env with
    | none => rfl
    | some e => show (q.bind b e).bind (Pat.binds [] []) = q.bind b e; cases q.bind b e <;> rfl
  have nn : ∀ xs, (∀ a b, xs ≠ [a, b]) → Pat.binds [p, q] xs env = none := fun xs hx => by
    cases e : Pat.binds [p, q] xs env with
    | none => rfl
    | some z =>
      have := binds_len (by rw [e]; simp)
      match xs, this with
      | [a, b], _ => exact absurd rfl (hx a b)
  cases d with
  | tup xs =>
    match xs with
    | [a, b] => show DSo _ _ _ _ _ _ _ _ (Pat.binds [p, q] [a, b] env) _ _; rw [key]; exact h a b
    | [] => exact rfl
    | [a] => show DSo _ _ _ _ _ _ _ _ (Pat.binds [p, q] [a] env) _ _; rw [nn _ (by intros; simp)]; exact rfl
    | a :: b :: c :: r => show DSo _ _ _ _ _ _ _ _ (Pat.binds [p, q] (a :: b :: c :: r) env) _ _; rw [nn _ (by intros; simp)]; exact rfl
  | _ => exact rfl
theorem dso_3 {p q t : Pat} {d : D} {m : D → D → D → O τ ρ} (h : ∀ a b c, DSo X T W ip rm inj injL envX (((p.bind a env).bind (q.bind b)).bind (t.bind c)) ss (m a b c)) : DSo X T W ip rm inj injL envX ((Pat.tp [p, q, t]).bind d env) ss (tup3 .st d m) := by
  have key : ∀ a b c, Pat.binds [p, q, t] [a, b, c] env = ((p.bind a env).bind (q.bind b)).bind (t.bind c) := fun a b c => by
    show (p.bind a env).bind (fun e => (q.bind b e).bind (fun e => (t.bind c e).bind (Pat.binds [] []))) = _
    cases p.bind a env with
    | none => rfl
    | some e =>
      show (q.bind b e).bind (fun e => (t.bind c e).bind (Pat.binds [] [])) = (q.bind b e).bind (t.bind c)
      cases q.bind b e with
      | none => rfl
      | some e => show (t.bind c e).bind (Pat.binds [] []) = t.bind c e; cases t.bind c e <;> rfl
  have nn : ∀ xs, (∀ a b c, xs ≠ [a, b, c]) → Pat.binds [p, q, t] xs env = none := fun xs hx => by
    cases e : Pat.binds [p, q, t] xs env with
    | none => rfl
    | some z =>
      have := binds_len (by rw [e]; simp)
      match xs, this with
      | [a, b, c], _ => exact absurd rfl (hx a b c)
  cases d with
  | tup xs =>
    match xs with
    | [a, b, c] => show DSo _ _ _ _ _ _ _ _ (Pat.binds [p, q, t] [a, b, c] env) _ _; rw [key]; exact h a b c
    | [] => exact rfl
    | [a] => show DSo _ _ _ _ _ _ _ _ (Pat.binds [p, q, t] [a] env) _ _; rw [nn _ (by intros; simp)]; exact rfl
    | [a, b] => show DSo _ _ _ _ _ _ _ _ (Pat.binds [p, q, t] [a, b] env) _ _; rw [nn _ (by intros; simp)]; exact rfl
    | a :: b :: c :: e :: r => show DSo _ _ _ _ _ _ _ _ (Pat.binds [p, q, t] (a :: b :: c :: e :: r) env) _ _; rw [nn _ (by intros; simp)]; exact rfl
  | _ => exact rfl
/-- a, b = e -/
theorem dss_asgP {tg : Expr} {pt : Pat} {f : D → O τ ρ} (he : DE .S X T W env e me) (hg : GT X tg pt) (hr : ∀ d, DSo X T W ip rm inj injL envX (pt.bind d env) ss (f d)) (wx : True) (hip : ∀ i ∈ pt.ixs, i ∉ ip := by decide)
    (hs : swapsWithSole [tg] e pos.line X.env = pure false := by kernel_rfl) (hw : swappedStores [tg] e X.env = pure none := by kernel_rfl) (h1 : (assignEach [tg] X.env).map (·.2) = [assign tg X.env] := by kernel_rfl) :
    DS X T W ip rm inj injL envX env (.Assign [tg] e pos :: ss) (O.ofR me f) := fun G F σ H D I h => by
  refine wpS_cons (ps_asg (pos := pos) pe_wp pg_wp hs hw h1) ?_
  refine runS he wx I h fun d F1 v H1 s1 r I1 q1 => ?_
  have hd := hr d
  cases eb : pt.bind d env with
  | none =>
    rw [eb] at hd
    have z : f d = .st := hd
    rw [z] at q1
    exact q1.elim
  | some env3 =>
    rw [eb] at hd
    refine hg F1 H1 v d σ _ r (fun env' => pat_dec (by rw [eb]; simp) env') fun σ4 u4 => ?_
    exact hd G F1 σ4 H1 D (Pat.er2 u4 eb hip I1) q1
/-- name op= e -/
theorem dss_aug {i : Nat} {x : Str} {op : Operator} {p' : Pos} {d0 : D} {g : D → D → Option D} {f : D → O τ ρ} (hv : env[i]? = some (.sh d0)) (ho : OpD .S X T (inplaceOp op) g) (he : DE .S X T W env e me) (hr : ∀ d, DS X T W ip rm inj injL envX (env.set i (.sh d)) ss (f d)) (wx : True) (hN : X.N.Nodup) (hi : X.N[i]? = some x := by kernel_rfl)
    (hx : Loc X.env.scope x := by exact loc_of (by kernel_rfl)) (hip : i ∉ ip := by decide) (hf : X.fn x = true ∨ X.env.scope.names.lookup x = some .local := by first | exact .inl rfl | exact .inr rfl) :
    DS X T W ip rm inj injL envX env (.AugAssign (.Name x p') op e pos :: ss) (O.ofR (me.bind fun y => R.lift (g d0 y)) f) := fun G F σ H D I h => by
  have hip' : PIp X op (wpF X (inplaceOp op)) := fun pins s σ H x y v u Q I r1 r2 h => op_wp pins s σ H x y v u Q I r1 r2 h
  refine wpS_cons (ps_aug (pos := pos) (pos' := p') hN hi hx pe_wp hip' hf) ?_
  obtain ⟨v0, e0, r0⟩ := I.er.sh_at hv
  refine ⟨v0, e0, ?_⟩
  have h' : PostS X T W G ip rm inj injL envX F H (O.ofR me fun y => O.ofR (R.lift (g d0 y)) f) D := by
    cases me <;> exact h
  refine runS he wx I h' fun y F1 vy H1 s1 ry I1 q1 => ?_
  refine ho.run F1 H1 v0 vy d0 y _ (.inl (r0.mono s1.grow)) (.inl ry) ?_
  revert q1
  cases g d0 y with
  | none => exact fun q1 => q1
  | some z =>
    intro q1 F2 vz H2 s2 rz
    exact hr z G F2 _ H2 D ((I1.stp s2).set_sh rz hip) (PostS.grow s2.grow q1)
theorem ip_addD : OpD .S X T (inplaceOp .Add) (fun x y => match x, y with | .int _, .int _ => addD x y | .str _, .str _ => addD x y | _, _ => none) := by
  refine opd_of ((iop_add (X := X)).or iop_add_str) fun F H vx vy x y Q rx ry q => ?_
  cases x <;> cases y <;> try exact q.elim
  · rw [top_int rx, top_int ry]
    exact .inl ⟨_, _, rfl, rfl, q.imm (.int _)⟩
  · rename_i a b
    obtain ⟨e1, o1⟩ := top_str rx
    obtain ⟨e2, o2⟩ := top_str ry
    rw [e1, e2]
    by_cases hl : a.length + b.length ≤ sizeLine
    · have q : PostV X T F H .S (addD (.str a) (.str b)) Q := q
      rw [show addD (.str a) (.str b) = some (.str (a ++ b)) from if_pos hl] at q
      refine .inr ⟨_, _, rfl, rfl, by rw [SS_len, SS_len]; exact hl, ?_⟩
      rw [SS_app]
      exact q.imm (.str _ (okc_app o1 o2))
    · have q : PostV X T F H .S (addD (.str a) (.str b)) Q := q
      rw [show addD (.str a) (.str b) = none from if_neg hl] at q
      exact q.elim
theorem ip_subD : OpD .S X T (inplaceOp .Sub) subD := by
  refine opd_of iop_sub fun F H vx vy x y Q rx ry q => ?_
  cases x <;> cases y <;> try exact q.elim
  rw [top_int rx, top_int ry]
  exact ⟨_, _, rfl, rfl, q.imm (.int _)⟩
end
end DL

-- DL6
set_option Elab.async false
set_option linter.all false
set_option maxRecDepth 100000
set_option maxHeartbeats 4000000
/-! The data layer: comprehensions, changes of lists, defs by their bodies. -/
namespace DL
open PySem PySem.Spec PyProof.Rows L2

abbrev W0 : WX := fun _ _ _ _ => False
section
variable {K : PySem.W.Frag} {T : Tb} {F F' F1 : Addr → Prop} {H H' H1 : Hp} {p : Addr} {d : D} {σ : Sg} {env : List Sl}
/-- an object that the base does not know is changed -/
theorem datW {o : HO} {b : Addr} (ho : OwnAt K F' H' p d) (s : Stp T F H F' H') (hp : H p = none) (h : Dat H' b) (h0 : Dat H b) : Dat (upd H' p o) b := by
  obtain ⟨u, e, n⟩ := h
  obtain ⟨u0, e0, n0⟩ := h0
  exact ⟨u, by rw [upd_ne (ne_of_none e0 hp)]; exact e, n⟩
theorem Stp.wr {o : HO} (s : Stp T F H F' H') (hp : H p = none) (nf : ¬ F' p) (ht : ∀ ps, o ≠ .tbl ps) (ho : OwnAt K F' H' p d) : Stp T F H F' (upd H' p o) where
  inc := s.inc
  new := s.new
  keep := fun b u e n => by rw [upd_ne (ne_of_none e hp)]; exact s.keep b u e n
  there := fun b h => datW ho s hp (s.there b h) h
  tape := fun b h => (upd_rep nf ho.kind).tape b (s.tape b h)
  tabs := fun h => tabs_write (s.tabs h) ho
  ftr := fun h a hF => by
    by_cases e : a = p
    · exact absurd (by rw [← e]; exact hF) nf
    · obtain ⟨u, e1, n⟩ := s.ftr h a hF
      exact ⟨u, by rw [upd_ne e]; exact e1, n⟩
def wipeE (env : List Sl) : List Nat → List Sl
  | [] => env
  | v :: vs => (wipeE env vs).set v .no
theorem ER.set_no {i : Nat} (I : ER K T F σ H env) : ER K T F (σ.set i none) H (env.set i .no) where
  len := by rw [List.length_set, List.length_set]; exact I.len
  slots := fun j sl e => by
    rcases getSet e with ⟨rfl, rfl⟩ | ⟨hj, e⟩
    · have hl : j < env.length := by
        by_cases hl : j < env.length
        · exact hl
        · rw [List.getElem?_eq_none (by simpa using Nat.le_of_not_lt hl)] at e; cases e
      exact ⟨none, List.getElem?_set_self (by rw [I.len]; exact hl), trivial⟩
    · obtain ⟨x, h1, h2⟩ := I.slots j sl e
      exact ⟨x, by rw [List.getElem?_set_ne (Ne.symm hj)]; exact h1, h2⟩
  nd := fun j k q hj hk => by
    obtain ⟨⟨dj, e1⟩, e2⟩ := hj
    obtain ⟨⟨dk, e3⟩, e4⟩ := hk
    rcases getSet e1 with ⟨_, z⟩ | ⟨n1, e1⟩
    · cases z
    · rcases getSet e3 with ⟨_, z⟩ | ⟨n2, e3⟩
      · cases z
      · rw [List.getElem?_set_ne (Ne.symm n1)] at e2
        rw [List.getElem?_set_ne (Ne.symm n2)] at e4
        exact I.nd j k q ⟨⟨dj, e1⟩, e2⟩ ⟨⟨dk, e3⟩, e4⟩
  nf := fun j q hj => by
    obtain ⟨⟨dj, e1⟩, e2⟩ := hj
    rcases getSet e1 with ⟨_, z⟩ | ⟨n1, e1⟩
    · cases z
    · rw [List.getElem?_set_ne (Ne.symm n1)] at e2
      exact I.nf j q ⟨⟨dj, e1⟩, e2⟩
  ftr := I.ftr
  tabs := I.tabs
theorem ER.wipe : ∀ {vs : List Nat}, ER K T F σ H env → ER K T F (L2.wipe σ vs) H (wipeE env vs)
  | [], I => I
  | v :: vs, I => (ER.wipe (vs := vs) I).set_no
end

/-! ### comprehensions -/
def optC {α : Type} : Option α → List α → List α
  | some y, ys => y :: ys
  | none, ys => ys
@[simp] theorem optC_some {α : Type} (y : α) (ys : List α) : optC (some y) ys = y :: ys := rfl
@[simp] theorem optC_none {α : Type} (ys : List α) : optC none ys = ys := rfl
def compM {α : Type} : List D → (D → R (Option α)) → R (List α)
  | [], _ => .ok []
  | d :: ds, f => (f d).nx.bind fun o => (compM ds f).bind fun ys => .ok (optC o ys)
/-- an item behind its tests -/
def itM (mt : R Bool) (me : R D) : R (Option D) := mt.bind fun k => if k = true then me.bind fun y => .ok (some y) else .ok none
def wpTs (X : Cx) (ifs : List Expr) : TT := fun σ H Q => ∀ pins s, Inv X pins σ H s → wpAny (model X.prog X.w) X.A (forIn ifs true fun c r => if r = true then do let ok ← isTrue c X.env (eval c X.env); pure (ForInStep.yield ok) else pure (ForInStep.yield r)) (TP X pins σ Q) X.xe s
section
variable {X : Cx} {T : Tb} {W : WX} {ip : List Nat} {rm : Md} {τ ρ τ' : Type} {inj : τ → List Sl} {injL : ρ → List Sl} {envX env env2 : List Sl} {G : Gh} {F F' : Addr → Prop} {σ : Sg} {H H' : Hp} {ss : List Stmt} {e a b c tg elt iter : Expr} {es : List Expr} {me ma mb mc : R D} {mas : R (List D)} {mt : R Bool} {md : Md} {pos p : Pos}
/-- tests of a comprehension -/
inductive DTs (X : Cx) (T : Tb) (W : WX) (env : List Sl) : List Expr → R Bool → Prop
  | nil : DTs X T W env [] (.ok true)
  | one {c : Expr} {m : R Bool} : DT X T W env c m → DTs X T W env [c] m
abbrev blkOf (X : Cx) (scope : Scope) (q : Shared × Hp × Addr × List (Str × Addr) × List Addr) : Cx := X.blk q.1 q.2.1 scope (compEnvC scope q.2.2.2.1 q.2.2.1 X.env) q.2.2.2.2
abbrev Blk := Shared × Hp × Addr × List (Str × Addr) × List Addr
/-- the block of a comprehension, for an item d -/
def CB (X : Cx) (T : Tb) (scope : Scope) (oe : Option (List Sl)) (ifs : List Expr) (elt : Expr) (m : R (Option D)) : Prop :=
  match oe with
  | some env2 => ∃ mt me, m = itM mt me ∧ (∀ q : Blk, DTs (blkOf X scope q) T W0 env2 ifs mt) ∧ ∀ q : Blk, DE .S (blkOf X scope q) T W0 env2 elt me
  | none => m = .st
theorem cb_mk {scope : Scope} {ifs : List Expr} (ht : ∀ q : Blk, DTs (blkOf X scope q) T W0 env2 ifs mt) (he : ∀ q : Blk, DE .S (blkOf X scope q) T W0 env2 elt me) : CB X T scope (some env2) ifs elt (itM mt me) := ⟨mt, me, rfl, ht, he⟩
theorem cb_nm {scope : Scope} {ifs : List Expr} {i : Nat} {d : D} {m : R (Option D)} (h : CB X T scope (some (env.set i (.sh d))) ifs elt m) : CB X T scope ((Pat.nm i).bind d env) ifs elt m := h
theorem cb_2 {scope : Scope} {ifs : List Expr} {p q : Pat} {d : D} {m : D → D → R (Option D)} (h : ∀ a b, CB X T scope ((p.bind a env).bind (q.bind b)) ifs elt (m a b)) : CB X T scope ((Pat.tp [p, q]).bind d env) ifs elt (tup2 .st d m) := by
  have key : ∀ a b, Pat.binds [p, q] [a, b] env = (p.bind a env).bind (q.bind b) := fun a b => by
    show (p.bind a env).bind (fun e => (q.bind b e).bind (Pat.binds [] [])) = _
    cases p.bind a env with
    | none => rfl
    | some e => show (q.bind b e).bind (Pat.binds [] []) = q.bind b e; cases q.bind b e <;> rfl
  have nn : ∀ xs, (∀ a b, xs ≠ [a, b]) → Pat.binds [p, q] xs env = none := fun xs hx => by
    cases e : Pat.binds [p, q] xs env with
    | none => rfl
    | some z =>
      have := binds_len (by rw [e]; simp)
      match xs, this with
      | [a, b], _ => exact absurd rfl (hx a b)
  cases d with
  | tup xs =>
    match xs with
    | [a, b] => show CB _ _ _ (Pat.binds [p, q] [a, b] env) _ _ _; rw [key]; exact h a b
    | [] => exact rfl
    | [a] => show CB _ _ _ (Pat.binds [p, q] [a] env) _ _ _; rw [nn _ (by intros; simp)]; exact rfl
    | a :: b :: c :: r => show CB _ _ _ (Pat.binds [p, q] (a :: b :: c :: r) env) _ _ _; rw [nn _ (by intros; simp)]; exact rfl
  | _ => exact rfl
theorem cb_3 {scope : Scope} {ifs : List Expr} {p q t : Pat} {d : D} {m : D → D → D → R (Option D)} (h : ∀ a b c, CB X T scope (((p.bind a env).bind (q.bind b)).bind (t.bind c)) ifs elt (m a b c)) : CB X T scope ((Pat.tp [p, q, t]).bind d env) ifs elt (tup3 .st d m) := by
  have key : ∀ a b c, Pat.binds [p, q, t] [a, b, c] env = ((p.bind a env).bind (q.bind b)).bind (t.bind c) := fun a b c => by
    show (p.bind a env).bind (fun e => (q.bind b e).bind (fun e => (t.bind c e).bind (Pat.binds [] []))) = _
    cases p.bind a env with
    | none => rfl
    | some e =>
      show (q.bind b e).bind (fun e => (t.bind c e).bind (Pat.binds [] [])) = (q.bind b e).bind (t.bind c)
      cases q.bind b e with
      | none => rfl
      | some e => show (t.bind c e).bind (Pat.binds [] []) = t.bind c e; cases t.bind c e <;> rfl
  have nn : ∀ xs, (∀ a b c, xs ≠ [a, b, c]) → Pat.binds [p, q, t] xs env = none := fun xs hx => by
    cases e : Pat.binds [p, q, t] xs env with
    | none => rfl
    | some z =>
      have := binds_len (by rw [e]; simp)
      match xs, this with
      | [a, b, c], _ => exact absurd rfl (hx a b c)
  cases d with
  | tup xs =>
    match xs with
    | [a, b, c] => show CB _ _ _ (Pat.binds [p, q, t] [a, b, c] env) _ _ _; rw [key]; exact h a b c
    | [] => exact rfl
    | [a] => show CB _ _ _ (Pat.binds [p, q, t] [a] env) _ _ _; rw [nn _ (by intros; simp)]; exact rfl
    | [a, b] => show CB _ _ _ (Pat.binds [p, q, t] [a, b] env) _ _ _; rw [nn _ (by intros; simp)]; exact rfl
    | a :: b :: c :: e :: r => show CB _ _ _ (Pat.binds [p, q, t] (a :: b :: c :: e :: r) env) _ _ _; rw [nn _ (by intros; simp)]; exact rfl
  | _ => exact rfl

def gStar (X : Cx) (scope : Scope) (tg : Expr) : TG := fun v σ H Q => ∀ q : Blk, wpG (blkOf X scope q) tg v σ H Q
def tStar (X : Cx) (scope : Scope) (ifs : List Expr) : TT := fun σ H Q => ∀ q : Blk, wpTs (blkOf X scope q) ifs σ H Q
def eStar (X : Cx) (scope : Scope) (e : Expr) : TE := fun σ H Q => ∀ q : Blk, wpE (blkOf X scope q) e σ H Q
theorem dts_run {X : Cx} {ifs : List Expr} {b : Bool} {Q : Bool → Hp → Prop} (h : DTs X T W env ifs (.ok b)) (I : ER X.K T F σ H env) (k : ∀ F' H', Stp T F H F' H' → Q b H') : wpTs X ifs σ H Q := by
  cases h with
  | nil => exact fun pins s Iv => pts_nil.run pins s σ H Q Iv (k F H .refl)
  | one h => exact fun pins s Iv => (pts_one pt_wp).run pins s σ H Q Iv (h F σ H Q I k)
theorem lc_run {mi : R (List D)} {pt : Pat} {scope : Scope} {ifs : List Expr} {own : List (Str × Nat)} {f : D → R (Option D)} {Q : VK} (hi : DI md X T W env tg iter mi) (hg : ∀ q : Blk, GT (blkOf X scope q) tg pt)
    (hix : ∀ i ∈ pt.ixs, i ∈ own.map (·.2)) (hb : ∀ d, CB X T scope (pt.bind d (wipeE env (own.map (·.2)))) ifs elt (f d)) (I : ER X.K T F σ H env)
    (q : PostE X T W F σ H .O (mi.bind fun ds => (compM ds f).bind fun ys => .ok (.lst ys)) Q) :
    tLc (wpI X tg iter) (gStar X scope tg) (tStar X scope ifs) (eStar X scope elt) (own.map (·.2)) σ H Q := by
  refine hi F σ H _ I ?_
  cases mi with
  | ex c => exact q
  | st => exact q.elim
  | ok ds =>
    intro F1 H1 J s1 ⟨Gd, gst, ggo, gstop, gyld⟩ hlen D0 hD0
    have I1 := I.stp s1
    have q1 : PostE X T W F1 σ H1 .O ((compM ds f).bind fun ys => .ok (.lst ys)) Q := PostE.stp s1 q
    have b0 : H1 D0 = none := hD0
    refine ⟨fun i m H' => ∃ F' acc ys, m = ds.length - i ∧ i ≤ ds.length ∧ Stp T F1 H1 F' H' ∧ H' D0 = some (.lst acc) ∧ ¬ F' D0 ∧ Reps X.K F' H' acc ys ∧ ys.length ≤ i ∧
      PostE X T W F1 σ H1 .O ((compM (ds.drop i) f).bind fun zs => .ok (.lst (ys ++ zs))) Q, ⟨_, F1, [], [], rfl, Nat.zero_le _, .new1 hD0, upd_same, fun z => (I1.ftr D0 z).ne hD0, .nil, Nat.le_refl _, by rw [List.drop_zero]; exact q1⟩, ?_⟩
    rintro i m H2 ⟨F2, acc, ys, rfl, hil, s2, hD2, nf2, r2, hy2, q2⟩
    have g2 : Gd F2 H2 := gst F2 H2 (fun _ => s2.grow) (fun _ => s2)
    by_cases hlt : i < ds.length
    · refine .inr ⟨ggo i F2 H2 hlt g2, fun H' => ∃ F' acc ys, Stp T F1 H1 F' H' ∧ H' D0 = some (.lst acc) ∧ ¬ F' D0 ∧ Reps X.K F' H' acc ys ∧ ys.length ≤ i + 1 ∧
        PostE X T W F1 σ H1 .O ((compM (ds.drop (i + 1)) f).bind fun zs => .ok (.lst (ys ++ zs))) Q, fun H' ⟨F', acc, ys, a1, a2, a3, a4, a5, a6⟩ => ⟨ds.length - (i + 1), by omega, F', acc, ys, rfl, hlt, a1, a2, a3, a4, a5, a6⟩, fun x H3 hy => ?_⟩
      obtain ⟨d, hd, F3, s3, r3⟩ := gyld i F2 H2 x H3 hlt g2 hy
      have ed : ds.drop i = d :: ds.drop (i + 1) := by
        rw [List.drop_eq_getElem_cons hlt, (List.getElem?_eq_some_iff.mp hd).2]
      rw [ed] at q2
      have s13 := s2.trans s3
      have I3 : ER X.K T F3 (L2.wipe σ (own.map (·.2))) H3 (wipeE env (own.map (·.2))) := (I1.stp s13).wipe
      have o2 : OwnAt X.K F2 H2 D0 (.lst ys) := ⟨acc, hD2, r2⟩
      have o3 := s3.ownAt o2
      have nf3 : ¬ F3 D0 := s3.notF nf2 o2.tr
      have hbd := hb d
      have q3 : PostE X T W F1 σ H1 .O (((f d).nx.bind fun o => (compM (ds.drop (i + 1)) f).bind fun ys => .ok (optC o ys)).bind fun zs => .ok (.lst (ys ++ zs))) Q := q2
      cases eb : pt.bind d (wipeE env (own.map (·.2))) with
      | none =>
        rw [eb] at hbd
        have z : f d = .st := hbd
        rw [z] at q3
        exact q3.elim
      | some env3 =>
        rw [eb] at hbd
        obtain ⟨mt, me, ef, ht, he⟩ := hbd
        intro qb
        refine hg qb F3 H3 x d _ _ r3 (fun env' => pat_dec (by rw [eb]; simp) env') fun σ4 u4 => ?_
        have I4 := Pat.er u4 eb I3
        refine ⟨Pat.wipe u4 hix |>.trans ?_, ?_⟩
        · -- wiping twice
          have key : ∀ (vs ws : List Nat) (σ : Sg), (∀ v ∈ ws, v ∈ vs) → L2.wipe (L2.wipe σ ws) vs = L2.wipe σ vs := by
            intro vs ws
            induction ws with
            | nil => intro σ _; rfl
            | cons w ws ih =>
              intro σ h
              show L2.wipe ((L2.wipe σ ws).set w none) vs = _
              rw [wipe_set (h w List.mem_cons_self), ih σ fun v hv => h v (List.mem_cons_of_mem _ hv)]
          exact key _ _ σ fun _ h => h
        · rw [ef] at q3
          cases mt with
          | ex c => exact q3.elim
          | st => exact q3.elim
          | ok k =>
            intro qt
            refine dts_run (ht qt) I4 fun F5 H5 s5 => ?_
            have o5 := s5.ownAt o3
            have nf5 : ¬ F5 D0 := s5.notF nf3 o3.tr
            cases k with
            | false =>
              rw [if_neg Bool.false_ne_true]
              obtain ⟨acc5, h5, r5⟩ := o5
              have q4 : PostE X T W F1 σ H1 .O (((compM (ds.drop (i + 1)) f).bind fun ys => .ok (optC none ys)).bind fun zs => .ok (.lst (ys ++ zs))) Q := q3
              rw [R.bind_assoc] at q4
              exact ⟨F5, acc5, ys, s13.trans s5, h5, nf5, r5, by omega, q4⟩
            | true =>
              rw [if_pos rfl]
              intro qe
              refine he qe F5 σ4 H5 _ (I4.stp s5) ?_
              cases me with
              | ex c => exact q3.elim
              | st => exact q3.elim
              | ok y =>
                intro F6 v6 H6 s6 r6
                have o6 := s6.ownAt o5
                obtain ⟨acc6, h6, ra6⟩ := id o6
                have nf6 : ¬ F6 D0 := s6.notF nf5 o5.tr
                have s16 := (s13.trans s5).trans s6
                have g6 : Grow F6 H6 F6 (upd H6 D0 (.lst (acc6 ++ [v6]))) := upd_rep nf6 o6.kind
                refine ⟨acc6, h6, ?_, F6, acc6 ++ [v6], ys ++ [y], s16.wr b0 nf6 (fun _ z => by cases z) o6, upd_same, nf6, (ra6.append (.cons r6 .nil)).mono g6, by rw [List.length_append]; simp; omega, ?_⟩
                · rw [ra6.length]; omega
                · have q4 : PostE X T W F1 σ H1 .O (((compM (ds.drop (i + 1)) f).bind fun ys => .ok (y :: ys)).bind fun zs => .ok (.lst (ys ++ zs))) Q := q3
                  rw [R.bind_assoc] at q4
                  have e2 : (fun zs => R.ok (D.lst ((ys ++ [y]) ++ zs))) = fun zs => (R.ok (y :: zs)).bind fun zs => .ok (.lst (ys ++ zs)) := by
                    funext zs; show R.ok _ = R.ok _; rw [List.append_assoc]; rfl
                  rw [e2]
                  exact q4
    · have e : i = ds.length := by omega
      subst e
      refine .inl ⟨gstop F2 H2 g2, ?_⟩
      rw [List.drop_length] at q2
      have q3 : PostE X T W F1 σ H1 .O (.ok (.lst (ys ++ []))) Q := q2
      rw [List.append_nil] at q3
      exact q3 F2 (.ref D0) H2 s2 ⟨D0, rfl, nd_none b0, nf2, acc, hD2, r2⟩
theorem lc_pe {scope : Scope} {ifs : List Expr} {own : List (Str × Nat)} (hc : X.calm = true) (hN : X.N.Nodup) (ok : BlkOk X.N X.env.scope scope own) (hs : ∀ x, foldedSetIterable iter X.env x = pure x) :
    PE X (.ListComp elt [⟨tg, iter, ifs, 0⟩] scope pos) (tLc (wpI X tg iter) (gStar X scope tg) (tStar X scope ifs) (eStar X scope elt) (own.map (·.2))) :=
  pe_lc (pos := pos) hc hN pi_wp ok (fun s H C cl fp => ⟨fun pins s' σ H' v u Q I r h => pg_wp.run pins s' σ H' v u Q I r (h (s, H, C, cl, fp))⟩) (fun s H C cl fp => ⟨fun pins s' σ H' Q I h => h (s, H, C, cl, fp) pins s' I⟩) (fun s H C cl fp => ⟨fun pins s' σ H' Q I h => pe_wp.run pins s' σ H' Q I (h (s, H, C, cl, fp))⟩) hs
/-- [elt for tg in iter if ..] -/
theorem de_lc {mi : R (List D)} {pt : Pat} {scope : Scope} {ifs : List Expr} (own : List (Str × Nat)) {f : D → R (Option D)} (hi : DI md X T W env tg iter mi) (hg : ∀ q : Blk, GT (blkOf X scope q) tg pt)
    (hb : ∀ d, CB X T scope (pt.bind d (wipeE env (own.map (·.2)))) ifs elt (f d)) (hc : X.calm = true) (hN : X.N.Nodup) (ok : BlkOk X.N X.env.scope scope own) (hix : ∀ i ∈ pt.ixs, i ∈ own.map (·.2) := by decide) (hs : ∀ x, foldedSetIterable iter X.env x = pure x := by intro _; kernel_rfl) :
    DE .O X T W env (.ListComp elt [⟨tg, iter, ifs, 0⟩] scope pos) (mi.bind fun ds => (compM ds f).bind fun ys => .ok (.lst ys)) := fun F σ H Q I q =>
  (lc_pe (pos := pos) hc hN ok hs).wp (lc_run hi hg hix hb I q)
/-- name = [..] on one line -/
theorem dss_setLc {i : Nat} {y : Str} {py spos : Pos} {mi : R (List D)} {pt : Pat} {scope : Scope} {ifs : List Expr} (own : List (Str × Nat)) {g : D → R (Option D)} {f : D → O τ ρ} (hi : DI md X T W env tg iter mi) (hg : ∀ q : Blk, GT (blkOf X scope q) tg pt)
    (hb : ∀ d, CB X T scope (pt.bind d (wipeE env (own.map (·.2)))) ifs elt (g d)) (hr : ∀ d, DS X T W ip rm inj injL envX (env.set i (.ow d)) ss (f d)) (wx : True) (hc : X.calm = true) (hN : X.N.Nodup) (ok : BlkOk X.N X.env.scope scope own)
    (hsw : swapsWith (.ListComp elt [⟨tg, iter, ifs, 0⟩] scope pos) (some (.Name y py)) spos.line X.env = pure true) (hy : X.N[i]? = some y := by kernel_rfl) (hyl : X.env.scope.names.lookup y = some .local := by kernel_rfl) (hip : i ∉ ip := by decide) (hix : ∀ i ∈ pt.ixs, i ∈ own.map (·.2) := by decide) (hs : ∀ x, foldedSetIterable iter X.env x = pure x := by intro _; kernel_rfl) :
    DS X T W ip rm inj injL envX env (.Assign [.Name y py] (.ListComp elt [⟨tg, iter, ifs, 0⟩] scope pos) spos :: ss) (O.ofR (mi.bind fun ds => (compM ds g).bind fun ys => .ok (.lst ys)) f) := fun G F σ H D I h => by
  refine wpS_cons (L2.ps_setLc (spos := spos) (pos := pos) (py := py) (g := gStar X scope tg) (tt := tStar X scope ifs) (te := eStar X scope elt) hc hN hy hyl hsw pi_wp ok (fun s H C cl fp => ⟨fun pins s' σ H' v u Q I r h => pg_wp.run pins s' σ H' v u Q I r (h (s, H, C, cl, fp))⟩) (fun s H C cl fp => ⟨fun pins s' σ H' Q I h => h (s, H, C, cl, fp) pins s' I⟩) (fun s H C cl fp => ⟨fun pins s' σ H' Q I h => pe_wp.run pins s' σ H' Q I (h (s, H, C, cl, fp))⟩) hs) ?_
  show tLc (wpI X tg iter) (gStar X scope tg) (tStar X scope ifs) (eStar X scope elt) (own.map (·.2)) σ H _
  refine lc_run hi hg hix hb I.er ?_
  revert h
  generalize (mi.bind fun ds => (compM ds g).bind fun ys => R.ok (DL.D.lst ys)) = mm
  cases mm with
  | ex c => exact fun h F' C dd H' s hm => h F' C dd σ H' (I.stp s).nos hm
  | st => exact fun h => h
  | ok d =>
    intro h F1 v H1 s1 r
    obtain ⟨a, rfl, h0, nf, o⟩ := r
    have I1 := I.stp s1
    refine hr d G F1 _ H1 D (I1.set_ow o nf (fun j hj => ?_) (I.back h0) hip) (PostS.grow s1.grow h)
    obtain ⟨d', _, o'⟩ := I.er.own hj
    exact h0 o'.tr

/-! ### changes of lists -/
/-- xs.append(e) -/
theorem dss_append {i : Nat} {x : Str} {xs : List D} {p1 apos cpos : Pos} {f : D → O τ ρ} (hv : env[i]? = some (.ow (.lst xs))) (he : DE .S X T W env e me) (hr : ∀ d, DS X T W ip rm inj injL envX (env.set i (.ow (.lst (xs ++ [d])))) ss (f d)) (wx : True)
    (hN : X.N[i]? = some x := by kernel_rfl) (hvi : Vis X.env.scope x := by exact vis_of (by kernel_rfl)) (hd : (x == ("__debug__" : Str)) = false := by kernel_rfl) (hcd : (x == ("__classdict__" : Str)) = false := by kernel_rfl)
    (hbase : attributeBase (.Name x p1) "append" X.env (eval (.Name x p1) X.env) = eval (.Name x p1) X.env := by kernel_rfl)
    (hfew : ((backTo cpos (starEach [e] X.env)).all (fun x => !x.1) && (backToKw cpos (keywordEach [] X.env)).all (fun x => x.1.isSome)
      && decide (([e] : List Expr).length + ([] : List Keyword).length + (if ([] : List Keyword).isEmpty then 0 else 1) < 30)) = true := by kernel_rfl)
    (hline : (apos.endLine == cpos.line) = true := by kernel_rfl) (hs : starEach [e] X.env = (false, eval e X.env) :: starEach [] X.env := by kernel_rfl) (hplain : (backTo cpos (starEach [] X.env)).any (·.1) = false := by kernel_rfl)
    (hsw : swapsWith (.Call (.Attribute (.Name x p1) "append" apos) [e] [] cpos) none pos.line X.env = pure false := by kernel_rfl) :
    DS X T W ip rm inj injL envX env (.Expr (.Call (.Attribute (.Name x p1) "append" apos) [e] [] cpos) pos :: ss) (O.ofR me fun d => if xs.length < sizeLine then f d else .st) := fun G F σ H D I h => by
  refine wpS_cons (ps_expr (pos := pos) (pe_bm PySem.F.plainAttrs_list PySem.F.slot_list_append PySem.F.type_list_append mt_append (pe_var (pos := p1) hN hvi hd hcd) (pa_cons pe_wp pa_nil hs) hbase hfew hline hs hplain) hsw) ?_
  obtain ⟨a, e1, o⟩ := I.er.ow_at hv
  obtain ⟨vs, hH, r⟩ := id o
  refine ⟨.ref a, e1, .inl ⟨rfl, vs, .inl (.inl hH)⟩, ?_⟩
  refine runS he wx I h fun d F1 v H1 s1 rv I1 q1 => ?_
  by_cases hl : xs.length < sizeLine
  · rw [if_pos hl] at q1
    obtain ⟨b, e2, o1⟩ := I1.er.ow_at hv
    rw [e1] at e2
    cases e2
    obtain ⟨vs1, hH1, r1⟩ := id o1
    refine ⟨a, vs1, v, rfl, rfl, hH1, by rw [r1.length]; exact hl, ?_⟩
    have g := I1.write_grow (o := .lst (vs1 ++ [v])) hv e1
    exact hr d G F1 σ _ D (I1.write hv e1 ⟨vs1 ++ [v], upd_same, (r1.append (.cons rv .nil)).mono g⟩) (PostS.grow g q1)
  · rw [if_neg hl] at q1
    exact q1.elim
/-- lists joined in place, whoever holds the second -/
theorem mt_extendR : MtM X "list.extend" (fun x vs H Q => ∃ l b xs zs, x = .ref l ∧ vs = [.ref b] ∧ H l = some (.lst xs) ∧ Rd H b (.lst zs) ∧ xs.length + zs.length ≤ sizeLine ∧ Q .non (upd H l (.lst (xs ++ zs)))) := by
  intro pins s σ H x vs v us Q I rx rv h
  obtain ⟨l, b, xs, zs, rfl, rfl, hH, hB, hz, q⟩ := h
  cases rx
  obtain ⟨u, rfl, ru⟩ := rv.one
  cases ru
  obtain ⟨z, its, n, r, hl, e⟩ := I.lstM hH
  obtain ⟨z2, its2, n2, r2, e2⟩ := hB.ok I.hok
  have hl2 := r2.length
  have hsz : its.toArray.size + its2.toArray.size ≤ sizeLine := by rw [List.size_toArray, List.size_toArray]; omega
  have hlong : ¬ (!its.toArray.isEmpty && Builtin.List.listTooLong (its.toArray.size + its2.toArray.size)) = true := by
    rw [notLongL hsz, Bool.and_false]
    exact Bool.false_ne_true
  refine call_meets F.slot_list_extend ⟨_, e, rfl⟩ F.entry_list_extend (F.args_list_extend_2 _ _)
    (AutoSeq1.list_extend_list_list_0 l its.toArray n b its2.toArray n2 hlong (by rw [List.size_toArray]; omega) (by omega)) ⟨e, e2, ?_⟩
  refine ⟨.non, _, I.lset (its' := its ++ its2) hH e (by simp) (r.append r2) ?_, rfl, q⟩
  rw [List.length_append]
  omega
theorem dss_extend {i : Nat} {x : Str} {xs : List D} {p1 apos cpos : Pos} {f : List D → O τ ρ} (hv : env[i]? = some (.ow (.lst xs))) (he : DE .S X T W env e me) (hr : ∀ ys, DS X T W ip rm inj injL envX (env.set i (.ow (.lst (xs ++ ys)))) ss (f ys)) (wx : True)
    (hN : X.N[i]? = some x := by kernel_rfl) (hvi : Vis X.env.scope x := by exact vis_of (by kernel_rfl)) (hd : (x == ("__debug__" : Str)) = false := by kernel_rfl) (hcd : (x == ("__classdict__" : Str)) = false := by kernel_rfl)
    (hbase : attributeBase (.Name x p1) "extend" X.env (eval (.Name x p1) X.env) = eval (.Name x p1) X.env := by kernel_rfl)
    (hfew : ((backTo cpos (starEach [e] X.env)).all (fun x => !x.1) && (backToKw cpos (keywordEach [] X.env)).all (fun x => x.1.isSome)
      && decide (([e] : List Expr).length + ([] : List Keyword).length + (if ([] : List Keyword).isEmpty then 0 else 1) < 30)) = true := by kernel_rfl)
    (hline : (apos.endLine == cpos.line) = true := by kernel_rfl) (hs : starEach [e] X.env = (false, eval e X.env) :: starEach [] X.env := by kernel_rfl) (hplain : (backTo cpos (starEach [] X.env)).any (·.1) = false := by kernel_rfl)
    (hsw : swapsWith (.Call (.Attribute (.Name x p1) "extend" apos) [e] [] cpos) none pos.line X.env = pure false := by kernel_rfl) :
    DS X T W ip rm inj injL envX env (.Expr (.Call (.Attribute (.Name x p1) "extend" apos) [e] [] cpos) pos :: ss) (O.ofR (me.bind fun d => R.lift (lstOf d)) fun ys => if xs.length + ys.length ≤ sizeLine then f ys else .st) := fun G F σ H D I h => by
  refine wpS_cons (ps_expr (pos := pos) (pe_bm PySem.F.plainAttrs_list PySem.F.slot_list_extend PySem.F.type_list_extend mt_extendR (pe_var (pos := p1) hN hvi hd hcd) (pa_cons pe_wp pa_nil hs) hbase hfew hline hs hplain) hsw) ?_
  obtain ⟨a, e1, o⟩ := I.er.ow_at hv
  obtain ⟨vs, hH, r⟩ := id o
  refine ⟨.ref a, e1, .inl ⟨rfl, vs, .inl (.inl hH)⟩, ?_⟩
  have h' : PostS X T W G ip rm inj injL envX F H (O.ofR me fun d => O.ofR (R.lift (lstOf d)) fun ys => if xs.length + ys.length ≤ sizeLine then f ys else .st) D := by
    cases me <;> exact h
  refine runS he wx I h' fun d F1 v H1 s1 rv I1 q1 => ?_
  cases d <;> try exact q1.elim
  rename_i ys
  have q1 : PostS X T W G ip rm inj injL envX F1 H1 (if xs.length + ys.length ≤ sizeLine then f ys else .st) D := q1
  by_cases hl : xs.length + ys.length ≤ sizeLine
  · rw [if_pos hl] at q1
    obtain ⟨b, e2, o1⟩ := I1.er.ow_at hv
    rw [e1] at e2
    cases e2
    obtain ⟨vs1, hH1, r1⟩ := id o1
    have rv' : Rep X.K F1 H1 v (.lst ys) := rv
    cases rv' with
    | lst hF hB rb =>
      rename_i b ws
      refine ⟨a, b, vs1, ws, rfl, rfl, hH1, hB, by rw [r1.length, rb.length]; exact hl, ?_⟩
      have g := I1.write_grow (o := .lst (vs1 ++ ws)) hv e1
      exact hr ys G F1 σ _ D (I1.write hv e1 ⟨vs1 ++ ws, upd_same, (r1.append rb).mono g⟩) (PostS.grow g q1)
  · rw [if_neg hl] at q1
    exact q1.elim
/-- xs[i] = e -/
def setL (xs : List D) (k : D) (y : D) : Option (List D) := match k with | .int k => (ixN xs.length k).map fun j => xs.set j y | _ => none
theorem dss_setitem {i : Nat} {x : Str} {xs : List D} {ix : Expr} {mx : R D} {p1 p2 : Pos} {f : List D → O τ ρ} (hv : env[i]? = some (.ow (.lst xs))) (he : DE .S X T W env e me) (hx : DE .S X T W env ix mx)
    (hr : ∀ ys, DS X T W ip rm inj injL envX (env.set i (.ow (.lst ys))) ss (f ys)) (wx : True)
    (hN : X.N[i]? = some x := by kernel_rfl) (hvi : Vis X.env.scope x := by exact vis_of (by kernel_rfl)) (hd : (x == ("__debug__" : Str)) = false := by kernel_rfl) (hcd : (x == ("__classdict__" : Str)) = false := by kernel_rfl)
    (ha : ∀ v, assign (.Subscript (.Name x p1) ix p2) X.env v = (do
      let ov ← holding [v] (eval (.Name x p1) X.env)
      let iv ← holding [v, ov] (eval ix X.env)
      standAt p2
      holding [v, ov, iv] (setItem ov iv v)
      release [v, ov, iv] []) := by intro _; kernel_rfl)
    (hs : swapsWithSole [.Subscript (.Name x p1) ix p2] e pos.line X.env = pure false := by kernel_rfl) (hw : swappedStores [.Subscript (.Name x p1) ix p2] e X.env = pure none := by kernel_rfl)
    (h1 : (assignEach [.Subscript (.Name x p1) ix p2] X.env).map (·.2) = [assign (.Subscript (.Name x p1) ix p2) X.env] := by kernel_rfl) :
    DS X T W ip rm inj injL envX env (.Assign [.Subscript (.Name x p1) ix p2] e pos :: ss) (O.ofR (me.bind fun y => mx.bind fun k => R.lift (setL xs k y)) f) := fun G F σ H D I h => by
  refine wpS_cons (ps_asg (pos := pos) pe_wp (pg_sub (pe_var (pos := p1) hN hvi hd hcd) pe_wp set_list ha) hs hw h1) ?_
  have h' : PostS X T W G ip rm inj injL envX F H (O.ofR me fun y => O.ofR (mx.bind fun k => R.lift (setL xs k y)) f) D := by
    cases me <;> exact h
  refine runS he wx I h' fun y F1 vy H1 s1 ry I1 q1 => ?_
  obtain ⟨a, e1, o⟩ := I1.er.ow_at hv
  refine ⟨.ref a, e1, ?_⟩
  have q1' : PostS X T W G ip rm inj injL envX F1 H1 (O.ofR mx fun k => O.ofR (R.lift (setL xs k y)) f) D := by
    cases mx <;> exact q1
  refine runS hx wx I1 q1' fun k F2 vk H2 s2 rk I2 q2 => ?_
  cases k <;> try exact q2.elim
  rename_i k
  cases rk
  have q2 : PostS X T W G ip rm inj injL envX F2 H2 (O.ofR (R.lift ((ixN xs.length k).map fun j => xs.set j y)) f) D := q2
  obtain ⟨b, e2, o2⟩ := I2.er.ow_at hv
  rw [e1] at e2
  cases e2
  obtain ⟨vs, hH, r⟩ := id o2
  cases ej : ixN xs.length k with
  | none => rw [ej] at q2; exact q2.elim
  | some j =>
    rw [ej] at q2
    refine ⟨a, vs, k, j, rfl, rfl, hH, by rw [r.length]; exact ej, ?_⟩
    have g := I2.write_grow (o := .lst (vs.set j vy)) hv e1
    have ry' : Rep X.K F2 H2 vy y := Rep.mono s2.grow ry
    exact hr _ G F2 σ _ D (I2.write hv e1 ⟨vs.set j vy, upd_same, (r.set j ry').mono g⟩) (PostS.grow g q2)
end

/-! ### a def by its body -/
/-- a def of the text, with what is known of its code -/
structure FunC (K : PySem.W.Frag) (x : Str) (st : Stmt) (f : Addr) (fd : FuncData) (C : Value → Prop) : Prop where
  ex : ∃ (oc : Value) (od : Option Addr) (kV doc pm : Value) (an : Option Addr) (cdv ct : Value) (osl : Array (Option Value)),
    fd = PySem.W.fnOf x x (defArgs st) (defBody st) (defScope st) .none kV doc pm an cdv ct ∧ K.lookup f = some ⟨oc, od, .func fd, osl⟩ ∧ PySem.W.codeIn K cdv x = true ∧ C cdv
  kp : PySem.W.keepIn K (.ref f) = true
theorem _root_.L2.Fun.c {K : PySem.W.Frag} {x : Str} {st : Stmt} {f : Addr} {fd : FuncData} (F : Fun K x x st f fd) : FunC K x st f fd fun _ => True := by
  obtain ⟨⟨oc, od, kV, doc, pm, an, cdv, ct, osl, h1, h2, h3⟩, kp⟩ := F
  exact ⟨⟨oc, od, kV, doc, pm, an, cdv, ct, osl, h1, h2, h3, trivial⟩, kp⟩
theorem fnD_ofC {C : Value → Prop} {P : Program} {w : World} {K : PySem.W.Frag} {mg : Str → Option Value} {base : Heap} {T : Tb} {x : Str} {st : Stmt} {f : Addr} {fd : FuncData} {N ps : List Str} {k : Nat} {md : Md} {M : List D → R D} (Fn : FunC K x st f fd C) (hm : mg x = some (.ref f)) (S : FnScope N ps (defScope st)) (b : Binds K fd ps [])
    (body : ∀ (cdv : Value) (hC : C cdv) (A : Around) (outer : List Env) (s : Shared) (H : Hp) (E : XK) (ds : List D), ds.length = ps.length → Room k (A.deeper (envOfC x (defScope st) s.heap.objs.size f cdv)) →
      ∃ (m : O Unit Unit), DS (cxOf (L2.CX P w) P w K mg base N x (defScope st) f cdv A outer s H E) T (fun cls d _ H' => E cls d H') [] md (fun _ => List.replicate N.length .no) (fun _ => List.replicate N.length .no) (List.replicate N.length .no)
        (ds.map .sh ++ List.replicate (N.length - ps.length) .no) (defBody st) m ∧ M ds = m.toR ∧ (md = .O → ∀ s, m ≠ .nx s)) : FnD P w K mg base T (k + 1) x ps.length md M := by
  refine ⟨f, fd, ps, hm, Fn.kp, b, ?_⟩
  obtain ⟨oc, od, kV, doc, pm, an, cdv, ct, osl, rfl, lk, hcd, hC⟩ := Fn.ex
  refine fn_of lk hcd S (fun vs H Q E h => h.1) fun A outer s H vs Q E hr hsp => ?_
  obtain ⟨hlen, F, ds, hF, hT, r, q⟩ := hsp
  have hdl : ds.length = ps.length := by rw [← r.length]; exact hlen
  obtain ⟨m, hDS, hM, hO⟩ := body cdv hC A outer s H E ds hdl hr
  refine ⟨_, ps_wp, ?_⟩
  have hpl : ps.length ≤ N.length := by have := congrArg List.length S.pre; rw [List.length_take] at this; omega
  have hslots : ∀ (i : Nat) (sl : Sl), (ds.map Sl.sh ++ List.replicate (N.length - ps.length) Sl.no)[i]? = some sl → ∃ x : Option V, (L2.start N vs)[i]? = some x ∧ SlR K F H x sl := fun i sl e => by
    have hvl : vs.length = ps.length := hlen
    unfold L2.start
    by_cases hi : i < ds.length
    · rw [List.getElem?_append_left (by simpa using hi), List.getElem?_map] at e
      cases ed : ds[i]? with
      | none => rw [ed] at e; cases e
      | some d =>
        rw [ed] at e
        cases e
        obtain ⟨v, hv, rv⟩ := r.get ed
        refine ⟨some v, ?_, v, rfl, rv⟩
        rw [List.getElem?_append_left (by rw [List.length_map]; omega), List.getElem?_map, hv]
        rfl
    · rw [List.getElem?_append_right (by simpa using Nat.le_of_not_lt hi), List.getElem?_replicate] at e
      split at e
      · rename_i hlt
        cases e
        refine ⟨none, ?_, trivial⟩
        rw [List.getElem?_append_right (by rw [List.length_map]; omega), List.getElem?_replicate, if_pos (by rw [List.length_map] at *; omega)]
      · cases e
  have noOwn : ∀ (i : Nat) (a : Addr), ¬ OwnI (L2.start N vs) (ds.map Sl.sh ++ List.replicate (N.length - ps.length) Sl.no) i a := fun i a ⟨⟨d, e⟩, _⟩ => by
    by_cases hi : i < ds.length
    · rw [List.getElem?_append_left (by simpa using hi), List.getElem?_map] at e
      cases ed : ds[i]? with
      | none => rw [ed] at e; cases e
      | some d => rw [ed] at e; cases e
    · rw [List.getElem?_append_right (by simpa using Nat.le_of_not_lt hi), List.getElem?_replicate] at e
      split at e <;> cases e
  have hl : (L2.start N vs).length = (ds.map Sl.sh ++ List.replicate (N.length - ps.length) Sl.no).length := by
    unfold L2.start
    simp only [List.length_append, List.length_map, List.length_replicate]
    omega
  refine hDS ⟨F, H, []⟩ F (L2.start N vs) H { nx := fun _ H' => Q .non H', rt := Q } ⟨⟨hl, hslots, fun i j a h => absurd h (noOwn i a), fun i a h => absurd h (noOwn i a), hF, hT⟩, fun _ h => h, fun _ h => .inl h, fun _ _ h _ _ => h, fun _ h => h, fun _ h => h, fun i a h => absurd h (noOwn i a), .nil⟩ ?_
  rw [hM] at q
  cases m with
  | nx s1 =>
    intro F' σ' H' I' _
    have q : ∀ F' v H', Stp T F H F' H' → RepM K F' H' md H v .non → Q v H' := q
    refine q F' .non H' ⟨I'.inc, I'.new, fun b o e n => I'.keep b o e n (by simp), I'.there, I'.tape, fun _ => I'.er.tabs, fun _ => I'.er.ftr⟩ ?_
    cases md with
    | S => exact .non
    | B => exact .inl .non
    | O => exact absurd rfl (hO rfl s1)
  | rt d us =>
    intro F' v H' s1 r1 _
    have q : ∀ F' v H', Stp T F H F' H' → RepM K F' H' md H v d → Q v H' := q
    exact q F' v H' ⟨s1.inc, s1.new, fun b o e n => s1.keep b o e n (by simp), s1.there, s1.tape, fun _ => s1.tabs, fun _ => s1.ftr⟩ r1
  | bk s1 => exact q.elim
  | ct s1 => exact q.elim
  | xc c =>
    intro F' C dd σ' H' I' hmC
    have q : ∀ F' C dd H', Stp T F H F' H' → mg c = some (.ref C) → E (.ref C) dd H' := q
    exact q F' C dd H' ⟨I'.inc, I'.new, fun b o e n => I'.keep b o e n (by simp), I'.there, I'.tape, fun _ => I'.er.tabs, fun _ => I'.er.ftr⟩ hmC
  | st => exact q.elim
theorem fnD_of {P : Program} {w : World} {K : PySem.W.Frag} {mg : Str → Option Value} {base : Heap} {T : Tb} {x : Str} {st : Stmt} {f : Addr} {fd : FuncData} {N ps : List Str} {k : Nat} {md : Md} {M : List D → R D} (Fn : Fun K x x st f fd) (hm : mg x = some (.ref f)) (S : FnScope N ps (defScope st)) (b : Binds K fd ps [])
    (body : ∀ (cdv : Value) (A : Around) (outer : List Env) (s : Shared) (H : Hp) (E : XK) (ds : List D), ds.length = ps.length → Room k (A.deeper (envOfC x (defScope st) s.heap.objs.size f cdv)) →
      ∃ (m : O Unit Unit), DS (cxOf (L2.CX P w) P w K mg base N x (defScope st) f cdv A outer s H E) T (fun cls d _ H' => E cls d H') [] md (fun _ => List.replicate N.length .no) (fun _ => List.replicate N.length .no) (List.replicate N.length .no)
        (ds.map .sh ++ List.replicate (N.length - ps.length) .no) (defBody st) m ∧ M ds = m.toR ∧ (md = .O → ∀ s, m ≠ .nx s)) : FnD P w K mg base T (k + 1) x ps.length md M := fnD_ofC (C := fun _ => True) Fn.c hm S b fun cdv _ A outer s H E ds hl hr => body cdv A outer s H E ds hl hr
end DL

-- DL7
set_option Elab.async false
set_option linter.all false
set_option maxRecDepth 100000
set_option maxHeartbeats 4000000
/-! The data layer: what is drawn from a tape. -/
namespace DL
open PySem PySem.Spec PyProof.Rows L2

/-- all that may come -/
abbrev N (α : Type) := (α → Prop) → Prop
namespace N
variable {α β τ ρ τ' : Type}
def l (r : α) : N α := fun P => P r
def bind (m : N (R α)) (f : α → N (R β)) : N (R β) := fun P => m fun r => match r with
  | .ok a => f a P
  | .ex c => P (.ex c)
  | .st => False
def ofR (m : N (R α)) (f : α → N (O τ ρ)) : N (O τ ρ) := fun P => m fun r => match r with
  | .ok a => f a P
  | .ex c => P (.xc c)
  | .st => False
/-- after a loop, an if -/
def aftP (P : O τ' ρ → Prop) (f : τ → N (O τ' ρ)) : O τ ρ → Prop
  | .nx s => f s P
  | .rt d us => P (.rt d us)
  | .bk s => P (.bk s)
  | .ct s => P (.ct s)
  | .xc c => P (.xc c)
  | .st => False
def seq (m : N (O τ ρ)) (f : τ → N (O τ' ρ)) : N (O τ' ρ) := fun P => m (aftP P f)
/-- no exceptions -/
def nx (m : N (R α)) : N (R α) := fun P => m fun r => match r with
  | .ok a => P (.ok a)
  | _ => False
theorem bind_l (m : R α) (f : α → N (R β)) (P : R β → Prop) : N.bind (N.l m) f P = (match m with | .ok a => f a P | .ex c => P (.ex c) | .st => False) := rfl
@[simp] theorem bind_ok (a : α) (f : α → N (R β)) : N.bind (N.l (.ok a)) f = f a := rfl
@[simp] theorem ofR_ok (a : α) (f : α → N (O τ ρ)) : N.ofR (N.l (.ok a)) f = f a := rfl
@[simp] theorem seq_nx (s : τ) (f : τ → N (O τ' ρ)) : N.seq (N.l (.nx s)) f = f s := rfl
@[simp] theorem seq_rt (d : D) (us : List D) (f : τ → N (O τ' ρ)) : N.seq (N.l (.rt d us)) f = N.l (.rt d us) := rfl
@[simp] theorem l_app (a : α) (P : α → Prop) : N.l a P = P a := rfl
theorem bind_assoc {γ : Type} (m : N (R α)) (f : α → N (R β)) (g : β → N (R γ)) : N.bind (N.bind m f) g = N.bind m fun a => N.bind (f a) g := by
  funext P
  show m _ = m _
  refine congrArg m (funext fun r => ?_)
  cases r <;> rfl
end N

section
variable (X : Cx) (T : Tb) (W : WX) (F : Addr → Prop) (σ : Sg) (H : Hp)
def NPostE (md : Md) (m : N (R D)) (Q : VK) : Prop := ∃ P, (∀ r, P r → PostE X T W F σ H md r Q) ∧ m P
def NPostT (m : N (R Bool)) (Q : Bool → Hp → Prop) : Prop := ∃ P, (∀ r, P r → PostT X T W F σ H r Q) ∧ m P
def NPostA (n : Nat) (m : N (R (List D))) (Q : List V → Hp → Prop) : Prop := ∃ P, (∀ r, P r → (∀ xs, r = .ok xs → xs.length = n) → PostA X T W F σ H r Q) ∧ m P
def NPostI (md : Md) (m : N (R (List D))) (Q : It → Hp → Prop) : Prop := ∃ P, (∀ r, P r → PostI md X T W F σ H r Q) ∧ m P
end
def EN (md : Md) (X : Cx) (T : Tb) (W : WX) (env : List Sl) (e : Expr) (m : N (R D)) : Prop :=
  ∀ F σ H Q, ER X.K T F σ H env → NPostE X T W F σ H md m Q → wpE X e σ H Q
def TN (X : Cx) (T : Tb) (W : WX) (env : List Sl) (e : Expr) (m : N (R Bool)) : Prop :=
  ∀ F σ H Q, ER X.K T F σ H env → NPostT X T W F σ H m Q → wpT X e σ H Q
def WN (X : Cx) (T : Tb) (W : WX) (env : List Sl) (e : Expr) (m : N (R Bool)) : Prop :=
  ∀ F σ H Q, ER X.K T F σ H env → NPostT X T W F σ H m Q → wpW X e σ H Q
def AN (X : Cx) (T : Tb) (W : WX) (env : List Sl) (es : List Expr) (m : N (R (List D))) : Prop :=
  ∀ F σ H Q, ER X.K T F σ H env → NPostA X T W F σ H es.length m Q → wpA X es σ H Q
def IN (md : Md) (X : Cx) (T : Tb) (W : WX) (env : List Sl) (tg iter : Expr) (m : N (R (List D))) : Prop :=
  ∀ F σ H (Q : It → Hp → Prop), ER X.K T F σ H env → NPostI X T W F σ H md m Q → wpI X tg iter σ H Q

section
variable {X : Cx} {T : Tb} {W : WX} {F F' F1 F2 : Addr → Prop} {σ : Sg} {H H' H1 H2 : Hp} {env : List Sl} {md md1 : Md} {e a b c tg iter : Expr} {es : List Expr} {m ma mb mc : N (R D)} {mt mt1 mt2 : N (R Bool)} {mas : N (R (List D))} {pos p2 : Pos}
theorem NPostE.stp {Q : VK} (s : Stp T F H F' H') (h : NPostE X T W F σ H md m Q) : NPostE X T W F' σ H' md m Q := by
  obtain ⟨P, h1, h2⟩ := h
  exact ⟨P, fun r hr => PostE.stp s (h1 r hr), h2⟩
theorem NPostT.stp {Q : Bool → Hp → Prop} (s : Stp T F H F' H') (h : NPostT X T W F σ H mt Q) : NPostT X T W F' σ H' mt Q := by
  obtain ⟨P, h1, h2⟩ := h
  exact ⟨P, fun r hr => PostT.stp s (h1 r hr), h2⟩
theorem NPostA.stp {n : Nat} {Q : List V → Hp → Prop} (s : Stp T F H F' H') (h : NPostA X T W F σ H n mas Q) : NPostA X T W F' σ H' n mas Q := by
  obtain ⟨P, h1, h2⟩ := h
  exact ⟨P, fun r hr hl => PostA.stp s (h1 r hr hl), h2⟩
theorem PostI.stp {md : Md} {mi : R (List D)} {Q : It → Hp → Prop} (s : Stp T F H F' H') (h : PostI md X T W F σ H mi Q) : PostI md X T W F' σ H' mi Q := by
  cases mi with
  | ok d => exact fun F2 H2 J s2 => h F2 H2 J (s.trans s2)
  | ex c => exact PostX.stp s h
  | st => exact h
theorem NPostI.stp {Q : It → Hp → Prop} (s : Stp T F H F' H') (h : NPostI X T W F σ H md mas Q) : NPostI X T W F' σ H' md mas Q := by
  obtain ⟨P, h1, h2⟩ := h
  exact ⟨P, fun r hr => PostI.stp s (h1 r hr), h2⟩
theorem NPostE.l {r : R D} {Q : VK} (h : NPostE X T W F σ H md (N.l r) Q) : PostE X T W F σ H md r Q := by
  obtain ⟨P, h1, h2⟩ := h
  exact h1 r h2
theorem NPostT.l {r : R Bool} {Q : Bool → Hp → Prop} (h : NPostT X T W F σ H (N.l r) Q) : PostT X T W F σ H r Q := by
  obtain ⟨P, h1, h2⟩ := h
  exact h1 r h2
theorem NPostI.l {r : R (List D)} {Q : It → Hp → Prop} (h : NPostI X T W F σ H md (N.l r) Q) : PostI md X T W F σ H r Q := by
  obtain ⟨P, h1, h2⟩ := h
  exact h1 r h2
/-- what does not draw -/
theorem en_of {m : R D} (h : DE md X T W env e m) : EN md X T W env e (N.l m) := fun F σ H Q I q => h F σ H Q I q.l
theorem tn_of {m : R Bool} (h : DT X T W env e m) : TN X T W env e (N.l m) := fun F σ H Q I q => h F σ H Q I q.l
theorem wn_of {m : R Bool} (h : DW X T W env e m) : WN X T W env e (N.l m) := fun F σ H Q I q => h F σ H Q I q.l
theorem an_of {m : R (List D)} (h : DA X T W env es m) : AN X T W env es (N.l m) := fun F σ H Q I ⟨P, h1, h2⟩ => h.run F σ H Q I (h1 m h2 h.len)
theorem in_of {m : R (List D)} (h : DI md X T W env tg iter m) : IN md X T W env tg iter (N.l m) := fun F σ H Q I q => h F σ H Q I q.l
theorem EN.toB (h : EN md X T W env e m) : EN .B X T W env e m := fun F σ H Q I ⟨P, h1, h2⟩ => h F σ H Q I ⟨P, fun r hr => by
  have := h1 r hr
  cases r with
  | ok d => exact fun F' v H' s r => this F' v H' s (RepM.toB r)
  | ex c => exact this
  | st => exact this, h2⟩
theorem EN.ofO (h : EN .O X T W env e m) : EN .S X T W env e m := fun F σ H Q I ⟨P, h1, h2⟩ => h F σ H Q I ⟨P, fun r hr => by
  have q := h1 r hr
  cases r with
  | ok d =>
    intro F' v H' s r
    obtain ⟨p, ev, h0, nf, o⟩ := r
    subst ev
    exact q (Fa F' p) (.ref p) H' (s.addF h0 o.tr) (o.topAt.addF.rep (.inr rfl))
  | ex c => exact q
  | st => exact q, h2⟩
/-- one expression, then more -/
theorem nrunEE {Q Q1 : VK} {f : D → N (R D)} (ha : EN md X T W env a ma) (I : ER X.K T F σ H env) (h : NPostE X T W F σ H md1 (N.bind ma f) Q)
    (k : ∀ d F' v H', Stp T F H F' H' → RepM X.K F' H' md H v d → NPostE X T W F' σ H' md1 (f d) Q → Q1 v H') : wpE X a σ H Q1 := by
  obtain ⟨P, h1, h2⟩ := h
  refine ha F σ H Q1 I ⟨_, fun r hr => ?_, h2⟩
  cases r with
  | ok d => exact fun F' v H' s r => k d F' v H' s r (NPostE.stp s ⟨P, h1, hr⟩)
  | ex c => exact h1 _ hr
  | st => exact hr.elim
theorem nrunET {Q1 : VK} {Q : Bool → Hp → Prop} {f : D → N (R Bool)} (ha : EN md X T W env a ma) (I : ER X.K T F σ H env) (h : NPostT X T W F σ H (N.bind ma f) Q)
    (k : ∀ d F' v H', Stp T F H F' H' → RepM X.K F' H' md H v d → NPostT X T W F' σ H' (f d) Q → Q1 v H') : wpE X a σ H Q1 := by
  obtain ⟨P, h1, h2⟩ := h
  refine ha F σ H Q1 I ⟨_, fun r hr => ?_, h2⟩
  cases r with
  | ok d => exact fun F' v H' s r => k d F' v H' s r (NPostT.stp s ⟨P, h1, hr⟩)
  | ex c => exact h1 _ hr
  | st => exact hr.elim
theorem nrunTE {Q : VK} {Q1 : Bool → Hp → Prop} {f : Bool → N (R D)} (ha : TN X T W env c mt) (I : ER X.K T F σ H env) (h : NPostE X T W F σ H md (N.bind mt f) Q)
    (k : ∀ b F' H', Stp T F H F' H' → NPostE X T W F' σ H' md (f b) Q → Q1 b H') : wpT X c σ H Q1 := by
  obtain ⟨P, h1, h2⟩ := h
  refine ha F σ H Q1 I ⟨_, fun r hr => ?_, h2⟩
  cases r with
  | ok d => exact fun F' H' s => k d F' H' s (NPostE.stp s ⟨P, h1, hr⟩)
  | ex c => exact h1 _ hr
  | st => exact hr.elim
theorem nrunTT {Q Q1 : Bool → Hp → Prop} {f : Bool → N (R Bool)} (ha : TN X T W env c mt) (I : ER X.K T F σ H env) (h : NPostT X T W F σ H (N.bind mt f) Q)
    (k : ∀ b F' H', Stp T F H F' H' → NPostT X T W F' σ H' (f b) Q → Q1 b H') : wpT X c σ H Q1 := by
  obtain ⟨P, h1, h2⟩ := h
  refine ha F σ H Q1 I ⟨_, fun r hr => ?_, h2⟩
  cases r with
  | ok d => exact fun F' H' s => k d F' H' s (NPostT.stp s ⟨P, h1, hr⟩)
  | ex c => exact h1 _ hr
  | st => exact hr.elim
theorem nrunAE {Q : VK} {Q1 : List V → Hp → Prop} {f : List D → N (R D)} (ha : AN X T W env es mas) (I : ER X.K T F σ H env) (h : NPostE X T W F σ H md (N.bind mas f) Q)
    (k : ∀ ds F' vs H', Stp T F H F' H' → Reps X.K F' H' vs ds → ds.length = es.length → NPostE X T W F' σ H' md (f ds) Q → Q1 vs H') : wpA X es σ H Q1 := by
  obtain ⟨P, h1, h2⟩ := h
  refine ha F σ H Q1 I ⟨_, fun r hr hl => ?_, h2⟩
  cases r with
  | ok d => exact fun F' v H' s r => k d F' v H' s r (hl d rfl) (NPostE.stp s ⟨P, h1, hr⟩)
  | ex c => exact h1 _ hr
  | st => exact hr.elim
theorem nrunEI {Q1 : VK} {Q : It → Hp → Prop} {f : D → N (R (List D))} (ha : EN md X T W env a ma) (I : ER X.K T F σ H env) (h : NPostI X T W F σ H md1 (N.bind ma f) Q)
    (k : ∀ d F' v H', Stp T F H F' H' → RepM X.K F' H' md H v d → NPostI X T W F' σ H' md1 (f d) Q → Q1 v H') : wpE X a σ H Q1 := by
  obtain ⟨P, h1, h2⟩ := h
  refine ha F σ H Q1 I ⟨_, fun r hr => ?_, h2⟩
  cases r with
  | ok d => exact fun F' v H' s r => k d F' v H' s r (NPostI.stp s ⟨P, h1, hr⟩)
  | ex c => exact h1 _ hr
  | st => exact hr.elim

theorem en_op {op : Operator} {g : D → D → Option D} (ho : OpD md X T (binaryOp op) g) (ha : EN .B X T W env a ma) {mb : D → N (R D)} (hb : ∀ x, EN .B X T W env b (mb x)) :
    EN md X T W env (.BinOp a op b pos) (N.bind ma fun x => N.bind (mb x) fun y => N.l (R.lift (g x y))) := fun F σ H Q I q => by
  refine (pe_op (pos := pos) (op_wp (X := X) (f := binaryOp op)) pe_wp pe_wp).wp ?_
  refine nrunEE ha I q fun x F1 vx H1 s1 rx q1 => ?_
  refine nrunEE (hb x) (I.stp s1) q1 fun y F2 vy H2 s2 ry q2 => ?_
  exact ho.run F2 H2 vx vy x y Q (s2.top rx) ry q2.l.lift
theorem en_cmp {op : CmpOp} {g : D → D → Option Bool} (ho : OpD .S X T (compareOp op) fun x y => (g x y).map D.bl) (ha : EN .B X T W env a ma) (hb : EN .B X T W env b mb) (hm : behindInMarks op b = false := by first | exact nomark _ | rfl) :
    EN .S X T W env (.Compare a [op] [b] pos) (N.bind ma fun x => N.bind mb fun y => N.l (R.lift ((g x y).map D.bl))) := fun F σ H Q I q => by
  refine (pe_cmpR (pos := pos) (op_wp (X := X) (f := compareOp op)) pe_wp pe_wp hm).wp ?_
  refine nrunEE ha I q fun x F1 vx H1 s1 rx q1 => ?_
  refine nrunEE hb (I.stp s1) q1 fun y F2 vy H2 s2 ry q2 => ?_
  exact ho.run F2 H2 vx vy x y Q (s2.top rx) ry q2.l.lift
theorem tn_cmp {op : CmpOp} {g : D → D → Option Bool} (ho : OpD .S X T (compareOp op) fun x y => (g x y).map D.bl) (ha : EN .B X T W env a ma) (hb : EN .B X T W env b mb) (hm : behindInMarks op b = false := by first | exact nomark _ | rfl) :
    TN X T W env (.Compare a [op] [b] pos) (N.bind ma fun x => N.bind mb fun y => N.l (R.lift (g x y))) := fun F σ H Q I q => by
  refine (pt_cmpR (pos := pos) (op_wp (X := X) (f := compareOp op)) pe_wp pe_wp hm).wp ?_
  refine nrunET ha I q fun x F1 vx H1 s1 rx q1 => ?_
  refine nrunET hb (I.stp s1) q1 fun y F2 vy H2 s2 ry q2 => ?_
  refine ho.run F2 H2 vx vy x y _ (s2.top rx) ry ?_
  replace q2 := q2.l
  revert q2
  cases g x y with
  | none => exact fun q2 => q2
  | some k =>
    intro q2 F3 v H3 s3 r
    cases r
    exact ⟨k, rfl, q2 F3 H3 s3⟩
theorem tn_tru (ha : EN .B X T W env a ma) (he : ∀ whole, isTrue a X.env whole = (do let v ← whole; standAt a.pos; holding [v] (truthy v)) := by intro _; kernel_rfl) :
    TN X T W env a (N.bind ma fun x => N.l (R.lift (truD x))) := fun F σ H Q I q => by
  refine (pt_truth pe_wp he).wp ?_
  refine nrunET ha I q fun x F1 vx H1 s1 rx q1 => ?_
  replace q1 := q1.l
  revert q1
  cases e : truD x with
  | none => exact fun q1 => q1.elim
  | some k => exact fun q1 => ⟨k, tru_rep rx e, q1 F1 H1 .refl⟩
theorem tn_not (ha : TN X T W env a mt) : TN X T W env (.UnaryOp .Not a pos) (N.bind mt fun k => N.l (.ok (!k))) := fun F σ H Q I q => by
  refine (pt_not (pos := pos) pt_wp).wp ?_
  exact nrunTT ha I q fun k F1 H1 s1 q1 => q1.l F1 H1 .refl
theorem wn_and1 (ha : TN X T W env a mt) : WN X T W env (.BoolOp .And [a] pos) mt := fun F σ H Q I q => (pw_and1 (pos := pos) pt_wp).wp (ha F σ H Q I q)
theorem wn_or1 (ha : TN X T W env a mt) : WN X T W env (.BoolOp .Or [a] pos) mt := fun F σ H Q I q => (pw_or1 (pos := pos) pt_wp).wp (ha F σ H Q I q)
theorem wn_and {es : List Expr} (ha : TN X T W env a mt1) (hb : WN X T W env (.BoolOp .And (b :: es) pos) mt2) : WN X T W env (.BoolOp .And (a :: b :: es) pos) (N.bind mt1 fun k => if k = true then mt2 else N.l (.ok false)) := fun F σ H Q I q => by
  refine (pw_and (pos := pos) pt_wp pw_wp).wp ?_
  refine nrunTT ha I q fun k F1 H1 s1 q1 => ?_
  cases k with
  | true => exact hb F1 σ H1 Q (I.stp s1) q1
  | false => exact q1.l F1 H1 .refl
theorem wn_or {es : List Expr} (ha : TN X T W env a mt1) (hb : WN X T W env (.BoolOp .Or (b :: es) pos) mt2) : WN X T W env (.BoolOp .Or (a :: b :: es) pos) (N.bind mt1 fun k => if k = true then N.l (.ok true) else mt2) := fun F σ H Q I q => by
  refine (pw_or (pos := pos) pt_wp pw_wp).wp ?_
  refine nrunTT ha I q fun k F1 H1 s1 q1 => ?_
  cases k with
  | false => exact hb F1 σ H1 Q (I.stp s1) q1
  | true => exact q1.l F1 H1 .refl
theorem tn_w (h : WN X T W env e mt) : TN X T W env e mt := fun F σ H Q I q => by
  unfold wpT
  intro pins s Iv
  have z := h F σ H Q I q
  unfold wpW at z
  exact z _ pins s Iv
theorem en_if (hc : TN X T W env c mt) (ha : EN md X T W env a ma) (hb : EN md X T W env b mb) : EN md X T W env (.IfExp c a b pos) (N.bind mt fun k => if k = true then ma else mb) := fun F σ H Q I q => by
  refine (pe_ifExp (pos := pos) pt_wp pe_wp pe_wp).wp ?_
  refine nrunTE hc I q fun k F1 H1 s1 q1 => ?_
  cases k with
  | true => exact ha F1 σ H1 Q (I.stp s1) q1
  | false => exact hb F1 σ H1 Q (I.stp s1) q1
theorem an_cons {es : List Expr} (ha : EN .S X T W env a ma) (hr : AN X T W env es mas) (hs : starEach (a :: es) X.env = (false, eval a X.env) :: starEach es X.env := by kernel_rfl) :
    AN X T W env (a :: es) (N.bind ma fun x => N.bind mas fun xs => N.l (.ok (x :: xs))) := fun F σ H Q I ⟨P, h1, h2⟩ => by
  refine (pa_cons pe_wp pa_wp hs).wp ?_
  refine ha F σ H _ I ⟨_, fun r hr' => ?_, h2⟩
  cases r with
  | ok x =>
    intro F1 vx H1 s1 rx
    refine hr F1 σ H1 _ (I.stp s1) ⟨_, fun r2 hr2 hl => ?_, hr'⟩
    cases r2 with
    | ok xs => 
      have q1 := PostA.stp s1 (h1 (.ok (x :: xs)) hr2 (fun ys e => by cases e; rw [List.length_cons, List.length_cons, hl xs rfl]))
      exact fun F2 vs H2 s2 r => q1 F2 (vx :: vs) H2 s2 (.cons (Rep.mono s2.grow rx) r)
    | ex c => exact PostX.stp s1 (h1 (.ex c) hr2 (fun ys e => by cases e))
    | st => exact hr2.elim
  | ex c => exact h1 (.ex c) hr' (fun ys e => by cases e)
  | st => exact hr'.elim
theorem en_tup {k : Nat} (h : AN X T W env es mas) (hl : es.length ≤ 100000 := by decide) : EN .S X T W env (.Tuple es k pos) (N.bind mas fun xs => N.l (.ok (.tup xs))) := fun F σ H Q I q => by
  refine (pe_tup (pos := pos) (x1 := k) pa_wp).wp ?_
  refine nrunAE h I q fun ds F1 vs H1 s1 r hd q1 => ?_
  refine ⟨by rw [r.length, hd]; exact small_line hl, fun p hp => ?_⟩
  exact q1.l F1 (.ref p) _ (.new1 hp) (.tup (.inl (.inl upd_same)) (r.mono (Stp.new1 (T := T) hp).grow))
theorem en_lst (h : AN X T W env es mas) (hl : es.length ≤ 100000 := by decide) : EN .O X T W env (.List es pos) (N.bind mas fun xs => N.l (.ok (.lst xs))) := fun F σ H Q I q => by
  refine (pe_lst (pos := pos) pa_wp).wp ?_
  refine nrunAE h I q fun ds F1 vs H1 s1 r hd q1 => ?_
  refine ⟨by rw [r.length, hd]; exact small_line hl, fun p hp => ?_⟩
  refine q1.l F1 (.ref p) _ (.new1 hp) ⟨p, rfl, nd_none hp, fun hF => ?_, ⟨vs, upd_same, r.mono (Stp.new1 (T := T) hp).grow⟩⟩
  exact (s1.ftr I.ftr p hF).ne hp
theorem en_ix (ha : EN .B X T W env a ma) (hb : EN .B X T W env b mb) (hs : PlainIx b := by intro _ _; kernel_rfl) : EN .S X T W env (.Subscript a b pos) (N.bind ma fun x => N.bind mb fun y => N.l (R.lift (idxD x y))) := fun F σ H Q I q => by
  refine (pe_ix (pos := pos) ix_seq pe_wp pe_wp hs).wp ?_
  refine nrunEE ha I q fun x F1 vx H1 s1 rx q1 => ?_
  refine nrunEE hb (I.stp s1) q1 fun y F2 vy H2 s2 ry q2 => ?_
  replace q2 := q2.l
  replace rx : Top X.K F2 H2 vx x := s2.top rx
  cases x <;> cases y <;> try exact q2.elim
  · rename_i s i
    obtain ⟨e1, o1⟩ := top_str rx
    rw [e1, top_int ry]
    by_cases hl : s.length ≤ sizeLine
    · rw [show idxD (.str s) (.int i) = (atI s i).map fun c => D.str [c] from if_pos hl] at q2
      cases hc : atI s i with
      | none => rw [hc] at q2; exact q2.elim
      | some c =>
        rw [hc] at q2
        have := q2.lift.imm (.str [c] fun d hd => by rw [List.mem_singleton.mp hd]; exact o1 c (atI_mem hc))
        exact .inr (.inr ⟨SS s, i, c, rfl, rfl, by rw [SS_len]; exact hl, hc, this⟩)
    · rw [show idxD (.str s) (.int i) = none from if_neg hl] at q2
      exact q2.elim
  · rename_i xs i
    obtain ⟨p, vs, e1, h1, r1⟩ := top_tup rx
    rw [e1, top_int ry]
    rw [show idxD (.tup xs) (.int i) = atI xs i from rfl] at q2
    cases hc : atI xs i with
    | none => rw [hc] at q2; exact q2.elim
    | some d =>
      rw [hc] at q2
      obtain ⟨v, hv, rv⟩ := reps_at r1 hc
      exact .inr (.inl ⟨p, vs, i, v, rfl, rfl, h1, hv, q2.lift.imm rv⟩)
  · rename_i xs i
    obtain ⟨p, vs, e1, h1, r1⟩ := top_lst rx
    rw [e1, top_int ry]
    rw [show idxD (.lst xs) (.int i) = atI xs i from rfl] at q2
    cases hc : atI xs i with
    | none => rw [hc] at q2; exact q2.elim
    | some d =>
      rw [hc] at q2
      obtain ⟨v, hv, rv⟩ := reps_at r1 hc
      exact .inl ⟨p, vs, i, v, rfl, rfl, .inl h1, hv, q2.lift.imm rv⟩
/-- a part of a slice -/
def PN (X : Cx) (T : Tb) (W : WX) (env : List Sl) (o : Option Expr) (m : N (R (Option Int))) : Prop :=
  (o = none ∧ m = N.l (.ok none)) ∨ ∃ e me, o = some e ∧ EN .S X T W env e me ∧ m = N.bind me fun d => N.l (intP d)
theorem pn_none : PN X T W env none (N.l (.ok none)) := .inl ⟨rfl, rfl⟩
theorem pn_some (he : EN .S X T W env e m) : PN X T W env (some e) (N.bind m fun d => N.l (intP d)) := .inr ⟨e, m, rfl, he, rfl⟩
theorem nrunO {Q : VK} {Q1 : Option Int → Hp → Prop} {o : Option Expr} {mo : N (R (Option Int))} {f : Option Int → N (R D)} (h : PN X T W env o mo) (I : ER X.K T F σ H env) (q : NPostE X T W F σ H md (N.bind mo f) Q)
    (k : ∀ i F' H', Stp T F H F' H' → NPostE X T W F' σ H' md (f i) Q → Q1 i H') : wpO X o σ H Q1 := by
  rcases h with ⟨rfl, rfl⟩ | ⟨e, me, rfl, he, rfl⟩
  · unfold wpO
    exact fun pins s Iv => po_none.run pins s σ H Q1 Iv (k none F H .refl q)
  · unfold wpO
    refine fun pins s Iv => (po_some pe_wp).run pins s σ H Q1 Iv ?_
    rw [N.bind_assoc] at q
    refine nrunEE he I q fun d F1 v H1 s1 r q1 => ?_
    cases d <;> try (obtain ⟨P, h1, h2⟩ := q1; exact h2.elim)
    cases r
    exact ⟨_, rfl, k _ F1 H1 s1 q1⟩
theorem en_slc {lo hi : Option Expr} {ml mh : N (R (Option Int))} (ha : EN .B X T W env a ma) (hl : PN X T W env lo ml) (hh : PN X T W env hi mh) :
    EN .S X T W env (.Subscript a (.Slice lo hi none p2) pos) (N.bind ma fun x => N.bind ml fun l => N.bind mh fun h => N.l (R.lift (slcD x l h))) := fun F σ H Q I q => by
  refine (pe_slice (pos := pos) (p2 := p2) ((sl_list (X := X)).or (sl_tupA.or sl_str)) pe_wp po_wp po_wp).wp ?_
  refine nrunEE ha I q fun x F1 vx H1 s1 rx q1 => ?_
  refine nrunO hl (I.stp s1) q1 fun l F2 H2 s2 q2 => ?_
  refine nrunO hh ((I.stp s1).stp s2) q2 fun u F3 H3 s3 q3 => ?_
  replace q3 := q3.l
  replace rx : Top X.K F3 H3 vx x := s3.top (s2.top rx)
  cases x <;> try exact q3.elim
  · rename_i s
    obtain ⟨e1, o1⟩ := top_str rx
    rw [e1]
    by_cases hl : s.length ≤ sizeLine
    · rw [show slcD (.str s) l u = some (.str (cutL s l u)) from if_pos hl] at q3
      exact .inr (.inr ⟨SS s, rfl, by rw [SS_len]; exact hl, q3.lift.imm (v := .str (SS (cutL s l u))) (.str _ (okc_cut l u o1))⟩)
    · rw [show slcD (.str s) l u = none from if_neg hl] at q3
      exact q3.elim
  · rename_i xs
    obtain ⟨p, vs, e1, h1, r1⟩ := top_tup rx
    rw [e1]
    refine .inr (.inl ⟨p, vs, rfl, h1, fun hw => ?_, fun hw q hq => ?_⟩)
    · have e2 : cutL xs l u = xs := by
        unfold cutL
        rw [r1.length] at hw
        rw [hw.1, hw.2, Nat.sub_zero, List.drop_zero, List.take_length]
      rw [show slcD (.tup xs) l u = some (.tup (cutL xs l u)) from rfl, e2] at q3
      exact q3.lift.imm (.tup h1 r1)
    · obtain ⟨s, r⟩ := newT (T := T) hq (reps_cut l u r1)
      exact q3 F3 _ _ s r
  · rename_i xs
    obtain ⟨p, vs, e1, h1, r1⟩ := top_lst rx
    rw [e1]
    refine .inl ⟨p, vs, rfl, .inl h1, fun q hq => ?_⟩
    obtain ⟨s, r⟩ := newL (T := T) hq (reps_cut l u r1)
    exact q3 _ _ _ s r
theorem en_c1B {id : String} {x : Str} {p : Pos} {g : D → Option D} (ho : Cal1 md X T (.builtin id) g) (hv : bootBuiltins x = some (.builtin id)) (hm : X.mg x = none) (ha : EN .B X T W env a ma) (hg : Gl X x := by exact gl_of (by kernel_rfl)) (hn : x ≠ "__name__" := by exact ne_name (by kernel_rfl)) (hdb : (x == ("__debug__" : Str)) = false := by kernel_rfl)
    (he : starEach [a] X.env = (false, eval a X.env) :: starEach [] X.env := by kernel_rfl) (hpl : (backTo pos (starEach [] X.env)).any (·.1) = false := by kernel_rfl) :
    EN md X T W env (.Call (.Name x p) [a] [] pos) (N.bind ma fun d => N.l (R.lift (g d))) := fun F σ H Q I q => by
  refine (pe_callB (pos := pos) (p := p) call_wp hg hm hv (pa_cons pe_wp pa_nil he) hn hdb he hpl).wp ?_
  refine nrunEE ha I q fun d F1 v H1 s1 r q1 => ?_
  exact ho.run F1 H1 v d Q (s1.ftr I.ftr) r q1.l.lift
theorem en_c1T {ty : String} {x : Str} {p : Pos} {g : D → Option D} (ho : Cal1 md X T (.type ty) g) (hv : bootBuiltins x = some (.type ty)) (hm : X.mg x = none) (ha : EN .B X T W env a ma) (hg : Gl X x := by exact gl_of (by kernel_rfl)) (hn : x ≠ "__name__" := by exact ne_name (by kernel_rfl)) (hdb : (x == ("__debug__" : Str)) = false := by kernel_rfl)
    (he : starEach [a] X.env = (false, eval a X.env) :: starEach [] X.env := by kernel_rfl) (hpl : (backTo pos (starEach [] X.env)).any (·.1) = false := by kernel_rfl) :
    EN md X T W env (.Call (.Name x p) [a] [] pos) (N.bind ma fun d => N.l (R.lift (g d))) := fun F σ H Q I q => by
  refine (pe_callTy (pos := pos) (p := p) call_wp hg hm hv (pa_cons pe_wp pa_nil he) hn hdb he hpl).wp ?_
  refine nrunEE ha I q fun d F1 v H1 s1 r q1 => ?_
  exact ho.run F1 H1 v d Q (s1.ftr I.ftr) r q1.l.lift
theorem en_c2B {id : String} {x : Str} {p : Pos} {g : D → D → Option D} (ho : Cal2 md X T (.builtin id) g) (hv : bootBuiltins x = some (.builtin id)) (hm : X.mg x = none) (ha : EN .B X T W env a ma) (hb : EN .B X T W env b mb) (hg : Gl X x := by exact gl_of (by kernel_rfl)) (hn : x ≠ "__name__" := by exact ne_name (by kernel_rfl)) (hdb : (x == ("__debug__" : Str)) = false := by kernel_rfl)
    (he : starEach [a, b] X.env = (false, eval a X.env) :: starEach [b] X.env := by kernel_rfl) (he2 : starEach [b] X.env = (false, eval b X.env) :: starEach [] X.env := by kernel_rfl) (hpl : (backTo pos (starEach [b] X.env)).any (·.1) = false := by kernel_rfl) :
    EN md X T W env (.Call (.Name x p) [a, b] [] pos) (N.bind ma fun d => N.bind mb fun e => N.l (R.lift (g d e))) := fun F σ H Q I q => by
  refine (pe_callB (pos := pos) (p := p) call_wp hg hm hv (pa_cons pe_wp (pa_cons pe_wp pa_nil he2) he) hn hdb he hpl).wp ?_
  refine nrunEE ha I q fun d F1 v H1 s1 r q1 => ?_
  refine nrunEE hb (I.stp s1) q1 fun e F2 w H2 s2 r2 q2 => ?_
  exact ho.run F2 H2 v w d e Q (s2.ftr (s1.ftr I.ftr)) (s2.top r) r2 q2.l.lift
end

/-! ### a def that draws -/
def spN (K : PySem.W.Frag) (T : Tb) (mg : Str → Option Value) (md : Md) (n : Nat) (M : List D → N (R D)) : Sp := fun vs H Q E => vs.length = n ∧ ∃ (F : Addr → Prop) (ds : List D), (∀ a, F a → Dat H a) ∧ LamX.Tabs T H ∧ Reps K F H vs ds ∧
  ∃ P : R D → Prop, (∀ r, P r → match r with
  | .ok d => ∀ F' v H', Stp T F H F' H' → RepM K F' H' md H v d → Q v H'
  | .ex c => ∀ F' C dd H', Stp T F H F' H' → mg c = some (.ref C) → E (.ref C) dd H'
  | .st => False) ∧ M ds P
structure FnN (P : Program) (w : World) (K : PySem.W.Frag) (mg : Str → Option Value) (base : Heap) (T : Tb) (k : Nat) (x : Str) (n : Nat) (md : Md) (M : List D → N (R D)) : Prop where
  ex : ∃ (f : Addr) (fd : FuncData) (ps : List Str), mg x = some (.ref f) ∧ PySem.W.keepIn K (.ref f) = true ∧ Binds K fd ps [] ∧ FnOk P w K mg base (L2.CX P w) k f fd ps (spN K T mg md n M)
theorem FnN.mono {P : Program} {w : World} {K : PySem.W.Frag} {mg : Str → Option Value} {base : Heap} {T : Tb} {j k : Nat} {x : Str} {n : Nat} {md : Md} {M : List D → N (R D)} (h : FnN P w K mg base T j x n md M) (hk : j ≤ k) : FnN P w K mg base T k x n md M := by
  obtain ⟨f, fd, ps, h1, h2, h3, h4⟩ := h.ex
  exact ⟨f, fd, ps, h1, h2, h3, h4.mono hk⟩
section
variable {X : Cx} {T : Tb} {W : WX} {ip : List Nat} {rm : Md} {τ ρ τ' : Type} {inj : τ → List Sl} {injL : ρ → List Sl} {envX env : List Sl} {G : Gh} {F F' : Addr → Prop} {σ : Sg} {H H' : Hp} {ss : List Stmt} {e : Expr} {es : List Expr} {me : N (R D)} {mas : N (R (List D))} {md : Md} {pos : Pos}
/-- f(e, ..), f a def that draws -/
theorem en_call {k j n : Nat} {x : Str} {p : Pos} {M : List D → N (R D)} (Fn : FnN X.prog X.w X.K X.mg X.base T k x n md M) (hr : Room j X.A) (tk : Takes X W) (ha : AN X T W env (e :: es) mas) (hk : k ≤ j := by decide) (hn : (e :: es).length = n := by kernel_rfl) (hg : Gl X x := by exact gl_of (by kernel_rfl))
    (hdb : (x == ("__debug__" : Str)) = false := by kernel_rfl) (he : starEach (e :: es) X.env = (false, eval e X.env) :: starEach es X.env := by kernel_rfl) (hpl : (backTo pos (starEach es X.env)).any (·.1) = false := by kernel_rfl) :
    EN md X T W env (.Call (.Name x p) (e :: es) [] pos) (N.bind mas M) := fun F σ H Q I q => by
  obtain ⟨f, fd, ps, h1, h2, h3, h4⟩ := Fn.ex
  refine (pe_callS (pos := pos) (p := p) h4 (hr.mono hk) hg h1 h2 h3 (fun σ => passAt tk σ) pa_wp hdb he hpl).wp ?_
  refine nrunAE ha I q fun ds F1 vs H1 s1 r hl q1 => ?_
  obtain ⟨P, q2, q3⟩ := q1
  refine ⟨by rw [r.length, hl]; exact hn, F1, ds, s1.ftr I.ftr, s1.tabs I.tabs, r, P, fun r hr => ?_, q3⟩
  have := q2 r hr
  cases r with
  | ok d => exact this
  | ex c => exact this
  | st => exact this
/-- .. one that does not draw, arguments that draw -/
theorem en_callD {k j n : Nat} {x : Str} {p : Pos} {M : List D → R D} (Fn : FnD X.prog X.w X.K X.mg X.base T k x n md M) (hr : Room j X.A) (tk : Takes X W) (ha : AN X T W env (e :: es) mas) (hk : k ≤ j := by decide) (hn : (e :: es).length = n := by kernel_rfl) (hg : Gl X x := by exact gl_of (by kernel_rfl))
    (hdb : (x == ("__debug__" : Str)) = false := by kernel_rfl) (he : starEach (e :: es) X.env = (false, eval e X.env) :: starEach es X.env := by kernel_rfl) (hpl : (backTo pos (starEach es X.env)).any (·.1) = false := by kernel_rfl) :
    EN md X T W env (.Call (.Name x p) (e :: es) [] pos) (N.bind mas fun ds => N.l (M ds)) := fun F σ H Q I q => by
  obtain ⟨f, fd, ps, h1, h2, h3, h4⟩ := Fn.ex
  refine (pe_callS (pos := pos) (p := p) h4 (hr.mono hk) hg h1 h2 h3 (fun σ => passAt tk σ) pa_wp hdb he hpl).wp ?_
  refine nrunAE ha I q fun ds F1 vs H1 s1 r hl q1 => ?_
  refine ⟨by rw [r.length, hl]; exact hn, F1, ds, s1.ftr I.ftr, s1.tabs I.tabs, r, ?_⟩
  have := q1.l
  revert this
  cases M ds with
  | ok d => exact fun q1 => q1
  | ex c => exact fun q1 => q1
  | st => exact fun q1 => q1
end
end DL

-- DL8
set_option Elab.async false
set_option linter.all false
set_option maxRecDepth 100000
set_option maxHeartbeats 4000000
/-! The data layer: statements that draw. -/
namespace DL
open PySem PySem.Spec PyProof.Rows L2

section
variable {X : Cx} {T : Tb} {W : WX} {F F' F1 F2 : Addr → Prop} {σ : Sg} {H H' H1 H2 : Hp} {env : List Sl} {md md1 : Md} {e a b c tg iter : Expr} {es : List Expr} {m ma mb mc : N (R D)} {mt mt1 mt2 : N (R Bool)} {mas : N (R (List D))} {pos p p2 : Pos}
theorem en_join {apos : Pos} (ha : EN .B X T W env a ma) (hb : EN .B X T W env b mb) (hs : starEach [b] X.env = [(false, eval b X.env)] := by kernel_rfl) (hbase : attributeBase a "join" X.env (eval a X.env) = eval a X.env := by kernel_rfl) (hline : (apos.endLine == pos.line) = true := by kernel_rfl) :
    EN .S X T W env (.Call (.Attribute a "join" apos) [b] [] pos) (N.bind ma fun x => N.bind (N.l (strR x .ok)) fun x => N.bind mb fun y => N.l (R.lift (joinD x y))) := fun F σ H Q I q => by
  refine (pe_join (pos := pos) (apos := apos) pe_wp pe_wp hs hbase hline).wp ?_
  refine nrunEE ha I q fun x F1 vx H1 s1 rx q1 => ?_
  cases x <;> try (obtain ⟨P, h1, h2⟩ := q1; exact h2.elim)
  rename_i sa
  obtain ⟨e1, o1⟩ := top_str (RepM.toB (md := .B) (H1 := H) rx)
  subst e1
  refine ⟨⟨_, rfl⟩, ?_⟩
  refine nrunEE hb (I.stp s1) q1 fun y F2 vy H2 s2 ry q2 => ?_
  replace q2 := q2.l
  unfold joinD at q2
  cases e : (seqOf y).bind strsOf with
  | none => rw [e] at q2; exact q2.elim
  | some ys =>
    rw [e] at q2
    by_cases hl : (ys.map (·.length)).sum + ys.length * sa.length ≤ 16777216
    · rw [show ((some ys).bind fun ys => if (ys.map (·.length)).sum + ys.length * sa.length ≤ 16777216 then some (D.str (TL.joinL sa ys)) else none) = some (D.str (TL.joinL sa ys)) from if_pos hl] at q2
      have fin : ∀ {p : Addr} {vs : List V}, (SqL X.K H2 p vs ∨ SqT X.K H2 p vs) → Reps X.K F2 H2 vs (ys.map D.str) →
          ∃ a p', ∃ ys : List Str, V.str (SS sa) = .str a ∧ [V.ref p] = [.ref p'] ∧ (SqL X.K H2 p' (ys.map V.str) ∨ SqT X.K H2 p' (ys.map V.str)) ∧ (ys.map (·.length)).sum + ys.length * a.length ≤ 16777216 ∧ Q (.str (Txt.join a ys)) H2 := by
        intro p vs hp r
        refine ⟨SS sa, p, ys.map SS, rfl, rfl, by rw [← r.strs]; exact hp, ?_, ?_⟩
        · rw [List.map_map, List.length_map, SS_len, show ((fun s : Str => s.length) ∘ SS) = List.length from by funext s; exact SS_len s]
          exact hl
        · rw [SS_join]
          exact q2.lift.imm (.str _ (okc_join o1 r.strOk))
      cases y <;> try (cases e; done)
      · obtain ⟨p, vs, e1, h1, r1⟩ := top_tup ry
        have ey := strsOf_eq e
        subst ey
        subst e1
        exact fin (.inr h1) r1
      · obtain ⟨p, vs, e1, h1, r1⟩ := top_lst ry
        have ey := strsOf_eq e
        subst ey
        subst e1
        exact fin (.inl (.inl h1)) r1
    · rw [show ((some ys).bind fun ys => if (ys.map (·.length)).sum + ys.length * sa.length ≤ 16777216 then some (D.str (TL.joinL sa ys)) else none) = none from if_neg hl] at q2
      exact q2.elim

/-! ### iterables that draw -/
theorem in_any (ha : EN md X T W env e ma) (hm : md = .S ∨ md = .B) : IN md X T W env tg e (N.bind ma fun x => N.l (R.lift (iterD x))) := fun F σ H Rr I q => by
  refine (pi_any pe_wp).wp ?_
  refine nrunEI ha I q fun d F1 v H1 s1 r q1 => ?_
  replace q1 : PostI md X T W F1 σ H1 (R.lift (iterD d)) Rr := q1.l
  have top : Top X.K F1 H1 v d := RepM.toB r
  cases d <;> try exact q1.elim
  · rename_i z
    obtain ⟨e1, o1⟩ := top_str top
    by_cases hl : z.length ≤ sizeLine
    · rw [show iterD (.str z) = some (z.map fun c => D.str [c]) from if_pos hl] at q1
      exact .inr (.inr ⟨_, e1, q1 F1 H1 _ .refl (walkD_str o1) (by rw [List.length_map]; exact hl)⟩)
    · rw [show iterD (.str z) = none from if_neg hl] at q1
      exact q1.elim
  · obtain ⟨a, vs, e1, h1, r1⟩ := top_tup top
    exact .inr (.inl ⟨a, e1, vs, h1, fun hz => q1 F1 H1 _ .refl (walkD_tup h1 r1) (by rw [← r1.length]; exact hz)⟩)
  · rename_i xs
    rcases hm with e | e
    · subst e
      have r' : Rep X.K F1 H1 v (.lst xs) := r
      cases r' with
      | lst hF h hs => exact .inl ⟨_, rfl, _, .inl h, fun hz => q1 F1 H1 _ .refl (walkD_lst (fun _ => hF) h hs) (by rw [← hs.length]; exact hz)⟩
    · subst e
      obtain ⟨a, vs, e1, h1, r1⟩ := top_lst top
      exact .inl ⟨a, e1, vs, .inl h1, fun hz => q1 F1 H1 _ .refl (walkD_lst (fun z => nomatch z) h1 r1) (by rw [← r1.length]; exact hz)⟩
theorem in_r1 (ha : EN .S X T W env a ma) (hm : X.mg "range" = none) (hg : Gl X "range" := by exact gl_of (by kernel_rfl)) (hs : starEach [a] X.env = [(false, eval a X.env)] := by kernel_rfl) : IN md X T W env tg (.Call (.Name "range" p) [a] [] pos) (N.bind ma fun x => N.l (R.lift (rng1 x))) := fun F σ H Rr I q => by
  refine (pi_range1 (p := p) (pos := pos) hg hm (pa_cons pe_wp pa_nil (by rw [hs]; rfl)) hs).wp ?_
  refine nrunEI ha I q fun d F1 v H1 s1 r q1 => ?_
  replace q1 : PostI md X T W F1 σ H1 (R.lift (rng1 d)) Rr := q1.l
  cases d <;> try exact q1.elim
  rename_i j
  cases r
  by_cases hj : int62 j ∧ j.toNat ≤ sizeLine
  · rw [show rng1 (.int j) = some (rangeL 0 j.toNat 1) from if_pos (chk_of hj)] at q1
    exact ⟨j, rfl, hj.1.1, hj.1.2, q1 F1 H1 _ .refl walkD_rng (by rw [rangeL_len]; exact hj.2)⟩
  · rw [show rng1 (.int j) = none from if_neg (fun z => hj (chk_true.mp z))] at q1
    exact q1.elim
theorem in_r2 (ha : EN .S X T W env a ma) (hb : EN .S X T W env b mb) (hm : X.mg "range" = none) (hg : Gl X "range" := by exact gl_of (by kernel_rfl)) (hs : starEach [a, b] X.env = [(false, eval a X.env), (false, eval b X.env)] := by kernel_rfl) (hs2 : starEach [b] X.env = [(false, eval b X.env)] := by kernel_rfl) :
    IN md X T W env tg (.Call (.Name "range" p) [a, b] [] pos) (N.bind ma fun x => N.bind mb fun y => N.l (R.lift (rng2 x y))) := fun F σ H Rr I q => by
  refine (pi_range2 (p := p) (pos := pos) hg hm (pa_cons pe_wp (pa_cons pe_wp pa_nil (by rw [hs2]; rfl)) (by rw [hs, hs2])) hs hs2).wp ?_
  refine nrunEI ha I q fun d F1 v H1 s1 r q1 => ?_
  refine nrunEI hb (I.stp s1) q1 fun d2 F2 v2 H2 s2 r2 q2 => ?_
  replace q2 : PostI md X T W F2 σ H2 (R.lift (rng2 d d2)) Rr := q2.l
  cases d <;> try exact q2.elim
  rename_i i
  cases d2 <;> try exact q2.elim
  rename_i j
  cases r
  cases r2
  by_cases hj : (int62 i ∧ int62 j) ∧ (j - i).toNat ≤ sizeLine
  · rw [show rng2 (.int i) (.int j) = some (rangeL i (j - i).toNat 1) from if_pos (chk_of hj)] at q2
    exact ⟨i, j, rfl, ⟨hj.1.1.1, hj.1.1.2, hj.1.2.1, hj.1.2.2⟩, q2 F2 H2 _ .refl walkD_rng (by rw [rangeL_len]; exact hj.2)⟩
  · rw [show rng2 (.int i) (.int j) = none from if_neg (fun z => hj (chk_true.mp z))] at q2
    exact q2.elim
end

/-! ### statements -/
def NPostS {τ ρ : Type} (X : Cx) (T : Tb) (W : WX) (G : Gh) (ip : List Nat) (rm : Md) (inj : τ → List Sl) (injL : ρ → List Sl) (envX : List Sl) (F : Addr → Prop) (H : Hp) (m : N (O τ ρ)) (D : Ends) : Prop :=
  ∃ P : O τ ρ → Prop, (∀ o, P o → PostS X T W G ip rm inj injL envX F H o D) ∧ m P
def SN {τ ρ : Type} (X : Cx) (T : Tb) (W : WX) (ip : List Nat) (rm : Md) (inj : τ → List Sl) (injL : ρ → List Sl) (envX env : List Sl) (ss : List Stmt) (m : N (O τ ρ)) : Prop :=
  ∀ G F σ H D, ER2 X.K T G ip F σ H env → NPostS X T W G ip rm inj injL envX F H m D → wpS X ss D σ H
section
variable {X : Cx} {T : Tb} {W : WX} {ip : List Nat} {rm : Md} {τ ρ τ' : Type} {inj : τ → List Sl} {injL : ρ → List Sl} {envX env : List Sl} {G : Gh} {F F' : Addr → Prop} {σ : Sg} {H H' : Hp} {ss : List Stmt} {e tg iter elt : Expr} {es : List Expr} {me : N (R D)} {mas : N (R (List D))} {m : N (O τ ρ)} {md : Md} {pos : Pos}
theorem NPostS.grow {D : Ends} (g : Grow F H F' H') (h : NPostS X T W G ip rm inj injL envX F H m D) : NPostS X T W G ip rm inj injL envX F' H' m D := by
  obtain ⟨P, h1, h2⟩ := h
  exact ⟨P, fun o ho => PostS.grow g (h1 o ho), h2⟩
theorem NPostS.l {o : O τ ρ} {D : Ends} (h : NPostS X T W G ip rm inj injL envX F H (N.l o) D) : PostS X T W G ip rm inj injL envX F H o D := by
  obtain ⟨P, h1, h2⟩ := h
  exact h1 o h2
theorem sn_of {o : O τ ρ} (h : DS X T W ip rm inj injL envX env ss o) : SN X T W ip rm inj injL envX env ss (N.l o) := fun G F σ H D I q => h G F σ H D I q.l
theorem nrunS {Q1 : VK} {f : D → N (O τ ρ)} {D : Ends} (he : EN md X T W env e me) (wx : True) (I : ER2 X.K T G ip F σ H env) (h : NPostS X T W G ip rm inj injL envX F H (N.ofR me f) D)
    (k : ∀ d F' v H', Stp T F H F' H' → RepM X.K F' H' md H v d → ER2 X.K T G ip F' σ H' env → NPostS X T W G ip rm inj injL envX F' H' (f d) D → Q1 v H') : wpE X e σ H Q1 := by
  obtain ⟨P, h1, h2⟩ := h
  refine he F σ H Q1 I.er ⟨_, fun r hr => ?_, h2⟩
  cases r with
  | ok d => exact fun F' v H' s r => k d F' v H' s r (I.stp s) (NPostS.grow s.grow ⟨P, h1, hr⟩)
  | ex c => exact fun F' C dd H' s hm => h1 _ hr F' C dd σ H' (I.stp s).nos hm
  | st => exact hr.elim
theorem nrunST {mt : N (R Bool)} {Q1 : Bool → Hp → Prop} {f : Bool → N (O τ ρ)} {D : Ends} (he : TN X T W env e mt) (wx : True) (I : ER2 X.K T G ip F σ H env) (h : NPostS X T W G ip rm inj injL envX F H (N.ofR mt f) D)
    (k : ∀ b F' H', Stp T F H F' H' → ER2 X.K T G ip F' σ H' env → NPostS X T W G ip rm inj injL envX F' H' (f b) D → Q1 b H') : wpT X e σ H Q1 := by
  obtain ⟨P, h1, h2⟩ := h
  refine he F σ H Q1 I.er ⟨_, fun r hr => ?_, h2⟩
  cases r with
  | ok d => exact fun F' H' s => k d F' H' s (I.stp s) (NPostS.grow s.grow ⟨P, h1, hr⟩)
  | ex c => exact fun F' C dd H' s hm => h1 _ hr F' C dd σ H' (I.stp s).nos hm
  | st => exact hr.elim
theorem sn_nil {s : τ} (w : Wk env (inj s)) : SN X T W ip rm inj injL envX env [] (N.l (.nx s)) := sn_of (dss_nil w)
theorem sn_set {i : Nat} {x : Str} {p' : Pos} {f : D → N (O τ ρ)} (he : EN .S X T W env e me) (hr : ∀ d, SN X T W ip rm inj injL envX (env.set i (.sh d)) ss (f d)) (wx : True) (hN : X.N.Nodup) (hi : X.N[i]? = some x := by kernel_rfl)
    (hx : Loc X.env.scope x := by exact loc_of (by kernel_rfl)) (hip : i ∉ ip := by decide) (hs : swapsWith e (some (.Name x p')) pos.line X.env = pure false := by kernel_rfl) (hf : X.fn x = true ∨ X.env.scope.names.lookup x = some .local := by first | exact .inl rfl | exact .inr rfl) :
    SN X T W ip rm inj injL envX env (.Assign [.Name x p'] e pos :: ss) (N.ofR me f) := fun G F σ H D I h => by
  refine wpS_cons (ps_set (pos := pos) (pos' := p') hN hi hx pe_wp hs hf) ?_
  refine nrunS he wx I h fun d F1 v H1 s1 r I1 q1 => ?_
  exact hr d G F1 _ H1 D (I1.set_sh r hip) q1
theorem sn_setO {i : Nat} {x : Str} {p' : Pos} {f : D → N (O τ ρ)} (he : EN .O X T W env e me) (hr : ∀ d, SN X T W ip rm inj injL envX (env.set i (.ow d)) ss (f d)) (wx : True) (hN : X.N.Nodup) (hi : X.N[i]? = some x := by kernel_rfl)
    (hx : Loc X.env.scope x := by exact loc_of (by kernel_rfl)) (hip : i ∉ ip := by decide) (hs : swapsWith e (some (.Name x p')) pos.line X.env = pure false := by kernel_rfl) (hf : X.fn x = true ∨ X.env.scope.names.lookup x = some .local := by first | exact .inl rfl | exact .inr rfl) :
    SN X T W ip rm inj injL envX env (.Assign [.Name x p'] e pos :: ss) (N.ofR me f) := fun G F σ H D I h => by
  refine wpS_cons (ps_set (pos := pos) (pos' := p') hN hi hx pe_wp hs hf) ?_
  refine nrunS he wx I h fun d F1 v H1 s1 r I1 q1 => ?_
  obtain ⟨a, rfl, h0, nf, o⟩ := r
  refine hr d G F1 _ H1 D (I1.set_ow o nf (fun j hj => ?_) (I.back h0) hip) q1
  obtain ⟨d', _, o'⟩ := I.er.own hj
  exact h0 o'.tr
theorem sn_par {i j : Nat} {x y : Str} {a b : Expr} {px py pt : Pos} {kt k2 : Nat} {pt2 : Pos} {f : D → D → N (O τ ρ)} (ha : AN X T W env [a, b] mas)
    (hr : ∀ c d, SN X T W ip rm inj injL envX ((env.set i (.sh c)).set j (.sh d)) ss (f c d)) (wx : True) (hc : X.calm = true) (hN : X.N.Nodup)
    (hi : X.N[i]? = some x := by kernel_rfl) (hj : X.N[j]? = some y := by kernel_rfl) (hij : i ≠ j := by decide) (hx : X.env.scope.names.lookup x = some .local := by kernel_rfl) (hy : X.env.scope.names.lookup y = some .local := by kernel_rfl) (hip : i ∉ ip := by decide) (hjp : j ∉ ip := by decide)
    (hw : swappedStores [.Tuple [.Name x px, .Name y py] kt pt] (.Tuple [a, b] k2 pt2) X.env = pure (some [x, y]) := by kernel_rfl)
    (hs : swapsWithSole [.Tuple [.Name x px, .Name y py] kt pt] (.Tuple [a, b] k2 pt2) pos.line X.env = pure false := by kernel_rfl) :
    SN X T W ip rm inj injL envX env (.Assign [.Tuple [.Name x px, .Name y py] kt pt] (.Tuple [a, b] k2 pt2) pos :: ss) (N.ofR mas fun ds => match ds with | [c, d] => f c d | _ => N.l .st) := fun G F σ H D I ⟨P, h1, h2⟩ => by
  refine wpS_cons (ps_par (pos := pos) hc hN hi hj hij hx hy pa_wp hw hs) ?_
  refine ha F σ H _ I.er ⟨_, fun r hr' hlen => ?_, h2⟩
  cases r with
  | ok ds =>
    intro F' vs H' s r
    have hl := hlen ds rfl
    match ds, hl, r, hr' with
    | [c, d], _, .cons r1 (.cons r2 .nil), hr' =>
      exact ⟨_, _, rfl, hr c d G F' _ H' D (((I.stp s).set_sh r1 hip).set_sh r2 hjp) (NPostS.grow s.grow ⟨P, h1, hr'⟩)⟩
  | ex c => exact fun F' C dd H' s hm => h1 _ hr' F' C dd σ H' (I.stp s).nos hm
  | st => exact hr'.elim
theorem sn_if {c : Expr} {a b : List Stmt} {mt : N (R Bool)} {inj1 : τ' → List Sl} {oa ob : N (O τ' ρ)} {f : τ' → N (O τ ρ)} (hc : TN X T W env c mt) (ha : SN X T W ip rm inj1 injL envX env a oa) (hb : SN X T W ip rm inj1 injL envX env b ob)
    (hr : ∀ s, SN X T W ip rm inj injL envX (inj1 s) ss (f s)) (wx : True) : SN X T W ip rm inj injL envX env (.If c a b pos :: ss) (N.seq (N.ofR mt fun k => if k = true then oa else ob) f) := fun G F σ H D I ⟨P, h1, h2⟩ => by
  refine wpS_cons (ps_if (pos := pos) pt_wp ps_wp ps_wp) ?_
  have h' : NPostS X T W G ip rm inj1 injL envX F H (N.ofR mt fun k => if k = true then oa else ob) { D with nx := wpS X ss D } := by
    refine ⟨_, fun o ho => ?_, h2⟩
    cases o with
    | nx s => exact fun F' σ' H' I' g => hr s G F' σ' H' D I' (NPostS.grow g ⟨P, h1, ho⟩)
    | rt d us => exact h1 _ ho
    | bk s => exact h1 _ ho
    | ct s => exact h1 _ ho
    | xc c => exact h1 _ ho
    | st => exact ho.elim
  refine nrunST hc wx I h' fun k F1 H1 s1 I1 q1 => ?_
  cases k with
  | true => exact ha G F1 σ H1 _ I1 q1
  | false => exact hb G F1 σ H1 _ I1 q1
theorem sn_ret {us : List D} (he : EN rm X T W env e me) (wx : True) (hu : ioUs env ip us) : SN X T W ip rm inj injL envX env (.Return (some e) pos :: ss) (N.ofR me fun d => N.l (.rt d us)) := fun G F σ H D I h => by
  refine wpS_cons (ps_ret (pos := pos) pe_wp) ?_
  refine nrunS (f := fun d => N.l (.rt d us)) he wx I h fun d F1 v H1 s1 r I1 q1 => ?_
  refine q1.l F1 v H1 I1.stpR ?_ (owns_of (A := G.A) I1.er I1.io hu)
  cases rm with
  | S => exact r
  | B => exact r
  | O => obtain ⟨a, e, h0, nf, o⟩ := r; exact ⟨a, e, I.back h0, nf, o⟩
theorem sn_expr {f : N (O τ ρ)} (he : EN md X T W env e me) (hr : SN X T W ip rm inj injL envX env ss f) (wx : True) (hs : swapsWith e none pos.line X.env = pure false := by kernel_rfl) :
    SN X T W ip rm inj injL envX env (.Expr e pos :: ss) (N.ofR me fun _ => f) := fun G F σ H D I h => by
  refine wpS_cons (ps_expr (pos := pos) pe_wp hs) ?_
  exact nrunS (f := fun _ => f) he wx I h fun d F1 v H1 s1 r I1 q1 => hr G F1 σ H1 D I1 q1
theorem sn_freeze {i : Nat} {d : D} (hv : env[i]? = some (.ow d)) (hr : SN X T W ip rm inj injL envX (env.set i (.sh d)) ss m) (hip : i ∉ ip := by decide) (hA : ∀ (k j : Nat), ip[k]? = some j → ∃ d, env[j]? = some (Sl.ow d)) : SN X T W ip rm inj injL envX env ss m := fun G F σ H D I h => by
  obtain ⟨F', I', g⟩ := I.freeze hv hip hA
  exact hr G F' σ H D I' (NPostS.grow g h)
theorem sn_break {s : ρ} (w : Wk env (injL s)) : SN X T W ip rm inj injL envX env (.Break pos :: ss) (N.l (.bk s)) := sn_of (dss_break w)
theorem sn_continue {s : ρ} (w : Wk env (injL s)) : SN X T W ip rm inj injL envX env (.Continue pos :: ss) (N.l (.ct s)) := sn_of (dss_continue w)
/-- a, b = e -/
def SNo {τ ρ : Type} (X : Cx) (T : Tb) (W : WX) (ip : List Nat) (rm : Md) (inj : τ → List Sl) (injL : ρ → List Sl) (envX : List Sl) (oe : Option (List Sl)) (ss : List Stmt) (m : N (O τ ρ)) : Prop :=
  match oe with
  | some env => SN X T W ip rm inj injL envX env ss m
  | none => m = N.l .st
theorem sn_asgP {tg : Expr} {pt : Pat} {f : D → N (O τ ρ)} (he : EN .S X T W env e me) (hg : GT X tg pt) (hr : ∀ d, SNo X T W ip rm inj injL envX (pt.bind d env) ss (f d)) (wx : True) (hip : ∀ i ∈ pt.ixs, i ∉ ip := by decide)
    (hs : swapsWithSole [tg] e pos.line X.env = pure false := by kernel_rfl) (hw : swappedStores [tg] e X.env = pure none := by kernel_rfl) (h1 : (assignEach [tg] X.env).map (·.2) = [assign tg X.env] := by kernel_rfl) :
    SN X T W ip rm inj injL envX env (.Assign [tg] e pos :: ss) (N.ofR me f) := fun G F σ H D I h => by
  refine wpS_cons (ps_asg (pos := pos) pe_wp pg_wp hs hw h1) ?_
  refine nrunS he wx I h fun d F1 v H1 s1 r I1 q1 => ?_
  have hd := hr d
  cases eb : pt.bind d env with
  | none =>
    rw [eb] at hd
    have z : f d = N.l .st := hd
    rw [z] at q1
    exact q1.l.elim
  | some env3 =>
    rw [eb] at hd
    refine hg F1 H1 v d σ _ r (fun env' => pat_dec (by rw [eb]; simp) env') fun σ4 u4 => ?_
    exact hd G F1 σ4 H1 D (Pat.er2 u4 eb hip I1) q1
theorem sno_nm {i : Nat} {d : D} (h : SN X T W ip rm inj injL envX (env.set i (.sh d)) ss m) : SNo X T W ip rm inj injL envX ((Pat.nm i).bind d env) ss m := h
theorem binds2_none {p q : Pat} {xs : List D} (hx : ∀ a b, xs ≠ [a, b]) : Pat.binds [p, q] xs env = none := by
  cases e : Pat.binds [p, q] xs env with
  | none => rfl
  | some z =>
    have := binds_len (by rw [e]; simp)
    match xs, this with
    | [a, b], _ => exact absurd rfl (hx a b)
theorem binds2_some {p q : Pat} {a b : D} : Pat.binds [p, q] [a, b] env = (p.bind a env).bind (q.bind b) := by
  show (p.bind a env).bind (fun e => (q.bind b e).bind (Pat.binds [] [])) = _
  cases p.bind a env with
  | none => rfl
  | some e => show (q.bind b e).bind (Pat.binds [] []) = q.bind b e; cases q.bind b e <;> rfl
theorem sno_2 {p q : Pat} {d : D} {m : D → D → N (O τ ρ)} (h : ∀ a b, SNo X T W ip rm inj injL envX ((p.bind a env).bind (q.bind b)) ss (m a b)) : SNo X T W ip rm inj injL envX ((Pat.tp [p, q]).bind d env) ss (tup2 (N.l .st) d m) := by
  cases d with
  | tup xs =>
    match xs with
    | [a, b] => show SNo _ _ _ _ _ _ _ _ (Pat.binds [p, q] [a, b] env) _ _; rw [binds2_some]; exact h a b
    | [] => exact rfl
    | [a] => show SNo _ _ _ _ _ _ _ _ (Pat.binds [p, q] [a] env) _ _; rw [binds2_none (by intros; simp)]; exact rfl
    | a :: b :: c :: r => show SNo _ _ _ _ _ _ _ _ (Pat.binds [p, q] (a :: b :: c :: r) env) _ _; rw [binds2_none (by intros; simp)]; exact rfl
  | _ => exact rfl

/-! ### loops -/
def forN {σ ρ : Type} : List D → σ → (D → σ → N (O σ σ)) → N (O σ ρ)
  | [], s, _ => N.l (.nx s)
  | d :: ds, s, f => fun P => f d s fun o => match o with
    | .nx s' => forN ds s' f P
    | .ct s' => forN ds s' f P
    | .bk s' => P (.nx s')
    | .rt d us => P (.rt d us)
    | .xc c => P (.xc c)
    | .st => False
def whileN {σ ρ : Type} : Nat → σ → (σ → N (R Bool)) → (σ → N (O σ σ)) → N (O σ ρ)
  | 0, _, _, _ => fun _ => False
  | n + 1, s, c, f => fun P => c s fun r => match r with
    | .ok true => f s fun o => match o with
      | .nx s' => whileN n s' c f P
      | .ct s' => whileN n s' c f P
      | .bk s' => P (.nx s')
      | .rt d us => P (.rt d us)
      | .xc c => P (.xc c)
      | .st => False
    | .ok false => P (.nx s)
    | .ex c => P (.xc c)
    | .st => False
theorem sn_for {tg iter : Expr} {body : List Stmt} {mi : N (R (List D))} {pt : Pat} {τb : Type} {injb : τb → List Sl} {s0 : τb} {ob : D → τb → N (O τb τb)} {f : τb → N (O τ ρ)} (hi : IN .S X T W env tg iter mi) (hg : GT X tg pt)
    (hb : ∀ d s, SNo X T W ip rm injb injb envX (pt.bind d (injb s)) body (ob d s)) (hr : ∀ s, SN X T W ip rm inj injL envX (injb s) ss (f s)) (w0 : Wk env (injb s0)) (wx : True) (hp : PassesOwn (model X.prog X.w) X.A X.env X.xe) (hc : X.calm = true)
    (hip : ∀ i ∈ pt.ixs, i ∉ ip := by decide) (hs : ∀ x, foldedSetIterable iter X.env x = pure x := by intro _; kernel_rfl) :
    SN X T W ip rm inj injL envX env (.For tg iter body [] pos :: ss) (N.seq (N.ofR mi fun ds => forN ds s0 ob) f) := fun G F σ H D I ⟨P, hP, h⟩ => by
  refine wpS_cons (ps_for (pos := pos) hp hc pi_wp pg_wp ps_wp hs) ?_
  refine hi F σ H _ I.er ⟨_, fun r hr' => ?_, h⟩
  cases r with
  | ex c => exact fun F' C dd H' s hm => hP _ hr' F' C dd σ H' (I.stp s).nos hm
  | st => exact hr'.elim
  | ok ds =>
    intro F1 H1 J s1 ⟨Gd, gst, ggo, gstop, gyld⟩ _
    have hP1 : ∀ o, P o → PostS X T W G ip rm inj injL envX F1 H1 o D := fun o ho => PostS.grow s1.grow (hP o ho)
    refine ⟨fun i m σ' H' => ∃ F' s, m = ds.length - i ∧ i ≤ ds.length ∧ ER2 X.K T G ip F' σ' H' (injb s) ∧ Grow F1 H1 F' H' ∧ (forN (ds.drop i) s ob : N (O τb ρ)) (N.aftP P f), ⟨_, F1, s0, rfl, Nat.zero_le _, (I.stp s1).wk w0, .refl, by rw [List.drop_zero]; exact hr'⟩, ?_⟩
    rintro i m σ2 H2 ⟨F2, s, rfl, hil, I2, w2, h2⟩
    have g2 : Gd F2 H2 := gst F2 H2 (fun _ => w2) (fun z => absurd rfl z)
    by_cases hlt : i < ds.length
    · refine .inr ⟨ggo i F2 H2 hlt g2, fun σ' H' => ∃ F' s, ER2 X.K T G ip F' σ' H' (injb s) ∧ Grow F1 H1 F' H' ∧ (forN (ds.drop (i + 1)) s ob : N (O τb ρ)) (N.aftP P f), fun σ' H' ⟨F', s, a, b, c⟩ => ⟨ds.length - (i + 1), by omega, F', s, rfl, hlt, a, b, c⟩, fun x H3 hy => ?_⟩
      obtain ⟨d, hd, F3, s3, r3⟩ := gyld i F2 H2 x H3 hlt g2 hy
      have I3 := I2.stp s3
      have w3 := w2.trans s3.grow
      have ed : ds.drop i = d :: ds.drop (i + 1) := by
        rw [List.drop_eq_getElem_cons hlt]
        have := (List.getElem?_eq_some_iff.mp hd).2
        rw [this]
      rw [ed] at h2
      have hbd := hb d s
      cases eb : pt.bind d (injb s) with
      | none =>
        rw [eb] at hbd
        have z : ob d s = N.l .st := hbd
        have h4 : (ob d s) (fun o => match o with | .nx s' => forN (ds.drop (i + 1)) s' ob (N.aftP P f) | .ct s' => forN (ds.drop (i + 1)) s' ob (N.aftP P f) | .bk s' => N.aftP P f (.nx s') | .rt d us => N.aftP P f (.rt d us) | .xc c => N.aftP P f (.xc c) | .st => False) := h2
        rw [z] at h4
        exact h4.elim
      | some env3 =>
        rw [eb] at hbd
        have hbd : SN X T W ip rm injb injb envX env3 body (ob d s) := hbd
        refine hg F3 H3 x d σ2 _ r3 (fun env' => pat_dec (by rw [eb]; simp) env') fun σ4 u4 => ?_
        have I4 := Pat.er2 u4 eb hip I3
        refine hbd G F3 σ4 H3 _ I4 ⟨_, fun o ho => ?_, h2⟩
        cases o with
        | nx s' => exact fun F5 σ5 H5 I5 g5 => ⟨F5, s', I5, w3.trans g5, ho⟩
        | ct s' => exact fun F5 σ5 H5 I5 g5 => ⟨F5, s', I5, w3.trans g5, ho⟩
        | bk s' => exact fun F5 σ5 H5 I5 g5 => hr s' G F5 σ5 H5 D I5 ⟨P, fun o ho => PostS.grow (w3.trans g5) (hP1 o ho), ho⟩
        | rt d us => exact PostS.grow w3 (hP1 _ ho)
        | xc c => exact PostS.grow w3 (hP1 _ ho)
        | st => exact ho.elim
    · have e : i = ds.length := by omega
      subst e
      refine .inl ⟨gstop F2 H2 g2, ?_⟩
      rw [List.drop_length] at h2
      exact hr s G F2 σ2 H2 D I2 ⟨P, fun o ho => PostS.grow w2 (hP1 o ho), h2⟩
theorem sn_while {c : Expr} {body : List Stmt} {τb : Type} {injb : τb → List Sl} {s0 : τb} {n : Nat} {mc : τb → N (R Bool)} {ob : τb → N (O τb τb)} {f : τb → N (O τ ρ)} (hcn : ∀ s, TN X T W (injb s) c (mc s))
    (hb : ∀ s, SN X T W ip rm injb injb envX (injb s) body (ob s)) (hr : ∀ s, SN X T W ip rm inj injL envX (injb s) ss (f s)) (w0 : Wk env (injb s0)) (wx : True) (hp : PassesOwn (model X.prog X.w) X.A X.env X.xe) :
    SN X T W ip rm inj injL envX env (.While c body [] pos :: ss) (N.seq (whileN n s0 mc ob : N (O τb ρ)) f) := fun G F σ H D I ⟨P, hP, h⟩ => by
  refine wpS_cons (ps_while (pos := pos) hp pt_wp ps_wp) ?_
  refine ⟨fun m σ' H' => ∃ F' s, ER2 X.K T G ip F' σ' H' (injb s) ∧ Grow F H F' H' ∧ (whileN m s mc ob : N (O τb ρ)) (N.aftP P f), ⟨n, F, s0, I.wk w0, .refl, h⟩, ?_⟩
  rintro m σ1 H1 ⟨F1, s, I1, w1, h1⟩
  cases m with
  | zero => exact h1.elim
  | succ m =>
    refine hcn s F1 σ1 H1 _ I1.er ⟨_, fun r hr' => ?_, h1⟩
    cases r with
    | ex c => exact fun F' C dd H' st hm => hP _ hr' F' C dd σ1 H' (I1.stp st).nos hm
    | st => exact hr'.elim
    | ok k =>
      intro F2 H2 s2
      have I2 := I1.stp s2
      have w2 := w1.trans s2.grow
      cases k with
      | false =>
        rw [if_neg Bool.false_ne_true]
        exact hr s G F2 σ1 H2 D I2 ⟨P, fun o ho => PostS.grow w2 (hP o ho), hr'⟩
      | true =>
        rw [if_pos rfl]
        refine ⟨fun σ' H' => ∃ F' s, ER2 X.K T G ip F' σ' H' (injb s) ∧ Grow F H F' H' ∧ (whileN m s mc ob : N (O τb ρ)) (N.aftP P f), fun σ' H' ⟨F', s, a, b⟩ => ⟨m, Nat.lt_succ_self m, F', s, a, b⟩, ?_⟩
        refine hb s G F2 σ1 H2 _ I2 ⟨_, fun o ho => ?_, hr'⟩
        cases o with
        | nx s' => exact fun F5 σ5 H5 I5 g5 => ⟨F5, s', I5, w2.trans g5, ho⟩
        | ct s' => exact fun F5 σ5 H5 I5 g5 => ⟨F5, s', I5, w2.trans g5, ho⟩
        | bk s' => exact fun F5 σ5 H5 I5 g5 => hr s' G F5 σ5 H5 D I5 ⟨P, fun o ho => PostS.grow (w2.trans g5) (hP o ho), ho⟩
        | rt d us => exact PostS.grow w2 (hP _ ho)
        | xc c => exact PostS.grow w2 (hP _ ho)
        | st => exact ho.elim
end
end DL

-- DL9
set_option Elab.async false
set_option linter.all false
set_option maxRecDepth 100000
set_option maxHeartbeats 4000000
/-! The data layer: comprehensions that draw, changes of lists. -/
namespace DL
open PySem PySem.Spec PyProof.Rows L2

def compN {α : Type} : List D → (D → N (R (Option α))) → N (R (List α))
  | [], _ => N.l (.ok [])
  | d :: ds, f => N.bind (N.nx (f d)) fun o => N.bind (compN ds f) fun ys => N.l (.ok (optC o ys))
def itN (mt : N (R Bool)) (me : N (R D)) : N (R (Option D)) := N.bind mt fun k => if k = true then N.bind me fun y => N.l (.ok (some y)) else N.l (.ok none)
section
variable {X : Cx} {T : Tb} {W : WX} {ip : List Nat} {rm : Md} {τ ρ τ' : Type} {inj : τ → List Sl} {injL : ρ → List Sl} {envX env env2 : List Sl} {G : Gh} {F F' : Addr → Prop} {σ : Sg} {H H' : Hp} {ss : List Stmt} {e a b c tg elt iter : Expr} {es : List Expr} {me ma mb mc : N (R D)} {mas : N (R (List D))} {mt : N (R Bool)} {md : Md} {pos p : Pos}
inductive TNs (X : Cx) (T : Tb) (W : WX) (env : List Sl) : List Expr → N (R Bool) → Prop
  | nil : TNs X T W env [] (N.l (.ok true))
  | one {c : Expr} {m : N (R Bool)} : TN X T W env c m → TNs X T W env [c] m
/-- the block of a comprehension, for an item d -/
def CN (X : Cx) (T : Tb) (scope : Scope) (oe : Option (List Sl)) (ifs : List Expr) (elt : Expr) (m : N (R (Option D))) : Prop :=
  match oe with
  | some env2 => ∃ mt me, m = itN mt me ∧ (∀ q : Blk, TNs (blkOf X scope q) T W0 env2 ifs mt) ∧ ∀ q : Blk, EN .S (blkOf X scope q) T W0 env2 elt me
  | none => m = N.l .st
theorem cn_mk {scope : Scope} {ifs : List Expr} (ht : ∀ q : Blk, TNs (blkOf X scope q) T W0 env2 ifs mt) (he : ∀ q : Blk, EN .S (blkOf X scope q) T W0 env2 elt me) : CN X T scope (some env2) ifs elt (itN mt me) := ⟨mt, me, rfl, ht, he⟩
theorem cn_nm {scope : Scope} {ifs : List Expr} {i : Nat} {d : D} {m : N (R (Option D))} (h : CN X T scope (some (env.set i (.sh d))) ifs elt m) : CN X T scope ((Pat.nm i).bind d env) ifs elt m := h
theorem cn_2 {scope : Scope} {ifs : List Expr} {p q : Pat} {d : D} {m : D → D → N (R (Option D))} (h : ∀ a b, CN X T scope ((p.bind a env).bind (q.bind b)) ifs elt (m a b)) : CN X T scope ((Pat.tp [p, q]).bind d env) ifs elt (tup2 (N.l .st) d m) := by
  cases d with
  | tup xs =>
    match xs with
    | [a, b] => show CN _ _ _ (Pat.binds [p, q] [a, b] env) _ _ _; rw [binds2_some]; exact h a b
    | [] => exact rfl
    | [a] => show CN _ _ _ (Pat.binds [p, q] [a] env) _ _ _; rw [binds2_none (by intros; simp)]; exact rfl
    | a :: b :: c :: r => show CN _ _ _ (Pat.binds [p, q] (a :: b :: c :: r) env) _ _ _; rw [binds2_none (by intros; simp)]; exact rfl
  | _ => exact rfl
/-- tests that do not draw, tests that do -/
theorem tns_of {ifs : List Expr} {m : R Bool} (h : DTs X T W env ifs m) : TNs X T W env ifs (N.l m) := by
  cases h with
  | nil => exact .nil
  | one h => exact .one (tn_of h)
theorem tns_run {X : Cx} {ifs : List Expr} {Q : Bool → Hp → Prop} (h : TNs X T W env ifs mt) (I : ER X.K T F σ H env) (q : NPostT X T W F σ H mt Q) : wpTs X ifs σ H Q := by
  cases h with
  | nil => exact fun pins s Iv => pts_nil.run pins s σ H Q Iv (q.l F H .refl)
  | one h => exact fun pins s Iv => (pts_one pt_wp).run pins s σ H Q Iv (h F σ H Q I q)
theorem lcn_run {mi : N (R (List D))} {pt : Pat} {scope : Scope} {ifs : List Expr} {own : List (Str × Nat)} {f : D → N (R (Option D))} {Q : VK} (hi : IN md X T W env tg iter mi) (hg : ∀ q : Blk, GT (blkOf X scope q) tg pt)
    (hix : ∀ i ∈ pt.ixs, i ∈ own.map (·.2)) (hb : ∀ d, CN X T scope (pt.bind d (wipeE env (own.map (·.2)))) ifs elt (f d)) (I : ER X.K T F σ H env)
    (q : NPostE X T W F σ H .O (N.bind mi fun ds => N.bind (compN ds f) fun ys => N.l (.ok (.lst ys))) Q) :
    tLc (wpI X tg iter) (gStar X scope tg) (tStar X scope ifs) (eStar X scope elt) (own.map (·.2)) σ H Q := by
  obtain ⟨P, hP, h⟩ := q
  refine hi F σ H _ I ⟨_, fun r hr' => ?_, h⟩
  cases r with
  | ex c => exact hP _ hr'
  | st => exact hr'.elim
  | ok ds =>
    intro F1 H1 J s1 ⟨Gd, gst, ggo, gstop, gyld⟩ hlen D0 hD0
    have I1 := I.stp s1
    have hP1 : ∀ r, P r → PostE X T W F1 σ H1 .O r Q := fun r hr => PostE.stp s1 (hP r hr)
    have b0 : H1 D0 = none := hD0
    have h0 : (N.bind (compN ds f) fun ys => N.l (.ok (.lst ys))) P := hr'
    refine ⟨fun i m H' => ∃ F' acc ys, m = ds.length - i ∧ i ≤ ds.length ∧ Stp T F1 H1 F' H' ∧ H' D0 = some (.lst acc) ∧ ¬ F' D0 ∧ Reps X.K F' H' acc ys ∧ ys.length ≤ i ∧
      (N.bind (compN (ds.drop i) f) fun zs => N.l (.ok (.lst (ys ++ zs)))) P, ⟨_, F1, [], [], rfl, Nat.zero_le _, .new1 hD0, upd_same, fun z => (I1.ftr D0 z).ne hD0, .nil, Nat.le_refl _, by rw [List.drop_zero]; exact h0⟩, ?_⟩
    rintro i m H2 ⟨F2, acc, ys, rfl, hil, s2, hD2, nf2, r2, hy2, q2⟩
    have g2 : Gd F2 H2 := gst F2 H2 (fun _ => s2.grow) (fun _ => s2)
    by_cases hlt : i < ds.length
    · refine .inr ⟨ggo i F2 H2 hlt g2, fun H' => ∃ F' acc ys, Stp T F1 H1 F' H' ∧ H' D0 = some (.lst acc) ∧ ¬ F' D0 ∧ Reps X.K F' H' acc ys ∧ ys.length ≤ i + 1 ∧
        (N.bind (compN (ds.drop (i + 1)) f) fun zs => N.l (.ok (.lst (ys ++ zs)))) P, fun H' ⟨F', acc, ys, a1, a2, a3, a4, a5, a6⟩ => ⟨ds.length - (i + 1), by omega, F', acc, ys, rfl, hlt, a1, a2, a3, a4, a5, a6⟩, fun x H3 hy => ?_⟩
      obtain ⟨d, hd, F3, s3, r3⟩ := gyld i F2 H2 x H3 hlt g2 hy
      have ed : ds.drop i = d :: ds.drop (i + 1) := by
        rw [List.drop_eq_getElem_cons hlt, (List.getElem?_eq_some_iff.mp hd).2]
      rw [ed] at q2
      have s13 := s2.trans s3
      have I3 : ER X.K T F3 (L2.wipe σ (own.map (·.2))) H3 (wipeE env (own.map (·.2))) := (I1.stp s13).wipe
      have o2 : OwnAt X.K F2 H2 D0 (.lst ys) := ⟨acc, hD2, r2⟩
      have o3 := s3.ownAt o2
      have nf3 : ¬ F3 D0 := s3.notF nf2 o2.tr
      have hbd := hb d
      have q3 : (N.bind (N.bind (N.nx (f d)) fun o => N.bind (compN (ds.drop (i + 1)) f) fun ys => N.l (.ok (optC o ys))) fun zs => N.l (.ok (.lst (ys ++ zs)))) P := q2
      rw [N.bind_assoc] at q3
      cases eb : pt.bind d (wipeE env (own.map (·.2))) with
      | none =>
        rw [eb] at hbd
        have z : f d = N.l .st := hbd
        rw [z] at q3
        exact q3.elim
      | some env3 =>
        rw [eb] at hbd
        obtain ⟨mt, me, ef, ht, he⟩ := hbd
        intro qb
        refine hg qb F3 H3 x d _ _ r3 (fun env' => pat_dec (by rw [eb]; simp) env') fun σ4 u4 => ?_
        have I4 := Pat.er u4 eb I3
        refine ⟨Pat.wipe u4 hix |>.trans ?_, ?_⟩
        · have key : ∀ (vs ws : List Nat) (σ : Sg), (∀ v ∈ ws, v ∈ vs) → L2.wipe (L2.wipe σ ws) vs = L2.wipe σ vs := by
            intro vs ws
            induction ws with
            | nil => intro σ _; rfl
            | cons w ws ih =>
              intro σ h
              show L2.wipe ((L2.wipe σ ws).set w none) vs = _
              rw [wipe_set (h w List.mem_cons_self), ih σ fun v hv => h v (List.mem_cons_of_mem _ hv)]
          exact key _ _ σ fun _ h => h
        · rw [ef] at q3
          intro qt
          refine tns_run (ht qt) I4 ⟨_, fun r hr => ?_, q3⟩
          cases r with
          | ex c => exact hr.elim
          | st => exact hr.elim
          | ok k =>
          intro F5 H5 s5
          have o5 := s5.ownAt o3
          have nf5 : ¬ F5 D0 := s5.notF nf3 o3.tr
          cases k with
          | false =>
            rw [if_neg Bool.false_ne_true]
            obtain ⟨acc5, h5, r5⟩ := o5
            have q4 : (N.bind (N.bind (compN (ds.drop (i + 1)) f) fun ys => N.l (.ok (optC none ys))) fun zs => N.l (.ok (.lst (ys ++ zs)))) P := hr
            rw [N.bind_assoc] at q4
            exact ⟨F5, acc5, ys, s13.trans s5, h5, nf5, r5, by omega, q4⟩
          | true =>
            rw [if_pos rfl]
            intro qe
            refine he qe F5 σ4 H5 _ (I4.stp s5) ⟨_, fun r hr => ?_, hr⟩
            cases r with
            | ex c => exact hr.elim
            | st => exact hr.elim
            | ok y =>
              intro F6 v6 H6 s6 r6
              have o6 := s6.ownAt o5
              obtain ⟨acc6, h6, ra6⟩ := id o6
              have nf6 : ¬ F6 D0 := s6.notF nf5 o5.tr
              have s16 := (s13.trans s5).trans s6
              have g6 : Grow F6 H6 F6 (upd H6 D0 (.lst (acc6 ++ [v6]))) := upd_rep nf6 o6.kind
              refine ⟨acc6, h6, ?_, F6, acc6 ++ [v6], ys ++ [y], s16.wr b0 nf6 (fun _ z => by cases z) o6, upd_same, nf6, (ra6.append (.cons r6 .nil)).mono g6, by rw [List.length_append]; simp; omega, ?_⟩
              · rw [ra6.length]; omega
              · have q4 : (N.bind (N.bind (compN (ds.drop (i + 1)) f) fun ys => N.l (.ok (y :: ys))) fun zs => N.l (.ok (.lst (ys ++ zs)))) P := hr
                rw [N.bind_assoc] at q4
                have e2 : (fun zs => N.l (R.ok (D.lst ((ys ++ [y]) ++ zs)))) = fun zs => N.bind (N.l (R.ok (y :: zs))) fun zs => N.l (.ok (.lst (ys ++ zs))) := by
                  funext zs; show N.l (R.ok _) = N.l (R.ok _); rw [List.append_assoc]; rfl
                rw [e2]
                exact q4
    · have e : i = ds.length := by omega
      subst e
      refine .inl ⟨gstop F2 H2 g2, ?_⟩
      rw [List.drop_length] at q2
      have q3 : P (.ok (.lst (ys ++ []))) := q2
      rw [List.append_nil] at q3
      exact hP1 _ q3 F2 (.ref D0) H2 s2 ⟨D0, rfl, nd_none b0, nf2, acc, hD2, r2⟩
theorem en_lc {mi : N (R (List D))} {pt : Pat} {scope : Scope} {ifs : List Expr} (own : List (Str × Nat)) {f : D → N (R (Option D))} (hi : IN md X T W env tg iter mi) (hg : ∀ q : Blk, GT (blkOf X scope q) tg pt)
    (hb : ∀ d, CN X T scope (pt.bind d (wipeE env (own.map (·.2)))) ifs elt (f d)) (hc : X.calm = true) (hN : X.N.Nodup) (ok : BlkOk X.N X.env.scope scope own) (hix : ∀ i ∈ pt.ixs, i ∈ own.map (·.2) := by decide) (hs : ∀ x, foldedSetIterable iter X.env x = pure x := by intro _; kernel_rfl) :
    EN .O X T W env (.ListComp elt [⟨tg, iter, ifs, 0⟩] scope pos) (N.bind mi fun ds => N.bind (compN ds f) fun ys => N.l (.ok (.lst ys))) := fun F σ H Q I q =>
  (lc_pe (pos := pos) hc hN ok hs).wp (lcn_run hi hg hix hb I q)
theorem sn_setLc {i : Nat} {y : Str} {py spos : Pos} {mi : N (R (List D))} {pt : Pat} {scope : Scope} {ifs : List Expr} (own : List (Str × Nat)) {g : D → N (R (Option D))} {f : D → N (O τ ρ)} (hi : IN md X T W env tg iter mi) (hg : ∀ q : Blk, GT (blkOf X scope q) tg pt)
    (hb : ∀ d, CN X T scope (pt.bind d (wipeE env (own.map (·.2)))) ifs elt (g d)) (hr : ∀ d, SN X T W ip rm inj injL envX (env.set i (.ow d)) ss (f d)) (wx : True) (hc : X.calm = true) (hN : X.N.Nodup) (ok : BlkOk X.N X.env.scope scope own)
    (hsw : swapsWith (.ListComp elt [⟨tg, iter, ifs, 0⟩] scope pos) (some (.Name y py)) spos.line X.env = pure true) (hy : X.N[i]? = some y := by kernel_rfl) (hyl : X.env.scope.names.lookup y = some .local := by kernel_rfl) (hip : i ∉ ip := by decide) (hix : ∀ i ∈ pt.ixs, i ∈ own.map (·.2) := by decide) (hs : ∀ x, foldedSetIterable iter X.env x = pure x := by intro _; kernel_rfl) :
    SN X T W ip rm inj injL envX env (.Assign [.Name y py] (.ListComp elt [⟨tg, iter, ifs, 0⟩] scope pos) spos :: ss) (N.ofR (N.bind mi fun ds => N.bind (compN ds g) fun ys => N.l (.ok (.lst ys))) f) := fun G F σ H D I ⟨P, hP, h⟩ => by
  refine wpS_cons (L2.ps_setLc (spos := spos) (pos := pos) (py := py) (g := gStar X scope tg) (tt := tStar X scope ifs) (te := eStar X scope elt) hc hN hy hyl hsw pi_wp ok (fun s H C cl fp => ⟨fun pins s' σ H' v u Q I r h => pg_wp.run pins s' σ H' v u Q I r (h (s, H, C, cl, fp))⟩) (fun s H C cl fp => ⟨fun pins s' σ H' Q I h => h (s, H, C, cl, fp) pins s' I⟩) (fun s H C cl fp => ⟨fun pins s' σ H' Q I h => pe_wp.run pins s' σ H' Q I (h (s, H, C, cl, fp))⟩) hs) ?_
  show tLc (wpI X tg iter) (gStar X scope tg) (tStar X scope ifs) (eStar X scope elt) (own.map (·.2)) σ H _
  refine lcn_run hi hg hix hb I.er ⟨_, fun r hr' => ?_, h⟩
  cases r with
  | ex c => exact fun F' C dd H' s hm => hP _ hr' F' C dd σ H' (I.stp s).nos hm
  | st => exact hr'.elim
  | ok d =>
    intro F1 v H1 s1 r
    obtain ⟨a, rfl, h0, nf, o⟩ := r
    have I1 := I.stp s1
    refine hr d G F1 _ H1 D (I1.set_ow o nf (fun j hj => ?_) (I.back h0) hip) ⟨P, fun o ho => PostS.grow s1.grow (hP o ho), hr'⟩
    obtain ⟨d', _, o'⟩ := I.er.own hj
    exact h0 o'.tr

/-! ### changes of lists -/
theorem sn_append {i : Nat} {x : Str} {xs : List D} {p1 apos cpos : Pos} {f : D → N (O τ ρ)} (hv : env[i]? = some (.ow (.lst xs))) (he : EN .S X T W env e me) (hr : ∀ d, SN X T W ip rm inj injL envX (env.set i (.ow (.lst (xs ++ [d])))) ss (f d)) (wx : True)
    (hN : X.N[i]? = some x := by kernel_rfl) (hvi : Vis X.env.scope x := by exact vis_of (by kernel_rfl)) (hd : (x == ("__debug__" : Str)) = false := by kernel_rfl) (hcd : (x == ("__classdict__" : Str)) = false := by kernel_rfl)
    (hbase : attributeBase (.Name x p1) "append" X.env (eval (.Name x p1) X.env) = eval (.Name x p1) X.env := by kernel_rfl)
    (hfew : ((backTo cpos (starEach [e] X.env)).all (fun x => !x.1) && (backToKw cpos (keywordEach [] X.env)).all (fun x => x.1.isSome)
      && decide (([e] : List Expr).length + ([] : List Keyword).length + (if ([] : List Keyword).isEmpty then 0 else 1) < 30)) = true := by kernel_rfl)
    (hline : (apos.endLine == cpos.line) = true := by kernel_rfl) (hs : starEach [e] X.env = (false, eval e X.env) :: starEach [] X.env := by kernel_rfl) (hplain : (backTo cpos (starEach [] X.env)).any (·.1) = false := by kernel_rfl)
    (hsw : swapsWith (.Call (.Attribute (.Name x p1) "append" apos) [e] [] cpos) none pos.line X.env = pure false := by kernel_rfl) :
    SN X T W ip rm inj injL envX env (.Expr (.Call (.Attribute (.Name x p1) "append" apos) [e] [] cpos) pos :: ss) (N.ofR me fun d => if xs.length < sizeLine then f d else N.l .st) := fun G F σ H D I h => by
  refine wpS_cons (ps_expr (pos := pos) (pe_bm PySem.F.plainAttrs_list PySem.F.slot_list_append PySem.F.type_list_append mt_append (pe_var (pos := p1) hN hvi hd hcd) (pa_cons pe_wp pa_nil hs) hbase hfew hline hs hplain) hsw) ?_
  obtain ⟨a, e1, o⟩ := I.er.ow_at hv
  obtain ⟨vs, hH, r⟩ := id o
  refine ⟨.ref a, e1, .inl ⟨rfl, vs, .inl (.inl hH)⟩, ?_⟩
  refine nrunS he wx I h fun d F1 v H1 s1 rv I1 q1 => ?_
  by_cases hl : xs.length < sizeLine
  · rw [if_pos hl] at q1
    obtain ⟨b, e2, o1⟩ := I1.er.ow_at hv
    rw [e1] at e2
    cases e2
    obtain ⟨vs1, hH1, r1⟩ := id o1
    refine ⟨a, vs1, v, rfl, rfl, hH1, by rw [r1.length]; exact hl, ?_⟩
    have g := I1.write_grow (o := .lst (vs1 ++ [v])) hv e1
    exact hr d G F1 σ _ D (I1.write hv e1 ⟨vs1 ++ [v], upd_same, (r1.append (.cons rv .nil)).mono g⟩) (NPostS.grow g q1)
  · rw [if_neg hl] at q1
    exact q1.l.elim
theorem sn_setitem {i : Nat} {x : Str} {xs : List D} {ix : Expr} {mx : N (R D)} {p1 p2 : Pos} {f : List D → N (O τ ρ)} (hv : env[i]? = some (.ow (.lst xs))) (he : EN .S X T W env e me) (hx : EN .S X T W env ix mx)
    (hr : ∀ ys, SN X T W ip rm inj injL envX (env.set i (.ow (.lst ys))) ss (f ys)) (wx : True)
    (hN : X.N[i]? = some x := by kernel_rfl) (hvi : Vis X.env.scope x := by exact vis_of (by kernel_rfl)) (hd : (x == ("__debug__" : Str)) = false := by kernel_rfl) (hcd : (x == ("__classdict__" : Str)) = false := by kernel_rfl)
    (ha : ∀ v, assign (.Subscript (.Name x p1) ix p2) X.env v = (do
      let ov ← holding [v] (eval (.Name x p1) X.env)
      let iv ← holding [v, ov] (eval ix X.env)
      standAt p2
      holding [v, ov, iv] (setItem ov iv v)
      release [v, ov, iv] []) := by intro _; kernel_rfl)
    (hs : swapsWithSole [.Subscript (.Name x p1) ix p2] e pos.line X.env = pure false := by kernel_rfl) (hw : swappedStores [.Subscript (.Name x p1) ix p2] e X.env = pure none := by kernel_rfl)
    (h1 : (assignEach [.Subscript (.Name x p1) ix p2] X.env).map (·.2) = [assign (.Subscript (.Name x p1) ix p2) X.env] := by kernel_rfl) :
    SN X T W ip rm inj injL envX env (.Assign [.Subscript (.Name x p1) ix p2] e pos :: ss) (N.ofR me fun y => N.ofR mx fun k => N.ofR (N.l (R.lift (setL xs k y))) f) := fun G F σ H D I h => by
  refine wpS_cons (ps_asg (pos := pos) pe_wp (pg_sub (pe_var (pos := p1) hN hvi hd hcd) pe_wp set_list ha) hs hw h1) ?_
  refine nrunS he wx I h fun y F1 vy H1 s1 ry I1 q1 => ?_
  obtain ⟨a, e1, o⟩ := I1.er.ow_at hv
  refine ⟨.ref a, e1, ?_⟩
  refine nrunS hx wx I1 q1 fun k F2 vk H2 s2 rk I2 q2 => ?_
  cases k <;> try (obtain ⟨P, h1, h2⟩ := q2; exact h2.elim)
  rename_i k
  cases rk
  have q2 : NPostS X T W G ip rm inj injL envX F2 H2 (N.ofR (N.l (R.lift ((ixN xs.length k).map fun j => xs.set j y))) f) D := q2
  obtain ⟨b, e2, o2⟩ := I2.er.ow_at hv
  rw [e1] at e2
  cases e2
  obtain ⟨vs, hH, r⟩ := id o2
  cases ej : ixN xs.length k with
  | none => rw [ej] at q2; obtain ⟨P, h1, h2⟩ := q2; exact h2.elim
  | some j =>
    rw [ej] at q2
    refine ⟨a, vs, k, j, rfl, rfl, hH, by rw [r.length]; exact ej, ?_⟩
    have g := I2.write_grow (o := .lst (vs.set j vy)) hv e1
    have ry' : Rep X.K F2 H2 vy y := Rep.mono s2.grow ry
    exact hr _ G F2 σ _ D (I2.write hv e1 ⟨vs.set j vy, upd_same, (r.set j ry').mono g⟩) (NPostS.grow g q2)
theorem sn_aug {i : Nat} {x : Str} {op : Operator} {p' : Pos} {d0 : D} {g : D → D → Option D} {f : D → N (O τ ρ)} (hv : env[i]? = some (.sh d0)) (ho : OpD .S X T (inplaceOp op) g) (he : EN .S X T W env e me) (hr : ∀ d, SN X T W ip rm inj injL envX (env.set i (.sh d)) ss (f d)) (wx : True) (hN : X.N.Nodup) (hi : X.N[i]? = some x := by kernel_rfl)
    (hx : Loc X.env.scope x := by exact loc_of (by kernel_rfl)) (hip : i ∉ ip := by decide) (hf : X.fn x = true ∨ X.env.scope.names.lookup x = some .local := by first | exact .inl rfl | exact .inr rfl) :
    SN X T W ip rm inj injL envX env (.AugAssign (.Name x p') op e pos :: ss) (N.ofR me fun y => N.ofR (N.l (R.lift (g d0 y))) f) := fun G F σ H D I h => by
  have hip' : PIp X op (wpF X (inplaceOp op)) := fun pins s σ H x y v u Q I r1 r2 h => op_wp pins s σ H x y v u Q I r1 r2 h
  refine wpS_cons (ps_aug (pos := pos) (pos' := p') hN hi hx pe_wp hip' hf) ?_
  obtain ⟨v0, e0, r0⟩ := I.er.sh_at hv
  refine ⟨v0, e0, ?_⟩
  refine nrunS he wx I h fun y F1 vy H1 s1 ry I1 q1 => ?_
  refine ho.run F1 H1 v0 vy d0 y _ (.inl (r0.mono s1.grow)) (.inl ry) ?_
  revert q1
  cases g d0 y with
  | none => exact fun ⟨P, h1, h2⟩ => h2.elim
  | some z =>
    intro q1 F2 vz H2 s2 rz
    exact hr z G F2 _ H2 D ((I1.stp s2).set_sh rz hip) (NPostS.grow s2.grow q1)
end
/-- a def that draws, by its body -/
theorem fnN_ofC {C : Value → Prop} {P : Program} {w : World} {K : PySem.W.Frag} {mg : Str → Option Value} {base : Heap} {T : Tb} {x : Str} {st : Stmt} {f : Addr} {fd : FuncData} {N' ps : List Str} {k : Nat} {md : Md} {M : List D → N (R D)} (Fn : FunC K x st f fd C) (hm : mg x = some (.ref f)) (S : FnScope N' ps (defScope st)) (b : Binds K fd ps [])
    (body : ∀ (cdv : Value) (hC : C cdv) (A : Around) (outer : List Env) (s : Shared) (H : Hp) (E : XK) (ds : List D), ds.length = ps.length → Room k (A.deeper (envOfC x (defScope st) s.heap.objs.size f cdv)) →
      ∃ (m : N (O Unit Unit)), SN (cxOf (L2.CX P w) P w K mg base N' x (defScope st) f cdv A outer s H E) T (fun cls d _ H' => E cls d H') [] md (fun _ => List.replicate N'.length .no) (fun _ => List.replicate N'.length .no) (List.replicate N'.length .no)
        (ds.map .sh ++ List.replicate (N'.length - ps.length) .no) (defBody st) m ∧ (∀ Pr, M ds Pr → m fun o => Pr o.toR) ∧ (md = .O → ∀ Pr, m Pr → m fun o => Pr o ∧ ∀ s, o ≠ .nx s)) : FnN P w K mg base T (k + 1) x ps.length md M := by
  refine ⟨f, fd, ps, hm, Fn.kp, b, ?_⟩
  obtain ⟨oc, od, kV, doc, pm, an, cdv, ct, osl, rfl, lk, hcd, hC⟩ := Fn.ex
  refine fn_of lk hcd S (fun vs H Q E h => h.1) fun A outer s H vs Q E hr hsp => ?_
  obtain ⟨hlen, F, ds, hF, hT, r, Pr, q, hM'⟩ := hsp
  have hdl : ds.length = ps.length := by rw [← r.length]; exact hlen
  obtain ⟨m, hDS, hM, hO⟩ := body cdv hC A outer s H E ds hdl hr
  refine ⟨_, ps_wp, ?_⟩
  have hpl : ps.length ≤ N'.length := by have := congrArg List.length S.pre; rw [List.length_take] at this; omega
  have hslots : ∀ (i : Nat) (sl : Sl), (ds.map Sl.sh ++ List.replicate (N'.length - ps.length) Sl.no)[i]? = some sl → ∃ x : Option V, (L2.start N' vs)[i]? = some x ∧ SlR K F H x sl := fun i sl e => by
    have hvl : vs.length = ps.length := hlen
    unfold L2.start
    by_cases hi : i < ds.length
    · rw [List.getElem?_append_left (by simpa using hi), List.getElem?_map] at e
      cases ed : ds[i]? with
      | none => rw [ed] at e; cases e
      | some d =>
        rw [ed] at e
        cases e
        obtain ⟨v, hv, rv⟩ := r.get ed
        refine ⟨some v, ?_, v, rfl, rv⟩
        rw [List.getElem?_append_left (by rw [List.length_map]; omega), List.getElem?_map, hv]
        rfl
    · rw [List.getElem?_append_right (by simpa using Nat.le_of_not_lt hi), List.getElem?_replicate] at e
      split at e
      · rename_i hlt
        cases e
        refine ⟨none, ?_, trivial⟩
        rw [List.getElem?_append_right (by rw [List.length_map]; omega), List.getElem?_replicate, if_pos (by rw [List.length_map] at *; omega)]
      · cases e
  have noOwn : ∀ (i : Nat) (a : Addr), ¬ OwnI (L2.start N' vs) (ds.map Sl.sh ++ List.replicate (N'.length - ps.length) Sl.no) i a := fun i a ⟨⟨d, e⟩, _⟩ => by
    by_cases hi : i < ds.length
    · rw [List.getElem?_append_left (by simpa using hi), List.getElem?_map] at e
      cases ed : ds[i]? with
      | none => rw [ed] at e; cases e
      | some d => rw [ed] at e; cases e
    · rw [List.getElem?_append_right (by simpa using Nat.le_of_not_lt hi), List.getElem?_replicate] at e
      split at e <;> cases e
  have hl : (L2.start N' vs).length = (ds.map Sl.sh ++ List.replicate (N'.length - ps.length) Sl.no).length := by
    unfold L2.start
    simp only [List.length_append, List.length_map, List.length_replicate]
    omega
  refine hDS ⟨F, H, []⟩ F (L2.start N' vs) H { nx := fun _ H' => Q .non H', rt := Q } ⟨⟨hl, hslots, fun i j a h => absurd h (noOwn i a), fun i a h => absurd h (noOwn i a), hF, hT⟩, fun _ h => h, fun _ h => .inl h, fun _ _ h _ _ => h, fun _ h => h, fun _ h => h, fun i a h => absurd h (noOwn i a), .nil⟩ ?_
  have hm2 : m fun o => Pr o.toR ∧ (md = .O → ∀ s, o ≠ .nx s) := by
    have h1 := hM Pr hM'
    by_cases e : md = .O
    · have h2 := hO e _ h1
      have : (fun o : O Unit Unit => Pr o.toR ∧ (md = .O → ∀ s, o ≠ .nx s)) = fun o => Pr o.toR ∧ ∀ s, o ≠ .nx s := by
        funext o; rw [eq_iff_iff]; exact ⟨fun h => ⟨h.1, h.2 e⟩, fun h => ⟨h.1, fun _ => h.2⟩⟩
      rw [this]; exact h2
    · have : (fun o : O Unit Unit => Pr o.toR ∧ (md = .O → ∀ s, o ≠ .nx s)) = fun o => Pr o.toR := by
        funext o; rw [eq_iff_iff]; exact ⟨fun h => h.1, fun h => ⟨h, fun z => absurd z e⟩⟩
      rw [this]; exact h1
  refine ⟨_, fun o ho => ?_, hm2⟩
  obtain ⟨ho, hoO⟩ := ho
  have q := q _ ho
  cases o with
  | nx s1 =>
    intro F' σ' H' I' _
    have q : ∀ F' v H', Stp T F H F' H' → RepM K F' H' md H v .non → Q v H' := q
    refine q F' .non H' ⟨I'.inc, I'.new, fun b o e n => I'.keep b o e n (by simp), I'.there, I'.tape, fun _ => I'.er.tabs, fun _ => I'.er.ftr⟩ ?_
    cases md with
    | S => exact .non
    | B => exact .inl .non
    | O => exact absurd rfl (hoO rfl s1)
  | rt d us =>
    intro F' v H' s1 r1 _
    have q : ∀ F' v H', Stp T F H F' H' → RepM K F' H' md H v d → Q v H' := q
    exact q F' v H' ⟨s1.inc, s1.new, fun b o e n => s1.keep b o e n (by simp), s1.there, s1.tape, fun _ => s1.tabs, fun _ => s1.ftr⟩ r1
  | bk s1 => exact q.elim
  | ct s1 => exact q.elim
  | xc c =>
    intro F' C dd σ' H' I' hmC
    have q : ∀ F' C dd H', Stp T F H F' H' → mg c = some (.ref C) → E (.ref C) dd H' := q
    exact q F' C dd H' ⟨I'.inc, I'.new, fun b o e n => I'.keep b o e n (by simp), I'.there, I'.tape, fun _ => I'.er.tabs, fun _ => I'.er.ftr⟩ hmC
  | st => exact q.elim
theorem fnN_of {P : Program} {w : World} {K : PySem.W.Frag} {mg : Str → Option Value} {base : Heap} {T : Tb} {x : Str} {st : Stmt} {f : Addr} {fd : FuncData} {N' ps : List Str} {k : Nat} {md : Md} {M : List D → N (R D)} (Fn : Fun K x x st f fd) (hm : mg x = some (.ref f)) (S : FnScope N' ps (defScope st)) (b : Binds K fd ps [])
    (body : ∀ (cdv : Value) (A : Around) (outer : List Env) (s : Shared) (H : Hp) (E : XK) (ds : List D), ds.length = ps.length → Room k (A.deeper (envOfC x (defScope st) s.heap.objs.size f cdv)) →
      ∃ (m : N (O Unit Unit)), SN (cxOf (L2.CX P w) P w K mg base N' x (defScope st) f cdv A outer s H E) T (fun cls d _ H' => E cls d H') [] md (fun _ => List.replicate N'.length .no) (fun _ => List.replicate N'.length .no) (List.replicate N'.length .no)
        (ds.map .sh ++ List.replicate (N'.length - ps.length) .no) (defBody st) m ∧ (∀ Pr, M ds Pr → m fun o => Pr o.toR) ∧ (md = .O → ∀ Pr, m Pr → m fun o => Pr o ∧ ∀ s, o ≠ .nx s)) : FnN P w K mg base T (k + 1) x ps.length md M := fnN_ofC (C := fun _ => True) Fn.c hm S b fun cdv _ A outer s H E ds hl hr => body cdv A outer s H E ds hl hr
end DL

-- DL10
set_option Elab.async false
set_option linter.all false
set_option maxRecDepth 100000
set_option maxHeartbeats 4000000
/-! The data layer: the law's tape. -/
namespace DL
open PySem PySem.Spec PyProof.Rows L2

section
variable {K : PySem.W.Frag} {T : Tb} {F F' : Addr → Prop} {H H' : Hp} {a c : Addr}
/-- a tape is changed -/
theorem Stp.tapeSet {cs : List Int} {i l s t i' l' s' t' : Int} (e : H a = some (.dK (tapeKvs c i l s t))) (hc : F c) (hr : Rd H c (.lst (cs.map V.int))) (h0 : 0 ≤ i') : Stp T F H F (upd H a (.dK (tapeKvs c i' l' s' t'))) := by
  have cne : ∀ {b : Addr} {xs : List V}, Rd H b (.lst xs) → b ≠ a := fun h z => by
    subst z
    rcases h with h | ⟨ob, h⟩ <;> rw [e] at h <;> cases h
  have rdk : ∀ {b : Addr} {xs : List V}, Rd H b (.lst xs) → Rd (upd H a (.dK (tapeKvs c i' l' s' t'))) b (.lst xs) := fun h => by
    have := cne h
    rcases h with h | ⟨ob, h⟩
    · exact .inl (by rw [upd_ne this]; exact h)
    · exact .inr ⟨ob, by rw [upd_ne this]; exact h⟩
  have datU : ∀ b, Dat H b → Dat (upd H a (.dK (tapeKvs c i' l' s' t'))) b := fun b ⟨u, e1, n⟩ => by
    by_cases z : b = a
    · subst z; exact ⟨_, upd_same, fun _ z => by cases z⟩
    · exact ⟨u, by rw [upd_ne z]; exact e1, n⟩
  refine ⟨fun _ h => h, fun _ h => .inl h, fun b o hb n => ?_, datU, fun b h => ?_, fun tb => ?_, fun hF b hb => datU b (hF b hb)⟩
  · rw [upd_ne (fun z => by subst z; rw [e] at hb; cases hb; exact n.2 (tapeO_kvs ..))]; exact hb
  · by_cases z : b = a
    · subst z
      exact ⟨c, cs, i', l', s', t', upd_same, hc, rdk hr, h0⟩
    · obtain ⟨c2, cs2, i2, l2, s2, t2, h1, h2, h3, h4⟩ := h
      exact ⟨c2, cs2, i2, l2, s2, t2, by rw [upd_ne z]; exact h1, h2, rdk h3, h4⟩
  · intro q hq
    obtain ⟨ps, h1, h2, h3⟩ := tb q hq
    refine ⟨ps, ?_, h2, fun pos cv hcv => ?_⟩
    · rw [upd_ne (fun z => by rw [z, e] at h1; cases h1)]; exact h1
    · obtain ⟨c0, e1, e2⟩ := h3 pos cv hcv
      refine ⟨c0, e1, ?_⟩
      rw [upd_ne (fun z => ?_)]
      · exact e2
      · subst z
        rw [e] at e2; unfold LamX.CodeO at e2; cases e2
theorem tape_len {i l s t : Int} : (tapeKvs c i l s t).length < sizeLine := by rw [sizeLine_eq]; show 5 < _; decide
theorem rep_tape {v : V} (r : Rep K F H v .tape) : ∃ a, v = .ref a ∧ TapeOk F H a := by
  cases r with
  | tape h => exact ⟨_, rfl, h⟩
end
section
variable {X : Cx} {T : Tb} {W : WX} {ip : List Nat} {rm : Md} {τ ρ τ' : Type} {inj : τ → List Sl} {injL : ρ → List Sl} {envX env : List Sl} {G : Gh} {F F' : Addr → Prop} {σ : Sg} {H H' : Hp} {ss : List Stmt} {e : Expr} {me : N (R D)} {m : N (O τ ρ)} {md : Md} {pos : Pos}
/-- a key of the tape's numbers -/
inductive TKey : Str → Prop
  | at_ : TKey "at"
  | left : TKey "left"
  | seed : TKey "seed"
  | salt : TKey "salt"
def anyI : N (R D) := fun P => ∀ i : Int, P (.ok (.int i))
theorem pe_tget {i : Nat} {x k : Str} {p p2 : Pos} {j : Nat} (hu : X.A.units + 1 < cLine) (hN : X.N[i]? = some x) (hv : Vis X.env.scope x)
    (hd : (x == ("__debug__" : Str)) = false) (hcd : (x == ("__classdict__" : Str)) = false) : PE X (.Subscript (.Name x p) (.Constant (.str k) j p2) pos) (tDGet (fun σ H Q => ∃ v, σ[i]? = some (some v) ∧ Q v H) (fun σ H Q => Q (.str k) H)) :=
  pe_dget hu (pe_var (pos := p) hN hv hd hcd) pe_str (by intro _ _; rfl)
/-- tape['left'] -/
theorem en_tget {i : Nat} {x k : Str} {p p2 : Pos} {j : Nat} (he : env[i]? = some (.sh .tape)) (hk : TKey k) (hu : X.A.units + 1 < cLine) (hN : X.N[i]? = some x := by kernel_rfl) (hv : Vis X.env.scope x := by exact vis_of (by kernel_rfl))
    (hd : (x == ("__debug__" : Str)) = false := by kernel_rfl) (hcd : (x == ("__classdict__" : Str)) = false := by kernel_rfl) : EN .S X T W env (.Subscript (.Name x p) (.Constant (.str k) j p2) pos) anyI := fun F σ H Q I ⟨P, h1, h2⟩ => by
  refine (pe_tget (pos := pos) (p := p) (p2 := p2) (j := j) (k := k) hu hN hv hd hcd).wp ?_
  obtain ⟨v, e1, r⟩ := I.sh_at he
  obtain ⟨a, rfl, c, cs, i, l, s, t, e, hc, hr, h0⟩ := rep_tape r
  have fin : ∀ z : Int, Q (.int z) H := fun z => h1 _ (h2 z) F (.int z) H .refl (.int z)
  cases hk with
  | at_ => exact ⟨.ref a, e1, a, .int i, rfl, DGet.k (k := .inr _) e, fin i⟩
  | left => exact ⟨.ref a, e1, a, .int l, rfl, DGet.k (k := .inr _) e, fin l⟩
  | seed => exact ⟨.ref a, e1, a, .int s, rfl, DGet.k (k := .inr _) e, fin s⟩
  | salt => exact ⟨.ref a, e1, a, .int t, rfl, DGet.k (k := .inr _) e, fin t⟩
inductive TKeyS : Str → Prop
  | left : TKeyS "left"
  | salt : TKeyS "salt"
def isInt (d : D) : R D := match d with | .int i => .ok (.int i) | _ => .st
/-- tape['left'] = e -/
theorem sn_tset {i : Nat} {x k : Str} {p p2 p3 : Pos} {j : Nat} (hE : env[i]? = some (.sh .tape)) (hk : TKeyS k) (hu : X.A.units + 1 < cLine) (he : EN .S X T W env e me) (hr : SN X T W ip rm inj injL envX env ss m) (wx : True) (hN : X.N[i]? = some x := by kernel_rfl) (hv : Vis X.env.scope x := by exact vis_of (by kernel_rfl))
    (hd : (x == ("__debug__" : Str)) = false := by kernel_rfl) (hcd : (x == ("__classdict__" : Str)) = false := by kernel_rfl)
    (hs : swapsWith e (some (.Subscript (.Name x p) (.Constant (.str k) j p2) p3)) pos.line X.env = pure false := by kernel_rfl) :
    SN X T W ip rm inj injL envX env (.Assign [.Subscript (.Name x p) (.Constant (.str k) j p2) p3] e pos :: ss) (N.ofR me fun d => N.ofR (N.l (isInt d)) fun _ => m) := fun G F σ H D I h => by
  refine wpS_cons (ps_dput (pos := pos) hu (pe_var (pos := p) hN hv hd hcd) pe_str pe_wp hs) ?_
  refine nrunS he wx I h fun d F1 v H1 s1 r I1 q1 => ?_
  cases d <;> try (obtain ⟨P, h1, h2⟩ := q1; exact h2.elim)
  rename_i z
  cases r
  have q1 : NPostS X T W G ip rm inj injL envX F1 H1 m D := q1
  obtain ⟨v, e1, r⟩ := I1.er.sh_at hE
  obtain ⟨a, rfl, c, cs, i, l, s, t, e, hc, hr', h0⟩ := rep_tape r
  cases hk with
  | left =>
    have st : Stp T F1 H1 F1 (upd H1 a (.dK (tapeKvs c i z s t))) := Stp.tapeSet e hc hr' h0
    exact ⟨.ref a, e1, a, _, rfl, DPut.k (k := .inr _) e tape_len, hr G F1 σ _ D (I1.stp st) (NPostS.grow st.grow q1)⟩
  | salt =>
    have st : Stp T F1 H1 F1 (upd H1 a (.dK (tapeKvs c i l s z))) := Stp.tapeSet e hc hr' h0
    exact ⟨.ref a, e1, a, _, rfl, DPut.k (k := .inr _) e tape_len, hr G F1 σ _ D (I1.stp st) (NPostS.grow st.grow q1)⟩
/-- if tape['left'] == 0 and tape['at'] < len(tape['cells']): tape['left'] = tape['cells'][tape['at']]; tape['at'] = tape['at'] + 1 -/
theorem sn_tapeif {i : Nat} {x : Str} {q1 q2 q3 q4 q5 q6 q7 q8 q9 q10 q11 q12 q13 q14 q15 q16 q17 q18 q19 q20 q21 q22 q23 q24 q25 q26 q27 q28 q29 q30 q31 q32 q33 q34 q35 q36 : Pos} {j1 j2 j3 j4 j5 j6 j7 j8 j9 j10 : Nat} (hE : env[i]? = some (.sh .tape)) (hu : X.A.units + 1 < cLine) (hl : X.mg "len" = none) (hr : SN X T W ip rm inj injL envX env ss m)
    (hg : Gl X "len" := by exact gl_of (by kernel_rfl))
    (hN : X.N[i]? = some x := by kernel_rfl) (hv : Vis X.env.scope x := by exact vis_of (by kernel_rfl))
    (hd : (x == ("__debug__" : Str)) = false := by kernel_rfl) (hcd : (x == ("__classdict__" : Str)) = false := by kernel_rfl)
    (hs1 : swapsWith (.Subscript (.Subscript (.Name x q18) (.Constant (.str "cells") j6 q19) q20) (.Subscript (.Name x q21) (.Constant (.str "at") j7 q22) q23) q24) (some (.Subscript (.Name x q15) (.Constant (.str "left") j5 q16) q17)) q25.line X.env = pure false := by kernel_rfl)
    (hs2 : swapsWith (.BinOp (.Subscript (.Name x q29) (.Constant (.str "at") j9 q30) q31) .Add (.Constant (.int 1) j10 q32) q33) (some (.Subscript (.Name x q26) (.Constant (.str "at") j8 q27) q28)) q34.line X.env = pure false := by kernel_rfl) :
    SN X T W ip rm inj injL envX env (.If (.BoolOp .And [.Compare (.Subscript (.Name x q1) (.Constant (.str "left") j1 q2) q3) [.Eq] [.Constant (.int 0) j2 q4] q5,
        .Compare (.Subscript (.Name x q6) (.Constant (.str "at") j3 q7) q8) [.Lt] [.Call (.Name "len" q9) [.Subscript (.Name x q10) (.Constant (.str "cells") j4 q11) q12] [] q13] q14] q35)
      [.Assign [.Subscript (.Name x q15) (.Constant (.str "left") j5 q16) q17] (.Subscript (.Subscript (.Name x q18) (.Constant (.str "cells") j6 q19) q20) (.Subscript (.Name x q21) (.Constant (.str "at") j7 q22) q23) q24) q25,
       .Assign [.Subscript (.Name x q26) (.Constant (.str "at") j8 q27) q28] (.BinOp (.Subscript (.Name x q29) (.Constant (.str "at") j9 q30) q31) .Add (.Constant (.int 1) j10 q32) q33) q34] [] q36 :: ss) m := fun G F σ H D I h => by
  obtain ⟨v, e1, r⟩ := I.er.sh_at hE
  obtain ⟨a, rfl, c, cs, ia, l, s, t, e, hc, hr', h0⟩ := rep_tape r
  have rest : wpS X ss D σ H := hr G F σ H D I h
  refine wpS_cons (ps_if (pos := q36) pt_wp ps_wp ps_wp) ?_
  have tg : ∀ {k : Str} {p p2 pos : Pos} {j : Nat}, PE X (.Subscript (.Name x p) (.Constant (.str k) j p2) pos) (tDGet (fun σ H Q => ∃ v, σ[i]? = some (some v) ∧ Q v H) (fun σ H Q => Q (.str k) H)) := fun {k p p2 pos j} => pe_tget hu hN hv hd hcd
  have t1 : PT X (.Compare (.Subscript (.Name x q1) (.Constant (.str "left") j1 q2) q3) [.Eq] [.Constant (.int 0) j2 q4] q5) _ := pt_cmpR op_eq tg pe_int (by first | exact nomark _ | rfl)
  have t2 : PT X (.Compare (.Subscript (.Name x q6) (.Constant (.str "at") j3 q7) q8) [.Lt] [.Call (.Name "len" q9) [.Subscript (.Name x q10) (.Constant (.str "cells") j4 q11) q12] [] q13] q14) _ :=
    pt_cmpR op_lt tg (pe_callB (pos := q13) (p := q9) call_len_seq hg hl (by rfl) (pa_cons tg pa_nil rfl)) (by first | exact nomark _ | rfl)
  have tt := pw_and (pos := q35) t1 (pw_and1 (pos := q35) t2)
  show wpT X _ σ H _
  unfold wpT
  refine fun pins st Iv => tt.run _ pins st σ H _ Iv ?_
  have no : wpS X [] { D with nx := wpS X ss D } σ H := pss_nil.wp rest
  refine ⟨.ref a, e1, a, .int l, rfl, DGet.k (k := .inr _) e, rfl, _, rfl, ?_⟩
  rw [dec_int]
  cases hl0 : (l == 0) with
  | false => exact no
  | true =>
    refine ⟨.ref a, e1, a, .int ia, rfl, DGet.k (k := .inr _) e, .ref a, e1, a, .ref c, rfl, DGet.k (k := .inr _) e, c, _, rfl, .inl (.inl hr'), _, _, rfl, rfl, _, rfl, ?_⟩
    by_cases hlt : ia < ((cs.map V.int).length : Int)
    · rw [decide_eq_true hlt]
      show wpS X _ _ σ H
      refine wpS_cons (ps_dput (pos := q25) hu (pe_var (pos := q15) hN hv hd hcd) pe_str (pe_ix (pos := q24) ix_list tg tg (by intro _ _; rfl)) hs1) ?_
      have hlen : ia.toNat < cs.length := by rw [List.length_map] at hlt; omega
      have hat : atI (cs.map V.int) ia = some (.int (cs[ia.toNat])) := by
        unfold atI ixN
        rw [if_pos h0, if_pos hlt]
        simp [hlen]
      refine ⟨.ref a, e1, a, .ref c, rfl, DGet.k (k := .inr _) e, .ref a, e1, a, .int ia, rfl, DGet.k (k := .inr _) e, c, _, ia, _, rfl, rfl, .inl hr', hat, .ref a, e1, a, _, rfl, DPut.k (k := .inr _) e tape_len, ?_⟩
      have st1 : Stp T F H F (upd H a (.dK (tapeKvs c ia (cs[ia.toNat]) s t))) := Stp.tapeSet e hc hr' h0
      have I1 := I.stp st1
      have e2 : upd H a (.dK (tapeKvs c ia (cs[ia.toNat]) s t)) a = some (.dK (tapeKvs c ia (cs[ia.toNat]) s t)) := upd_same
      have hr2 : Rd (upd H a (.dK (tapeKvs c ia (cs[ia.toNat]) s t))) c (.lst (cs.map V.int)) := st1.rd (noTbl_lst _) hr'
      show wpS X _ _ σ (upd H a (.dK (tapeKvs c ia (cs[ia.toNat]) s t)))
      refine wpS_cons (ps_dput (pos := q34) hu (pe_var (pos := q26) hN hv hd hcd) pe_str (pe_op (pos := q33) op_add tg pe_int) hs2) ?_
      refine ⟨.ref a, e1, a, .int ia, rfl, DGet.k (k := .inr _) e2, ia, 1, rfl, rfl, .ref a, e1, a, _, rfl, DPut.k (k := .inr _) e2 tape_len, ?_⟩
      have st2 : Stp T F (upd H a (.dK (tapeKvs c ia (cs[ia.toNat]) s t))) F (upd (upd H a (.dK (tapeKvs c ia (cs[ia.toNat]) s t))) a (.dK (tapeKvs c (ia + 1) (cs[ia.toNat]) s t))) := Stp.tapeSet e2 hc hr2 (by omega)
      exact pss_nil.wp (hr G F σ _ D (I1.stp st2) (NPostS.grow (st1.grow.trans st2.grow) h))
    · rw [decide_eq_false hlt]
      exact no
/-- {'cells': cells, 'at': 0, 'left': 0, 'seed': seed, 'salt': 0} -/
def tapeLit (dc ds : D) : R D := match dc, ds with
  | .lst xs, .int _ => (match intsOf xs with | some _ => .ok .tape | none => .st)
  | _, _ => .st
theorem de_tapelit {i k : Nat} {x y : Str} {dc ds : D} {q1 q2 q3 q4 q5 q6 q7 q8 q9 q10 : Pos} {j1 j2 j3 j4 j5 j6 : Nat} (hx : env[i]? = some (.sh dc)) (hy : env[k]? = some (.sh ds))
    (hN : X.N[i]? = some x := by kernel_rfl) (hv : Vis X.env.scope x := by exact vis_of (by kernel_rfl))
    (hd : (x == ("__debug__" : Str)) = false := by kernel_rfl) (hcd : (x == ("__classdict__" : Str)) = false := by kernel_rfl)
    (hN2 : X.N[k]? = some y := by kernel_rfl) (hv2 : Vis X.env.scope y := by exact vis_of (by kernel_rfl))
    (hd2 : (y == ("__debug__" : Str)) = false := by kernel_rfl) (hcd2 : (y == ("__classdict__" : Str)) = false := by kernel_rfl) :
    DE .S X T W env (.Dict [some (.Constant (.str "cells") j1 q1), some (.Constant (.str "at") j2 q2), some (.Constant (.str "left") j3 q3), some (.Constant (.str "seed") j4 q4), some (.Constant (.str "salt") j5 q5)]
      [.Name x q6, .Constant (.int 0) j6 q7, .Constant (.int 0) j6 q8, .Name y q9, .Constant (.int 0) j6 q10] pos) (tapeLit dc ds) := fun F σ H Q I q => by
  refine (pe_disp (pos := pos) (pps_cons pe_str (pe_var (pos := q6) hN hv hd hcd) (pps_cons pe_str pe_int (pps_cons pe_str pe_int (pps_cons pe_str (pe_var (pos := q9) hN2 hv2 hd2 hcd2) (pps_cons pe_str pe_int pps_nil))))) rfl rfl (by simp) (show 5 ≤ 15 by decide)).wp ?_
  obtain ⟨vc, e1, rc⟩ := I.sh_at hx
  obtain ⟨vs, e2, rs⟩ := I.sh_at hy
  cases dc <;> try exact q.elim
  cases ds <;> try exact q.elim
  rename_i xs s
  cases rs
  have q : PostE X T W F σ H .S (match intsOf xs with | some _ => R.ok D.tape | none => .st) Q := q
  cases es : intsOf xs with
  | none => rw [es] at q; exact q.elim
  | some is =>
    rw [es] at q
    have qf : PostE X T W F σ H .S (R.ok D.tape) Q := q
    clear q
    have ex := intsOf_eq es
    subst ex
    cases rc with
    | @lst c vs _ hF hrd hrs =>
    intro p hp
    have hH : H p = none := hp
    refine ⟨_, e1, .int s, e2, upd_same, [(.inr "cells", .ref c), (.inr "at", .int 0), (.inr "left", .int 0), (.inr "seed", .int s), (.inr "salt", .int 0)], rfl, (show 5 ≤ 15 by decide), ?_⟩
    have eu : ∀ o1 o2 : HO, upd (upd H p o1) p o2 = upd H p o2 := fun o1 o2 => by
      funext b
      by_cases z : b = p
      · rw [z, upd_same, upd_same]
      · rw [upd_ne z, upd_ne z, upd_ne z]
    rw [eu]
    have st : Stp T F H F (upd H p (.dK (tapeKvs c 0 0 s 0))) := .new1 hp
    refine qf F (.ref p) _ st (.tape ⟨c, is, 0, 0, s, 0, upd_same, hF, ?_, Int.le_refl _⟩)
    rw [← hrs.ints]
    exact st.rd (noTbl_lst _) hrd
end
end DL

-- DL11
set_option Elab.async false
set_option linter.all false
set_option maxRecDepth 100000
set_option maxHeartbeats 4000000
/-! The data layer: zip and enumerate over lists, tuples and texts. -/
namespace DL
open PySem PySem.Spec PyProof.Rows L2 PyProof

section
variable {prog : Program} {w : World} {A : Around}
theorem draws_tuple (hh : A.handled = none) (it l : Addr) (hne : l ≠ it) (items : Array Value) :
    Draws prog w A it [it, l] items.size (fun i v => items[i]? = some v) (fun i h => h.IsTupleIter it l i ∧ h.IsTuple l items) where
  live := fun _ _ st => let ⟨o, ho, _⟩ := st.1; ⟨o, ho⟩
  frame := fun _ _ _ st hk => ⟨st.1.at fun o e => hk it (by simp) o e, st.2.at fun o e => hk l (by simp) o e⟩
  item := fun i s Q E hi st hQ => by
    refine RZ.nextOf_tuple_item st.1 st.2 (x := items[i]) (by simp [hi]) fun h' hit' hs' => ?_
    exact hQ _ h' s.toks (by simp [hi]) ⟨hit', st.2.extBut hs'.extBut hne⟩ hs'
  done := fun s Q E st hE => RZ.nextOf_tuple_end hh st.1 st.2 (by simp) hE

/-! ### zip of whatever draws -/
variable {E : Value → Shared → Prop} {s : Shared}
structure ZApart (z TI TO i1 i2 : Addr) (f1 f2 : List Addr) : Prop where
  TIz : TI ≠ z
  TOz : TO ≠ z
  i1z : i1 ≠ z
  i2z : i2 ≠ z
  TITO : TI ≠ TO
  TIi1 : TI ≠ i1
  TIi2 : TI ≠ i2
  TOi1 : TO ≠ i1
  TOi2 : TO ≠ i2
  i12 : i1 ≠ i2
  z1 : z ∉ f1
  TO1 : TO ∉ f1
  i21 : i2 ∉ f1
  z2 : z ∉ f2
  TO2 : TO ∉ f2
  i12' : i1 ∉ f2
theorem _root_.PySem.Draws.but {it : Addr} {fp : List Addr} {n i : Nat} {P : Nat → Value → Prop} {St : Nat → Heap → Prop} {h h' : Heap} {b : Addr} (D : Draws prog w A it fp n P St) (st : St i h) (hs : Heap.ExtBut b h h') (hb : b ∉ fp) : St i h' :=
  D.frame i h h' st fun c hc o e => hs c o (fun z => hb (by rw [← z]; exact hc)) e
theorem zipD_next_item {z TI TO i1 i2 : Addr} {f1 f2 : List Addr} {k1 k2 n1 n2 : Nat} {P1 P2 : Nat → Value → Prop} {S1 S2 : Nat → Heap → Prop} {a b : Value} {Q : Value → Shared → Prop} (D : ZApart z TI TO i1 i2 f1 f2)
    (D1 : Draws prog w A i1 f1 n1 P1 S1) (D2 : Draws prog w A i2 f2 n2 P2 S2)
    (hz : IsZip s.heap z TI TO .none) (hTI : IsPair s.heap TI (.ref i1) (.ref i2)) (hTO : IsPair s.heap TO a b)
    (h1 : S1 k1 s.heap) (h2 : S2 k2 s.heap) (hx : k1 < n1) (hy : k2 < n2)
    (hQ : ∀ x y h' tk, P1 k1 x → P2 k2 y → IsZip h' z TI TO (rawInt s.heap.objs.size) → IsPair h' TO x y → S1 (k1 + 1) h' → S2 (k2 + 1) h' → IsPair h' s.heap.objs.size x y → h'.objs.size = s.heap.objs.size + 1 →
      (∀ c o, c ≠ z → c ≠ TO → c ≠ i1 → c ≠ i2 → s.heap.get? c = some o → h'.get? c = some o) → Q (.ref s.heap.objs.size) { s with heap := h', toks := tk }) :
    wpAny (model prog w) A (Builtin.«zip.__next__» ⟨[.ref z], []⟩) (fun fin s' => ∃ v, fin = .done (.ret v) ∧ Q v s') E s := by
  obtain ⟨hp, g, d, tk₀, os⟩ := s
  show wpAny _ _ (field (.ref z) 2 >>= _) _ _ _
  refine wpAny_bind (wpAny_field hz rfl (x := .bool false) rfl ?_)
  show wpAny _ _ (field (.ref z) 3 >>= _) _ _ _
  refine wpAny_bind (wpAny_field hz rfl (x := .ref TI) rfl ?_)
  refine wpAny_bind (wpAny_seqItems hTI rfl ?_)
  show wpAny _ _ (Builtin.SmallTypes.ownedTupleIsFree (.ref z) >>= _) _ _ _
  refine wpAny_bind ?_
  unfold Builtin.SmallTypes.ownedTupleIsFree
  refine wpAny_bind (wpAny_field hz rfl (x := .none) rfl (wpAny_pure ?_))
  simp only [if_true]
  refine wpAny_bind (wpAny_rule ?_)
  refine wpAny_bind (wpAny_field hz rfl (x := .ref TO) rfl ?_)
  refine wpAny_bind (wpAny_setField_rec hz (by simp) fun h₁ hz₁ hs₁ => ?_)
  replace hz₁ : IsZip h₁ z TI TO .ellipsis := hz₁
  replace hs₁ : Heap.SameBut z hp h₁ := hs₁
  refine wpAny_bind ?_
  simp only [List.zipIdx_cons, List.zipIdx_nil, List.forIn_cons, List.forIn_nil]
  refine wpAny_bind (wpAny_bind (wpAny_onRaise ?_))
  show wpAny _ _ (Builtin.SmallTypes.nextOf (.ref i1) >>= _) _ _ _
  refine wpAny_bind (D1.item k1 _ _ _ hx (D1.but h1 hs₁.extBut D.z1) fun x h₂ t₂ px h1₂ hs₂ => wpAny_pure ?_)
  replace hs₂ : Heap.SameBut i1 h₁ h₂ := hs₂
  have hTO₂ : IsPair h₂ TO a b := hs₂.extBut _ _ D.TOi1 (hs₁.extBut _ _ D.TOz hTO)
  refine wpAny_bind (wpAny_seqItems hTO₂ rfl ?_)
  refine wpAny_bind (wpAny_updateSeq_pair hTO₂ fun h₃ hTO₃ hs₃ => ?_)
  replace hTO₃ : IsPair h₃ TO x b := hTO₃
  replace hs₃ : Heap.SameBut TO h₂ h₃ := hs₃
  refine wpAny_bind (wpAny_letGo (wpAny_pure ?_))
  refine wpAny_bind (wpAny_bind (wpAny_onRaise ?_))
  show wpAny _ _ (Builtin.SmallTypes.nextOf (.ref i2) >>= _) _ _ _
  refine wpAny_bind (D2.item k2 _ _ _ hy (D2.but (D2.but (D2.but h2 hs₁.extBut D.z2) hs₂.extBut D.i12') hs₃.extBut D.TO2) fun y h₄ t₄ py h2₄ hs₄ => wpAny_pure ?_)
  replace hs₄ : Heap.SameBut i2 h₃ h₄ := hs₄
  have hTO₄ : IsPair h₄ TO x b := hs₄.extBut _ _ D.TOi2 hTO₃
  refine wpAny_bind (wpAny_seqItems hTO₄ rfl ?_)
  refine wpAny_bind (wpAny_updateSeq_pair hTO₄ fun h₅ hTO₅ hs₅ => ?_)
  replace hTO₅ : IsPair h₅ TO x y := hTO₅
  replace hs₅ : Heap.SameBut TO h₄ h₅ := hs₅
  refine wpAny_bind (wpAny_letGo (wpAny_pure (wpAny_pure ?_)))
  refine wpAny_bind (wpAny_seqItems hTO₅ rfl ?_)
  refine wpAny_bind (wpAny_newTuple ?_)
  have hsz : h₅.objs.size = hp.objs.size := by rw [hs₅.1, hs₄.1, hs₃.1, hs₂.1, hs₁.1]
  have hz₅ : IsZip h₅ z TI TO .ellipsis := hs₅.extBut _ _ D.TOz.symm (hs₄.extBut _ _ D.i2z.symm (hs₃.extBut _ _ D.TOz.symm (hs₂.extBut _ _ D.i1z.symm hz₁)))
  have hk₅ : ∀ c o, c ≠ z → c ≠ TO → c ≠ i1 → c ≠ i2 → hp.get? c = some o → h₅.get? c = some o := fun c o c1 c2 c3 c4 e =>
    hs₅.extBut _ _ c2 (hs₄.extBut _ _ c4 (hs₃.extBut _ _ c2 (hs₂.extBut _ _ c3 (hs₁.extBut _ _ c1 e))))
  have h1₅ : S1 (k1 + 1) h₅ := D1.but (D1.but (D1.but h1₂ hs₃.extBut D.TO1) hs₄.extBut D.i21) hs₅.extBut D.TO1
  have h2₅ : S2 (k2 + 1) h₅ := D2.but h2₄ hs₅.extBut D.TO2
  have hzlt : z < h₅.objs.size := Heap.lt_size hz₅
  have hTOlt : TO < h₅.objs.size := Heap.lt_size hTO₅
  show wpAny _ _ (Builtin.SmallTypes.ownedTupleHandOut (.ref z) (.ref h₅.objs.size) >>= _) _ _ _
  refine wpAny_bind ?_
  unfold Builtin.SmallTypes.ownedTupleHandOut
  have hz₆ : IsZip (h₅.push { cls := .type "tuple", data := .seq #[x, y] }) z TI TO .ellipsis := Heap.get?_push_of_some _ hz₅
  refine wpAny_bind (wpAny_setField_rec hz₆ (by simp) fun h₇ hz₇ hs₇ => ?_)
  replace hz₇ : IsZip h₇ z TI TO (rawInt h₅.objs.size) := hz₇
  refine wpAny_setField_rec hz₇ (by simp) fun h₈ hz₈ hs₈ => ?_
  replace hz₈ : IsZip h₈ z TI TO (rawInt h₅.objs.size) := hz₈
  have up : ∀ c o, c ≠ z → h₅.get? c = some o → h₈.get? c = some o := fun c o c1 e => hs₈.extBut _ _ c1 (hs₇.extBut _ _ c1 (Heap.get?_push_of_some _ e))
  have hT₈ : IsPair h₈ h₅.objs.size x y := hs₈.extBut _ _ (Nat.ne_of_gt hzlt) (hs₇.extBut _ _ (Nat.ne_of_gt hzlt) (Heap.get?_push_size _ rfl))
  have hz8 : h₈.objs.size = h₅.objs.size + 1 := by rw [hs₈.1, hs₇.1, Heap.size_push]
  rw [hsz] at hz₈ hT₈ hz8
  refine wpAny_pure ⟨_, rfl, ?_⟩
  show Q (.ref h₅.objs.size) _
  rw [hsz]
  exact hQ x y h₈ _ px py hz₈ (up _ _ D.TOz hTO₅) (D1.frame _ _ _ h1₅ fun c hc o e => up c o (fun q => D.z1 (by rw [← q]; exact hc)) e) (D2.frame _ _ _ h2₅ fun c hc o e => up c o (fun q => D.z2 (by rw [← q]; exact hc)) e) hT₈ hz8 fun c o c1 c2 c3 c4 e => up c o c1 (hk₅ c o c1 c2 c3 c4 e)
theorem zipD_next_end {z TI TO i1 i2 : Addr} {f1 f2 : List Addr} {k n1 n2 : Nat} {P1 P2 : Nat → Value → Prop} {S1 S2 : Nat → Heap → Prop} {a b : Value} {Q : Fin → Shared → Prop} (D : ZApart z TI TO i1 i2 f1 f2)
    (D1 : Draws prog w A i1 f1 n1 P1 S1) (D2 : Draws prog w A i2 f2 n2 P2 S2)
    (hz : IsZip s.heap z TI TO .none) (hTI : IsPair s.heap TI (.ref i1) (.ref i2)) (hTO : IsPair s.heap TO a b)
    (h1 : S1 k s.heap) (h2 : S2 k s.heap) (hend : k = n1 ∨ (k < n1 ∧ k = n2))
    (hE : ∀ h' tk e, (∀ c o, c ≠ z → c ≠ TO → c ≠ i1 → c ≠ i2 → s.heap.get? c = some o → h'.get? c = some o) → (∃ o, h'.get? e = some o ∧ o.cls = .type "StopIteration") → E (.ref e) { s with heap := h', toks := tk }) :
    wpAny (model prog w) A (Builtin.«zip.__next__» ⟨[.ref z], []⟩) Q E s := by
  obtain ⟨hp, g, d, tk₀, os⟩ := s
  show wpAny _ _ (field (.ref z) 2 >>= _) _ _ _
  refine wpAny_bind (wpAny_field hz rfl (x := .bool false) rfl ?_)
  show wpAny _ _ (field (.ref z) 3 >>= _) _ _ _
  refine wpAny_bind (wpAny_field hz rfl (x := .ref TI) rfl ?_)
  refine wpAny_bind (wpAny_seqItems hTI rfl ?_)
  show wpAny _ _ (Builtin.SmallTypes.ownedTupleIsFree (.ref z) >>= _) _ _ _
  refine wpAny_bind ?_
  unfold Builtin.SmallTypes.ownedTupleIsFree
  refine wpAny_bind (wpAny_field hz rfl (x := .none) rfl (wpAny_pure ?_))
  simp only [if_true]
  refine wpAny_bind (wpAny_rule ?_)
  refine wpAny_bind (wpAny_field hz rfl (x := .ref TO) rfl ?_)
  refine wpAny_bind (wpAny_setField_rec hz (by simp) fun h₁ hz₁ hs₁ => ?_)
  replace hz₁ : IsZip h₁ z TI TO .ellipsis := hz₁
  replace hs₁ : Heap.SameBut z hp h₁ := hs₁
  refine wpAny_bind ?_
  simp only [List.zipIdx_cons, List.zipIdx_nil, List.forIn_cons, List.forIn_nil]
  refine wpAny_bind (wpAny_bind (wpAny_onRaise ?_))
  show wpAny _ _ (Builtin.SmallTypes.nextOf (.ref i1) >>= _) _ _ _
  rcases hend with hend | ⟨hlt, hend⟩
  · rw [hend] at h1
    refine wpAny_bind (D1.done _ _ _ (D1.but h1 hs₁.extBut D.z1) fun h₂ e hs₂ he => ?_)
    obtain ⟨oe, hoe, hce⟩ := he
    have hz₂ : IsZip h₂ z TI TO .ellipsis := hs₂ _ _ D.i1z.symm hz₁
    have hez : e ≠ z := fun x => by subst x; rw [hz₂] at hoe; cases hoe; simp at hce
    exact wpAny_setField_rec hz₂ (by simp) fun h₃ _ hs₃ => hE h₃ _ e (fun c o c1 _ c3 _ x => hs₃.extBut _ _ c1 (hs₂ _ _ c3 (hs₁.extBut _ _ c1 x))) ⟨oe, hs₃.extBut _ _ hez hoe, hce⟩
  · refine wpAny_bind (D1.item k _ _ _ hlt (D1.but h1 hs₁.extBut D.z1) fun x h₂ t₂ px h1₂ hs₂ => wpAny_pure ?_)
    replace hs₂ : Heap.SameBut i1 h₁ h₂ := hs₂
    have hTO₂ : IsPair h₂ TO a b := hs₂.extBut _ _ D.TOi1 (hs₁.extBut _ _ D.TOz hTO)
    refine wpAny_bind (wpAny_seqItems hTO₂ rfl ?_)
    refine wpAny_bind (wpAny_updateSeq_pair hTO₂ fun h₃ hTO₃ hs₃ => ?_)
    replace hs₃ : Heap.SameBut TO h₂ h₃ := hs₃
    refine wpAny_bind (wpAny_letGo (wpAny_pure ?_))
    refine wpAny_bind (wpAny_bind (wpAny_onRaise ?_))
    show wpAny _ _ (Builtin.SmallTypes.nextOf (.ref i2) >>= _) _ _ _
    rw [hend] at h2
    refine wpAny_bind (D2.done _ _ _ (D2.but (D2.but (D2.but h2 hs₁.extBut D.z2) hs₂.extBut D.i12') hs₃.extBut D.TO2) fun h₄ e hs₄ he => ?_)
    obtain ⟨oe, hoe, hce⟩ := he
    have hz₄ : IsZip h₄ z TI TO .ellipsis := hs₄ _ _ D.i2z.symm (hs₃.extBut _ _ D.TOz.symm (hs₂.extBut _ _ D.i1z.symm hz₁))
    have hez : e ≠ z := fun x => by subst x; rw [hz₄] at hoe; cases hoe; simp at hce
    exact wpAny_setField_rec hz₄ (by simp) fun h₅ _ hs₅ => hE h₅ _ e (fun c o c1 c2 c3 c4 x => hs₅.extBut _ _ c1 (hs₄ _ _ c4 (hs₃.extBut _ _ c2 (hs₂.extBut _ _ c3 (hs₁.extBut _ _ c1 x))))) ⟨oe, hs₅.extBut _ _ hez hoe, hce⟩
theorem pyNext_zipD_item {z TI TO i1 i2 : Addr} {f1 f2 : List Addr} {k1 k2 n1 n2 : Nat} {P1 P2 : Nat → Value → Prop} {S1 S2 : Nat → Heap → Prop} {a b : Value} {Q : Option Value → Shared → Prop} (D : ZApart z TI TO i1 i2 f1 f2)
    (D1 : Draws prog w A.in1 i1 f1 n1 P1 S1) (D2 : Draws prog w A.in1 i2 f2 n2 P2 S2)
    (hz : IsZip s.heap z TI TO .none) (hTI : IsPair s.heap TI (.ref i1) (.ref i2)) (hTO : IsPair s.heap TO a b)
    (h1 : S1 k1 s.heap) (h2 : S2 k2 s.heap) (hx : k1 < n1) (hy : k2 < n2)
    (hQ : ∀ x y h' tk, P1 k1 x → P2 k2 y → IsZip h' z TI TO (rawInt s.heap.objs.size) → IsPair h' TO x y → S1 (k1 + 1) h' → S2 (k2 + 1) h' → IsPair h' s.heap.objs.size x y → h'.objs.size = s.heap.objs.size + 1 →
      (∀ c o, c ≠ z → c ≠ TO → c ≠ i1 → c ≠ i2 → s.heap.get? c = some o → h'.get? c = some o) → Q (some (.ref s.heap.objs.size)) { s with heap := h', toks := tk }) :
    wpAny (model prog w) A (pyNext (.ref z)) Q E s := by
  have hT : s.TypeIs (.ref z) "zip" := ⟨_, hz, rfl⟩
  unfold pyNext
  exact wpAny_bind (wpAny_attempt (wpAny_callSpecial?_slot (name := Str.ofString "__next__") hT F.slot_zip_next
    (wpAny_call_entry F.slot_zip_next hT F.entry_zip_next
      (zipD_next_item D D1 D2 hz hTI hTO h1 h2 hx hy fun x y h' tk p1 p2 a1 a2 a3 a4 a5 a6 a7 => wpAny_pure (hQ x y h' tk p1 p2 a1 a2 a3 a4 a5 a6 a7)) (F.args_zip_next_1 _))))
theorem pyNext_zipD_end {z TI TO i1 i2 : Addr} {f1 f2 : List Addr} {k n1 n2 : Nat} {P1 P2 : Nat → Value → Prop} {S1 S2 : Nat → Heap → Prop} {a b : Value} {Q : Option Value → Shared → Prop} (D : ZApart z TI TO i1 i2 f1 f2)
    (D1 : Draws prog w A.in1 i1 f1 n1 P1 S1) (D2 : Draws prog w A.in1 i2 f2 n2 P2 S2)
    (hz : IsZip s.heap z TI TO .none) (hTI : IsPair s.heap TI (.ref i1) (.ref i2)) (hTO : IsPair s.heap TO a b)
    (h1 : S1 k s.heap) (h2 : S2 k s.heap) (hend : k = n1 ∨ (k < n1 ∧ k = n2))
    (hQ : ∀ h' tk, (∀ c o, c ≠ z → c ≠ TO → c ≠ i1 → c ≠ i2 → s.heap.get? c = some o → h'.get? c = some o) → Q none { s with heap := h', toks := tk }) : wpAny (model prog w) A (pyNext (.ref z)) Q E s := by
  have hT : s.TypeIs (.ref z) "zip" := ⟨_, hz, rfl⟩
  unfold pyNext
  refine wpAny_bind (wpAny_attempt (wpAny_callSpecial?_slot (name := Str.ofString "__next__") hT F.slot_zip_next
    (wpAny_call_entry F.slot_zip_next hT F.entry_zip_next (zipD_next_end D D1 D2 hz hTI hTO h1 h2 hend fun h' tk e hk he => ?_) (F.args_zip_next_1 _))))
  obtain ⟨o, ho, hc⟩ := he
  refine wpAny_bind (wpAny_isInstance (T := "StopIteration") (b := true) ⟨o, ho, hc⟩ isSubtype_stop ?_)
  exact wpAny_pure (hQ _ _ hk)
end

/-! ### making a zip, an enumerate -/
/-- a value whose iterator is made by laying the object o -/
def Iters (C : Heap → Prop) (v : Value) (o : Obj) : Prop := ∀ (prog : Program) (w : World) (A : Around) (Q : Value → Shared → Prop) (E : Value → Shared → Prop) (s : Shared), C s.heap → Q (.ref s.heap.objs.size) { s with heap := s.heap.push o } → wpAny (model prog w) A (pyIter v) Q E s
theorem Iters.use {C : Heap → Prop} {v : Value} {o : Obj} (i : Iters C v o) {prog : Program} {w : World} {A : Around} {Q : Value → Shared → Prop} {E : Value → Shared → Prop} {s : Shared} (c : C s.heap) (q : Q (.ref s.heap.objs.size) { s with heap := s.heap.push o }) : wpAny (model prog w) A (pyIter v) Q E s := i prog w A Q E s c q
abbrev zH3 (h : Heap) (o1 o2 : Obj) : Heap := ((h.push o1).push o2).push { cls := .type "tuple", data := .seq #[.ref h.objs.size, .ref (h.push o1).objs.size] }
abbrev zH4 (h : Heap) (o1 o2 : Obj) : Heap := (zH3 h o1 o2).push { cls := .type "tuple", data := .seq #[.none, .none] }
abbrev zH5 (h : Heap) (o1 o2 : Obj) : Heap := (zH4 h o1 o2).push { cls := .type "zip", data := .fields #[.none, .bool false, .bool false, .ref ((h.push o1).push o2).objs.size, .ref (zH3 h o1 o2).objs.size] }
theorem meets_zipD_new {C1 C2 : Heap → Prop} (v1 v2 : Value) (o1 o2 : Obj) (i1 : Iters C1 v1 o1) (i2 : Iters C2 v2 o2) :
    Meets (Builtin.«zip.__new__» ⟨[.type "zip", v1, v2], []⟩) (fun _ R s => C1 s.heap ∧ C2 (s.heap.push o1) ∧
      R (.ok (.ret (.ref (zH4 s.heap o1 o2).objs.size))) { s with heap := zH5 s.heap o1 o2 }) :=
  .of_wp fun prog w A R s h => by
    obtain ⟨hp, g, d, tk, os⟩ := s; obtain ⟨hl1, hl2, h⟩ := h
    have hsub := sub_zip
    have hL1 : C1 (Shared.heap ⟨hp, g, d, tk, os⟩) := hl1
    have hL2 : C2 (Shared.heap ⟨hp.push o1, g, d, tk, os⟩) := hl2
    wp_walk using Iters.use i1 hL1, Iters.use i2 hL2
    exact ⟨_, rfl, h⟩
end DL

-- DL12
set_option Elab.async false
set_option linter.all false
set_option maxRecDepth 100000
set_option maxHeartbeats 4000000
/-! The data layer: zip and enumerate, walked. -/
namespace DL
open PySem PySem.Spec PyProof.Rows L2 PyProof

/-- what is walked: a list, a tuple, a text -/
inductive Sk | l (a : Addr) | t (a : Addr) | s (z : Str)
namespace Sk
def v : Sk → V
  | .l a => .ref a
  | .t a => .ref a
  | .s z => .str z
def src (K : PySem.W.Frag) (H : Hp) : Sk → List V → Prop
  | .l a, xs => SqL K H a xs
  | .t a, xs => SqT K H a xs
  | .s z, xs => xs = z.cps.toList.map fun c => V.str ⟨#[c]⟩
def ne : Sk → Addr → Prop
  | .l a, c => a ≠ c
  | .t a, c => a ≠ c
  | .s _, _ => True
def st (k : Sk) (it : Addr) (i : Nat) (h : Heap) : Prop := match k with
  | .l a => h.IsListIter it a i
  | .t a => h.IsTupleIter it a i
  | .s z => ∃ t, h.IsStrIter it (strIterType z) z t i
theorem st_obj {k : Sk} {it : Addr} {i : Nat} {h : Heap} (s : k.st it i h) : ∃ o, h.get? it = some o ∧ ∀ v, o.data ≠ .cell v := by
  cases k with
  | l a => obtain ⟨o, e, _, d⟩ := s; exact ⟨o, e, fun v z => by rw [d] at z; cases z⟩
  | t a => obtain ⟨o, e, _, d⟩ := s; exact ⟨o, e, fun v z => by rw [d] at z; cases z⟩
  | s z => obtain ⟨t, o, e, _, d⟩ := s; exact ⟨o, e, fun v z => by rw [d] at z; cases z⟩
theorem st_at {k : Sk} {it : Addr} {i : Nat} {h h' : Heap} (s : k.st it i h) (hk : ∀ o, h.get? it = some o → h'.get? it = some o) : k.st it i h' := by
  cases k with
  | l a => obtain ⟨o, e, r⟩ := s; exact ⟨o, hk o e, r⟩
  | t a => obtain ⟨o, e, r⟩ := s; exact ⟨o, hk o e, r⟩
  | s z => obtain ⟨t, o, e, r⟩ := s; exact ⟨t, o, hk o e, r⟩
theorem src_inj {X : Cx} {pins : List (Addr × Obj)} {σ : L2.St} {H : Hp} {s : Shared} {k : Sk} {xs ys : List V} (I : Inv X pins σ H s) (h1 : k.src X.K H xs) (h2 : k.src X.K H ys) : xs = ys := by
  cases k with
  | l a => exact I.list_inj h1 h2
  | t a => exact I.tuple_inj h1 h2
  | s z => exact h1.trans h2.symm
theorem draws {X : Cx} {pins : List (Addr × Obj)} {σ : L2.St} {H : Hp} {s : Shared} {k : Sk} {xs : List V} {it : Addr} {i : Nat} {A : Around} {prog : Program} {w : World} (I : Inv X pins σ H s) (h : k.src X.K H xs) (st : k.st it i s.heap) (hne : k.ne it) (hh : A.handled = none) :
    ∃ (fp : List Addr) (P : Nat → Value → Prop) (St : Nat → Heap → Prop), Draws prog w A it fp xs.length P St ∧ St i s.heap ∧ (∀ j x, P j x → ∃ y, xs[j]? = some y ∧ RelV y x) ∧ (∀ j h, St j h → k.st it j h) ∧ (∀ c, c ≠ it → k.ne c → c ∉ fp) ∧ it ∈ fp := by
  cases k with
  | l a =>
    obtain ⟨its, rv, p, _⟩ := I.list h
    have hl := rv.length
    have D := Draws.list (prog := prog) (w := w) (A := A) hh it a hne its.toArray
    rw [List.size_toArray, ← hl] at D
    refine ⟨_, _, _, D, ⟨st, p.isList⟩, fun j x e => ?_, fun j h s => s.1, fun c h1 h2 z => ?_, by simp⟩
    · have e' : its[j]? = some x := by simpa using e
      have hj : j < xs.length := by rw [hl]; exact (List.getElem?_eq_some_iff.mp e').1
      obtain ⟨u, hu, ru⟩ := rv.get (List.getElem?_eq_getElem hj)
      rw [e'] at hu; cases hu
      exact ⟨_, List.getElem?_eq_getElem hj, ru⟩
    · have : c = it ∨ c = a := by simpa using z
      rcases this with z | z
      · exact h1 z
      · exact h2 z.symm
  | t a =>
    obtain ⟨its, rv, p, _⟩ := I.tuple h
    have hl := rv.length
    have D := draws_tuple (prog := prog) (w := w) (A := A) hh it a hne its.toArray
    rw [List.size_toArray, ← hl] at D
    refine ⟨_, _, _, D, ⟨st, p⟩, fun j x e => ?_, fun j h s => s.1, fun c h1 h2 z => ?_, by simp⟩
    · have e' : its[j]? = some x := by simpa using e
      have hj : j < xs.length := by rw [hl]; exact (List.getElem?_eq_some_iff.mp e').1
      obtain ⟨u, hu, ru⟩ := rv.get (List.getElem?_eq_getElem hj)
      rw [e'] at hu; cases hu
      exact ⟨_, List.getElem?_eq_getElem hj, ru⟩
    · have : c = it ∨ c = a := by simpa using z
      rcases this with z | z
      · exact h1 z
      · exact h2 z.symm
  | s z =>
    have h : xs = z.cps.toList.map fun c => V.str ⟨#[c]⟩ := h
    subst h
    obtain ⟨t, st⟩ := st
    have hP : ∀ (j : Nat) (x : Value), (∃ c u, z.cps[j]? = some c ∧ x = .str ⟨#[c]⟩ u) → ∃ y, (z.cps.toList.map fun c => V.str ⟨#[c]⟩)[j]? = some y ∧ RelV y x := fun j x ⟨c, u, e, ex⟩ => by
      subst ex
      refine ⟨.str ⟨#[c]⟩, ?_, ⟨u, rfl⟩⟩
      rw [List.getElem?_map, show z.cps.toList[j]? = some c from by simpa using e]
      rfl
    have hn : (z.cps.toList.map fun c => V.str ⟨#[c]⟩).length = z.cps.size := by simp
    rw [hn]
    cases ha : z.cps.all (· < 128) with
    | true =>
      have e : strIterType z = "str_ascii_iterator" := by simp [strIterType, ha]
      rw [e] at st
      exact ⟨_, _, _, Draws.strAscii hh it z t, st, hP, fun j h s => ⟨t, by rw [e]; exact s⟩, fun c h1 _ q => h1 (by simpa using q), by simp⟩
    | false =>
      have e : strIterType z = "str_iterator" := by simp [strIterType, ha]
      rw [e] at st
      exact ⟨_, _, _, Draws.strWide hh it z t, st, hP, fun j h s => ⟨t, by rw [e]; exact s⟩, fun c h1 _ q => h1 (by simpa using q), by simp⟩
/-- its iterator is made -/
def obj : Sk → Tok → Obj
  | .l a, _ => { cls := .type "list_iterator", data := .fields #[.ref a, .int 0 0] }
  | .t a, _ => { cls := .type "tuple_iterator", data := .fields #[.ref a, .int 0 0] }
  | .s z, tk => { cls := .type (strIterType z), data := .fields #[.str z tk, .int 0 0] }
theorem st0 {k : Sk} {t : Tok} {it : Addr} {h : Heap} (e : h.get? it = some (k.obj t)) : k.st it 0 h := by
  cases k with
  | l a => exact ⟨_, e, rfl, rfl⟩
  | t a => exact ⟨_, e, rfl, rfl⟩
  | s z => exact ⟨t, _, e, rfl, rfl⟩
theorem obj_free {k : Sk} {t : Tok} : (k.obj t).isFreed = false := by cases k <;> rfl
theorem iters {X : Cx} {pins : List (Addr × Obj)} {σ : L2.St} {H : Hp} {s : Shared} {k : Sk} {xs : List V} {u : Value} (I : Inv X pins σ H s) (h : k.src X.K H xs) (r : RelV k.v u) :
    ∃ (t : Tok) (C : Heap → Prop), Iters C u (k.obj t) ∧ C s.heap ∧ (∀ h o, C h → C (h.push o)) ∧ ∀ c, s.heap.objs.size ≤ c → k.ne c := by
  cases k with
  | l a =>
    cases (show u = .ref a from r)
    obtain ⟨its, rv, p, _⟩ := I.list h
    exact ⟨0, fun h => h.IsList a its.toArray, fun prog w A Q E s c q => wpAny_pyIter_list c q, p.isList, fun h o c => c.push _, fun c hc z => by subst z; exact absurd p.lt (Nat.not_lt.mpr hc)⟩
  | t a =>
    cases (show u = .ref a from r)
    obtain ⟨its, rv, p, _⟩ := I.tuple h
    obtain ⟨o1, ho1, _⟩ := id p
    exact ⟨0, fun h => h.IsTuple a its.toArray, fun prog w A Q E s c q => wpAny_pyIter_tuple c q, p, fun h o c => Heap.IsTuple.push c _, fun c hc z => by subst z; exact absurd (Heap.lt_size ho1) (Nat.not_lt.mpr hc)⟩
  | s z =>
    obtain ⟨t, rfl⟩ := r
    exact ⟨t, fun _ => True, fun prog w A Q E s c q => wpAny_pyIter_strU q, trivial, fun _ _ _ => trivial, fun _ _ => trivial⟩
end Sk

/-- pairs of what stands at a and at b at each turn -/
def ItzG (K : PySem.W.Frag) (a b : Sk) : It :=
  ⟨fun i H => ∃ (xs ys : List V), a.src K H xs ∧ b.src K H ys ∧ i < xs.length ∧ i < ys.length,
    fun i H v H' => ∃ T x y, v = .ref T ∧ H T = none ∧ H' = upd H T (.tup [x, y]) ∧ (∀ xs, a.src K H xs → xs[i]? = some x) ∧ ∀ ys, b.src K H ys → ys[i]? = some y,
    fun i H => ∃ xs ys : List V, a.src K H xs ∧ b.src K H ys ∧ (i = xs.length ∨ (i < xs.length ∧ i = ys.length))⟩
structure ZA (z TI TO i1 i2 : Addr) (a b : Sk) : Prop where
  TIz : TI ≠ z
  TOz : TO ≠ z
  i1z : i1 ≠ z
  i2z : i2 ≠ z
  TITO : TI ≠ TO
  TIi1 : TI ≠ i1
  TIi2 : TI ≠ i2
  TOi1 : TO ≠ i1
  TOi2 : TO ≠ i2
  i12 : i1 ≠ i2
  az : a.ne z
  aTO : a.ne TO
  ai1 : a.ne i1
  ai2 : a.ne i2
  bz : b.ne z
  bTO : b.ne TO
  bi1 : b.ne i1
  bi2 : b.ne i2
theorem turn_zipG {P : Program} {w : World} {K : PySem.W.Frag} {elts : List Expr} {kk : Nat} {tpos : Pos} {a b : Sk} {z TI TO i1 i2 : Addr} (D : ZA z TI TO i1 i2 a b) :
    Turn P w K (.Tuple elts kk tpos) (ItzG K a b) [z, TI, TO, i1, i2] z (fun i h => IsZip h z TI TO .none ∧ IsPair h TI (.ref i1) (.ref i2) ∧ (∃ x y, IsPair h TO x y) ∧ a.st i1 i h ∧ b.st i2 i h) where
  mem := by simp
  obj := fun i h st c hc => by
    obtain ⟨hz, hTI, ⟨x, y, hTO⟩, s1, s2⟩ := st
    have e' : c = z ∨ c = TI ∨ c = TO ∨ c = i1 ∨ c = i2 := by simpa using hc
    rcases e' with q | q | q | q | q
    · rw [q]; exact ⟨_, hz, fun v q => nomatch q⟩
    · rw [q]; exact ⟨_, hTI, fun v q => nomatch q⟩
    · rw [q]; exact ⟨_, hTO, fun v q => nomatch q⟩
    · rw [q]; exact Sk.st_obj s1
    · rw [q]; exact Sk.st_obj s2
  keep := fun i h h' st k => by
    obtain ⟨hz, hTI, ⟨x, y, hTO⟩, h1, h2⟩ := st
    exact ⟨k z (by simp) _ hz, k TI (by simp) _ hTI, ⟨x, y, k TO (by simp) _ hTO⟩, Sk.st_at h1 fun o q => k i1 (by simp) o q, Sk.st_at h2 fun o q => k i2 (by simp) o q⟩
  item := by
    intro X hP hw hK hc i pins s σ H E I hf st hg
    subst hP hw hK
    obtain ⟨hz, hTI, ⟨x0, y0, hTO⟩, h1, h2⟩ := st
    obtain ⟨xs, ys, hqx, hqy, hx, hy⟩ := hg
    have hh : X.A.in1.handled = none := I.ok.hd hc
    obtain ⟨f1, P1, S1, D1, c1, p1, k1, n1, m1⟩ := Sk.draws (prog := X.prog) (w := X.w) I hqx h1 D.ai1 hh
    obtain ⟨f2, P2, S2, D2, c2, p2, k2, n2, m2⟩ := Sk.draws (prog := X.prog) (w := X.w) I hqy h2 D.bi2 hh
    have Z : ZApart z TI TO i1 i2 f1 f2 := ⟨D.TIz, D.TOz, D.i1z, D.i2z, D.TITO, D.TIi1, D.TIi2, D.TOi1, D.TOi2, D.i12, n1 z D.i1z.symm D.az, n1 TO D.TOi1 D.aTO, n1 i2 D.i12.symm D.ai2, n2 z D.i2z.symm D.bz, n2 TO D.TOi2 D.bTO, n2 i1 D.i12 D.bi1⟩
    have hzl : z < s.heap.objs.size := Heap.lt_size hz
    refine pyNext_zipD_item Z D1 D2 hz hTI hTO c1 c2 hx hy fun u u2 h' tk pu pu2 z' TO' h1' h2' hT hsz hk => ?_
    obtain ⟨x, hx', ru⟩ := p1 _ _ pu
    obtain ⟨y, hy', ru2⟩ := p2 _ _ pu2
    refine ⟨_, rfl, wpAny_letOwnedTupleGo_zip (s := { s with heap := h', toks := tk }) z' fun h'' z'' sb => ?_⟩
    have hT2 : h''.get? s.heap.objs.size = some { cls := .type "tuple", data := .seq #[u, u2] } := (sb.2 _ (Nat.ne_of_gt hzl)).trans hT
    have new : ObjOk X.prog X.w (upd H s.heap.objs.size (.tup [x, y])) h'' s.heap.objs.size (.tup [x, y]) :=
      ⟨by show 2 ≤ sizeLine; decide, [u, u2], .cons ru (.cons ru2 .nil), ⟨_, hT2, rfl, _, rfl⟩⟩
    have I1 : Inv X pins σ (upd H s.heap.objs.size (.tup [x, y])) { s with heap := h'', toks := tk } :=
      I.turnedNew (t' := tk) (ch := [z, TI, TO, i1, i2]) (fun c o hb q => (sb.2 c (fun q' => hb (by simp [q']))).trans (hk c o (fun q' => hb (by simp [q'])) (fun q' => hb (by simp [q'])) (fun q' => hb (by simp [q'])) (fun q' => hb (by simp [q'])) q)) hf (Nat.le_refl _) new
    refine ⟨.ref s.heap.objs.size, _, I1, rfl, ⟨_, x, y, rfl, I.hok.fresh (Nat.le_refl _), rfl, fun l hl => by rw [Sk.src_inj I hl hqx]; exact hx', fun l hl => by rw [Sk.src_inj I hl hqy]; exact hy'⟩, ⟨z'', ?_, ⟨u, u2, ?_⟩, ?_, ?_⟩, fun c hcm => ?_⟩
    · exact (sb.2 _ D.TIz).trans (hk _ _ D.TIz D.TITO D.TIi1 D.TIi2 hTI)
    · exact (sb.2 _ D.TOz).trans TO'
    · exact Sk.st_at (k1 _ _ h1') fun o q => (sb.2 _ D.i1z).trans q
    · exact Sk.st_at (k2 _ _ h2') fun o q => (sb.2 _ D.i2z).trans q
    · have hlt : c < s.heap.objs.size := by
        have e' : c = z ∨ c = TI ∨ c = TO ∨ c = i1 ∨ c = i2 := by simpa using hcm
        rcases e' with q | q | q | q | q
        · rw [q]; exact hzl
        · rw [q]; exact Heap.lt_size hTI
        · rw [q]; exact Heap.lt_size hTO
        · rw [q]; obtain ⟨_, e1, _⟩ := Sk.st_obj h1; exact Heap.lt_size e1
        · rw [q]; obtain ⟨_, e2, _⟩ := Sk.st_obj h2; exact Heap.lt_size e2
      rw [upd_ne (Nat.ne_of_lt hlt)]
      exact (hf c hcm).1
  done := by
    intro X hP hw hK hc i pins s σ H E I hf st hg
    subst hP hw hK
    obtain ⟨hz, hTI, ⟨x0, y0, hTO⟩, h1, h2⟩ := st
    obtain ⟨xs, ys, hqx, hqy, hend⟩ := hg
    have hh : X.A.in1.handled = none := I.ok.hd hc
    obtain ⟨f1, P1, S1, D1, c1, p1, k1, n1, m1⟩ := Sk.draws (prog := X.prog) (w := X.w) I hqx h1 D.ai1 hh
    obtain ⟨f2, P2, S2, D2, c2, p2, k2, n2, m2⟩ := Sk.draws (prog := X.prog) (w := X.w) I hqy h2 D.bi2 hh
    have Z : ZApart z TI TO i1 i2 f1 f2 := ⟨D.TIz, D.TOz, D.i1z, D.i2z, D.TITO, D.TIi1, D.TIi2, D.TOi1, D.TOi2, D.i12, n1 z D.i1z.symm D.az, n1 TO D.TOi1 D.aTO, n1 i2 D.i12.symm D.ai2, n2 z D.i2z.symm D.bz, n2 TO D.TOi2 D.bTO, n2 i1 D.i12 D.bi1⟩
    exact pyNext_zipD_end Z D1 D2 hz hTI hTO c1 c2 hend fun h' tk hk => ⟨rfl, I.turnedL (t' := tk) (ch := [z, TI, TO, i1, i2]) (fun c o hb q =>
      hk c o (fun q' => hb (by simp [q'])) (fun q' => hb (by simp [q'])) (fun q' => hb (by simp [q'])) (fun q' => hb (by simp [q'])) q) hf⟩
  self := fun A i s Q E st h => wpAny_pyIter_zip st.1 h
theorem pi_zipG {X : Cx} {e e2 : Expr} {ta : TA} {p pos tpos : Pos} {elts : List Expr} {kk : Nat} (hg : Gl X "zip") (hm : X.mg "zip" = none) (ha : PA X [e, e2] ta)
    (hs : starEach [e, e2] X.env = (false, eval e X.env) :: starEach [e2] X.env := by kernel_rfl) (hpl : (backTo pos (starEach [e2] X.env)).any (·.1) = false := by kernel_rfl) :
    PI X (.Tuple elts kk tpos) (.Call (.Name "zip" p) [e, e2] [] pos) (fun σ H R => ta σ H fun vs H1 => ∃ (a b : Sk) (xs ys : List V), vs = [a.v, b.v] ∧ a.src X.K H1 xs ∧ b.src X.K H1 ys ∧ R (ItzG X.K a b) H1) := by
  refine ⟨fun pins s σ H R I h => ?_⟩
  refine Call_ (ld_blt I hg hm PyProof.Rows.boot_zip (PyProof.Rows.callWith_type1 (thn (ha.run pos pins s σ H _ I h) fun us s1 ⟨vs, H1, I1, r1, q1⟩ => ?_) hs hpl))
  obtain ⟨a, b, xs, ys, ex, hqx, hqy, q⟩ := q1
  subst ex
  cases r1 with
  | @cons _ u1 _ _ r rr =>
    cases rr with
    | @cons _ u2 _ _ r' rr =>
      cases rr
      obtain ⟨t1, C1, i1, c1, k1, n1⟩ := Sk.iters I1 hqx r
      obtain ⟨t2, C2, i2, c2, k2, n2⟩ := Sk.iters I1 hqy r'
      have fresh5 : ∀ c, c ∈ [s1.heap.objs.size + 4, s1.heap.objs.size + 2, s1.heap.objs.size + 3, s1.heap.objs.size, s1.heap.objs.size + 1] → s1.heap.objs.size ≤ c := fun c hcm => by
        have e' : c = s1.heap.objs.size + 4 ∨ c = s1.heap.objs.size + 2 ∨ c = s1.heap.objs.size + 3 ∨ c = s1.heap.objs.size ∨ c = s1.heap.objs.size + 1 := by simpa using hcm
        omega
      refine callType_new F.called_zip (by decide) (F.typeCall_zip_2 _ _) (F.newCall_zip_2 _ _) (fun obj => F.args_object_init_3 obj _ _) F.entry_zip_new
        (meets_zipD_new u1 u2 (a.obj t1) (b.obj t2) i1 i2) ⟨c1, k2 _ _ c2, ?_⟩
      have z1 : (s1.heap.push (a.obj t1)).objs.size = s1.heap.objs.size + 1 := Heap.size_push ..
      have z2 : ((s1.heap.push (a.obj t1)).push (b.obj t2)).objs.size = s1.heap.objs.size + 2 := by rw [Heap.size_push, z1]
      have z3 : (zH3 s1.heap (a.obj t1) (b.obj t2)).objs.size = s1.heap.objs.size + 3 := by rw [Heap.size_push, z2]
      have z4 : (zH4 s1.heap (a.obj t1) (b.obj t2)).objs.size = s1.heap.objs.size + 4 := by rw [Heap.size_push, z3]
      have g5 : (zH5 s1.heap (a.obj t1) (b.obj t2)).get? (zH4 s1.heap (a.obj t1) (b.obj t2)).objs.size = some _ := Heap.get?_push_size _ rfl
      have g4 : (zH5 s1.heap (a.obj t1) (b.obj t2)).get? (zH3 s1.heap (a.obj t1) (b.obj t2)).objs.size = some _ := Heap.get?_push_of_some _ (Heap.get?_push_size _ rfl)
      have g3 : (zH5 s1.heap (a.obj t1) (b.obj t2)).get? ((s1.heap.push (a.obj t1)).push (b.obj t2)).objs.size = some _ := Heap.get?_push_of_some _ (Heap.get?_push_of_some _ (Heap.get?_push_size _ rfl))
      have g2 : (zH5 s1.heap (a.obj t1) (b.obj t2)).get? (s1.heap.push (a.obj t1)).objs.size = some _ := Heap.get?_push_of_some _ (Heap.get?_push_of_some _ (Heap.get?_push_of_some _ (Heap.get?_push_size _ Sk.obj_free)))
      have g1 : (zH5 s1.heap (a.obj t1) (b.obj t2)).get? s1.heap.objs.size = some _ := Heap.get?_push_of_some _ (Heap.get?_push_of_some _ (Heap.get?_push_of_some _ (Heap.get?_push_of_some _ (Heap.get?_push_size _ Sk.obj_free))))
      show _ ∧ _
      rw [z2, z3, z4] at g5
      rw [z1, z2] at g3
      rw [z3] at g4
      rw [z1] at g2
      rw [z4]
      have hk : ∀ c o, s1.heap.get? c = some o → (zH5 s1.heap (a.obj t1) (b.obj t2)).get? c = some o := fun c o x => Heap.get?_push_of_some _ (Heap.get?_push_of_some _ (Heap.get?_push_of_some _ (Heap.get?_push_of_some _ (Heap.get?_push_of_some _ x))))
      refine ⟨⟨_, g5, rfl⟩, wpAny_pyIter_zip g5 ?_⟩
      have I2 : Inv X pins σ H1 { s1 with heap := zH5 s1.heap (a.obj t1) (b.obj t2) } := I1.kept (t' := s1.toks) hk
      have Z : ZA (s1.heap.objs.size + 4) (s1.heap.objs.size + 2) (s1.heap.objs.size + 3) s1.heap.objs.size (s1.heap.objs.size + 1) a b := by
        clear g1 g2 g3 g4 g5 z1 z2 z3 z4
        have hd : ∀ i j : Nat, i ≠ j → s1.heap.objs.size + i ≠ s1.heap.objs.size + j := fun i j h z => h (Nat.add_left_cancel z)
        have hd0 : ∀ i : Nat, i ≠ 0 → s1.heap.objs.size ≠ s1.heap.objs.size + i := fun i h z => h (by have := Nat.add_left_cancel (n := s1.heap.objs.size) (m := 0) (k := i) z; exact this.symm)
        exact ⟨hd _ _ (by decide), hd _ _ (by decide), hd0 _ (by decide), hd _ _ (by decide), hd _ _ (by decide), (hd0 _ (by decide)).symm, hd _ _ (by decide), (hd0 _ (by decide)).symm, hd _ _ (by decide), hd0 _ (by decide),
          n1 _ (Nat.le_add_right _ _), n1 _ (Nat.le_add_right _ _), n1 _ (Nat.le_refl _), n1 _ (Nat.le_add_right _ _), n2 _ (Nat.le_add_right _ _), n2 _ (Nat.le_add_right _ _), n2 _ (Nat.le_refl _), n2 _ (Nat.le_add_right _ _)⟩
      refine ⟨s1.heap.objs.size + 4, [s1.heap.objs.size + 4, s1.heap.objs.size + 2, s1.heap.objs.size + 3, s1.heap.objs.size, s1.heap.objs.size + 1], _, _, H1, rfl, I2, turn_zipG Z, ⟨g5, g3, ⟨_, _, g4⟩, Sk.st0 g1, Sk.st0 g2⟩, fun c hcm => I1.fpOk (fresh5 c hcm) (I1.hok.fresh (fresh5 c hcm)), q⟩
end DL

-- DL13
set_option Elab.async false
set_option linter.all false
set_option maxRecDepth 100000
set_option maxHeartbeats 4000000
/-! The data layer: enumerate, walked; zip and enumerate as data. -/
namespace DL
open PySem PySem.Spec PyProof.Rows L2 PyProof

theorem meets_enumerate_newT (l : Addr) (items : Array Value) (n : Nat) (dct : Option Addr) (sl : Array (Option Value)) :
    Meets (Builtin.«enumerate.__new__» ⟨[.type "enumerate", .ref l], []⟩) (fun _ R s => s.heap.get? l = some { cls := .type "tuple", dict := dct, data := .seq items n, slots := sl } ∧
      R (.ok (.ret (.ref (s.heap.push { cls := .type "tuple_iterator", data := .fields #[.ref l, .int 0 0] }).objs.size)))
        { s with heap := (s.heap.push { cls := .type "tuple_iterator", data := .fields #[.ref l, .int 0 0] }).push { cls := .type "enumerate", data := .fields #[.none, .bool false, .ref s.heap.objs.size, rawInt 0, .none, .none] } }) :=
  .of_wp fun prog w A R s h => by
    obtain ⟨hp, g, d, tk, os⟩ := s; obtain ⟨hl, h⟩ := h
    have hsub := sub_enumerate
    have hL : Heap.IsTuple (Shared.heap ⟨hp, g, d, tk, os⟩) l items := ⟨_, hl, rfl, n, rfl⟩
    wp_walk using wpAny_loadPart' hl
    refine wpAny_stack_any fun st => wpAny_pure ?_
    split
    · rename_i c _ _ _ _ _
      cases (c == Value.type "enumerate")
      · wp_walk using wpAny_loadPart' hl, wpAny_pyIter_tuple hL
        exact ⟨_, rfl, h⟩
      · wp_walk using wpAny_loadPart' hl, wpAny_pyIter_tuple hL
        exact ⟨_, rfl, h⟩
    · wp_walk using wpAny_loadPart' hl, wpAny_pyIter_tuple hL
      exact ⟨_, rfl, h⟩
section
variable {prog : Program} {w : World} {A : Around} {E : Value → Shared → Prop} {s : Shared}
theorem call_enumerate_tuple {l : Addr} {items : Array Value} {Q : Value → Shared → Prop} (hL : s.heap.IsTuple l items)
    (h : ∀ h', IsEnum h' (s.heap.objs.size + 1) s.heap.objs.size 0 .none → h'.IsTupleIter s.heap.objs.size l 0 → h'.objs.size = s.heap.objs.size + 2 →
      (∀ b o, s.heap.get? b = some o → h'.get? b = some o) → Q (.ref (s.heap.objs.size + 1)) { s with heap := h' }) :
    wpAny (model prog w) A (call (.type "enumerate") [.ref l]) Q E s := by
  obtain ⟨⟨c, dct, dt, sl⟩, hl, hc, n, hd⟩ := hL
  replace hc : c = .type "tuple" := hc
  replace hd : dt = .seq items n := hd
  subst hc hd
  refine callType_new F.called_enumerate (by decide) (F.typeCall_enumerate_1 _) (F.newCall_enumerate_1 _) (fun obj => F.args_object_init_2 obj _) F.entry_enumerate_new
    (meets_enumerate_newT l items n dct sl) ⟨hl, ?_⟩
  have hz : (s.heap.push { cls := .type "tuple_iterator", data := .fields #[.ref l, .int 0 0] }).objs.size = s.heap.objs.size + 1 := Heap.size_push ..
  show _ ∧ _
  rw [hz]
  have he : IsEnum ((s.heap.push { cls := .type "tuple_iterator", data := .fields #[.ref l, .int 0 0] }).push
      { cls := .type "enumerate", data := .fields #[.none, .bool false, .ref s.heap.objs.size, rawInt 0, .none, .none] }) (s.heap.objs.size + 1) s.heap.objs.size 0 .none := by
    have := Heap.get?_push_size (s.heap.push { cls := .type "tuple_iterator", data := .fields #[.ref l, .int 0 0] })
      (o := { cls := .type "enumerate", data := .fields #[.none, .bool false, .ref s.heap.objs.size, rawInt 0, .none, .none] }) rfl
    rw [hz] at this
    exact this
  refine ⟨⟨_, he, rfl⟩, h _ he ⟨_, Heap.get?_push_of_some _ (Heap.get?_push_size _ rfl), rfl, rfl⟩ (by rw [Heap.size_push, hz]) fun b o x => Heap.get?_push_of_some _ (Heap.get?_push_of_some _ x)⟩
end
def IteG (K : PySem.W.Frag) (a : Sk) : It :=
  ⟨fun i H => ∃ xs : List V, a.src K H xs ∧ i < xs.length,
    fun i H v H' => ∃ T x, v = .ref T ∧ H T = none ∧ H' = upd H T (.tup [.int (i : Nat), x]) ∧ ∀ xs, a.src K H xs → xs[i]? = some x,
    fun i H => ∃ xs : List V, a.src K H xs ∧ i = xs.length⟩
theorem turn_enumG {P : Program} {w : World} {K : PySem.W.Frag} {elts : List Expr} {kk : Nat} {tpos : Pos} {a : Sk} {e it : Addr} (hne : e ≠ it) (ha : a.ne e) (hai : a.ne it) :
    Turn P w K (.Tuple elts kk tpos) (IteG K a) [e, it] e (fun i h => (∃ old, IsEnum h e it ((i : Nat) : Int) old) ∧ a.st it i h) where
  mem := by simp
  obj := fun i h st b hb => by
    obtain ⟨⟨old, he⟩, s1⟩ := st
    have e' : b = e ∨ b = it := by simpa using hb
    rcases e' with z | z
    · rw [z]; exact ⟨_, he, fun v q => nomatch q⟩
    · rw [z]; exact Sk.st_obj s1
  keep := fun i h h' st k => let ⟨⟨old, he⟩, hi⟩ := st; ⟨⟨old, k e (by simp) _ he⟩, Sk.st_at hi fun o q => k it (by simp) o q⟩
  item := by
    intro X hP hw hK hc i pins s σ H E I hf st hg
    subst hP hw hK
    obtain ⟨⟨old, he⟩, hit⟩ := st
    obtain ⟨xs, hq, hx⟩ := hg
    have hh : X.A.in1.handled = none := I.ok.hd hc
    obtain ⟨f1, P1, S1, D1, c1, p1, k1, n1, m1⟩ := Sk.draws (prog := X.prog) (w := X.w) I hq hit hai hh
    have hel : e < s.heap.objs.size := Heap.lt_size he
    have hil : it < s.heap.objs.size := by obtain ⟨_, q, _⟩ := Sk.st_obj hit; exact Heap.lt_size q
    refine wpAny_pyNext_enum_itemD D1 he c1 hx hne (n1 e hne ha) fun u h' tk pu ho hit' hT hsz hk => ?_
    obtain ⟨x, hx', ru⟩ := p1 _ _ pu
    refine ⟨_, rfl, wpAny_letOwnedTupleGo_enum (s := { s with heap := h', toks := tk + 1 }) ho fun h'' he' sb => ?_⟩
    have hT2 : h''.get? s.heap.objs.size = some { cls := .type "tuple", data := .seq #[.int i tk, u] } := (sb.2 _ (Nat.ne_of_gt hel)).trans hT
    have new : ObjOk X.prog X.w (upd H s.heap.objs.size (.tup [.int (i : Nat), x])) h'' s.heap.objs.size (.tup [.int (i : Nat), x]) :=
      ⟨by show 2 ≤ sizeLine; decide, [.int i tk, u], .cons ⟨_, rfl⟩ (.cons ru .nil), ⟨_, hT2, rfl, _, rfl⟩⟩
    have I1 : Inv X pins σ (upd H s.heap.objs.size (.tup [.int (i : Nat), x])) { s with heap := h'', toks := tk + 1 } :=
      I.turnedNew (ch := [e, it]) (fun b ob hb q => (sb.2 b (fun z => hb (by simp [z]))).trans (hk b ob (fun z => hb (by simp [z])) (fun z => hb (by simp [z])) q)) hf (Nat.le_refl _) new
    refine ⟨.ref s.heap.objs.size, _, I1, rfl, ⟨_, x, rfl, I.hok.fresh (Nat.le_refl _), rfl, fun ys hy => by rw [Sk.src_inj I hy hq]; exact hx'⟩, ⟨⟨u, ?_⟩, Sk.st_at (k1 _ _ hit') fun o q => (sb.2 it (Ne.symm hne)).trans q⟩, fun b hb => ?_⟩
    · have e1 : ((i + 1 : Nat) : Int) = (i : Int) + 1 := by omega
      rw [e1]; exact he'
    · have hb' : b < s.heap.objs.size := by
        have e' : b = e ∨ b = it := by simpa using hb
        rcases e' with z | z
        · rw [z]; exact hel
        · rw [z]; exact hil
      rw [upd_ne (Nat.ne_of_lt hb')]
      exact (hf b hb).1
  done := by
    intro X hP hw hK hc i pins s σ H E I hf st hg
    subst hP hw hK
    obtain ⟨⟨old, he⟩, hit⟩ := st
    obtain ⟨xs, hq, rfl⟩ := hg
    have hh : X.A.in1.handled = none := I.ok.hd hc
    obtain ⟨f1, P1, S1, D1, c1, p1, k1, n1, m1⟩ := Sk.draws (prog := X.prog) (w := X.w) I hq hit hai hh
    obtain ⟨f0, f1, f2, f3, f4, f5⟩ := hf it (by simp)
    exact wpAny_pyNext_enum_endD D1 he c1 fun h' eb => ⟨rfl, I.turned (t' := s.toks) (fun b o hb q => eb b o hb q) f0 f1 f3 f4 f5⟩
  self := fun A i s Q E st h => let ⟨⟨_, he⟩, _⟩ := st; wpAny_pyIter_enum he h
theorem pi_enumG {X : Cx} {e : Expr} {ta : TA} {p pos tpos : Pos} {elts : List Expr} {kk : Nat} (hg : Gl X "enumerate") (hm : X.mg "enumerate" = none) (ha : PA X [e] ta) (hs : starEach [e] X.env = [(false, eval e X.env)] := by kernel_rfl) :
    PI X (.Tuple elts kk tpos) (.Call (.Name "enumerate" p) [e] [] pos) (fun σ H R => ta σ H fun vs H1 => ∃ (a : Sk) (xs : List V), vs = [a.v] ∧ a.src X.K H1 xs ∧ R (IteG X.K a) H1) := by
  refine ⟨fun pins s σ H R I h => ?_⟩
  refine Call_ (ld_blt I hg hm boot_enumerate (PyProof.Rows.callWith_type1 (thn (ha.run pos pins s σ H _ I h) fun us s1 ⟨vs, H1, I1, r1, q1⟩ => ?_) hs rfl))
  obtain ⟨a, xs, ex, hq, q⟩ := q1
  subst ex
  cases r1 with
  | @cons _ u _ _ r rr =>
    cases rr
    have fin : ∀ h', IsEnum h' (s1.heap.objs.size + 1) s1.heap.objs.size 0 .none → a.st s1.heap.objs.size 0 h' → (∀ b o, s1.heap.get? b = some o → h'.get? b = some o) → (∀ c, s1.heap.objs.size ≤ c → a.ne c) →
        wpAny (model X.prog X.w) X.A (pyIter (.ref (s1.heap.objs.size + 1))) (PIE X pins σ (.Tuple elts kk tpos) R) X.xe { s1 with heap := h' } := fun h' he hit hk hn => by
      refine wpAny_pyIter_enum he ?_
      have I2 : Inv X pins σ H1 { s1 with heap := h' } := I1.kept (t' := s1.toks) hk
      refine ⟨s1.heap.objs.size + 1, [s1.heap.objs.size + 1, s1.heap.objs.size], _, _, H1, rfl, I2, turn_enumG (Nat.succ_ne_self _) (hn _ (Nat.le_succ _)) (hn _ (Nat.le_refl _)), ⟨⟨.none, he⟩, hit⟩, fun b hb => ?_, q⟩
      have e' : b = s1.heap.objs.size + 1 ∨ b = s1.heap.objs.size := by simpa using hb
      have hle : s1.heap.objs.size ≤ b := by
        rcases e' with z | z
        · rw [z]; exact Nat.le_add_right _ _
        · rw [z]; exact Nat.le_refl _
      exact I1.fpOk hle (I1.hok.fresh hle)
    cases a with
    | l a =>
      cases (show u = .ref a from r)
      obtain ⟨its, rv, p', hz⟩ := I1.list hq
      exact call_enumerate_list p'.isList fun h' he hit hsz hk => fin h' he hit hk fun c hc z => by subst z; exact absurd p'.lt (Nat.not_lt.mpr hc)
    | t a =>
      cases (show u = .ref a from r)
      obtain ⟨its, rv, p', hz⟩ := I1.tuple hq
      obtain ⟨o1, ho1, _⟩ := id p'
      exact call_enumerate_tuple p' fun h' he hit hsz hk => fin h' he hit hk fun c hc z => by subst z; exact absurd (Heap.lt_size ho1) (Nat.not_lt.mpr hc)
    | s z =>
      obtain ⟨t, rfl⟩ := r
      exact call_enumerate_str fun h' he hit hsz hk => fin h' he ⟨t, hit⟩ hk fun _ _ => trivial

/-! ### as data -/
/-- the kind of a looked at value -/
theorem top_sk {K : PySem.W.Frag} {F : Addr → Prop} {H : Hp} {v : V} {d : D} {ds : List D} (h : Top K F H v d) (e : iterD d = some ds) :
    ∃ (k : Sk) (xs : List V), v = k.v ∧ k.src K H xs ∧ Reps K F H xs ds := by
  cases d <;> try (cases e; done)
  · rename_i s
    obtain ⟨e1, o1⟩ := top_str h
    by_cases hl : s.length ≤ sizeLine
    · rw [show iterD (.str s) = some (s.map fun c => D.str [c]) from if_pos hl] at e
      cases e
      refine ⟨.s (SS s), s.map fun c => V.str ⟨#[c]⟩, e1, rfl, ?_⟩
      clear hl h e1
      induction s with
      | nil => exact .nil
      | cons c s ih => exact .cons (.str [c] fun z hz => by rw [List.mem_singleton.mp hz]; exact o1 c List.mem_cons_self) (ih fun z hz => o1 z (List.mem_cons_of_mem _ hz))
    · rw [show iterD (.str s) = none from if_neg hl] at e
      cases e
  · cases e
    obtain ⟨a, vs, e1, h1, r1⟩ := top_tup h
    exact ⟨.t a, vs, e1, h1, r1⟩
  · cases e
    obtain ⟨a, vs, e1, h1, r1⟩ := top_lst h
    exact ⟨.l a, vs, e1, .inl h1, r1⟩
/-- a kind stays as it is while nothing that stood changes -/
def SkGood (md : Md) (K : PySem.W.Frag) (F : Addr → Prop) (H : Hp) (k : Sk) (ds : List D) : Prop := ∃ xs, k.src K H xs ∧ Reps K F H xs ds ∧ (match k with | .l a => (md = .S → F a) ∧ ∃ vs, Rd H a (.lst vs) ∧ Reps K F H vs ds | _ => True)
theorem SkGood.step {K : PySem.W.Frag} {T : Tb} {F F' : Addr → Prop} {H H' : Hp} {md : Md} {k : Sk} {ds : List D} (g : SkGood md K F H k ds) (s : Stp T F H F' H') : SkGood md K F' H' k ds := by
  obtain ⟨xs, h1, h2, h3⟩ := g
  cases k with
  | l a =>
    obtain ⟨hF, vs, h4, h5⟩ := h3
    have h6 := s.rd (noTbl_lst _) h4
    exact ⟨vs, .inl h6, h5.mono s.grow, fun e => s.inc a (hF e), vs, h6, h5.mono s.grow⟩
  | t a => exact ⟨xs, s.grow.sqT h1, h2.mono s.grow, trivial⟩
  | s z => exact ⟨xs, h1, h2.mono s.grow, trivial⟩
theorem SkGood.grow {K : PySem.W.Frag} {F F' : Addr → Prop} {H H' : Hp} {k : Sk} {ds : List D} (g : SkGood .S K F H k ds) (s : Grow F H F' H') : SkGood .S K F' H' k ds := by
  obtain ⟨xs, h1, h2, h3⟩ := g
  cases k with
  | l a =>
    obtain ⟨hF, vs, h4, h5⟩ := h3
    have h6 := s.rdF (hF rfl) (noTbl_lst _) h4
    exact ⟨vs, .inl h6, h5.mono s, fun e => s.inc a (hF e), vs, h6, h5.mono s⟩
  | t a => exact ⟨xs, s.sqT h1, h2.mono s, trivial⟩
  | s z => exact ⟨xs, h1, h2.mono s, trivial⟩
theorem top_good {K : PySem.W.Frag} {F : Addr → Prop} {H H0 : Hp} {md : Md} {v : V} {d : D} {ds : List D} (h : RepM K F H md H0 v d) (hm : md = .S ∨ md = .B) (e : iterD d = some ds) : ∃ k : Sk, v = k.v ∧ SkGood md K F H k ds := by
  cases d <;> try (cases e; done)
  · obtain ⟨k, xs, h1, h2, h3⟩ := top_sk (RepM.toB h) e
    obtain ⟨e1, _⟩ := top_str (RepM.toB h)
    rw [h1] at e1
    cases k with
    | s z => exact ⟨.s z, h1, xs, h2, h3, trivial⟩
    | l a => cases e1
    | t a => cases e1
  · cases e
    obtain ⟨a, vs, e1, h1, r1⟩ := top_tup (RepM.toB h)
    exact ⟨.t a, e1, vs, h1, r1, trivial⟩
  · cases e
    obtain ⟨a, vs, e1, h1, r1⟩ := top_lst (RepM.toB h)
    refine ⟨.l a, e1, vs, .inl h1, r1, fun em => ?_, vs, h1, r1⟩
    subst em
    subst e1
    cases (show Rep K F H (.ref a) (.lst _) from h) with
    | lst hF _ _ => exact hF
/-- pairs -/
def zipL : List D → List D → List D
  | x :: xs, y :: ys => .tup [x, y] :: zipL xs ys
  | _, _ => []
def enumL : Nat → List D → List D
  | _, [] => []
  | i, x :: xs => .tup [.int i, x] :: enumL (i + 1) xs
theorem zipL_len : ∀ (xs ys : List D), (zipL xs ys).length = min xs.length ys.length
  | x :: xs, y :: ys => by simp only [zipL, List.length_cons, zipL_len xs ys]; omega
  | [], ys => by simp [zipL]
  | x :: xs, [] => by simp [zipL]
theorem zipL_get : ∀ (xs ys : List D) (i : Nat) (x y : D), xs[i]? = some x → ys[i]? = some y → (zipL xs ys)[i]? = some (.tup [x, y])
  | x :: xs, y :: ys, 0, _, _, h1, h2 => by simp at h1 h2; subst h1 h2; rfl
  | x :: xs, y :: ys, i + 1, a, b, h1, h2 => by simp only [zipL, List.getElem?_cons_succ] at h1 h2 ⊢; exact zipL_get xs ys i a b h1 h2
  | [], ys, i, _, _, h1, _ => by simp at h1
  | x :: xs, [], i, _, _, _, h2 => by simp at h2
theorem enumL_len : ∀ (k : Nat) (xs : List D), (enumL k xs).length = xs.length
  | _, [] => rfl
  | k, x :: xs => by simp only [enumL, List.length_cons, enumL_len]
theorem enumL_get : ∀ (k : Nat) (xs : List D) (i : Nat) (x : D), xs[i]? = some x → (enumL k xs)[i]? = some (.tup [.int ((k + i : Nat) : Int), x])
  | _, [], i, _, h => by simp at h
  | k, x :: xs, 0, _, h => by simp at h; subst h; rfl
  | k, x :: xs, i + 1, a, h => by
    simp only [enumL, List.getElem?_cons_succ] at h ⊢
    rw [enumL_get (k + 1) xs i a h, show k + 1 + i = k + (i + 1) by omega]
section
variable {X : Cx} {T : Tb} {W : WX} {F F' : Addr → Prop} {σ : Sg} {H H' : Hp} {env : List Sl} {md : Md} {a b : Expr} {ma mb : R D} {na nb : N (R D)} {pos p tpos : Pos} {elts : List Expr} {kk : Nat} {k k2 : Sk} {ds ds2 : List D}
theorem walkD_zip (g1 : SkGood md X.K F H k ds) (g2 : SkGood md X.K F H k2 ds2) : WalkD md X.K T F H (ItzG X.K k k2) (zipL ds ds2) := by
  refine ⟨fun F H => SkGood md X.K F H k ds ∧ SkGood md X.K F H k2 ds2, fun F' H' k1 k2 => ?_, fun i F H hi ⟨q1, q2⟩ => ?_, fun F H ⟨q1, q2⟩ => ?_, fun i F H x H' hi ⟨q1, q2⟩ y => ?_⟩
  · by_cases e : md = .S
    · subst e; exact ⟨g1.grow (k1 rfl), g2.grow (k1 rfl)⟩
    · exact ⟨g1.step (k2 e), g2.step (k2 e)⟩
  · obtain ⟨xs, h1, r1, _⟩ := q1
    obtain ⟨ys, h2, r2, _⟩ := q2
    rw [zipL_len] at hi
    exact ⟨xs, ys, h1, h2, by rw [r1.length]; omega, by rw [r2.length]; omega⟩
  · obtain ⟨xs, h1, r1, _⟩ := q1
    obtain ⟨ys, h2, r2, _⟩ := q2
    refine ⟨xs, ys, h1, h2, ?_⟩
    rw [zipL_len, r1.length, r2.length]
    omega
  · obtain ⟨xs, h1, r1, _⟩ := q1
    obtain ⟨ys, h2, r2, _⟩ := q2
    obtain ⟨Tp, x1, y1, rfl, hT, rfl, e1, e2⟩ := y
    obtain ⟨d1, hd1, rd1⟩ := r1.getV (e1 xs h1)
    obtain ⟨d2, hd2, rd2⟩ := r2.getV (e2 ys h2)
    obtain ⟨s, r⟩ := newT (T := T) hT (.cons rd1 (.cons rd2 .nil))
    exact ⟨_, zipL_get ds ds2 i d1 d2 hd1 hd2, F, s, r⟩
theorem walkD_enum (g1 : SkGood md X.K F H k ds) : WalkD md X.K T F H (IteG X.K k) (enumL 0 ds) := by
  refine ⟨fun F H => SkGood md X.K F H k ds, fun F' H' k1 k2 => ?_, fun i F H hi q1 => ?_, fun F H q1 => ?_, fun i F H x H' hi q1 y => ?_⟩
  · by_cases e : md = .S
    · subst e; exact g1.grow (k1 rfl)
    · exact g1.step (k2 e)
  · obtain ⟨xs, h1, r1, _⟩ := q1
    rw [enumL_len] at hi
    exact ⟨xs, h1, by rw [r1.length]; omega⟩
  · obtain ⟨xs, h1, r1, _⟩ := q1
    exact ⟨xs, h1, by rw [enumL_len, r1.length]⟩
  · obtain ⟨xs, h1, r1, _⟩ := q1
    obtain ⟨Tp, x1, rfl, hT, rfl, e1⟩ := y
    obtain ⟨d1, hd1, rd1⟩ := r1.getV (e1 xs h1)
    obtain ⟨s, r⟩ := newT (T := T) hT (.cons (.int (i : Nat)) (.cons rd1 .nil))
    have := enumL_get 0 ds i d1 hd1
    rw [Nat.zero_add] at this
    exact ⟨_, this, F, s, r⟩
theorem sk_len {K : PySem.W.Frag} (g : SkGood md K F H k ds) : ∃ xs, k.src K H xs ∧ xs.length = ds.length := by
  obtain ⟨xs, h1, r1, _⟩ := g
  exact ⟨xs, h1, r1.length⟩
/-- lists, tuples and texts of a length that a line can have -/
def lined (ds : List D) : Option (List D) := if ds.length ≤ sizeLine then some ds else none
def zipD (x y : D) : Option (List D) := (iterD x).bind fun xs => (iterD y).bind fun ys => lined (zipL xs ys)
def enumD (x : D) : Option (List D) := (iterD x).bind fun xs => lined (enumL 0 xs)
theorem lined_of {ds es : List D} (h : lined ds = some es) : es = ds ∧ ds.length ≤ sizeLine := by
  unfold lined at h
  split at h
  · cases h; exact ⟨rfl, by assumption⟩
  · cases h
theorem RepM.stp {K : PySem.W.Frag} {H0 : Hp} {v : V} {d : D} (s : Stp T F H F' H') (hm : md = .S ∨ md = .B) (h : RepM K F H md H0 v d) : RepM K F' H' md H0 v d :=
  s.mode (fun e => by rcases hm with z | z <;> rw [z] at e <;> cases e) h
theorem in_zip (ha : EN md X T W env a na) {nb : D → N (R D)} (hb : ∀ x, EN md X T W env b (nb x)) (hm : md = .S ∨ md = .B) (hmg : X.mg "zip" = none) (hg : Gl X "zip" := by exact gl_of (by kernel_rfl)) (hs : starEach [a, b] X.env = (false, eval a X.env) :: starEach [b] X.env := by kernel_rfl)
    (hs2 : starEach [b] X.env = (false, eval b X.env) :: starEach [] X.env := by kernel_rfl) (hpl : (backTo pos (starEach [b] X.env)).any (·.1) = false := by kernel_rfl) :
    IN md X T W env (.Tuple elts kk tpos) (.Call (.Name "zip" p) [a, b] [] pos) (N.bind na fun x => N.bind (nb x) fun y => N.l (R.lift (zipD x y))) := fun F σ H Rr I q => by
  refine (pi_zipG (p := p) (pos := pos) hg hmg (pa_cons pe_wp (pa_cons pe_wp pa_nil hs2) hs) hs hpl).wp ?_
  refine nrunEI ha I q fun d F1 v H1 s1 r q1 => ?_
  refine nrunEI (hb d) (I.stp s1) q1 fun d2 F2 v2 H2 s2 r2 q2 => ?_
  replace q2 : PostI md X T W F2 σ H2 (R.lift (zipD d d2)) Rr := q2.l
  unfold zipD at q2
  cases e1 : iterD d with
  | none => rw [e1] at q2; exact q2.elim
  | some xs =>
  cases e2 : iterD d2 with
  | none => rw [e1, e2] at q2; exact q2.elim
  | some ys =>
  rw [e1, e2] at q2
  cases e3 : lined (zipL xs ys) with
  | none => rw [show ((some xs).bind fun xs => (some ys).bind fun ys => lined (zipL xs ys)) = none from e3] at q2; exact q2.elim
  | some zs =>
  rw [show ((some xs).bind fun xs => (some ys).bind fun ys => lined (zipL xs ys)) = some zs from e3] at q2
  obtain ⟨ez, hz⟩ := lined_of e3
  subst ez
  obtain ⟨k, ek, g1⟩ := top_good (RepM.stp s2 hm r) hm e1
  obtain ⟨k2, ek2, g2⟩ := top_good r2 hm e2
  obtain ⟨us, u1, _⟩ := sk_len g1
  obtain ⟨ws, w1, _⟩ := sk_len g2
  exact ⟨k, k2, us, ws, by rw [ek, ek2], u1, w1, q2 F2 H2 _ .refl (walkD_zip g1 g2) hz⟩
theorem in_enum (ha : EN md X T W env a na) (hm : md = .S ∨ md = .B) (hmg : X.mg "enumerate" = none) (hg : Gl X "enumerate" := by exact gl_of (by kernel_rfl)) (hs : starEach [a] X.env = [(false, eval a X.env)] := by kernel_rfl) :
    IN md X T W env (.Tuple elts kk tpos) (.Call (.Name "enumerate" p) [a] [] pos) (N.bind na fun x => N.l (R.lift (enumD x))) := fun F σ H Rr I q => by
  refine (pi_enumG (p := p) (pos := pos) hg hmg (pa_cons pe_wp pa_nil (by rw [hs]; rfl)) hs).wp ?_
  refine nrunEI ha I q fun d F1 v H1 s1 r q1 => ?_
  replace q1 : PostI md X T W F1 σ H1 (R.lift (enumD d)) Rr := q1.l
  unfold enumD at q1
  cases e1 : iterD d with
  | none => rw [e1] at q1; exact q1.elim
  | some xs =>
  rw [e1] at q1
  cases e3 : lined (enumL 0 xs) with
  | none => rw [show ((some xs).bind fun xs => lined (enumL 0 xs)) = none from e3] at q1; exact q1.elim
  | some zs =>
  rw [show ((some xs).bind fun xs => lined (enumL 0 xs)) = some zs from e3] at q1
  obtain ⟨ez, hz⟩ := lined_of e3
  subst ez
  obtain ⟨k, ek, g1⟩ := top_good r hm e1
  obtain ⟨us, u1, _⟩ := sk_len g1
  exact ⟨k, us, by rw [ek], u1, q1 F1 H1 _ .refl (walkD_enum g1) hz⟩
/-! what does not draw -/
theorem postI_n {m : R (List D)} {Q : It → Hp → Prop} {n : N (R (List D))} (h : PostI md X T W F σ H m Q) (hn : n = N.l m) : NPostI X T W F σ H md n Q := ⟨fun r => r = m, fun r e => by rw [e]; exact h, by rw [hn]; rfl⟩
theorem di_of2 {tg iter : Expr} {g : D → D → Option (List D)} (h : IN md X T W env tg iter (N.bind (N.l ma) fun x => N.bind (N.l mb) fun y => N.l (R.lift (g x y)))) : DI md X T W env tg iter (ma.bind fun x => mb.bind fun y => R.lift (g x y)) := fun F σ H Q I q => by
  refine h F σ H Q I ⟨fun r => r = ma.bind fun x => mb.bind fun y => R.lift (g x y), fun r e => by rw [e]; exact q, ?_⟩
  cases ma with
  | ok x =>
    cases mb with
    | ok y => exact rfl
    | ex c => exact rfl
    | st => exact q.elim
  | ex c => exact rfl
  | st => exact q.elim
theorem di_of1 {tg iter : Expr} {g : D → Option (List D)} (h : IN md X T W env tg iter (N.bind (N.l ma) fun x => N.l (R.lift (g x)))) : DI md X T W env tg iter (ma.bind fun x => R.lift (g x)) := fun F σ H Q I q => by
  refine h F σ H Q I ⟨fun r => r = ma.bind fun x => R.lift (g x), fun r e => by rw [e]; exact q, ?_⟩
  cases ma with
  | ok x => exact rfl
  | ex c => exact rfl
  | st => exact q.elim
theorem di_zip (ha : DE md X T W env a ma) (hb : DE md X T W env b mb) (hm : md = .S ∨ md = .B) (hmg : X.mg "zip" = none) (hg : Gl X "zip" := by exact gl_of (by kernel_rfl)) (hs : starEach [a, b] X.env = (false, eval a X.env) :: starEach [b] X.env := by kernel_rfl)
    (hs2 : starEach [b] X.env = (false, eval b X.env) :: starEach [] X.env := by kernel_rfl) (hpl : (backTo pos (starEach [b] X.env)).any (·.1) = false := by kernel_rfl) :
    DI md X T W env (.Tuple elts kk tpos) (.Call (.Name "zip" p) [a, b] [] pos) (ma.bind fun x => mb.bind fun y => R.lift (zipD x y)) := di_of2 (in_zip (en_of ha) (fun _ => en_of hb) hm hmg hg hs hs2 hpl)
theorem di_enum (ha : DE md X T W env a ma) (hm : md = .S ∨ md = .B) (hmg : X.mg "enumerate" = none) (hg : Gl X "enumerate" := by exact gl_of (by kernel_rfl)) (hs : starEach [a] X.env = [(false, eval a X.env)] := by kernel_rfl) :
    DI md X T W env (.Tuple elts kk tpos) (.Call (.Name "enumerate" p) [a] [] pos) (ma.bind fun x => R.lift (enumD x)) := di_of1 (in_enum (en_of ha) hm hmg hg hs)
end
end DL

-- DL14
set_option Elab.async false
set_option linter.all false
set_option maxRecDepth 100000
set_option maxHeartbeats 4000000
/-! The data layer: lambdas handed to defs that try them. -/
namespace DL
open PySem PySem.Spec PyProof.Rows L2 LamX

theorem stp_ext {T : Tb} {F : Addr → Prop} {H H1 : Hp} (e : ExtN H H1) (t : Tabs T H1) : Stp T F H F H1 := by
  have dat : ∀ b, Dat H b → Dat H1 b := fun b ⟨o, h, n⟩ => ⟨o, e b o h n, n⟩
  refine ⟨fun _ h => h, fun _ h => .inl h, fun b o h n => e b o h n.1, dat, fun a h => ?_, fun _ => t, fun hF a h => dat a (hF a h)⟩
  obtain ⟨c, cs, i, l, s, t, h1, h2, h3, h4⟩ := h
  refine ⟨c, cs, i, l, s, t, e _ _ h1 (fun _ z => by cases z), h2, ?_, h4⟩
  rcases h3 with h3 | ⟨ob, h3⟩
  · exact .inl (e _ _ h3 (fun _ z => by cases z))
  · exact .inr ⟨ob, e _ _ h3 (fun _ z => by cases z)⟩
theorem takes_lam {X : Cx} {A : Around} {outer : List Env} {s : Shared} {H : Hp} {E : XK} {scope : Scope} {f c' : Addr} : Takes (lamCx X A outer s H E scope f c') (fun cls d _ H => E cls d H) := takes_of rfl rfl rfl rfl
theorem takes_cx {P : Program} {w : World} {K : PySem.W.Frag} {mg : Str → Option Value} {base : Heap} {N : List Str} {q : Str} {scope : Scope} {f : Addr} {cd : Value} {A : Around} {outer : List Env} {s : Shared} {H : Hp} {E : XK} : Takes (cxOf (L2.CX P w) P w K mg base N q scope f cd A outer s H E) (fun cls d _ H => E cls d H) := takes_of rfl rfl rfl rfl
theorem owns_cx {P : Program} {w : World} {K : PySem.W.Frag} {mg : Str → Option Value} {base : Heap} {N : List Str} {q : Str} {scope : Scope} {f : Addr} {cd : Value} {A : Around} {outer : List Env} {s : Shared} {H : Hp} {E : XK} :
    PassesOwn (model P w) (cxOf (L2.CX P w) P w K mg base N q scope f cd A outer s H E).A (cxOf (L2.CX P w) P w K mg base N q scope f cd A outer s H E).env (cxOf (L2.CX P w) P w K mg base N q scope f cd A outer s H E).xe := passes_of (X := cxOf (L2.CX P w) P w K mg base N q scope f cd A outer s H E) rfl

/-! ### helpers that try a call -/
def wL (K : PySem.W.Frag) : List (Value × V) → Value → Hp → VK → Prop
  | [], _, _, _ => False
  | (C, v) :: r, cls, H, Q => ∃ b, PySem.W.exmOne K cls C = some b ∧ (b = true → Q v H) ∧ (b = false → wL K r cls H Q)
/-- a constant and its value -/
def KonV (k : Const) (v : V) : Prop := ∀ (X : Cx) (j : Nat) (p : Pos), PE X (.Constant k j p) (fun _ H Q => Q v H)
theorem kon_bl {b : Bool} : KonV (.bool b) (.bl b) := fun _ _ _ => pe_bl
theorem kon_non : KonV .none .non := fun _ _ _ => pe_non
theorem kon_str {s : Str} : KonV (.str s) (.str s) := fun _ _ _ => pe_str
/-- except clauses that return constants -/
inductive HdC (X : Cx) (sg : Scope) : List ExceptHandler → List (Value × V) → Prop
  | nil : HdC X sg [] []
  | cons {e : Str} {CS : Addr} {k : Const} {v : V} {j : Nat} {p4 p5 p6 p7 : Pos} {hds : List ExceptHandler} {l : List (Value × V)} (hge : sg.names.lookup e = some .globalImplicit) (hme : X.mg e = some (.ref CS)) (hde : (e == ("__debug__" : Str)) = false) (hk : KonV k v) (r : HdC X sg hds l) :
      HdC X sg (.ExceptHandler (some (.Name e p4)) none [.Return (some (.Constant k j p5)) p6] p7 :: hds) ((.ref CS, v) :: l)
def retTS (l : List (Value × V)) : List (Value × (Addr → Value → Option Addr → TS)) := l.map fun p => (p.1, fun _ _ _ D σ H => D.rt p.2 H)
def TTm (K : PySem.W.Frag) (l : List (Value × V)) (v : V) : (XK → Hp → VK → Prop) → Hp → VK → Prop := fun tl H Q => tl (fun cls _ H' => wL K l cls H' Q) H (fun _ H' => Q v H')
def TTr (K : PySem.W.Frag) (l : List (Value × V)) : (XK → Hp → VK → Prop) → Hp → VK → Prop := fun tl H Q => tl (fun cls _ H' => wL K l cls H' Q) H Q
section
variable {X : Cx}
theorem hdC_ok {Ng : List Str} {x : Str} {sg : Scope} {g : Addr} {cdg : Value} {s : Shared} {H : Hp} {hds : List ExceptHandler} {l : List (Value × V)} (h : HdC X sg hds l) :
    HdsOk ((cxOf C8.CX0 X.prog X.w X.K X.mg X.base Ng x sg g cdg X.A X.stack s H C8.E0).nox) hds (retTS l) := by
  induction h with
  | nil => exact .nil
  | cons hge hme hde hk r ih => exact .cons ⟨hge, hde, .inl hme⟩ (fun a oe cls d pn _ _ => pss_one (ps_ret (hk _ _ _))) ih
theorem wL_many {K : PySem.W.Frag} {D : Ends} {Q : VK} {cls : Value} {d : Option Addr} {σ : Sg} {H : Hp} (hD : D.rt = Q) : ∀ {l : List (Value × V)}, wL K l cls H Q → wMany K (fun _ _ _ _ => False) D (retTS l) cls d σ H
  | [], h => h
  | (C, v) :: r, ⟨b, h1, h2, h3⟩ => ⟨b, h1, fun hb a _ => by show D.rt v H; rw [hD]; exact h2 hb, fun hb => wL_many hD (h3 hb)⟩
theorem many_gives {Ng : List Str} {x a q : Str} {sg : Scope} {g : Addr} {cdg : Value} {h₀ : ExceptHandler} {hds : List ExceptHandler} {l : List (Value × V)} {k : Const} {v : V} {j : Nat} {p1 p2 p3 p8 p9 p10 : Pos} (hh : HdC X sg (h₀ :: hds) l) (hk : KonV k v) (h0 : ∀ f : Addr, (L2.start Ng [V.ref f])[0]? = some (some (V.ref f)))
    (hs : ∀ env : Env, swapsWith (.Call (.Name a p1) [] [] p2) none p3.line env = pure false) :
    GivesTo X Ng x sg g cdg [.Try [.Expr (.Call (.Name a p1) [] [] p2) p3] (h₀ :: hds) [] [] p8, .Return (some (.Constant k j p9)) p10] a q (TTm X.K l v) := by
  intro f c' s H Q tl act hc h
  refine ⟨_, pss_cons (ps_try_many (X := (cxOf C8.CX0 X.prog X.w X.K X.mg X.base Ng x sg g cdg X.A X.stack s H C8.E0).nox) (l := retTS l)
      (tb := fun W D σ H => ∃ Ech : XK, (∀ cls d σ' H', Ech cls d H' → W cls d σ' H') ∧ σ[0]? = some (some (.ref f)) ∧ H c' = some (CodeO c' q) ∧ tl Ech H fun _ H1 => D.nx σ H1)
      rfl rfl takes_none5 (fun W pn xe tk _ => ?_) (hdC_ok hh)) (pss_one (ps_ret (hk _ _ _))), ?_⟩
  · refine ⟨fun pins s' σ H' D I h' => ?_⟩
    obtain ⟨Ech, hW, h1, h2, h3⟩ := h'
    have hp := act W pn xe Ech p1 p2 tk hW
    have hq := pss_one (ps_expr (pos := p3) hp (hs _))
    exact hq.run pins s' σ H' D I ⟨h1, h2, h3⟩
  · exact ⟨fun cls _ H' => wL X.K l cls H' Q, fun cls d σ' H' w => wL_many rfl w, h0 f, hc, h⟩
theorem told_many {Ng : List Str} {x a q : Str} {sg : Scope} {g : Addr} {cdg : Value} {h₀ : ExceptHandler} {hds : List ExceptHandler} {l : List (Value × V)} {p1 p2 p3 p8 : Pos} (hh : HdC X sg (h₀ :: hds) l) (h0 : ∀ f : Addr, (L2.start Ng [V.ref f])[0]? = some (some (V.ref f))) :
    GivesTo X Ng x sg g cdg [.Try [.Return (some (.Call (.Name a p1) [] [] p2)) p3] (h₀ :: hds) [] [] p8] a q (TTr X.K l) := by
  intro f c' s H Q tl act hc h
  refine ⟨_, pss_one (ps_try_many (X := (cxOf C8.CX0 X.prog X.w X.K X.mg X.base Ng x sg g cdg X.A X.stack s H C8.E0).nox) (l := retTS l)
      (tb := fun W D σ H => ∃ Ech : XK, (∀ cls d σ' H', Ech cls d H' → W cls d σ' H') ∧ σ[0]? = some (some (.ref f)) ∧ H c' = some (CodeO c' q) ∧ tl Ech H D.rt)
      rfl rfl takes_none5 (fun W pn xe tk _ => ?_) (hdC_ok hh)), ?_⟩
  · refine ⟨fun pins s' σ H' D I h' => ?_⟩
    obtain ⟨Ech, hW, h1, h2, h3⟩ := h'
    have hp := act W pn xe Ech p1 p2 tk hW
    have hq := pss_one (ps_ret (pos := p3) hp)
    exact hq.run pins s' σ H' D I ⟨h1, h2, h3⟩
  · exact ⟨fun cls _ H' => wL X.K l cls H' Q, fun cls d σ' H' w => wL_many rfl w, h0 f, hc, h⟩
end

/-! ### as data -/
/-- scalars as data and as values -/
def scV : D → Option V
  | .non => some .non
  | .bl b => some (.bl b)
  | .int i => some (.int i)
  | .str s => if okcB s then some (.str (SS s)) else none
  | _ => none
theorem scV_rep {K : PySem.W.Frag} {F : Addr → Prop} {H : Hp} {d : D} {v : V} (h : scV d = some v) : Rep K F H v d := by
  cases d <;> try (cases h; done)
  · cases h; exact .non
  · cases h; exact .bl _
  · cases h; exact .int _
  · rename_i s
    have h' : (if okcB s = true then some (V.str (SS s)) else none) = some v := h
    by_cases ho : okcB s = true
    · rw [if_pos ho] at h'; cases h'; exact .str _ (okc_of ho)
    · rw [if_neg ho] at h'; cases h'
abbrev SubT := Str → Str → Option Bool
/-- the first clause that takes an exception of the class c -/
def handC (sub : SubT) (c : Str) : List (Str × D) → R D
  | [] => .st
  | (h, d) :: r => match sub c h with
    | some true => .ok d
    | some false => handC sub c r
    | none => .st
def tryC (sub : SubT) (m : R D) (hs : List (Str × D)) (k : D → D) : R D := match m with
  | .ok v => .ok (k v)
  | .ex c => handC sub c hs
  | .st => .st
/-- the table of classes tells the truth -/
def SubOk (K : PySem.W.Frag) (mg : Str → Option Value) (sub : SubT) : Prop := ∀ c h b, sub c h = some b → ∀ C Ch, mg c = some (.ref C) → mg h = some (.ref Ch) → PySem.W.exmOne K (.ref C) (.ref Ch) = some b
inductive HsOk (mg : Str → Option Value) : List (Str × D) → List (Value × V) → Prop
  | nil : HsOk mg [] []
  | cons {h : Str} {d : D} {Ch : Addr} {v : V} {hs : List (Str × D)} {l : List (Value × V)} (hm : mg h = some (.ref Ch)) (hv : scV d = some v) (r : HsOk mg hs l) : HsOk mg ((h, d) :: hs) ((.ref Ch, v) :: l)
theorem handC_wL {X : Cx} {T : Tb} {W : WX} {F F' : Addr → Prop} {σ : Sg} {H H' : Hp} {sub : SubT} {c : Str} {C : Addr} {Q : VK} (hsub : SubOk X.K X.mg sub) (hC : X.mg c = some (.ref C)) (s : Stp T F H F' H') :
    ∀ {hs : List (Str × D)} {l : List (Value × V)}, HsOk X.mg hs l → PostE X T W F σ H .S (handC sub c hs) Q → wL X.K l (.ref C) H' Q
  | _, _, .nil, q => q.elim
  | _, _, @HsOk.cons _ h d Ch v hs l hm hv r, q => by
    have q' : PostE X T W F σ H .S (match sub c h with | some true => .ok d | some false => handC sub c hs | none => .st) Q := q
    cases e : sub c h with
    | none => rw [e] at q'; exact q'.elim
    | some b =>
      rw [e] at q'
      refine ⟨b, hsub c h b e C Ch hC hm, fun hb => ?_, fun hb => ?_⟩
      · subst hb
        exact q' F' v H' s (scV_rep hv)
      · subst hb
        exact handC_wL hsub hC s r q'
section
variable {X : Cx} {T : Tb} {W : WX} {env : List Sl} {m : R D}
/-- the shape of a helper: TT, and what it answers -/
def LamHow (X : Cx) (TT : (XK → Hp → VK → Prop) → Hp → VK → Prop) (T : Tb) (ans : R D → R D) : Prop :=
  ∀ (W W' : WX) (F F' : Addr → Prop) (σ : Sg) (H H1 : Hp) (Q : VK) (tl : XK → Hp → VK → Prop) (m : R D), Stp T F H F' H1 → PostE X T W F σ H .S (ans m) Q →
    (∀ (E : XK) (Q' : VK), (match m with
      | .ok d => ∀ F2 v H2, Stp T F' H1 F2 H2 → Rep X.K F2 H2 v d → Q' v H2
      | .ex c => ∀ F2 C dd H2, Stp T F' H1 F2 H2 → X.mg c = some (.ref C) → E (.ref C) dd H2
      | .st => False) → tl E H1 Q') → TT tl H1 Q
theorem how_m {sub : SubT} {hs : List (Str × D)} {l : List (Value × V)} {dv : D} {v : V} (hsub : SubOk X.K X.mg sub) (hl : HsOk X.mg hs l) (hv : scV dv = some v) : LamHow X (TTm X.K l v) T (fun m => tryC sub m hs fun _ => dv) := fun W W' F F' σ H H1 Q tl m s q h => by
  refine h _ _ ?_
  cases m with
  | ok d => exact fun F2 v2 H2 s2 r => q F2 v H2 (s.trans s2) (scV_rep hv)
  | ex c => exact fun F2 C dd H2 s2 hC => handC_wL hsub hC (s.trans s2) hl q
  | st => exact q.elim
theorem how_r {sub : SubT} {hs : List (Str × D)} {l : List (Value × V)} (hsub : SubOk X.K X.mg sub) (hl : HsOk X.mg hs l) : LamHow X (TTr X.K l) T (fun m => tryC sub m hs id) := fun W W' F F' σ H H1 Q tl m s q h => by
  refine h _ _ ?_
  cases m with
  | ok d => exact fun F2 v2 H2 s2 r => q F2 v2 H2 (s.trans s2) r
  | ex c => exact fun F2 C dd H2 s2 hC => handC_wL hsub hC (s.trans s2) hl q
  | st => exact q.elim
/-- a helper def that calls what it gets: its facts -/
structure LamFn (X : Cx) (T : Tb) (x : Str) (ans : R D → R D) : Prop where
  ex : ∃ (g : Addr) (a : Str) (pg : Arguments) (bg : List Stmt) (sg : Scope) (dV kV doc pm cdv ct oc : Value) (an od : Option Addr) (osl : Array (Option Value)) (Ng : List Str) (TT : (XK → Hp → VK → Prop) → Hp → VK → Prop),
    X.mg x = some (.ref g) ∧ PySem.W.keepIn X.K (.ref g) = true ∧ X.K.lookup g = some ⟨oc, od, .func (PySem.W.fnOf x x pg bg sg dV kV doc pm an cdv ct), osl⟩ ∧ PySem.W.codeIn X.K cdv x = true ∧ L2.Binds X.K (PySem.W.fnOf x x pg bg sg dV kV doc pm an cdv ct) [a] [] ∧
    FnScope Ng [a] sg ∧ Ng[0]? = some a ∧ Vis sg a ∧ (a == ("__debug__" : Str)) = false ∧ (a == ("__classdict__" : Str)) = false ∧ GivesTo X Ng x sg g cdv bg a (X.env.qual ++ "<lambda>") TT ∧ LamHow X TT T ans
/-- x(lambda: body) -/
theorem de_lam {x : Str} {ans : R D → R D} {k : Nat} {c P : Addr} {params : Arguments} {body : Expr} {scope : Scope} {p lpos pos : Pos} (L : LamFn X T x ans) (hg : Gl X x)
    (TB : TabB X.base X.mg c P) (hcode : X.env.code = .ref c) (hmT : (P, X.env.qual ++ "<lambda>") ∈ T) (hu : ∀ p ∈ T, p.1 = P → p.2 = X.env.qual ++ "<lambda>") (hr : Room (k + 2) X.A) (Ls : LamS X.env.scope scope) (hdef : defaultsOf params X.env = ([], []))
    (hbind : ∀ (q : Str) (cl : List (Str × Addr)) (pm cv ctv : Value), bindArgs (PySem.W.kla_fn "<lambda>" q params body scope cl pm cv ctv) ⟨[], []⟩ = pure [])
    (hbody : ∀ (A : Around) (outer : List Env) (s : Shared) (H : Hp) (E : XK) (f c' : Addr), Room k (A.deeper (lamEnv X scope s.heap.objs.size f c')) → DE .S (lamCx X A outer s H E scope f c') T (fun cls d _ H => E cls d H) env body m)
    (hdb : (x == ("__debug__" : Str)) = false := by kernel_rfl) :
    DE .S X T W env (.Call (.Name x p) [.Lambda params body scope lpos] [] pos) (ans m) := fun F σ H Q I q => by
  obtain ⟨g, a, pg, bg, sg, dV, kV, doc, pm, cdv, ct, oc, an, od, osl, Ng, TT, h1, h2, h3, h4, h5, h6, h7, h8, h9, h10, h11, h12⟩ := L.ex
  refine (pe_lamcall (p := p) (lpos := lpos) (pos := pos) (t := fun E σ H Q => ∀ (A : Around) (outer : List Env) (s : Shared) (H0 : Hp) (f c' : Addr), Room k (A.deeper (lamEnv X scope s.heap.objs.size f c')) → wpE (lamCx X A outer s H0 E scope f c') body σ H Q)
    hg h1 h2 h3 h4 h5 h6 h7 h8 h11 TB hcode hmT hu hr Ls hdef hbind (fun A outer s H E f c' hr' => ⟨fun pins s' σ' H' Q' Iv h => pe_wp.run pins s' σ' H' Q' Iv (h A outer s H f c' hr')⟩) hdb h9 h10).wp ?_
  refine ⟨I.tabs, fun H1 eN t1 => ?_⟩
  have st : Stp T F H F H1 := stp_ext eN t1
  refine h12 W W F F σ H H1 Q _ m st q fun E Q' hm A outer s H0 f c' hr' => ?_
  refine hbody A outer s H0 E f c' hr' F σ H1 Q' (I.stp st) ?_
  cases m with
  | ok d => exact hm
  | ex c => exact hm
  | st => exact hm
end
end DL

-- DL15
set_option Elab.async false
set_option linter.all false
set_option maxRecDepth 100000
set_option maxHeartbeats 4000000
/-! The data layer: products, membership. -/
namespace DL
open PySem PySem.Spec PyProof.Rows L2

section
variable {X : Cx} {T : Tb} {W : WX} {F F' : Addr → Prop} {σ : Sg} {H H' : Hp} {env : List Sl} {md : Md}
/-- a list, whoever holds it, times an int -/
theorem op_repG : OpR X (binaryOp .Mult) (fun x y H Q => ∃ l k xs, x = .ref l ∧ y = .int k ∧ Rd H l (.lst xs) ∧ -(2 ^ 63) ≤ k ∧ k < 2 ^ 63 ∧ xs.length * k.toNat ≤ sizeLine ∧ ∀ p, H p = none → Q (.ref p) (upd H p (.lst (List.replicate k.toNat xs).flatten))) := by
  intro pins s σ H x y v u Q I rx ry h
  obtain ⟨l, k, xs, rfl, rfl, hH, h1, h2, hz, q⟩ := h
  cases rx
  obtain ⟨t, rfl⟩ := ry
  obtain ⟨z, its, n, r, e⟩ := hH.ok I.hok
  have hl := r.length
  have hlen : its.toArray.size * k.toNat ≤ sizeLine := by rw [List.size_toArray, ← hl]; exact hz
  have hcap : ¬ its.toArray.size * k.toNat > (2 ^ 63 - 1) / 8 := by
    have : (sizeLine : Nat) ≤ (2 ^ 63 - 1) / 8 := by decide
    omega
  have hfit : ¬ (!Builtin.List.listFitsIndex k) = true := by
    rw [fitsIndex_both h1 h2]
    exact Bool.false_ne_true
  have hlong : ¬ Builtin.List.listTooLong (its.toArray.size * k.toNat) = true := by
    rw [notLongL hlen]
    exact Bool.false_ne_true
  have hnew : List.foldl (fun x1 x2 => x1 ++ x2) #[] (List.replicate (if its.toArray.isEmpty = true then 0 else k.toNat) its.toArray) = (List.replicate k.toNat its).flatten.toArray := by
    have f0 : ∀ m : Nat, List.foldl (fun x1 x2 => x1 ++ x2) #[] (List.replicate m its.toArray) = (List.replicate m its).flatten.toArray := fun m => by
      have := foldl_rep its m []
      rw [List.nil_append] at this
      exact this
    rw [f0]
    cases its with
    | nil => simp
    | cons a r' => rw [if_neg (by simp)]
  refine wpAny_binaryOp_repeat_ref (T := "list") (U := "int") (by decide) ⟨_, e, rfl⟩ (fun s' => typeIs_int s' k t) noFill_list_mul F.fills_int_mul F.slot_int_rmul repeat_list F.slot_int_index.lookup
    (call_meets F.slot_int_rmul (typeIs_int s k t) F.entry_int_rmul (F.args_int_rmul_2 _ _) (int___rmul___int_list k t l its.toArray n)
      ⟨e, rfl, ⟨_, e, rfl⟩, call_meets F.slot_list_mul ⟨_, e, rfl⟩ F.entry_list_mul (F.args_list_mul_2 _ _) (AutoListH.list___mul___list_int_3 l its.toArray n k t hfit hcap hlong) ⟨e, ?_⟩⟩)
  rw [hnew]
  exact ⟨.ref _, _, I.lnew (t' := s.toks) (r.rep k.toNat) (by rw [PyProof.Rows.lm_len_rep_flat, Nat.mul_comm]; exact hz), rfl, q _ I.fresh⟩
theorem foldl_arr (c : Array Nat) : ∀ (n : Nat) (acc : List Nat), (List.replicate n c).foldl (· ++ ·) acc.toArray = (acc ++ (List.replicate n c.toList).flatten).toArray
  | 0, acc => by simp
  | n + 1, acc => by
    rw [List.replicate_succ, List.foldl_cons, show acc.toArray ++ c = (acc ++ c.toList).toArray by simp, foldl_arr c n, List.replicate_succ, List.flatten_cons, List.append_assoc]
/-- a text times an int -/
theorem op_strmul : OpR X (binaryOp .Mult) (fun x y H Q => ∃ (s : List Nat) (k : Int), x = .str (SS s) ∧ y = .int k ∧ -(2 ^ 63) ≤ k ∧ k < 2 ^ 63 ∧ s.length * k.toNat ≤ sizeLine ∧ Q (.str (SS (List.replicate k.toNat s).flatten)) H) := by
  intro pins sh σ H x y v u Q I rx ry h
  obtain ⟨s, k, rfl, rfl, h1, h2, hz, q⟩ := h
  obtain ⟨t, rfl⟩ := rx
  obtain ⟨t2, rfl⟩ := ry
  have hsl := sizeLine_eq
  have hr : (decide (k < -(2 ^ 63 : Int)) || decide (k ≥ 2 ^ 63)) = false := by
    rw [decide_eq_false (by omega), decide_eq_false (by omega)]; rfl
  have hlen : (SS s).length = s.length := SS_len s
  refine PySem.P.mul_str hr (fun h3 _ => ?_) (fun h3 _ => ?_) ?_
  · rw [hlen]
    have hk : 0 < k := by omega
    have h4 : (s.length : Int) * k ≤ sizeLine := by
      have : ((s.length * k.toNat : Nat) : Int) ≤ (sizeLine : Nat) := by exact_mod_cast hz
      rw [Int.natCast_mul, Int.toNat_of_nonneg (by omega)] at this
      exact this
    intro h5
    have h6 : (2 ^ 63 - 1) / k * k ≤ 2 ^ 63 - 1 := Int.ediv_mul_le _ (by omega)
    have h7 : (2 ^ 63 - 1 : Int) < ((2 ^ 63 - 1) / k + 1) * k := Int.lt_ediv_add_one_mul_self _ hk
    have h8 : ((2 ^ 63 - 1) / k + 1) * k ≤ (s.length : Int) * k := Int.mul_le_mul_of_nonneg_right (by omega) (by omega)
    have : ((sizeLine : Nat) : Int) < 2 ^ 63 - 1 := by rw [hsl]; decide
    omega
  · rw [hlen]
    exact decide_eq_false (by omega)
  · by_cases h3 : k < 1
    · rw [if_pos h3]
      have e : k.toNat = 0 := by omega
      rw [e] at q
      exact ⟨by decide, .str (SS []), H, I.tok _, ⟨_, rfl⟩, q⟩
    · rw [if_neg h3]
      by_cases h4 : (k == 1 || (SS s).length == 0) = true
      · rw [if_pos h4]
        have e : (List.replicate k.toNat s).flatten = s := by
          rw [Bool.or_eq_true, beq_iff_eq, beq_iff_eq, hlen] at h4
          rcases h4 with h4 | h4
          · rw [h4]; simp
          · have : s = [] := List.length_eq_zero_iff.mp h4
            subst this
            simp
        rw [e] at q
        exact ⟨.str (SS s), H, I, ⟨_, rfl⟩, q⟩
      · rw [if_neg h4]
        have e : (⟨(List.replicate k.toNat (SS s).cps).foldl (· ++ ·) #[]⟩ : Str) = SS (List.replicate k.toNat s).flatten := by
          have := foldl_arr (SS s).cps k.toNat []
          rw [List.nil_append] at this
          show (⟨(List.replicate k.toNat (SS s).cps).foldl (· ++ ·) #[]⟩ : Str) = ⟨_⟩
          rw [this]
          rfl
        rw [e]
        exact ⟨by rw [SS_len]; simp; rw [Nat.mul_comm]; exact hz, .str _, H, I.tok _, ⟨_, rfl⟩, q⟩
def MulOk (i j : Int) : Prop := (-(2 ^ 64) < i ∧ i < 2 ^ 64) ∨ (-(2 ^ 64) < j ∧ j < 2 ^ 64) ∨ (Small i ∧ Small j)
/-- ints, texts, lists times ints -/
noncomputable def mulM (x y : D) : Option D := match x, y with
  | .int i, .int j => if chk (MulOk i j) then some (.int (i * j)) else none
  | .str s, .int k => if -(2 ^ 63) ≤ k ∧ k < 2 ^ 63 ∧ s.length * k.toNat ≤ sizeLine then some (.str (List.replicate k.toNat s).flatten) else none
  | _, _ => none
def repL (x y : D) : Option D := match x, y with
  | .lst xs, .int k => if -(2 ^ 63) ≤ k ∧ k < 2 ^ 63 ∧ xs.length * k.toNat ≤ sizeLine then some (.lst (List.replicate k.toNat xs).flatten) else none
  | _, _ => none
theorem okc_rep {s : List Nat} {n : Nat} (h : Okc s) : Okc (List.replicate n s).flatten := fun c hc => by
  obtain ⟨l, hl, hc⟩ := List.mem_flatten.mp hc
  rw [(List.mem_replicate.mp hl).2] at hc
  exact h c hc
theorem o_mul : OpD .S X T (binaryOp .Mult) mulM := by
  refine opd_of (op_mul.or (op_mulX.or op_strmul)) fun F H vx vy x y Q rx ry q => ?_
  cases x <;> cases y <;> try exact q.elim
  · rename_i i j
    rw [top_int rx, top_int ry]
    by_cases h : MulOk i j
    · rw [show mulM (.int i) (.int j) = some (.int (i * j)) from if_pos (chk_of h)] at q
      rcases h with h | h | h
      · exact .inl ⟨_, _, rfl, rfl, .inl h, q.imm (.int _)⟩
      · exact .inl ⟨_, _, rfl, rfl, .inr h, q.imm (.int _)⟩
      · exact .inr (.inl ⟨_, _, rfl, rfl, mulSmall h, q.imm (.int _)⟩)
    · rw [show mulM (.int i) (.int j) = none from if_neg (fun z => h (chk_true.mp z))] at q
      exact q.elim
  · rename_i s k
    obtain ⟨e1, o1⟩ := top_str rx
    rw [e1, top_int ry]
    by_cases h : -(2 ^ 63) ≤ k ∧ k < 2 ^ 63 ∧ s.length * k.toNat ≤ sizeLine
    · rw [show mulM (.str s) (.int k) = some (.str (List.replicate k.toNat s).flatten) from if_pos h] at q
      exact .inr (.inr ⟨s, k, rfl, rfl, h.1, h.2.1, h.2.2, q.imm (.str _ (okc_rep o1))⟩)
    · rw [show mulM (.str s) (.int k) = none from if_neg h] at q
      exact q.elim
theorem o_rep : OpD .S X T (binaryOp .Mult) repL := by
  refine opd_of op_repG fun F H vx vy x y Q rx ry q => ?_
  cases x <;> cases y <;> try exact q.elim
  rename_i xs k
  obtain ⟨a, vs, e1, h1, r1⟩ := top_lst rx
  rw [e1, top_int ry]
  by_cases h : -(2 ^ 63) ≤ k ∧ k < 2 ^ 63 ∧ xs.length * k.toNat ≤ sizeLine
  · rw [show repL (.lst xs) (.int k) = some (.lst (List.replicate k.toNat xs).flatten) from if_pos h] at q
    refine ⟨a, k, vs, rfl, rfl, h1, h.1, h.2.1, by rw [r1.length]; exact h.2.2, fun p hp => ?_⟩
    obtain ⟨s, r⟩ := newL (T := T) hp (r1.flatRep k.toNat)
    exact q _ _ _ s r
  · rw [show repL (.lst xs) (.int k) = none from if_neg h] at q
    exact q.elim

/-! ### membership -/
def occB (a b : List Nat) : Bool := !(Builtin.Str.occurrences (SS b) (SS a) 0 (SS b).length 1).isEmpty
def inD (x y : D) : Option Bool := match x, y with
  | .str a, .str b => some (match a with | [c] => b.contains c | _ => occB a b)
  | x, .lst ys => if shal 60 x && shal 60 (.lst ys) then some (ys.any fun z => eqv z x) else none
  | x, .tup ys => if scalD x && ys.all scalD then some (ys.any fun z => eqv z x) else none
  | _, _ => none
def notInD (x y : D) : Option Bool := (inD x y).map (!·)
theorem scal_flat {K : PySem.W.Frag} {v : V} {d : D} (r : Rep K F H v d) (h : scalD d = true) : flatV v = true := by
  cases d <;> try (cases h; done)
  all_goals (cases r; rfl)
theorem scal_eqV {K : PySem.W.Frag} {v w : V} {d e : D} (r : Rep K F H v d) (r2 : Rep K F H w e) (h : scalD d = true) (h2 : scalD e = true) : eqV v w = eqv d e := by
  cases d <;> try (cases h; done)
  all_goals (cases e <;> try (cases h2; done))
  all_goals (cases r; cases r2; first | rfl | exact SS_beq _ _)
theorem flat_all {K : PySem.W.Frag} : ∀ {vs : List V} {ds : List D}, Reps K F H vs ds → ds.all scalD = true → vs.all flatV = true
  | _, _, .nil, _ => rfl
  | _, _, .cons r t, h => by
    rw [List.all_cons, Bool.and_eq_true] at h
    rw [List.all_cons, scal_flat r h.1, flat_all t h.2]; rfl
theorem inV_any {K : PySem.W.Frag} {v : V} {d : D} (r : Rep K F H v d) (h : scalD d = true) : ∀ {vs : List V} {ds : List D}, Reps K F H vs ds → ds.all scalD = true → inV v vs = ds.any fun z => eqv z d
  | _, _, .nil, _ => rfl
  | _, _, .cons r1 t, h1 => by
    rw [List.all_cons, Bool.and_eq_true] at h1
    have := inV_any r h t h1.2
    unfold inV at this ⊢
    rw [List.any_cons, List.any_cons, this, scal_eqV r1 r h1.1 h]
theorem any_py (d : D) : ∀ (n : Nat) (ys : List D), shals n ys = true → ((toPys ys).any fun z => PyData.eqv z (toPy d)) = ys.any fun z => eqv z d
  | n, [], _ => rfl
  | n, y :: ys, h => by
    have h' : shal n y = true ∧ shals n ys = true := by simpa [shals] using h
    show (PyData.eqv (toPy y) (toPy d) || _) = _
    rw [eqv_py n y d h'.1, any_py d n ys h'.2]
    rfl
theorem in_str1 {a b : List Nat} {c : Nat} (h : a = [c]) : decide (c ∈ (SS b).cps.toList) = b.contains c := by
  show decide (c ∈ b) = _
  rw [List.contains_eq_mem]
theorem o_in (hu : X.A.units + 65 < cLine) : OpD .S X T (compareOp .In) (fun x y => (inD x y).map D.bl) := by
  refine opd_of (op_in_sign.or (op_in_str.or (op_in_seq.or (op_inD hu)))) fun F H vx vy x y Q rx ry q => ?_
  cases y with
  | str b =>
    cases x <;> try exact q.elim
    rename_i a
    obtain ⟨e1, o1⟩ := top_str rx
    obtain ⟨e2, o2⟩ := top_str ry
    rw [e1, e2]
    match a with
    | [c] =>
      have q : PostV X T F H .S (some (.bl (b.contains c))) Q := q
      refine .inl ⟨c, SS b, rfl, rfl, ?_⟩
      rw [in_str1 rfl]
      exact q.imm (.bl _)
    | [] => exact .inr (.inl ⟨_, _, rfl, rfl, q.imm (.bl _)⟩)
    | _ :: _ :: _ => exact .inr (.inl ⟨_, _, rfl, rfl, q.imm (.bl _)⟩)
  | lst ys =>
    have q : PostV X T F H .S ((if shal 60 x && shal 60 (.lst ys) then some (ys.any fun z => eqv z x) else none).map D.bl) Q := by cases x <;> exact q
    by_cases h : (shal 60 x && shal 60 (.lst ys)) = true
    · rw [if_pos h] at q
      rw [Bool.and_eq_true] at h
      obtain ⟨a1, a2⟩ := top_shaped rx h.1
      obtain ⟨b1, b2⟩ := top_shaped ry h.2
      refine .inr (.inr (.inr ⟨_, _, a1, b1, a2, b2, ?_⟩))
      rw [any_py x 59 ys h.2]
      exact q.imm (.bl _)
    · rw [if_neg h] at q
      exact q.elim
  | tup ys =>
    have q : PostV X T F H .S ((if scalD x && ys.all scalD then some (ys.any fun z => eqv z x) else none).map D.bl) Q := by cases x <;> exact q
    by_cases h : (scalD x && ys.all scalD) = true
    · rw [if_pos h] at q
      rw [Bool.and_eq_true] at h
      obtain ⟨a, vs, e1, h1, r1⟩ := top_tup ry
      have rx' : Rep X.K F H vx x := by
        rcases rx with rx | ⟨p, _, rx⟩
        · exact rx
        · cases x <;> first | exact rx.elim | (cases h.1)
      refine .inr (.inr (.inl ⟨a, vs, e1, .inr h1, scal_flat rx' h.1, flat_all r1 h.2, ?_⟩))
      rw [if_neg Bool.false_ne_true, inV_any rx' h.1 r1 h.2]
      exact q.imm (.bl _)
    · rw [if_neg h] at q
      exact q.elim
  | _ => cases x <;> exact q.elim
theorem o_notin (hu : X.A.units + 65 < cLine) : OpD .S X T (compareOp .NotIn) (fun x y => (notInD x y).map D.bl) := by
  refine opd_of (op_notIn_sign.or (op_notIn_str.or (op_notIn_seq.or (op_notInD hu)))) fun F H vx vy x y Q rx ry q => ?_
  cases y with
  | str b =>
    cases x <;> try exact q.elim
    rename_i a
    obtain ⟨e1, o1⟩ := top_str rx
    obtain ⟨e2, o2⟩ := top_str ry
    rw [e1, e2]
    match a with
    | [c] =>
      have q : PostV X T F H .S (some (.bl (!b.contains c))) Q := q
      refine .inl ⟨c, SS b, rfl, rfl, ?_⟩
      rw [in_str1 rfl]
      exact q.imm (.bl _)
    | [] => exact .inr (.inl ⟨_, _, rfl, rfl, q.imm (.bl _)⟩)
    | _ :: _ :: _ => exact .inr (.inl ⟨_, _, rfl, rfl, q.imm (.bl _)⟩)
  | lst ys =>
    have q : PostV X T F H .S (((if shal 60 x && shal 60 (.lst ys) then some (ys.any fun z => eqv z x) else none).map (!·)).map D.bl) Q := by cases x <;> exact q
    by_cases h : (shal 60 x && shal 60 (.lst ys)) = true
    · rw [if_pos h] at q
      rw [Bool.and_eq_true] at h
      obtain ⟨a1, a2⟩ := top_shaped rx h.1
      obtain ⟨b1, b2⟩ := top_shaped ry h.2
      refine .inr (.inr (.inr ⟨_, _, a1, b1, a2, b2, ?_⟩))
      rw [any_py x 59 ys h.2]
      exact q.imm (.bl _)
    · rw [if_neg h] at q
      exact q.elim
  | tup ys =>
    have q : PostV X T F H .S (((if scalD x && ys.all scalD then some (ys.any fun z => eqv z x) else none).map (!·)).map D.bl) Q := by cases x <;> exact q
    by_cases h : (scalD x && ys.all scalD) = true
    · rw [if_pos h] at q
      rw [Bool.and_eq_true] at h
      obtain ⟨a, vs, e1, h1, r1⟩ := top_tup ry
      have rx' : Rep X.K F H vx x := by
        rcases rx with rx | ⟨p, _, rx⟩
        · exact rx
        · cases x <;> first | exact rx.elim | (cases h.1)
      refine .inr (.inr (.inl ⟨a, vs, e1, .inr h1, scal_flat rx' h.1, flat_all r1 h.2, ?_⟩))
      rw [if_pos rfl, inV_any rx' h.1 r1 h.2]
      exact q.imm (.bl _)
    · rw [if_neg h] at q
      exact q.elim
  | _ => cases x <;> exact q.elim
end
end DL

-- DL16
set_option Elab.async false
set_option linter.all false
set_option maxRecDepth 100000
set_option maxHeartbeats 4000000
/-! The data layer: what the printer of walks asks for. -/
namespace DL
open PySem PySem.Spec PyProof.Rows L2

section
variable {X : Cx} {T : Tb} {W : WX} {F F' : Addr → Prop} {σ : Sg} {H H' : Hp} {env : List Sl} {md : Md} {a b e : Expr} {es : List Expr} {ma mb : R D} {pos : Pos}
theorem de_one {op : BoolOp} (ha : DE md X T W env a ma) : DE md X T W env (.BoolOp op [a] pos) ma := fun F σ H Q I q => (pe_one (pos := pos) pe_wp).wp (ha F σ H Q I q)
theorem de_andV (ha : DE .S X T W env a ma) (hb : DE .S X T W env (.BoolOp .And (b :: es) pos) mb) : DE .S X T W env (.BoolOp .And (a :: b :: es) pos) (ma.bind fun x => (R.lift (truD x)).bind fun k => if k = true then mb else .ok x) := fun F σ H Q I q => by
  refine (pe_andT (pos := pos) pe_wp pe_wp).wp ?_
  refine runEE ha I q fun x F1 vx H1 s1 rx q1 => ?_
  cases e : truD x with
  | none => rw [e] at q1; exact q1.elim
  | some k =>
    rw [e] at q1
    refine ⟨k, tru_rep (.inl rx) e, ?_⟩
    cases k with
    | true => exact hb F1 σ H1 Q (I.stp s1) q1
    | false => exact q1 F1 vx H1 .refl rx
theorem de_orV (ha : DE .S X T W env a ma) (hb : DE .S X T W env (.BoolOp .Or (b :: es) pos) mb) : DE .S X T W env (.BoolOp .Or (a :: b :: es) pos) (ma.bind fun x => (R.lift (truD x)).bind fun k => if k = true then .ok x else mb) := fun F σ H Q I q => by
  refine (pe_orT (pos := pos) pe_wp pe_wp).wp ?_
  refine runEE ha I q fun x F1 vx H1 s1 rx q1 => ?_
  cases e : truD x with
  | none => rw [e] at q1; exact q1.elim
  | some k =>
    rw [e] at q1
    refine ⟨k, tru_rep (.inl rx) e, ?_⟩
    cases k with
    | false => exact hb F1 σ H1 Q (I.stp s1) q1
    | true => exact q1 F1 vx H1 .refl rx
theorem de_notV (ha : DE .B X T W env a ma) : DE .S X T W env (.UnaryOp .Not a pos) (ma.bind fun x => (R.lift (truD x)).bind fun k => .ok (.bl (!k))) := fun F σ H Q I q => by
  refine (pe_notT (pos := pos) pe_wp).wp ?_
  refine runEE ha I q fun x F1 vx H1 s1 rx q1 => ?_
  cases e : truD x with
  | none => rw [e] at q1; exact q1.elim
  | some k =>
    rw [e] at q1
    exact ⟨k, tru_rep rx e, q1 F1 _ H1 .refl (.bl _)⟩
def negD : D → Option D
  | .int i => some (.int (-i))
  | _ => none
theorem de_neg (ha : DE .S X T W env a ma) : DE .S X T W env (.UnaryOp .USub a pos) (ma.bind fun x => R.lift (negD x)) := fun F σ H Q I q => by
  refine (pe_un (pos := pos) un_neg pe_wp).wp ?_
  refine runEE ha I q fun x F1 vx H1 s1 rx q1 => ?_
  cases x <;> try exact q1.elim
  cases rx
  exact ⟨_, rfl, q1 F1 _ H1 .refl (.int _)⟩
end
def lst2 {α : Type} (z : α) (ds : List D) (k : D → D → α) : α := match ds with | [a, b] => k a b | _ => z
@[simp] theorem lst2_two {α : Type} (z : α) (a b : D) (k : D → D → α) : lst2 z [a, b] k = k a b := rfl
/-- a list is wanted -/
def lstK {α : Type} (z : α) (d : D) (k : List D → α) : α := match d with | .lst xs => k xs | _ => z
@[simp] theorem lstK_lst {α : Type} (z : α) (xs : List D) (k : List D → α) : lstK z (.lst xs) k = k xs := rfl
noncomputable def iaddD (x y : D) : Option D := match x, y with
  | .int _, .int _ => addD x y
  | .str _, .str _ => addD x y
  | _, _ => none
section
variable {X : Cx} {T : Tb} {W : WX} {ip : List Nat} {rm : Md} {τ ρ τ' : Type} {inj : τ → List Sl} {injL : ρ → List Sl} {envX env : List Sl} {G : Gh} {F F' : Addr → Prop} {σ : Sg} {H H' : Hp} {ss : List Stmt} {e : Expr} {me : R D} {ne : N (R D)} {md : Md} {pos : Pos}
theorem ip_add : OpD .S X T (inplaceOp .Add) iaddD := ip_addD
theorem dss_parL {i j : Nat} {x y : Str} {a b : Expr} {mas : R (List D)} {px py pt : Pos} {kt k2 : Nat} {pt2 : Pos} {f : D → D → O τ ρ} (ha : DA X T W env [a, b] mas)
    (hr : ∀ c d, DS X T W ip rm inj injL envX ((env.set i (.sh c)).set j (.sh d)) ss (f c d)) (wx : True) (hc : X.calm = true) (hN : X.N.Nodup)
    (hi : X.N[i]? = some x := by kernel_rfl) (hj : X.N[j]? = some y := by kernel_rfl) (hij : i ≠ j := by decide) (hx : X.env.scope.names.lookup x = some .local := by kernel_rfl) (hy : X.env.scope.names.lookup y = some .local := by kernel_rfl) (hip : i ∉ ip := by decide) (hjp : j ∉ ip := by decide)
    (hw : swappedStores [.Tuple [.Name x px, .Name y py] kt pt] (.Tuple [a, b] k2 pt2) X.env = pure (some [x, y]) := by kernel_rfl)
    (hs : swapsWithSole [.Tuple [.Name x px, .Name y py] kt pt] (.Tuple [a, b] k2 pt2) pos.line X.env = pure false := by kernel_rfl) :
    DS X T W ip rm inj injL envX env (.Assign [.Tuple [.Name x px, .Name y py] kt pt] (.Tuple [a, b] k2 pt2) pos :: ss) (O.ofR mas fun ds => lst2 .st ds f) := by
  have e : (fun ds => lst2 (O.st : O τ ρ) ds f) = fun ds => match ds with | [c, d] => f c d | _ => .st := by
    funext ds
    match ds with
    | [] => rfl
    | [_] => rfl
    | [_, _] => rfl
    | _ :: _ :: _ :: _ => rfl
  rw [e]
  exact dss_par ha hr wx hc hN hi hj hij hx hy hip hjp hw hs
theorem sn_parL {i j : Nat} {x y : Str} {a b : Expr} {mas : N (R (List D))} {px py pt : Pos} {kt k2 : Nat} {pt2 : Pos} {f : D → D → N (O τ ρ)} (ha : AN X T W env [a, b] mas)
    (hr : ∀ c d, SN X T W ip rm inj injL envX ((env.set i (.sh c)).set j (.sh d)) ss (f c d)) (wx : True) (hc : X.calm = true) (hN : X.N.Nodup)
    (hi : X.N[i]? = some x := by kernel_rfl) (hj : X.N[j]? = some y := by kernel_rfl) (hij : i ≠ j := by decide) (hx : X.env.scope.names.lookup x = some .local := by kernel_rfl) (hy : X.env.scope.names.lookup y = some .local := by kernel_rfl) (hip : i ∉ ip := by decide) (hjp : j ∉ ip := by decide)
    (hw : swappedStores [.Tuple [.Name x px, .Name y py] kt pt] (.Tuple [a, b] k2 pt2) X.env = pure (some [x, y]) := by kernel_rfl)
    (hs : swapsWithSole [.Tuple [.Name x px, .Name y py] kt pt] (.Tuple [a, b] k2 pt2) pos.line X.env = pure false := by kernel_rfl) :
    SN X T W ip rm inj injL envX env (.Assign [.Tuple [.Name x px, .Name y py] kt pt] (.Tuple [a, b] k2 pt2) pos :: ss) (N.ofR mas fun ds => lst2 (N.l .st) ds f) := by
  have e : (fun ds => lst2 (N.l (O.st : O τ ρ)) ds f) = fun ds => match ds with | [c, d] => f c d | _ => N.l .st := by
    funext ds
    match ds with
    | [] => rfl
    | [_] => rfl
    | [_, _] => rfl
    | _ :: _ :: _ :: _ => rfl
  rw [e]
  exact sn_par ha hr wx hc hN hi hj hij hx hy hip hjp hw hs
/-- what follows a new list of one's own knows its items -/
theorem lstK_ds {i : Nat} {f : List D → O τ ρ} (hr : ∀ xs, DS X T W ip rm inj injL envX (env.set i (.ow (.lst xs))) ss (f xs)) (d : D) : DS X T W ip rm inj injL envX (env.set i (.ow d)) ss (lstK .st d f) := by
  cases d with
  | lst xs => exact hr xs
  | _ => exact fun G F σ H D I h => h.elim
theorem lstK_sn {i : Nat} {f : List D → N (O τ ρ)} (hr : ∀ xs, SN X T W ip rm inj injL envX (env.set i (.ow (.lst xs))) ss (f xs)) (d : D) : SN X T W ip rm inj injL envX (env.set i (.ow d)) ss (lstK (N.l .st) d f) := by
  cases d with
  | lst xs => exact hr xs
  | _ => exact fun G F σ H D I h => h.l.elim
theorem ds_env {e' : List Sl} {m : O τ ρ} (he : env = e') (h : DS X T W ip rm inj injL envX e' ss m) : DS X T W ip rm inj injL envX env ss m := by subst he; exact h
theorem sn_env {e' : List Sl} {m : N (O τ ρ)} (he : env = e') (h : SN X T W ip rm inj injL envX e' ss m) : SN X T W ip rm inj injL envX env ss m := by subst he; exact h
theorem ds_st : DS X T W ip rm inj injL envX env ss .st := fun G F σ H D I h => h.elim
theorem sn_st : SN X T W ip rm inj injL envX env ss (N.l .st) := fun G F σ H D I h => h.l.elim
def injE : Empty → List Sl := fun z => nomatch z
def fE {α : Type} : Empty → α := fun z => nomatch z
/-- if without else whose suite does not go on -/
theorem dss_ifR {c : Expr} {a : List Stmt} {mt : R Bool} {oa : O Empty ρ} {m : O τ ρ} (hc : DT X T W env c mt) (ha : DS X T W ip rm injE injL envX env a oa) (hr : DS X T W ip rm inj injL envX env ss m) (wx : True) :
    DS X T W ip rm inj injL envX env (.If c a [] pos :: ss) (O.ofR mt fun k => if k = true then oa.seq fE else m) := fun G F σ H D I h => by
  refine wpS_cons (ps_if (pos := pos) pt_wp ps_wp ps_wp) ?_
  refine runST hc wx I h fun k F1 H1 s1 I1 q1 => ?_
  cases k with
  | true =>
    refine ha G F1 σ H1 _ I1 ?_
    rw [if_pos rfl] at q1
    cases oa with
    | nx s => exact nomatch s
    | rt d us => exact q1
    | bk s => exact q1
    | ct s => exact q1
    | xc c => exact q1
    | st => exact q1
  | false => exact pss_nil.wp (hr G F1 σ H1 D I1 q1)
theorem sn_ifR {c : Expr} {a : List Stmt} {mt : N (R Bool)} {oa : N (O Empty ρ)} {m : N (O τ ρ)} (hc : TN X T W env c mt) (ha : SN X T W ip rm injE injL envX env a oa) (hr : SN X T W ip rm inj injL envX env ss m) (wx : True) :
    SN X T W ip rm inj injL envX env (.If c a [] pos :: ss) (N.ofR mt fun k => if k = true then N.seq oa fE else m) := fun G F σ H D I h => by
  refine wpS_cons (ps_if (pos := pos) pt_wp ps_wp ps_wp) ?_
  refine nrunST hc wx I h fun k F1 H1 s1 I1 q1 => ?_
  cases k with
  | true =>
    rw [if_pos rfl] at q1
    obtain ⟨P, h1, h2⟩ := q1
    refine ha G F1 σ H1 _ I1 ⟨_, fun o ho => ?_, h2⟩
    cases o with
    | nx s => exact nomatch s
    | rt d us => exact h1 _ ho
    | bk s => exact h1 _ ho
    | ct s => exact h1 _ ho
    | xc c => exact h1 _ ho
    | st => exact ho.elim
  | false => exact pss_nil.wp (hr G F1 σ H1 D I1 q1)
/-- a new list of one's own, or a shared one -/
theorem dss_setF {i : Nat} {f : D → O τ ρ} (h : ∀ d, DS X T W [] rm inj injL envX (env.set i (.sh d)) ss (f d)) (hl : i < env.length) (d : D) : DS X T W [] rm inj injL envX (env.set i (.ow d)) ss (f d) :=
  dss_freeze (i := i) (List.getElem?_set_self hl) (by rw [List.set_set]; exact h d) (by simp) (fun k j z => by simp at z)
theorem sn_setF {i : Nat} {f : D → N (O τ ρ)} (h : ∀ d, SN X T W [] rm inj injL envX (env.set i (.sh d)) ss (f d)) (hl : i < env.length) (d : D) : SN X T W [] rm inj injL envX (env.set i (.ow d)) ss (f d) :=
  sn_freeze (i := i) (List.getElem?_set_self hl) (by rw [List.set_set]; exact h d) (by simp) (fun k j z => by simp at z)
end
mutual
/-- how much there is of data: a bound for loops -/
def szD : D → Nat
  | .non => 1
  | .bl _ => 1
  | .int i => i.natAbs + 1
  | .str s => s.length + 1
  | .tup xs => szDs xs + 1
  | .lst xs => szDs xs + 1
  | .dic _ => 1
  | .ins _ _ => 1
  | .tape => 1
def szDs : List D → Nat
  | [] => 0
  | x :: xs => szD x + szDs xs + 1
end
end DL

-- DL17
set_option Elab.async false
set_option linter.all false
set_option maxRecDepth 100000
set_option maxHeartbeats 4000000
/-! The data layer: odds and ends for the printer. -/
namespace DL
open PySem PySem.Spec PyProof.Rows L2
theorem _root_.L2.Room.uu {k : Nat} {A : Around} (h : Room k A) : A.units + 65 < cLine := by
  have h2 := h.un
  omega
theorem _root_.L2.Room.u1 {k : Nat} {A : Around} (h : Room k A) : A.units + 1 < cLine := by have := h.uu; omega
theorem _root_.L2.Room.u64 {k : Nat} {A : Around} (h : Room k A) : A.units + 64 < cLine := by have := h.uu; omega
theorem _root_.L2.Room.u65 {k : Nat} {A : Around} (h : Room k A) : A.units + 65 < cLine := h.uu
section
variable {X : Cx} {T : Tb} {W : WX} {ip : List Nat} {rm : Md} {τ ρ τ' : Type} {inj : τ → List Sl} {injL : ρ → List Sl} {envX env : List Sl} {G : Gh} {F F' : Addr → Prop} {σ : Sg} {H H' : Hp} {ss : List Stmt} {tg iter elt : Expr} {md : Md} {pos : Pos}
theorem sn_setLcD {i : Nat} {y : Str} {py spos : Pos} {mi : R (List D)} {pt : Pat} {scope : Scope} {ifs : List Expr} (own : List (Str × Nat)) {g : D → R (Option D)} {f : D → N (O τ ρ)} (hi : DI md X T W env tg iter mi) (hg : ∀ q : Blk, GT (blkOf X scope q) tg pt)
    (hb : ∀ d, CB X T scope (pt.bind d (wipeE env (own.map (·.2)))) ifs elt (g d)) (hr : ∀ d, SN X T W ip rm inj injL envX (env.set i (.ow d)) ss (f d)) (wx : True) (hc : X.calm = true) (hN : X.N.Nodup) (ok : BlkOk X.N X.env.scope scope own)
    (hsw : swapsWith (.ListComp elt [⟨tg, iter, ifs, 0⟩] scope pos) (some (.Name y py)) spos.line X.env = pure true) (hy : X.N[i]? = some y := by kernel_rfl) (hyl : X.env.scope.names.lookup y = some .local := by kernel_rfl) (hip : i ∉ ip := by decide) (hix : ∀ i ∈ pt.ixs, i ∈ own.map (·.2) := by decide) (hs : ∀ x, foldedSetIterable iter X.env x = pure x := by intro _; kernel_rfl) :
    SN X T W ip rm inj injL envX env (.Assign [.Name y py] (.ListComp elt [⟨tg, iter, ifs, 0⟩] scope pos) spos :: ss) (N.ofR (N.l (mi.bind fun ds => (compM ds g).bind fun ys => .ok (.lst ys))) f) := fun G F σ H D I ⟨P, hP, h⟩ => by
  refine wpS_cons (L2.ps_setLc (spos := spos) (pos := pos) (py := py) (g := gStar X scope tg) (tt := tStar X scope ifs) (te := eStar X scope elt) hc hN hy hyl hsw pi_wp ok (fun s H C cl fp => ⟨fun pins s' σ H' v u Q I r h => pg_wp.run pins s' σ H' v u Q I r (h (s, H, C, cl, fp))⟩) (fun s H C cl fp => ⟨fun pins s' σ H' Q I h => h (s, H, C, cl, fp) pins s' I⟩) (fun s H C cl fp => ⟨fun pins s' σ H' Q I h => pe_wp.run pins s' σ H' Q I (h (s, H, C, cl, fp))⟩) hs) ?_
  show tLc (wpI X tg iter) (gStar X scope tg) (tStar X scope ifs) (eStar X scope elt) (own.map (·.2)) σ H _
  refine lc_run hi hg hix hb I.er ?_
  revert h
  generalize (mi.bind fun ds => (compM ds g).bind fun ys => R.ok (DL.D.lst ys)) = mm
  cases mm with
  | ex c => exact fun h F' C dd H' s hm => hP _ h F' C dd σ H' (I.stp s).nos hm
  | st => exact fun h => h
  | ok d =>
    intro h F1 v H1 s1 r
    obtain ⟨a, rfl, h0, nf, o⟩ := r
    have I1 := I.stp s1
    refine hr d G F1 _ H1 D (I1.set_ow o nf (fun j hj => ?_) (I.back h0) hip) ⟨P, fun o ho => PostS.grow s1.grow (hP o ho), h⟩
    obtain ⟨d', _, o'⟩ := I.er.own hj
    exact h0 o'.tr
end
end DL

-- DL18
set_option Elab.async false
/-! The data layer: short names for the tactics of side conditions. -/
namespace DL
open PySem PySem.Spec PyProof.Rows L2
end DL

-- K22M
set_option Elab.async false
set_option linter.all false
set_option maxRecDepth 100000
set_option maxHeartbeats 0
namespace K22
open DL PySem PySem.Spec L2

def G_MOST_BITS : D := .int 100000

def G_ONE : D := .tup [.int 1, .int 1]

def G_ZERO : D := .tup [.int 0, .int 1]

/-- which class takes which -/
def subT : SubT := fun c h =>
  if c = ("InvalidBits" : Str) ∧ h = ("InvalidCounts" : Str) then some false else
  if c = ("InvalidCounts" : Str) ∧ h = ("InvalidCounts" : Str) then some true else none

def ans__law_refused (m : R D) : R D := tryC subT m [("InvalidCounts", .bl true)] (fun _ => .bl false)

noncomputable def B__law_tape (a0 : D) : O Unit Unit :=
  O.ofR (((R.ok (a0)).bind fun x16 => R.lift (iterD x16)).bind fun ds => (compM ds (fun d17 => itM (R.ok true) (((R.ok (d17)).bind fun x18 => R.lift (intD x18)).bind fun x19 => R.lift (absD x19)))).bind fun ys => .ok (.lst ys)) fun v1 => O.ofR (R.ok (.int 7)) fun v2 => (O.ofR ((R.ok (v1)).bind fun x5 => R.lift (iterD x5)) fun ds => (forO ds (v2) fun d6 (s4 : D) => O.ofR (((((R.ok (s4)).bind fun x8 => (R.ok (.int 31)).bind fun x9 => R.lift (mulM x8 x9)).bind fun x10 => (R.ok (d6)).bind fun x11 => R.lift (addD x10 x11)).bind fun x12 => R.lift (intD x12)).bind fun x13 => (R.ok (.int 2147483647)).bind fun x14 => R.lift (modD x13 x14)) fun v7 => .nx (v7) : O (D) _)).seq fun s15 => O.ofR (tapeLit (v1) (s15)) fun d => .rt d []

noncomputable def M__law_tape (ds : List D) : R D := match ds with
  | [a0] => (B__law_tape a0).toR
  | _ => .st

noncomputable def B__law_gcd (a0 a1 : D) : O Unit Unit :=
  O.ofR (((R.ok (a0)).bind fun x1 => R.lift (absD x1)).bind fun x5 => (((R.ok (a1)).bind fun x2 => R.lift (absD x2)).bind fun x3 => (R.ok []).bind fun xs4 => .ok (x3 :: xs4)).bind fun xs6 => .ok (x5 :: xs6)) fun ds24 => lst2 .st ds24 fun v7 v8 => (whileO (szDs [v7, v8] + 1000) ((v7), (v8)) (fun (s10 : D × D) => (R.ok (s10.2)).bind fun x11 => (R.ok (.int 0)).bind fun x12 => R.lift (gtD x11 x12)) fun s10 => O.ofR ((R.ok (s10.2)).bind fun x18 => ((((R.ok (s10.1)).bind fun x13 => R.lift (intD x13)).bind fun x14 => (R.ok (s10.2)).bind fun x15 => R.lift (modD x14 x15)).bind fun x16 => (R.ok []).bind fun xs17 => .ok (x16 :: xs17)).bind fun xs19 => .ok (x18 :: xs19)) fun ds22 => lst2 .st ds22 fun v20 v21 => .nx ((v20), (v21)) : O (D × D) _).seq fun s23 => O.ofR (R.ok (s23.1)) fun d => .rt d []

noncomputable def M__law_gcd (ds : List D) : R D := match ds with
  | [a0, a1] => (B__law_gcd a0 a1).toR
  | _ => .st

noncomputable def B__law_ratio (a0 a1 : D) : O Unit Unit :=
  (O.ofR ((R.ok (a1)).bind fun x1 => (R.ok (.int 0)).bind fun x2 => R.lift (ltD x1 x2)) fun k => if k = true then O.ofR (((R.ok (.int 0)).bind fun x3 => (R.ok (a0)).bind fun x4 => R.lift (subD x3 x4)).bind fun x9 => (((R.ok (.int 0)).bind fun x5 => (R.ok (a1)).bind fun x6 => R.lift (subD x5 x6)).bind fun x7 => (R.ok []).bind fun xs8 => .ok (x7 :: xs8)).bind fun xs10 => .ok (x9 :: xs10)) fun ds13 => lst2 .st ds13 fun v11 v12 => .nx ((v12), (v11)) else (.nx ((a1), (a0)) : O (D × D) _)).seq fun s14 => O.ofR (((R.ok (s14.2)).bind fun x27 => ((R.ok (s14.1)).bind fun x25 => (R.ok []).bind fun xs26 => .ok (x25 :: xs26)).bind fun xs28 => .ok (x27 :: xs28)).bind M__law_gcd) fun v15 => O.ofR ((((R.ok (s14.2)).bind fun x16 => (R.ok (v15)).bind fun x17 => R.lift (fdivD x16 x17)).bind fun x22 => (((R.ok (s14.1)).bind fun x18 => (R.ok (v15)).bind fun x19 => R.lift (fdivD x18 x19)).bind fun x20 => (R.ok []).bind fun xs21 => .ok (x20 :: xs21)).bind fun xs23 => .ok (x22 :: xs23)).bind fun xs24 => .ok (.tup xs24)) fun d => .rt d []

noncomputable def M__law_ratio (ds : List D) : R D := match ds with
  | [a0, a1] => (B__law_ratio a0 a1).toR
  | _ => .st

noncomputable def B__law_times (a0 a1 : D) : O Unit Unit :=
  O.ofR (((((R.ok (a0)).bind fun x1 => (R.ok (.int 0)).bind fun x2 => R.lift (idxD x1 x2)).bind fun x5 => ((R.ok (a1)).bind fun x3 => (R.ok (.int 0)).bind fun x4 => R.lift (idxD x3 x4)).bind fun x6 => R.lift (mulM x5 x6)).bind fun x15 => ((((R.ok (a0)).bind fun x7 => (R.ok (.int 1)).bind fun x8 => R.lift (idxD x7 x8)).bind fun x11 => ((R.ok (a1)).bind fun x9 => (R.ok (.int 1)).bind fun x10 => R.lift (idxD x9 x10)).bind fun x12 => R.lift (mulM x11 x12)).bind fun x13 => (R.ok []).bind fun xs14 => .ok (x13 :: xs14)).bind fun xs16 => .ok (x15 :: xs16)).bind M__law_ratio) fun d => .rt d []

noncomputable def M__law_times (ds : List D) : R D := match ds with
  | [a0, a1] => (B__law_times a0 a1).toR
  | _ => .st

noncomputable def B_is_bits (a0 : D) : O Unit Unit :=
  O.ofR ((((R.ok (a0)).bind fun x1 => R.lift (iterD x1)).bind fun ds => (compM ds (fun d2 => itM (R.ok true) ((R.ok (d2)).bind fun x3 => (R.ok (.str [48, 49])).bind fun x4 => R.lift ((inD x3 x4).map D.bl)))).bind fun ys => .ok (.lst ys)).bind fun x5 => R.lift (allD x5)) fun d => .rt d []

noncomputable def M_is_bits (ds : List D) : R D := match ds with
  | [a0] => (B_is_bits a0).toR
  | _ => .st

noncomputable def B_check_bits (a0 : D) : O Unit Unit :=
  O.ofR ((((R.ok (a0)).bind fun x1 => R.lift (lenD x1)).bind fun x2 => (R.ok G_MOST_BITS).bind fun x3 => R.lift (gtD x2 x3)).bind fun k => if k = true then .ok true else ((((R.ok (a0)).bind fun x4 => (R.ok []).bind fun xs5 => .ok (x4 :: xs5)).bind M_is_bits).bind fun x6 => R.lift (truD x6)).bind fun k => .ok (!k)) fun k => if k = true then (.xc "InvalidBits" : O Empty _).seq fE else .nx ()

noncomputable def M_check_bits (ds : List D) : R D := match ds with
  | [a0] => (B_check_bits a0).toR
  | _ => .st

noncomputable def B_less (a0 a1 : D) : O Unit Unit :=
  O.ofR ((((R.ok (a0)).bind fun x1 => (R.ok (.int 0)).bind fun x2 => R.lift (idxD x1 x2)).bind fun x5 => ((R.ok (a1)).bind fun x3 => (R.ok (.int 1)).bind fun x4 => R.lift (idxD x3 x4)).bind fun x6 => R.lift (mulM x5 x6)).bind fun x13 => (((R.ok (a1)).bind fun x7 => (R.ok (.int 0)).bind fun x8 => R.lift (idxD x7 x8)).bind fun x11 => ((R.ok (a0)).bind fun x9 => (R.ok (.int 1)).bind fun x10 => R.lift (idxD x9 x10)).bind fun x12 => R.lift (mulM x11 x12)).bind fun x14 => R.lift ((ltD x13 x14).map D.bl)) fun d => .rt d []

noncomputable def M_less (ds : List D) : R D := match ds with
  | [a0, a1] => (B_less a0 a1).toR
  | _ => .st

noncomputable def B_check_voices (a0 a1 : D) : O Unit Unit :=
  O.ofR ((((R.ok (a0)).bind fun x1 => R.lift (truD x1)).bind fun k => .ok (!k)).bind fun k => if k = true then .ok true else (((((R.ok (a0)).bind fun x2 => R.lift (iterD x2)).bind fun ds => (compM ds (fun d3 => itM (R.ok true) (((R.ok (d3)).bind fun x4 => R.lift (lenD x4)).bind fun x5 => (R.ok (a1)).bind fun x6 => R.lift ((eqD x5 x6).map D.bl)))).bind fun ys => .ok (.lst ys)).bind fun x7 => R.lift (allD x7)).bind fun x8 => R.lift (truD x8)).bind fun k => .ok (!k)) fun k => if k = true then (.xc "InvalidCounts" : O Empty _).seq fE else O.ofR ((((((R.ok (a0)).bind fun x9 => R.lift (iterD x9)).bind fun ds => (compM ds (fun d10 => itM (R.ok true) ((((R.ok (d10)).bind fun x11 => R.lift (iterD x11)).bind fun ds => (compM ds (fun d12 => itM (R.ok true) ((((R.ok G_ZERO).bind fun x15 => ((R.ok (d12)).bind fun x13 => (R.ok []).bind fun xs14 => .ok (x13 :: xs14)).bind fun xs16 => .ok (x15 :: xs16)).bind M_less).bind fun x21 => (R.lift (truD x21)).bind fun k => if k = true then ((R.ok (d12)).bind fun x19 => ((R.ok G_ONE).bind fun x17 => (R.ok []).bind fun xs18 => .ok (x17 :: xs18)).bind fun xs20 => .ok (x19 :: xs20)).bind M_less else .ok x21))).bind fun ys => .ok (.lst ys)).bind fun x22 => R.lift (allD x22)))).bind fun ys => .ok (.lst ys)).bind fun x23 => R.lift (allD x23)).bind fun x24 => R.lift (truD x24)).bind fun k => .ok (!k)) fun k => if k = true then (.xc "InvalidCounts" : O Empty _).seq fE else .nx ()

noncomputable def M_check_voices (ds : List D) : R D := match ds with
  | [a0, a1] => (B_check_voices a0 a1).toR
  | _ => .st

noncomputable def B_share (a0 a1 : D) : O Unit Unit :=
  O.ofR ((R.ok (a1)).bind fun x1 => (R.ok (.int 0)).bind fun x2 => R.lift (eqD x1 x2)) fun k => if k = true then (.xc "InvalidCounts" : O Empty _).seq fE else (O.ofR ((R.ok (a1)).bind fun x3 => (R.ok (.int 0)).bind fun x4 => R.lift (ltD x3 x4)) fun k => if k = true then O.ofR (((R.ok (a0)).bind fun x5 => R.lift (negD x5)).bind fun x9 => (((R.ok (a1)).bind fun x6 => R.lift (negD x6)).bind fun x7 => (R.ok []).bind fun xs8 => .ok (x7 :: xs8)).bind fun xs10 => .ok (x9 :: xs10)) fun ds13 => lst2 .st ds13 fun v11 v12 => .nx ((v12), (v11)) else (.nx ((a1), (a0)) : O (D × D) _)).seq fun s14 => O.ofR (((R.ok (s14.2)).bind fun x15 => R.lift (absD x15)).bind fun x18 => ((R.ok (s14.1)).bind fun x16 => (R.ok []).bind fun xs17 => .ok (x16 :: xs17)).bind fun xs19 => .ok (x18 :: xs19)) fun ds45 => lst2 .st ds45 fun v20 v21 => (whileO (szDs [s14.2, s14.1, v20, v21] + 1000) ((v20), (v21)) (fun (s23 : D × D) => (R.ok (s23.2)).bind fun x24 => (R.ok (.int 0)).bind fun x25 => R.lift (gtD x24 x25)) fun s23 => O.ofR ((R.ok (s23.2)).bind fun x30 => (((R.ok (s23.1)).bind fun x26 => (R.ok (s23.2)).bind fun x27 => R.lift (modD x26 x27)).bind fun x28 => (R.ok []).bind fun xs29 => .ok (x28 :: xs29)).bind fun xs31 => .ok (x30 :: xs31)) fun ds34 => lst2 .st ds34 fun v32 v33 => .nx ((v32), (v33)) : O (D × D) _).seq fun s35 => O.ofR ((((R.ok (s14.2)).bind fun x36 => (R.ok (s35.1)).bind fun x37 => R.lift (fdivD x36 x37)).bind fun x42 => (((R.ok (s14.1)).bind fun x38 => (R.ok (s35.1)).bind fun x39 => R.lift (fdivD x38 x39)).bind fun x40 => (R.ok []).bind fun xs41 => .ok (x40 :: xs41)).bind fun xs43 => .ok (x42 :: xs43)).bind fun xs44 => .ok (.tup xs44)) fun d => .rt d []

noncomputable def M_share (ds : List D) : R D := match ds with
  | [a0, a1] => (B_share a0 a1).toR
  | _ => .st

noncomputable def B_plus (a0 a1 : D) : O Unit Unit :=
  O.ofR ((((((R.ok (a0)).bind fun x1 => (R.ok (.int 0)).bind fun x2 => R.lift (idxD x1 x2)).bind fun x5 => ((R.ok (a1)).bind fun x3 => (R.ok (.int 1)).bind fun x4 => R.lift (idxD x3 x4)).bind fun x6 => R.lift (mulM x5 x6)).bind fun x13 => (((R.ok (a1)).bind fun x7 => (R.ok (.int 0)).bind fun x8 => R.lift (idxD x7 x8)).bind fun x11 => ((R.ok (a0)).bind fun x9 => (R.ok (.int 1)).bind fun x10 => R.lift (idxD x9 x10)).bind fun x12 => R.lift (mulM x11 x12)).bind fun x14 => R.lift (addD x13 x14)).bind fun x23 => ((((R.ok (a0)).bind fun x15 => (R.ok (.int 1)).bind fun x16 => R.lift (idxD x15 x16)).bind fun x19 => ((R.ok (a1)).bind fun x17 => (R.ok (.int 1)).bind fun x18 => R.lift (idxD x17 x18)).bind fun x20 => R.lift (mulM x19 x20)).bind fun x21 => (R.ok []).bind fun xs22 => .ok (x21 :: xs22)).bind fun xs24 => .ok (x23 :: xs24)).bind M_share) fun d => .rt d []

noncomputable def M_plus (ds : List D) : R D := match ds with
  | [a0, a1] => (B_plus a0 a1).toR
  | _ => .st

noncomputable def B_sum_of (a0 : D) : O Unit Unit :=
  O.ofR (R.ok G_ZERO) fun v1 => (O.ofR ((R.ok (a0)).bind fun x4 => R.lift (iterD x4)) fun ds => (forO ds (v1) fun d5 (s3 : D) => O.ofR (((R.ok (s3)).bind fun x9 => ((R.ok (d5)).bind fun x7 => (R.ok []).bind fun xs8 => .ok (x7 :: xs8)).bind fun xs10 => .ok (x9 :: xs10)).bind M_plus) fun v6 => .nx (v6) : O (D) _)).seq fun s11 => O.ofR (R.ok (s11)) fun d => .rt d []

noncomputable def M_sum_of (ds : List D) : R D := match ds with
  | [a0] => (B_sum_of a0).toR
  | _ => .st

noncomputable def B_times (a0 a1 : D) : O Unit Unit :=
  O.ofR (((((R.ok (a0)).bind fun x1 => (R.ok (.int 0)).bind fun x2 => R.lift (idxD x1 x2)).bind fun x5 => ((R.ok (a1)).bind fun x3 => (R.ok (.int 0)).bind fun x4 => R.lift (idxD x3 x4)).bind fun x6 => R.lift (mulM x5 x6)).bind fun x15 => ((((R.ok (a0)).bind fun x7 => (R.ok (.int 1)).bind fun x8 => R.lift (idxD x7 x8)).bind fun x11 => ((R.ok (a1)).bind fun x9 => (R.ok (.int 1)).bind fun x10 => R.lift (idxD x9 x10)).bind fun x12 => R.lift (mulM x11 x12)).bind fun x13 => (R.ok []).bind fun xs14 => .ok (x13 :: xs14)).bind fun xs16 => .ok (x15 :: xs16)).bind M_share) fun d => .rt d []

noncomputable def M_times (ds : List D) : R D := match ds with
  | [a0, a1] => (B_times a0 a1).toR
  | _ => .st

noncomputable def B_heard (a0 a1 a2 a3 : D) : O Unit Unit :=
  O.ofR (((R.ok (a1)).bind fun x11 => R.lift (iterD x11)).bind fun ds => (compM ds (fun d12 => itM (R.ok true) (((R.ok (a3)).bind fun x13 => (R.ok (.str [49])).bind fun x14 => R.lift (eqD x13 x14)).bind fun k => if k = true then (R.ok (d12)).bind fun x15 => (R.ok (a2)).bind fun x16 => R.lift (idxD x15 x16) else (((((R.ok (d12)).bind fun x17 => (R.ok (a2)).bind fun x18 => R.lift (idxD x17 x18)).bind fun x19 => (R.ok (.int 1)).bind fun x20 => R.lift (idxD x19 x20)).bind fun x25 => (((R.ok (d12)).bind fun x21 => (R.ok (a2)).bind fun x22 => R.lift (idxD x21 x22)).bind fun x23 => (R.ok (.int 0)).bind fun x24 => R.lift (idxD x23 x24)).bind fun x26 => R.lift (subD x25 x26)).bind fun x33 => ((((R.ok (d12)).bind fun x27 => (R.ok (a2)).bind fun x28 => R.lift (idxD x27 x28)).bind fun x29 => (R.ok (.int 1)).bind fun x30 => R.lift (idxD x29 x30)).bind fun x31 => (R.ok []).bind fun xs32 => .ok (x31 :: xs32)).bind fun xs34 => .ok (x33 :: xs34)).bind fun xs35 => .ok (.tup xs35)))).bind fun ys => .ok (.lst ys)) fun v1 => O.ofR (((R.ok (a0)).bind fun x2 => (R.ok (v1)).bind fun x3 => R.lift (zipD x2 x3)).bind fun ds => (compM ds (fun d4 => tup2 .st d4 fun p5 p6 => itM (R.ok true) (((R.ok (p5)).bind fun x9 => ((R.ok (p6)).bind fun x7 => (R.ok []).bind fun xs8 => .ok (x7 :: xs8)).bind fun xs10 => .ok (x9 :: xs10)).bind M_times))).bind fun ys => .ok (.lst ys)) fun d => .rt d []

noncomputable def M_heard (ds : List D) : R D := match ds with
  | [a0, a1, a2, a3] => (B_heard a0 a1 a2 a3).toR
  | _ => .st

noncomputable def B_over (a0 a1 : D) : O Unit Unit :=
  O.ofR (((((R.ok (a0)).bind fun x1 => (R.ok (.int 0)).bind fun x2 => R.lift (idxD x1 x2)).bind fun x5 => ((R.ok (a1)).bind fun x3 => (R.ok (.int 1)).bind fun x4 => R.lift (idxD x3 x4)).bind fun x6 => R.lift (mulM x5 x6)).bind fun x15 => ((((R.ok (a0)).bind fun x7 => (R.ok (.int 1)).bind fun x8 => R.lift (idxD x7 x8)).bind fun x11 => ((R.ok (a1)).bind fun x9 => (R.ok (.int 0)).bind fun x10 => R.lift (idxD x9 x10)).bind fun x12 => R.lift (mulM x11 x12)).bind fun x13 => (R.ok []).bind fun xs14 => .ok (x13 :: xs14)).bind fun xs16 => .ok (x15 :: xs16)).bind M_share) fun d => .rt d []

noncomputable def M_over (ds : List D) : R D := match ds with
  | [a0, a1] => (B_over a0 a1).toR
  | _ => .st

noncomputable def B_said_next (a0 a1 : D) : O Unit Unit :=
  O.ofR (((R.ok (a1)).bind fun x1 => (R.ok []).bind fun xs2 => .ok (x1 :: xs2)).bind M_check_bits) fun _ => O.ofR (((R.ok (a0)).bind fun x6 => (((R.ok (a1)).bind fun x3 => R.lift (lenD x3)).bind fun x4 => (R.ok []).bind fun xs5 => .ok (x4 :: xs5)).bind fun xs7 => .ok (x6 :: xs7)).bind M_check_voices) fun _ => O.ofR ((((((R.ok (.int 1)).bind fun x53 => (((R.ok (a0)).bind fun x50 => R.lift (lenD x50)).bind fun x51 => (R.ok []).bind fun xs52 => .ok (x51 :: xs52)).bind fun xs54 => .ok (x53 :: xs54)).bind M_share).bind fun x55 => (R.ok []).bind fun xs56 => .ok (x55 :: xs56)).bind fun xs57 => .ok (.lst xs57)).bind fun x59 => ((R.ok (a0)).bind fun x58 => R.lift (lenD x58)).bind fun x60 => R.lift (repL x59 x60)) fun v8 => O.ofR ((R.ok []).bind fun xs49 => .ok (.lst xs49)) fun d48 => lstK .st d48 fun v9 => (O.ofR ((R.ok (a1)).bind fun x12 => R.lift (enumD x12)) fun ds => (forO ds ((v9), (v8)) fun d13 (s11 : List D × D) => tup2 .st d13 fun p14 p15 => O.ofR (((((R.ok (s11.2)).bind fun x33 => (R.ok (a0)).bind fun x34 => R.lift (zipD x33 x34)).bind fun ds => (compM ds (fun d35 => tup2 .st d35 fun p36 p37 => itM (R.ok true) (((R.ok (p36)).bind fun x42 => (((R.ok (p37)).bind fun x38 => (R.ok (p14)).bind fun x39 => R.lift (idxD x38 x39)).bind fun x40 => (R.ok []).bind fun xs41 => .ok (x40 :: xs41)).bind fun xs43 => .ok (x42 :: xs43)).bind M_times))).bind fun ys => .ok (.lst ys)).bind fun x44 => (R.ok []).bind fun xs45 => .ok (x44 :: xs45)).bind M_sum_of) fun v16 => O.ofR (((R.ok (v16)).bind fun x21 => ((((R.ok (s11.2)).bind fun x17 => (R.ok []).bind fun xs18 => .ok (x17 :: xs18)).bind M_sum_of).bind fun x19 => (R.ok []).bind fun xs20 => .ok (x19 :: xs20)).bind fun xs22 => .ok (x21 :: xs22)).bind M_over) fun v23 => if (s11.1).length < sizeLine then O.ofR (((R.ok (s11.2)).bind fun x31 => ((R.ok (a0)).bind fun x29 => ((R.ok (p14)).bind fun x27 => ((R.ok (p15)).bind fun x25 => (R.ok []).bind fun xs26 => .ok (x25 :: xs26)).bind fun xs28 => .ok (x27 :: xs28)).bind fun xs30 => .ok (x29 :: xs30)).bind fun xs32 => .ok (x31 :: xs32)).bind M_heard) fun v24 => .nx ((s11.1 ++ [v23]), (v24)) else .st : O (List D × D) _)).seq fun s46 => O.ofR ((R.ok (.lst (s46.1))).bind fun x47 => R.lift (tupD x47)) fun d => .rt d []

noncomputable def M_said_next (ds : List D) : R D := match ds with
  | [a0, a1] => (B_said_next a0 a1).toR
  | _ => .st

noncomputable def B_voice_share (a0 a1 : D) : O Unit Unit :=
  O.ofR (R.ok G_ONE) fun v1 => (O.ofR ((R.ok (a0)).bind fun x4 => (R.ok (a1)).bind fun x5 => R.lift (zipD x4 x5)) fun ds => (forO ds (v1) fun d6 (s3 : D) => tup2 .st d6 fun p7 p8 => O.ofR (((R.ok (s3)).bind fun x27 => ((((R.ok (p8)).bind fun x10 => (R.ok (.str [49])).bind fun x11 => R.lift (eqD x10 x11)).bind fun k => if k = true then R.ok (p7) else ((((R.ok (p7)).bind fun x12 => (R.ok (.int 1)).bind fun x13 => R.lift (idxD x12 x13)).bind fun x16 => ((R.ok (p7)).bind fun x14 => (R.ok (.int 0)).bind fun x15 => R.lift (idxD x14 x15)).bind fun x17 => R.lift (subD x16 x17)).bind fun x22 => (((R.ok (p7)).bind fun x18 => (R.ok (.int 1)).bind fun x19 => R.lift (idxD x18 x19)).bind fun x20 => (R.ok []).bind fun xs21 => .ok (x20 :: xs21)).bind fun xs23 => .ok (x22 :: xs23)).bind fun xs24 => .ok (.tup xs24)).bind fun x25 => (R.ok []).bind fun xs26 => .ok (x25 :: xs26)).bind fun xs28 => .ok (x27 :: xs28)).bind M_times) fun v9 => .nx (v9) : O (D) _)).seq fun s29 => O.ofR (R.ok (s29)) fun d => .rt d []

noncomputable def M_voice_share (ds : List D) : R D := match ds with
  | [a0, a1] => (B_voice_share a0 a1).toR
  | _ => .st

noncomputable def B_bits_for (a0 : D) : O Unit Unit :=
  O.ofR ((((R.ok (a0)).bind fun x1 => (R.ok (.int 0)).bind fun x2 => R.lift (idxD x1 x2)).bind fun x3 => (R.ok (.int 0)).bind fun x4 => R.lift (leD x3 x4)).bind fun k => if k = true then .ok true else (((R.ok G_ONE).bind fun x7 => ((R.ok (a0)).bind fun x5 => (R.ok []).bind fun xs6 => .ok (x5 :: xs6)).bind fun xs8 => .ok (x7 :: xs8)).bind M_less).bind fun x9 => R.lift (truD x9)) fun k => if k = true then (.xc "InvalidCounts" : O Empty _).seq fE else O.ofR (R.ok (.int 0)) fun v10 => (whileO (szDs [a0, v10] + 1000) (v10) (fun (s12 : D) => (((R.ok (a0)).bind fun x13 => (R.ok (.int 0)).bind fun x14 => R.lift (idxD x13 x14)).bind fun x15 => (R.ok (s12)).bind fun x16 => R.lift (shlD x15 x16)).bind fun x19 => ((R.ok (a0)).bind fun x17 => (R.ok (.int 1)).bind fun x18 => R.lift (idxD x17 x18)).bind fun x20 => R.lift (ltD x19 x20)) fun s12 => O.ofR ((R.ok (.int 1)).bind fun x22 => R.lift (iaddD (s12) x22)) fun v21 => .nx (v21) : O (D) _).seq fun s23 => O.ofR (R.ok (s23)) fun d => .rt d []

noncomputable def M_bits_for (ds : List D) : R D := match ds with
  | [a0] => (B_bits_for a0).toR
  | _ => .st

noncomputable def B_mixed_share (a0 a1 : D) : O Unit Unit :=
  O.ofR (((R.ok (a1)).bind fun x1 => (R.ok []).bind fun xs2 => .ok (x1 :: xs2)).bind M_check_bits) fun _ => O.ofR (((R.ok (a0)).bind fun x6 => (((R.ok (a1)).bind fun x3 => R.lift (lenD x3)).bind fun x4 => (R.ok []).bind fun xs5 => .ok (x4 :: xs5)).bind fun xs7 => .ok (x6 :: xs7)).bind M_check_voices) fun _ => O.ofR (((((R.ok (.int 1)).bind fun x11 => (((R.ok (a0)).bind fun x8 => R.lift (lenD x8)).bind fun x9 => (R.ok []).bind fun xs10 => .ok (x9 :: xs10)).bind fun xs12 => .ok (x11 :: xs12)).bind M_share).bind fun x23 => ((((((R.ok (a0)).bind fun x13 => R.lift (iterD x13)).bind fun ds => (compM ds (fun d14 => itM (R.ok true) (((R.ok (d14)).bind fun x17 => ((R.ok (a1)).bind fun x15 => (R.ok []).bind fun xs16 => .ok (x15 :: xs16)).bind fun xs18 => .ok (x17 :: xs18)).bind M_voice_share))).bind fun ys => .ok (.lst ys)).bind fun x19 => (R.ok []).bind fun xs20 => .ok (x19 :: xs20)).bind M_sum_of).bind fun x21 => (R.ok []).bind fun xs22 => .ok (x21 :: xs22)).bind fun xs24 => .ok (x23 :: xs24)).bind M_times) fun d => .rt d []

noncomputable def M_mixed_share (ds : List D) : R D := match ds with
  | [a0, a1] => (B_mixed_share a0 a1).toR
  | _ => .st

noncomputable def B_most_lost (a0 a1 : D) : O Unit Unit :=
  O.ofR (((R.ok (a0)).bind fun x4 => (((R.ok (a1)).bind fun x1 => R.lift (lenD x1)).bind fun x2 => (R.ok []).bind fun xs3 => .ok (x2 :: xs3)).bind fun xs5 => .ok (x4 :: xs5)).bind M_check_voices) fun _ => O.ofR ((((R.ok (a0)).bind fun x45 => (R.ok (.int 0)).bind fun x46 => R.lift (idxD x45 x46)).bind fun x49 => ((R.ok (a1)).bind fun x47 => (R.ok []).bind fun xs48 => .ok (x47 :: xs48)).bind fun xs50 => .ok (x49 :: xs50)).bind M_voice_share) fun v6 => (O.ofR ((R.ok (a0)).bind fun x9 => R.lift (iterD x9)) fun ds => (forO ds (v6) fun d10 (s8 : D) => O.ofR (((R.ok (d10)).bind fun x20 => ((R.ok (a1)).bind fun x18 => (R.ok []).bind fun xs19 => .ok (x18 :: xs19)).bind fun xs21 => .ok (x20 :: xs21)).bind M_voice_share) fun v11 => O.ofR (((((R.ok (s8)).bind fun x15 => ((R.ok (v11)).bind fun x13 => (R.ok []).bind fun xs14 => .ok (x13 :: xs14)).bind fun xs16 => .ok (x15 :: xs16)).bind M_less).bind fun x17 => R.lift (truD x17)).bind fun k => if k = true then R.ok (v11) else R.ok (s8)) fun v12 => .nx (v12) : O (D) _)).seq fun s22 => O.ofR (((((((R.ok (a0)).bind fun x25 => ((R.ok (a1)).bind fun x23 => (R.ok []).bind fun xs24 => .ok (x23 :: xs24)).bind fun xs26 => .ok (x25 :: xs26)).bind M_mixed_share).bind fun x27 => (R.ok []).bind fun xs28 => .ok (x27 :: xs28)).bind M_bits_for).bind fun x42 => ((((R.ok (s22)).bind fun x29 => (R.ok []).bind fun xs30 => .ok (x29 :: xs30)).bind M_bits_for).bind fun x40 => ((((((R.ok (.int 1)).bind fun x34 => (((R.ok (a0)).bind fun x31 => R.lift (lenD x31)).bind fun x32 => (R.ok []).bind fun xs33 => .ok (x32 :: xs33)).bind fun xs35 => .ok (x34 :: xs35)).bind M_share).bind fun x36 => (R.ok []).bind fun xs37 => .ok (x36 :: xs37)).bind M_bits_for).bind fun x38 => (R.ok []).bind fun xs39 => .ok (x38 :: xs39)).bind fun xs41 => .ok (x40 :: xs41)).bind fun xs43 => .ok (x42 :: xs43)).bind fun xs44 => .ok (.tup xs44)) fun d => .rt d []

noncomputable def M_most_lost (ds : List D) : R D := match ds with
  | [a0, a1] => (B_most_lost a0 a1).toR
  | _ => .st

noncomputable def B__law_take (a1 : D) : N (O Unit Unit) :=
  N.ofR (N.bind (anyI) fun x1 => N.bind (N.l (R.ok (.int 0))) fun x2 => N.l (R.lift (gtD x1 x2))) fun k => if k = true then N.seq (N.ofR (N.bind (N.bind (anyI) fun x6 => N.l (R.lift (intD x6))) fun x7 => N.bind (N.l (R.ok (a1))) fun x8 => N.l (R.lift (modD x7 x8))) fun v3 => N.ofR (N.bind (anyI) fun x4 => N.bind (N.l (R.ok (a1))) fun x5 => N.l (R.lift (fdivD x4 x5))) fun d => N.ofR (N.l (isInt d)) fun _ => N.ofR (N.l (R.ok (v3))) fun d => N.l (.rt d [])) fE else N.ofR (N.bind (anyI) fun x9 => N.bind (N.l (R.ok (.int 1))) fun x10 => N.l (R.lift (addD x9 x10))) fun d => N.ofR (N.l (isInt d)) fun _ => N.ofR (N.bind (N.bind (N.bind (N.bind (anyI) fun x27 => N.bind (N.l (R.ok (.int 48271))) fun x28 => N.l (R.lift (mulM x27 x28))) fun x31 => N.bind (N.bind (anyI) fun x29 => N.bind (N.l (R.ok (.int 69621))) fun x30 => N.l (R.lift (mulM x29 x30))) fun x32 => N.l (R.lift (addD x31 x32))) fun x33 => N.l (R.lift (intD x33))) fun x34 => N.bind (N.l (R.ok (.int 2147483647))) fun x35 => N.l (R.lift (modD x34 x35))) fun v11 => N.ofR (N.bind (N.bind (N.bind (N.bind (N.l ((R.ok (v11)).bind fun x16 => (R.ok (v11)).bind fun x17 => R.lift (mulM x16 x17))) fun x20 => N.bind (N.bind (anyI) fun x18 => N.bind (N.l (R.ok (.int 40692))) fun x19 => N.l (R.lift (mulM x18 x19))) fun x21 => N.l (R.lift (addD x20 x21))) fun x22 => N.bind (N.l (R.ok (.int 12345))) fun x23 => N.l (R.lift (addD x22 x23))) fun x24 => N.l (R.lift (intD x24))) fun x25 => N.bind (N.l (R.ok (.int 2147483399))) fun x26 => N.l (R.lift (modD x25 x26))) fun v12 => N.ofR (N.l (((R.ok (v12)).bind fun x13 => R.lift (intD x13)).bind fun x14 => (R.ok (a1)).bind fun x15 => R.lift (modD x14 x15))) fun d => N.l (.rt d [])

noncomputable def M__law_take (ds : List D) : N (R D) := match ds with
  | [.tape, a1] => fun P => B__law_take a1 fun o => P o.toR
  | _ => N.l .st

noncomputable def B__law_said (a0 a1 : D) : O Unit Unit :=
  O.ofR (((R.ok (a1)).bind fun x1 => (R.ok (.str [49])).bind fun x2 => R.lift (eqD x1 x2)).bind fun k => if k = true then R.ok (a0) else ((((R.ok (a0)).bind fun x3 => (R.ok (.int 1)).bind fun x4 => R.lift (idxD x3 x4)).bind fun x7 => ((R.ok (a0)).bind fun x5 => (R.ok (.int 0)).bind fun x6 => R.lift (idxD x5 x6)).bind fun x8 => R.lift (subD x7 x8)).bind fun x13 => (((R.ok (a0)).bind fun x9 => (R.ok (.int 1)).bind fun x10 => R.lift (idxD x9 x10)).bind fun x11 => (R.ok []).bind fun xs12 => .ok (x11 :: xs12)).bind fun xs14 => .ok (x13 :: xs14)).bind fun xs15 => .ok (.tup xs15)) fun d => .rt d []

noncomputable def M__law_said (ds : List D) : R D := match ds with
  | [a0, a1] => (B__law_said a0 a1).toR
  | _ => .st

noncomputable def B__law_share (a0 a1 : D) : O Unit Unit :=
  O.ofR (((R.ok (.int 1)).bind fun x23 => ((R.ok (.int 1)).bind fun x21 => (R.ok []).bind fun xs22 => .ok (x21 :: xs22)).bind fun xs24 => .ok (x23 :: xs24)).bind fun xs25 => .ok (.tup xs25)) fun v1 => (O.ofR (((R.ok (a1)).bind fun x4 => R.lift (lenD x4)).bind fun x5 => R.lift (rng1 x5)) fun ds => (forO ds (v1) fun d6 (s3 : D) => O.ofR (((R.ok (s3)).bind fun x18 => (((((R.ok (a0)).bind fun x8 => (R.ok (d6)).bind fun x9 => R.lift (idxD x8 x9)).bind fun x14 => (((R.ok (a1)).bind fun x10 => (R.ok (d6)).bind fun x11 => R.lift (idxD x10 x11)).bind fun x12 => (R.ok []).bind fun xs13 => .ok (x12 :: xs13)).bind fun xs15 => .ok (x14 :: xs15)).bind M__law_said).bind fun x16 => (R.ok []).bind fun xs17 => .ok (x16 :: xs17)).bind fun xs19 => .ok (x18 :: xs19)).bind M__law_times) fun v7 => .nx (v7) : O (D) _)).seq fun s20 => O.ofR (R.ok (s20)) fun d => .rt d []

noncomputable def M__law_share (ds : List D) : R D := match ds with
  | [a0, a1] => (B__law_share a0 a1).toR
  | _ => .st

noncomputable def B__law_sum (a0 : D) : O Unit Unit :=
  O.ofR (((R.ok (.int 0)).bind fun x3 => ((R.ok (.int 1)).bind fun x1 => (R.ok []).bind fun xs2 => .ok (x1 :: xs2)).bind fun xs4 => .ok (x3 :: xs4)).bind fun xs5 => .ok (.tup xs5)) fun d6 => tup2 .st d6 fun p7 p8 => (O.ofR ((R.ok (a0)).bind fun x11 => R.lift (iterD x11)) fun ds => (forO ds ((p8), (p7)) fun d12 (s10 : D × D) => tup2 .st d12 fun p13 p14 => O.ofR (((((R.ok (s10.2)).bind fun x15 => (R.ok (p14)).bind fun x16 => R.lift (mulM x15 x16)).bind fun x19 => ((R.ok (p13)).bind fun x17 => (R.ok (s10.1)).bind fun x18 => R.lift (mulM x17 x18)).bind fun x20 => R.lift (addD x19 x20)).bind fun x25 => (((R.ok (s10.1)).bind fun x21 => (R.ok (p14)).bind fun x22 => R.lift (mulM x21 x22)).bind fun x23 => (R.ok []).bind fun xs24 => .ok (x23 :: xs24)).bind fun xs26 => .ok (x25 :: xs26)).bind M__law_ratio) fun d27 => tup2 .st d27 fun p28 p29 => .nx ((p29), (p28)) : O (D × D) _)).seq fun s30 => O.ofR (((R.ok (s30.2)).bind fun x33 => ((R.ok (s30.1)).bind fun x31 => (R.ok []).bind fun xs32 => .ok (x31 :: xs32)).bind fun xs34 => .ok (x33 :: xs34)).bind fun xs35 => .ok (.tup xs35)) fun d => .rt d []

noncomputable def M__law_sum (ds : List D) : R D := match ds with
  | [a0] => (B__law_sum a0).toR
  | _ => .st

noncomputable def B_switching (a0 a1 a2 : D) : O Unit Unit :=
  O.ofR (((R.ok (a1)).bind fun x1 => (R.ok []).bind fun xs2 => .ok (x1 :: xs2)).bind M_check_bits) fun _ => O.ofR (((R.ok (a0)).bind fun x6 => (((R.ok (a1)).bind fun x3 => R.lift (lenD x3)).bind fun x4 => (R.ok []).bind fun xs5 => .ok (x4 :: xs5)).bind fun xs7 => .ok (x6 :: xs7)).bind M_check_voices) fun _ => O.ofR ((((((R.ok G_ZERO).bind fun x10 => ((R.ok (a2)).bind fun x8 => (R.ok []).bind fun xs9 => .ok (x8 :: xs9)).bind fun xs11 => .ok (x10 :: xs11)).bind M_less).bind fun x12 => R.lift (truD x12)).bind fun k => .ok (!k)).bind fun k => if k = true then .ok true else (((((R.ok (a2)).bind fun x15 => ((R.ok G_ONE).bind fun x13 => (R.ok []).bind fun xs14 => .ok (x13 :: xs14)).bind fun xs16 => .ok (x15 :: xs16)).bind M_less).bind fun x17 => R.lift (truD x17)).bind fun k => .ok (!k)).bind fun k => if k = true then .ok true else ((R.ok (a0)).bind fun x18 => R.lift (lenD x18)).bind fun x19 => (R.ok (.int 2)).bind fun x20 => R.lift (ltD x19 x20)) fun k => if k = true then (.xc "InvalidCounts" : O Empty _).seq fE else O.ofR ((((((R.ok (.int 1)).bind fun x122 => (((R.ok (a0)).bind fun x119 => R.lift (lenD x119)).bind fun x120 => (R.ok []).bind fun xs121 => .ok (x120 :: xs121)).bind fun xs123 => .ok (x122 :: xs123)).bind M_share).bind fun x124 => (R.ok []).bind fun xs125 => .ok (x124 :: xs125)).bind fun xs126 => .ok (.lst xs126)).bind fun x128 => ((R.ok (a0)).bind fun x127 => R.lift (lenD x127)).bind fun x129 => R.lift (repL x128 x129)) fun v21 => O.ofR (((R.ok (a2)).bind fun x117 => ((((((R.ok (a0)).bind fun x107 => R.lift (lenD x107)).bind fun x108 => (R.ok (.int 1)).bind fun x109 => R.lift (subD x108 x109)).bind fun x112 => ((R.ok (.int 1)).bind fun x110 => (R.ok []).bind fun xs111 => .ok (x110 :: xs111)).bind fun xs113 => .ok (x112 :: xs113)).bind fun xs114 => .ok (.tup xs114)).bind fun x115 => (R.ok []).bind fun xs116 => .ok (x115 :: xs116)).bind fun xs118 => .ok (x117 :: xs118)).bind M_over) fun v22 => O.ofR (((((R.ok (a2)).bind fun x94 => (R.ok (.int 1)).bind fun x95 => R.lift (idxD x94 x95)).bind fun x98 => ((R.ok (a2)).bind fun x96 => (R.ok (.int 0)).bind fun x97 => R.lift (idxD x96 x97)).bind fun x99 => R.lift (subD x98 x99)).bind fun x104 => (((R.ok (a2)).bind fun x100 => (R.ok (.int 1)).bind fun x101 => R.lift (idxD x100 x101)).bind fun x102 => (R.ok []).bind fun xs103 => .ok (x102 :: xs103)).bind fun xs105 => .ok (x104 :: xs105)).bind fun xs106 => .ok (.tup xs106)) fun v23 => (O.ofR ((R.ok (a1)).bind fun x26 => R.lift (enumD x26)) fun ds => (forO ds (v21) fun d27 (s25 : D) => tup2 .st d27 fun p28 p29 => (O.ofR ((R.ok (p28)).bind fun x30 => (R.ok (.int 0)).bind fun x31 => R.lift (gtD x30 x31)) fun k => if k = true then O.ofR (((R.ok (s25)).bind fun x78 => (R.ok []).bind fun xs79 => .ok (x78 :: xs79)).bind M_sum_of) fun v32 => O.ofR (((R.ok (s25)).bind fun x52 => R.lift (iterD x52)).bind fun ds => (compM ds (fun d53 => itM (R.ok true) ((((((R.ok (v32)).bind fun x54 => (R.ok (.int 0)).bind fun x55 => R.lift (idxD x54 x55)).bind fun x58 => ((R.ok (d53)).bind fun x56 => (R.ok (.int 1)).bind fun x57 => R.lift (idxD x56 x57)).bind fun x59 => R.lift (mulM x58 x59)).bind fun x66 => (((R.ok (d53)).bind fun x60 => (R.ok (.int 0)).bind fun x61 => R.lift (idxD x60 x61)).bind fun x64 => ((R.ok (v32)).bind fun x62 => (R.ok (.int 1)).bind fun x63 => R.lift (idxD x62 x63)).bind fun x65 => R.lift (mulM x64 x65)).bind fun x67 => R.lift (subD x66 x67)).bind fun x76 => ((((R.ok (v32)).bind fun x68 => (R.ok (.int 1)).bind fun x69 => R.lift (idxD x68 x69)).bind fun x72 => ((R.ok (d53)).bind fun x70 => (R.ok (.int 1)).bind fun x71 => R.lift (idxD x70 x71)).bind fun x73 => R.lift (mulM x72 x73)).bind fun x74 => (R.ok []).bind fun xs75 => .ok (x74 :: xs75)).bind fun xs77 => .ok (x76 :: xs77)).bind M_share))).bind fun ys => .ok (.lst ys)) fun v33 => O.ofR (((R.ok (s25)).bind fun x35 => (R.ok (v33)).bind fun x36 => R.lift (zipD x35 x36)).bind fun ds => (compM ds (fun d37 => tup2 .st d37 fun p38 p39 => itM (R.ok true) (((((R.ok (v23)).bind fun x42 => ((R.ok (p38)).bind fun x40 => (R.ok []).bind fun xs41 => .ok (x40 :: xs41)).bind fun xs43 => .ok (x42 :: xs43)).bind M_times).bind fun x50 => ((((R.ok (v22)).bind fun x46 => ((R.ok (p39)).bind fun x44 => (R.ok []).bind fun xs45 => .ok (x44 :: xs45)).bind fun xs47 => .ok (x46 :: xs47)).bind M_times).bind fun x48 => (R.ok []).bind fun xs49 => .ok (x48 :: xs49)).bind fun xs51 => .ok (x50 :: xs51)).bind M_plus))).bind fun ys => .ok (.lst ys)) fun v34 => .nx (v34) else (.nx (s25) : O (D) _)).seq fun s80 => O.ofR (((R.ok (s80)).bind fun x88 => ((R.ok (a0)).bind fun x86 => ((R.ok (p28)).bind fun x84 => ((R.ok (p29)).bind fun x82 => (R.ok []).bind fun xs83 => .ok (x82 :: xs83)).bind fun xs85 => .ok (x84 :: xs85)).bind fun xs87 => .ok (x86 :: xs87)).bind fun xs89 => .ok (x88 :: xs89)).bind M_heard) fun v81 => .nx (v81) : O (D) _)).seq fun s91 => O.ofR (((R.ok (s91)).bind fun x92 => (R.ok []).bind fun xs93 => .ok (x92 :: xs93)).bind M_sum_of) fun d => .rt d []

noncomputable def M_switching (ds : List D) : R D := match ds with
  | [a0, a1, a2] => (B_switching a0 a1 a2).toR
  | _ => .st

noncomputable def M__law_switched : Nat → List D → R D
  | 0, _ => .st
  | n + 1, ds => match ds with
    | [a0, a1, a2, a3, a4] => (O.ofR ((R.ok (a4)).bind fun x2 => ((R.ok (a1)).bind fun x1 => R.lift (lenD x1)).bind fun x3 => R.lift (eqD x2 x3)) fun k => if k = true then (O.ofR (((R.ok (.int 1)).bind fun x6 => ((R.ok (.int 1)).bind fun x4 => (R.ok []).bind fun xs5 => .ok (x4 :: xs5)).bind fun xs7 => .ok (x6 :: xs7)).bind fun xs8 => .ok (.tup xs8)) fun d => .rt d [] : O Empty _).seq fE else O.ofR ((R.ok []).bind fun xs90 => .ok (.lst xs90)) fun d89 => lstK .st d89 fun v9 => (O.ofR (((R.ok (a0)).bind fun x12 => R.lift (lenD x12)).bind fun x13 => R.lift (rng1 x13)) fun ds => (forO ds (v9) fun d14 (s11 : List D) => (O.ofR ((R.ok (a3)).bind fun x15 => (R.ok .non).bind fun x16 => R.lift (isD x15 x16)) fun k => if k = true then O.ofR (((R.ok (.int 1)).bind fun x21 => (((R.ok (a0)).bind fun x18 => R.lift (lenD x18)).bind fun x19 => (R.ok []).bind fun xs20 => .ok (x19 :: xs20)).bind fun xs22 => .ok (x21 :: xs22)).bind fun xs23 => .ok (.tup xs23)) fun v17 => .nx (v17) else (O.ofR (((R.ok (d14)).bind fun x25 => (R.ok (a3)).bind fun x26 => R.lift (eqD x25 x26)).bind fun k => if k = true then ((((R.ok (a2)).bind fun x27 => (R.ok (.int 1)).bind fun x28 => R.lift (idxD x27 x28)).bind fun x31 => ((R.ok (a2)).bind fun x29 => (R.ok (.int 0)).bind fun x30 => R.lift (idxD x29 x30)).bind fun x32 => R.lift (subD x31 x32)).bind fun x37 => (((R.ok (a2)).bind fun x33 => (R.ok (.int 1)).bind fun x34 => R.lift (idxD x33 x34)).bind fun x35 => (R.ok []).bind fun xs36 => .ok (x35 :: xs36)).bind fun xs38 => .ok (x37 :: xs38)).bind fun xs39 => .ok (.tup xs39) else (((R.ok (a2)).bind fun x40 => (R.ok (.int 0)).bind fun x41 => R.lift (idxD x40 x41)).bind fun x51 => ((((R.ok (a2)).bind fun x42 => (R.ok (.int 1)).bind fun x43 => R.lift (idxD x42 x43)).bind fun x47 => (((R.ok (a0)).bind fun x44 => R.lift (lenD x44)).bind fun x45 => (R.ok (.int 1)).bind fun x46 => R.lift (subD x45 x46)).bind fun x48 => R.lift (mulM x47 x48)).bind fun x49 => (R.ok []).bind fun xs50 => .ok (x49 :: xs50)).bind fun xs52 => .ok (x51 :: xs52)).bind M__law_ratio) fun v24 => .nx (v24) : O (D) _)).seq fun s53 => O.ofR (((((R.ok (s53)).bind fun x66 => ((((((R.ok (a0)).bind fun x54 => (R.ok (d14)).bind fun x55 => R.lift (idxD x54 x55)).bind fun x56 => (R.ok (a4)).bind fun x57 => R.lift (idxD x56 x57)).bind fun x62 => (((R.ok (a1)).bind fun x58 => (R.ok (a4)).bind fun x59 => R.lift (idxD x58 x59)).bind fun x60 => (R.ok []).bind fun xs61 => .ok (x60 :: xs61)).bind fun xs63 => .ok (x62 :: xs63)).bind M__law_said).bind fun x64 => (R.ok []).bind fun xs65 => .ok (x64 :: xs65)).bind fun xs67 => .ok (x66 :: xs67)).bind M__law_times).bind fun x82 => ((((R.ok (a0)).bind fun x78 => ((R.ok (a1)).bind fun x76 => ((R.ok (a2)).bind fun x74 => ((R.ok (d14)).bind fun x72 => (((R.ok (a4)).bind fun x68 => (R.ok (.int 1)).bind fun x69 => R.lift (addD x68 x69)).bind fun x70 => (R.ok []).bind fun xs71 => .ok (x70 :: xs71)).bind fun xs73 => .ok (x72 :: xs73)).bind fun xs75 => .ok (x74 :: xs75)).bind fun xs77 => .ok (x76 :: xs77)).bind fun xs79 => .ok (x78 :: xs79)).bind (M__law_switched n)).bind fun x80 => (R.ok []).bind fun xs81 => .ok (x80 :: xs81)).bind fun xs83 => .ok (x82 :: xs83)).bind M__law_times) fun v84 => if (s11).length < sizeLine then .nx (s11 ++ [v84]) else .st : O (List D) _)).seq fun s86 => O.ofR (((R.ok (.lst (s86))).bind fun x87 => (R.ok []).bind fun xs88 => .ok (x87 :: xs88)).bind M__law_sum) fun d => .rt d [] : O Unit Unit).toR
    | _ => .st

noncomputable def B__law_switched (n : Nat) (a0 a1 a2 a3 a4 : D) : O Unit Unit :=
  O.ofR ((R.ok (a4)).bind fun x2 => ((R.ok (a1)).bind fun x1 => R.lift (lenD x1)).bind fun x3 => R.lift (eqD x2 x3)) fun k => if k = true then (O.ofR (((R.ok (.int 1)).bind fun x6 => ((R.ok (.int 1)).bind fun x4 => (R.ok []).bind fun xs5 => .ok (x4 :: xs5)).bind fun xs7 => .ok (x6 :: xs7)).bind fun xs8 => .ok (.tup xs8)) fun d => .rt d [] : O Empty _).seq fE else O.ofR ((R.ok []).bind fun xs90 => .ok (.lst xs90)) fun d89 => lstK .st d89 fun v9 => (O.ofR (((R.ok (a0)).bind fun x12 => R.lift (lenD x12)).bind fun x13 => R.lift (rng1 x13)) fun ds => (forO ds (v9) fun d14 (s11 : List D) => (O.ofR ((R.ok (a3)).bind fun x15 => (R.ok .non).bind fun x16 => R.lift (isD x15 x16)) fun k => if k = true then O.ofR (((R.ok (.int 1)).bind fun x21 => (((R.ok (a0)).bind fun x18 => R.lift (lenD x18)).bind fun x19 => (R.ok []).bind fun xs20 => .ok (x19 :: xs20)).bind fun xs22 => .ok (x21 :: xs22)).bind fun xs23 => .ok (.tup xs23)) fun v17 => .nx (v17) else (O.ofR (((R.ok (d14)).bind fun x25 => (R.ok (a3)).bind fun x26 => R.lift (eqD x25 x26)).bind fun k => if k = true then ((((R.ok (a2)).bind fun x27 => (R.ok (.int 1)).bind fun x28 => R.lift (idxD x27 x28)).bind fun x31 => ((R.ok (a2)).bind fun x29 => (R.ok (.int 0)).bind fun x30 => R.lift (idxD x29 x30)).bind fun x32 => R.lift (subD x31 x32)).bind fun x37 => (((R.ok (a2)).bind fun x33 => (R.ok (.int 1)).bind fun x34 => R.lift (idxD x33 x34)).bind fun x35 => (R.ok []).bind fun xs36 => .ok (x35 :: xs36)).bind fun xs38 => .ok (x37 :: xs38)).bind fun xs39 => .ok (.tup xs39) else (((R.ok (a2)).bind fun x40 => (R.ok (.int 0)).bind fun x41 => R.lift (idxD x40 x41)).bind fun x51 => ((((R.ok (a2)).bind fun x42 => (R.ok (.int 1)).bind fun x43 => R.lift (idxD x42 x43)).bind fun x47 => (((R.ok (a0)).bind fun x44 => R.lift (lenD x44)).bind fun x45 => (R.ok (.int 1)).bind fun x46 => R.lift (subD x45 x46)).bind fun x48 => R.lift (mulM x47 x48)).bind fun x49 => (R.ok []).bind fun xs50 => .ok (x49 :: xs50)).bind fun xs52 => .ok (x51 :: xs52)).bind M__law_ratio) fun v24 => .nx (v24) : O (D) _)).seq fun s53 => O.ofR (((((R.ok (s53)).bind fun x66 => ((((((R.ok (a0)).bind fun x54 => (R.ok (d14)).bind fun x55 => R.lift (idxD x54 x55)).bind fun x56 => (R.ok (a4)).bind fun x57 => R.lift (idxD x56 x57)).bind fun x62 => (((R.ok (a1)).bind fun x58 => (R.ok (a4)).bind fun x59 => R.lift (idxD x58 x59)).bind fun x60 => (R.ok []).bind fun xs61 => .ok (x60 :: xs61)).bind fun xs63 => .ok (x62 :: xs63)).bind M__law_said).bind fun x64 => (R.ok []).bind fun xs65 => .ok (x64 :: xs65)).bind fun xs67 => .ok (x66 :: xs67)).bind M__law_times).bind fun x82 => ((((R.ok (a0)).bind fun x78 => ((R.ok (a1)).bind fun x76 => ((R.ok (a2)).bind fun x74 => ((R.ok (d14)).bind fun x72 => (((R.ok (a4)).bind fun x68 => (R.ok (.int 1)).bind fun x69 => R.lift (addD x68 x69)).bind fun x70 => (R.ok []).bind fun xs71 => .ok (x70 :: xs71)).bind fun xs73 => .ok (x72 :: xs73)).bind fun xs75 => .ok (x74 :: xs75)).bind fun xs77 => .ok (x76 :: xs77)).bind fun xs79 => .ok (x78 :: xs79)).bind (M__law_switched n)).bind fun x80 => (R.ok []).bind fun xs81 => .ok (x80 :: xs81)).bind fun xs83 => .ok (x82 :: xs83)).bind M__law_times) fun v84 => if (s11).length < sizeLine then .nx (s11 ++ [v84]) else .st : O (List D) _)).seq fun s86 => O.ofR (((R.ok (.lst (s86))).bind fun x87 => (R.ok []).bind fun xs88 => .ok (x87 :: xs88)).bind M__law_sum) fun d => .rt d []

noncomputable def B__law_bits_for (a0 : D) : O Unit Unit :=
  O.ofR (((R.ok (.int 0)).bind fun x3 => ((R.ok (.int 1)).bind fun x1 => (R.ok []).bind fun xs2 => .ok (x1 :: xs2)).bind fun xs4 => .ok (x3 :: xs4)).bind fun xs5 => .ok (.tup xs5)) fun d6 => tup2 .st d6 fun p7 p8 => (whileO (szDs [a0, p7, p8] + 1000) ((p7), (p8)) (fun (s10 : D × D) => (((R.ok (a0)).bind fun x11 => (R.ok (.int 0)).bind fun x12 => R.lift (idxD x11 x12)).bind fun x13 => (R.ok (s10.2)).bind fun x14 => R.lift (mulM x13 x14)).bind fun x17 => ((R.ok (a0)).bind fun x15 => (R.ok (.int 1)).bind fun x16 => R.lift (idxD x15 x16)).bind fun x18 => R.lift (ltD x17 x18)) fun s10 => O.ofR (((R.ok (s10.1)).bind fun x19 => (R.ok (.int 1)).bind fun x20 => R.lift (addD x19 x20)).bind fun x25 => (((R.ok (.int 2)).bind fun x21 => (R.ok (s10.2)).bind fun x22 => R.lift (mulM x21 x22)).bind fun x23 => (R.ok []).bind fun xs24 => .ok (x23 :: xs24)).bind fun xs26 => .ok (x25 :: xs26)) fun ds29 => lst2 .st ds29 fun v27 v28 => .nx ((v27), (v28)) : O (D × D) _).seq fun s30 => O.ofR (R.ok (s30.1)) fun d => .rt d []

noncomputable def M__law_bits_for (ds : List D) : R D := match ds with
  | [a0] => (B__law_bits_for a0).toR
  | _ => .st

noncomputable def B_law (a0 : D) : N (O Unit Unit) :=
  N.ofR (N.l (((R.ok (a0)).bind fun x383 => (R.ok []).bind fun xs384 => .ok (x383 :: xs384)).bind M__law_tape)) fun v1 => N.seq (τ := Unit) (N.ofR (N.l ((R.ok (.int 3)).bind fun x4 => R.lift (rng1 x4))) fun ds => forN ds () fun d5 (s3 : Unit) => N.ofR (N.bind (N.bind (N.bind (N.l ((R.ok (v1)).bind fun x8 => ((R.ok (.int 6)).bind fun x6 => (R.ok []).bind fun xs7 => .ok (x6 :: xs7)).bind fun xs9 => .ok (x8 :: xs9))) M__law_take) fun x18 => N.bind (N.bind (N.bind (N.l (R.ok (.int 1))) fun x14 => N.bind (N.bind (N.l ((R.ok (v1)).bind fun x12 => ((R.ok (.int 4)).bind fun x10 => (R.ok []).bind fun xs11 => .ok (x10 :: xs11)).bind fun xs13 => .ok (x12 :: xs13))) M__law_take) fun x15 => N.l (R.lift (addD x14 x15))) fun x16 => N.bind (N.l (R.ok [])) fun xs17 => N.l (.ok (x16 :: xs17))) fun xs19 => N.l (.ok (x18 :: xs19))) fun xs20 => N.l (.ok (.tup xs20))) fun d21 => tup2 (N.l .st) d21 fun p22 p23 => N.ofR (N.bind (N.l (R.ok (.str []))) fun x307 => N.bind (N.l (strR x307 .ok)) fun x308 => N.bind (N.bind (N.l ((R.ok (p22)).bind fun x300 => R.lift (rng1 x300))) fun ds => N.bind (compN ds (fun d301 => itN (N.l (R.ok true)) (N.bind (N.bind (N.l ((R.ok (v1)).bind fun x304 => ((R.ok (.int 2)).bind fun x302 => (R.ok []).bind fun xs303 => .ok (x302 :: xs303)).bind fun xs305 => .ok (x304 :: xs305))) M__law_take) fun x306 => N.l (R.lift (strD x306))))) fun ys => N.l (.ok (.lst ys))) fun x309 => N.l (R.lift (joinD x308 x309))) fun v24 => N.ofR (N.bind (N.bind (N.l ((R.ok (p23)).bind fun x252 => R.lift (rng1 x252))) fun ds => N.bind (compN ds (fun d253 => itN (N.l (R.ok true)) (N.bind (N.bind (N.l ((R.ok (p22)).bind fun x254 => R.lift (rng1 x254))) fun ds => N.bind (compN ds (fun d255 => itN (N.l (R.ok true)) (N.bind (N.l (((((R.ok (.int 1)).bind fun x258 => ((R.ok (.int 2)).bind fun x256 => (R.ok []).bind fun xs257 => .ok (x256 :: xs257)).bind fun xs259 => .ok (x258 :: xs259)).bind fun xs260 => .ok (.tup xs260)).bind fun x289 => ((((R.ok (.int 1)).bind fun x263 => ((R.ok (.int 3)).bind fun x261 => (R.ok []).bind fun xs262 => .ok (x261 :: xs262)).bind fun xs264 => .ok (x263 :: xs264)).bind fun xs265 => .ok (.tup xs265)).bind fun x287 => ((((R.ok (.int 3)).bind fun x268 => ((R.ok (.int 4)).bind fun x266 => (R.ok []).bind fun xs267 => .ok (x266 :: xs267)).bind fun xs269 => .ok (x268 :: xs269)).bind fun xs270 => .ok (.tup xs270)).bind fun x285 => ((((R.ok (.int 9)).bind fun x273 => ((R.ok (.int 10)).bind fun x271 => (R.ok []).bind fun xs272 => .ok (x271 :: xs272)).bind fun xs274 => .ok (x273 :: xs274)).bind fun xs275 => .ok (.tup xs275)).bind fun x283 => ((((R.ok (.int 1)).bind fun x278 => ((R.ok (.int 7)).bind fun x276 => (R.ok []).bind fun xs277 => .ok (x276 :: xs277)).bind fun xs279 => .ok (x278 :: xs279)).bind fun xs280 => .ok (.tup xs280)).bind fun x281 => (R.ok []).bind fun xs282 => .ok (x281 :: xs282)).bind fun xs284 => .ok (x283 :: xs284)).bind fun xs286 => .ok (x285 :: xs286)).bind fun xs288 => .ok (x287 :: xs288)).bind fun xs290 => .ok (x289 :: xs290)).bind fun xs291 => .ok (.lst xs291))) fun x292 => N.bind (N.bind (N.l ((R.ok (v1)).bind fun x295 => ((R.ok (.int 5)).bind fun x293 => (R.ok []).bind fun xs294 => .ok (x293 :: xs294)).bind fun xs296 => .ok (x295 :: xs296))) M__law_take) fun x297 => N.l (R.lift (idxD x292 x297))))) fun ys => N.l (.ok (.lst ys))) fun x298 => N.l (R.lift (tupD x298))))) fun ys => N.l (.ok (.lst ys))) fun x299 => N.l (R.lift (tupD x299))) fun v25 => N.ofR (N.l (((R.ok (v25)).bind fun x246 => R.lift (iterD x246)).bind fun ds => (compM ds (fun d247 => itM (R.ok true) (((R.ok (d247)).bind fun x250 => ((R.ok (v24)).bind fun x248 => (R.ok []).bind fun xs249 => .ok (x248 :: xs249)).bind fun xs251 => .ok (x250 :: xs251)).bind M__law_share))).bind fun ys => .ok (.lst ys))) fun v26 => N.ofR (N.l (((((R.ok (.int 1)).bind fun x237 => ((R.ok (p23)).bind fun x235 => (R.ok []).bind fun xs236 => .ok (x235 :: xs236)).bind fun xs238 => .ok (x237 :: xs238)).bind fun xs239 => .ok (.tup xs239)).bind fun x244 => ((((R.ok (v26)).bind fun x240 => (R.ok []).bind fun xs241 => .ok (x240 :: xs241)).bind M__law_sum).bind fun x242 => (R.ok []).bind fun xs243 => .ok (x242 :: xs243)).bind fun xs245 => .ok (x244 :: xs245)).bind M__law_times)) fun v27 => N.ofR (N.l (((((R.ok (v25)).bind fun x28 => R.lift (iterD x28)).bind fun ds => (compM ds (fun d29 => itM (R.ok true) (((R.ok (d29)).bind fun x32 => ((R.ok (v24)).bind fun x30 => (R.ok []).bind fun xs31 => .ok (x30 :: xs31)).bind fun xs33 => .ok (x32 :: xs33)).bind M_voice_share))).bind fun ys => .ok (.lst ys)).bind fun x34 => (R.ok (v26)).bind fun x35 => R.lift (neD x34 x35)).bind fun k => if k = true then .ok true else (((R.ok (v25)).bind fun x38 => ((R.ok (v24)).bind fun x36 => (R.ok []).bind fun xs37 => .ok (x36 :: xs37)).bind fun xs39 => .ok (x38 :: xs39)).bind M_mixed_share).bind fun x40 => (R.ok (v27)).bind fun x41 => R.lift (neD x40 x41))) fun k => if k = true then N.seq (N.ofR (N.l (R.ok (.bl false))) fun d => N.l (.rt d [])) fE else N.ofR (N.l (((R.ok (v25)).bind fun x233 => ((R.ok (v24)).bind fun x231 => (R.ok []).bind fun xs232 => .ok (x231 :: xs232)).bind fun xs234 => .ok (x233 :: xs234)).bind M_said_next)) fun v42 => N.ofR (N.l ((((R.ok (v42)).bind fun x43 => R.lift (lenD x43)).bind fun x44 => (R.ok (p22)).bind fun x45 => R.lift (neD x44 x45)).bind fun k => if k = true then .ok true else (((R.ok (v42)).bind fun x48 => ((R.ok (v24)).bind fun x46 => (R.ok []).bind fun xs47 => .ok (x46 :: xs47)).bind fun xs49 => .ok (x48 :: xs49)).bind M__law_share).bind fun x50 => (R.ok (v27)).bind fun x51 => R.lift (neD x50 x51))) fun k => if k = true then N.seq (N.ofR (N.l (R.ok (.bl false))) fun d => N.l (.rt d [])) fE else N.seq (τ := Unit) (N.ofR (N.l ((R.ok (p22)).bind fun x54 => R.lift (rng1 x54))) fun ds => forN ds () fun d55 (s53 : Unit) => N.ofR (N.l (((R.ok (v25)).bind fun x95 => R.lift (iterD x95)).bind fun ds => (compM ds (fun d96 => itM (R.ok true) ((((R.ok (d96)).bind fun x97 => (R.ok none).bind fun l98 => ((R.ok (d55)).bind intP).bind fun h99 => R.lift (slcD x97 l98 h99)).bind fun x105 => (((R.ok (v24)).bind fun x100 => (R.ok none).bind fun l101 => ((R.ok (d55)).bind intP).bind fun h102 => R.lift (slcD x100 l101 h102)).bind fun x103 => (R.ok []).bind fun xs104 => .ok (x103 :: xs104)).bind fun xs106 => .ok (x105 :: xs106)).bind M__law_share))).bind fun ys => .ok (.lst ys))) fun v56 => N.ofR (N.l (((((R.ok (p23)).bind fun x81 => R.lift (rng1 x81)).bind fun ds => (compM ds (fun d82 => itM (R.ok true) ((((R.ok (v56)).bind fun x83 => (R.ok (d82)).bind fun x84 => R.lift (idxD x83 x84)).bind fun x91 => ((((R.ok (v25)).bind fun x85 => (R.ok (d82)).bind fun x86 => R.lift (idxD x85 x86)).bind fun x87 => (R.ok (d55)).bind fun x88 => R.lift (idxD x87 x88)).bind fun x89 => (R.ok []).bind fun xs90 => .ok (x89 :: xs90)).bind fun xs92 => .ok (x91 :: xs92)).bind M__law_times))).bind fun ys => .ok (.lst ys)).bind fun x93 => (R.ok []).bind fun xs94 => .ok (x93 :: xs94)).bind M__law_sum)) fun v57 => N.ofR (N.l (((R.ok (v56)).bind fun x79 => (R.ok []).bind fun xs80 => .ok (x79 :: xs80)).bind M__law_sum)) fun v58 => N.ofR (N.l (((R.ok (v42)).bind fun x59 => (R.ok (d55)).bind fun x60 => R.lift (idxD x59 x60)).bind fun x77 => (((((R.ok (v57)).bind fun x61 => (R.ok (.int 0)).bind fun x62 => R.lift (idxD x61 x62)).bind fun x65 => ((R.ok (v58)).bind fun x63 => (R.ok (.int 1)).bind fun x64 => R.lift (idxD x63 x64)).bind fun x66 => R.lift (mulM x65 x66)).bind fun x75 => ((((R.ok (v57)).bind fun x67 => (R.ok (.int 1)).bind fun x68 => R.lift (idxD x67 x68)).bind fun x71 => ((R.ok (v58)).bind fun x69 => (R.ok (.int 0)).bind fun x70 => R.lift (idxD x69 x70)).bind fun x72 => R.lift (mulM x71 x72)).bind fun x73 => (R.ok []).bind fun xs74 => .ok (x73 :: xs74)).bind fun xs76 => .ok (x75 :: xs76)).bind M__law_ratio).bind fun x78 => R.lift (neD x77 x78))) fun k => if k = true then N.seq (N.ofR (N.l (R.ok (.bl false))) fun d => N.l (.rt d [])) fE else N.l (.nx ())) fun s107 => N.ofR (N.l ((R.ok (v26)).bind fun x229 => (R.ok (.int 0)).bind fun x230 => R.lift (idxD x229 x230))) fun v108 => N.seq (τ := D) (N.ofR (N.l ((R.ok (v26)).bind fun x111 => R.lift (iterD x111))) fun ds => forN ds (v108) fun d112 (s110 : D) => N.ofR (N.l (((((R.ok (d112)).bind fun x114 => (R.ok (.int 0)).bind fun x115 => R.lift (idxD x114 x115)).bind fun x118 => ((R.ok (s110)).bind fun x116 => (R.ok (.int 1)).bind fun x117 => R.lift (idxD x116 x117)).bind fun x119 => R.lift (mulM x118 x119)).bind fun x126 => (((R.ok (s110)).bind fun x120 => (R.ok (.int 0)).bind fun x121 => R.lift (idxD x120 x121)).bind fun x124 => ((R.ok (d112)).bind fun x122 => (R.ok (.int 1)).bind fun x123 => R.lift (idxD x122 x123)).bind fun x125 => R.lift (mulM x124 x125)).bind fun x127 => R.lift (gtD x126 x127)).bind fun k => if k = true then R.ok (d112) else R.ok (s110))) fun v113 => N.l (.nx (v113))) fun s128 => N.ofR (N.l (((R.ok (v25)).bind fun x227 => ((R.ok (v24)).bind fun x225 => (R.ok []).bind fun xs226 => .ok (x225 :: xs226)).bind fun xs228 => .ok (x227 :: xs228)).bind M_most_lost)) fun v129 => N.ofR (N.l (((R.ok (v129)).bind fun x148 => (((((R.ok (v27)).bind fun x130 => (R.ok []).bind fun xs131 => .ok (x130 :: xs131)).bind M__law_bits_for).bind fun x145 => ((((R.ok (s128)).bind fun x132 => (R.ok []).bind fun xs133 => .ok (x132 :: xs133)).bind M__law_bits_for).bind fun x143 => ((((((R.ok (.int 1)).bind fun x136 => ((R.ok (p23)).bind fun x134 => (R.ok []).bind fun xs135 => .ok (x134 :: xs135)).bind fun xs137 => .ok (x136 :: xs137)).bind fun xs138 => .ok (.tup xs138)).bind fun x139 => (R.ok []).bind fun xs140 => .ok (x139 :: xs140)).bind M__law_bits_for).bind fun x141 => (R.ok []).bind fun xs142 => .ok (x141 :: xs142)).bind fun xs144 => .ok (x143 :: xs144)).bind fun xs146 => .ok (x145 :: xs146)).bind fun xs147 => .ok (.tup xs147)).bind fun x149 => R.lift (neD x148 x149)).bind fun k => if k = true then .ok true else ((R.ok (v129)).bind fun x150 => (R.ok (.int 0)).bind fun x151 => R.lift (idxD x150 x151)).bind fun x158 => (((R.ok (v129)).bind fun x152 => (R.ok (.int 1)).bind fun x153 => R.lift (idxD x152 x153)).bind fun x156 => ((R.ok (v129)).bind fun x154 => (R.ok (.int 2)).bind fun x155 => R.lift (idxD x154 x155)).bind fun x157 => R.lift (addD x156 x157)).bind fun x159 => R.lift (gtD x158 x159))) fun k => if k = true then N.seq (N.ofR (N.l (R.ok (.bl false))) fun d => N.l (.rt d [])) fE else N.ofR (N.bind (N.l (((((R.ok (.int 1)).bind fun x199 => ((R.ok (.int 2)).bind fun x197 => (R.ok []).bind fun xs198 => .ok (x197 :: xs198)).bind fun xs200 => .ok (x199 :: xs200)).bind fun xs201 => .ok (.tup xs201)).bind fun x216 => ((((R.ok (.int 1)).bind fun x204 => ((R.ok (.int 10)).bind fun x202 => (R.ok []).bind fun xs203 => .ok (x202 :: xs203)).bind fun xs205 => .ok (x204 :: xs205)).bind fun xs206 => .ok (.tup xs206)).bind fun x214 => ((((R.ok (.int 2)).bind fun x209 => ((R.ok (.int 3)).bind fun x207 => (R.ok []).bind fun xs208 => .ok (x207 :: xs208)).bind fun xs210 => .ok (x209 :: xs210)).bind fun xs211 => .ok (.tup xs211)).bind fun x212 => (R.ok []).bind fun xs213 => .ok (x212 :: xs213)).bind fun xs215 => .ok (x214 :: xs215)).bind fun xs217 => .ok (x216 :: xs217)).bind fun xs218 => .ok (.lst xs218))) fun x219 => N.bind (N.bind (N.l ((R.ok (v1)).bind fun x222 => ((R.ok (.int 3)).bind fun x220 => (R.ok []).bind fun xs221 => .ok (x220 :: xs221)).bind fun xs223 => .ok (x222 :: xs223))) M__law_take) fun x224 => N.l (R.lift (idxD x219 x224))) fun v160 => N.seq (τ := Unit) (N.ofR (N.l ((R.ok (p23)).bind fun x161 => (R.ok (.int 1)).bind fun x162 => R.lift (gtD x161 x162))) fun k => if k = true then N.ofR (N.l ((((R.ok (v25)).bind fun x167 => ((R.ok (v24)).bind fun x165 => ((R.ok (v160)).bind fun x163 => (R.ok []).bind fun xs164 => .ok (x163 :: xs164)).bind fun xs166 => .ok (x165 :: xs166)).bind fun xs168 => .ok (x167 :: xs168)).bind M_switching).bind fun x179 => (((R.ok (v25)).bind fun x177 => ((R.ok (v24)).bind fun x175 => ((R.ok (v160)).bind fun x173 => ((R.ok .non).bind fun x171 => ((R.ok (.int 0)).bind fun x169 => (R.ok []).bind fun xs170 => .ok (x169 :: xs170)).bind fun xs172 => .ok (x171 :: xs172)).bind fun xs174 => .ok (x173 :: xs174)).bind fun xs176 => .ok (x175 :: xs176)).bind fun xs178 => .ok (x177 :: xs178)).bind (M__law_switched 40)).bind fun x180 => R.lift (neD x179 x180))) fun k => if k = true then N.seq (N.ofR (N.l (R.ok (.bl false))) fun d => N.l (.rt d [])) fE else N.l (.nx ()) else N.ofR (N.l (((ans__law_refused (((R.ok (v25)).bind fun x185 => ((R.ok (v24)).bind fun x183 => ((R.ok (v160)).bind fun x181 => (R.ok []).bind fun xs182 => .ok (x181 :: xs182)).bind fun xs184 => .ok (x183 :: xs184)).bind fun xs186 => .ok (x185 :: xs186)).bind M_switching)).bind fun x187 => R.lift (truD x187)).bind fun k => .ok (!k))) fun k => if k = true then N.seq (N.ofR (N.l (R.ok (.bl false))) fun d => N.l (.rt d [])) fE else N.l (.nx ())) fun s188 => N.ofR (N.l (((ans__law_refused (((R.ok (v25)).bind fun x193 => (((R.ok (v24)).bind fun x189 => (R.ok (.str [49])).bind fun x190 => R.lift (addD x189 x190)).bind fun x191 => (R.ok []).bind fun xs192 => .ok (x191 :: xs192)).bind fun xs194 => .ok (x193 :: xs194)).bind M_mixed_share)).bind fun x195 => R.lift (truD x195)).bind fun k => .ok (!k))) fun k => if k = true then N.seq (N.ofR (N.l (R.ok (.bl false))) fun d => N.l (.rt d [])) fE else N.l (.nx ())) fun s310 => N.seq (τ := Unit) (N.ofR (N.l (((((R.ok []).bind fun xs313 => .ok (.tup xs313)).bind fun x340 => ((((((((R.ok (.int 0)).bind fun x316 => ((R.ok (.int 1)).bind fun x314 => (R.ok []).bind fun xs315 => .ok (x314 :: xs315)).bind fun xs317 => .ok (x316 :: xs317)).bind fun xs318 => .ok (.tup xs318)).bind fun x319 => (R.ok []).bind fun xs320 => .ok (x319 :: xs320)).bind fun xs321 => .ok (.tup xs321)).bind fun x322 => (R.ok []).bind fun xs323 => .ok (x322 :: xs323)).bind fun xs324 => .ok (.tup xs324)).bind fun x338 => ((((((((R.ok (.int 1)).bind fun x327 => ((R.ok (.int 1)).bind fun x325 => (R.ok []).bind fun xs326 => .ok (x325 :: xs326)).bind fun xs328 => .ok (x327 :: xs328)).bind fun xs329 => .ok (.tup xs329)).bind fun x330 => (R.ok []).bind fun xs331 => .ok (x330 :: xs331)).bind fun xs332 => .ok (.tup xs332)).bind fun x333 => (R.ok []).bind fun xs334 => .ok (x333 :: xs334)).bind fun xs335 => .ok (.tup xs335)).bind fun x336 => (R.ok []).bind fun xs337 => .ok (x336 :: xs337)).bind fun xs339 => .ok (x338 :: xs339)).bind fun xs341 => .ok (x340 :: xs341)).bind fun xs342 => .ok (.tup xs342)).bind fun x343 => R.lift (iterD x343))) fun ds => forN ds () fun d344 (s312 : Unit) => N.ofR (N.l (((ans__law_refused (((R.ok (d344)).bind fun x347 => ((R.ok (.str [49])).bind fun x345 => (R.ok []).bind fun xs346 => .ok (x345 :: xs346)).bind fun xs348 => .ok (x347 :: xs348)).bind M_mixed_share)).bind fun x349 => R.lift (truD x349)).bind fun k => .ok (!k))) fun k => if k = true then N.seq (N.ofR (N.l (R.ok (.bl false))) fun d => N.l (.rt d [])) fE else N.l (.nx ())) fun s350 => N.ofR (N.l (ans__law_refused (((((((((R.ok (.int 1)).bind fun x353 => ((R.ok (.int 2)).bind fun x351 => (R.ok []).bind fun xs352 => .ok (x351 :: xs352)).bind fun xs354 => .ok (x353 :: xs354)).bind fun xs355 => .ok (.tup xs355)).bind fun x356 => (R.ok []).bind fun xs357 => .ok (x356 :: xs357)).bind fun xs358 => .ok (.tup xs358)).bind fun x369 => ((((((R.ok (.int 1)).bind fun x361 => ((R.ok (.int 2)).bind fun x359 => (R.ok []).bind fun xs360 => .ok (x359 :: xs360)).bind fun xs362 => .ok (x361 :: xs362)).bind fun xs363 => .ok (.tup xs363)).bind fun x364 => (R.ok []).bind fun xs365 => .ok (x364 :: xs365)).bind fun xs366 => .ok (.tup xs366)).bind fun x367 => (R.ok []).bind fun xs368 => .ok (x367 :: xs368)).bind fun xs370 => .ok (x369 :: xs370)).bind fun xs371 => .ok (.tup xs371)).bind fun x381 => ((R.ok (.str [49])).bind fun x379 => ((((R.ok (.int 1)).bind fun x374 => ((R.ok (.int 1)).bind fun x372 => (R.ok []).bind fun xs373 => .ok (x372 :: xs373)).bind fun xs375 => .ok (x374 :: xs375)).bind fun xs376 => .ok (.tup xs376)).bind fun x377 => (R.ok []).bind fun xs378 => .ok (x377 :: xs378)).bind fun xs380 => .ok (x379 :: xs380)).bind fun xs382 => .ok (x381 :: xs382)).bind M_switching))) fun d => N.l (.rt d [])

noncomputable def M_law (ds : List D) : N (R D) := match ds with
  | [a0] => fun P => B_law a0 fun o => P o.toR
  | _ => N.l .st

end K22

-- DL19
set_option Elab.async false
set_option linter.all false
set_option maxRecDepth 100000
set_option maxHeartbeats 4000000
/-! The data layer: the end. -/
namespace DL
open PySem PySem.Spec PyProof.Rows L2
section
theorem fnOk_ofC {C : Value → Prop} {P : Program} {w : World} {K : PySem.W.Frag} {mg : Str → Option Value} {base : Heap} {T : Tb} {x : Str} {st : Stmt} {f : Addr} {fd : FuncData} {N' ps : List Str} {k : Nat} {md : Md} {M : List D → N (R D)} (Fn : FunC K x st f fd C) (S : FnScope N' ps (defScope st)) (b : Binds K fd ps [])
    (body : ∀ (cdv : Value) (hC : C cdv) (A : Around) (outer : List Env) (s : Shared) (H : Hp) (E : XK) (ds : List D), ds.length = ps.length → Room k (A.deeper (envOfC x (defScope st) s.heap.objs.size f cdv)) →
      ∃ (m : N (O Unit Unit)), SN (cxOf (L2.CX P w) P w K mg base N' x (defScope st) f cdv A outer s H E) T (fun cls d _ H' => E cls d H') [] md (fun _ => List.replicate N'.length .no) (fun _ => List.replicate N'.length .no) (List.replicate N'.length .no)
        (ds.map .sh ++ List.replicate (N'.length - ps.length) .no) (defBody st) m ∧ (∀ Pr, M ds Pr → m fun o => Pr o.toR) ∧ (md = .O → ∀ Pr, m Pr → m fun o => Pr o ∧ ∀ s, o ≠ .nx s)) : FnOk P w K mg base (L2.CX P w) (k + 1) f fd ps (spN K T mg md ps.length M) := by
  obtain ⟨oc, od, kV, doc, pm, an, cdv, ct, osl, rfl, lk, hcd, hC⟩ := Fn.ex
  refine fn_of lk hcd S (fun vs H Q E h => h.1) fun A outer s H vs Q E hr hsp => ?_
  obtain ⟨hlen, F, ds, hF, hT, r, Pr, q, hM'⟩ := hsp
  have hdl : ds.length = ps.length := by rw [← r.length]; exact hlen
  obtain ⟨m, hDS, hM, hO⟩ := body cdv hC A outer s H E ds hdl hr
  refine ⟨_, ps_wp, ?_⟩
  have hpl : ps.length ≤ N'.length := by have := congrArg List.length S.pre; rw [List.length_take] at this; omega
  have hslots : ∀ (i : Nat) (sl : Sl), (ds.map Sl.sh ++ List.replicate (N'.length - ps.length) Sl.no)[i]? = some sl → ∃ x : Option V, (L2.start N' vs)[i]? = some x ∧ SlR K F H x sl := fun i sl e => by
    have hvl : vs.length = ps.length := hlen
    unfold L2.start
    by_cases hi : i < ds.length
    · rw [List.getElem?_append_left (by simpa using hi), List.getElem?_map] at e
      cases ed : ds[i]? with
      | none => rw [ed] at e; cases e
      | some d =>
        rw [ed] at e
        cases e
        obtain ⟨v, hv, rv⟩ := r.get ed
        refine ⟨some v, ?_, v, rfl, rv⟩
        rw [List.getElem?_append_left (by rw [List.length_map]; omega), List.getElem?_map, hv]
        rfl
    · rw [List.getElem?_append_right (by simpa using Nat.le_of_not_lt hi), List.getElem?_replicate] at e
      split at e
      · rename_i hlt
        cases e
        refine ⟨none, ?_, trivial⟩
        rw [List.getElem?_append_right (by rw [List.length_map]; omega), List.getElem?_replicate, if_pos (by rw [List.length_map] at *; omega)]
      · cases e
  have noOwn : ∀ (i : Nat) (a : Addr), ¬ OwnI (L2.start N' vs) (ds.map Sl.sh ++ List.replicate (N'.length - ps.length) Sl.no) i a := fun i a ⟨⟨d, e⟩, _⟩ => by
    by_cases hi : i < ds.length
    · rw [List.getElem?_append_left (by simpa using hi), List.getElem?_map] at e
      cases ed : ds[i]? with
      | none => rw [ed] at e; cases e
      | some d => rw [ed] at e; cases e
    · rw [List.getElem?_append_right (by simpa using Nat.le_of_not_lt hi), List.getElem?_replicate] at e
      split at e <;> cases e
  have hl : (L2.start N' vs).length = (ds.map Sl.sh ++ List.replicate (N'.length - ps.length) Sl.no).length := by
    unfold L2.start
    simp only [List.length_append, List.length_map, List.length_replicate]
    omega
  refine hDS ⟨F, H, []⟩ F (L2.start N' vs) H { nx := fun _ H' => Q .non H', rt := Q } ⟨⟨hl, hslots, fun i j a h => absurd h (noOwn i a), fun i a h => absurd h (noOwn i a), hF, hT⟩, fun _ h => h, fun _ h => .inl h, fun _ _ h _ _ => h, fun _ h => h, fun _ h => h, fun i a h => absurd h (noOwn i a), .nil⟩ ?_
  have hm2 : m fun o => Pr o.toR ∧ (md = .O → ∀ s, o ≠ .nx s) := by
    have h1 := hM Pr hM'
    by_cases e : md = .O
    · have h2 := hO e _ h1
      have : (fun o : O Unit Unit => Pr o.toR ∧ (md = .O → ∀ s, o ≠ .nx s)) = fun o => Pr o.toR ∧ ∀ s, o ≠ .nx s := by
        funext o; rw [eq_iff_iff]; exact ⟨fun h => ⟨h.1, h.2 e⟩, fun h => ⟨h.1, fun _ => h.2⟩⟩
      rw [this]; exact h2
    · have : (fun o : O Unit Unit => Pr o.toR ∧ (md = .O → ∀ s, o ≠ .nx s)) = fun o => Pr o.toR := by
        funext o; rw [eq_iff_iff]; exact ⟨fun h => h.1, fun h => ⟨h, fun z => absurd z e⟩⟩
      rw [this]; exact h1
  refine ⟨_, fun o ho => ?_, hm2⟩
  obtain ⟨ho, hoO⟩ := ho
  have q := q _ ho
  cases o with
  | nx s1 =>
    intro F' σ' H' I' _
    have q : ∀ F' v H', Stp T F H F' H' → RepM K F' H' md H v .non → Q v H' := q
    refine q F' .non H' ⟨I'.inc, I'.new, fun b o e n => I'.keep b o e n (by simp), I'.there, I'.tape, fun _ => I'.er.tabs, fun _ => I'.er.ftr⟩ ?_
    cases md with
    | S => exact .non
    | B => exact .inl .non
    | O => exact absurd rfl (hoO rfl s1)
  | rt d us =>
    intro F' v H' s1 r1 _
    have q : ∀ F' v H', Stp T F H F' H' → RepM K F' H' md H v d → Q v H' := q
    exact q F' v H' ⟨s1.inc, s1.new, fun b o e n => s1.keep b o e n (by simp), s1.there, s1.tape, fun _ => s1.tabs, fun _ => s1.ftr⟩ r1
  | bk s1 => exact q.elim
  | ct s1 => exact q.elim
  | xc c =>
    intro F' C dd σ' H' I' hmC
    have q : ∀ F' C dd H', Stp T F H F' H' → mg c = some (.ref C) → E (.ref C) dd H' := q
    exact q F' C dd H' ⟨I'.inc, I'.new, fun b o e n => I'.keep b o e n (by simp), I'.there, I'.tape, fun _ => I'.er.tabs, fun _ => I'.er.ftr⟩ hmC
  | st => exact q.elim
end
/-- a code object's head, read off the heap's fragment -/
theorem codeHd_mk {K : PySem.W.Frag} {h : Heap} {c Pt : Addr} {od : Option Addr} {osl : Array (Option Value)} {vs : Array Value} {file : Str} {tf tg tt : Tok} {flags text : Int} {inF : Bool} (X : K.In h)
    (l : List.lookup c K = some ⟨.type "code", od, .fields vs, osl⟩) (e11 : vs[11]? = some (.ref Pt)) (e18 : vs.getD 18 .none = .str file tf) (e7 : vs.getD 7 .none = .int flags tg) (e9 : vs.getD 9 .none = .bool inF) (e10 : vs.getD 10 .none = .int text tt) (ne : c ≠ Pt) : PySem.W.CodeHd h c Pt :=
  ⟨_, vs, file, tf, flags, tg, inF, text, tt, X _ _ l, rfl, rfl, e11, by rw [Array.getD_eq_getD_getElem?, e11]; rfl, e18, e7, e9, e10, ne⟩
/-- no lists stand in the fragment -/
def noLst (K : PySem.W.Frag) : Bool := K.all fun p => match p.2.cls with | .type t => !(t == "list") | _ => true
theorem noLst_of {K : PySem.W.Frag} {a : Addr} {o : Obj} (h : noLst K = true) (l : List.lookup a K = some o) (e : o.cls = .type "list") : False := by
  unfold noLst at h
  induction K with
  | nil => cases l
  | cons p K ih =>
    rw [List.all_cons, Bool.and_eq_true] at h
    rw [List.lookup_cons] at l
    split at l
    · cases l
      have := h.1
      rw [e] at this
      simp at this
    · exact ih h.2 l
/-- a value of the fragment stands for data -/
def kval (K : PySem.W.Frag) : Nat → Value → D → Bool
  | 0, _, _ => false
  | n + 1, u, d => match u, d with
    | .none, .non => true
    | .bool b, .bl c => b == c
    | .int i _, .int j => i == j
    | .str s _, .str l => s == SS l && okcB l
    | .ref a, .tup ds => (match List.lookup a K with
      | some ⟨.type t, _, .seq its _, _⟩ => t == "tuple" && decide (its.size ≤ sizeLine) && its.toList.length == ds.length && (its.toList.zip ds).all fun p => kval K n p.1 p.2
      | _ => false)
    | _, _ => false
theorem kval_of {K : PySem.W.Frag} : ∀ {n : Nat} {u : Value} {d : D}, kval K n u d = true → ∃ v, RelV v u ∧ KRep K v d
  | 0, _, _, h => by cases h
  | n + 1, u, d, h => by
    unfold kval at h
    split at h
    · exact ⟨.non, rfl, fun F H => .non⟩
    · rename_i b c
      have : b = c := by simpa using h
      subst this
      exact ⟨.bl b, rfl, fun F H => .bl _⟩
    · rename_i i t j
      have : i = j := by simpa using h
      subst this
      exact ⟨.int i, ⟨t, rfl⟩, fun F H => .int _⟩
    · rename_i s t l
      rw [Bool.and_eq_true] at h
      have : s = SS l := by simpa using h.1
      subst this
      refine ⟨.str (SS l), ⟨t, rfl⟩, fun F H => .str _ fun c hc => ?_⟩
      have h2 := h.2
      unfold okcB at h2
      rw [List.all_eq_true] at h2
      simpa using h2 c hc
    · rename_i a ds
      split at h
      · rename_i t od its m osl e
        simp only [Bool.and_eq_true, beq_iff_eq, decide_eq_true_eq] at h
        obtain ⟨⟨⟨ht, hs⟩, hl⟩, ha⟩ := h
        subst ht
        have key : ∀ (us : List Value) (ds : List D), us.length = ds.length → ((us.zip ds).all fun p => kval K n p.1 p.2) = true → ∃ vs, Vals vs us ∧ ∀ F H, Reps K F H vs ds := by
          intro us
          induction us with
          | nil => intro ds hl _; cases ds with
            | nil => exact ⟨[], .nil, fun F H => .nil⟩
            | cons _ _ => simp at hl
          | cons u us ih =>
            intro ds hl ha
            cases ds with
            | nil => simp at hl
            | cons d ds =>
              rw [List.zip_cons_cons, List.all_cons, Bool.and_eq_true] at ha
              obtain ⟨v, h1, h2⟩ := kval_of ha.1
              obtain ⟨vs, h3, h4⟩ := ih ds (by simpa using hl) ha.2
              exact ⟨v :: vs, .cons h1 h3, fun F H => .cons (h2 F H) (h4 F H)⟩
        obtain ⟨vs, h1, h2⟩ := key _ _ hl ha
        exact ⟨.ref a, rfl, fun F H => .tup (.inr ⟨_, its, m, e, rfl, rfl, hs, h1⟩) (h2 F H)⟩
      · cases h
    · cases h
/-- a def's text, from what stands in the fragment -/
theorem funC_mk {K : PySem.W.Frag} {x : Str} {st : Stmt} {f : Addr} {oc : Value} {od an : Option Addr} {osl : Array (Option Value)} {kV doc pm cdv ct : Value} {C : Value → Prop}
    (l : List.lookup f K = some ⟨oc, od, .func (PySem.W.fnOf x x (defArgs st) (defBody st) (defScope st) .none kV doc pm an cdv ct), osl⟩) (c : PySem.W.codeIn K cdv x = true) (kp : PySem.W.keepIn K (.ref f) = true) (hC : C cdv) :
    FunC K x st f (PySem.W.fnOf x x (defArgs st) (defBody st) (defScope st) .none kV doc pm an cdv ct) C := ⟨⟨_, _, _, _, _, _, _, _, _, rfl, l, c, hC⟩, kp⟩
theorem tabs_of {T : Tb} {cs : List (Addr × Addr)} {H : Hp} (hT : ∀ q ∈ T, ∃ p ∈ cs, q.1 = p.2) (h : ∀ p ∈ cs, H p.2 = some (.tbl #[])) : LamX.Tabs T H := fun q hq => by
  obtain ⟨p, hp, e⟩ := hT q hq
  exact ⟨#[], by rw [e]; exact h p hp, trivial, fun pos cv z => by cases z⟩
/-- the law, joined -/
theorem lawAt_of {l : PySem.W.OpenLaw} {w : World} {mg : Str → Option Value} {fa : Addr} {h : Heap} {K : PySem.W.Frag} {n k : Nat} {x : Str} {fd : FuncData} {cs : List (Addr × Addr)} {T : Tb} {M : List D → N (R D)}
    (tab : ∀ p ∈ cs, h.get? p.2 = some (PySem.W.tabObj #[])) (nk : ∀ p ∈ cs, List.lookup p.2 K = none) (hd : ∀ p ∈ cs, PySem.W.CodeHd h p.1 p.2) (nl : noLst K = true)
    (hb : ∀ (s : Shared) (u : Value), BindsTo s fd ⟨[u], []⟩ [(x, u)]) (hT : ∀ q ∈ T, ∃ p ∈ cs, q.1 = p.2)
    (hM : ∀ ns : List Int, ns.length ≤ n → (∀ z ∈ ns, Builtin.Int.intBits z ≤ 1048576) → M [.lst (ns.map .int)] fun r => r = .ok (.bl true))
    (ok : ∀ base : Heap, K.In base → base.Ns mainGlobals mg → (∀ p ∈ cs, LamX.TabB base mg p.1 p.2) → FnOk l.prog w K mg base (L2.CX l.prog w) k fa fd [x] (spN K T mg .S 1 M)) :
    LamX.LawAtS l w K (L2.CX l.prog w) k n x mg fa h := by
  refine ⟨fd, cs, _, tab, nk, hd, hb, fun H a ns h1 h2 h3 h4 => ?_, ok⟩
  have hr : Rd H a (.lst (ns.map V.int)) := by
    rcases h4 with h4 | ⟨o, its, m, e, e2, _⟩
    · exact h4
    · exact (noLst_of nl e e2).elim
  refine ⟨rfl, fun b => b = a, [.lst (ns.map .int)], fun b hb => ?_, tabs_of hT h3, .cons (.lst rfl hr (reps_ints ns)) .nil, _, fun r hr => ?_, hM ns h1 h2⟩
  · subst hb
    rcases hr with hr | ⟨ob, hr⟩
    · exact ⟨_, hr, fun ps z => by cases z⟩
    · exact ⟨_, hr, fun ps z => by cases z⟩
  · subst hr
    intro F' v H' _ r
    cases (show Rep K F' H' v (.bl true) from r)
    rfl
theorem cx_no {P : Program} {w : World} {H : Hp} {s : Shared} {e : Value} {s' : Shared} (h : L2.CX P w [] H s (fun _ _ _ => False) e s') : False := by
  obtain ⟨_, _, _, _, _, _, _, _, _, _, _, _, h⟩ := h
  exact h
end DL

-- K22H
set_option Elab.async false
set_option linter.all false
set_option maxRecDepth 100000
set_option maxHeartbeats 0
namespace K22
open DL PySem PySem.Spec PyProof.Rows L2

def topS (i : Nat) : Stmt := PySem.Challenge.pw_fewestbits_k22_whole_mixtures_of_voices.main.body.getD i (.Pass ⟨0, 0, 0, 0⟩)

theorem bt_abs : bootBuiltins "abs" = some (.builtin "abs") := by decide +kernel

theorem bt_all : bootBuiltins "all" = some (.builtin "all") := by decide +kernel

theorem bt_enumerate : bootBuiltins "enumerate" = some (.type "enumerate") := by decide +kernel

theorem bt_int : bootBuiltins "int" = some (.type "int") := by decide +kernel

theorem bt_len : bootBuiltins "len" = some (.builtin "len") := by decide +kernel

theorem bt_range : bootBuiltins "range" = some (.type "range") := by decide +kernel

theorem bt_str : bootBuiltins "str" = some (.type "str") := by decide +kernel

theorem bt_tuple : bootBuiltins "tuple" = some (.type "tuple") := by decide +kernel

theorem bt_zip : bootBuiltins "zip" = some (.type "zip") := by decide +kernel

abbrev t__law_tape : Stmt := topS 27

abbrev t__law_gcd : Stmt := topS 29

abbrev t__law_ratio : Stmt := topS 30

abbrev t__law_times : Stmt := topS 33

abbrev t_is_bits : Stmt := topS 6

abbrev t_check_bits : Stmt := topS 7

abbrev t_less : Stmt := topS 15

abbrev t_check_voices : Stmt := topS 19

abbrev t_share : Stmt := topS 11

abbrev t_plus : Stmt := topS 12

abbrev t_sum_of : Stmt := topS 16

abbrev t_times : Stmt := topS 13

abbrev t_heard : Stmt := topS 22

abbrev t_over : Stmt := topS 14

abbrev t_said_next : Stmt := topS 23

abbrev t_voice_share : Stmt := topS 20

abbrev t_bits_for : Stmt := topS 17

abbrev t_mixed_share : Stmt := topS 21

abbrev t_most_lost : Stmt := topS 24

abbrev t__law_take : Stmt := topS 28

abbrev t__law_said : Stmt := topS 34

abbrev t__law_share : Stmt := topS 35

abbrev t__law_sum : Stmt := topS 32

abbrev t_switching : Stmt := topS 25

abbrev t__law_switched : Stmt := topS 37

abbrev t__law_bits_for : Stmt := topS 36

abbrev t_law : Stmt := topS 38

abbrev t__law_refused : Stmt := topS 31

theorem sc__law_tape : FnScope ["script", "cells", "cell", "seed"] ["script"] (defScope t__law_tape) := ⟨rfl, rfl, rfl, by decide +kernel, rfl, by decide +kernel, by decide +kernel⟩

theorem sc__law_gcd : FnScope ["a", "b"] ["a", "b"] (defScope t__law_gcd) := ⟨rfl, rfl, rfl, by decide +kernel, rfl, by decide +kernel, by decide +kernel⟩

theorem sc__law_ratio : FnScope ["n", "d", "most"] ["n", "d"] (defScope t__law_ratio) := ⟨rfl, rfl, rfl, by decide +kernel, rfl, by decide +kernel, by decide +kernel⟩

theorem sc__law_times : FnScope ["a", "b"] ["a", "b"] (defScope t__law_times) := ⟨rfl, rfl, rfl, by decide +kernel, rfl, by decide +kernel, by decide +kernel⟩

theorem sc_is_bits : FnScope ["text", "sign"] ["text"] (defScope t_is_bits) := ⟨rfl, rfl, rfl, by decide +kernel, rfl, by decide +kernel, by decide +kernel⟩

theorem sc_check_bits : FnScope ["text"] ["text"] (defScope t_check_bits) := ⟨rfl, rfl, rfl, by decide +kernel, rfl, by decide +kernel, by decide +kernel⟩

theorem sc_less : FnScope ["a", "b"] ["a", "b"] (defScope t_less) := ⟨rfl, rfl, rfl, by decide +kernel, rfl, by decide +kernel, by decide +kernel⟩

theorem sc_check_voices : FnScope ["voices", "size", "row", "a"] ["voices", "size"] (defScope t_check_voices) := ⟨rfl, rfl, rfl, by decide +kernel, rfl, by decide +kernel, by decide +kernel⟩

theorem sc_share : FnScope ["n", "d", "a", "b"] ["n", "d"] (defScope t_share) := ⟨rfl, rfl, rfl, by decide +kernel, rfl, by decide +kernel, by decide +kernel⟩

theorem sc_plus : FnScope ["a", "b"] ["a", "b"] (defScope t_plus) := ⟨rfl, rfl, rfl, by decide +kernel, rfl, by decide +kernel, by decide +kernel⟩

theorem sc_sum_of : FnScope ["row", "total", "a"] ["row"] (defScope t_sum_of) := ⟨rfl, rfl, rfl, by decide +kernel, rfl, by decide +kernel, by decide +kernel⟩

theorem sc_times : FnScope ["a", "b"] ["a", "b"] (defScope t_times) := ⟨rfl, rfl, rfl, by decide +kernel, rfl, by decide +kernel, by decide +kernel⟩

theorem sc_heard : FnScope ["weights", "voices", "k", "bit", "said", "row", "weight", "a"] ["weights", "voices", "k", "bit"] (defScope t_heard) := ⟨rfl, rfl, rfl, by decide +kernel, rfl, by decide +kernel, by decide +kernel⟩

theorem sc_over : FnScope ["a", "b"] ["a", "b"] (defScope t_over) := ⟨rfl, rfl, rfl, by decide +kernel, rfl, by decide +kernel, by decide +kernel⟩

theorem sc_said_next : FnScope ["voices", "bits", "weights", "found", "k", "bit", "told", "weight", "row"] ["voices", "bits"] (defScope t_said_next) := ⟨rfl, rfl, rfl, by decide +kernel, rfl, by decide +kernel, by decide +kernel⟩

theorem sc_voice_share : FnScope ["row", "bits", "found", "a", "bit"] ["row", "bits"] (defScope t_voice_share) := ⟨rfl, rfl, rfl, by decide +kernel, rfl, by decide +kernel, by decide +kernel⟩

theorem sc_bits_for : FnScope ["a", "many"] ["a"] (defScope t_bits_for) := ⟨rfl, rfl, rfl, by decide +kernel, rfl, by decide +kernel, by decide +kernel⟩

theorem sc_mixed_share : FnScope ["voices", "bits", "row"] ["voices", "bits"] (defScope t_mixed_share) := ⟨rfl, rfl, rfl, by decide +kernel, rfl, by decide +kernel, by decide +kernel⟩

theorem sc_most_lost : FnScope ["voices", "bits", "best", "row", "told"] ["voices", "bits"] (defScope t_most_lost) := ⟨rfl, rfl, rfl, by decide +kernel, rfl, by decide +kernel, by decide +kernel⟩

theorem sc__law_take : FnScope ["tape", "many", "drawn", "mixed"] ["tape", "many"] (defScope t__law_take) := ⟨rfl, rfl, rfl, by decide +kernel, rfl, by decide +kernel, by decide +kernel⟩

theorem sc__law_said : FnScope ["a", "bit"] ["a", "bit"] (defScope t__law_said) := ⟨rfl, rfl, rfl, by decide +kernel, rfl, by decide +kernel, by decide +kernel⟩

theorem sc__law_share : FnScope ["row", "bits", "found", "k"] ["row", "bits"] (defScope t__law_share) := ⟨rfl, rfl, rfl, by decide +kernel, rfl, by decide +kernel, by decide +kernel⟩

theorem sc__law_sum : FnScope ["row", "n", "d", "a", "b"] ["row"] (defScope t__law_sum) := ⟨rfl, rfl, rfl, by decide +kernel, rfl, by decide +kernel, by decide +kernel⟩

theorem sc_switching : FnScope ["voices", "bits", "rate", "weights", "other", "stay", "k", "bit", "total", "rests", "one", "rest"] ["voices", "bits", "rate"] (defScope t_switching) := ⟨rfl, rfl, rfl, by decide +kernel, rfl, by decide +kernel, by decide +kernel⟩

theorem sc__law_switched : FnScope ["voices", "bits", "rate", "now", "at", "rows", "k", "step"] ["voices", "bits", "rate", "now", "at"] (defScope t__law_switched) := ⟨rfl, rfl, rfl, by decide +kernel, rfl, by decide +kernel, by decide +kernel⟩

theorem sc__law_bits_for : FnScope ["a", "many", "power"] ["a"] (defScope t__law_bits_for) := ⟨rfl, rfl, rfl, by decide +kernel, rfl, by decide +kernel, by decide +kernel⟩

theorem sc_law : FnScope ["script", "tape", "turn", "size", "many", "bits", "k", "voices", "j", "shares", "row", "whole", "said", "ahead", "due", "total", "best", "share_v", "told", "rate", "bad"] ["script"] (defScope t_law) := ⟨rfl, rfl, rfl, by decide +kernel, rfl, by decide +kernel, by decide +kernel⟩

theorem sc__law_refused : FnScope ["call"] ["call"] (defScope t__law_refused) := ⟨rfl, rfl, rfl, by decide +kernel, rfl, by decide +kernel, by decide +kernel⟩

theorem io0 {env : List Sl} : ioUs env [] [] := ⟨rfl, fun k i h => by simp at h⟩

/-- what the top has written -/
structure TX (P : Program) (w : World) (K : PySem.W.Frag) (mg : Str → Option Value) (base : Heap) (T : Tb) : Prop where
  d__law_tape : ∃ (f : Addr) (fd : FuncData), mg "_law_tape" = some (.ref f) ∧ Fun K "_law_tape" "_law_tape" t__law_tape f fd ∧ Binds K fd ["script"] []
  d__law_gcd : ∃ (f : Addr) (fd : FuncData), mg "_law_gcd" = some (.ref f) ∧ Fun K "_law_gcd" "_law_gcd" t__law_gcd f fd ∧ Binds K fd ["a", "b"] []
  d__law_ratio : ∃ (f : Addr) (fd : FuncData), mg "_law_ratio" = some (.ref f) ∧ Fun K "_law_ratio" "_law_ratio" t__law_ratio f fd ∧ Binds K fd ["n", "d"] []
  d__law_times : ∃ (f : Addr) (fd : FuncData), mg "_law_times" = some (.ref f) ∧ Fun K "_law_times" "_law_times" t__law_times f fd ∧ Binds K fd ["a", "b"] []
  d_is_bits : ∃ (f : Addr) (fd : FuncData), mg "is_bits" = some (.ref f) ∧ Fun K "is_bits" "is_bits" t_is_bits f fd ∧ Binds K fd ["text"] []
  d_check_bits : ∃ (f : Addr) (fd : FuncData), mg "check_bits" = some (.ref f) ∧ Fun K "check_bits" "check_bits" t_check_bits f fd ∧ Binds K fd ["text"] []
  d_less : ∃ (f : Addr) (fd : FuncData), mg "less" = some (.ref f) ∧ Fun K "less" "less" t_less f fd ∧ Binds K fd ["a", "b"] []
  d_check_voices : ∃ (f : Addr) (fd : FuncData), mg "check_voices" = some (.ref f) ∧ Fun K "check_voices" "check_voices" t_check_voices f fd ∧ Binds K fd ["voices", "size"] []
  d_share : ∃ (f : Addr) (fd : FuncData), mg "share" = some (.ref f) ∧ Fun K "share" "share" t_share f fd ∧ Binds K fd ["n", "d"] []
  d_plus : ∃ (f : Addr) (fd : FuncData), mg "plus" = some (.ref f) ∧ Fun K "plus" "plus" t_plus f fd ∧ Binds K fd ["a", "b"] []
  d_sum_of : ∃ (f : Addr) (fd : FuncData), mg "sum_of" = some (.ref f) ∧ Fun K "sum_of" "sum_of" t_sum_of f fd ∧ Binds K fd ["row"] []
  d_times : ∃ (f : Addr) (fd : FuncData), mg "times" = some (.ref f) ∧ Fun K "times" "times" t_times f fd ∧ Binds K fd ["a", "b"] []
  d_heard : ∃ (f : Addr) (fd : FuncData), mg "heard" = some (.ref f) ∧ Fun K "heard" "heard" t_heard f fd ∧ Binds K fd ["weights", "voices", "k", "bit"] []
  d_over : ∃ (f : Addr) (fd : FuncData), mg "over" = some (.ref f) ∧ Fun K "over" "over" t_over f fd ∧ Binds K fd ["a", "b"] []
  d_said_next : ∃ (f : Addr) (fd : FuncData), mg "said_next" = some (.ref f) ∧ Fun K "said_next" "said_next" t_said_next f fd ∧ Binds K fd ["voices", "bits"] []
  d_voice_share : ∃ (f : Addr) (fd : FuncData), mg "voice_share" = some (.ref f) ∧ Fun K "voice_share" "voice_share" t_voice_share f fd ∧ Binds K fd ["row", "bits"] []
  d_bits_for : ∃ (f : Addr) (fd : FuncData), mg "bits_for" = some (.ref f) ∧ Fun K "bits_for" "bits_for" t_bits_for f fd ∧ Binds K fd ["a"] []
  d_mixed_share : ∃ (f : Addr) (fd : FuncData), mg "mixed_share" = some (.ref f) ∧ Fun K "mixed_share" "mixed_share" t_mixed_share f fd ∧ Binds K fd ["voices", "bits"] []
  d_most_lost : ∃ (f : Addr) (fd : FuncData), mg "most_lost" = some (.ref f) ∧ Fun K "most_lost" "most_lost" t_most_lost f fd ∧ Binds K fd ["voices", "bits"] []
  d__law_take : ∃ (f : Addr) (fd : FuncData), mg "_law_take" = some (.ref f) ∧ Fun K "_law_take" "_law_take" t__law_take f fd ∧ Binds K fd ["tape", "many"] []
  d__law_said : ∃ (f : Addr) (fd : FuncData), mg "_law_said" = some (.ref f) ∧ Fun K "_law_said" "_law_said" t__law_said f fd ∧ Binds K fd ["a", "bit"] []
  d__law_share : ∃ (f : Addr) (fd : FuncData), mg "_law_share" = some (.ref f) ∧ Fun K "_law_share" "_law_share" t__law_share f fd ∧ Binds K fd ["row", "bits"] []
  d__law_sum : ∃ (f : Addr) (fd : FuncData), mg "_law_sum" = some (.ref f) ∧ Fun K "_law_sum" "_law_sum" t__law_sum f fd ∧ Binds K fd ["row"] []
  d_switching : ∃ (f : Addr) (fd : FuncData), mg "switching" = some (.ref f) ∧ Fun K "switching" "switching" t_switching f fd ∧ Binds K fd ["voices", "bits", "rate"] []
  d__law_switched : ∃ (f : Addr) (fd : FuncData), mg "_law_switched" = some (.ref f) ∧ Fun K "_law_switched" "_law_switched" t__law_switched f fd ∧ Binds K fd ["voices", "bits", "rate", "now", "at"] []
  d__law_bits_for : ∃ (f : Addr) (fd : FuncData), mg "_law_bits_for" = some (.ref f) ∧ Fun K "_law_bits_for" "_law_bits_for" t__law_bits_for f fd ∧ Binds K fd ["a"] []
  d__law_refused : ∃ (f : Addr) (fd : FuncData), mg "_law_refused" = some (.ref f) ∧ Fun K "_law_refused" "_law_refused" t__law_refused f fd ∧ Binds K fd ["call"] []
  b_abs : mg "abs" = none
  b_all : mg "all" = none
  b_enumerate : mg "enumerate" = none
  b_int : mg "int" = none
  b_len : mg "len" = none
  b_range : mg "range" = none
  b_str : mg "str" = none
  b_tuple : mg "tuple" = none
  b_zip : mg "zip" = none
  g_MOST_BITS : ∃ (u : Value) (v : V), mg "MOST_BITS" = some u ∧ RelV v u ∧ KRep K v G_MOST_BITS
  g_ONE : ∃ (u : Value) (v : V), mg "ONE" = some u ∧ RelV v u ∧ KRep K v G_ONE
  g_ZERO : ∃ (u : Value) (v : V), mg "ZERO" = some u ∧ RelV v u ∧ KRep K v G_ZERO
  x_InvalidBits : ∃ C : Addr, PySem.W.excIn K C [.type "ValueError", .type "Exception", .type "BaseException", .type "object"] "ValueError.__new__" = true ∧ mg "InvalidBits" = some (.ref C) ∧ PySem.W.keepIn K (.ref C) = true ∧ PySem.W.subIn K (.ref C) (.type "BaseException") = some true ∧ PySem.W.typeIn K (.ref C) = some (.type "type")
  x_InvalidCounts : ∃ C : Addr, PySem.W.excIn K C [.type "ValueError", .type "Exception", .type "BaseException", .type "object"] "ValueError.__new__" = true ∧ mg "InvalidCounts" = some (.ref C) ∧ PySem.W.keepIn K (.ref C) = true ∧ PySem.W.subIn K (.ref C) (.type "BaseException") = some true ∧ PySem.W.typeIn K (.ref C) = some (.type "type")
  sub : SubOk K mg subT

end K22

-- K22Flaw_bits_for
set_option Elab.async false
set_option linter.all false
set_option maxRecDepth 100000
set_option maxHeartbeats 0
namespace K22
open DL PySem PySem.Spec PyProof.Rows L2
section
variable {P : Program} {w : World} {K : PySem.W.Frag} {mg : Str → Option Value} {base : Heap} {T : Tb}
theorem fn__law_bits_for (Fx : TX P w K mg base T) : FnD P w K mg base T 1 "_law_bits_for" 1 .S M__law_bits_for := by
  obtain ⟨f, fd, hm, Fn, b⟩ := Fx.d__law_bits_for
  refine fnD_of Fn hm sc__law_bits_for b fun cdv A outer s H E ds hl hr => ?_
  have nd := sc__law_bits_for.nd
  have tk := takes_cx (P := P) (w := w) (K := K) (mg := mg) (base := base) (N := ["a", "many", "power"]) (q := "_law_bits_for") (scope := defScope t__law_bits_for) (f := f) (cd := cdv) (A := A) (outer := outer) (s := s) (H := H) (E := E)
  have hu1 := hr.u1
  have hu64 := hr.u64
  have hu65 := hr.u65
  match ds, hl with
  | [a0], _ => exact ⟨B__law_bits_for a0, (by exact ds_env (e' := [.sh (a0), .no, .no]) rfl (dss_asgP (pt := (Pat.tp [(Pat.nm 1), (Pat.nm 2)])) (de_tup (da_cons (de_int) (da_cons (de_int) (da_nil) (by kernel_rfl)) (by kernel_rfl)) (by decide)) (gt_tup (gts_cons (gt_nm (i := 1) nd (by kernel_rfl) (by exact loc_of (by kernel_rfl)) (by first | exact .inl rfl | exact .inr rfl)) (gts_cons (gt_nm (i := 2) nd (by kernel_rfl) (by exact loc_of (by kernel_rfl)) (by first | exact .inl rfl | exact .inr rfl)) gts_nil (by kernel_rfl)) (by kernel_rfl)) rfl (by kernel_rfl) (by kernel_rfl)) (fun d6 => dso_2 fun p7 p8 => by exact ds_env (e' := [.sh (a0), .sh (p7), .sh (p8)]) rfl (dss_while (injb := (fun (s9 : D × D) => [.sh (a0), .sh (s9.1), .sh (s9.2)])) (s0 := ((p7), (p8))) (n := szDs [a0, p7, p8] + 1000) (fun s10 => dt_cmp o_lt (DE.toB (de_op o_mul (DE.toB (de_ix (DE.toB (de_v (i := 0) rfl (by kernel_rfl) (by exact vis_of (by kernel_rfl)) (by kernel_rfl) (by kernel_rfl))) (DE.toB (de_int)) (by intro _ _; kernel_rfl))) (DE.toB (de_v (i := 2) rfl (by kernel_rfl) (by exact vis_of (by kernel_rfl)) (by kernel_rfl) (by kernel_rfl))))) (DE.toB (de_ix (DE.toB (de_v (i := 0) rfl (by kernel_rfl) (by exact vis_of (by kernel_rfl)) (by kernel_rfl) (by kernel_rfl))) (DE.toB (de_int)) (by intro _ _; kernel_rfl))) (by first | exact nomark _ | rfl)) (fun s10 => by exact ds_env (e' := [.sh (a0), .sh (s10.1), .sh (s10.2)]) rfl (dss_parL (i := 1) (j := 2) (da_cons (de_op o_add (DE.toB (de_v (i := 1) rfl (by kernel_rfl) (by exact vis_of (by kernel_rfl)) (by kernel_rfl) (by kernel_rfl))) (DE.toB (de_int))) (da_cons (de_op o_mul (DE.toB (de_int)) (DE.toB (de_v (i := 2) rfl (by kernel_rfl) (by exact vis_of (by kernel_rfl)) (by kernel_rfl) (by kernel_rfl)))) (da_nil) (by kernel_rfl)) (by kernel_rfl)) (fun v27 v28 => by exact ds_env (e' := [.sh (a0), .sh (v27), .sh (v28)]) rfl (dss_nil (s := ((v27), (v28))) (.eq (.eq (.eq .nil))))) trivial rfl nd (by kernel_rfl) (by kernel_rfl) (by decide) (by kernel_rfl) (by kernel_rfl) (by decide) (by decide) (by kernel_rfl) (by kernel_rfl))) (fun s30 => by exact ds_env (e' := [.sh (a0), .sh (s30.1), .sh (s30.2)]) rfl (dss_ret (us := []) (de_v (i := 1) rfl (by kernel_rfl) (by exact vis_of (by kernel_rfl)) (by kernel_rfl) (by kernel_rfl)) trivial io0)) (.eq (.eq (.eq .nil))) trivial owns_cx)) trivial (by decide) (by kernel_rfl) (by kernel_rfl) (by kernel_rfl))), rfl, nofun⟩
end
end K22

-- K22Flaw_gcd
set_option Elab.async false
set_option linter.all false
set_option maxRecDepth 100000
set_option maxHeartbeats 0
namespace K22
open DL PySem PySem.Spec PyProof.Rows L2
section
variable {P : Program} {w : World} {K : PySem.W.Frag} {mg : Str → Option Value} {base : Heap} {T : Tb}
theorem fn__law_gcd (Fx : TX P w K mg base T) : FnD P w K mg base T 1 "_law_gcd" 2 .S M__law_gcd := by
  obtain ⟨f, fd, hm, Fn, b⟩ := Fx.d__law_gcd
  have hb_abs := Fx.b_abs
  have hb_int := Fx.b_int
  refine fnD_of Fn hm sc__law_gcd b fun cdv A outer s H E ds hl hr => ?_
  have nd := sc__law_gcd.nd
  have tk := takes_cx (P := P) (w := w) (K := K) (mg := mg) (base := base) (N := ["a", "b"]) (q := "_law_gcd") (scope := defScope t__law_gcd) (f := f) (cd := cdv) (A := A) (outer := outer) (s := s) (H := H) (E := E)
  have hu1 := hr.u1
  have hu64 := hr.u64
  have hu65 := hr.u65
  match ds, hl with
  | [a0, a1], _ => exact ⟨B__law_gcd a0 a1, (by exact ds_env (e' := [.sh (a0), .sh (a1)]) rfl (dss_parL (i := 0) (j := 1) (da_cons (de_c1B c_abs bt_abs hb_abs (DE.toB (de_v (i := 0) rfl (by kernel_rfl) (by exact vis_of (by kernel_rfl)) (by kernel_rfl) (by kernel_rfl))) (by exact gl_of (by kernel_rfl)) (by exact ne_name (by kernel_rfl)) (by kernel_rfl) (by kernel_rfl) (by kernel_rfl)) (da_cons (de_c1B c_abs bt_abs hb_abs (DE.toB (de_v (i := 1) rfl (by kernel_rfl) (by exact vis_of (by kernel_rfl)) (by kernel_rfl) (by kernel_rfl))) (by exact gl_of (by kernel_rfl)) (by exact ne_name (by kernel_rfl)) (by kernel_rfl) (by kernel_rfl) (by kernel_rfl)) (da_nil) (by kernel_rfl)) (by kernel_rfl)) (fun v7 v8 => by exact ds_env (e' := [.sh (v7), .sh (v8)]) rfl (dss_while (injb := (fun (s9 : D × D) => [.sh (s9.1), .sh (s9.2)])) (s0 := ((v7), (v8))) (n := szDs [v7, v8] + 1000) (fun s10 => dt_cmp o_gt (DE.toB (de_v (i := 1) rfl (by kernel_rfl) (by exact vis_of (by kernel_rfl)) (by kernel_rfl) (by kernel_rfl))) (DE.toB (de_int)) (by first | exact nomark _ | rfl)) (fun s10 => by exact ds_env (e' := [.sh (s10.1), .sh (s10.2)]) rfl (dss_parL (i := 0) (j := 1) (da_cons (de_v (i := 1) rfl (by kernel_rfl) (by exact vis_of (by kernel_rfl)) (by kernel_rfl) (by kernel_rfl)) (da_cons (de_op o_mod (DE.toB (de_c1T c_int bt_int hb_int (DE.toB (de_v (i := 0) rfl (by kernel_rfl) (by exact vis_of (by kernel_rfl)) (by kernel_rfl) (by kernel_rfl))) (by exact gl_of (by kernel_rfl)) (by exact ne_name (by kernel_rfl)) (by kernel_rfl) (by kernel_rfl) (by kernel_rfl))) (DE.toB (de_v (i := 1) rfl (by kernel_rfl) (by exact vis_of (by kernel_rfl)) (by kernel_rfl) (by kernel_rfl)))) (da_nil) (by kernel_rfl)) (by kernel_rfl)) (fun v20 v21 => by exact ds_env (e' := [.sh (v20), .sh (v21)]) rfl (dss_nil (s := ((v20), (v21))) (.eq (.eq .nil)))) trivial rfl nd (by kernel_rfl) (by kernel_rfl) (by decide) (by kernel_rfl) (by kernel_rfl) (by decide) (by decide) (by kernel_rfl) (by kernel_rfl))) (fun s23 => by exact ds_env (e' := [.sh (s23.1), .sh (s23.2)]) rfl (dss_ret (us := []) (de_v (i := 0) rfl (by kernel_rfl) (by exact vis_of (by kernel_rfl)) (by kernel_rfl) (by kernel_rfl)) trivial io0)) (.eq (.eq .nil)) trivial owns_cx)) trivial rfl nd (by kernel_rfl) (by kernel_rfl) (by decide) (by kernel_rfl) (by kernel_rfl) (by decide) (by decide) (by kernel_rfl) (by kernel_rfl))), rfl, nofun⟩
end
end K22

-- K22Flaw_ratio
set_option Elab.async false
set_option linter.all false
set_option maxRecDepth 100000
set_option maxHeartbeats 0
namespace K22
open DL PySem PySem.Spec PyProof.Rows L2
section
variable {P : Program} {w : World} {K : PySem.W.Frag} {mg : Str → Option Value} {base : Heap} {T : Tb}
theorem fn__law_ratio (Fx : TX P w K mg base T) : FnD P w K mg base T 2 "_law_ratio" 2 .S M__law_ratio := by
  obtain ⟨f, fd, hm, Fn, b⟩ := Fx.d__law_ratio
  refine fnD_of Fn hm sc__law_ratio b fun cdv A outer s H E ds hl hr => ?_
  have nd := sc__law_ratio.nd
  have tk := takes_cx (P := P) (w := w) (K := K) (mg := mg) (base := base) (N := ["n", "d", "most"]) (q := "_law_ratio") (scope := defScope t__law_ratio) (f := f) (cd := cdv) (A := A) (outer := outer) (s := s) (H := H) (E := E)
  have hu1 := hr.u1
  have hu64 := hr.u64
  have hu65 := hr.u65
  match ds, hl with
  | [a0, a1], _ => exact ⟨B__law_ratio a0 a1, (by exact ds_env (e' := [.sh (a0), .sh (a1), .no]) rfl (dss_if (inj1 := (fun (s29 : D × D) => [.sh (s29.2), .sh (s29.1), .no])) (dt_cmp o_lt (DE.toB (de_v (i := 1) rfl (by kernel_rfl) (by exact vis_of (by kernel_rfl)) (by kernel_rfl) (by kernel_rfl))) (DE.toB (de_int)) (by first | exact nomark _ | rfl)) (by exact ds_env (e' := [.sh (a0), .sh (a1), .no]) rfl (dss_parL (i := 0) (j := 1) (da_cons (de_op o_sub (DE.toB (de_int)) (DE.toB (de_v (i := 0) rfl (by kernel_rfl) (by exact vis_of (by kernel_rfl)) (by kernel_rfl) (by kernel_rfl)))) (da_cons (de_op o_sub (DE.toB (de_int)) (DE.toB (de_v (i := 1) rfl (by kernel_rfl) (by exact vis_of (by kernel_rfl)) (by kernel_rfl) (by kernel_rfl)))) (da_nil) (by kernel_rfl)) (by kernel_rfl)) (fun v11 v12 => by exact ds_env (e' := [.sh (v11), .sh (v12), .no]) rfl (dss_nil (s := ((v12), (v11))) (.eq (.eq (.no .nil))))) trivial rfl nd (by kernel_rfl) (by kernel_rfl) (by decide) (by kernel_rfl) (by kernel_rfl) (by decide) (by decide) (by kernel_rfl) (by kernel_rfl))) (by exact ds_env (e' := [.sh (a0), .sh (a1), .no]) rfl (dss_nil (s := ((a1), (a0))) (.eq (.eq (.no .nil))))) (fun s14 => by exact ds_env (e' := [.sh (s14.2), .sh (s14.1), .no]) rfl (dss_set (i := 2) (de_call (fn__law_gcd Fx) hr tk (da_cons (de_v (i := 0) rfl (by kernel_rfl) (by exact vis_of (by kernel_rfl)) (by kernel_rfl) (by kernel_rfl)) (da_cons (de_v (i := 1) rfl (by kernel_rfl) (by exact vis_of (by kernel_rfl)) (by kernel_rfl) (by kernel_rfl)) (da_nil) (by kernel_rfl)) (by kernel_rfl)) (by omega) (by kernel_rfl) (by exact gl_of (by kernel_rfl)) (by kernel_rfl) (by kernel_rfl) (by kernel_rfl)) (fun v15 => by exact ds_env (e' := [.sh (s14.2), .sh (s14.1), .sh (v15)]) rfl (dss_ret (us := []) (de_tup (da_cons (de_op o_fdiv (DE.toB (de_v (i := 0) rfl (by kernel_rfl) (by exact vis_of (by kernel_rfl)) (by kernel_rfl) (by kernel_rfl))) (DE.toB (de_v (i := 2) rfl (by kernel_rfl) (by exact vis_of (by kernel_rfl)) (by kernel_rfl) (by kernel_rfl)))) (da_cons (de_op o_fdiv (DE.toB (de_v (i := 1) rfl (by kernel_rfl) (by exact vis_of (by kernel_rfl)) (by kernel_rfl) (by kernel_rfl))) (DE.toB (de_v (i := 2) rfl (by kernel_rfl) (by exact vis_of (by kernel_rfl)) (by kernel_rfl) (by kernel_rfl)))) (da_nil) (by kernel_rfl)) (by kernel_rfl)) (by decide)) trivial io0)) trivial nd (by kernel_rfl) (by exact loc_of (by kernel_rfl)) (by decide) (by kernel_rfl) (by first | exact .inl rfl | exact .inr rfl))) trivial)), rfl, nofun⟩
end
end K22

-- K22Flaw_refused
set_option Elab.async false
set_option linter.all false
set_option maxRecDepth 100000
set_option maxHeartbeats 0
namespace K22
open DL PySem PySem.Spec PyProof.Rows L2
section
variable {P : Program} {w : World} {K : PySem.W.Frag} {mg : Str → Option Value} {base : Heap} {T : Tb}
theorem lf__law_refused (Fx : TX P w K mg base T) {X : Cx} (hK : X.K = K) (hmg : X.mg = mg) : LamFn X T "_law_refused" ans__law_refused := by
  subst hK hmg
  obtain ⟨g, fd, hm, Fn, b⟩ := Fx.d__law_refused
  obtain ⟨⟨oc, od, kV, doc, pm, an, cdv, ct, osl, rfl, lk, hcd⟩, kp⟩ := Fn
  have hx_InvalidCounts : ∃ C : Addr, X.mg "InvalidCounts" = some (.ref C) := by first | exact Fx.x_InvalidCounts | exact ⟨_, Fx.x_InvalidCounts.choose_spec.2.1⟩
  obtain ⟨C_InvalidCounts, hc_InvalidCounts⟩ := hx_InvalidCounts
  exact ⟨g, "call", _, _, _, _, _, _, _, _, _, _, _, _, _, ["call"], _, hm, kp, lk, hcd, b, sc__law_refused, rfl, .inl rfl, by decide, by decide, many_gives (.cons (e := "InvalidCounts") (CS := C_InvalidCounts) rfl hc_InvalidCounts rfl kon_bl .nil) kon_bl (fun _ => rfl) (fun _ => rfl), how_m Fx.sub (.cons hc_InvalidCounts rfl .nil) rfl⟩
end
end K22

-- K22Flaw_said
set_option Elab.async false
set_option linter.all false
set_option maxRecDepth 100000
set_option maxHeartbeats 0
namespace K22
open DL PySem PySem.Spec PyProof.Rows L2
section
variable {P : Program} {w : World} {K : PySem.W.Frag} {mg : Str → Option Value} {base : Heap} {T : Tb}
theorem fn__law_said (Fx : TX P w K mg base T) : FnD P w K mg base T 1 "_law_said" 2 .S M__law_said := by
  obtain ⟨f, fd, hm, Fn, b⟩ := Fx.d__law_said
  refine fnD_of Fn hm sc__law_said b fun cdv A outer s H E ds hl hr => ?_
  have nd := sc__law_said.nd
  have tk := takes_cx (P := P) (w := w) (K := K) (mg := mg) (base := base) (N := ["a", "bit"]) (q := "_law_said") (scope := defScope t__law_said) (f := f) (cd := cdv) (A := A) (outer := outer) (s := s) (H := H) (E := E)
  have hu1 := hr.u1
  have hu64 := hr.u64
  have hu65 := hr.u65
  match ds, hl with
  | [a0, a1], _ => exact ⟨B__law_said a0 a1, (by exact ds_env (e' := [.sh (a0), .sh (a1)]) rfl (dss_ret (us := []) (de_if (dt_cmp (o_eq hu64) (DE.toB (de_v (i := 1) rfl (by kernel_rfl) (by exact vis_of (by kernel_rfl)) (by kernel_rfl) (by kernel_rfl))) (DE.toB (de_str (s := [49]) (by kernel_rfl) (by kernel_rfl))) (by first | exact nomark _ | rfl)) (de_v (i := 0) rfl (by kernel_rfl) (by exact vis_of (by kernel_rfl)) (by kernel_rfl) (by kernel_rfl)) (de_tup (da_cons (de_op o_sub (DE.toB (de_ix (DE.toB (de_v (i := 0) rfl (by kernel_rfl) (by exact vis_of (by kernel_rfl)) (by kernel_rfl) (by kernel_rfl))) (DE.toB (de_int)) (by intro _ _; kernel_rfl))) (DE.toB (de_ix (DE.toB (de_v (i := 0) rfl (by kernel_rfl) (by exact vis_of (by kernel_rfl)) (by kernel_rfl) (by kernel_rfl))) (DE.toB (de_int)) (by intro _ _; kernel_rfl)))) (da_cons (de_ix (DE.toB (de_v (i := 0) rfl (by kernel_rfl) (by exact vis_of (by kernel_rfl)) (by kernel_rfl) (by kernel_rfl))) (DE.toB (de_int)) (by intro _ _; kernel_rfl)) (da_nil) (by kernel_rfl)) (by kernel_rfl)) (by decide))) trivial io0)), rfl, nofun⟩
end
end K22

-- K22Flaw_times
set_option Elab.async false
set_option linter.all false
set_option maxRecDepth 100000
set_option maxHeartbeats 0
namespace K22
open DL PySem PySem.Spec PyProof.Rows L2
section
variable {P : Program} {w : World} {K : PySem.W.Frag} {mg : Str → Option Value} {base : Heap} {T : Tb}
theorem fn__law_times (Fx : TX P w K mg base T) : FnD P w K mg base T 3 "_law_times" 2 .S M__law_times := by
  obtain ⟨f, fd, hm, Fn, b⟩ := Fx.d__law_times
  refine fnD_of Fn hm sc__law_times b fun cdv A outer s H E ds hl hr => ?_
  have nd := sc__law_times.nd
  have tk := takes_cx (P := P) (w := w) (K := K) (mg := mg) (base := base) (N := ["a", "b"]) (q := "_law_times") (scope := defScope t__law_times) (f := f) (cd := cdv) (A := A) (outer := outer) (s := s) (H := H) (E := E)
  have hu1 := hr.u1
  have hu64 := hr.u64
  have hu65 := hr.u65
  match ds, hl with
  | [a0, a1], _ => exact ⟨B__law_times a0 a1, (by exact ds_env (e' := [.sh (a0), .sh (a1)]) rfl (dss_ret (us := []) (de_call (fn__law_ratio Fx) hr tk (da_cons (de_op o_mul (DE.toB (de_ix (DE.toB (de_v (i := 0) rfl (by kernel_rfl) (by exact vis_of (by kernel_rfl)) (by kernel_rfl) (by kernel_rfl))) (DE.toB (de_int)) (by intro _ _; kernel_rfl))) (DE.toB (de_ix (DE.toB (de_v (i := 1) rfl (by kernel_rfl) (by exact vis_of (by kernel_rfl)) (by kernel_rfl) (by kernel_rfl))) (DE.toB (de_int)) (by intro _ _; kernel_rfl)))) (da_cons (de_op o_mul (DE.toB (de_ix (DE.toB (de_v (i := 0) rfl (by kernel_rfl) (by exact vis_of (by kernel_rfl)) (by kernel_rfl) (by kernel_rfl))) (DE.toB (de_int)) (by intro _ _; kernel_rfl))) (DE.toB (de_ix (DE.toB (de_v (i := 1) rfl (by kernel_rfl) (by exact vis_of (by kernel_rfl)) (by kernel_rfl) (by kernel_rfl))) (DE.toB (de_int)) (by intro _ _; kernel_rfl)))) (da_nil) (by kernel_rfl)) (by kernel_rfl)) (by omega) (by kernel_rfl) (by exact gl_of (by kernel_rfl)) (by kernel_rfl) (by kernel_rfl) (by kernel_rfl)) trivial io0)), rfl, nofun⟩
end
end K22

-- K22Flaw_share
set_option Elab.async false
set_option linter.all false
set_option maxRecDepth 100000
set_option maxHeartbeats 0
namespace K22
open DL PySem PySem.Spec PyProof.Rows L2
section
variable {P : Program} {w : World} {K : PySem.W.Frag} {mg : Str → Option Value} {base : Heap} {T : Tb}
theorem fn__law_share (Fx : TX P w K mg base T) : FnD P w K mg base T 4 "_law_share" 2 .S M__law_share := by
  obtain ⟨f, fd, hm, Fn, b⟩ := Fx.d__law_share
  have hb_len := Fx.b_len
  have hb_range := Fx.b_range
  refine fnD_of Fn hm sc__law_share b fun cdv A outer s H E ds hl hr => ?_
  have nd := sc__law_share.nd
  have tk := takes_cx (P := P) (w := w) (K := K) (mg := mg) (base := base) (N := ["row", "bits", "found", "k"]) (q := "_law_share") (scope := defScope t__law_share) (f := f) (cd := cdv) (A := A) (outer := outer) (s := s) (H := H) (E := E)
  have hu1 := hr.u1
  have hu64 := hr.u64
  have hu65 := hr.u65
  match ds, hl with
  | [a0, a1], _ => exact ⟨B__law_share a0 a1, (by exact ds_env (e' := [.sh (a0), .sh (a1), .no, .no]) rfl (dss_set (i := 2) (de_tup (da_cons (de_int) (da_cons (de_int) (da_nil) (by kernel_rfl)) (by kernel_rfl)) (by decide)) (fun v1 => by exact ds_env (e' := [.sh (a0), .sh (a1), .sh (v1), .no]) rfl (dss_for (pt := (Pat.nm 3)) (injb := (fun (s2 : D) => [.sh (a0), .sh (a1), .sh (s2), .no])) (s0 := (v1)) (di_r1 (md := .S) (de_c1B c_len bt_len hb_len (DE.toB (de_v (i := 1) rfl (by kernel_rfl) (by exact vis_of (by kernel_rfl)) (by kernel_rfl) (by kernel_rfl))) (by exact gl_of (by kernel_rfl)) (by exact ne_name (by kernel_rfl)) (by kernel_rfl) (by kernel_rfl) (by kernel_rfl)) hb_range (by exact gl_of (by kernel_rfl)) (by kernel_rfl)) (gt_nm (i := 3) nd (by kernel_rfl) (by exact loc_of (by kernel_rfl)) (by first | exact .inl rfl | exact .inr rfl)) (fun d6 s3 => dso_nm (by exact ds_env (e' := [.sh (a0), .sh (a1), .sh (s3), .sh (d6)]) rfl (dss_set (i := 2) (de_call (fn__law_times Fx) hr tk (da_cons (de_v (i := 2) rfl (by kernel_rfl) (by exact vis_of (by kernel_rfl)) (by kernel_rfl) (by kernel_rfl)) (da_cons (de_call (fn__law_said Fx) hr tk (da_cons (de_ix (DE.toB (de_v (i := 0) rfl (by kernel_rfl) (by exact vis_of (by kernel_rfl)) (by kernel_rfl) (by kernel_rfl))) (DE.toB (de_v (i := 3) rfl (by kernel_rfl) (by exact vis_of (by kernel_rfl)) (by kernel_rfl) (by kernel_rfl))) (by intro _ _; kernel_rfl)) (da_cons (de_ix (DE.toB (de_v (i := 1) rfl (by kernel_rfl) (by exact vis_of (by kernel_rfl)) (by kernel_rfl) (by kernel_rfl))) (DE.toB (de_v (i := 3) rfl (by kernel_rfl) (by exact vis_of (by kernel_rfl)) (by kernel_rfl) (by kernel_rfl))) (by intro _ _; kernel_rfl)) (da_nil) (by kernel_rfl)) (by kernel_rfl)) (by omega) (by kernel_rfl) (by exact gl_of (by kernel_rfl)) (by kernel_rfl) (by kernel_rfl) (by kernel_rfl)) (da_nil) (by kernel_rfl)) (by kernel_rfl)) (by omega) (by kernel_rfl) (by exact gl_of (by kernel_rfl)) (by kernel_rfl) (by kernel_rfl) (by kernel_rfl)) (fun v7 => by exact ds_env (e' := [.sh (a0), .sh (a1), .sh (v7), .sh (d6)]) rfl (dss_nil (s := (v7)) (.eq (.eq (.eq (.no .nil)))))) trivial nd (by kernel_rfl) (by exact loc_of (by kernel_rfl)) (by decide) (by kernel_rfl) (by first | exact .inl rfl | exact .inr rfl)))) (fun s20 => by exact ds_env (e' := [.sh (a0), .sh (a1), .sh (s20), .no]) rfl (dss_ret (us := []) (de_v (i := 2) rfl (by kernel_rfl) (by exact vis_of (by kernel_rfl)) (by kernel_rfl) (by kernel_rfl)) trivial io0)) (.eq (.eq (.eq (.no .nil)))) trivial owns_cx rfl (by decide) (by intro _; kernel_rfl))) trivial nd (by kernel_rfl) (by exact loc_of (by kernel_rfl)) (by decide) (by kernel_rfl) (by first | exact .inl rfl | exact .inr rfl))), rfl, nofun⟩
end
end K22

-- K22Flaw_sum
set_option Elab.async false
set_option linter.all false
set_option maxRecDepth 100000
set_option maxHeartbeats 0
namespace K22
open DL PySem PySem.Spec PyProof.Rows L2
section
variable {P : Program} {w : World} {K : PySem.W.Frag} {mg : Str → Option Value} {base : Heap} {T : Tb}
theorem fn__law_sum (Fx : TX P w K mg base T) : FnD P w K mg base T 3 "_law_sum" 1 .S M__law_sum := by
  obtain ⟨f, fd, hm, Fn, b⟩ := Fx.d__law_sum
  refine fnD_of Fn hm sc__law_sum b fun cdv A outer s H E ds hl hr => ?_
  have nd := sc__law_sum.nd
  have tk := takes_cx (P := P) (w := w) (K := K) (mg := mg) (base := base) (N := ["row", "n", "d", "a", "b"]) (q := "_law_sum") (scope := defScope t__law_sum) (f := f) (cd := cdv) (A := A) (outer := outer) (s := s) (H := H) (E := E)
  have hu1 := hr.u1
  have hu64 := hr.u64
  have hu65 := hr.u65
  match ds, hl with
  | [a0], _ => exact ⟨B__law_sum a0, (by exact ds_env (e' := [.sh (a0), .no, .no, .no, .no]) rfl (dss_asgP (pt := (Pat.tp [(Pat.nm 1), (Pat.nm 2)])) (de_tup (da_cons (de_int) (da_cons (de_int) (da_nil) (by kernel_rfl)) (by kernel_rfl)) (by decide)) (gt_tup (gts_cons (gt_nm (i := 1) nd (by kernel_rfl) (by exact loc_of (by kernel_rfl)) (by first | exact .inl rfl | exact .inr rfl)) (gts_cons (gt_nm (i := 2) nd (by kernel_rfl) (by exact loc_of (by kernel_rfl)) (by first | exact .inl rfl | exact .inr rfl)) gts_nil (by kernel_rfl)) (by kernel_rfl)) rfl (by kernel_rfl) (by kernel_rfl)) (fun d6 => dso_2 fun p7 p8 => by exact ds_env (e' := [.sh (a0), .sh (p7), .sh (p8), .no, .no]) rfl (dss_for (pt := (Pat.tp [(Pat.nm 3), (Pat.nm 4)])) (injb := (fun (s9 : D × D) => [.sh (a0), .sh (s9.2), .sh (s9.1), .no, .no])) (s0 := ((p8), (p7))) (di_any (de_v (i := 0) rfl (by kernel_rfl) (by exact vis_of (by kernel_rfl)) (by kernel_rfl) (by kernel_rfl)) (.inl rfl)) (gt_tup (gts_cons (gt_nm (i := 3) nd (by kernel_rfl) (by exact loc_of (by kernel_rfl)) (by first | exact .inl rfl | exact .inr rfl)) (gts_cons (gt_nm (i := 4) nd (by kernel_rfl) (by exact loc_of (by kernel_rfl)) (by first | exact .inl rfl | exact .inr rfl)) gts_nil (by kernel_rfl)) (by kernel_rfl)) rfl (by kernel_rfl) (by kernel_rfl)) (fun d12 s10 => dso_2 fun p13 p14 => by exact ds_env (e' := [.sh (a0), .sh (s10.2), .sh (s10.1), .sh (p13), .sh (p14)]) rfl (dss_asgP (pt := (Pat.tp [(Pat.nm 1), (Pat.nm 2)])) (de_call (fn__law_ratio Fx) hr tk (da_cons (de_op o_add (DE.toB (de_op o_mul (DE.toB (de_v (i := 1) rfl (by kernel_rfl) (by exact vis_of (by kernel_rfl)) (by kernel_rfl) (by kernel_rfl))) (DE.toB (de_v (i := 4) rfl (by kernel_rfl) (by exact vis_of (by kernel_rfl)) (by kernel_rfl) (by kernel_rfl))))) (DE.toB (de_op o_mul (DE.toB (de_v (i := 3) rfl (by kernel_rfl) (by exact vis_of (by kernel_rfl)) (by kernel_rfl) (by kernel_rfl))) (DE.toB (de_v (i := 2) rfl (by kernel_rfl) (by exact vis_of (by kernel_rfl)) (by kernel_rfl) (by kernel_rfl)))))) (da_cons (de_op o_mul (DE.toB (de_v (i := 2) rfl (by kernel_rfl) (by exact vis_of (by kernel_rfl)) (by kernel_rfl) (by kernel_rfl))) (DE.toB (de_v (i := 4) rfl (by kernel_rfl) (by exact vis_of (by kernel_rfl)) (by kernel_rfl) (by kernel_rfl)))) (da_nil) (by kernel_rfl)) (by kernel_rfl)) (by omega) (by kernel_rfl) (by exact gl_of (by kernel_rfl)) (by kernel_rfl) (by kernel_rfl) (by kernel_rfl)) (gt_tup (gts_cons (gt_nm (i := 1) nd (by kernel_rfl) (by exact loc_of (by kernel_rfl)) (by first | exact .inl rfl | exact .inr rfl)) (gts_cons (gt_nm (i := 2) nd (by kernel_rfl) (by exact loc_of (by kernel_rfl)) (by first | exact .inl rfl | exact .inr rfl)) gts_nil (by kernel_rfl)) (by kernel_rfl)) rfl (by kernel_rfl) (by kernel_rfl)) (fun d27 => dso_2 fun p28 p29 => by exact ds_env (e' := [.sh (a0), .sh (p28), .sh (p29), .sh (p13), .sh (p14)]) rfl (dss_nil (s := ((p29), (p28))) (.eq (.eq (.eq (.no (.no .nil))))))) trivial (by decide) (by kernel_rfl) (by kernel_rfl) (by kernel_rfl))) (fun s30 => by exact ds_env (e' := [.sh (a0), .sh (s30.2), .sh (s30.1), .no, .no]) rfl (dss_ret (us := []) (de_tup (da_cons (de_v (i := 1) rfl (by kernel_rfl) (by exact vis_of (by kernel_rfl)) (by kernel_rfl) (by kernel_rfl)) (da_cons (de_v (i := 2) rfl (by kernel_rfl) (by exact vis_of (by kernel_rfl)) (by kernel_rfl) (by kernel_rfl)) (da_nil) (by kernel_rfl)) (by kernel_rfl)) (by decide)) trivial io0)) (.eq (.eq (.eq (.no (.no .nil))))) trivial owns_cx rfl (by decide) (by intro _; kernel_rfl))) trivial (by decide) (by kernel_rfl) (by kernel_rfl) (by kernel_rfl))), rfl, nofun⟩
end
end K22

-- K22Flaw_switched
set_option Elab.async false
set_option linter.all false
set_option maxRecDepth 100000
set_option maxHeartbeats 0
namespace K22
open DL PySem PySem.Spec PyProof.Rows L2
section
variable {P : Program} {w : World} {K : PySem.W.Frag} {mg : Str → Option Value} {base : Heap} {T : Tb}
theorem fn__law_switched (Fx : TX P w K mg base T) : ∀ n : Nat, FnD P w K mg base T (3 + n + 1) "_law_switched" 5 .S (M__law_switched n) := fun n => by
  obtain ⟨f, fd, hm, Fn, b⟩ := Fx.d__law_switched
  have hb_len := Fx.b_len
  have hb_range := Fx.b_range
  induction n with
  | zero => exact fnD_of Fn hm sc__law_switched b fun cdv A outer s H E ds hl hr => ⟨.st, ds_st, (by match ds, hl with | [a0, a1, a2, a3, a4], _ => rfl), nofun⟩
  | succ n ih =>
  refine fnD_of Fn hm sc__law_switched b fun cdv A outer s H E ds hl hr => ?_
  have nd := sc__law_switched.nd
  have tk := takes_cx (P := P) (w := w) (K := K) (mg := mg) (base := base) (N := ["voices", "bits", "rate", "now", "at", "rows", "k", "step"]) (q := "_law_switched") (scope := defScope t__law_switched) (f := f) (cd := cdv) (A := A) (outer := outer) (s := s) (H := H) (E := E)
  have hu1 := hr.u1
  have hu64 := hr.u64
  have hu65 := hr.u65
  match ds, hl with
  | [a0, a1, a2, a3, a4], _ => exact ⟨B__law_switched n a0 a1 a2 a3 a4, (by exact ds_env (e' := [.sh (a0), .sh (a1), .sh (a2), .sh (a3), .sh (a4), .no, .no, .no]) rfl (dss_ifR (dt_cmp (o_eq hu64) (DE.toB (de_v (i := 4) rfl (by kernel_rfl) (by exact vis_of (by kernel_rfl)) (by kernel_rfl) (by kernel_rfl))) (DE.toB (de_c1B c_len bt_len hb_len (DE.toB (de_v (i := 1) rfl (by kernel_rfl) (by exact vis_of (by kernel_rfl)) (by kernel_rfl) (by kernel_rfl))) (by exact gl_of (by kernel_rfl)) (by exact ne_name (by kernel_rfl)) (by kernel_rfl) (by kernel_rfl) (by kernel_rfl))) (by first | exact nomark _ | rfl)) (by exact ds_env (e' := [.sh (a0), .sh (a1), .sh (a2), .sh (a3), .sh (a4), .no, .no, .no]) rfl (dss_ret (us := []) (de_tup (da_cons (de_int) (da_cons (de_int) (da_nil) (by kernel_rfl)) (by kernel_rfl)) (by decide)) trivial io0)) (by exact ds_env (e' := [.sh (a0), .sh (a1), .sh (a2), .sh (a3), .sh (a4), .no, .no, .no]) rfl (dss_setO (i := 5) (de_lst (da_nil) (by decide)) (lstK_ds fun v9 => by exact ds_env (e' := [.sh (a0), .sh (a1), .sh (a2), .sh (a3), .sh (a4), .ow (.lst (v9)), .no, .no]) rfl (dss_for (pt := (Pat.nm 6)) (injb := (fun (s10 : List D) => [.sh (a0), .sh (a1), .sh (a2), .sh (a3), .sh (a4), .ow (.lst (s10)), .no, .no])) (s0 := (v9)) (di_r1 (md := .S) (de_c1B c_len bt_len hb_len (DE.toB (de_v (i := 0) rfl (by kernel_rfl) (by exact vis_of (by kernel_rfl)) (by kernel_rfl) (by kernel_rfl))) (by exact gl_of (by kernel_rfl)) (by exact ne_name (by kernel_rfl)) (by kernel_rfl) (by kernel_rfl) (by kernel_rfl)) hb_range (by exact gl_of (by kernel_rfl)) (by kernel_rfl)) (gt_nm (i := 6) nd (by kernel_rfl) (by exact loc_of (by kernel_rfl)) (by first | exact .inl rfl | exact .inr rfl)) (fun d14 s11 => dso_nm (by exact ds_env (e' := [.sh (a0), .sh (a1), .sh (a2), .sh (a3), .sh (a4), .ow (.lst (s11)), .sh (d14), .no]) rfl (dss_if (inj1 := (fun (s85 : D) => [.sh (a0), .sh (a1), .sh (a2), .sh (a3), .sh (a4), .ow (.lst (s11)), .sh (d14), .sh (s85)])) (dt_cmp o_is (DE.toB (de_v (i := 3) rfl (by kernel_rfl) (by exact vis_of (by kernel_rfl)) (by kernel_rfl) (by kernel_rfl))) (DE.toB (de_non)) (by first | exact nomark _ | rfl)) (by exact ds_env (e' := [.sh (a0), .sh (a1), .sh (a2), .sh (a3), .sh (a4), .ow (.lst (s11)), .sh (d14), .no]) rfl (dss_set (i := 7) (de_tup (da_cons (de_int) (da_cons (de_c1B c_len bt_len hb_len (DE.toB (de_v (i := 0) rfl (by kernel_rfl) (by exact vis_of (by kernel_rfl)) (by kernel_rfl) (by kernel_rfl))) (by exact gl_of (by kernel_rfl)) (by exact ne_name (by kernel_rfl)) (by kernel_rfl) (by kernel_rfl) (by kernel_rfl)) (da_nil) (by kernel_rfl)) (by kernel_rfl)) (by decide)) (fun v17 => by exact ds_env (e' := [.sh (a0), .sh (a1), .sh (a2), .sh (a3), .sh (a4), .ow (.lst (s11)), .sh (d14), .sh (v17)]) rfl (dss_nil (s := (v17)) (.eq (.eq (.eq (.eq (.eq (.eq (.eq (.eq .nil)))))))))) trivial nd (by kernel_rfl) (by exact loc_of (by kernel_rfl)) (by decide) (by kernel_rfl) (by first | exact .inl rfl | exact .inr rfl))) (by exact ds_env (e' := [.sh (a0), .sh (a1), .sh (a2), .sh (a3), .sh (a4), .ow (.lst (s11)), .sh (d14), .no]) rfl (dss_set (i := 7) (de_if (dt_cmp (o_eq hu64) (DE.toB (de_v (i := 6) rfl (by kernel_rfl) (by exact vis_of (by kernel_rfl)) (by kernel_rfl) (by kernel_rfl))) (DE.toB (de_v (i := 3) rfl (by kernel_rfl) (by exact vis_of (by kernel_rfl)) (by kernel_rfl) (by kernel_rfl))) (by first | exact nomark _ | rfl)) (de_tup (da_cons (de_op o_sub (DE.toB (de_ix (DE.toB (de_v (i := 2) rfl (by kernel_rfl) (by exact vis_of (by kernel_rfl)) (by kernel_rfl) (by kernel_rfl))) (DE.toB (de_int)) (by intro _ _; kernel_rfl))) (DE.toB (de_ix (DE.toB (de_v (i := 2) rfl (by kernel_rfl) (by exact vis_of (by kernel_rfl)) (by kernel_rfl) (by kernel_rfl))) (DE.toB (de_int)) (by intro _ _; kernel_rfl)))) (da_cons (de_ix (DE.toB (de_v (i := 2) rfl (by kernel_rfl) (by exact vis_of (by kernel_rfl)) (by kernel_rfl) (by kernel_rfl))) (DE.toB (de_int)) (by intro _ _; kernel_rfl)) (da_nil) (by kernel_rfl)) (by kernel_rfl)) (by decide)) (de_call (fn__law_ratio Fx) hr tk (da_cons (de_ix (DE.toB (de_v (i := 2) rfl (by kernel_rfl) (by exact vis_of (by kernel_rfl)) (by kernel_rfl) (by kernel_rfl))) (DE.toB (de_int)) (by intro _ _; kernel_rfl)) (da_cons (de_op o_mul (DE.toB (de_ix (DE.toB (de_v (i := 2) rfl (by kernel_rfl) (by exact vis_of (by kernel_rfl)) (by kernel_rfl) (by kernel_rfl))) (DE.toB (de_int)) (by intro _ _; kernel_rfl))) (DE.toB (de_op o_sub (DE.toB (de_c1B c_len bt_len hb_len (DE.toB (de_v (i := 0) rfl (by kernel_rfl) (by exact vis_of (by kernel_rfl)) (by kernel_rfl) (by kernel_rfl))) (by exact gl_of (by kernel_rfl)) (by exact ne_name (by kernel_rfl)) (by kernel_rfl) (by kernel_rfl) (by kernel_rfl))) (DE.toB (de_int))))) (da_nil) (by kernel_rfl)) (by kernel_rfl)) (by omega) (by kernel_rfl) (by exact gl_of (by kernel_rfl)) (by kernel_rfl) (by kernel_rfl) (by kernel_rfl))) (fun v24 => by exact ds_env (e' := [.sh (a0), .sh (a1), .sh (a2), .sh (a3), .sh (a4), .ow (.lst (s11)), .sh (d14), .sh (v24)]) rfl (dss_nil (s := (v24)) (.eq (.eq (.eq (.eq (.eq (.eq (.eq (.eq .nil)))))))))) trivial nd (by kernel_rfl) (by exact loc_of (by kernel_rfl)) (by decide) (by kernel_rfl) (by first | exact .inl rfl | exact .inr rfl))) (fun s53 => by exact ds_env (e' := [.sh (a0), .sh (a1), .sh (a2), .sh (a3), .sh (a4), .ow (.lst (s11)), .sh (d14), .sh (s53)]) rfl (dss_append (i := 5) (xs := s11) rfl (de_call (fn__law_times Fx) hr tk (da_cons (de_call (fn__law_times Fx) hr tk (da_cons (de_v (i := 7) rfl (by kernel_rfl) (by exact vis_of (by kernel_rfl)) (by kernel_rfl) (by kernel_rfl)) (da_cons (de_call (fn__law_said Fx) hr tk (da_cons (de_ix (DE.toB (de_ix (DE.toB (de_v (i := 0) rfl (by kernel_rfl) (by exact vis_of (by kernel_rfl)) (by kernel_rfl) (by kernel_rfl))) (DE.toB (de_v (i := 6) rfl (by kernel_rfl) (by exact vis_of (by kernel_rfl)) (by kernel_rfl) (by kernel_rfl))) (by intro _ _; kernel_rfl))) (DE.toB (de_v (i := 4) rfl (by kernel_rfl) (by exact vis_of (by kernel_rfl)) (by kernel_rfl) (by kernel_rfl))) (by intro _ _; kernel_rfl)) (da_cons (de_ix (DE.toB (de_v (i := 1) rfl (by kernel_rfl) (by exact vis_of (by kernel_rfl)) (by kernel_rfl) (by kernel_rfl))) (DE.toB (de_v (i := 4) rfl (by kernel_rfl) (by exact vis_of (by kernel_rfl)) (by kernel_rfl) (by kernel_rfl))) (by intro _ _; kernel_rfl)) (da_nil) (by kernel_rfl)) (by kernel_rfl)) (by omega) (by kernel_rfl) (by exact gl_of (by kernel_rfl)) (by kernel_rfl) (by kernel_rfl) (by kernel_rfl)) (da_nil) (by kernel_rfl)) (by kernel_rfl)) (by omega) (by kernel_rfl) (by exact gl_of (by kernel_rfl)) (by kernel_rfl) (by kernel_rfl) (by kernel_rfl)) (da_cons (de_call ih hr tk (da_cons (de_v (i := 0) rfl (by kernel_rfl) (by exact vis_of (by kernel_rfl)) (by kernel_rfl) (by kernel_rfl)) (da_cons (de_v (i := 1) rfl (by kernel_rfl) (by exact vis_of (by kernel_rfl)) (by kernel_rfl) (by kernel_rfl)) (da_cons (de_v (i := 2) rfl (by kernel_rfl) (by exact vis_of (by kernel_rfl)) (by kernel_rfl) (by kernel_rfl)) (da_cons (de_v (i := 6) rfl (by kernel_rfl) (by exact vis_of (by kernel_rfl)) (by kernel_rfl) (by kernel_rfl)) (da_cons (de_op o_add (DE.toB (de_v (i := 4) rfl (by kernel_rfl) (by exact vis_of (by kernel_rfl)) (by kernel_rfl) (by kernel_rfl))) (DE.toB (de_int))) (da_nil) (by kernel_rfl)) (by kernel_rfl)) (by kernel_rfl)) (by kernel_rfl)) (by kernel_rfl)) (by omega) (by kernel_rfl) (by exact gl_of (by kernel_rfl)) (by kernel_rfl) (by kernel_rfl) (by kernel_rfl)) (da_nil) (by kernel_rfl)) (by kernel_rfl)) (by omega) (by kernel_rfl) (by exact gl_of (by kernel_rfl)) (by kernel_rfl) (by kernel_rfl) (by kernel_rfl)) (fun v84 => by exact ds_env (e' := [.sh (a0), .sh (a1), .sh (a2), .sh (a3), .sh (a4), .ow (.lst (s11 ++ [v84])), .sh (d14), .sh (s53)]) rfl (dss_nil (s := (s11 ++ [v84])) (.eq (.eq (.eq (.eq (.eq (.eq (.no (.no .nil)))))))))) trivial (by kernel_rfl) (by exact vis_of (by kernel_rfl)) (by kernel_rfl) (by kernel_rfl) (by kernel_rfl) (by kernel_rfl) (by kernel_rfl) (by kernel_rfl) (by kernel_rfl) (by kernel_rfl))) trivial))) (fun s86 => dss_freeze (i := 5) rfl (by exact ds_env (e' := [.sh (a0), .sh (a1), .sh (a2), .sh (a3), .sh (a4), .sh (.lst (s86)), .no, .no]) rfl (dss_ret (us := []) (de_call (fn__law_sum Fx) hr tk (da_cons (de_v (i := 5) rfl (by kernel_rfl) (by exact vis_of (by kernel_rfl)) (by kernel_rfl) (by kernel_rfl)) (da_nil) (by kernel_rfl)) (by omega) (by kernel_rfl) (by exact gl_of (by kernel_rfl)) (by kernel_rfl) (by kernel_rfl) (by kernel_rfl)) trivial io0)) (by simp) (fun k j z => by simp at z)) (.eq (.eq (.eq (.eq (.eq (.eq (.no (.no .nil)))))))) trivial owns_cx rfl (by decide) (by intro _; kernel_rfl))) trivial nd (by kernel_rfl) (by exact loc_of (by kernel_rfl)) (by decide) (by kernel_rfl) (by first | exact .inl rfl | exact .inr rfl))) trivial)), rfl, nofun⟩
end
end K22

-- K22Flaw_take
set_option Elab.async false
set_option linter.all false
set_option maxRecDepth 100000
set_option maxHeartbeats 0
namespace K22
open DL PySem PySem.Spec PyProof.Rows L2
section
variable {P : Program} {w : World} {K : PySem.W.Frag} {mg : Str → Option Value} {base : Heap} {T : Tb}
theorem fn__law_take (Fx : TX P w K mg base T) : FnN P w K mg base T 1 "_law_take" 2 .S M__law_take := by
  obtain ⟨f, fd, hm, Fn, b⟩ := Fx.d__law_take
  have hb_int := Fx.b_int
  have hb_len := Fx.b_len
  refine fnN_of Fn hm sc__law_take b fun cdv A outer s H E ds hl hr => ?_
  have nd := sc__law_take.nd
  have tk := takes_cx (P := P) (w := w) (K := K) (mg := mg) (base := base) (N := ["tape", "many", "drawn", "mixed"]) (q := "_law_take") (scope := defScope t__law_take) (f := f) (cd := cdv) (A := A) (outer := outer) (s := s) (H := H) (E := E)
  have hu1 := hr.u1
  have hu64 := hr.u64
  have hu65 := hr.u65
  match ds, hl with
  | [a0, a1], _ =>
    cases a0 with
    | tape => exact ⟨B__law_take a1, (by exact sn_env (e' := [.sh (.tape), .sh (a1), .no, .no]) rfl (sn_tapeif (i := 0) rfl hu1 hb_len (by exact sn_env (e' := [.sh (.tape), .sh (a1), .no, .no]) rfl (sn_ifR (tn_cmp o_gt (EN.toB (en_tget (i := 0) rfl .left hu1 (by kernel_rfl) (by exact vis_of (by kernel_rfl)) (by kernel_rfl) (by kernel_rfl))) (en_of (DE.toB (de_int))) (by first | exact nomark _ | rfl)) (by exact sn_env (e' := [.sh (.tape), .sh (a1), .no, .no]) rfl (sn_set (i := 2) (en_op o_mod (EN.toB (en_c1T c_int bt_int hb_int (EN.toB (en_tget (i := 0) rfl .left hu1 (by kernel_rfl) (by exact vis_of (by kernel_rfl)) (by kernel_rfl) (by kernel_rfl))) (by exact gl_of (by kernel_rfl)) (by exact ne_name (by kernel_rfl)) (by kernel_rfl) (by kernel_rfl) (by kernel_rfl))) (fun _ => en_of (DE.toB (de_v (i := 1) rfl (by kernel_rfl) (by exact vis_of (by kernel_rfl)) (by kernel_rfl) (by kernel_rfl))))) (fun v3 => by exact sn_env (e' := [.sh (.tape), .sh (a1), .sh (v3), .no]) rfl (sn_tset (i := 0) rfl .left hu1 (en_op o_fdiv (EN.toB (en_tget (i := 0) rfl .left hu1 (by kernel_rfl) (by exact vis_of (by kernel_rfl)) (by kernel_rfl) (by kernel_rfl))) (fun _ => en_of (DE.toB (de_v (i := 1) rfl (by kernel_rfl) (by exact vis_of (by kernel_rfl)) (by kernel_rfl) (by kernel_rfl))))) (by exact sn_env (e' := [.sh (.tape), .sh (a1), .sh (v3), .no]) rfl (sn_ret (us := []) (en_of (de_v (i := 2) rfl (by kernel_rfl) (by exact vis_of (by kernel_rfl)) (by kernel_rfl) (by kernel_rfl))) trivial io0)) trivial (by kernel_rfl) (by exact vis_of (by kernel_rfl)) (by kernel_rfl) (by kernel_rfl) (by kernel_rfl))) trivial nd (by kernel_rfl) (by exact loc_of (by kernel_rfl)) (by decide) (by kernel_rfl) (by first | exact .inl rfl | exact .inr rfl))) (by exact sn_env (e' := [.sh (.tape), .sh (a1), .no, .no]) rfl (sn_tset (i := 0) rfl .salt hu1 (en_op o_add (EN.toB (en_tget (i := 0) rfl .salt hu1 (by kernel_rfl) (by exact vis_of (by kernel_rfl)) (by kernel_rfl) (by kernel_rfl))) (fun _ => en_of (DE.toB (de_int)))) (by exact sn_env (e' := [.sh (.tape), .sh (a1), .no, .no]) rfl (sn_set (i := 3) (en_op o_mod (EN.toB (en_c1T c_int bt_int hb_int (EN.toB (en_op o_add (EN.toB (en_op o_mul (EN.toB (en_tget (i := 0) rfl .seed hu1 (by kernel_rfl) (by exact vis_of (by kernel_rfl)) (by kernel_rfl) (by kernel_rfl))) (fun _ => en_of (DE.toB (de_int))))) (fun _ => EN.toB (en_op o_mul (EN.toB (en_tget (i := 0) rfl .salt hu1 (by kernel_rfl) (by exact vis_of (by kernel_rfl)) (by kernel_rfl) (by kernel_rfl))) (fun _ => en_of (DE.toB (de_int))))))) (by exact gl_of (by kernel_rfl)) (by exact ne_name (by kernel_rfl)) (by kernel_rfl) (by kernel_rfl) (by kernel_rfl))) (fun _ => en_of (DE.toB (de_int)))) (fun v11 => by exact sn_env (e' := [.sh (.tape), .sh (a1), .no, .sh (v11)]) rfl (sn_set (i := 3) (en_op o_mod (EN.toB (en_c1T c_int bt_int hb_int (EN.toB (en_op o_add (EN.toB (en_op o_add (en_of (DE.toB (de_op o_mul (DE.toB (de_v (i := 3) rfl (by kernel_rfl) (by exact vis_of (by kernel_rfl)) (by kernel_rfl) (by kernel_rfl))) (DE.toB (de_v (i := 3) rfl (by kernel_rfl) (by exact vis_of (by kernel_rfl)) (by kernel_rfl) (by kernel_rfl)))))) (fun _ => EN.toB (en_op o_mul (EN.toB (en_tget (i := 0) rfl .salt hu1 (by kernel_rfl) (by exact vis_of (by kernel_rfl)) (by kernel_rfl) (by kernel_rfl))) (fun _ => en_of (DE.toB (de_int))))))) (fun _ => en_of (DE.toB (de_int))))) (by exact gl_of (by kernel_rfl)) (by exact ne_name (by kernel_rfl)) (by kernel_rfl) (by kernel_rfl) (by kernel_rfl))) (fun _ => en_of (DE.toB (de_int)))) (fun v12 => by exact sn_env (e' := [.sh (.tape), .sh (a1), .no, .sh (v12)]) rfl (sn_ret (us := []) (en_of (de_op o_mod (DE.toB (de_c1T c_int bt_int hb_int (DE.toB (de_v (i := 3) rfl (by kernel_rfl) (by exact vis_of (by kernel_rfl)) (by kernel_rfl) (by kernel_rfl))) (by exact gl_of (by kernel_rfl)) (by exact ne_name (by kernel_rfl)) (by kernel_rfl) (by kernel_rfl) (by kernel_rfl))) (DE.toB (de_v (i := 1) rfl (by kernel_rfl) (by exact vis_of (by kernel_rfl)) (by kernel_rfl) (by kernel_rfl))))) trivial io0)) trivial nd (by kernel_rfl) (by exact loc_of (by kernel_rfl)) (by decide) (by kernel_rfl) (by first | exact .inl rfl | exact .inr rfl))) trivial nd (by kernel_rfl) (by exact loc_of (by kernel_rfl)) (by decide) (by kernel_rfl) (by first | exact .inl rfl | exact .inr rfl))) trivial (by kernel_rfl) (by exact vis_of (by kernel_rfl)) (by kernel_rfl) (by kernel_rfl) (by kernel_rfl))) trivial)) (by exact gl_of (by kernel_rfl)) (by kernel_rfl) (by exact vis_of (by kernel_rfl)) (by kernel_rfl) (by kernel_rfl) (by kernel_rfl) (by kernel_rfl))), fun _ h => h, nofun⟩
    | _ => exact ⟨N.l .st, sn_st, fun _ h => h, nofun⟩
end
end K22

-- K22Flaw_tape
set_option Elab.async false
set_option linter.all false
set_option maxRecDepth 100000
set_option maxHeartbeats 0
namespace K22
open DL PySem PySem.Spec PyProof.Rows L2
section
variable {P : Program} {w : World} {K : PySem.W.Frag} {mg : Str → Option Value} {base : Heap} {T : Tb}
theorem fn__law_tape (Fx : TX P w K mg base T) : FnD P w K mg base T 1 "_law_tape" 1 .S M__law_tape := by
  obtain ⟨f, fd, hm, Fn, b⟩ := Fx.d__law_tape
  have hb_abs := Fx.b_abs
  have hb_int := Fx.b_int
  refine fnD_of Fn hm sc__law_tape b fun cdv A outer s H E ds hl hr => ?_
  have nd := sc__law_tape.nd
  have tk := takes_cx (P := P) (w := w) (K := K) (mg := mg) (base := base) (N := ["script", "cells", "cell", "seed"]) (q := "_law_tape") (scope := defScope t__law_tape) (f := f) (cd := cdv) (A := A) (outer := outer) (s := s) (H := H) (E := E)
  have hu1 := hr.u1
  have hu64 := hr.u64
  have hu65 := hr.u65
  match ds, hl with
  | [a0], _ => exact ⟨B__law_tape a0, (by exact ds_env (e' := [.sh (a0), .no, .no, .no]) rfl (dss_setLc (i := 1) [("cell", 2)] (di_any (DE.toB (de_v (i := 0) rfl (by kernel_rfl) (by exact vis_of (by kernel_rfl)) (by kernel_rfl) (by kernel_rfl))) (.inr rfl)) (fun q => (gt_nm (i := 2) nd (by kernel_rfl) (by exact loc_of (by kernel_rfl)) (by first | exact .inl rfl | exact .inr rfl))) (fun d17 => cb_nm (cb_mk (env2 := [.sh (a0), .no, .sh (d17), .no]) (fun q => .nil) (fun q => de_c1B c_abs bt_abs hb_abs (DE.toB (de_c1T c_int bt_int hb_int (DE.toB (de_v (i := 2) rfl (by kernel_rfl) (by exact vis_of (by kernel_rfl)) (by kernel_rfl) (by kernel_rfl))) (by exact gl_of (by kernel_rfl)) (by exact ne_name (by kernel_rfl)) (by kernel_rfl) (by kernel_rfl) (by kernel_rfl))) (by exact gl_of (by kernel_rfl)) (by exact ne_name (by kernel_rfl)) (by kernel_rfl) (by kernel_rfl) (by kernel_rfl)))) (dss_setF (fun v1 => by exact ds_env (e' := [.sh (a0), .sh (v1), .no, .no]) rfl (dss_set (i := 3) (de_int) (fun v2 => by exact ds_env (e' := [.sh (a0), .sh (v1), .no, .sh (v2)]) rfl (dss_for (pt := (Pat.nm 2)) (injb := (fun (s3 : D) => [.sh (a0), .sh (v1), .no, .sh (s3)])) (s0 := (v2)) (di_any (de_v (i := 1) rfl (by kernel_rfl) (by exact vis_of (by kernel_rfl)) (by kernel_rfl) (by kernel_rfl)) (.inl rfl)) (gt_nm (i := 2) nd (by kernel_rfl) (by exact loc_of (by kernel_rfl)) (by first | exact .inl rfl | exact .inr rfl)) (fun d6 s4 => dso_nm (by exact ds_env (e' := [.sh (a0), .sh (v1), .sh (d6), .sh (s4)]) rfl (dss_set (i := 3) (de_op o_mod (DE.toB (de_c1T c_int bt_int hb_int (DE.toB (de_op o_add (DE.toB (de_op o_mul (DE.toB (de_v (i := 3) rfl (by kernel_rfl) (by exact vis_of (by kernel_rfl)) (by kernel_rfl) (by kernel_rfl))) (DE.toB (de_int)))) (DE.toB (de_v (i := 2) rfl (by kernel_rfl) (by exact vis_of (by kernel_rfl)) (by kernel_rfl) (by kernel_rfl))))) (by exact gl_of (by kernel_rfl)) (by exact ne_name (by kernel_rfl)) (by kernel_rfl) (by kernel_rfl) (by kernel_rfl))) (DE.toB (de_int))) (fun v7 => by exact ds_env (e' := [.sh (a0), .sh (v1), .sh (d6), .sh (v7)]) rfl (dss_nil (s := (v7)) (.eq (.eq (.no (.eq .nil)))))) trivial nd (by kernel_rfl) (by exact loc_of (by kernel_rfl)) (by decide) (by kernel_rfl) (by first | exact .inl rfl | exact .inr rfl)))) (fun s15 => by exact ds_env (e' := [.sh (a0), .sh (v1), .no, .sh (s15)]) rfl (dss_ret (us := []) (de_tapelit (i := 1) (k := 3) rfl rfl (by kernel_rfl) (by exact vis_of (by kernel_rfl)) (by kernel_rfl) (by kernel_rfl) (by kernel_rfl) (by exact vis_of (by kernel_rfl)) (by kernel_rfl) (by kernel_rfl)) trivial io0)) (.eq (.eq (.no (.eq .nil)))) trivial owns_cx rfl (by decide) (by intro _; kernel_rfl))) trivial nd (by kernel_rfl) (by exact loc_of (by kernel_rfl)) (by decide) (by kernel_rfl) (by first | exact .inl rfl | exact .inr rfl))) (Nat.le_of_ble_eq_true rfl)) trivial rfl nd (blkOk_by (by kernel_rfl)) (by kernel_rfl) (by kernel_rfl) (by kernel_rfl) (by decide) (by decide) (by intro _; kernel_rfl))), rfl, nofun⟩
end
end K22

-- K22Fis_bits
set_option Elab.async false
set_option linter.all false
set_option maxRecDepth 100000
set_option maxHeartbeats 0
namespace K22
open DL PySem PySem.Spec PyProof.Rows L2
section
variable {P : Program} {w : World} {K : PySem.W.Frag} {mg : Str → Option Value} {base : Heap} {T : Tb}
theorem fn_is_bits (Fx : TX P w K mg base T) : FnD P w K mg base T 1 "is_bits" 1 .S M_is_bits := by
  obtain ⟨f, fd, hm, Fn, b⟩ := Fx.d_is_bits
  have hb_all := Fx.b_all
  refine fnD_of Fn hm sc_is_bits b fun cdv A outer s H E ds hl hr => ?_
  have nd := sc_is_bits.nd
  have tk := takes_cx (P := P) (w := w) (K := K) (mg := mg) (base := base) (N := ["text", "sign"]) (q := "is_bits") (scope := defScope t_is_bits) (f := f) (cd := cdv) (A := A) (outer := outer) (s := s) (H := H) (E := E)
  have hu1 := hr.u1
  have hu64 := hr.u64
  have hu65 := hr.u65
  match ds, hl with
  | [a0], _ => exact ⟨B_is_bits a0, (by exact ds_env (e' := [.sh (a0), .no]) rfl (dss_ret (us := []) (de_c1B (c_all rfl) bt_all hb_all (DE.toB (de_lc [("sign", 1)] (di_any (DE.toB (de_v (i := 0) rfl (by kernel_rfl) (by exact vis_of (by kernel_rfl)) (by kernel_rfl) (by kernel_rfl))) (.inr rfl)) (fun q => (gt_nm (i := 1) nd (by kernel_rfl) (by exact loc_of (by kernel_rfl)) (by first | exact .inl rfl | exact .inr rfl))) (fun d2 => cb_nm (cb_mk (env2 := [.sh (a0), .sh (d2)]) (fun q => .nil) (fun q => de_cmp (o_in hu65) (DE.toB (de_v (i := 1) rfl (by kernel_rfl) (by exact vis_of (by kernel_rfl)) (by kernel_rfl) (by kernel_rfl))) (DE.toB (de_str (s := [48, 49]) (by kernel_rfl) (by kernel_rfl))) (by first | exact nomark _ | rfl)))) rfl nd (blkOk_by (by kernel_rfl)) (by decide) (by intro _; kernel_rfl))) (by exact gl_of (by kernel_rfl)) (by exact ne_name (by kernel_rfl)) (by kernel_rfl) (by kernel_rfl) (by kernel_rfl)) trivial io0)), rfl, nofun⟩
end
end K22

-- K22Fcheck_bits
set_option Elab.async false
set_option linter.all false
set_option maxRecDepth 100000
set_option maxHeartbeats 0
namespace K22
open DL PySem PySem.Spec PyProof.Rows L2
section
variable {P : Program} {w : World} {K : PySem.W.Frag} {mg : Str → Option Value} {base : Heap} {T : Tb}
theorem fn_check_bits (Fx : TX P w K mg base T) : FnD P w K mg base T 2 "check_bits" 1 .S M_check_bits := by
  obtain ⟨f, fd, hm, Fn, b⟩ := Fx.d_check_bits
  have hb_len := Fx.b_len
  obtain ⟨_, _, hg_MOST_BITS⟩ := Fx.g_MOST_BITS
  obtain ⟨_, hx_InvalidBits⟩ := Fx.x_InvalidBits
  refine fnD_of Fn hm sc_check_bits b fun cdv A outer s H E ds hl hr => ?_
  have nd := sc_check_bits.nd
  have tk := takes_cx (P := P) (w := w) (K := K) (mg := mg) (base := base) (N := ["text"]) (q := "check_bits") (scope := defScope t_check_bits) (f := f) (cd := cdv) (A := A) (outer := outer) (s := s) (H := H) (E := E)
  have hu1 := hr.u1
  have hu64 := hr.u64
  have hu65 := hr.u65
  match ds, hl with
  | [a0], _ => exact ⟨B_check_bits a0, (by exact ds_env (e' := [.sh (a0)]) rfl (dss_ifR (dt_w (dw_or (dt_cmp o_gt (DE.toB (de_c1B c_len bt_len hb_len (DE.toB (de_v (i := 0) rfl (by kernel_rfl) (by exact vis_of (by kernel_rfl)) (by kernel_rfl) (by kernel_rfl))) (by exact gl_of (by kernel_rfl)) (by exact ne_name (by kernel_rfl)) (by kernel_rfl) (by kernel_rfl) (by kernel_rfl))) (DE.toB (de_glob hg_MOST_BITS.1 hg_MOST_BITS.2.1 hg_MOST_BITS.2.2 (by exact gl_of (by kernel_rfl)) (by kernel_rfl))) (by first | exact nomark _ | rfl)) (dw_or1 (dt_not (dt_tru (DE.toB (de_call (fn_is_bits Fx) hr tk (da_cons (de_v (i := 0) rfl (by kernel_rfl) (by exact vis_of (by kernel_rfl)) (by kernel_rfl) (by kernel_rfl)) (da_nil) (by kernel_rfl)) (by omega) (by kernel_rfl) (by exact gl_of (by kernel_rfl)) (by kernel_rfl) (by kernel_rfl) (by kernel_rfl))) (by intro _; kernel_rfl)))))) (by exact ds_env (e' := [.sh (a0)]) rfl (dss_raise tk trivial rfl PySem.F.excBase_ValueError hx_InvalidBits.1 hx_InvalidBits.2.1 hx_InvalidBits.2.2.1 (raises_own hx_InvalidBits.2.2.2.1 hx_InvalidBits.2.2.2.2) (by exact gl_of (by kernel_rfl)) (by kernel_rfl))) (by exact ds_env (e' := [.sh (a0)]) rfl (dss_nil (s := ()) (.no .nil))) trivial)), rfl, nofun⟩
end
end K22

-- K22Fless
set_option Elab.async false
set_option linter.all false
set_option maxRecDepth 100000
set_option maxHeartbeats 0
namespace K22
open DL PySem PySem.Spec PyProof.Rows L2
section
variable {P : Program} {w : World} {K : PySem.W.Frag} {mg : Str → Option Value} {base : Heap} {T : Tb}
theorem fn_less (Fx : TX P w K mg base T) : FnD P w K mg base T 1 "less" 2 .S M_less := by
  obtain ⟨f, fd, hm, Fn, b⟩ := Fx.d_less
  refine fnD_of Fn hm sc_less b fun cdv A outer s H E ds hl hr => ?_
  have nd := sc_less.nd
  have tk := takes_cx (P := P) (w := w) (K := K) (mg := mg) (base := base) (N := ["a", "b"]) (q := "less") (scope := defScope t_less) (f := f) (cd := cdv) (A := A) (outer := outer) (s := s) (H := H) (E := E)
  have hu1 := hr.u1
  have hu64 := hr.u64
  have hu65 := hr.u65
  match ds, hl with
  | [a0, a1], _ => exact ⟨B_less a0 a1, (by exact ds_env (e' := [.sh (a0), .sh (a1)]) rfl (dss_ret (us := []) (de_cmp o_lt (DE.toB (de_op o_mul (DE.toB (de_ix (DE.toB (de_v (i := 0) rfl (by kernel_rfl) (by exact vis_of (by kernel_rfl)) (by kernel_rfl) (by kernel_rfl))) (DE.toB (de_int)) (by intro _ _; kernel_rfl))) (DE.toB (de_ix (DE.toB (de_v (i := 1) rfl (by kernel_rfl) (by exact vis_of (by kernel_rfl)) (by kernel_rfl) (by kernel_rfl))) (DE.toB (de_int)) (by intro _ _; kernel_rfl))))) (DE.toB (de_op o_mul (DE.toB (de_ix (DE.toB (de_v (i := 1) rfl (by kernel_rfl) (by exact vis_of (by kernel_rfl)) (by kernel_rfl) (by kernel_rfl))) (DE.toB (de_int)) (by intro _ _; kernel_rfl))) (DE.toB (de_ix (DE.toB (de_v (i := 0) rfl (by kernel_rfl) (by exact vis_of (by kernel_rfl)) (by kernel_rfl) (by kernel_rfl))) (DE.toB (de_int)) (by intro _ _; kernel_rfl))))) (by first | exact nomark _ | rfl)) trivial io0)), rfl, nofun⟩
end
end K22

-- K22Fcheck_voices
set_option Elab.async false
set_option linter.all false
set_option maxRecDepth 100000
set_option maxHeartbeats 0
namespace K22
open DL PySem PySem.Spec PyProof.Rows L2
section
variable {P : Program} {w : World} {K : PySem.W.Frag} {mg : Str → Option Value} {base : Heap} {T : Tb}
theorem fn_check_voices (Fx : TX P w K mg base T) : FnD P w K mg base T 2 "check_voices" 2 .S M_check_voices := by
  obtain ⟨f, fd, hm, Fn, b⟩ := Fx.d_check_voices
  have hb_all := Fx.b_all
  have hb_len := Fx.b_len
  obtain ⟨_, _, hg_ONE⟩ := Fx.g_ONE
  obtain ⟨_, _, hg_ZERO⟩ := Fx.g_ZERO
  obtain ⟨_, hx_InvalidCounts⟩ := Fx.x_InvalidCounts
  refine fnD_of Fn hm sc_check_voices b fun cdv A outer s H E ds hl hr => ?_
  have nd := sc_check_voices.nd
  have tk := takes_cx (P := P) (w := w) (K := K) (mg := mg) (base := base) (N := ["voices", "size", "row", "a"]) (q := "check_voices") (scope := defScope t_check_voices) (f := f) (cd := cdv) (A := A) (outer := outer) (s := s) (H := H) (E := E)
  have hu1 := hr.u1
  have hu64 := hr.u64
  have hu65 := hr.u65
  match ds, hl with
  | [a0, a1], _ => exact ⟨B_check_voices a0 a1, (by exact ds_env (e' := [.sh (a0), .sh (a1), .no, .no]) rfl (dss_ifR (dt_w (dw_or (dt_not (dt_tru (DE.toB (de_v (i := 0) rfl (by kernel_rfl) (by exact vis_of (by kernel_rfl)) (by kernel_rfl) (by kernel_rfl))) (by intro _; kernel_rfl))) (dw_or1 (dt_not (dt_tru (DE.toB (de_c1B (c_all rfl) bt_all hb_all (DE.toB (de_lc [("row", 2)] (di_any (DE.toB (de_v (i := 0) rfl (by kernel_rfl) (by exact vis_of (by kernel_rfl)) (by kernel_rfl) (by kernel_rfl))) (.inr rfl)) (fun q => (gt_nm (i := 2) nd (by kernel_rfl) (by exact loc_of (by kernel_rfl)) (by first | exact .inl rfl | exact .inr rfl))) (fun d3 => cb_nm (cb_mk (env2 := [.sh (a0), .sh (a1), .sh (d3), .no]) (fun q => .nil) (fun q => de_cmp (o_eq hu64) (DE.toB (de_c1B c_len bt_len hb_len (DE.toB (de_v (i := 2) rfl (by kernel_rfl) (by exact vis_of (by kernel_rfl)) (by kernel_rfl) (by kernel_rfl))) (by exact gl_of (by kernel_rfl)) (by exact ne_name (by kernel_rfl)) (by kernel_rfl) (by kernel_rfl) (by kernel_rfl))) (DE.toB (de_v (i := 1) rfl (by kernel_rfl) (by exact vis_of (by kernel_rfl)) (by kernel_rfl) (by kernel_rfl))) (by first | exact nomark _ | rfl)))) rfl nd (blkOk_by (by kernel_rfl)) (by decide) (by intro _; kernel_rfl))) (by exact gl_of (by kernel_rfl)) (by exact ne_name (by kernel_rfl)) (by kernel_rfl) (by kernel_rfl) (by kernel_rfl))) (by intro _; kernel_rfl)))))) (by exact ds_env (e' := [.sh (a0), .sh (a1), .no, .no]) rfl (dss_raise tk trivial rfl PySem.F.excBase_ValueError hx_InvalidCounts.1 hx_InvalidCounts.2.1 hx_InvalidCounts.2.2.1 (raises_own hx_InvalidCounts.2.2.2.1 hx_InvalidCounts.2.2.2.2) (by exact gl_of (by kernel_rfl)) (by kernel_rfl))) (by exact ds_env (e' := [.sh (a0), .sh (a1), .no, .no]) rfl (dss_ifR (dt_not (dt_tru (DE.toB (de_c1B (c_all rfl) bt_all hb_all (DE.toB (de_lc [("row", 2)] (di_any (DE.toB (de_v (i := 0) rfl (by kernel_rfl) (by exact vis_of (by kernel_rfl)) (by kernel_rfl) (by kernel_rfl))) (.inr rfl)) (fun q => (gt_nm (i := 2) nd (by kernel_rfl) (by exact loc_of (by kernel_rfl)) (by first | exact .inl rfl | exact .inr rfl))) (fun d10 => cb_nm (cb_mk (env2 := [.sh (a0), .sh (a1), .sh (d10), .no]) (fun q => .nil) (fun q => de_c1B (c_all rfl) bt_all hb_all (DE.toB (de_lc [("a", 3)] (di_any (DE.toB (de_v (i := 2) rfl (by kernel_rfl) (by exact vis_of (by kernel_rfl)) (by kernel_rfl) (by kernel_rfl))) (.inr rfl)) (fun q => (gt_nm (i := 3) nd (by kernel_rfl) (by exact loc_of (by kernel_rfl)) (by first | exact .inl rfl | exact .inr rfl))) (fun d12 => cb_nm (cb_mk (env2 := [.sh (a0), .sh (a1), .sh (d10), .sh (d12)]) (fun q => .nil) (fun q => de_andV (de_call (fn_less Fx) hr takes_none5 (da_cons (de_glob hg_ZERO.1 hg_ZERO.2.1 hg_ZERO.2.2 (by exact gl_of (by kernel_rfl)) (by kernel_rfl)) (da_cons (de_v (i := 3) rfl (by kernel_rfl) (by exact vis_of (by kernel_rfl)) (by kernel_rfl) (by kernel_rfl)) (da_nil) (by kernel_rfl)) (by kernel_rfl)) (by omega) (by kernel_rfl) (by exact gl_of (by kernel_rfl)) (by kernel_rfl) (by kernel_rfl) (by kernel_rfl)) (de_one (de_call (fn_less Fx) hr takes_none5 (da_cons (de_v (i := 3) rfl (by kernel_rfl) (by exact vis_of (by kernel_rfl)) (by kernel_rfl) (by kernel_rfl)) (da_cons (de_glob hg_ONE.1 hg_ONE.2.1 hg_ONE.2.2 (by exact gl_of (by kernel_rfl)) (by kernel_rfl)) (da_nil) (by kernel_rfl)) (by kernel_rfl)) (by omega) (by kernel_rfl) (by exact gl_of (by kernel_rfl)) (by kernel_rfl) (by kernel_rfl) (by kernel_rfl)))))) rfl nd (blkOk_by (by kernel_rfl)) (by decide) (by intro _; kernel_rfl))) (by exact gl_of (by kernel_rfl)) (by exact ne_name (by kernel_rfl)) (by kernel_rfl) (by kernel_rfl) (by kernel_rfl)))) rfl nd (blkOk_by (by kernel_rfl)) (by decide) (by intro _; kernel_rfl))) (by exact gl_of (by kernel_rfl)) (by exact ne_name (by kernel_rfl)) (by kernel_rfl) (by kernel_rfl) (by kernel_rfl))) (by intro _; kernel_rfl))) (by exact ds_env (e' := [.sh (a0), .sh (a1), .no, .no]) rfl (dss_raise tk trivial rfl PySem.F.excBase_ValueError hx_InvalidCounts.1 hx_InvalidCounts.2.1 hx_InvalidCounts.2.2.1 (raises_own hx_InvalidCounts.2.2.2.1 hx_InvalidCounts.2.2.2.2) (by exact gl_of (by kernel_rfl)) (by kernel_rfl))) (by exact ds_env (e' := [.sh (a0), .sh (a1), .no, .no]) rfl (dss_nil (s := ()) (.no (.no (.no (.no .nil)))))) trivial)) trivial)), rfl, nofun⟩
end
end K22

-- K22Fshare
set_option Elab.async false
set_option linter.all false
set_option maxRecDepth 100000
set_option maxHeartbeats 0
namespace K22
open DL PySem PySem.Spec PyProof.Rows L2
section
variable {P : Program} {w : World} {K : PySem.W.Frag} {mg : Str → Option Value} {base : Heap} {T : Tb}
theorem fn_share (Fx : TX P w K mg base T) : FnD P w K mg base T 1 "share" 2 .S M_share := by
  obtain ⟨f, fd, hm, Fn, b⟩ := Fx.d_share
  have hb_abs := Fx.b_abs
  obtain ⟨_, hx_InvalidCounts⟩ := Fx.x_InvalidCounts
  refine fnD_of Fn hm sc_share b fun cdv A outer s H E ds hl hr => ?_
  have nd := sc_share.nd
  have tk := takes_cx (P := P) (w := w) (K := K) (mg := mg) (base := base) (N := ["n", "d", "a", "b"]) (q := "share") (scope := defScope t_share) (f := f) (cd := cdv) (A := A) (outer := outer) (s := s) (H := H) (E := E)
  have hu1 := hr.u1
  have hu64 := hr.u64
  have hu65 := hr.u65
  match ds, hl with
  | [a0, a1], _ => exact ⟨B_share a0 a1, (by exact ds_env (e' := [.sh (a0), .sh (a1), .no, .no]) rfl (dss_ifR (dt_cmp (o_eq hu64) (DE.toB (de_v (i := 1) rfl (by kernel_rfl) (by exact vis_of (by kernel_rfl)) (by kernel_rfl) (by kernel_rfl))) (DE.toB (de_int)) (by first | exact nomark _ | rfl)) (by exact ds_env (e' := [.sh (a0), .sh (a1), .no, .no]) rfl (dss_raise tk trivial rfl PySem.F.excBase_ValueError hx_InvalidCounts.1 hx_InvalidCounts.2.1 hx_InvalidCounts.2.2.1 (raises_own hx_InvalidCounts.2.2.2.1 hx_InvalidCounts.2.2.2.2) (by exact gl_of (by kernel_rfl)) (by kernel_rfl))) (by exact ds_env (e' := [.sh (a0), .sh (a1), .no, .no]) rfl (dss_if (inj1 := (fun (s46 : D × D) => [.sh (s46.2), .sh (s46.1), .no, .no])) (dt_cmp o_lt (DE.toB (de_v (i := 1) rfl (by kernel_rfl) (by exact vis_of (by kernel_rfl)) (by kernel_rfl) (by kernel_rfl))) (DE.toB (de_int)) (by first | exact nomark _ | rfl)) (by exact ds_env (e' := [.sh (a0), .sh (a1), .no, .no]) rfl (dss_parL (i := 0) (j := 1) (da_cons (de_neg (de_v (i := 0) rfl (by kernel_rfl) (by exact vis_of (by kernel_rfl)) (by kernel_rfl) (by kernel_rfl))) (da_cons (de_neg (de_v (i := 1) rfl (by kernel_rfl) (by exact vis_of (by kernel_rfl)) (by kernel_rfl) (by kernel_rfl))) (da_nil) (by kernel_rfl)) (by kernel_rfl)) (fun v11 v12 => by exact ds_env (e' := [.sh (v11), .sh (v12), .no, .no]) rfl (dss_nil (s := ((v12), (v11))) (.eq (.eq (.no (.no .nil)))))) trivial rfl nd (by kernel_rfl) (by kernel_rfl) (by decide) (by kernel_rfl) (by kernel_rfl) (by decide) (by decide) (by kernel_rfl) (by kernel_rfl))) (by exact ds_env (e' := [.sh (a0), .sh (a1), .no, .no]) rfl (dss_nil (s := ((a1), (a0))) (.eq (.eq (.no (.no .nil)))))) (fun s14 => by exact ds_env (e' := [.sh (s14.2), .sh (s14.1), .no, .no]) rfl (dss_parL (i := 2) (j := 3) (da_cons (de_c1B c_abs bt_abs hb_abs (DE.toB (de_v (i := 0) rfl (by kernel_rfl) (by exact vis_of (by kernel_rfl)) (by kernel_rfl) (by kernel_rfl))) (by exact gl_of (by kernel_rfl)) (by exact ne_name (by kernel_rfl)) (by kernel_rfl) (by kernel_rfl) (by kernel_rfl)) (da_cons (de_v (i := 1) rfl (by kernel_rfl) (by exact vis_of (by kernel_rfl)) (by kernel_rfl) (by kernel_rfl)) (da_nil) (by kernel_rfl)) (by kernel_rfl)) (fun v20 v21 => by exact ds_env (e' := [.sh (s14.2), .sh (s14.1), .sh (v20), .sh (v21)]) rfl (dss_while (injb := (fun (s22 : D × D) => [.sh (s14.2), .sh (s14.1), .sh (s22.1), .sh (s22.2)])) (s0 := ((v20), (v21))) (n := szDs [s14.2, s14.1, v20, v21] + 1000) (fun s23 => dt_cmp o_gt (DE.toB (de_v (i := 3) rfl (by kernel_rfl) (by exact vis_of (by kernel_rfl)) (by kernel_rfl) (by kernel_rfl))) (DE.toB (de_int)) (by first | exact nomark _ | rfl)) (fun s23 => by exact ds_env (e' := [.sh (s14.2), .sh (s14.1), .sh (s23.1), .sh (s23.2)]) rfl (dss_parL (i := 2) (j := 3) (da_cons (de_v (i := 3) rfl (by kernel_rfl) (by exact vis_of (by kernel_rfl)) (by kernel_rfl) (by kernel_rfl)) (da_cons (de_op o_mod (DE.toB (de_v (i := 2) rfl (by kernel_rfl) (by exact vis_of (by kernel_rfl)) (by kernel_rfl) (by kernel_rfl))) (DE.toB (de_v (i := 3) rfl (by kernel_rfl) (by exact vis_of (by kernel_rfl)) (by kernel_rfl) (by kernel_rfl)))) (da_nil) (by kernel_rfl)) (by kernel_rfl)) (fun v32 v33 => by exact ds_env (e' := [.sh (s14.2), .sh (s14.1), .sh (v32), .sh (v33)]) rfl (dss_nil (s := ((v32), (v33))) (.eq (.eq (.eq (.eq .nil)))))) trivial rfl nd (by kernel_rfl) (by kernel_rfl) (by decide) (by kernel_rfl) (by kernel_rfl) (by decide) (by decide) (by kernel_rfl) (by kernel_rfl))) (fun s35 => by exact ds_env (e' := [.sh (s14.2), .sh (s14.1), .sh (s35.1), .sh (s35.2)]) rfl (dss_ret (us := []) (de_tup (da_cons (de_op o_fdiv (DE.toB (de_v (i := 0) rfl (by kernel_rfl) (by exact vis_of (by kernel_rfl)) (by kernel_rfl) (by kernel_rfl))) (DE.toB (de_v (i := 2) rfl (by kernel_rfl) (by exact vis_of (by kernel_rfl)) (by kernel_rfl) (by kernel_rfl)))) (da_cons (de_op o_fdiv (DE.toB (de_v (i := 1) rfl (by kernel_rfl) (by exact vis_of (by kernel_rfl)) (by kernel_rfl) (by kernel_rfl))) (DE.toB (de_v (i := 2) rfl (by kernel_rfl) (by exact vis_of (by kernel_rfl)) (by kernel_rfl) (by kernel_rfl)))) (da_nil) (by kernel_rfl)) (by kernel_rfl)) (by decide)) trivial io0)) (.eq (.eq (.eq (.eq .nil)))) trivial owns_cx)) trivial rfl nd (by kernel_rfl) (by kernel_rfl) (by decide) (by kernel_rfl) (by kernel_rfl) (by decide) (by decide) (by kernel_rfl) (by kernel_rfl))) trivial)) trivial)), rfl, nofun⟩
end
end K22

-- K22Fplus
set_option Elab.async false
set_option linter.all false
set_option maxRecDepth 100000
set_option maxHeartbeats 0
namespace K22
open DL PySem PySem.Spec PyProof.Rows L2
section
variable {P : Program} {w : World} {K : PySem.W.Frag} {mg : Str → Option Value} {base : Heap} {T : Tb}
theorem fn_plus (Fx : TX P w K mg base T) : FnD P w K mg base T 2 "plus" 2 .S M_plus := by
  obtain ⟨f, fd, hm, Fn, b⟩ := Fx.d_plus
  refine fnD_of Fn hm sc_plus b fun cdv A outer s H E ds hl hr => ?_
  have nd := sc_plus.nd
  have tk := takes_cx (P := P) (w := w) (K := K) (mg := mg) (base := base) (N := ["a", "b"]) (q := "plus") (scope := defScope t_plus) (f := f) (cd := cdv) (A := A) (outer := outer) (s := s) (H := H) (E := E)
  have hu1 := hr.u1
  have hu64 := hr.u64
  have hu65 := hr.u65
  match ds, hl with
  | [a0, a1], _ => exact ⟨B_plus a0 a1, (by exact ds_env (e' := [.sh (a0), .sh (a1)]) rfl (dss_ret (us := []) (de_call (fn_share Fx) hr tk (da_cons (de_op o_add (DE.toB (de_op o_mul (DE.toB (de_ix (DE.toB (de_v (i := 0) rfl (by kernel_rfl) (by exact vis_of (by kernel_rfl)) (by kernel_rfl) (by kernel_rfl))) (DE.toB (de_int)) (by intro _ _; kernel_rfl))) (DE.toB (de_ix (DE.toB (de_v (i := 1) rfl (by kernel_rfl) (by exact vis_of (by kernel_rfl)) (by kernel_rfl) (by kernel_rfl))) (DE.toB (de_int)) (by intro _ _; kernel_rfl))))) (DE.toB (de_op o_mul (DE.toB (de_ix (DE.toB (de_v (i := 1) rfl (by kernel_rfl) (by exact vis_of (by kernel_rfl)) (by kernel_rfl) (by kernel_rfl))) (DE.toB (de_int)) (by intro _ _; kernel_rfl))) (DE.toB (de_ix (DE.toB (de_v (i := 0) rfl (by kernel_rfl) (by exact vis_of (by kernel_rfl)) (by kernel_rfl) (by kernel_rfl))) (DE.toB (de_int)) (by intro _ _; kernel_rfl)))))) (da_cons (de_op o_mul (DE.toB (de_ix (DE.toB (de_v (i := 0) rfl (by kernel_rfl) (by exact vis_of (by kernel_rfl)) (by kernel_rfl) (by kernel_rfl))) (DE.toB (de_int)) (by intro _ _; kernel_rfl))) (DE.toB (de_ix (DE.toB (de_v (i := 1) rfl (by kernel_rfl) (by exact vis_of (by kernel_rfl)) (by kernel_rfl) (by kernel_rfl))) (DE.toB (de_int)) (by intro _ _; kernel_rfl)))) (da_nil) (by kernel_rfl)) (by kernel_rfl)) (by omega) (by kernel_rfl) (by exact gl_of (by kernel_rfl)) (by kernel_rfl) (by kernel_rfl) (by kernel_rfl)) trivial io0)), rfl, nofun⟩
end
end K22

-- K22Fsum_of
set_option Elab.async false
set_option linter.all false
set_option maxRecDepth 100000
set_option maxHeartbeats 0
namespace K22
open DL PySem PySem.Spec PyProof.Rows L2
section
variable {P : Program} {w : World} {K : PySem.W.Frag} {mg : Str → Option Value} {base : Heap} {T : Tb}
theorem fn_sum_of (Fx : TX P w K mg base T) : FnD P w K mg base T 3 "sum_of" 1 .S M_sum_of := by
  obtain ⟨f, fd, hm, Fn, b⟩ := Fx.d_sum_of
  obtain ⟨_, _, hg_ZERO⟩ := Fx.g_ZERO
  refine fnD_of Fn hm sc_sum_of b fun cdv A outer s H E ds hl hr => ?_
  have nd := sc_sum_of.nd
  have tk := takes_cx (P := P) (w := w) (K := K) (mg := mg) (base := base) (N := ["row", "total", "a"]) (q := "sum_of") (scope := defScope t_sum_of) (f := f) (cd := cdv) (A := A) (outer := outer) (s := s) (H := H) (E := E)
  have hu1 := hr.u1
  have hu64 := hr.u64
  have hu65 := hr.u65
  match ds, hl with
  | [a0], _ => exact ⟨B_sum_of a0, (by exact ds_env (e' := [.sh (a0), .no, .no]) rfl (dss_set (i := 1) (de_glob hg_ZERO.1 hg_ZERO.2.1 hg_ZERO.2.2 (by exact gl_of (by kernel_rfl)) (by kernel_rfl)) (fun v1 => by exact ds_env (e' := [.sh (a0), .sh (v1), .no]) rfl (dss_for (pt := (Pat.nm 2)) (injb := (fun (s2 : D) => [.sh (a0), .sh (s2), .no])) (s0 := (v1)) (di_any (de_v (i := 0) rfl (by kernel_rfl) (by exact vis_of (by kernel_rfl)) (by kernel_rfl) (by kernel_rfl)) (.inl rfl)) (gt_nm (i := 2) nd (by kernel_rfl) (by exact loc_of (by kernel_rfl)) (by first | exact .inl rfl | exact .inr rfl)) (fun d5 s3 => dso_nm (by exact ds_env (e' := [.sh (a0), .sh (s3), .sh (d5)]) rfl (dss_set (i := 1) (de_call (fn_plus Fx) hr tk (da_cons (de_v (i := 1) rfl (by kernel_rfl) (by exact vis_of (by kernel_rfl)) (by kernel_rfl) (by kernel_rfl)) (da_cons (de_v (i := 2) rfl (by kernel_rfl) (by exact vis_of (by kernel_rfl)) (by kernel_rfl) (by kernel_rfl)) (da_nil) (by kernel_rfl)) (by kernel_rfl)) (by omega) (by kernel_rfl) (by exact gl_of (by kernel_rfl)) (by kernel_rfl) (by kernel_rfl) (by kernel_rfl)) (fun v6 => by exact ds_env (e' := [.sh (a0), .sh (v6), .sh (d5)]) rfl (dss_nil (s := (v6)) (.eq (.eq (.no .nil))))) trivial nd (by kernel_rfl) (by exact loc_of (by kernel_rfl)) (by decide) (by kernel_rfl) (by first | exact .inl rfl | exact .inr rfl)))) (fun s11 => by exact ds_env (e' := [.sh (a0), .sh (s11), .no]) rfl (dss_ret (us := []) (de_v (i := 1) rfl (by kernel_rfl) (by exact vis_of (by kernel_rfl)) (by kernel_rfl) (by kernel_rfl)) trivial io0)) (.eq (.eq (.no .nil))) trivial owns_cx rfl (by decide) (by intro _; kernel_rfl))) trivial nd (by kernel_rfl) (by exact loc_of (by kernel_rfl)) (by decide) (by kernel_rfl) (by first | exact .inl rfl | exact .inr rfl))), rfl, nofun⟩
end
end K22

-- K22Ftimes
set_option Elab.async false
set_option linter.all false
set_option maxRecDepth 100000
set_option maxHeartbeats 0
namespace K22
open DL PySem PySem.Spec PyProof.Rows L2
section
variable {P : Program} {w : World} {K : PySem.W.Frag} {mg : Str → Option Value} {base : Heap} {T : Tb}
theorem fn_times (Fx : TX P w K mg base T) : FnD P w K mg base T 2 "times" 2 .S M_times := by
  obtain ⟨f, fd, hm, Fn, b⟩ := Fx.d_times
  refine fnD_of Fn hm sc_times b fun cdv A outer s H E ds hl hr => ?_
  have nd := sc_times.nd
  have tk := takes_cx (P := P) (w := w) (K := K) (mg := mg) (base := base) (N := ["a", "b"]) (q := "times") (scope := defScope t_times) (f := f) (cd := cdv) (A := A) (outer := outer) (s := s) (H := H) (E := E)
  have hu1 := hr.u1
  have hu64 := hr.u64
  have hu65 := hr.u65
  match ds, hl with
  | [a0, a1], _ => exact ⟨B_times a0 a1, (by exact ds_env (e' := [.sh (a0), .sh (a1)]) rfl (dss_ret (us := []) (de_call (fn_share Fx) hr tk (da_cons (de_op o_mul (DE.toB (de_ix (DE.toB (de_v (i := 0) rfl (by kernel_rfl) (by exact vis_of (by kernel_rfl)) (by kernel_rfl) (by kernel_rfl))) (DE.toB (de_int)) (by intro _ _; kernel_rfl))) (DE.toB (de_ix (DE.toB (de_v (i := 1) rfl (by kernel_rfl) (by exact vis_of (by kernel_rfl)) (by kernel_rfl) (by kernel_rfl))) (DE.toB (de_int)) (by intro _ _; kernel_rfl)))) (da_cons (de_op o_mul (DE.toB (de_ix (DE.toB (de_v (i := 0) rfl (by kernel_rfl) (by exact vis_of (by kernel_rfl)) (by kernel_rfl) (by kernel_rfl))) (DE.toB (de_int)) (by intro _ _; kernel_rfl))) (DE.toB (de_ix (DE.toB (de_v (i := 1) rfl (by kernel_rfl) (by exact vis_of (by kernel_rfl)) (by kernel_rfl) (by kernel_rfl))) (DE.toB (de_int)) (by intro _ _; kernel_rfl)))) (da_nil) (by kernel_rfl)) (by kernel_rfl)) (by omega) (by kernel_rfl) (by exact gl_of (by kernel_rfl)) (by kernel_rfl) (by kernel_rfl) (by kernel_rfl)) trivial io0)), rfl, nofun⟩
end
end K22

-- K22Fvoice_share
set_option Elab.async false
set_option linter.all false
set_option maxRecDepth 100000
set_option maxHeartbeats 0
namespace K22
open DL PySem PySem.Spec PyProof.Rows L2
section
variable {P : Program} {w : World} {K : PySem.W.Frag} {mg : Str → Option Value} {base : Heap} {T : Tb}
theorem fn_voice_share (Fx : TX P w K mg base T) : FnD P w K mg base T 3 "voice_share" 2 .S M_voice_share := by
  obtain ⟨f, fd, hm, Fn, b⟩ := Fx.d_voice_share
  have hb_zip := Fx.b_zip
  obtain ⟨_, _, hg_ONE⟩ := Fx.g_ONE
  refine fnD_of Fn hm sc_voice_share b fun cdv A outer s H E ds hl hr => ?_
  have nd := sc_voice_share.nd
  have tk := takes_cx (P := P) (w := w) (K := K) (mg := mg) (base := base) (N := ["row", "bits", "found", "a", "bit"]) (q := "voice_share") (scope := defScope t_voice_share) (f := f) (cd := cdv) (A := A) (outer := outer) (s := s) (H := H) (E := E)
  have hu1 := hr.u1
  have hu64 := hr.u64
  have hu65 := hr.u65
  match ds, hl with
  | [a0, a1], _ => exact ⟨B_voice_share a0 a1, (by exact ds_env (e' := [.sh (a0), .sh (a1), .no, .no, .no]) rfl (dss_set (i := 2) (de_glob hg_ONE.1 hg_ONE.2.1 hg_ONE.2.2 (by exact gl_of (by kernel_rfl)) (by kernel_rfl)) (fun v1 => by exact ds_env (e' := [.sh (a0), .sh (a1), .sh (v1), .no, .no]) rfl (dss_for (pt := (Pat.tp [(Pat.nm 3), (Pat.nm 4)])) (injb := (fun (s2 : D) => [.sh (a0), .sh (a1), .sh (s2), .no, .no])) (s0 := (v1)) (di_zip (de_v (i := 0) rfl (by kernel_rfl) (by exact vis_of (by kernel_rfl)) (by kernel_rfl) (by kernel_rfl)) (de_v (i := 1) rfl (by kernel_rfl) (by exact vis_of (by kernel_rfl)) (by kernel_rfl) (by kernel_rfl)) (.inl rfl) hb_zip (by exact gl_of (by kernel_rfl)) (by kernel_rfl) (by kernel_rfl) (by kernel_rfl)) (gt_tup (gts_cons (gt_nm (i := 3) nd (by kernel_rfl) (by exact loc_of (by kernel_rfl)) (by first | exact .inl rfl | exact .inr rfl)) (gts_cons (gt_nm (i := 4) nd (by kernel_rfl) (by exact loc_of (by kernel_rfl)) (by first | exact .inl rfl | exact .inr rfl)) gts_nil (by kernel_rfl)) (by kernel_rfl)) rfl (by kernel_rfl) (by kernel_rfl)) (fun d6 s3 => dso_2 fun p7 p8 => by exact ds_env (e' := [.sh (a0), .sh (a1), .sh (s3), .sh (p7), .sh (p8)]) rfl (dss_set (i := 2) (de_call (fn_times Fx) hr tk (da_cons (de_v (i := 2) rfl (by kernel_rfl) (by exact vis_of (by kernel_rfl)) (by kernel_rfl) (by kernel_rfl)) (da_cons (de_if (dt_cmp (o_eq hu64) (DE.toB (de_v (i := 4) rfl (by kernel_rfl) (by exact vis_of (by kernel_rfl)) (by kernel_rfl) (by kernel_rfl))) (DE.toB (de_str (s := [49]) (by kernel_rfl) (by kernel_rfl))) (by first | exact nomark _ | rfl)) (de_v (i := 3) rfl (by kernel_rfl) (by exact vis_of (by kernel_rfl)) (by kernel_rfl) (by kernel_rfl)) (de_tup (da_cons (de_op o_sub (DE.toB (de_ix (DE.toB (de_v (i := 3) rfl (by kernel_rfl) (by exact vis_of (by kernel_rfl)) (by kernel_rfl) (by kernel_rfl))) (DE.toB (de_int)) (by intro _ _; kernel_rfl))) (DE.toB (de_ix (DE.toB (de_v (i := 3) rfl (by kernel_rfl) (by exact vis_of (by kernel_rfl)) (by kernel_rfl) (by kernel_rfl))) (DE.toB (de_int)) (by intro _ _; kernel_rfl)))) (da_cons (de_ix (DE.toB (de_v (i := 3) rfl (by kernel_rfl) (by exact vis_of (by kernel_rfl)) (by kernel_rfl) (by kernel_rfl))) (DE.toB (de_int)) (by intro _ _; kernel_rfl)) (da_nil) (by kernel_rfl)) (by kernel_rfl)) (by decide))) (da_nil) (by kernel_rfl)) (by kernel_rfl)) (by omega) (by kernel_rfl) (by exact gl_of (by kernel_rfl)) (by kernel_rfl) (by kernel_rfl) (by kernel_rfl)) (fun v9 => by exact ds_env (e' := [.sh (a0), .sh (a1), .sh (v9), .sh (p7), .sh (p8)]) rfl (dss_nil (s := (v9)) (.eq (.eq (.eq (.no (.no .nil))))))) trivial nd (by kernel_rfl) (by exact loc_of (by kernel_rfl)) (by decide) (by kernel_rfl) (by first | exact .inl rfl | exact .inr rfl))) (fun s29 => by exact ds_env (e' := [.sh (a0), .sh (a1), .sh (s29), .no, .no]) rfl (dss_ret (us := []) (de_v (i := 2) rfl (by kernel_rfl) (by exact vis_of (by kernel_rfl)) (by kernel_rfl) (by kernel_rfl)) trivial io0)) (.eq (.eq (.eq (.no (.no .nil))))) trivial owns_cx rfl (by decide) (by intro _; kernel_rfl))) trivial nd (by kernel_rfl) (by exact loc_of (by kernel_rfl)) (by decide) (by kernel_rfl) (by first | exact .inl rfl | exact .inr rfl))), rfl, nofun⟩
end
end K22

-- K22Fmixed_share
set_option Elab.async false
set_option linter.all false
set_option maxRecDepth 100000
set_option maxHeartbeats 0
namespace K22
open DL PySem PySem.Spec PyProof.Rows L2
section
variable {P : Program} {w : World} {K : PySem.W.Frag} {mg : Str → Option Value} {base : Heap} {T : Tb}
theorem fn_mixed_share (Fx : TX P w K mg base T) : FnD P w K mg base T 4 "mixed_share" 2 .S M_mixed_share := by
  obtain ⟨f, fd, hm, Fn, b⟩ := Fx.d_mixed_share
  have hb_len := Fx.b_len
  refine fnD_of Fn hm sc_mixed_share b fun cdv A outer s H E ds hl hr => ?_
  have nd := sc_mixed_share.nd
  have tk := takes_cx (P := P) (w := w) (K := K) (mg := mg) (base := base) (N := ["voices", "bits", "row"]) (q := "mixed_share") (scope := defScope t_mixed_share) (f := f) (cd := cdv) (A := A) (outer := outer) (s := s) (H := H) (E := E)
  have hu1 := hr.u1
  have hu64 := hr.u64
  have hu65 := hr.u65
  match ds, hl with
  | [a0, a1], _ => exact ⟨B_mixed_share a0 a1, (by exact ds_env (e' := [.sh (a0), .sh (a1), .no]) rfl (dss_expr (de_call (fn_check_bits Fx) hr tk (da_cons (de_v (i := 1) rfl (by kernel_rfl) (by exact vis_of (by kernel_rfl)) (by kernel_rfl) (by kernel_rfl)) (da_nil) (by kernel_rfl)) (by omega) (by kernel_rfl) (by exact gl_of (by kernel_rfl)) (by kernel_rfl) (by kernel_rfl) (by kernel_rfl)) (by exact ds_env (e' := [.sh (a0), .sh (a1), .no]) rfl (dss_expr (de_call (fn_check_voices Fx) hr tk (da_cons (de_v (i := 0) rfl (by kernel_rfl) (by exact vis_of (by kernel_rfl)) (by kernel_rfl) (by kernel_rfl)) (da_cons (de_c1B c_len bt_len hb_len (DE.toB (de_v (i := 1) rfl (by kernel_rfl) (by exact vis_of (by kernel_rfl)) (by kernel_rfl) (by kernel_rfl))) (by exact gl_of (by kernel_rfl)) (by exact ne_name (by kernel_rfl)) (by kernel_rfl) (by kernel_rfl) (by kernel_rfl)) (da_nil) (by kernel_rfl)) (by kernel_rfl)) (by omega) (by kernel_rfl) (by exact gl_of (by kernel_rfl)) (by kernel_rfl) (by kernel_rfl) (by kernel_rfl)) (by exact ds_env (e' := [.sh (a0), .sh (a1), .no]) rfl (dss_ret (us := []) (de_call (fn_times Fx) hr tk (da_cons (de_call (fn_share Fx) hr tk (da_cons (de_int) (da_cons (de_c1B c_len bt_len hb_len (DE.toB (de_v (i := 0) rfl (by kernel_rfl) (by exact vis_of (by kernel_rfl)) (by kernel_rfl) (by kernel_rfl))) (by exact gl_of (by kernel_rfl)) (by exact ne_name (by kernel_rfl)) (by kernel_rfl) (by kernel_rfl) (by kernel_rfl)) (da_nil) (by kernel_rfl)) (by kernel_rfl)) (by omega) (by kernel_rfl) (by exact gl_of (by kernel_rfl)) (by kernel_rfl) (by kernel_rfl) (by kernel_rfl)) (da_cons (de_call (fn_sum_of Fx) hr tk (da_cons (DE.ofO (de_lc [("row", 2)] (di_any (DE.toB (de_v (i := 0) rfl (by kernel_rfl) (by exact vis_of (by kernel_rfl)) (by kernel_rfl) (by kernel_rfl))) (.inr rfl)) (fun q => (gt_nm (i := 2) nd (by kernel_rfl) (by exact loc_of (by kernel_rfl)) (by first | exact .inl rfl | exact .inr rfl))) (fun d14 => cb_nm (cb_mk (env2 := [.sh (a0), .sh (a1), .sh (d14)]) (fun q => .nil) (fun q => de_call (fn_voice_share Fx) hr takes_none5 (da_cons (de_v (i := 2) rfl (by kernel_rfl) (by exact vis_of (by kernel_rfl)) (by kernel_rfl) (by kernel_rfl)) (da_cons (de_v (i := 1) rfl (by kernel_rfl) (by exact vis_of (by kernel_rfl)) (by kernel_rfl) (by kernel_rfl)) (da_nil) (by kernel_rfl)) (by kernel_rfl)) (by omega) (by kernel_rfl) (by exact gl_of (by kernel_rfl)) (by kernel_rfl) (by kernel_rfl) (by kernel_rfl)))) rfl nd (blkOk_by (by kernel_rfl)) (by decide) (by intro _; kernel_rfl))) (da_nil) (by kernel_rfl)) (by omega) (by kernel_rfl) (by exact gl_of (by kernel_rfl)) (by kernel_rfl) (by kernel_rfl) (by kernel_rfl)) (da_nil) (by kernel_rfl)) (by kernel_rfl)) (by omega) (by kernel_rfl) (by exact gl_of (by kernel_rfl)) (by kernel_rfl) (by kernel_rfl) (by kernel_rfl)) trivial io0)) trivial (by kernel_rfl))) trivial (by kernel_rfl))), rfl, nofun⟩
end
end K22

-- K22Fbits_for
set_option Elab.async false
set_option linter.all false
set_option maxRecDepth 100000
set_option maxHeartbeats 0
namespace K22
open DL PySem PySem.Spec PyProof.Rows L2
section
variable {P : Program} {w : World} {K : PySem.W.Frag} {mg : Str → Option Value} {base : Heap} {T : Tb}
theorem fn_bits_for (Fx : TX P w K mg base T) : FnD P w K mg base T 2 "bits_for" 1 .S M_bits_for := by
  obtain ⟨f, fd, hm, Fn, b⟩ := Fx.d_bits_for
  obtain ⟨_, _, hg_ONE⟩ := Fx.g_ONE
  obtain ⟨_, hx_InvalidCounts⟩ := Fx.x_InvalidCounts
  refine fnD_of Fn hm sc_bits_for b fun cdv A outer s H E ds hl hr => ?_
  have nd := sc_bits_for.nd
  have tk := takes_cx (P := P) (w := w) (K := K) (mg := mg) (base := base) (N := ["a", "many"]) (q := "bits_for") (scope := defScope t_bits_for) (f := f) (cd := cdv) (A := A) (outer := outer) (s := s) (H := H) (E := E)
  have hu1 := hr.u1
  have hu64 := hr.u64
  have hu65 := hr.u65
  match ds, hl with
  | [a0], _ => exact ⟨B_bits_for a0, (by exact ds_env (e' := [.sh (a0), .no]) rfl (dss_ifR (dt_w (dw_or (dt_cmp o_le (DE.toB (de_ix (DE.toB (de_v (i := 0) rfl (by kernel_rfl) (by exact vis_of (by kernel_rfl)) (by kernel_rfl) (by kernel_rfl))) (DE.toB (de_int)) (by intro _ _; kernel_rfl))) (DE.toB (de_int)) (by first | exact nomark _ | rfl)) (dw_or1 (dt_tru (DE.toB (de_call (fn_less Fx) hr tk (da_cons (de_glob hg_ONE.1 hg_ONE.2.1 hg_ONE.2.2 (by exact gl_of (by kernel_rfl)) (by kernel_rfl)) (da_cons (de_v (i := 0) rfl (by kernel_rfl) (by exact vis_of (by kernel_rfl)) (by kernel_rfl) (by kernel_rfl)) (da_nil) (by kernel_rfl)) (by kernel_rfl)) (by omega) (by kernel_rfl) (by exact gl_of (by kernel_rfl)) (by kernel_rfl) (by kernel_rfl) (by kernel_rfl))) (by intro _; kernel_rfl))))) (by exact ds_env (e' := [.sh (a0), .no]) rfl (dss_raise tk trivial rfl PySem.F.excBase_ValueError hx_InvalidCounts.1 hx_InvalidCounts.2.1 hx_InvalidCounts.2.2.1 (raises_own hx_InvalidCounts.2.2.2.1 hx_InvalidCounts.2.2.2.2) (by exact gl_of (by kernel_rfl)) (by kernel_rfl))) (by exact ds_env (e' := [.sh (a0), .no]) rfl (dss_set (i := 1) (de_int) (fun v10 => by exact ds_env (e' := [.sh (a0), .sh (v10)]) rfl (dss_while (injb := (fun (s11 : D) => [.sh (a0), .sh (s11)])) (s0 := (v10)) (n := szDs [a0, v10] + 1000) (fun s12 => dt_cmp o_lt (DE.toB (de_op o_shl (DE.toB (de_ix (DE.toB (de_v (i := 0) rfl (by kernel_rfl) (by exact vis_of (by kernel_rfl)) (by kernel_rfl) (by kernel_rfl))) (DE.toB (de_int)) (by intro _ _; kernel_rfl))) (DE.toB (de_v (i := 1) rfl (by kernel_rfl) (by exact vis_of (by kernel_rfl)) (by kernel_rfl) (by kernel_rfl))))) (DE.toB (de_ix (DE.toB (de_v (i := 0) rfl (by kernel_rfl) (by exact vis_of (by kernel_rfl)) (by kernel_rfl) (by kernel_rfl))) (DE.toB (de_int)) (by intro _ _; kernel_rfl))) (by first | exact nomark _ | rfl)) (fun s12 => by exact ds_env (e' := [.sh (a0), .sh (s12)]) rfl (dss_aug (i := 1) (d0 := s12) rfl ip_add (de_int) (fun v21 => by exact ds_env (e' := [.sh (a0), .sh (v21)]) rfl (dss_nil (s := (v21)) (.eq (.eq .nil)))) trivial nd (by kernel_rfl) (by exact loc_of (by kernel_rfl)) (by decide) (by first | exact .inl rfl | exact .inr rfl))) (fun s23 => by exact ds_env (e' := [.sh (a0), .sh (s23)]) rfl (dss_ret (us := []) (de_v (i := 1) rfl (by kernel_rfl) (by exact vis_of (by kernel_rfl)) (by kernel_rfl) (by kernel_rfl)) trivial io0)) (.eq (.eq .nil)) trivial owns_cx)) trivial nd (by kernel_rfl) (by exact loc_of (by kernel_rfl)) (by decide) (by kernel_rfl) (by first | exact .inl rfl | exact .inr rfl))) trivial)), rfl, nofun⟩
end
end K22

-- K22Fmost_lost
set_option Elab.async false
set_option linter.all false
set_option maxRecDepth 100000
set_option maxHeartbeats 0
namespace K22
open DL PySem PySem.Spec PyProof.Rows L2
section
variable {P : Program} {w : World} {K : PySem.W.Frag} {mg : Str → Option Value} {base : Heap} {T : Tb}
theorem fn_most_lost (Fx : TX P w K mg base T) : FnD P w K mg base T 5 "most_lost" 2 .S M_most_lost := by
  obtain ⟨f, fd, hm, Fn, b⟩ := Fx.d_most_lost
  have hb_len := Fx.b_len
  refine fnD_of Fn hm sc_most_lost b fun cdv A outer s H E ds hl hr => ?_
  have nd := sc_most_lost.nd
  have tk := takes_cx (P := P) (w := w) (K := K) (mg := mg) (base := base) (N := ["voices", "bits", "best", "row", "told"]) (q := "most_lost") (scope := defScope t_most_lost) (f := f) (cd := cdv) (A := A) (outer := outer) (s := s) (H := H) (E := E)
  have hu1 := hr.u1
  have hu64 := hr.u64
  have hu65 := hr.u65
  match ds, hl with
  | [a0, a1], _ => exact ⟨B_most_lost a0 a1, (by exact ds_env (e' := [.sh (a0), .sh (a1), .no, .no, .no]) rfl (dss_expr (de_call (fn_check_voices Fx) hr tk (da_cons (de_v (i := 0) rfl (by kernel_rfl) (by exact vis_of (by kernel_rfl)) (by kernel_rfl) (by kernel_rfl)) (da_cons (de_c1B c_len bt_len hb_len (DE.toB (de_v (i := 1) rfl (by kernel_rfl) (by exact vis_of (by kernel_rfl)) (by kernel_rfl) (by kernel_rfl))) (by exact gl_of (by kernel_rfl)) (by exact ne_name (by kernel_rfl)) (by kernel_rfl) (by kernel_rfl) (by kernel_rfl)) (da_nil) (by kernel_rfl)) (by kernel_rfl)) (by omega) (by kernel_rfl) (by exact gl_of (by kernel_rfl)) (by kernel_rfl) (by kernel_rfl) (by kernel_rfl)) (by exact ds_env (e' := [.sh (a0), .sh (a1), .no, .no, .no]) rfl (dss_set (i := 2) (de_call (fn_voice_share Fx) hr tk (da_cons (de_ix (DE.toB (de_v (i := 0) rfl (by kernel_rfl) (by exact vis_of (by kernel_rfl)) (by kernel_rfl) (by kernel_rfl))) (DE.toB (de_int)) (by intro _ _; kernel_rfl)) (da_cons (de_v (i := 1) rfl (by kernel_rfl) (by exact vis_of (by kernel_rfl)) (by kernel_rfl) (by kernel_rfl)) (da_nil) (by kernel_rfl)) (by kernel_rfl)) (by omega) (by kernel_rfl) (by exact gl_of (by kernel_rfl)) (by kernel_rfl) (by kernel_rfl) (by kernel_rfl)) (fun v6 => by exact ds_env (e' := [.sh (a0), .sh (a1), .sh (v6), .no, .no]) rfl (dss_for (pt := (Pat.nm 3)) (injb := (fun (s7 : D) => [.sh (a0), .sh (a1), .sh (s7), .no, .no])) (s0 := (v6)) (di_any (de_v (i := 0) rfl (by kernel_rfl) (by exact vis_of (by kernel_rfl)) (by kernel_rfl) (by kernel_rfl)) (.inl rfl)) (gt_nm (i := 3) nd (by kernel_rfl) (by exact loc_of (by kernel_rfl)) (by first | exact .inl rfl | exact .inr rfl)) (fun d10 s8 => dso_nm (by exact ds_env (e' := [.sh (a0), .sh (a1), .sh (s8), .sh (d10), .no]) rfl (dss_set (i := 4) (de_call (fn_voice_share Fx) hr tk (da_cons (de_v (i := 3) rfl (by kernel_rfl) (by exact vis_of (by kernel_rfl)) (by kernel_rfl) (by kernel_rfl)) (da_cons (de_v (i := 1) rfl (by kernel_rfl) (by exact vis_of (by kernel_rfl)) (by kernel_rfl) (by kernel_rfl)) (da_nil) (by kernel_rfl)) (by kernel_rfl)) (by omega) (by kernel_rfl) (by exact gl_of (by kernel_rfl)) (by kernel_rfl) (by kernel_rfl) (by kernel_rfl)) (fun v11 => by exact ds_env (e' := [.sh (a0), .sh (a1), .sh (s8), .sh (d10), .sh (v11)]) rfl (dss_set (i := 2) (de_if (dt_tru (DE.toB (de_call (fn_less Fx) hr tk (da_cons (de_v (i := 2) rfl (by kernel_rfl) (by exact vis_of (by kernel_rfl)) (by kernel_rfl) (by kernel_rfl)) (da_cons (de_v (i := 4) rfl (by kernel_rfl) (by exact vis_of (by kernel_rfl)) (by kernel_rfl) (by kernel_rfl)) (da_nil) (by kernel_rfl)) (by kernel_rfl)) (by omega) (by kernel_rfl) (by exact gl_of (by kernel_rfl)) (by kernel_rfl) (by kernel_rfl) (by kernel_rfl))) (by intro _; kernel_rfl)) (de_v (i := 4) rfl (by kernel_rfl) (by exact vis_of (by kernel_rfl)) (by kernel_rfl) (by kernel_rfl)) (de_v (i := 2) rfl (by kernel_rfl) (by exact vis_of (by kernel_rfl)) (by kernel_rfl) (by kernel_rfl))) (fun v12 => by exact ds_env (e' := [.sh (a0), .sh (a1), .sh (v12), .sh (d10), .sh (v11)]) rfl (dss_nil (s := (v12)) (.eq (.eq (.eq (.no (.no .nil))))))) trivial nd (by kernel_rfl) (by exact loc_of (by kernel_rfl)) (by decide) (by kernel_rfl) (by first | exact .inl rfl | exact .inr rfl))) trivial nd (by kernel_rfl) (by exact loc_of (by kernel_rfl)) (by decide) (by kernel_rfl) (by first | exact .inl rfl | exact .inr rfl)))) (fun s22 => by exact ds_env (e' := [.sh (a0), .sh (a1), .sh (s22), .no, .no]) rfl (dss_ret (us := []) (de_tup (da_cons (de_call (fn_bits_for Fx) hr tk (da_cons (de_call (fn_mixed_share Fx) hr tk (da_cons (de_v (i := 0) rfl (by kernel_rfl) (by exact vis_of (by kernel_rfl)) (by kernel_rfl) (by kernel_rfl)) (da_cons (de_v (i := 1) rfl (by kernel_rfl) (by exact vis_of (by kernel_rfl)) (by kernel_rfl) (by kernel_rfl)) (da_nil) (by kernel_rfl)) (by kernel_rfl)) (by omega) (by kernel_rfl) (by exact gl_of (by kernel_rfl)) (by kernel_rfl) (by kernel_rfl) (by kernel_rfl)) (da_nil) (by kernel_rfl)) (by omega) (by kernel_rfl) (by exact gl_of (by kernel_rfl)) (by kernel_rfl) (by kernel_rfl) (by kernel_rfl)) (da_cons (de_call (fn_bits_for Fx) hr tk (da_cons (de_v (i := 2) rfl (by kernel_rfl) (by exact vis_of (by kernel_rfl)) (by kernel_rfl) (by kernel_rfl)) (da_nil) (by kernel_rfl)) (by omega) (by kernel_rfl) (by exact gl_of (by kernel_rfl)) (by kernel_rfl) (by kernel_rfl) (by kernel_rfl)) (da_cons (de_call (fn_bits_for Fx) hr tk (da_cons (de_call (fn_share Fx) hr tk (da_cons (de_int) (da_cons (de_c1B c_len bt_len hb_len (DE.toB (de_v (i := 0) rfl (by kernel_rfl) (by exact vis_of (by kernel_rfl)) (by kernel_rfl) (by kernel_rfl))) (by exact gl_of (by kernel_rfl)) (by exact ne_name (by kernel_rfl)) (by kernel_rfl) (by kernel_rfl) (by kernel_rfl)) (da_nil) (by kernel_rfl)) (by kernel_rfl)) (by omega) (by kernel_rfl) (by exact gl_of (by kernel_rfl)) (by kernel_rfl) (by kernel_rfl) (by kernel_rfl)) (da_nil) (by kernel_rfl)) (by omega) (by kernel_rfl) (by exact gl_of (by kernel_rfl)) (by kernel_rfl) (by kernel_rfl) (by kernel_rfl)) (da_nil) (by kernel_rfl)) (by kernel_rfl)) (by kernel_rfl)) (by decide)) trivial io0)) (.eq (.eq (.eq (.no (.no .nil))))) trivial owns_cx rfl (by decide) (by intro _; kernel_rfl))) trivial nd (by kernel_rfl) (by exact loc_of (by kernel_rfl)) (by decide) (by kernel_rfl) (by first | exact .inl rfl | exact .inr rfl))) trivial (by kernel_rfl))), rfl, nofun⟩
end
end K22

-- K22Fheard
set_option Elab.async false
set_option linter.all false
set_option maxRecDepth 100000
set_option maxHeartbeats 0
namespace K22
open DL PySem PySem.Spec PyProof.Rows L2
section
variable {P : Program} {w : World} {K : PySem.W.Frag} {mg : Str → Option Value} {base : Heap} {T : Tb}
theorem fn_heard (Fx : TX P w K mg base T) : FnD P w K mg base T 3 "heard" 4 .S M_heard := by
  obtain ⟨f, fd, hm, Fn, b⟩ := Fx.d_heard
  have hb_zip := Fx.b_zip
  refine fnD_of Fn hm sc_heard b fun cdv A outer s H E ds hl hr => ?_
  have nd := sc_heard.nd
  have tk := takes_cx (P := P) (w := w) (K := K) (mg := mg) (base := base) (N := ["weights", "voices", "k", "bit", "said", "row", "weight", "a"]) (q := "heard") (scope := defScope t_heard) (f := f) (cd := cdv) (A := A) (outer := outer) (s := s) (H := H) (E := E)
  have hu1 := hr.u1
  have hu64 := hr.u64
  have hu65 := hr.u65
  match ds, hl with
  | [a0, a1, a2, a3], _ => exact ⟨B_heard a0 a1 a2 a3, (by exact ds_env (e' := [.sh (a0), .sh (a1), .sh (a2), .sh (a3), .no, .no, .no, .no]) rfl (dss_setLc (i := 4) [("row", 5)] (di_any (DE.toB (de_v (i := 1) rfl (by kernel_rfl) (by exact vis_of (by kernel_rfl)) (by kernel_rfl) (by kernel_rfl))) (.inr rfl)) (fun q => (gt_nm (i := 5) nd (by kernel_rfl) (by exact loc_of (by kernel_rfl)) (by first | exact .inl rfl | exact .inr rfl))) (fun d12 => cb_nm (cb_mk (env2 := [.sh (a0), .sh (a1), .sh (a2), .sh (a3), .no, .sh (d12), .no, .no]) (fun q => .nil) (fun q => de_if (dt_cmp (o_eq hu64) (DE.toB (de_v (i := 3) rfl (by kernel_rfl) (by exact vis_of (by kernel_rfl)) (by kernel_rfl) (by kernel_rfl))) (DE.toB (de_str (s := [49]) (by kernel_rfl) (by kernel_rfl))) (by first | exact nomark _ | rfl)) (de_ix (DE.toB (de_v (i := 5) rfl (by kernel_rfl) (by exact vis_of (by kernel_rfl)) (by kernel_rfl) (by kernel_rfl))) (DE.toB (de_v (i := 2) rfl (by kernel_rfl) (by exact vis_of (by kernel_rfl)) (by kernel_rfl) (by kernel_rfl))) (by intro _ _; kernel_rfl)) (de_tup (da_cons (de_op o_sub (DE.toB (de_ix (DE.toB (de_ix (DE.toB (de_v (i := 5) rfl (by kernel_rfl) (by exact vis_of (by kernel_rfl)) (by kernel_rfl) (by kernel_rfl))) (DE.toB (de_v (i := 2) rfl (by kernel_rfl) (by exact vis_of (by kernel_rfl)) (by kernel_rfl) (by kernel_rfl))) (by intro _ _; kernel_rfl))) (DE.toB (de_int)) (by intro _ _; kernel_rfl))) (DE.toB (de_ix (DE.toB (de_ix (DE.toB (de_v (i := 5) rfl (by kernel_rfl) (by exact vis_of (by kernel_rfl)) (by kernel_rfl) (by kernel_rfl))) (DE.toB (de_v (i := 2) rfl (by kernel_rfl) (by exact vis_of (by kernel_rfl)) (by kernel_rfl) (by kernel_rfl))) (by intro _ _; kernel_rfl))) (DE.toB (de_int)) (by intro _ _; kernel_rfl)))) (da_cons (de_ix (DE.toB (de_ix (DE.toB (de_v (i := 5) rfl (by kernel_rfl) (by exact vis_of (by kernel_rfl)) (by kernel_rfl) (by kernel_rfl))) (DE.toB (de_v (i := 2) rfl (by kernel_rfl) (by exact vis_of (by kernel_rfl)) (by kernel_rfl) (by kernel_rfl))) (by intro _ _; kernel_rfl))) (DE.toB (de_int)) (by intro _ _; kernel_rfl)) (da_nil) (by kernel_rfl)) (by kernel_rfl)) (by decide))))) (dss_setF (fun v1 => by exact ds_env (e' := [.sh (a0), .sh (a1), .sh (a2), .sh (a3), .sh (v1), .no, .no, .no]) rfl (dss_ret (us := []) (DE.ofO (de_lc [("weight", 6), ("a", 7)] (di_zip (DE.toB (de_v (i := 0) rfl (by kernel_rfl) (by exact vis_of (by kernel_rfl)) (by kernel_rfl) (by kernel_rfl))) (DE.toB (de_v (i := 4) rfl (by kernel_rfl) (by exact vis_of (by kernel_rfl)) (by kernel_rfl) (by kernel_rfl))) (.inr rfl) hb_zip (by exact gl_of (by kernel_rfl)) (by kernel_rfl) (by kernel_rfl) (by kernel_rfl)) (fun q => (gt_tup (gts_cons (gt_nm (i := 6) nd (by kernel_rfl) (by exact loc_of (by kernel_rfl)) (by first | exact .inl rfl | exact .inr rfl)) (gts_cons (gt_nm (i := 7) nd (by kernel_rfl) (by exact loc_of (by kernel_rfl)) (by first | exact .inl rfl | exact .inr rfl)) gts_nil (by kernel_rfl)) (by kernel_rfl)) rfl (by kernel_rfl) (by kernel_rfl))) (fun d4 => cb_2 fun p5 p6 => cb_mk (env2 := [.sh (a0), .sh (a1), .sh (a2), .sh (a3), .sh (v1), .no, .sh (p5), .sh (p6)]) (fun q => .nil) (fun q => de_call (fn_times Fx) hr takes_none5 (da_cons (de_v (i := 6) rfl (by kernel_rfl) (by exact vis_of (by kernel_rfl)) (by kernel_rfl) (by kernel_rfl)) (da_cons (de_v (i := 7) rfl (by kernel_rfl) (by exact vis_of (by kernel_rfl)) (by kernel_rfl) (by kernel_rfl)) (da_nil) (by kernel_rfl)) (by kernel_rfl)) (by omega) (by kernel_rfl) (by exact gl_of (by kernel_rfl)) (by kernel_rfl) (by kernel_rfl) (by kernel_rfl))) rfl nd (blkOk_by (by kernel_rfl)) (by decide) (by intro _; kernel_rfl))) trivial io0)) (Nat.le_of_ble_eq_true rfl)) trivial rfl nd (blkOk_by (by kernel_rfl)) (by kernel_rfl) (by kernel_rfl) (by kernel_rfl) (by decide) (by decide) (by intro _; kernel_rfl))), rfl, nofun⟩
end
end K22

-- K22Fover
set_option Elab.async false
set_option linter.all false
set_option maxRecDepth 100000
set_option maxHeartbeats 0
namespace K22
open DL PySem PySem.Spec PyProof.Rows L2
section
variable {P : Program} {w : World} {K : PySem.W.Frag} {mg : Str → Option Value} {base : Heap} {T : Tb}
theorem fn_over (Fx : TX P w K mg base T) : FnD P w K mg base T 2 "over" 2 .S M_over := by
  obtain ⟨f, fd, hm, Fn, b⟩ := Fx.d_over
  refine fnD_of Fn hm sc_over b fun cdv A outer s H E ds hl hr => ?_
  have nd := sc_over.nd
  have tk := takes_cx (P := P) (w := w) (K := K) (mg := mg) (base := base) (N := ["a", "b"]) (q := "over") (scope := defScope t_over) (f := f) (cd := cdv) (A := A) (outer := outer) (s := s) (H := H) (E := E)
  have hu1 := hr.u1
  have hu64 := hr.u64
  have hu65 := hr.u65
  match ds, hl with
  | [a0, a1], _ => exact ⟨B_over a0 a1, (by exact ds_env (e' := [.sh (a0), .sh (a1)]) rfl (dss_ret (us := []) (de_call (fn_share Fx) hr tk (da_cons (de_op o_mul (DE.toB (de_ix (DE.toB (de_v (i := 0) rfl (by kernel_rfl) (by exact vis_of (by kernel_rfl)) (by kernel_rfl) (by kernel_rfl))) (DE.toB (de_int)) (by intro _ _; kernel_rfl))) (DE.toB (de_ix (DE.toB (de_v (i := 1) rfl (by kernel_rfl) (by exact vis_of (by kernel_rfl)) (by kernel_rfl) (by kernel_rfl))) (DE.toB (de_int)) (by intro _ _; kernel_rfl)))) (da_cons (de_op o_mul (DE.toB (de_ix (DE.toB (de_v (i := 0) rfl (by kernel_rfl) (by exact vis_of (by kernel_rfl)) (by kernel_rfl) (by kernel_rfl))) (DE.toB (de_int)) (by intro _ _; kernel_rfl))) (DE.toB (de_ix (DE.toB (de_v (i := 1) rfl (by kernel_rfl) (by exact vis_of (by kernel_rfl)) (by kernel_rfl) (by kernel_rfl))) (DE.toB (de_int)) (by intro _ _; kernel_rfl)))) (da_nil) (by kernel_rfl)) (by kernel_rfl)) (by omega) (by kernel_rfl) (by exact gl_of (by kernel_rfl)) (by kernel_rfl) (by kernel_rfl) (by kernel_rfl)) trivial io0)), rfl, nofun⟩
end
end K22

-- K22Fsaid_next
set_option Elab.async false
set_option linter.all false
set_option maxRecDepth 100000
set_option maxHeartbeats 0
namespace K22
open DL PySem PySem.Spec PyProof.Rows L2
section
variable {P : Program} {w : World} {K : PySem.W.Frag} {mg : Str → Option Value} {base : Heap} {T : Tb}
theorem fn_said_next (Fx : TX P w K mg base T) : FnD P w K mg base T 4 "said_next" 2 .S M_said_next := by
  obtain ⟨f, fd, hm, Fn, b⟩ := Fx.d_said_next
  have hb_enumerate := Fx.b_enumerate
  have hb_len := Fx.b_len
  have hb_tuple := Fx.b_tuple
  have hb_zip := Fx.b_zip
  refine fnD_of Fn hm sc_said_next b fun cdv A outer s H E ds hl hr => ?_
  have nd := sc_said_next.nd
  have tk := takes_cx (P := P) (w := w) (K := K) (mg := mg) (base := base) (N := ["voices", "bits", "weights", "found", "k", "bit", "told", "weight", "row"]) (q := "said_next") (scope := defScope t_said_next) (f := f) (cd := cdv) (A := A) (outer := outer) (s := s) (H := H) (E := E)
  have hu1 := hr.u1
  have hu64 := hr.u64
  have hu65 := hr.u65
  match ds, hl with
  | [a0, a1], _ => exact ⟨B_said_next a0 a1, (by exact ds_env (e' := [.sh (a0), .sh (a1), .no, .no, .no, .no, .no, .no, .no]) rfl (dss_expr (de_call (fn_check_bits Fx) hr tk (da_cons (de_v (i := 1) rfl (by kernel_rfl) (by exact vis_of (by kernel_rfl)) (by kernel_rfl) (by kernel_rfl)) (da_nil) (by kernel_rfl)) (by omega) (by kernel_rfl) (by exact gl_of (by kernel_rfl)) (by kernel_rfl) (by kernel_rfl) (by kernel_rfl)) (by exact ds_env (e' := [.sh (a0), .sh (a1), .no, .no, .no, .no, .no, .no, .no]) rfl (dss_expr (de_call (fn_check_voices Fx) hr tk (da_cons (de_v (i := 0) rfl (by kernel_rfl) (by exact vis_of (by kernel_rfl)) (by kernel_rfl) (by kernel_rfl)) (da_cons (de_c1B c_len bt_len hb_len (DE.toB (de_v (i := 1) rfl (by kernel_rfl) (by exact vis_of (by kernel_rfl)) (by kernel_rfl) (by kernel_rfl))) (by exact gl_of (by kernel_rfl)) (by exact ne_name (by kernel_rfl)) (by kernel_rfl) (by kernel_rfl) (by kernel_rfl)) (da_nil) (by kernel_rfl)) (by kernel_rfl)) (by omega) (by kernel_rfl) (by exact gl_of (by kernel_rfl)) (by kernel_rfl) (by kernel_rfl) (by kernel_rfl)) (by exact ds_env (e' := [.sh (a0), .sh (a1), .no, .no, .no, .no, .no, .no, .no]) rfl (dss_set (i := 2) (de_op o_rep (DE.toB (de_lst (da_cons (de_call (fn_share Fx) hr tk (da_cons (de_int) (da_cons (de_c1B c_len bt_len hb_len (DE.toB (de_v (i := 0) rfl (by kernel_rfl) (by exact vis_of (by kernel_rfl)) (by kernel_rfl) (by kernel_rfl))) (by exact gl_of (by kernel_rfl)) (by exact ne_name (by kernel_rfl)) (by kernel_rfl) (by kernel_rfl) (by kernel_rfl)) (da_nil) (by kernel_rfl)) (by kernel_rfl)) (by omega) (by kernel_rfl) (by exact gl_of (by kernel_rfl)) (by kernel_rfl) (by kernel_rfl) (by kernel_rfl)) (da_nil) (by kernel_rfl)) (by decide))) (DE.toB (de_c1B c_len bt_len hb_len (DE.toB (de_v (i := 0) rfl (by kernel_rfl) (by exact vis_of (by kernel_rfl)) (by kernel_rfl) (by kernel_rfl))) (by exact gl_of (by kernel_rfl)) (by exact ne_name (by kernel_rfl)) (by kernel_rfl) (by kernel_rfl) (by kernel_rfl)))) (fun v8 => by exact ds_env (e' := [.sh (a0), .sh (a1), .sh (v8), .no, .no, .no, .no, .no, .no]) rfl (dss_setO (i := 3) (de_lst (da_nil) (by decide)) (lstK_ds fun v9 => by exact ds_env (e' := [.sh (a0), .sh (a1), .sh (v8), .ow (.lst (v9)), .no, .no, .no, .no, .no]) rfl (dss_for (pt := (Pat.tp [(Pat.nm 4), (Pat.nm 5)])) (injb := (fun (s10 : List D × D) => [.sh (a0), .sh (a1), .sh (s10.2), .ow (.lst (s10.1)), .no, .no, .no, .no, .no])) (s0 := ((v9), (v8))) (di_enum (de_v (i := 1) rfl (by kernel_rfl) (by exact vis_of (by kernel_rfl)) (by kernel_rfl) (by kernel_rfl)) (.inl rfl) hb_enumerate (by exact gl_of (by kernel_rfl)) (by kernel_rfl)) (gt_tup (gts_cons (gt_nm (i := 4) nd (by kernel_rfl) (by exact loc_of (by kernel_rfl)) (by first | exact .inl rfl | exact .inr rfl)) (gts_cons (gt_nm (i := 5) nd (by kernel_rfl) (by exact loc_of (by kernel_rfl)) (by first | exact .inl rfl | exact .inr rfl)) gts_nil (by kernel_rfl)) (by kernel_rfl)) rfl (by kernel_rfl) (by kernel_rfl)) (fun d13 s11 => dso_2 fun p14 p15 => by exact ds_env (e' := [.sh (a0), .sh (a1), .sh (s11.2), .ow (.lst (s11.1)), .sh (p14), .sh (p15), .no, .no, .no]) rfl (dss_set (i := 6) (de_call (fn_sum_of Fx) hr tk (da_cons (DE.ofO (de_lc [("weight", 7), ("row", 8)] (di_zip (DE.toB (de_v (i := 2) rfl (by kernel_rfl) (by exact vis_of (by kernel_rfl)) (by kernel_rfl) (by kernel_rfl))) (DE.toB (de_v (i := 0) rfl (by kernel_rfl) (by exact vis_of (by kernel_rfl)) (by kernel_rfl) (by kernel_rfl))) (.inr rfl) hb_zip (by exact gl_of (by kernel_rfl)) (by kernel_rfl) (by kernel_rfl) (by kernel_rfl)) (fun q => (gt_tup (gts_cons (gt_nm (i := 7) nd (by kernel_rfl) (by exact loc_of (by kernel_rfl)) (by first | exact .inl rfl | exact .inr rfl)) (gts_cons (gt_nm (i := 8) nd (by kernel_rfl) (by exact loc_of (by kernel_rfl)) (by first | exact .inl rfl | exact .inr rfl)) gts_nil (by kernel_rfl)) (by kernel_rfl)) rfl (by kernel_rfl) (by kernel_rfl))) (fun d35 => cb_2 fun p36 p37 => cb_mk (env2 := [.sh (a0), .sh (a1), .sh (s11.2), .ow (.lst (s11.1)), .sh (p14), .sh (p15), .no, .sh (p36), .sh (p37)]) (fun q => .nil) (fun q => de_call (fn_times Fx) hr takes_none5 (da_cons (de_v (i := 7) rfl (by kernel_rfl) (by exact vis_of (by kernel_rfl)) (by kernel_rfl) (by kernel_rfl)) (da_cons (de_ix (DE.toB (de_v (i := 8) rfl (by kernel_rfl) (by exact vis_of (by kernel_rfl)) (by kernel_rfl) (by kernel_rfl))) (DE.toB (de_v (i := 4) rfl (by kernel_rfl) (by exact vis_of (by kernel_rfl)) (by kernel_rfl) (by kernel_rfl))) (by intro _ _; kernel_rfl)) (da_nil) (by kernel_rfl)) (by kernel_rfl)) (by omega) (by kernel_rfl) (by exact gl_of (by kernel_rfl)) (by kernel_rfl) (by kernel_rfl) (by kernel_rfl))) rfl nd (blkOk_by (by kernel_rfl)) (by decide) (by intro _; kernel_rfl))) (da_nil) (by kernel_rfl)) (by omega) (by kernel_rfl) (by exact gl_of (by kernel_rfl)) (by kernel_rfl) (by kernel_rfl) (by kernel_rfl)) (fun v16 => by exact ds_env (e' := [.sh (a0), .sh (a1), .sh (s11.2), .ow (.lst (s11.1)), .sh (p14), .sh (p15), .sh (v16), .no, .no]) rfl (dss_append (i := 3) (xs := s11.1) rfl (de_call (fn_over Fx) hr tk (da_cons (de_v (i := 6) rfl (by kernel_rfl) (by exact vis_of (by kernel_rfl)) (by kernel_rfl) (by kernel_rfl)) (da_cons (de_call (fn_sum_of Fx) hr tk (da_cons (de_v (i := 2) rfl (by kernel_rfl) (by exact vis_of (by kernel_rfl)) (by kernel_rfl) (by kernel_rfl)) (da_nil) (by kernel_rfl)) (by omega) (by kernel_rfl) (by exact gl_of (by kernel_rfl)) (by kernel_rfl) (by kernel_rfl) (by kernel_rfl)) (da_nil) (by kernel_rfl)) (by kernel_rfl)) (by omega) (by kernel_rfl) (by exact gl_of (by kernel_rfl)) (by kernel_rfl) (by kernel_rfl) (by kernel_rfl)) (fun v23 => by exact ds_env (e' := [.sh (a0), .sh (a1), .sh (s11.2), .ow (.lst (s11.1 ++ [v23])), .sh (p14), .sh (p15), .sh (v16), .no, .no]) rfl (dss_set (i := 2) (de_call (fn_heard Fx) hr tk (da_cons (de_v (i := 2) rfl (by kernel_rfl) (by exact vis_of (by kernel_rfl)) (by kernel_rfl) (by kernel_rfl)) (da_cons (de_v (i := 0) rfl (by kernel_rfl) (by exact vis_of (by kernel_rfl)) (by kernel_rfl) (by kernel_rfl)) (da_cons (de_v (i := 4) rfl (by kernel_rfl) (by exact vis_of (by kernel_rfl)) (by kernel_rfl) (by kernel_rfl)) (da_cons (de_v (i := 5) rfl (by kernel_rfl) (by exact vis_of (by kernel_rfl)) (by kernel_rfl) (by kernel_rfl)) (da_nil) (by kernel_rfl)) (by kernel_rfl)) (by kernel_rfl)) (by kernel_rfl)) (by omega) (by kernel_rfl) (by exact gl_of (by kernel_rfl)) (by kernel_rfl) (by kernel_rfl) (by kernel_rfl)) (fun v24 => by exact ds_env (e' := [.sh (a0), .sh (a1), .sh (v24), .ow (.lst (s11.1 ++ [v23])), .sh (p14), .sh (p15), .sh (v16), .no, .no]) rfl (dss_nil (s := ((s11.1 ++ [v23]), (v24))) (.eq (.eq (.eq (.eq (.no (.no (.no (.no (.no .nil))))))))))) trivial nd (by kernel_rfl) (by exact loc_of (by kernel_rfl)) (by decide) (by kernel_rfl) (by first | exact .inl rfl | exact .inr rfl))) trivial (by kernel_rfl) (by exact vis_of (by kernel_rfl)) (by kernel_rfl) (by kernel_rfl) (by kernel_rfl) (by kernel_rfl) (by kernel_rfl) (by kernel_rfl) (by kernel_rfl) (by kernel_rfl))) trivial nd (by kernel_rfl) (by exact loc_of (by kernel_rfl)) (by decide) (by kernel_rfl) (by first | exact .inl rfl | exact .inr rfl))) (fun s46 => by exact ds_env (e' := [.sh (a0), .sh (a1), .sh (s46.2), .ow (.lst (s46.1)), .no, .no, .no, .no, .no]) rfl (dss_ret (us := []) (de_c1T c_tuple bt_tuple hb_tuple (de_vo (i := 3) rfl (by kernel_rfl) (by exact vis_of (by kernel_rfl)) (by kernel_rfl) (by kernel_rfl)) (by exact gl_of (by kernel_rfl)) (by exact ne_name (by kernel_rfl)) (by kernel_rfl) (by kernel_rfl) (by kernel_rfl)) trivial io0)) (.eq (.eq (.eq (.eq (.no (.no (.no (.no (.no .nil))))))))) trivial owns_cx rfl (by decide) (by intro _; kernel_rfl))) trivial nd (by kernel_rfl) (by exact loc_of (by kernel_rfl)) (by decide) (by kernel_rfl) (by first | exact .inl rfl | exact .inr rfl))) trivial nd (by kernel_rfl) (by exact loc_of (by kernel_rfl)) (by decide) (by kernel_rfl) (by first | exact .inl rfl | exact .inr rfl))) trivial (by kernel_rfl))) trivial (by kernel_rfl))), rfl, nofun⟩
end
end K22

-- K22Fswitching
set_option Elab.async false
set_option linter.all false
set_option maxRecDepth 100000
set_option maxHeartbeats 0
namespace K22
open DL PySem PySem.Spec PyProof.Rows L2
section
variable {P : Program} {w : World} {K : PySem.W.Frag} {mg : Str → Option Value} {base : Heap} {T : Tb}
theorem fn_switching (Fx : TX P w K mg base T) : FnD P w K mg base T 4 "switching" 3 .S M_switching := by
  obtain ⟨f, fd, hm, Fn, b⟩ := Fx.d_switching
  have hb_enumerate := Fx.b_enumerate
  have hb_len := Fx.b_len
  have hb_zip := Fx.b_zip
  obtain ⟨_, _, hg_ONE⟩ := Fx.g_ONE
  obtain ⟨_, _, hg_ZERO⟩ := Fx.g_ZERO
  obtain ⟨_, hx_InvalidCounts⟩ := Fx.x_InvalidCounts
  refine fnD_of Fn hm sc_switching b fun cdv A outer s H E ds hl hr => ?_
  have nd := sc_switching.nd
  have tk := takes_cx (P := P) (w := w) (K := K) (mg := mg) (base := base) (N := ["voices", "bits", "rate", "weights", "other", "stay", "k", "bit", "total", "rests", "one", "rest"]) (q := "switching") (scope := defScope t_switching) (f := f) (cd := cdv) (A := A) (outer := outer) (s := s) (H := H) (E := E)
  have hu1 := hr.u1
  have hu64 := hr.u64
  have hu65 := hr.u65
  match ds, hl with
  | [a0, a1, a2], _ => exact ⟨B_switching a0 a1 a2, (by exact ds_env (e' := [.sh (a0), .sh (a1), .sh (a2), .no, .no, .no, .no, .no, .no, .no, .no, .no]) rfl (dss_expr (de_call (fn_check_bits Fx) hr tk (da_cons (de_v (i := 1) rfl (by kernel_rfl) (by exact vis_of (by kernel_rfl)) (by kernel_rfl) (by kernel_rfl)) (da_nil) (by kernel_rfl)) (by omega) (by kernel_rfl) (by exact gl_of (by kernel_rfl)) (by kernel_rfl) (by kernel_rfl) (by kernel_rfl)) (by exact ds_env (e' := [.sh (a0), .sh (a1), .sh (a2), .no, .no, .no, .no, .no, .no, .no, .no, .no]) rfl (dss_expr (de_call (fn_check_voices Fx) hr tk (da_cons (de_v (i := 0) rfl (by kernel_rfl) (by exact vis_of (by kernel_rfl)) (by kernel_rfl) (by kernel_rfl)) (da_cons (de_c1B c_len bt_len hb_len (DE.toB (de_v (i := 1) rfl (by kernel_rfl) (by exact vis_of (by kernel_rfl)) (by kernel_rfl) (by kernel_rfl))) (by exact gl_of (by kernel_rfl)) (by exact ne_name (by kernel_rfl)) (by kernel_rfl) (by kernel_rfl) (by kernel_rfl)) (da_nil) (by kernel_rfl)) (by kernel_rfl)) (by omega) (by kernel_rfl) (by exact gl_of (by kernel_rfl)) (by kernel_rfl) (by kernel_rfl) (by kernel_rfl)) (by exact ds_env (e' := [.sh (a0), .sh (a1), .sh (a2), .no, .no, .no, .no, .no, .no, .no, .no, .no]) rfl (dss_ifR (dt_w (dw_or (dt_not (dt_tru (DE.toB (de_call (fn_less Fx) hr tk (da_cons (de_glob hg_ZERO.1 hg_ZERO.2.1 hg_ZERO.2.2 (by exact gl_of (by kernel_rfl)) (by kernel_rfl)) (da_cons (de_v (i := 2) rfl (by kernel_rfl) (by exact vis_of (by kernel_rfl)) (by kernel_rfl) (by kernel_rfl)) (da_nil) (by kernel_rfl)) (by kernel_rfl)) (by omega) (by kernel_rfl) (by exact gl_of (by kernel_rfl)) (by kernel_rfl) (by kernel_rfl) (by kernel_rfl))) (by intro _; kernel_rfl))) (dw_or (dt_not (dt_tru (DE.toB (de_call (fn_less Fx) hr tk (da_cons (de_v (i := 2) rfl (by kernel_rfl) (by exact vis_of (by kernel_rfl)) (by kernel_rfl) (by kernel_rfl)) (da_cons (de_glob hg_ONE.1 hg_ONE.2.1 hg_ONE.2.2 (by exact gl_of (by kernel_rfl)) (by kernel_rfl)) (da_nil) (by kernel_rfl)) (by kernel_rfl)) (by omega) (by kernel_rfl) (by exact gl_of (by kernel_rfl)) (by kernel_rfl) (by kernel_rfl) (by kernel_rfl))) (by intro _; kernel_rfl))) (dw_or1 (dt_cmp o_lt (DE.toB (de_c1B c_len bt_len hb_len (DE.toB (de_v (i := 0) rfl (by kernel_rfl) (by exact vis_of (by kernel_rfl)) (by kernel_rfl) (by kernel_rfl))) (by exact gl_of (by kernel_rfl)) (by exact ne_name (by kernel_rfl)) (by kernel_rfl) (by kernel_rfl) (by kernel_rfl))) (DE.toB (de_int)) (by first | exact nomark _ | rfl)))))) (by exact ds_env (e' := [.sh (a0), .sh (a1), .sh (a2), .no, .no, .no, .no, .no, .no, .no, .no, .no]) rfl (dss_raise tk trivial rfl PySem.F.excBase_ValueError hx_InvalidCounts.1 hx_InvalidCounts.2.1 hx_InvalidCounts.2.2.1 (raises_own hx_InvalidCounts.2.2.2.1 hx_InvalidCounts.2.2.2.2) (by exact gl_of (by kernel_rfl)) (by kernel_rfl))) (by exact ds_env (e' := [.sh (a0), .sh (a1), .sh (a2), .no, .no, .no, .no, .no, .no, .no, .no, .no]) rfl (dss_set (i := 3) (de_op o_rep (DE.toB (de_lst (da_cons (de_call (fn_share Fx) hr tk (da_cons (de_int) (da_cons (de_c1B c_len bt_len hb_len (DE.toB (de_v (i := 0) rfl (by kernel_rfl) (by exact vis_of (by kernel_rfl)) (by kernel_rfl) (by kernel_rfl))) (by exact gl_of (by kernel_rfl)) (by exact ne_name (by kernel_rfl)) (by kernel_rfl) (by kernel_rfl) (by kernel_rfl)) (da_nil) (by kernel_rfl)) (by kernel_rfl)) (by omega) (by kernel_rfl) (by exact gl_of (by kernel_rfl)) (by kernel_rfl) (by kernel_rfl) (by kernel_rfl)) (da_nil) (by kernel_rfl)) (by decide))) (DE.toB (de_c1B c_len bt_len hb_len (DE.toB (de_v (i := 0) rfl (by kernel_rfl) (by exact vis_of (by kernel_rfl)) (by kernel_rfl) (by kernel_rfl))) (by exact gl_of (by kernel_rfl)) (by exact ne_name (by kernel_rfl)) (by kernel_rfl) (by kernel_rfl) (by kernel_rfl)))) (fun v21 => by exact ds_env (e' := [.sh (a0), .sh (a1), .sh (a2), .sh (v21), .no, .no, .no, .no, .no, .no, .no, .no]) rfl (dss_set (i := 4) (de_call (fn_over Fx) hr tk (da_cons (de_v (i := 2) rfl (by kernel_rfl) (by exact vis_of (by kernel_rfl)) (by kernel_rfl) (by kernel_rfl)) (da_cons (de_tup (da_cons (de_op o_sub (DE.toB (de_c1B c_len bt_len hb_len (DE.toB (de_v (i := 0) rfl (by kernel_rfl) (by exact vis_of (by kernel_rfl)) (by kernel_rfl) (by kernel_rfl))) (by exact gl_of (by kernel_rfl)) (by exact ne_name (by kernel_rfl)) (by kernel_rfl) (by kernel_rfl) (by kernel_rfl))) (DE.toB (de_int))) (da_cons (de_int) (da_nil) (by kernel_rfl)) (by kernel_rfl)) (by decide)) (da_nil) (by kernel_rfl)) (by kernel_rfl)) (by omega) (by kernel_rfl) (by exact gl_of (by kernel_rfl)) (by kernel_rfl) (by kernel_rfl) (by kernel_rfl)) (fun v22 => by exact ds_env (e' := [.sh (a0), .sh (a1), .sh (a2), .sh (v21), .sh (v22), .no, .no, .no, .no, .no, .no, .no]) rfl (dss_set (i := 5) (de_tup (da_cons (de_op o_sub (DE.toB (de_ix (DE.toB (de_v (i := 2) rfl (by kernel_rfl) (by exact vis_of (by kernel_rfl)) (by kernel_rfl) (by kernel_rfl))) (DE.toB (de_int)) (by intro _ _; kernel_rfl))) (DE.toB (de_ix (DE.toB (de_v (i := 2) rfl (by kernel_rfl) (by exact vis_of (by kernel_rfl)) (by kernel_rfl) (by kernel_rfl))) (DE.toB (de_int)) (by intro _ _; kernel_rfl)))) (da_cons (de_ix (DE.toB (de_v (i := 2) rfl (by kernel_rfl) (by exact vis_of (by kernel_rfl)) (by kernel_rfl) (by kernel_rfl))) (DE.toB (de_int)) (by intro _ _; kernel_rfl)) (da_nil) (by kernel_rfl)) (by kernel_rfl)) (by decide)) (fun v23 => by exact ds_env (e' := [.sh (a0), .sh (a1), .sh (a2), .sh (v21), .sh (v22), .sh (v23), .no, .no, .no, .no, .no, .no]) rfl (dss_for (pt := (Pat.tp [(Pat.nm 6), (Pat.nm 7)])) (injb := (fun (s24 : D) => [.sh (a0), .sh (a1), .sh (a2), .sh (s24), .sh (v22), .sh (v23), .no, .no, .no, .no, .no, .no])) (s0 := (v21)) (di_enum (de_v (i := 1) rfl (by kernel_rfl) (by exact vis_of (by kernel_rfl)) (by kernel_rfl) (by kernel_rfl)) (.inl rfl) hb_enumerate (by exact gl_of (by kernel_rfl)) (by kernel_rfl)) (gt_tup (gts_cons (gt_nm (i := 6) nd (by kernel_rfl) (by exact loc_of (by kernel_rfl)) (by first | exact .inl rfl | exact .inr rfl)) (gts_cons (gt_nm (i := 7) nd (by kernel_rfl) (by exact loc_of (by kernel_rfl)) (by first | exact .inl rfl | exact .inr rfl)) gts_nil (by kernel_rfl)) (by kernel_rfl)) rfl (by kernel_rfl) (by kernel_rfl)) (fun d27 s25 => dso_2 fun p28 p29 => by exact ds_env (e' := [.sh (a0), .sh (a1), .sh (a2), .sh (s25), .sh (v22), .sh (v23), .sh (p28), .sh (p29), .no, .no, .no, .no]) rfl (dss_if (inj1 := (fun (s90 : D) => [.sh (a0), .sh (a1), .sh (a2), .sh (s90), .sh (v22), .sh (v23), .sh (p28), .sh (p29), .no, .no, .no, .no])) (dt_cmp o_gt (DE.toB (de_v (i := 6) rfl (by kernel_rfl) (by exact vis_of (by kernel_rfl)) (by kernel_rfl) (by kernel_rfl))) (DE.toB (de_int)) (by first | exact nomark _ | rfl)) (by exact ds_env (e' := [.sh (a0), .sh (a1), .sh (a2), .sh (s25), .sh (v22), .sh (v23), .sh (p28), .sh (p29), .no, .no, .no, .no]) rfl (dss_set (i := 8) (de_call (fn_sum_of Fx) hr tk (da_cons (de_v (i := 3) rfl (by kernel_rfl) (by exact vis_of (by kernel_rfl)) (by kernel_rfl) (by kernel_rfl)) (da_nil) (by kernel_rfl)) (by omega) (by kernel_rfl) (by exact gl_of (by kernel_rfl)) (by kernel_rfl) (by kernel_rfl) (by kernel_rfl)) (fun v32 => by exact ds_env (e' := [.sh (a0), .sh (a1), .sh (a2), .sh (s25), .sh (v22), .sh (v23), .sh (p28), .sh (p29), .sh (v32), .no, .no, .no]) rfl (dss_setLc (i := 9) [("one", 10)] (di_any (DE.toB (de_v (i := 3) rfl (by kernel_rfl) (by exact vis_of (by kernel_rfl)) (by kernel_rfl) (by kernel_rfl))) (.inr rfl)) (fun q => (gt_nm (i := 10) nd (by kernel_rfl) (by exact loc_of (by kernel_rfl)) (by first | exact .inl rfl | exact .inr rfl))) (fun d53 => cb_nm (cb_mk (env2 := [.sh (a0), .sh (a1), .sh (a2), .sh (s25), .sh (v22), .sh (v23), .sh (p28), .sh (p29), .sh (v32), .no, .sh (d53), .no]) (fun q => .nil) (fun q => de_call (fn_share Fx) hr takes_none5 (da_cons (de_op o_sub (DE.toB (de_op o_mul (DE.toB (de_ix (DE.toB (de_v (i := 8) rfl (by kernel_rfl) (by exact vis_of (by kernel_rfl)) (by kernel_rfl) (by kernel_rfl))) (DE.toB (de_int)) (by intro _ _; kernel_rfl))) (DE.toB (de_ix (DE.toB (de_v (i := 10) rfl (by kernel_rfl) (by exact vis_of (by kernel_rfl)) (by kernel_rfl) (by kernel_rfl))) (DE.toB (de_int)) (by intro _ _; kernel_rfl))))) (DE.toB (de_op o_mul (DE.toB (de_ix (DE.toB (de_v (i := 10) rfl (by kernel_rfl) (by exact vis_of (by kernel_rfl)) (by kernel_rfl) (by kernel_rfl))) (DE.toB (de_int)) (by intro _ _; kernel_rfl))) (DE.toB (de_ix (DE.toB (de_v (i := 8) rfl (by kernel_rfl) (by exact vis_of (by kernel_rfl)) (by kernel_rfl) (by kernel_rfl))) (DE.toB (de_int)) (by intro _ _; kernel_rfl)))))) (da_cons (de_op o_mul (DE.toB (de_ix (DE.toB (de_v (i := 8) rfl (by kernel_rfl) (by exact vis_of (by kernel_rfl)) (by kernel_rfl) (by kernel_rfl))) (DE.toB (de_int)) (by intro _ _; kernel_rfl))) (DE.toB (de_ix (DE.toB (de_v (i := 10) rfl (by kernel_rfl) (by exact vis_of (by kernel_rfl)) (by kernel_rfl) (by kernel_rfl))) (DE.toB (de_int)) (by intro _ _; kernel_rfl)))) (da_nil) (by kernel_rfl)) (by kernel_rfl)) (by omega) (by kernel_rfl) (by exact gl_of (by kernel_rfl)) (by kernel_rfl) (by kernel_rfl) (by kernel_rfl)))) (dss_setF (fun v33 => by exact ds_env (e' := [.sh (a0), .sh (a1), .sh (a2), .sh (s25), .sh (v22), .sh (v23), .sh (p28), .sh (p29), .sh (v32), .sh (v33), .no, .no]) rfl (dss_setLc (i := 3) [("one", 10), ("rest", 11)] (di_zip (DE.toB (de_v (i := 3) rfl (by kernel_rfl) (by exact vis_of (by kernel_rfl)) (by kernel_rfl) (by kernel_rfl))) (DE.toB (de_v (i := 9) rfl (by kernel_rfl) (by exact vis_of (by kernel_rfl)) (by kernel_rfl) (by kernel_rfl))) (.inr rfl) hb_zip (by exact gl_of (by kernel_rfl)) (by kernel_rfl) (by kernel_rfl) (by kernel_rfl)) (fun q => (gt_tup (gts_cons (gt_nm (i := 10) nd (by kernel_rfl) (by exact loc_of (by kernel_rfl)) (by first | exact .inl rfl | exact .inr rfl)) (gts_cons (gt_nm (i := 11) nd (by kernel_rfl) (by exact loc_of (by kernel_rfl)) (by first | exact .inl rfl | exact .inr rfl)) gts_nil (by kernel_rfl)) (by kernel_rfl)) rfl (by kernel_rfl) (by kernel_rfl))) (fun d37 => cb_2 fun p38 p39 => cb_mk (env2 := [.sh (a0), .sh (a1), .sh (a2), .sh (s25), .sh (v22), .sh (v23), .sh (p28), .sh (p29), .sh (v32), .sh (v33), .sh (p38), .sh (p39)]) (fun q => .nil) (fun q => de_call (fn_plus Fx) hr takes_none5 (da_cons (de_call (fn_times Fx) hr takes_none5 (da_cons (de_v (i := 5) rfl (by kernel_rfl) (by exact vis_of (by kernel_rfl)) (by kernel_rfl) (by kernel_rfl)) (da_cons (de_v (i := 10) rfl (by kernel_rfl) (by exact vis_of (by kernel_rfl)) (by kernel_rfl) (by kernel_rfl)) (da_nil) (by kernel_rfl)) (by kernel_rfl)) (by omega) (by kernel_rfl) (by exact gl_of (by kernel_rfl)) (by kernel_rfl) (by kernel_rfl) (by kernel_rfl)) (da_cons (de_call (fn_times Fx) hr takes_none5 (da_cons (de_v (i := 4) rfl (by kernel_rfl) (by exact vis_of (by kernel_rfl)) (by kernel_rfl) (by kernel_rfl)) (da_cons (de_v (i := 11) rfl (by kernel_rfl) (by exact vis_of (by kernel_rfl)) (by kernel_rfl) (by kernel_rfl)) (da_nil) (by kernel_rfl)) (by kernel_rfl)) (by omega) (by kernel_rfl) (by exact gl_of (by kernel_rfl)) (by kernel_rfl) (by kernel_rfl) (by kernel_rfl)) (da_nil) (by kernel_rfl)) (by kernel_rfl)) (by omega) (by kernel_rfl) (by exact gl_of (by kernel_rfl)) (by kernel_rfl) (by kernel_rfl) (by kernel_rfl))) (dss_setF (fun v34 => by exact ds_env (e' := [.sh (a0), .sh (a1), .sh (a2), .sh (v34), .sh (v22), .sh (v23), .sh (p28), .sh (p29), .sh (v32), .sh (v33), .no, .no]) rfl (dss_nil (s := (v34)) (.eq (.eq (.eq (.eq (.eq (.eq (.eq (.eq (.no (.no (.no (.no .nil)))))))))))))) (Nat.le_of_ble_eq_true rfl)) trivial rfl nd (blkOk_by (by kernel_rfl)) (by kernel_rfl) (by kernel_rfl) (by kernel_rfl) (by decide) (by decide) (by intro _; kernel_rfl))) (Nat.le_of_ble_eq_true rfl)) trivial rfl nd (blkOk_by (by kernel_rfl)) (by kernel_rfl) (by kernel_rfl) (by kernel_rfl) (by decide) (by decide) (by intro _; kernel_rfl))) trivial nd (by kernel_rfl) (by exact loc_of (by kernel_rfl)) (by decide) (by kernel_rfl) (by first | exact .inl rfl | exact .inr rfl))) (by exact ds_env (e' := [.sh (a0), .sh (a1), .sh (a2), .sh (s25), .sh (v22), .sh (v23), .sh (p28), .sh (p29), .no, .no, .no, .no]) rfl (dss_nil (s := (s25)) (.eq (.eq (.eq (.eq (.eq (.eq (.eq (.eq (.no (.no (.no (.no .nil)))))))))))))) (fun s80 => by exact ds_env (e' := [.sh (a0), .sh (a1), .sh (a2), .sh (s80), .sh (v22), .sh (v23), .sh (p28), .sh (p29), .no, .no, .no, .no]) rfl (dss_set (i := 3) (de_call (fn_heard Fx) hr tk (da_cons (de_v (i := 3) rfl (by kernel_rfl) (by exact vis_of (by kernel_rfl)) (by kernel_rfl) (by kernel_rfl)) (da_cons (de_v (i := 0) rfl (by kernel_rfl) (by exact vis_of (by kernel_rfl)) (by kernel_rfl) (by kernel_rfl)) (da_cons (de_v (i := 6) rfl (by kernel_rfl) (by exact vis_of (by kernel_rfl)) (by kernel_rfl) (by kernel_rfl)) (da_cons (de_v (i := 7) rfl (by kernel_rfl) (by exact vis_of (by kernel_rfl)) (by kernel_rfl) (by kernel_rfl)) (da_nil) (by kernel_rfl)) (by kernel_rfl)) (by kernel_rfl)) (by kernel_rfl)) (by omega) (by kernel_rfl) (by exact gl_of (by kernel_rfl)) (by kernel_rfl) (by kernel_rfl) (by kernel_rfl)) (fun v81 => by exact ds_env (e' := [.sh (a0), .sh (a1), .sh (a2), .sh (v81), .sh (v22), .sh (v23), .sh (p28), .sh (p29), .no, .no, .no, .no]) rfl (dss_nil (s := (v81)) (.eq (.eq (.eq (.eq (.eq (.eq (.no (.no (.no (.no (.no (.no .nil)))))))))))))) trivial nd (by kernel_rfl) (by exact loc_of (by kernel_rfl)) (by decide) (by kernel_rfl) (by first | exact .inl rfl | exact .inr rfl))) trivial)) (fun s91 => by exact ds_env (e' := [.sh (a0), .sh (a1), .sh (a2), .sh (s91), .sh (v22), .sh (v23), .no, .no, .no, .no, .no, .no]) rfl (dss_ret (us := []) (de_call (fn_sum_of Fx) hr tk (da_cons (de_v (i := 3) rfl (by kernel_rfl) (by exact vis_of (by kernel_rfl)) (by kernel_rfl) (by kernel_rfl)) (da_nil) (by kernel_rfl)) (by omega) (by kernel_rfl) (by exact gl_of (by kernel_rfl)) (by kernel_rfl) (by kernel_rfl) (by kernel_rfl)) trivial io0)) (.eq (.eq (.eq (.eq (.eq (.eq (.no (.no (.no (.no (.no (.no .nil)))))))))))) trivial owns_cx rfl (by decide) (by intro _; kernel_rfl))) trivial nd (by kernel_rfl) (by exact loc_of (by kernel_rfl)) (by decide) (by kernel_rfl) (by first | exact .inl rfl | exact .inr rfl))) trivial nd (by kernel_rfl) (by exact loc_of (by kernel_rfl)) (by decide) (by kernel_rfl) (by first | exact .inl rfl | exact .inr rfl))) trivial nd (by kernel_rfl) (by exact loc_of (by kernel_rfl)) (by decide) (by kernel_rfl) (by first | exact .inl rfl | exact .inr rfl))) trivial)) trivial (by kernel_rfl))) trivial (by kernel_rfl))), rfl, nofun⟩
end
end K22

-- K22Flaw
set_option Elab.async false
set_option linter.all false
set_option maxRecDepth 100000
set_option maxHeartbeats 0
namespace K22
open DL PySem PySem.Spec PyProof.Rows L2
section
variable {P : Program} {w : World} {K : PySem.W.Frag} {mg : Str → Option Value} {base : Heap} {T : Tb}
theorem ok_law (Fx : TX P w K mg base T) {f : Addr} {fd : FuncData} {c0 Pt : Addr} (Fn : FunC K "law" t_law f fd (fun cdv => cdv = .ref c0)) (b : Binds K fd ["script"] []) (TB : LamX.TabB base mg c0 Pt) (hmT : (Pt, ("law.<locals>.<lambda>" : Str)) ∈ T) (huT : ∀ p ∈ T, p.1 = Pt → p.2 = ("law.<locals>.<lambda>" : Str)) : FnOk P w K mg base (L2.CX P w) 45 f fd ["script"] (spN K T mg .S 1 M_law) := by
  have hb_len := Fx.b_len
  have hb_range := Fx.b_range
  have hb_str := Fx.b_str
  have hb_tuple := Fx.b_tuple
  refine fnOk_ofC Fn sc_law b fun cdv hC A outer s H E ds hl hr => ?_
  subst hC
  have nd := sc_law.nd
  have tk := takes_cx (P := P) (w := w) (K := K) (mg := mg) (base := base) (N := ["script", "tape", "turn", "size", "many", "bits", "k", "voices", "j", "shares", "row", "whole", "said", "ahead", "due", "total", "best", "share_v", "told", "rate", "bad"]) (q := "law") (scope := defScope t_law) (f := f) (cd := .ref c0) (A := A) (outer := outer) (s := s) (H := H) (E := E)
  have hu1 := hr.u1
  have hu64 := hr.u64
  have hu65 := hr.u65
  match ds, hl with
  | [a0], _ => exact ⟨B_law a0, (by exact sn_env (e' := [.sh (a0), .no, .no, .no, .no, .no, .no, .no, .no, .no, .no, .no, .no, .no, .no, .no, .no, .no, .no, .no, .no]) rfl (sn_set (i := 1) (en_of (de_call (fn__law_tape Fx) hr tk (da_cons (de_v (i := 0) rfl (by kernel_rfl) (by exact vis_of (by kernel_rfl)) (by kernel_rfl) (by kernel_rfl)) (da_nil) (by kernel_rfl)) (by omega) (by kernel_rfl) (by exact gl_of (by kernel_rfl)) (by kernel_rfl) (by kernel_rfl) (by kernel_rfl))) (fun v1 => by exact sn_env (e' := [.sh (a0), .sh (v1), .no, .no, .no, .no, .no, .no, .no, .no, .no, .no, .no, .no, .no, .no, .no, .no, .no, .no, .no]) rfl (sn_for (pt := (Pat.nm 2)) (injb := (fun (s2 : Unit) => [.sh (a0), .sh (v1), .no, .no, .no, .no, .no, .no, .no, .no, .no, .no, .no, .no, .no, .no, .no, .no, .no, .no, .no])) (s0 := ()) (in_of (di_r1 (md := .S) (de_int) hb_range (by exact gl_of (by kernel_rfl)) (by kernel_rfl))) (gt_nm (i := 2) nd (by kernel_rfl) (by exact loc_of (by kernel_rfl)) (by first | exact .inl rfl | exact .inr rfl)) (fun d5 s3 => sno_nm (by exact sn_env (e' := [.sh (a0), .sh (v1), .sh (d5), .no, .no, .no, .no, .no, .no, .no, .no, .no, .no, .no, .no, .no, .no, .no, .no, .no, .no]) rfl (sn_asgP (pt := (Pat.tp [(Pat.nm 3), (Pat.nm 4)])) (en_tup (an_cons (en_call (fn__law_take Fx) hr tk (an_of (da_cons (de_v (i := 1) rfl (by kernel_rfl) (by exact vis_of (by kernel_rfl)) (by kernel_rfl) (by kernel_rfl)) (da_cons (de_int) (da_nil) (by kernel_rfl)) (by kernel_rfl))) (by omega) (by kernel_rfl) (by exact gl_of (by kernel_rfl)) (by kernel_rfl) (by kernel_rfl) (by kernel_rfl)) (an_cons (en_op o_add (en_of (DE.toB (de_int))) (fun _ => EN.toB (en_call (fn__law_take Fx) hr tk (an_of (da_cons (de_v (i := 1) rfl (by kernel_rfl) (by exact vis_of (by kernel_rfl)) (by kernel_rfl) (by kernel_rfl)) (da_cons (de_int) (da_nil) (by kernel_rfl)) (by kernel_rfl))) (by omega) (by kernel_rfl) (by exact gl_of (by kernel_rfl)) (by kernel_rfl) (by kernel_rfl) (by kernel_rfl)))) (an_of (da_nil)) (by kernel_rfl)) (by kernel_rfl)) (by decide)) (gt_tup (gts_cons (gt_nm (i := 3) nd (by kernel_rfl) (by exact loc_of (by kernel_rfl)) (by first | exact .inl rfl | exact .inr rfl)) (gts_cons (gt_nm (i := 4) nd (by kernel_rfl) (by exact loc_of (by kernel_rfl)) (by first | exact .inl rfl | exact .inr rfl)) gts_nil (by kernel_rfl)) (by kernel_rfl)) rfl (by kernel_rfl) (by kernel_rfl)) (fun d21 => sno_2 fun p22 p23 => by exact sn_env (e' := [.sh (a0), .sh (v1), .sh (d5), .sh (p22), .sh (p23), .no, .no, .no, .no, .no, .no, .no, .no, .no, .no, .no, .no, .no, .no, .no, .no]) rfl (sn_set (i := 5) (en_join (en_of (DE.toB (de_str (s := []) (by kernel_rfl) (by kernel_rfl)))) (EN.toB (en_lc [("k", 6)] (in_of (di_r1 (md := .B) (de_v (i := 3) rfl (by kernel_rfl) (by exact vis_of (by kernel_rfl)) (by kernel_rfl) (by kernel_rfl)) hb_range (by exact gl_of (by kernel_rfl)) (by kernel_rfl))) (fun q => (gt_nm (i := 6) nd (by kernel_rfl) (by exact loc_of (by kernel_rfl)) (by first | exact .inl rfl | exact .inr rfl))) (fun d301 => cn_nm (cn_mk (env2 := [.sh (a0), .sh (v1), .sh (d5), .sh (p22), .sh (p23), .no, .sh (d301), .no, .no, .no, .no, .no, .no, .no, .no, .no, .no, .no, .no, .no, .no]) (fun q => .nil) (fun q => en_c1T c_str bt_str hb_str (EN.toB (en_call (fn__law_take Fx) hr takes_none5 (an_of (da_cons (de_v (i := 1) rfl (by kernel_rfl) (by exact vis_of (by kernel_rfl)) (by kernel_rfl) (by kernel_rfl)) (da_cons (de_int) (da_nil) (by kernel_rfl)) (by kernel_rfl))) (by omega) (by kernel_rfl) (by exact gl_of (by kernel_rfl)) (by kernel_rfl) (by kernel_rfl) (by kernel_rfl))) (by exact gl_of (by kernel_rfl)) (by exact ne_name (by kernel_rfl)) (by kernel_rfl) (by kernel_rfl) (by kernel_rfl)))) rfl nd (blkOk_by (by kernel_rfl)) (by decide) (by intro _; kernel_rfl))) (by kernel_rfl) (by kernel_rfl) (by kernel_rfl)) (fun v24 => by exact sn_env (e' := [.sh (a0), .sh (v1), .sh (d5), .sh (p22), .sh (p23), .sh (v24), .no, .no, .no, .no, .no, .no, .no, .no, .no, .no, .no, .no, .no, .no, .no]) rfl (sn_set (i := 7) (en_c1T c_tuple bt_tuple hb_tuple (EN.toB (en_lc [("j", 8)] (in_of (di_r1 (md := .B) (de_v (i := 4) rfl (by kernel_rfl) (by exact vis_of (by kernel_rfl)) (by kernel_rfl) (by kernel_rfl)) hb_range (by exact gl_of (by kernel_rfl)) (by kernel_rfl))) (fun q => (gt_nm (i := 8) nd (by kernel_rfl) (by exact loc_of (by kernel_rfl)) (by first | exact .inl rfl | exact .inr rfl))) (fun d253 => cn_nm (cn_mk (env2 := [.sh (a0), .sh (v1), .sh (d5), .sh (p22), .sh (p23), .sh (v24), .no, .no, .sh (d253), .no, .no, .no, .no, .no, .no, .no, .no, .no, .no, .no, .no]) (fun q => .nil) (fun q => en_c1T c_tuple bt_tuple hb_tuple (EN.toB (en_lc [("k", 6)] (in_of (di_r1 (md := .B) (de_v (i := 3) rfl (by kernel_rfl) (by exact vis_of (by kernel_rfl)) (by kernel_rfl) (by kernel_rfl)) hb_range (by exact gl_of (by kernel_rfl)) (by kernel_rfl))) (fun q => (gt_nm (i := 6) nd (by kernel_rfl) (by exact loc_of (by kernel_rfl)) (by first | exact .inl rfl | exact .inr rfl))) (fun d255 => cn_nm (cn_mk (env2 := [.sh (a0), .sh (v1), .sh (d5), .sh (p22), .sh (p23), .sh (v24), .sh (d255), .no, .sh (d253), .no, .no, .no, .no, .no, .no, .no, .no, .no, .no, .no, .no]) (fun q => .nil) (fun q => en_ix (en_of (DE.toB (de_lst (da_cons (de_tup (da_cons (de_int) (da_cons (de_int) (da_nil) (by kernel_rfl)) (by kernel_rfl)) (by decide)) (da_cons (de_tup (da_cons (de_int) (da_cons (de_int) (da_nil) (by kernel_rfl)) (by kernel_rfl)) (by decide)) (da_cons (de_tup (da_cons (de_int) (da_cons (de_int) (da_nil) (by kernel_rfl)) (by kernel_rfl)) (by decide)) (da_cons (de_tup (da_cons (de_int) (da_cons (de_int) (da_nil) (by kernel_rfl)) (by kernel_rfl)) (by decide)) (da_cons (de_tup (da_cons (de_int) (da_cons (de_int) (da_nil) (by kernel_rfl)) (by kernel_rfl)) (by decide)) (da_nil) (by kernel_rfl)) (by kernel_rfl)) (by kernel_rfl)) (by kernel_rfl)) (by kernel_rfl)) (by decide)))) (EN.toB (en_call (fn__law_take Fx) hr takes_none5 (an_of (da_cons (de_v (i := 1) rfl (by kernel_rfl) (by exact vis_of (by kernel_rfl)) (by kernel_rfl) (by kernel_rfl)) (da_cons (de_int) (da_nil) (by kernel_rfl)) (by kernel_rfl))) (by omega) (by kernel_rfl) (by exact gl_of (by kernel_rfl)) (by kernel_rfl) (by kernel_rfl) (by kernel_rfl))) (by intro _ _; kernel_rfl)))) rfl nd (blkOk_by (by kernel_rfl)) (by decide) (by intro _; kernel_rfl))) (by exact gl_of (by kernel_rfl)) (by exact ne_name (by kernel_rfl)) (by kernel_rfl) (by kernel_rfl) (by kernel_rfl)))) rfl nd (blkOk_by (by kernel_rfl)) (by decide) (by intro _; kernel_rfl))) (by exact gl_of (by kernel_rfl)) (by exact ne_name (by kernel_rfl)) (by kernel_rfl) (by kernel_rfl) (by kernel_rfl)) (fun v25 => by exact sn_env (e' := [.sh (a0), .sh (v1), .sh (d5), .sh (p22), .sh (p23), .sh (v24), .no, .sh (v25), .no, .no, .no, .no, .no, .no, .no, .no, .no, .no, .no, .no, .no]) rfl (sn_setLcD (i := 9) [("row", 10)] (di_any (DE.toB (de_v (i := 7) rfl (by kernel_rfl) (by exact vis_of (by kernel_rfl)) (by kernel_rfl) (by kernel_rfl))) (.inr rfl)) (fun q => (gt_nm (i := 10) nd (by kernel_rfl) (by exact loc_of (by kernel_rfl)) (by first | exact .inl rfl | exact .inr rfl))) (fun d247 => cb_nm (cb_mk (env2 := [.sh (a0), .sh (v1), .sh (d5), .sh (p22), .sh (p23), .sh (v24), .no, .sh (v25), .no, .no, .sh (d247), .no, .no, .no, .no, .no, .no, .no, .no, .no, .no]) (fun q => .nil) (fun q => de_call (fn__law_share Fx) hr takes_none5 (da_cons (de_v (i := 10) rfl (by kernel_rfl) (by exact vis_of (by kernel_rfl)) (by kernel_rfl) (by kernel_rfl)) (da_cons (de_v (i := 5) rfl (by kernel_rfl) (by exact vis_of (by kernel_rfl)) (by kernel_rfl) (by kernel_rfl)) (da_nil) (by kernel_rfl)) (by kernel_rfl)) (by omega) (by kernel_rfl) (by exact gl_of (by kernel_rfl)) (by kernel_rfl) (by kernel_rfl) (by kernel_rfl)))) (sn_setF (fun v26 => by exact sn_env (e' := [.sh (a0), .sh (v1), .sh (d5), .sh (p22), .sh (p23), .sh (v24), .no, .sh (v25), .no, .sh (v26), .no, .no, .no, .no, .no, .no, .no, .no, .no, .no, .no]) rfl (sn_set (i := 11) (en_of (de_call (fn__law_times Fx) hr tk (da_cons (de_tup (da_cons (de_int) (da_cons (de_v (i := 4) rfl (by kernel_rfl) (by exact vis_of (by kernel_rfl)) (by kernel_rfl) (by kernel_rfl)) (da_nil) (by kernel_rfl)) (by kernel_rfl)) (by decide)) (da_cons (de_call (fn__law_sum Fx) hr tk (da_cons (de_v (i := 9) rfl (by kernel_rfl) (by exact vis_of (by kernel_rfl)) (by kernel_rfl) (by kernel_rfl)) (da_nil) (by kernel_rfl)) (by omega) (by kernel_rfl) (by exact gl_of (by kernel_rfl)) (by kernel_rfl) (by kernel_rfl) (by kernel_rfl)) (da_nil) (by kernel_rfl)) (by kernel_rfl)) (by omega) (by kernel_rfl) (by exact gl_of (by kernel_rfl)) (by kernel_rfl) (by kernel_rfl) (by kernel_rfl))) (fun v27 => by exact sn_env (e' := [.sh (a0), .sh (v1), .sh (d5), .sh (p22), .sh (p23), .sh (v24), .no, .sh (v25), .no, .sh (v26), .no, .sh (v27), .no, .no, .no, .no, .no, .no, .no, .no, .no]) rfl (sn_ifR (tn_of (dt_w (dw_or (dt_cmp (o_ne hu64) (DE.toB (de_lc [("row", 10)] (di_any (DE.toB (de_v (i := 7) rfl (by kernel_rfl) (by exact vis_of (by kernel_rfl)) (by kernel_rfl) (by kernel_rfl))) (.inr rfl)) (fun q => (gt_nm (i := 10) nd (by kernel_rfl) (by exact loc_of (by kernel_rfl)) (by first | exact .inl rfl | exact .inr rfl))) (fun d29 => cb_nm (cb_mk (env2 := [.sh (a0), .sh (v1), .sh (d5), .sh (p22), .sh (p23), .sh (v24), .no, .sh (v25), .no, .sh (v26), .sh (d29), .sh (v27), .no, .no, .no, .no, .no, .no, .no, .no, .no]) (fun q => .nil) (fun q => de_call (fn_voice_share Fx) hr takes_none5 (da_cons (de_v (i := 10) rfl (by kernel_rfl) (by exact vis_of (by kernel_rfl)) (by kernel_rfl) (by kernel_rfl)) (da_cons (de_v (i := 5) rfl (by kernel_rfl) (by exact vis_of (by kernel_rfl)) (by kernel_rfl) (by kernel_rfl)) (da_nil) (by kernel_rfl)) (by kernel_rfl)) (by omega) (by kernel_rfl) (by exact gl_of (by kernel_rfl)) (by kernel_rfl) (by kernel_rfl) (by kernel_rfl)))) rfl nd (blkOk_by (by kernel_rfl)) (by decide) (by intro _; kernel_rfl))) (DE.toB (de_v (i := 9) rfl (by kernel_rfl) (by exact vis_of (by kernel_rfl)) (by kernel_rfl) (by kernel_rfl))) (by first | exact nomark _ | rfl)) (dw_or1 (dt_cmp (o_ne hu64) (DE.toB (de_call (fn_mixed_share Fx) hr tk (da_cons (de_v (i := 7) rfl (by kernel_rfl) (by exact vis_of (by kernel_rfl)) (by kernel_rfl) (by kernel_rfl)) (da_cons (de_v (i := 5) rfl (by kernel_rfl) (by exact vis_of (by kernel_rfl)) (by kernel_rfl) (by kernel_rfl)) (da_nil) (by kernel_rfl)) (by kernel_rfl)) (by omega) (by kernel_rfl) (by exact gl_of (by kernel_rfl)) (by kernel_rfl) (by kernel_rfl) (by kernel_rfl))) (DE.toB (de_v (i := 11) rfl (by kernel_rfl) (by exact vis_of (by kernel_rfl)) (by kernel_rfl) (by kernel_rfl))) (by first | exact nomark _ | rfl)))))) (by exact sn_env (e' := [.sh (a0), .sh (v1), .sh (d5), .sh (p22), .sh (p23), .sh (v24), .no, .sh (v25), .no, .sh (v26), .no, .sh (v27), .no, .no, .no, .no, .no, .no, .no, .no, .no]) rfl (sn_ret (us := []) (en_of (de_bl)) trivial io0)) (by exact sn_env (e' := [.sh (a0), .sh (v1), .sh (d5), .sh (p22), .sh (p23), .sh (v24), .no, .sh (v25), .no, .sh (v26), .no, .sh (v27), .no, .no, .no, .no, .no, .no, .no, .no, .no]) rfl (sn_set (i := 12) (en_of (de_call (fn_said_next Fx) hr tk (da_cons (de_v (i := 7) rfl (by kernel_rfl) (by exact vis_of (by kernel_rfl)) (by kernel_rfl) (by kernel_rfl)) (da_cons (de_v (i := 5) rfl (by kernel_rfl) (by exact vis_of (by kernel_rfl)) (by kernel_rfl) (by kernel_rfl)) (da_nil) (by kernel_rfl)) (by kernel_rfl)) (by omega) (by kernel_rfl) (by exact gl_of (by kernel_rfl)) (by kernel_rfl) (by kernel_rfl) (by kernel_rfl))) (fun v42 => by exact sn_env (e' := [.sh (a0), .sh (v1), .sh (d5), .sh (p22), .sh (p23), .sh (v24), .no, .sh (v25), .no, .sh (v26), .no, .sh (v27), .sh (v42), .no, .no, .no, .no, .no, .no, .no, .no]) rfl (sn_ifR (tn_of (dt_w (dw_or (dt_cmp (o_ne hu64) (DE.toB (de_c1B c_len bt_len hb_len (DE.toB (de_v (i := 12) rfl (by kernel_rfl) (by exact vis_of (by kernel_rfl)) (by kernel_rfl) (by kernel_rfl))) (by exact gl_of (by kernel_rfl)) (by exact ne_name (by kernel_rfl)) (by kernel_rfl) (by kernel_rfl) (by kernel_rfl))) (DE.toB (de_v (i := 3) rfl (by kernel_rfl) (by exact vis_of (by kernel_rfl)) (by kernel_rfl) (by kernel_rfl))) (by first | exact nomark _ | rfl)) (dw_or1 (dt_cmp (o_ne hu64) (DE.toB (de_call (fn__law_share Fx) hr tk (da_cons (de_v (i := 12) rfl (by kernel_rfl) (by exact vis_of (by kernel_rfl)) (by kernel_rfl) (by kernel_rfl)) (da_cons (de_v (i := 5) rfl (by kernel_rfl) (by exact vis_of (by kernel_rfl)) (by kernel_rfl) (by kernel_rfl)) (da_nil) (by kernel_rfl)) (by kernel_rfl)) (by omega) (by kernel_rfl) (by exact gl_of (by kernel_rfl)) (by kernel_rfl) (by kernel_rfl) (by kernel_rfl))) (DE.toB (de_v (i := 11) rfl (by kernel_rfl) (by exact vis_of (by kernel_rfl)) (by kernel_rfl) (by kernel_rfl))) (by first | exact nomark _ | rfl)))))) (by exact sn_env (e' := [.sh (a0), .sh (v1), .sh (d5), .sh (p22), .sh (p23), .sh (v24), .no, .sh (v25), .no, .sh (v26), .no, .sh (v27), .sh (v42), .no, .no, .no, .no, .no, .no, .no, .no]) rfl (sn_ret (us := []) (en_of (de_bl)) trivial io0)) (by exact sn_env (e' := [.sh (a0), .sh (v1), .sh (d5), .sh (p22), .sh (p23), .sh (v24), .no, .sh (v25), .no, .sh (v26), .no, .sh (v27), .sh (v42), .no, .no, .no, .no, .no, .no, .no, .no]) rfl (sn_for (pt := (Pat.nm 6)) (injb := (fun (s52 : Unit) => [.sh (a0), .sh (v1), .sh (d5), .sh (p22), .sh (p23), .sh (v24), .no, .sh (v25), .no, .sh (v26), .no, .sh (v27), .sh (v42), .no, .no, .no, .no, .no, .no, .no, .no])) (s0 := ()) (in_of (di_r1 (md := .S) (de_v (i := 3) rfl (by kernel_rfl) (by exact vis_of (by kernel_rfl)) (by kernel_rfl) (by kernel_rfl)) hb_range (by exact gl_of (by kernel_rfl)) (by kernel_rfl))) (gt_nm (i := 6) nd (by kernel_rfl) (by exact loc_of (by kernel_rfl)) (by first | exact .inl rfl | exact .inr rfl)) (fun d55 s53 => sno_nm (by exact sn_env (e' := [.sh (a0), .sh (v1), .sh (d5), .sh (p22), .sh (p23), .sh (v24), .sh (d55), .sh (v25), .no, .sh (v26), .no, .sh (v27), .sh (v42), .no, .no, .no, .no, .no, .no, .no, .no]) rfl (sn_set (i := 13) (en_of (DE.ofO (de_lc [("row", 10)] (di_any (DE.toB (de_v (i := 7) rfl (by kernel_rfl) (by exact vis_of (by kernel_rfl)) (by kernel_rfl) (by kernel_rfl))) (.inr rfl)) (fun q => (gt_nm (i := 10) nd (by kernel_rfl) (by exact loc_of (by kernel_rfl)) (by first | exact .inl rfl | exact .inr rfl))) (fun d96 => cb_nm (cb_mk (env2 := [.sh (a0), .sh (v1), .sh (d5), .sh (p22), .sh (p23), .sh (v24), .sh (d55), .sh (v25), .no, .sh (v26), .sh (d96), .sh (v27), .sh (v42), .no, .no, .no, .no, .no, .no, .no, .no]) (fun q => .nil) (fun q => de_call (fn__law_share Fx) hr takes_none5 (da_cons (de_slc (DE.toB (de_v (i := 10) rfl (by kernel_rfl) (by exact vis_of (by kernel_rfl)) (by kernel_rfl) (by kernel_rfl))) (dp_none) (dp_some (de_v (i := 6) rfl (by kernel_rfl) (by exact vis_of (by kernel_rfl)) (by kernel_rfl) (by kernel_rfl)))) (da_cons (de_slc (DE.toB (de_v (i := 5) rfl (by kernel_rfl) (by exact vis_of (by kernel_rfl)) (by kernel_rfl) (by kernel_rfl))) (dp_none) (dp_some (de_v (i := 6) rfl (by kernel_rfl) (by exact vis_of (by kernel_rfl)) (by kernel_rfl) (by kernel_rfl)))) (da_nil) (by kernel_rfl)) (by kernel_rfl)) (by omega) (by kernel_rfl) (by exact gl_of (by kernel_rfl)) (by kernel_rfl) (by kernel_rfl) (by kernel_rfl)))) rfl nd (blkOk_by (by kernel_rfl)) (by decide) (by intro _; kernel_rfl)))) (fun v56 => by exact sn_env (e' := [.sh (a0), .sh (v1), .sh (d5), .sh (p22), .sh (p23), .sh (v24), .sh (d55), .sh (v25), .no, .sh (v26), .no, .sh (v27), .sh (v42), .sh (v56), .no, .no, .no, .no, .no, .no, .no]) rfl (sn_set (i := 14) (en_of (de_call (fn__law_sum Fx) hr tk (da_cons (DE.ofO (de_lc [("j", 8)] (di_r1 (md := .B) (de_v (i := 4) rfl (by kernel_rfl) (by exact vis_of (by kernel_rfl)) (by kernel_rfl) (by kernel_rfl)) hb_range (by exact gl_of (by kernel_rfl)) (by kernel_rfl)) (fun q => (gt_nm (i := 8) nd (by kernel_rfl) (by exact loc_of (by kernel_rfl)) (by first | exact .inl rfl | exact .inr rfl))) (fun d82 => cb_nm (cb_mk (env2 := [.sh (a0), .sh (v1), .sh (d5), .sh (p22), .sh (p23), .sh (v24), .sh (d55), .sh (v25), .sh (d82), .sh (v26), .no, .sh (v27), .sh (v42), .sh (v56), .no, .no, .no, .no, .no, .no, .no]) (fun q => .nil) (fun q => de_call (fn__law_times Fx) hr takes_none5 (da_cons (de_ix (DE.toB (de_v (i := 13) rfl (by kernel_rfl) (by exact vis_of (by kernel_rfl)) (by kernel_rfl) (by kernel_rfl))) (DE.toB (de_v (i := 8) rfl (by kernel_rfl) (by exact vis_of (by kernel_rfl)) (by kernel_rfl) (by kernel_rfl))) (by intro _ _; kernel_rfl)) (da_cons (de_ix (DE.toB (de_ix (DE.toB (de_v (i := 7) rfl (by kernel_rfl) (by exact vis_of (by kernel_rfl)) (by kernel_rfl) (by kernel_rfl))) (DE.toB (de_v (i := 8) rfl (by kernel_rfl) (by exact vis_of (by kernel_rfl)) (by kernel_rfl) (by kernel_rfl))) (by intro _ _; kernel_rfl))) (DE.toB (de_v (i := 6) rfl (by kernel_rfl) (by exact vis_of (by kernel_rfl)) (by kernel_rfl) (by kernel_rfl))) (by intro _ _; kernel_rfl)) (da_nil) (by kernel_rfl)) (by kernel_rfl)) (by omega) (by kernel_rfl) (by exact gl_of (by kernel_rfl)) (by kernel_rfl) (by kernel_rfl) (by kernel_rfl)))) rfl nd (blkOk_by (by kernel_rfl)) (by decide) (by intro _; kernel_rfl))) (da_nil) (by kernel_rfl)) (by omega) (by kernel_rfl) (by exact gl_of (by kernel_rfl)) (by kernel_rfl) (by kernel_rfl) (by kernel_rfl))) (fun v57 => by exact sn_env (e' := [.sh (a0), .sh (v1), .sh (d5), .sh (p22), .sh (p23), .sh (v24), .sh (d55), .sh (v25), .no, .sh (v26), .no, .sh (v27), .sh (v42), .sh (v56), .sh (v57), .no, .no, .no, .no, .no, .no]) rfl (sn_set (i := 15) (en_of (de_call (fn__law_sum Fx) hr tk (da_cons (de_v (i := 13) rfl (by kernel_rfl) (by exact vis_of (by kernel_rfl)) (by kernel_rfl) (by kernel_rfl)) (da_nil) (by kernel_rfl)) (by omega) (by kernel_rfl) (by exact gl_of (by kernel_rfl)) (by kernel_rfl) (by kernel_rfl) (by kernel_rfl))) (fun v58 => by exact sn_env (e' := [.sh (a0), .sh (v1), .sh (d5), .sh (p22), .sh (p23), .sh (v24), .sh (d55), .sh (v25), .no, .sh (v26), .no, .sh (v27), .sh (v42), .sh (v56), .sh (v57), .sh (v58), .no, .no, .no, .no, .no]) rfl (sn_ifR (tn_of (dt_cmp (o_ne hu64) (DE.toB (de_ix (DE.toB (de_v (i := 12) rfl (by kernel_rfl) (by exact vis_of (by kernel_rfl)) (by kernel_rfl) (by kernel_rfl))) (DE.toB (de_v (i := 6) rfl (by kernel_rfl) (by exact vis_of (by kernel_rfl)) (by kernel_rfl) (by kernel_rfl))) (by intro _ _; kernel_rfl))) (DE.toB (de_call (fn__law_ratio Fx) hr tk (da_cons (de_op o_mul (DE.toB (de_ix (DE.toB (de_v (i := 14) rfl (by kernel_rfl) (by exact vis_of (by kernel_rfl)) (by kernel_rfl) (by kernel_rfl))) (DE.toB (de_int)) (by intro _ _; kernel_rfl))) (DE.toB (de_ix (DE.toB (de_v (i := 15) rfl (by kernel_rfl) (by exact vis_of (by kernel_rfl)) (by kernel_rfl) (by kernel_rfl))) (DE.toB (de_int)) (by intro _ _; kernel_rfl)))) (da_cons (de_op o_mul (DE.toB (de_ix (DE.toB (de_v (i := 14) rfl (by kernel_rfl) (by exact vis_of (by kernel_rfl)) (by kernel_rfl) (by kernel_rfl))) (DE.toB (de_int)) (by intro _ _; kernel_rfl))) (DE.toB (de_ix (DE.toB (de_v (i := 15) rfl (by kernel_rfl) (by exact vis_of (by kernel_rfl)) (by kernel_rfl) (by kernel_rfl))) (DE.toB (de_int)) (by intro _ _; kernel_rfl)))) (da_nil) (by kernel_rfl)) (by kernel_rfl)) (by omega) (by kernel_rfl) (by exact gl_of (by kernel_rfl)) (by kernel_rfl) (by kernel_rfl) (by kernel_rfl))) (by first | exact nomark _ | rfl))) (by exact sn_env (e' := [.sh (a0), .sh (v1), .sh (d5), .sh (p22), .sh (p23), .sh (v24), .sh (d55), .sh (v25), .no, .sh (v26), .no, .sh (v27), .sh (v42), .sh (v56), .sh (v57), .sh (v58), .no, .no, .no, .no, .no]) rfl (sn_ret (us := []) (en_of (de_bl)) trivial io0)) (by exact sn_env (e' := [.sh (a0), .sh (v1), .sh (d5), .sh (p22), .sh (p23), .sh (v24), .sh (d55), .sh (v25), .no, .sh (v26), .no, .sh (v27), .sh (v42), .sh (v56), .sh (v57), .sh (v58), .no, .no, .no, .no, .no]) rfl (sn_nil (s := ()) (.eq (.eq (.eq (.eq (.eq (.eq (.no (.eq (.no (.eq (.no (.eq (.eq (.no (.no (.no (.no (.no (.no (.no (.no .nil))))))))))))))))))))))) trivial)) trivial nd (by kernel_rfl) (by exact loc_of (by kernel_rfl)) (by decide) (by kernel_rfl) (by first | exact .inl rfl | exact .inr rfl))) trivial nd (by kernel_rfl) (by exact loc_of (by kernel_rfl)) (by decide) (by kernel_rfl) (by first | exact .inl rfl | exact .inr rfl))) trivial nd (by kernel_rfl) (by exact loc_of (by kernel_rfl)) (by decide) (by kernel_rfl) (by first | exact .inl rfl | exact .inr rfl)))) (fun s107 => by exact sn_env (e' := [.sh (a0), .sh (v1), .sh (d5), .sh (p22), .sh (p23), .sh (v24), .no, .sh (v25), .no, .sh (v26), .no, .sh (v27), .sh (v42), .no, .no, .no, .no, .no, .no, .no, .no]) rfl (sn_set (i := 16) (en_of (de_ix (DE.toB (de_v (i := 9) rfl (by kernel_rfl) (by exact vis_of (by kernel_rfl)) (by kernel_rfl) (by kernel_rfl))) (DE.toB (de_int)) (by intro _ _; kernel_rfl))) (fun v108 => by exact sn_env (e' := [.sh (a0), .sh (v1), .sh (d5), .sh (p22), .sh (p23), .sh (v24), .no, .sh (v25), .no, .sh (v26), .no, .sh (v27), .sh (v42), .no, .no, .no, .sh (v108), .no, .no, .no, .no]) rfl (sn_for (pt := (Pat.nm 17)) (injb := (fun (s109 : D) => [.sh (a0), .sh (v1), .sh (d5), .sh (p22), .sh (p23), .sh (v24), .no, .sh (v25), .no, .sh (v26), .no, .sh (v27), .sh (v42), .no, .no, .no, .sh (s109), .no, .no, .no, .no])) (s0 := (v108)) (in_of (di_any (de_v (i := 9) rfl (by kernel_rfl) (by exact vis_of (by kernel_rfl)) (by kernel_rfl) (by kernel_rfl)) (.inl rfl))) (gt_nm (i := 17) nd (by kernel_rfl) (by exact loc_of (by kernel_rfl)) (by first | exact .inl rfl | exact .inr rfl)) (fun d112 s110 => sno_nm (by exact sn_env (e' := [.sh (a0), .sh (v1), .sh (d5), .sh (p22), .sh (p23), .sh (v24), .no, .sh (v25), .no, .sh (v26), .no, .sh (v27), .sh (v42), .no, .no, .no, .sh (s110), .sh (d112), .no, .no, .no]) rfl (sn_set (i := 16) (en_of (de_if (dt_cmp o_gt (DE.toB (de_op o_mul (DE.toB (de_ix (DE.toB (de_v (i := 17) rfl (by kernel_rfl) (by exact vis_of (by kernel_rfl)) (by kernel_rfl) (by kernel_rfl))) (DE.toB (de_int)) (by intro _ _; kernel_rfl))) (DE.toB (de_ix (DE.toB (de_v (i := 16) rfl (by kernel_rfl) (by exact vis_of (by kernel_rfl)) (by kernel_rfl) (by kernel_rfl))) (DE.toB (de_int)) (by intro _ _; kernel_rfl))))) (DE.toB (de_op o_mul (DE.toB (de_ix (DE.toB (de_v (i := 16) rfl (by kernel_rfl) (by exact vis_of (by kernel_rfl)) (by kernel_rfl) (by kernel_rfl))) (DE.toB (de_int)) (by intro _ _; kernel_rfl))) (DE.toB (de_ix (DE.toB (de_v (i := 17) rfl (by kernel_rfl) (by exact vis_of (by kernel_rfl)) (by kernel_rfl) (by kernel_rfl))) (DE.toB (de_int)) (by intro _ _; kernel_rfl))))) (by first | exact nomark _ | rfl)) (de_v (i := 17) rfl (by kernel_rfl) (by exact vis_of (by kernel_rfl)) (by kernel_rfl) (by kernel_rfl)) (de_v (i := 16) rfl (by kernel_rfl) (by exact vis_of (by kernel_rfl)) (by kernel_rfl) (by kernel_rfl)))) (fun v113 => by exact sn_env (e' := [.sh (a0), .sh (v1), .sh (d5), .sh (p22), .sh (p23), .sh (v24), .no, .sh (v25), .no, .sh (v26), .no, .sh (v27), .sh (v42), .no, .no, .no, .sh (v113), .sh (d112), .no, .no, .no]) rfl (sn_nil (s := (v113)) (.eq (.eq (.eq (.eq (.eq (.eq (.no (.eq (.no (.eq (.no (.eq (.eq (.no (.no (.no (.eq (.no (.no (.no (.no .nil))))))))))))))))))))))) trivial nd (by kernel_rfl) (by exact loc_of (by kernel_rfl)) (by decide) (by kernel_rfl) (by first | exact .inl rfl | exact .inr rfl)))) (fun s128 => by exact sn_env (e' := [.sh (a0), .sh (v1), .sh (d5), .sh (p22), .sh (p23), .sh (v24), .no, .sh (v25), .no, .sh (v26), .no, .sh (v27), .sh (v42), .no, .no, .no, .sh (s128), .no, .no, .no, .no]) rfl (sn_set (i := 18) (en_of (de_call (fn_most_lost Fx) hr tk (da_cons (de_v (i := 7) rfl (by kernel_rfl) (by exact vis_of (by kernel_rfl)) (by kernel_rfl) (by kernel_rfl)) (da_cons (de_v (i := 5) rfl (by kernel_rfl) (by exact vis_of (by kernel_rfl)) (by kernel_rfl) (by kernel_rfl)) (da_nil) (by kernel_rfl)) (by kernel_rfl)) (by omega) (by kernel_rfl) (by exact gl_of (by kernel_rfl)) (by kernel_rfl) (by kernel_rfl) (by kernel_rfl))) (fun v129 => by exact sn_env (e' := [.sh (a0), .sh (v1), .sh (d5), .sh (p22), .sh (p23), .sh (v24), .no, .sh (v25), .no, .sh (v26), .no, .sh (v27), .sh (v42), .no, .no, .no, .sh (s128), .no, .sh (v129), .no, .no]) rfl (sn_ifR (tn_of (dt_w (dw_or (dt_cmp (o_ne hu64) (DE.toB (de_v (i := 18) rfl (by kernel_rfl) (by exact vis_of (by kernel_rfl)) (by kernel_rfl) (by kernel_rfl))) (DE.toB (de_tup (da_cons (de_call (fn__law_bits_for Fx) hr tk (da_cons (de_v (i := 11) rfl (by kernel_rfl) (by exact vis_of (by kernel_rfl)) (by kernel_rfl) (by kernel_rfl)) (da_nil) (by kernel_rfl)) (by omega) (by kernel_rfl) (by exact gl_of (by kernel_rfl)) (by kernel_rfl) (by kernel_rfl) (by kernel_rfl)) (da_cons (de_call (fn__law_bits_for Fx) hr tk (da_cons (de_v (i := 16) rfl (by kernel_rfl) (by exact vis_of (by kernel_rfl)) (by kernel_rfl) (by kernel_rfl)) (da_nil) (by kernel_rfl)) (by omega) (by kernel_rfl) (by exact gl_of (by kernel_rfl)) (by kernel_rfl) (by kernel_rfl) (by kernel_rfl)) (da_cons (de_call (fn__law_bits_for Fx) hr tk (da_cons (de_tup (da_cons (de_int) (da_cons (de_v (i := 4) rfl (by kernel_rfl) (by exact vis_of (by kernel_rfl)) (by kernel_rfl) (by kernel_rfl)) (da_nil) (by kernel_rfl)) (by kernel_rfl)) (by decide)) (da_nil) (by kernel_rfl)) (by omega) (by kernel_rfl) (by exact gl_of (by kernel_rfl)) (by kernel_rfl) (by kernel_rfl) (by kernel_rfl)) (da_nil) (by kernel_rfl)) (by kernel_rfl)) (by kernel_rfl)) (by decide))) (by first | exact nomark _ | rfl)) (dw_or1 (dt_cmp o_gt (DE.toB (de_ix (DE.toB (de_v (i := 18) rfl (by kernel_rfl) (by exact vis_of (by kernel_rfl)) (by kernel_rfl) (by kernel_rfl))) (DE.toB (de_int)) (by intro _ _; kernel_rfl))) (DE.toB (de_op o_add (DE.toB (de_ix (DE.toB (de_v (i := 18) rfl (by kernel_rfl) (by exact vis_of (by kernel_rfl)) (by kernel_rfl) (by kernel_rfl))) (DE.toB (de_int)) (by intro _ _; kernel_rfl))) (DE.toB (de_ix (DE.toB (de_v (i := 18) rfl (by kernel_rfl) (by exact vis_of (by kernel_rfl)) (by kernel_rfl) (by kernel_rfl))) (DE.toB (de_int)) (by intro _ _; kernel_rfl))))) (by first | exact nomark _ | rfl)))))) (by exact sn_env (e' := [.sh (a0), .sh (v1), .sh (d5), .sh (p22), .sh (p23), .sh (v24), .no, .sh (v25), .no, .sh (v26), .no, .sh (v27), .sh (v42), .no, .no, .no, .sh (s128), .no, .sh (v129), .no, .no]) rfl (sn_ret (us := []) (en_of (de_bl)) trivial io0)) (by exact sn_env (e' := [.sh (a0), .sh (v1), .sh (d5), .sh (p22), .sh (p23), .sh (v24), .no, .sh (v25), .no, .sh (v26), .no, .sh (v27), .sh (v42), .no, .no, .no, .sh (s128), .no, .sh (v129), .no, .no]) rfl (sn_set (i := 19) (en_ix (en_of (DE.toB (de_lst (da_cons (de_tup (da_cons (de_int) (da_cons (de_int) (da_nil) (by kernel_rfl)) (by kernel_rfl)) (by decide)) (da_cons (de_tup (da_cons (de_int) (da_cons (de_int) (da_nil) (by kernel_rfl)) (by kernel_rfl)) (by decide)) (da_cons (de_tup (da_cons (de_int) (da_cons (de_int) (da_nil) (by kernel_rfl)) (by kernel_rfl)) (by decide)) (da_nil) (by kernel_rfl)) (by kernel_rfl)) (by kernel_rfl)) (by decide)))) (EN.toB (en_call (fn__law_take Fx) hr tk (an_of (da_cons (de_v (i := 1) rfl (by kernel_rfl) (by exact vis_of (by kernel_rfl)) (by kernel_rfl) (by kernel_rfl)) (da_cons (de_int) (da_nil) (by kernel_rfl)) (by kernel_rfl))) (by omega) (by kernel_rfl) (by exact gl_of (by kernel_rfl)) (by kernel_rfl) (by kernel_rfl) (by kernel_rfl))) (by intro _ _; kernel_rfl)) (fun v160 => by exact sn_env (e' := [.sh (a0), .sh (v1), .sh (d5), .sh (p22), .sh (p23), .sh (v24), .no, .sh (v25), .no, .sh (v26), .no, .sh (v27), .sh (v42), .no, .no, .no, .sh (s128), .no, .sh (v129), .sh (v160), .no]) rfl (sn_if (inj1 := (fun (s196 : Unit) => [.sh (a0), .sh (v1), .sh (d5), .sh (p22), .sh (p23), .sh (v24), .no, .sh (v25), .no, .sh (v26), .no, .sh (v27), .sh (v42), .no, .no, .no, .sh (s128), .no, .sh (v129), .sh (v160), .no])) (tn_of (dt_cmp o_gt (DE.toB (de_v (i := 4) rfl (by kernel_rfl) (by exact vis_of (by kernel_rfl)) (by kernel_rfl) (by kernel_rfl))) (DE.toB (de_int)) (by first | exact nomark _ | rfl))) (by exact sn_env (e' := [.sh (a0), .sh (v1), .sh (d5), .sh (p22), .sh (p23), .sh (v24), .no, .sh (v25), .no, .sh (v26), .no, .sh (v27), .sh (v42), .no, .no, .no, .sh (s128), .no, .sh (v129), .sh (v160), .no]) rfl (sn_ifR (tn_of (dt_cmp (o_ne hu64) (DE.toB (de_call (fn_switching Fx) hr tk (da_cons (de_v (i := 7) rfl (by kernel_rfl) (by exact vis_of (by kernel_rfl)) (by kernel_rfl) (by kernel_rfl)) (da_cons (de_v (i := 5) rfl (by kernel_rfl) (by exact vis_of (by kernel_rfl)) (by kernel_rfl) (by kernel_rfl)) (da_cons (de_v (i := 19) rfl (by kernel_rfl) (by exact vis_of (by kernel_rfl)) (by kernel_rfl) (by kernel_rfl)) (da_nil) (by kernel_rfl)) (by kernel_rfl)) (by kernel_rfl)) (by omega) (by kernel_rfl) (by exact gl_of (by kernel_rfl)) (by kernel_rfl) (by kernel_rfl) (by kernel_rfl))) (DE.toB (de_call (fn__law_switched Fx 40) hr tk (da_cons (de_v (i := 7) rfl (by kernel_rfl) (by exact vis_of (by kernel_rfl)) (by kernel_rfl) (by kernel_rfl)) (da_cons (de_v (i := 5) rfl (by kernel_rfl) (by exact vis_of (by kernel_rfl)) (by kernel_rfl) (by kernel_rfl)) (da_cons (de_v (i := 19) rfl (by kernel_rfl) (by exact vis_of (by kernel_rfl)) (by kernel_rfl) (by kernel_rfl)) (da_cons (de_non) (da_cons (de_int) (da_nil) (by kernel_rfl)) (by kernel_rfl)) (by kernel_rfl)) (by kernel_rfl)) (by kernel_rfl)) (by omega) (by kernel_rfl) (by exact gl_of (by kernel_rfl)) (by kernel_rfl) (by kernel_rfl) (by kernel_rfl))) (by first | exact nomark _ | rfl))) (by exact sn_env (e' := [.sh (a0), .sh (v1), .sh (d5), .sh (p22), .sh (p23), .sh (v24), .no, .sh (v25), .no, .sh (v26), .no, .sh (v27), .sh (v42), .no, .no, .no, .sh (s128), .no, .sh (v129), .sh (v160), .no]) rfl (sn_ret (us := []) (en_of (de_bl)) trivial io0)) (by exact sn_env (e' := [.sh (a0), .sh (v1), .sh (d5), .sh (p22), .sh (p23), .sh (v24), .no, .sh (v25), .no, .sh (v26), .no, .sh (v27), .sh (v42), .no, .no, .no, .sh (s128), .no, .sh (v129), .sh (v160), .no]) rfl (sn_nil (s := ()) (.eq (.eq (.eq (.eq (.eq (.eq (.no (.eq (.no (.eq (.no (.eq (.eq (.no (.no (.no (.eq (.no (.eq (.eq (.no .nil))))))))))))))))))))))) trivial)) (by exact sn_env (e' := [.sh (a0), .sh (v1), .sh (d5), .sh (p22), .sh (p23), .sh (v24), .no, .sh (v25), .no, .sh (v26), .no, .sh (v27), .sh (v42), .no, .no, .no, .sh (s128), .no, .sh (v129), .sh (v160), .no]) rfl (sn_ifR (tn_of (dt_not (dt_tru (DE.toB (de_lam (k := 4) (lf__law_refused Fx rfl rfl) (gl_of (by kernel_rfl)) TB rfl hmT huT (hr.mono (by omega)) (LamX.lamS_by (by kernel_rfl)) (by kernel_rfl) (fun _ _ _ _ _ => by kernel_rfl) (fun A outer s H E f c hr => de_call (fn_switching Fx) hr takes_lam (da_cons (de_v (i := 7) rfl (by kernel_rfl) (by exact vis_of (by kernel_rfl)) (by kernel_rfl) (by kernel_rfl)) (da_cons (de_v (i := 5) rfl (by kernel_rfl) (by exact vis_of (by kernel_rfl)) (by kernel_rfl) (by kernel_rfl)) (da_cons (de_v (i := 19) rfl (by kernel_rfl) (by exact vis_of (by kernel_rfl)) (by kernel_rfl) (by kernel_rfl)) (da_nil) (by kernel_rfl)) (by kernel_rfl)) (by kernel_rfl)) (by omega) (by kernel_rfl) (by exact gl_of (by kernel_rfl)) (by kernel_rfl) (by kernel_rfl) (by kernel_rfl)) (by kernel_rfl))) (by intro _; kernel_rfl)))) (by exact sn_env (e' := [.sh (a0), .sh (v1), .sh (d5), .sh (p22), .sh (p23), .sh (v24), .no, .sh (v25), .no, .sh (v26), .no, .sh (v27), .sh (v42), .no, .no, .no, .sh (s128), .no, .sh (v129), .sh (v160), .no]) rfl (sn_ret (us := []) (en_of (de_bl)) trivial io0)) (by exact sn_env (e' := [.sh (a0), .sh (v1), .sh (d5), .sh (p22), .sh (p23), .sh (v24), .no, .sh (v25), .no, .sh (v26), .no, .sh (v27), .sh (v42), .no, .no, .no, .sh (s128), .no, .sh (v129), .sh (v160), .no]) rfl (sn_nil (s := ()) (.eq (.eq (.eq (.eq (.eq (.eq (.no (.eq (.no (.eq (.no (.eq (.eq (.no (.no (.no (.eq (.no (.eq (.eq (.no .nil))))))))))))))))))))))) trivial)) (fun s188 => by exact sn_env (e' := [.sh (a0), .sh (v1), .sh (d5), .sh (p22), .sh (p23), .sh (v24), .no, .sh (v25), .no, .sh (v26), .no, .sh (v27), .sh (v42), .no, .no, .no, .sh (s128), .no, .sh (v129), .sh (v160), .no]) rfl (sn_ifR (tn_of (dt_not (dt_tru (DE.toB (de_lam (k := 4) (lf__law_refused Fx rfl rfl) (gl_of (by kernel_rfl)) TB rfl hmT huT (hr.mono (by omega)) (LamX.lamS_by (by kernel_rfl)) (by kernel_rfl) (fun _ _ _ _ _ => by kernel_rfl) (fun A outer s H E f c hr => de_call (fn_mixed_share Fx) hr takes_lam (da_cons (de_v (i := 7) rfl (by kernel_rfl) (by exact vis_of (by kernel_rfl)) (by kernel_rfl) (by kernel_rfl)) (da_cons (de_op o_add (DE.toB (de_v (i := 5) rfl (by kernel_rfl) (by exact vis_of (by kernel_rfl)) (by kernel_rfl) (by kernel_rfl))) (DE.toB (de_str (s := [49]) (by kernel_rfl) (by kernel_rfl)))) (da_nil) (by kernel_rfl)) (by kernel_rfl)) (by omega) (by kernel_rfl) (by exact gl_of (by kernel_rfl)) (by kernel_rfl) (by kernel_rfl) (by kernel_rfl)) (by kernel_rfl))) (by intro _; kernel_rfl)))) (by exact sn_env (e' := [.sh (a0), .sh (v1), .sh (d5), .sh (p22), .sh (p23), .sh (v24), .no, .sh (v25), .no, .sh (v26), .no, .sh (v27), .sh (v42), .no, .no, .no, .sh (s128), .no, .sh (v129), .sh (v160), .no]) rfl (sn_ret (us := []) (en_of (de_bl)) trivial io0)) (by exact sn_env (e' := [.sh (a0), .sh (v1), .sh (d5), .sh (p22), .sh (p23), .sh (v24), .no, .sh (v25), .no, .sh (v26), .no, .sh (v27), .sh (v42), .no, .no, .no, .sh (s128), .no, .sh (v129), .sh (v160), .no]) rfl (sn_nil (s := ()) (.eq (.eq (.no (.no (.no (.no (.no (.no (.no (.no (.no (.no (.no (.no (.no (.no (.no (.no (.no (.no (.no .nil))))))))))))))))))))))) trivial)) trivial)) trivial nd (by kernel_rfl) (by exact loc_of (by kernel_rfl)) (by decide) (by kernel_rfl) (by first | exact .inl rfl | exact .inr rfl))) trivial)) trivial nd (by kernel_rfl) (by exact loc_of (by kernel_rfl)) (by decide) (by kernel_rfl) (by first | exact .inl rfl | exact .inr rfl))) (.eq (.eq (.eq (.eq (.eq (.eq (.no (.eq (.no (.eq (.no (.eq (.eq (.no (.no (.no (.eq (.no (.no (.no (.no .nil))))))))))))))))))))) trivial owns_cx rfl (by decide) (by intro _; kernel_rfl))) trivial nd (by kernel_rfl) (by exact loc_of (by kernel_rfl)) (by decide) (by kernel_rfl) (by first | exact .inl rfl | exact .inr rfl))) (.eq (.eq (.eq (.eq (.eq (.eq (.no (.eq (.no (.eq (.no (.eq (.eq (.no (.no (.no (.no (.no (.no (.no (.no .nil))))))))))))))))))))) trivial owns_cx rfl (by decide) (by intro _; kernel_rfl))) trivial)) trivial nd (by kernel_rfl) (by exact loc_of (by kernel_rfl)) (by decide) (by kernel_rfl) (by first | exact .inl rfl | exact .inr rfl))) trivial)) trivial nd (by kernel_rfl) (by exact loc_of (by kernel_rfl)) (by decide) (by kernel_rfl) (by first | exact .inl rfl | exact .inr rfl))) (Nat.le_of_ble_eq_true rfl)) trivial rfl nd (blkOk_by (by kernel_rfl)) (by kernel_rfl) (by kernel_rfl) (by kernel_rfl) (by decide) (by decide) (by intro _; kernel_rfl))) trivial nd (by kernel_rfl) (by exact loc_of (by kernel_rfl)) (by decide) (by kernel_rfl) (by first | exact .inl rfl | exact .inr rfl))) trivial nd (by kernel_rfl) (by exact loc_of (by kernel_rfl)) (by decide) (by kernel_rfl) (by first | exact .inl rfl | exact .inr rfl))) trivial (by decide) (by kernel_rfl) (by kernel_rfl) (by kernel_rfl)))) (fun s310 => by exact sn_env (e' := [.sh (a0), .sh (v1), .no, .no, .no, .no, .no, .no, .no, .no, .no, .no, .no, .no, .no, .no, .no, .no, .no, .no, .no]) rfl (sn_for (pt := (Pat.nm 20)) (injb := (fun (s311 : Unit) => [.sh (a0), .sh (v1), .no, .no, .no, .no, .no, .no, .no, .no, .no, .no, .no, .no, .no, .no, .no, .no, .no, .no, .no])) (s0 := ()) (in_of (di_any (de_tup (da_cons (de_tup (da_nil) (by decide)) (da_cons (de_tup (da_cons (de_tup (da_cons (de_tup (da_cons (de_int) (da_cons (de_int) (da_nil) (by kernel_rfl)) (by kernel_rfl)) (by decide)) (da_nil) (by kernel_rfl)) (by decide)) (da_nil) (by kernel_rfl)) (by decide)) (da_cons (de_tup (da_cons (de_tup (da_cons (de_tup (da_cons (de_int) (da_cons (de_int) (da_nil) (by kernel_rfl)) (by kernel_rfl)) (by decide)) (da_nil) (by kernel_rfl)) (by decide)) (da_nil) (by kernel_rfl)) (by decide)) (da_nil) (by kernel_rfl)) (by kernel_rfl)) (by kernel_rfl)) (by decide)) (.inl rfl))) (gt_nm (i := 20) nd (by kernel_rfl) (by exact loc_of (by kernel_rfl)) (by first | exact .inl rfl | exact .inr rfl)) (fun d344 s312 => sno_nm (by exact sn_env (e' := [.sh (a0), .sh (v1), .no, .no, .no, .no, .no, .no, .no, .no, .no, .no, .no, .no, .no, .no, .no, .no, .no, .no, .sh (d344)]) rfl (sn_ifR (tn_of (dt_not (dt_tru (DE.toB (de_lam (k := 4) (lf__law_refused Fx rfl rfl) (gl_of (by kernel_rfl)) TB rfl hmT huT (hr.mono (by omega)) (LamX.lamS_by (by kernel_rfl)) (by kernel_rfl) (fun _ _ _ _ _ => by kernel_rfl) (fun A outer s H E f c hr => de_call (fn_mixed_share Fx) hr takes_lam (da_cons (de_v (i := 20) rfl (by kernel_rfl) (by exact vis_of (by kernel_rfl)) (by kernel_rfl) (by kernel_rfl)) (da_cons (de_str (s := [49]) (by kernel_rfl) (by kernel_rfl)) (da_nil) (by kernel_rfl)) (by kernel_rfl)) (by omega) (by kernel_rfl) (by exact gl_of (by kernel_rfl)) (by kernel_rfl) (by kernel_rfl) (by kernel_rfl)) (by kernel_rfl))) (by intro _; kernel_rfl)))) (by exact sn_env (e' := [.sh (a0), .sh (v1), .no, .no, .no, .no, .no, .no, .no, .no, .no, .no, .no, .no, .no, .no, .no, .no, .no, .no, .sh (d344)]) rfl (sn_ret (us := []) (en_of (de_bl)) trivial io0)) (by exact sn_env (e' := [.sh (a0), .sh (v1), .no, .no, .no, .no, .no, .no, .no, .no, .no, .no, .no, .no, .no, .no, .no, .no, .no, .no, .sh (d344)]) rfl (sn_nil (s := ()) (.eq (.eq (.no (.no (.no (.no (.no (.no (.no (.no (.no (.no (.no (.no (.no (.no (.no (.no (.no (.no (.no .nil))))))))))))))))))))))) trivial))) (fun s350 => by exact sn_env (e' := [.sh (a0), .sh (v1), .no, .no, .no, .no, .no, .no, .no, .no, .no, .no, .no, .no, .no, .no, .no, .no, .no, .no, .no]) rfl (sn_ret (us := []) (en_of (de_lam (k := 4) (lf__law_refused Fx rfl rfl) (gl_of (by kernel_rfl)) TB rfl hmT huT (hr.mono (by omega)) (LamX.lamS_by (by kernel_rfl)) (by kernel_rfl) (fun _ _ _ _ _ => by kernel_rfl) (fun A outer s H E f c hr => de_call (fn_switching Fx) hr takes_lam (da_cons (de_tup (da_cons (de_tup (da_cons (de_tup (da_cons (de_int) (da_cons (de_int) (da_nil) (by kernel_rfl)) (by kernel_rfl)) (by decide)) (da_nil) (by kernel_rfl)) (by decide)) (da_cons (de_tup (da_cons (de_tup (da_cons (de_int) (da_cons (de_int) (da_nil) (by kernel_rfl)) (by kernel_rfl)) (by decide)) (da_nil) (by kernel_rfl)) (by decide)) (da_nil) (by kernel_rfl)) (by kernel_rfl)) (by decide)) (da_cons (de_str (s := [49]) (by kernel_rfl) (by kernel_rfl)) (da_cons (de_tup (da_cons (de_int) (da_cons (de_int) (da_nil) (by kernel_rfl)) (by kernel_rfl)) (by decide)) (da_nil) (by kernel_rfl)) (by kernel_rfl)) (by kernel_rfl)) (by omega) (by kernel_rfl) (by exact gl_of (by kernel_rfl)) (by kernel_rfl) (by kernel_rfl) (by kernel_rfl)) (by kernel_rfl))) trivial io0)) (.eq (.eq (.no (.no (.no (.no (.no (.no (.no (.no (.no (.no (.no (.no (.no (.no (.no (.no (.no (.no (.no .nil))))))))))))))))))))) trivial owns_cx rfl (by decide) (by intro _; kernel_rfl))) (.eq (.eq (.no (.no (.no (.no (.no (.no (.no (.no (.no (.no (.no (.no (.no (.no (.no (.no (.no (.no (.no .nil))))))))))))))))))))) trivial owns_cx rfl (by decide) (by intro _; kernel_rfl))) trivial nd (by kernel_rfl) (by exact loc_of (by kernel_rfl)) (by decide) (by kernel_rfl) (by first | exact .inl rfl | exact .inr rfl))), fun _ h => h, nofun⟩
end
end K22

-- K22E
set_option Elab.async false
set_option linter.all false
set_option maxRecDepth 100000
set_option maxHeartbeats 0
namespace K22
open DL PySem PySem.Spec PyProof.Rows L2
theorem all_mk {l : PySem.W.OpenLaw} {w : World} {mg : Str → Option Value} {fa : Addr} {h : Heap} {K : PySem.W.Frag} (X : K.In h) (G : h.Ns mainGlobals mg) (hfa : mg "law" = some (.ref fa))
    (hM : ∀ ns : List Int, ns.length ≤ 63 → (∀ z ∈ ns, Builtin.Int.intBits z ≤ 1048576) → M_law [.lst (ns.map .int)] fun r => r = .ok (.bl true))
    {F__law_tape : Addr} {oc__law_tape : Value} {od__law_tape an__law_tape : Option Addr} {sl__law_tape : Array (Option Value)} {kV__law_tape dc__law_tape pm__law_tape cd__law_tape ct__law_tape : Value}
    (a__law_tape : PySem.W.nsIn K mainGlobals "_law_tape" = some (some (.ref F__law_tape)))
    (l__law_tape : List.lookup F__law_tape K = some ⟨oc__law_tape, od__law_tape, .func (PySem.W.fnOf "_law_tape" "_law_tape" (defArgs t__law_tape) (defBody t__law_tape) (defScope t__law_tape) .none kV__law_tape dc__law_tape pm__law_tape an__law_tape cd__law_tape ct__law_tape), sl__law_tape⟩)
    (c__law_tape : PySem.W.codeIn K cd__law_tape "_law_tape" = true)
    (k__law_tape : PySem.W.keepIn K (.ref F__law_tape) = true)
    {F__law_gcd : Addr} {oc__law_gcd : Value} {od__law_gcd an__law_gcd : Option Addr} {sl__law_gcd : Array (Option Value)} {kV__law_gcd dc__law_gcd pm__law_gcd cd__law_gcd ct__law_gcd : Value}
    (a__law_gcd : PySem.W.nsIn K mainGlobals "_law_gcd" = some (some (.ref F__law_gcd)))
    (l__law_gcd : List.lookup F__law_gcd K = some ⟨oc__law_gcd, od__law_gcd, .func (PySem.W.fnOf "_law_gcd" "_law_gcd" (defArgs t__law_gcd) (defBody t__law_gcd) (defScope t__law_gcd) .none kV__law_gcd dc__law_gcd pm__law_gcd an__law_gcd cd__law_gcd ct__law_gcd), sl__law_gcd⟩)
    (c__law_gcd : PySem.W.codeIn K cd__law_gcd "_law_gcd" = true)
    (k__law_gcd : PySem.W.keepIn K (.ref F__law_gcd) = true)
    {F__law_ratio : Addr} {oc__law_ratio : Value} {od__law_ratio an__law_ratio : Option Addr} {sl__law_ratio : Array (Option Value)} {kV__law_ratio dc__law_ratio pm__law_ratio cd__law_ratio ct__law_ratio : Value}
    (a__law_ratio : PySem.W.nsIn K mainGlobals "_law_ratio" = some (some (.ref F__law_ratio)))
    (l__law_ratio : List.lookup F__law_ratio K = some ⟨oc__law_ratio, od__law_ratio, .func (PySem.W.fnOf "_law_ratio" "_law_ratio" (defArgs t__law_ratio) (defBody t__law_ratio) (defScope t__law_ratio) .none kV__law_ratio dc__law_ratio pm__law_ratio an__law_ratio cd__law_ratio ct__law_ratio), sl__law_ratio⟩)
    (c__law_ratio : PySem.W.codeIn K cd__law_ratio "_law_ratio" = true)
    (k__law_ratio : PySem.W.keepIn K (.ref F__law_ratio) = true)
    {F__law_times : Addr} {oc__law_times : Value} {od__law_times an__law_times : Option Addr} {sl__law_times : Array (Option Value)} {kV__law_times dc__law_times pm__law_times cd__law_times ct__law_times : Value}
    (a__law_times : PySem.W.nsIn K mainGlobals "_law_times" = some (some (.ref F__law_times)))
    (l__law_times : List.lookup F__law_times K = some ⟨oc__law_times, od__law_times, .func (PySem.W.fnOf "_law_times" "_law_times" (defArgs t__law_times) (defBody t__law_times) (defScope t__law_times) .none kV__law_times dc__law_times pm__law_times an__law_times cd__law_times ct__law_times), sl__law_times⟩)
    (c__law_times : PySem.W.codeIn K cd__law_times "_law_times" = true)
    (k__law_times : PySem.W.keepIn K (.ref F__law_times) = true)
    {F_is_bits : Addr} {oc_is_bits : Value} {od_is_bits an_is_bits : Option Addr} {sl_is_bits : Array (Option Value)} {kV_is_bits dc_is_bits pm_is_bits cd_is_bits ct_is_bits : Value}
    (a_is_bits : PySem.W.nsIn K mainGlobals "is_bits" = some (some (.ref F_is_bits)))
    (l_is_bits : List.lookup F_is_bits K = some ⟨oc_is_bits, od_is_bits, .func (PySem.W.fnOf "is_bits" "is_bits" (defArgs t_is_bits) (defBody t_is_bits) (defScope t_is_bits) .none kV_is_bits dc_is_bits pm_is_bits an_is_bits cd_is_bits ct_is_bits), sl_is_bits⟩)
    (c_is_bits : PySem.W.codeIn K cd_is_bits "is_bits" = true)
    (k_is_bits : PySem.W.keepIn K (.ref F_is_bits) = true)
    {F_check_bits : Addr} {oc_check_bits : Value} {od_check_bits an_check_bits : Option Addr} {sl_check_bits : Array (Option Value)} {kV_check_bits dc_check_bits pm_check_bits cd_check_bits ct_check_bits : Value}
    (a_check_bits : PySem.W.nsIn K mainGlobals "check_bits" = some (some (.ref F_check_bits)))
    (l_check_bits : List.lookup F_check_bits K = some ⟨oc_check_bits, od_check_bits, .func (PySem.W.fnOf "check_bits" "check_bits" (defArgs t_check_bits) (defBody t_check_bits) (defScope t_check_bits) .none kV_check_bits dc_check_bits pm_check_bits an_check_bits cd_check_bits ct_check_bits), sl_check_bits⟩)
    (c_check_bits : PySem.W.codeIn K cd_check_bits "check_bits" = true)
    (k_check_bits : PySem.W.keepIn K (.ref F_check_bits) = true)
    {F_less : Addr} {oc_less : Value} {od_less an_less : Option Addr} {sl_less : Array (Option Value)} {kV_less dc_less pm_less cd_less ct_less : Value}
    (a_less : PySem.W.nsIn K mainGlobals "less" = some (some (.ref F_less)))
    (l_less : List.lookup F_less K = some ⟨oc_less, od_less, .func (PySem.W.fnOf "less" "less" (defArgs t_less) (defBody t_less) (defScope t_less) .none kV_less dc_less pm_less an_less cd_less ct_less), sl_less⟩)
    (c_less : PySem.W.codeIn K cd_less "less" = true)
    (k_less : PySem.W.keepIn K (.ref F_less) = true)
    {F_check_voices : Addr} {oc_check_voices : Value} {od_check_voices an_check_voices : Option Addr} {sl_check_voices : Array (Option Value)} {kV_check_voices dc_check_voices pm_check_voices cd_check_voices ct_check_voices : Value}
    (a_check_voices : PySem.W.nsIn K mainGlobals "check_voices" = some (some (.ref F_check_voices)))
    (l_check_voices : List.lookup F_check_voices K = some ⟨oc_check_voices, od_check_voices, .func (PySem.W.fnOf "check_voices" "check_voices" (defArgs t_check_voices) (defBody t_check_voices) (defScope t_check_voices) .none kV_check_voices dc_check_voices pm_check_voices an_check_voices cd_check_voices ct_check_voices), sl_check_voices⟩)
    (c_check_voices : PySem.W.codeIn K cd_check_voices "check_voices" = true)
    (k_check_voices : PySem.W.keepIn K (.ref F_check_voices) = true)
    {F_share : Addr} {oc_share : Value} {od_share an_share : Option Addr} {sl_share : Array (Option Value)} {kV_share dc_share pm_share cd_share ct_share : Value}
    (a_share : PySem.W.nsIn K mainGlobals "share" = some (some (.ref F_share)))
    (l_share : List.lookup F_share K = some ⟨oc_share, od_share, .func (PySem.W.fnOf "share" "share" (defArgs t_share) (defBody t_share) (defScope t_share) .none kV_share dc_share pm_share an_share cd_share ct_share), sl_share⟩)
    (c_share : PySem.W.codeIn K cd_share "share" = true)
    (k_share : PySem.W.keepIn K (.ref F_share) = true)
    {F_plus : Addr} {oc_plus : Value} {od_plus an_plus : Option Addr} {sl_plus : Array (Option Value)} {kV_plus dc_plus pm_plus cd_plus ct_plus : Value}
    (a_plus : PySem.W.nsIn K mainGlobals "plus" = some (some (.ref F_plus)))
    (l_plus : List.lookup F_plus K = some ⟨oc_plus, od_plus, .func (PySem.W.fnOf "plus" "plus" (defArgs t_plus) (defBody t_plus) (defScope t_plus) .none kV_plus dc_plus pm_plus an_plus cd_plus ct_plus), sl_plus⟩)
    (c_plus : PySem.W.codeIn K cd_plus "plus" = true)
    (k_plus : PySem.W.keepIn K (.ref F_plus) = true)
    {F_sum_of : Addr} {oc_sum_of : Value} {od_sum_of an_sum_of : Option Addr} {sl_sum_of : Array (Option Value)} {kV_sum_of dc_sum_of pm_sum_of cd_sum_of ct_sum_of : Value}
    (a_sum_of : PySem.W.nsIn K mainGlobals "sum_of" = some (some (.ref F_sum_of)))
    (l_sum_of : List.lookup F_sum_of K = some ⟨oc_sum_of, od_sum_of, .func (PySem.W.fnOf "sum_of" "sum_of" (defArgs t_sum_of) (defBody t_sum_of) (defScope t_sum_of) .none kV_sum_of dc_sum_of pm_sum_of an_sum_of cd_sum_of ct_sum_of), sl_sum_of⟩)
    (c_sum_of : PySem.W.codeIn K cd_sum_of "sum_of" = true)
    (k_sum_of : PySem.W.keepIn K (.ref F_sum_of) = true)
    {F_times : Addr} {oc_times : Value} {od_times an_times : Option Addr} {sl_times : Array (Option Value)} {kV_times dc_times pm_times cd_times ct_times : Value}
    (a_times : PySem.W.nsIn K mainGlobals "times" = some (some (.ref F_times)))
    (l_times : List.lookup F_times K = some ⟨oc_times, od_times, .func (PySem.W.fnOf "times" "times" (defArgs t_times) (defBody t_times) (defScope t_times) .none kV_times dc_times pm_times an_times cd_times ct_times), sl_times⟩)
    (c_times : PySem.W.codeIn K cd_times "times" = true)
    (k_times : PySem.W.keepIn K (.ref F_times) = true)
    {F_heard : Addr} {oc_heard : Value} {od_heard an_heard : Option Addr} {sl_heard : Array (Option Value)} {kV_heard dc_heard pm_heard cd_heard ct_heard : Value}
    (a_heard : PySem.W.nsIn K mainGlobals "heard" = some (some (.ref F_heard)))
    (l_heard : List.lookup F_heard K = some ⟨oc_heard, od_heard, .func (PySem.W.fnOf "heard" "heard" (defArgs t_heard) (defBody t_heard) (defScope t_heard) .none kV_heard dc_heard pm_heard an_heard cd_heard ct_heard), sl_heard⟩)
    (c_heard : PySem.W.codeIn K cd_heard "heard" = true)
    (k_heard : PySem.W.keepIn K (.ref F_heard) = true)
    {F_over : Addr} {oc_over : Value} {od_over an_over : Option Addr} {sl_over : Array (Option Value)} {kV_over dc_over pm_over cd_over ct_over : Value}
    (a_over : PySem.W.nsIn K mainGlobals "over" = some (some (.ref F_over)))
    (l_over : List.lookup F_over K = some ⟨oc_over, od_over, .func (PySem.W.fnOf "over" "over" (defArgs t_over) (defBody t_over) (defScope t_over) .none kV_over dc_over pm_over an_over cd_over ct_over), sl_over⟩)
    (c_over : PySem.W.codeIn K cd_over "over" = true)
    (k_over : PySem.W.keepIn K (.ref F_over) = true)
    {F_said_next : Addr} {oc_said_next : Value} {od_said_next an_said_next : Option Addr} {sl_said_next : Array (Option Value)} {kV_said_next dc_said_next pm_said_next cd_said_next ct_said_next : Value}
    (a_said_next : PySem.W.nsIn K mainGlobals "said_next" = some (some (.ref F_said_next)))
    (l_said_next : List.lookup F_said_next K = some ⟨oc_said_next, od_said_next, .func (PySem.W.fnOf "said_next" "said_next" (defArgs t_said_next) (defBody t_said_next) (defScope t_said_next) .none kV_said_next dc_said_next pm_said_next an_said_next cd_said_next ct_said_next), sl_said_next⟩)
    (c_said_next : PySem.W.codeIn K cd_said_next "said_next" = true)
    (k_said_next : PySem.W.keepIn K (.ref F_said_next) = true)
    {F_voice_share : Addr} {oc_voice_share : Value} {od_voice_share an_voice_share : Option Addr} {sl_voice_share : Array (Option Value)} {kV_voice_share dc_voice_share pm_voice_share cd_voice_share ct_voice_share : Value}
    (a_voice_share : PySem.W.nsIn K mainGlobals "voice_share" = some (some (.ref F_voice_share)))
    (l_voice_share : List.lookup F_voice_share K = some ⟨oc_voice_share, od_voice_share, .func (PySem.W.fnOf "voice_share" "voice_share" (defArgs t_voice_share) (defBody t_voice_share) (defScope t_voice_share) .none kV_voice_share dc_voice_share pm_voice_share an_voice_share cd_voice_share ct_voice_share), sl_voice_share⟩)
    (c_voice_share : PySem.W.codeIn K cd_voice_share "voice_share" = true)
    (k_voice_share : PySem.W.keepIn K (.ref F_voice_share) = true)
    {F_bits_for : Addr} {oc_bits_for : Value} {od_bits_for an_bits_for : Option Addr} {sl_bits_for : Array (Option Value)} {kV_bits_for dc_bits_for pm_bits_for cd_bits_for ct_bits_for : Value}
    (a_bits_for : PySem.W.nsIn K mainGlobals "bits_for" = some (some (.ref F_bits_for)))
    (l_bits_for : List.lookup F_bits_for K = some ⟨oc_bits_for, od_bits_for, .func (PySem.W.fnOf "bits_for" "bits_for" (defArgs t_bits_for) (defBody t_bits_for) (defScope t_bits_for) .none kV_bits_for dc_bits_for pm_bits_for an_bits_for cd_bits_for ct_bits_for), sl_bits_for⟩)
    (c_bits_for : PySem.W.codeIn K cd_bits_for "bits_for" = true)
    (k_bits_for : PySem.W.keepIn K (.ref F_bits_for) = true)
    {F_mixed_share : Addr} {oc_mixed_share : Value} {od_mixed_share an_mixed_share : Option Addr} {sl_mixed_share : Array (Option Value)} {kV_mixed_share dc_mixed_share pm_mixed_share cd_mixed_share ct_mixed_share : Value}
    (a_mixed_share : PySem.W.nsIn K mainGlobals "mixed_share" = some (some (.ref F_mixed_share)))
    (l_mixed_share : List.lookup F_mixed_share K = some ⟨oc_mixed_share, od_mixed_share, .func (PySem.W.fnOf "mixed_share" "mixed_share" (defArgs t_mixed_share) (defBody t_mixed_share) (defScope t_mixed_share) .none kV_mixed_share dc_mixed_share pm_mixed_share an_mixed_share cd_mixed_share ct_mixed_share), sl_mixed_share⟩)
    (c_mixed_share : PySem.W.codeIn K cd_mixed_share "mixed_share" = true)
    (k_mixed_share : PySem.W.keepIn K (.ref F_mixed_share) = true)
    {F_most_lost : Addr} {oc_most_lost : Value} {od_most_lost an_most_lost : Option Addr} {sl_most_lost : Array (Option Value)} {kV_most_lost dc_most_lost pm_most_lost cd_most_lost ct_most_lost : Value}
    (a_most_lost : PySem.W.nsIn K mainGlobals "most_lost" = some (some (.ref F_most_lost)))
    (l_most_lost : List.lookup F_most_lost K = some ⟨oc_most_lost, od_most_lost, .func (PySem.W.fnOf "most_lost" "most_lost" (defArgs t_most_lost) (defBody t_most_lost) (defScope t_most_lost) .none kV_most_lost dc_most_lost pm_most_lost an_most_lost cd_most_lost ct_most_lost), sl_most_lost⟩)
    (c_most_lost : PySem.W.codeIn K cd_most_lost "most_lost" = true)
    (k_most_lost : PySem.W.keepIn K (.ref F_most_lost) = true)
    {F__law_take : Addr} {oc__law_take : Value} {od__law_take an__law_take : Option Addr} {sl__law_take : Array (Option Value)} {kV__law_take dc__law_take pm__law_take cd__law_take ct__law_take : Value}
    (a__law_take : PySem.W.nsIn K mainGlobals "_law_take" = some (some (.ref F__law_take)))
    (l__law_take : List.lookup F__law_take K = some ⟨oc__law_take, od__law_take, .func (PySem.W.fnOf "_law_take" "_law_take" (defArgs t__law_take) (defBody t__law_take) (defScope t__law_take) .none kV__law_take dc__law_take pm__law_take an__law_take cd__law_take ct__law_take), sl__law_take⟩)
    (c__law_take : PySem.W.codeIn K cd__law_take "_law_take" = true)
    (k__law_take : PySem.W.keepIn K (.ref F__law_take) = true)
    {F__law_said : Addr} {oc__law_said : Value} {od__law_said an__law_said : Option Addr} {sl__law_said : Array (Option Value)} {kV__law_said dc__law_said pm__law_said cd__law_said ct__law_said : Value}
    (a__law_said : PySem.W.nsIn K mainGlobals "_law_said" = some (some (.ref F__law_said)))
    (l__law_said : List.lookup F__law_said K = some ⟨oc__law_said, od__law_said, .func (PySem.W.fnOf "_law_said" "_law_said" (defArgs t__law_said) (defBody t__law_said) (defScope t__law_said) .none kV__law_said dc__law_said pm__law_said an__law_said cd__law_said ct__law_said), sl__law_said⟩)
    (c__law_said : PySem.W.codeIn K cd__law_said "_law_said" = true)
    (k__law_said : PySem.W.keepIn K (.ref F__law_said) = true)
    {F__law_share : Addr} {oc__law_share : Value} {od__law_share an__law_share : Option Addr} {sl__law_share : Array (Option Value)} {kV__law_share dc__law_share pm__law_share cd__law_share ct__law_share : Value}
    (a__law_share : PySem.W.nsIn K mainGlobals "_law_share" = some (some (.ref F__law_share)))
    (l__law_share : List.lookup F__law_share K = some ⟨oc__law_share, od__law_share, .func (PySem.W.fnOf "_law_share" "_law_share" (defArgs t__law_share) (defBody t__law_share) (defScope t__law_share) .none kV__law_share dc__law_share pm__law_share an__law_share cd__law_share ct__law_share), sl__law_share⟩)
    (c__law_share : PySem.W.codeIn K cd__law_share "_law_share" = true)
    (k__law_share : PySem.W.keepIn K (.ref F__law_share) = true)
    {F__law_sum : Addr} {oc__law_sum : Value} {od__law_sum an__law_sum : Option Addr} {sl__law_sum : Array (Option Value)} {kV__law_sum dc__law_sum pm__law_sum cd__law_sum ct__law_sum : Value}
    (a__law_sum : PySem.W.nsIn K mainGlobals "_law_sum" = some (some (.ref F__law_sum)))
    (l__law_sum : List.lookup F__law_sum K = some ⟨oc__law_sum, od__law_sum, .func (PySem.W.fnOf "_law_sum" "_law_sum" (defArgs t__law_sum) (defBody t__law_sum) (defScope t__law_sum) .none kV__law_sum dc__law_sum pm__law_sum an__law_sum cd__law_sum ct__law_sum), sl__law_sum⟩)
    (c__law_sum : PySem.W.codeIn K cd__law_sum "_law_sum" = true)
    (k__law_sum : PySem.W.keepIn K (.ref F__law_sum) = true)
    {F_switching : Addr} {oc_switching : Value} {od_switching an_switching : Option Addr} {sl_switching : Array (Option Value)} {kV_switching dc_switching pm_switching cd_switching ct_switching : Value}
    (a_switching : PySem.W.nsIn K mainGlobals "switching" = some (some (.ref F_switching)))
    (l_switching : List.lookup F_switching K = some ⟨oc_switching, od_switching, .func (PySem.W.fnOf "switching" "switching" (defArgs t_switching) (defBody t_switching) (defScope t_switching) .none kV_switching dc_switching pm_switching an_switching cd_switching ct_switching), sl_switching⟩)
    (c_switching : PySem.W.codeIn K cd_switching "switching" = true)
    (k_switching : PySem.W.keepIn K (.ref F_switching) = true)
    {F__law_switched : Addr} {oc__law_switched : Value} {od__law_switched an__law_switched : Option Addr} {sl__law_switched : Array (Option Value)} {kV__law_switched dc__law_switched pm__law_switched cd__law_switched ct__law_switched : Value}
    (a__law_switched : PySem.W.nsIn K mainGlobals "_law_switched" = some (some (.ref F__law_switched)))
    (l__law_switched : List.lookup F__law_switched K = some ⟨oc__law_switched, od__law_switched, .func (PySem.W.fnOf "_law_switched" "_law_switched" (defArgs t__law_switched) (defBody t__law_switched) (defScope t__law_switched) .none kV__law_switched dc__law_switched pm__law_switched an__law_switched cd__law_switched ct__law_switched), sl__law_switched⟩)
    (c__law_switched : PySem.W.codeIn K cd__law_switched "_law_switched" = true)
    (k__law_switched : PySem.W.keepIn K (.ref F__law_switched) = true)
    {F__law_bits_for : Addr} {oc__law_bits_for : Value} {od__law_bits_for an__law_bits_for : Option Addr} {sl__law_bits_for : Array (Option Value)} {kV__law_bits_for dc__law_bits_for pm__law_bits_for cd__law_bits_for ct__law_bits_for : Value}
    (a__law_bits_for : PySem.W.nsIn K mainGlobals "_law_bits_for" = some (some (.ref F__law_bits_for)))
    (l__law_bits_for : List.lookup F__law_bits_for K = some ⟨oc__law_bits_for, od__law_bits_for, .func (PySem.W.fnOf "_law_bits_for" "_law_bits_for" (defArgs t__law_bits_for) (defBody t__law_bits_for) (defScope t__law_bits_for) .none kV__law_bits_for dc__law_bits_for pm__law_bits_for an__law_bits_for cd__law_bits_for ct__law_bits_for), sl__law_bits_for⟩)
    (c__law_bits_for : PySem.W.codeIn K cd__law_bits_for "_law_bits_for" = true)
    (k__law_bits_for : PySem.W.keepIn K (.ref F__law_bits_for) = true)
    {F__law_refused : Addr} {oc__law_refused : Value} {od__law_refused an__law_refused : Option Addr} {sl__law_refused : Array (Option Value)} {kV__law_refused dc__law_refused pm__law_refused cd__law_refused ct__law_refused : Value}
    (a__law_refused : PySem.W.nsIn K mainGlobals "_law_refused" = some (some (.ref F__law_refused)))
    (l__law_refused : List.lookup F__law_refused K = some ⟨oc__law_refused, od__law_refused, .func (PySem.W.fnOf "_law_refused" "_law_refused" (defArgs t__law_refused) (defBody t__law_refused) (defScope t__law_refused) .none kV__law_refused dc__law_refused pm__law_refused an__law_refused cd__law_refused ct__law_refused), sl__law_refused⟩)
    (c__law_refused : PySem.W.codeIn K cd__law_refused "_law_refused" = true)
    (k__law_refused : PySem.W.keepIn K (.ref F__law_refused) = true)
    {F_law : Addr} {oc_law : Value} {od_law an_law : Option Addr} {sl_law : Array (Option Value)} {kV_law dc_law pm_law cd_law ct_law : Value}
    (a_law : PySem.W.nsIn K mainGlobals "law" = some (some (.ref F_law)))
    (l_law : List.lookup F_law K = some ⟨oc_law, od_law, .func (PySem.W.fnOf "law" "law" (defArgs t_law) (defBody t_law) (defScope t_law) .none kV_law dc_law pm_law an_law cd_law ct_law), sl_law⟩)
    (c_law : PySem.W.codeIn K cd_law "law" = true)
    (k_law : PySem.W.keepIn K (.ref F_law) = true)
    {co_law P_law : Addr} {xd_law : Option Addr} {xs_law : Array (Option Value)} {xv_law : Array Value} {fi_law : Str} {tf_law tg_law tt_law : Tok} {fl_law te_law : Int} {in_law : Bool}
    (cd_law_e : cd_law = .ref co_law) (cl_law : List.lookup co_law K = some ⟨.type "code", xd_law, .fields xv_law, xs_law⟩) (e11_law : xv_law[11]? = some (.ref P_law)) (e18_law : xv_law.getD 18 .none = .str fi_law tf_law) (e7_law : xv_law.getD 7 .none = .int fl_law tg_law) (e9_law : xv_law.getD 9 .none = .bool in_law) (e10_law : xv_law.getD 10 .none = .int te_law tt_law) (ne_law : co_law ≠ P_law) (nk_law : List.lookup P_law K = none) (tb_law : h.get? P_law = some (PySem.W.tabObj #[]))
    (nol : noLst K = true)
    (b_abs : PySem.W.nsIn K mainGlobals "abs" = some none)
    (b_all : PySem.W.nsIn K mainGlobals "all" = some none)
    (b_enumerate : PySem.W.nsIn K mainGlobals "enumerate" = some none)
    (b_int : PySem.W.nsIn K mainGlobals "int" = some none)
    (b_len : PySem.W.nsIn K mainGlobals "len" = some none)
    (b_range : PySem.W.nsIn K mainGlobals "range" = some none)
    (b_str : PySem.W.nsIn K mainGlobals "str" = some none)
    (b_tuple : PySem.W.nsIn K mainGlobals "tuple" = some none)
    (b_zip : PySem.W.nsIn K mainGlobals "zip" = some none)
    {gv_MOST_BITS : Value} (g_MOST_BITS : PySem.W.nsIn K mainGlobals "MOST_BITS" = some (some gv_MOST_BITS)) (gk_MOST_BITS : kval K 9 gv_MOST_BITS G_MOST_BITS = true)
    {gv_ONE : Value} (g_ONE : PySem.W.nsIn K mainGlobals "ONE" = some (some gv_ONE)) (gk_ONE : kval K 9 gv_ONE G_ONE = true)
    {gv_ZERO : Value} (g_ZERO : PySem.W.nsIn K mainGlobals "ZERO" = some (some gv_ZERO)) (gk_ZERO : kval K 9 gv_ZERO G_ZERO = true)
    {X_InvalidBits : Addr} (x_InvalidBits : PySem.W.nsIn K mainGlobals "InvalidBits" = some (some (.ref X_InvalidBits))) (xe_InvalidBits : PySem.W.excIn K X_InvalidBits [.type "ValueError", .type "Exception", .type "BaseException", .type "object"] "ValueError.__new__" = true) (xk_InvalidBits : PySem.W.keepIn K (.ref X_InvalidBits) = true) (xs_InvalidBits : PySem.W.subIn K (.ref X_InvalidBits) (.type "BaseException") = some true) (xt_InvalidBits : PySem.W.typeIn K (.ref X_InvalidBits) = some (.type "type"))
    {X_InvalidCounts : Addr} (x_InvalidCounts : PySem.W.nsIn K mainGlobals "InvalidCounts" = some (some (.ref X_InvalidCounts))) (xe_InvalidCounts : PySem.W.excIn K X_InvalidCounts [.type "ValueError", .type "Exception", .type "BaseException", .type "object"] "ValueError.__new__" = true) (xk_InvalidCounts : PySem.W.keepIn K (.ref X_InvalidCounts) = true) (xs_InvalidCounts : PySem.W.subIn K (.ref X_InvalidCounts) (.type "BaseException") = some true) (xt_InvalidCounts : PySem.W.typeIn K (.ref X_InvalidCounts) = some (.type "type"))
    (p_0 : PySem.W.exmOne K (.ref X_InvalidBits) (.ref X_InvalidCounts) = some false)
    (p_1 : PySem.W.exmOne K (.ref X_InvalidCounts) (.ref X_InvalidCounts) = some true) :
    LamX.LawAtS l w K (L2.CX l.prog w) 45 63 "script" mg fa h := by
  have e := hfa.symm.trans (PySem.W.mg_of X G a_law)
  cases e
  subst cd_law_e
  have F__law_tape_ := fun_mk (st := t__law_tape) l__law_tape c__law_tape k__law_tape
  have b__law_tape_ := F__law_tape_.binds (ps := ["script"]) fun _ _ _ _ _ _ us hl => match us, hl with | [_], _ => rfl
  have F__law_gcd_ := fun_mk (st := t__law_gcd) l__law_gcd c__law_gcd k__law_gcd
  have b__law_gcd_ := F__law_gcd_.binds (ps := ["a", "b"]) fun _ _ _ _ _ _ us hl => match us, hl with | [_, _], _ => rfl
  have F__law_ratio_ := fun_mk (st := t__law_ratio) l__law_ratio c__law_ratio k__law_ratio
  have b__law_ratio_ := F__law_ratio_.binds (ps := ["n", "d"]) fun _ _ _ _ _ _ us hl => match us, hl with | [_, _], _ => rfl
  have F__law_times_ := fun_mk (st := t__law_times) l__law_times c__law_times k__law_times
  have b__law_times_ := F__law_times_.binds (ps := ["a", "b"]) fun _ _ _ _ _ _ us hl => match us, hl with | [_, _], _ => rfl
  have F_is_bits_ := fun_mk (st := t_is_bits) l_is_bits c_is_bits k_is_bits
  have b_is_bits_ := F_is_bits_.binds (ps := ["text"]) fun _ _ _ _ _ _ us hl => match us, hl with | [_], _ => rfl
  have F_check_bits_ := fun_mk (st := t_check_bits) l_check_bits c_check_bits k_check_bits
  have b_check_bits_ := F_check_bits_.binds (ps := ["text"]) fun _ _ _ _ _ _ us hl => match us, hl with | [_], _ => rfl
  have F_less_ := fun_mk (st := t_less) l_less c_less k_less
  have b_less_ := F_less_.binds (ps := ["a", "b"]) fun _ _ _ _ _ _ us hl => match us, hl with | [_, _], _ => rfl
  have F_check_voices_ := fun_mk (st := t_check_voices) l_check_voices c_check_voices k_check_voices
  have b_check_voices_ := F_check_voices_.binds (ps := ["voices", "size"]) fun _ _ _ _ _ _ us hl => match us, hl with | [_, _], _ => rfl
  have F_share_ := fun_mk (st := t_share) l_share c_share k_share
  have b_share_ := F_share_.binds (ps := ["n", "d"]) fun _ _ _ _ _ _ us hl => match us, hl with | [_, _], _ => rfl
  have F_plus_ := fun_mk (st := t_plus) l_plus c_plus k_plus
  have b_plus_ := F_plus_.binds (ps := ["a", "b"]) fun _ _ _ _ _ _ us hl => match us, hl with | [_, _], _ => rfl
  have F_sum_of_ := fun_mk (st := t_sum_of) l_sum_of c_sum_of k_sum_of
  have b_sum_of_ := F_sum_of_.binds (ps := ["row"]) fun _ _ _ _ _ _ us hl => match us, hl with | [_], _ => rfl
  have F_times_ := fun_mk (st := t_times) l_times c_times k_times
  have b_times_ := F_times_.binds (ps := ["a", "b"]) fun _ _ _ _ _ _ us hl => match us, hl with | [_, _], _ => rfl
  have F_heard_ := fun_mk (st := t_heard) l_heard c_heard k_heard
  have b_heard_ := F_heard_.binds (ps := ["weights", "voices", "k", "bit"]) fun _ _ _ _ _ _ us hl => match us, hl with | [_, _, _, _], _ => rfl
  have F_over_ := fun_mk (st := t_over) l_over c_over k_over
  have b_over_ := F_over_.binds (ps := ["a", "b"]) fun _ _ _ _ _ _ us hl => match us, hl with | [_, _], _ => rfl
  have F_said_next_ := fun_mk (st := t_said_next) l_said_next c_said_next k_said_next
  have b_said_next_ := F_said_next_.binds (ps := ["voices", "bits"]) fun _ _ _ _ _ _ us hl => match us, hl with | [_, _], _ => rfl
  have F_voice_share_ := fun_mk (st := t_voice_share) l_voice_share c_voice_share k_voice_share
  have b_voice_share_ := F_voice_share_.binds (ps := ["row", "bits"]) fun _ _ _ _ _ _ us hl => match us, hl with | [_, _], _ => rfl
  have F_bits_for_ := fun_mk (st := t_bits_for) l_bits_for c_bits_for k_bits_for
  have b_bits_for_ := F_bits_for_.binds (ps := ["a"]) fun _ _ _ _ _ _ us hl => match us, hl with | [_], _ => rfl
  have F_mixed_share_ := fun_mk (st := t_mixed_share) l_mixed_share c_mixed_share k_mixed_share
  have b_mixed_share_ := F_mixed_share_.binds (ps := ["voices", "bits"]) fun _ _ _ _ _ _ us hl => match us, hl with | [_, _], _ => rfl
  have F_most_lost_ := fun_mk (st := t_most_lost) l_most_lost c_most_lost k_most_lost
  have b_most_lost_ := F_most_lost_.binds (ps := ["voices", "bits"]) fun _ _ _ _ _ _ us hl => match us, hl with | [_, _], _ => rfl
  have F__law_take_ := fun_mk (st := t__law_take) l__law_take c__law_take k__law_take
  have b__law_take_ := F__law_take_.binds (ps := ["tape", "many"]) fun _ _ _ _ _ _ us hl => match us, hl with | [_, _], _ => rfl
  have F__law_said_ := fun_mk (st := t__law_said) l__law_said c__law_said k__law_said
  have b__law_said_ := F__law_said_.binds (ps := ["a", "bit"]) fun _ _ _ _ _ _ us hl => match us, hl with | [_, _], _ => rfl
  have F__law_share_ := fun_mk (st := t__law_share) l__law_share c__law_share k__law_share
  have b__law_share_ := F__law_share_.binds (ps := ["row", "bits"]) fun _ _ _ _ _ _ us hl => match us, hl with | [_, _], _ => rfl
  have F__law_sum_ := fun_mk (st := t__law_sum) l__law_sum c__law_sum k__law_sum
  have b__law_sum_ := F__law_sum_.binds (ps := ["row"]) fun _ _ _ _ _ _ us hl => match us, hl with | [_], _ => rfl
  have F_switching_ := fun_mk (st := t_switching) l_switching c_switching k_switching
  have b_switching_ := F_switching_.binds (ps := ["voices", "bits", "rate"]) fun _ _ _ _ _ _ us hl => match us, hl with | [_, _, _], _ => rfl
  have F__law_switched_ := fun_mk (st := t__law_switched) l__law_switched c__law_switched k__law_switched
  have b__law_switched_ := F__law_switched_.binds (ps := ["voices", "bits", "rate", "now", "at"]) fun _ _ _ _ _ _ us hl => match us, hl with | [_, _, _, _, _], _ => rfl
  have F__law_bits_for_ := fun_mk (st := t__law_bits_for) l__law_bits_for c__law_bits_for k__law_bits_for
  have b__law_bits_for_ := F__law_bits_for_.binds (ps := ["a"]) fun _ _ _ _ _ _ us hl => match us, hl with | [_], _ => rfl
  have F__law_refused_ := fun_mk (st := t__law_refused) l__law_refused c__law_refused k__law_refused
  have b__law_refused_ := F__law_refused_.binds (ps := ["call"]) fun _ _ _ _ _ _ us hl => match us, hl with | [_], _ => rfl
  have F_law_ := funC_mk (st := t_law) (C := fun cdv => cdv = .ref co_law) l_law c_law k_law rfl
  have Fx : ∀ base : Heap, TX l.prog w K mg base [(P_law, ("law.<locals>.<lambda>" : Str))] := fun base => {
    d__law_tape := ⟨_, _, PySem.W.mg_of X G a__law_tape, F__law_tape_, b__law_tape_⟩
    d__law_gcd := ⟨_, _, PySem.W.mg_of X G a__law_gcd, F__law_gcd_, b__law_gcd_⟩
    d__law_ratio := ⟨_, _, PySem.W.mg_of X G a__law_ratio, F__law_ratio_, b__law_ratio_⟩
    d__law_times := ⟨_, _, PySem.W.mg_of X G a__law_times, F__law_times_, b__law_times_⟩
    d_is_bits := ⟨_, _, PySem.W.mg_of X G a_is_bits, F_is_bits_, b_is_bits_⟩
    d_check_bits := ⟨_, _, PySem.W.mg_of X G a_check_bits, F_check_bits_, b_check_bits_⟩
    d_less := ⟨_, _, PySem.W.mg_of X G a_less, F_less_, b_less_⟩
    d_check_voices := ⟨_, _, PySem.W.mg_of X G a_check_voices, F_check_voices_, b_check_voices_⟩
    d_share := ⟨_, _, PySem.W.mg_of X G a_share, F_share_, b_share_⟩
    d_plus := ⟨_, _, PySem.W.mg_of X G a_plus, F_plus_, b_plus_⟩
    d_sum_of := ⟨_, _, PySem.W.mg_of X G a_sum_of, F_sum_of_, b_sum_of_⟩
    d_times := ⟨_, _, PySem.W.mg_of X G a_times, F_times_, b_times_⟩
    d_heard := ⟨_, _, PySem.W.mg_of X G a_heard, F_heard_, b_heard_⟩
    d_over := ⟨_, _, PySem.W.mg_of X G a_over, F_over_, b_over_⟩
    d_said_next := ⟨_, _, PySem.W.mg_of X G a_said_next, F_said_next_, b_said_next_⟩
    d_voice_share := ⟨_, _, PySem.W.mg_of X G a_voice_share, F_voice_share_, b_voice_share_⟩
    d_bits_for := ⟨_, _, PySem.W.mg_of X G a_bits_for, F_bits_for_, b_bits_for_⟩
    d_mixed_share := ⟨_, _, PySem.W.mg_of X G a_mixed_share, F_mixed_share_, b_mixed_share_⟩
    d_most_lost := ⟨_, _, PySem.W.mg_of X G a_most_lost, F_most_lost_, b_most_lost_⟩
    d__law_take := ⟨_, _, PySem.W.mg_of X G a__law_take, F__law_take_, b__law_take_⟩
    d__law_said := ⟨_, _, PySem.W.mg_of X G a__law_said, F__law_said_, b__law_said_⟩
    d__law_share := ⟨_, _, PySem.W.mg_of X G a__law_share, F__law_share_, b__law_share_⟩
    d__law_sum := ⟨_, _, PySem.W.mg_of X G a__law_sum, F__law_sum_, b__law_sum_⟩
    d_switching := ⟨_, _, PySem.W.mg_of X G a_switching, F_switching_, b_switching_⟩
    d__law_switched := ⟨_, _, PySem.W.mg_of X G a__law_switched, F__law_switched_, b__law_switched_⟩
    d__law_bits_for := ⟨_, _, PySem.W.mg_of X G a__law_bits_for, F__law_bits_for_, b__law_bits_for_⟩
    d__law_refused := ⟨_, _, PySem.W.mg_of X G a__law_refused, F__law_refused_, b__law_refused_⟩
    b_abs := PySem.W.mg_none_of X G b_abs
    b_all := PySem.W.mg_none_of X G b_all
    b_enumerate := PySem.W.mg_none_of X G b_enumerate
    b_int := PySem.W.mg_none_of X G b_int
    b_len := PySem.W.mg_none_of X G b_len
    b_range := PySem.W.mg_none_of X G b_range
    b_str := PySem.W.mg_none_of X G b_str
    b_tuple := PySem.W.mg_none_of X G b_tuple
    b_zip := PySem.W.mg_none_of X G b_zip
    g_MOST_BITS := ⟨_, _, PySem.W.mg_of X G g_MOST_BITS, (kval_of gk_MOST_BITS).choose_spec.1, (kval_of gk_MOST_BITS).choose_spec.2⟩
    g_ONE := ⟨_, _, PySem.W.mg_of X G g_ONE, (kval_of gk_ONE).choose_spec.1, (kval_of gk_ONE).choose_spec.2⟩
    g_ZERO := ⟨_, _, PySem.W.mg_of X G g_ZERO, (kval_of gk_ZERO).choose_spec.1, (kval_of gk_ZERO).choose_spec.2⟩
    x_InvalidBits := ⟨_, xe_InvalidBits, PySem.W.mg_of X G x_InvalidBits, xk_InvalidBits, xs_InvalidBits, xt_InvalidBits⟩
    x_InvalidCounts := ⟨_, xe_InvalidCounts, PySem.W.mg_of X G x_InvalidCounts, xk_InvalidCounts, xs_InvalidCounts, xt_InvalidCounts⟩
    sub := fun c h b e C Ch m1 m2 => by
      unfold subT at e
      split at e
      · rename_i z; obtain ⟨rfl, rfl⟩ := z; cases e; cases m1.symm.trans (PySem.W.mg_of X G x_InvalidBits); cases m2.symm.trans (PySem.W.mg_of X G x_InvalidCounts); exact p_0
      split at e
      · rename_i z; obtain ⟨rfl, rfl⟩ := z; cases e; cases m1.symm.trans (PySem.W.mg_of X G x_InvalidCounts); cases m2.symm.trans (PySem.W.mg_of X G x_InvalidCounts); exact p_1
      cases e }
  refine lawAt_of (fd := (PySem.W.fnOf "law" "law" (defArgs t_law) (defBody t_law) (defScope t_law) .none kV_law dc_law pm_law an_law (.ref co_law) ct_law)) (cs := [(co_law, P_law)]) (T := [(P_law, ("law.<locals>.<lambda>" : Str))]) (M := M_law) ?_ ?_ ?_ nol (fun s u => .of_eq rfl) ?_ hM fun base hB hN hTB => ?_
  · intro p hp; rw [List.mem_singleton.mp hp]; exact tb_law
  · intro p hp; rw [List.mem_singleton.mp hp]; exact nk_law
  · intro p hp; rw [List.mem_singleton.mp hp]; exact codeHd_mk X cl_law e11_law e18_law e7_law e9_law e10_law ne_law
  · intro p hp; rw [List.mem_singleton.mp hp]; exact ⟨_, List.mem_singleton.mpr rfl, rfl⟩
  · exact ok_law (Fx base) F_law_ (fun s us _ hl => match us, hl with | [_], _ => .of_eq rfl) (hTB _ (List.mem_singleton.mpr rfl)) (List.mem_singleton.mpr rfl) (fun p hp _ => by rw [List.mem_singleton.mp hp])
end K22

-- K22P
set_option Elab.async false
set_option linter.all false
/-! k22: mixtures of voices, over the rational numbers. -/
namespace K22
def said (a : Rat) (b : Bool) : Rat := if b then a else 1 - a
def shr : Rat → List Rat → List Bool → Rat
  | c, a :: as, b :: bs => shr (c * said a b) as bs
  | c, _, _ => c
def sm (l : List Rat) : Rat := l.foldl (· + ·) 0
theorem foldl_add (l : List Rat) (c : Rat) : l.foldl (· + ·) c = c + sm l := by
  unfold sm
  induction l generalizing c with
  | nil => simp; grind
  | cons x l ih => simp only [List.foldl_cons]; rw [ih, ih (0 + x)]; grind
theorem sm_nil : sm [] = 0 := rfl
theorem sm_cons (x : Rat) (l : List Rat) : sm (x :: l) = x + sm l := by
  show l.foldl (· + ·) (0 + x) = _
  rw [foldl_add]; grind
theorem sm_map_mul {α : Type} (c : Rat) (f : α → Rat) (l : List α) : sm (l.map fun a => c * f a) = c * sm (l.map f) := by
  induction l with
  | nil => simp [sm_nil]
  | cons x l ih => simp only [List.map_cons, sm_cons, ih]; grind
theorem sm_map_add {α : Type} (f g : α → Rat) (l : List α) : sm (l.map fun a => f a + g a) = sm (l.map f) + sm (l.map g) := by
  induction l with
  | nil => simp [sm_nil]; grind
  | cons x l ih => simp only [List.map_cons, sm_cons, ih]; grind
theorem sm_map_sub {α : Type} (f g : α → Rat) (l : List α) : sm (l.map fun a => f a - g a) = sm (l.map f) - sm (l.map g) := by
  induction l with
  | nil => simp [sm_nil]; grind
  | cons x l ih => simp only [List.map_cons, sm_cons, ih]; grind
theorem sm_const {α : Type} (c : Rat) (l : List α) : sm (l.map fun _ => c) = c * l.length := by
  induction l with
  | nil => simp [sm_nil]
  | cons x l ih => simp only [List.map_cons, sm_cons, ih, List.length_cons]; push_cast; grind
theorem sm_pos {l : List Rat} (h : ∀ x ∈ l, 0 < x) (hn : l ≠ []) : 0 < sm l := by
  induction l with
  | nil => exact absurd rfl hn
  | cons x l ih =>
    rw [sm_cons]
    have hx := h x List.mem_cons_self
    by_cases e : l = []
    · subst e; rw [sm_nil]; grind
    · have := ih (fun y hy => h y (List.mem_cons_of_mem _ hy)) e; grind
theorem sm_nonneg {l : List Rat} (h : ∀ x ∈ l, 0 ≤ x) : 0 ≤ sm l := by
  induction l with
  | nil => rw [sm_nil]; grind
  | cons x l ih =>
    rw [sm_cons]
    have hx := h x List.mem_cons_self
    have := ih (fun y hy => h y (List.mem_cons_of_mem _ hy)); grind
theorem shr_mul (c : Rat) (as : List Rat) (bs : List Bool) : shr c as bs = c * shr 1 as bs := by
  induction as generalizing c bs with
  | nil => simp [shr]
  | cons a as ih =>
    cases bs with
    | nil => simp [shr]
    | cons b bs => simp only [shr]; rw [ih, ih (1 * said a b)]; grind
/-- a voice's share of the first k bits -/
def ah (k : Nat) (row : List Rat) (bits : List Bool) : Rat := shr 1 (row.take k) (bits.take k)
theorem ah_zero (row : List Rat) (bits : List Bool) : ah 0 row bits = 1 := by simp [ah, shr]
theorem shr_snoc (c : Rat) (as : List Rat) (bs : List Bool) (a : Rat) (b : Bool) (h : as.length = bs.length) : shr c (as ++ [a]) (bs ++ [b]) = shr c as bs * said a b := by
  induction as generalizing c bs with
  | nil => cases bs with
    | nil => simp [shr]
    | cons _ _ => simp at h
  | cons x as ih =>
    cases bs with
    | nil => simp at h
    | cons y bs => simp only [List.cons_append, shr]; exact ih _ _ (by simpa using h)
theorem ah_succ {k : Nat} {row : List Rat} {bits : List Bool} (h1 : k < row.length) (h2 : k < bits.length) : ah (k + 1) row bits = ah k row bits * said row[k] bits[k] := by
  unfold ah
  rw [List.take_succ_eq_append_getElem h1, List.take_succ_eq_append_getElem h2]
  exact shr_snoc _ _ _ _ _ (by simp; omega)
theorem ah_all {k : Nat} {row : List Rat} {bits : List Bool} (h1 : row.length ≤ k) (h2 : bits.length ≤ k) : ah k row bits = shr 1 row bits := by
  unfold ah
  rw [List.take_of_length_le h1, List.take_of_length_le h2]
/-- what the mixture says next -/
def sayN (voices : List (List Rat)) (bits : List Bool) (k : Nat) : Rat := sm (voices.map fun row => ah k row bits * row.getD k 0) / sm (voices.map fun row => ah k row bits)
def In (row : List Rat) : Prop := ∀ a ∈ row, 0 < a ∧ a < 1
theorem said_pos {a : Rat} {b : Bool} (h : 0 < a ∧ a < 1) : 0 < said a b := by unfold said; split <;> grind
theorem shr_pos {c : Rat} {as : List Rat} {bs : List Bool} (hc : 0 < c) (h : In as) : 0 < shr c as bs := by
  induction as generalizing c bs with
  | nil => simpa [shr] using hc
  | cons a as ih =>
    cases bs with
    | nil => simpa [shr] using hc
    | cons b bs => exact ih (Rat.mul_pos hc (said_pos (h a List.mem_cons_self))) fun x hx => h x (List.mem_cons_of_mem _ hx)
theorem ah_pos {k : Nat} {row : List Rat} {bits : List Bool} (h : In row) : 0 < ah k row bits := shr_pos (by decide +kernel) fun x hx => h x (List.mem_of_mem_take hx)
theorem sah_pos {voices : List (List Rat)} {bits : List Bool} (k : Nat) (hv : ∀ row ∈ voices, In row) (hn : voices ≠ []) : 0 < sm (voices.map fun row => ah k row bits) := by
  refine sm_pos (fun x hx => ?_) (by simpa using hn)
  obtain ⟨row, hr, rfl⟩ := List.mem_map.mp hx
  exact ah_pos (hv row hr)
theorem map_congr' {α β : Type} {f g : α → β} {l : List α} (h : ∀ a ∈ l, f a = g a) : l.map f = l.map g := List.map_congr_left h
/-- .. one after the other gives just its share -/
theorem say_step {voices : List (List Rat)} {bits : List Bool} {k : Nat} (hv : ∀ row ∈ voices, In row) (hl : ∀ row ∈ voices, row.length = bits.length) (hn : voices ≠ []) (hk : k < bits.length) :
    sm (voices.map fun row => ah k row bits) * said (sayN voices bits k) bits[k] = sm (voices.map fun row => ah (k + 1) row bits) := by
  have hp := sah_pos (bits := bits) k hv hn
  have e : voices.map (fun row => ah (k + 1) row bits) = voices.map fun row => ah k row bits * said (row.getD k 0) bits[k] := map_congr' fun row hr => by
    have h1 : k < row.length := by rw [hl row hr]; exact hk
    rw [ah_succ h1 hk]
    simp [h1]
  rw [e]
  unfold sayN said
  cases hb : bits[k] with
  | true => simp only [if_true]; grind
  | false =>
    simp only [Bool.false_eq_true, if_false]
    have e2 : (voices.map fun row => ah k row bits * (1 - row.getD k 0)) = voices.map fun row => ah k row bits - ah k row bits * row.getD k 0 := map_congr' fun row _ => by grind
    rw [e2, sm_map_sub]
    grind
theorem said_all {voices : List (List Rat)} {bits : List Bool} (hv : ∀ row ∈ voices, In row) (hl : ∀ row ∈ voices, row.length = bits.length) (hn : voices ≠ []) :
    ∀ k, k ≤ bits.length → shr 1 ((List.range k).map (sayN voices bits)) (bits.take k) * voices.length = sm (voices.map fun row => ah k row bits) := by
  intro k
  induction k with
  | zero =>
    intro _
    simp only [ah_zero]
    rw [sm_const]; simp [shr]
  | succ k ih =>
    intro hk
    have hk' : k < bits.length := hk
    rw [List.range_succ, List.map_append, List.map_cons, List.map_nil, List.take_succ_eq_append_getElem hk', shr_snoc _ _ _ _ _ (by simp; omega), ← say_step hv hl hn hk', ← ih (by omega)]
    grind
/-! ### sums over numbers -/
def su (f : Nat → Rat) : Nat → Rat
  | 0 => 0
  | n + 1 => su f n + f n
theorem sm_append (a b : List Rat) : sm (a ++ b) = sm a + sm b := by
  induction a with
  | nil => simp [sm_nil]; grind
  | cons x a ih => simp only [List.cons_append, sm_cons, ih]; grind
theorem sm_range (f : Nat → Rat) (n : Nat) : sm ((List.range n).map f) = su f n := by
  induction n with
  | zero => rfl
  | succ n ih => rw [List.range_succ, List.map_append, sm_append, ih]; simp only [List.map_cons, List.map_nil, sm_cons, sm_nil, su]; grind
theorem su_congr {f g : Nat → Rat} {n : Nat} (h : ∀ k, k < n → f k = g k) : su f n = su g n := by
  induction n with
  | zero => rfl
  | succ n ih => simp only [su]; rw [ih fun k hk => h k (by omega), h n (by omega)]
theorem su_add (f g : Nat → Rat) (n : Nat) : su (fun k => f k + g k) n = su f n + su g n := by
  induction n with
  | zero => simp [su]; grind
  | succ n ih => simp only [su]; rw [ih]; grind
theorem su_mul (c : Rat) (f : Nat → Rat) (n : Nat) : su (fun k => c * f k) n = c * su f n := by
  induction n with
  | zero => simp [su]
  | succ n ih => simp only [su]; rw [ih]; grind
theorem su_swap (f : Nat → Nat → Rat) (n m : Nat) : su (fun j => su (fun k => f j k) m) n = su (fun k => su (fun j => f j k) n) m := by
  induction n with
  | zero => simp only [su]; rw [show su (fun _ => (0 : Rat)) m = 0 from by induction m with | zero => rfl | succ m ih => simp only [su]; rw [ih]; grind]
  | succ n ih => simp only [su]; rw [ih, su_add]
theorem su_pick (c : Rat) (k : Nat) : ∀ n : Nat, su (fun j => if k = j then c else 0) n = if k < n then c else 0
  | 0 => by simp [su]
  | n + 1 => by
    simp only [su]; rw [su_pick c k n]
    rcases Nat.lt_trichotomy k n with h | h | h
    · rw [if_pos h, if_neg (by omega), if_pos (by omega)]; grind
    · rw [if_neg (by omega), if_pos h, if_pos (by omega)]; grind
    · rw [if_neg (by omega), if_neg (by omega), if_neg (by omega)]; grind
section
variable (m : Nat) (rate : Rat) (V : Nat → Nat → Rat)
def stp : Option Nat → Nat → Rat
  | none, _ => 1 / (m : Rat)
  | some j, k => if k = j then 1 - rate else rate / ((m : Rat) - 1)
def sw : List Bool → Nat → Option Nat → Rat
  | [], _, _ => 1
  | b :: bs, at_, now => su (fun k => stp m rate now k * said (V k at_) b * sw bs (at_ + 1) (some k)) m
def wst (w : Nat → Rat) (k : Nat) : Rat := (1 - rate) * w k + rate / ((m : Rat) - 1) * (su w m - w k)
def sg : List Bool → Nat → (Nat → Rat) → Rat
  | [], _, w => su w m
  | b :: bs, at_, w => sg bs (at_ + 1) fun k => (if at_ = 0 then w k else wst m rate w k) * said (V k at_) b
theorem sg_pos : ∀ (bs : List Bool) (at_ : Nat) (w : Nat → Rat), 0 < at_ → sg m rate V bs at_ w = su (fun j => w j * sw m rate V bs at_ (some j)) m
  | [], at_, w, _ => by simp only [sg, sw]; exact su_congr fun k _ => by grind
  | b :: bs, at_, w, h => by
    simp only [sg, sw]
    rw [sg_pos bs (at_ + 1) _ (by omega)]
    rw [su_congr (g := fun j => su (fun k => w j * (stp m rate (some j) k * said (V k at_) b * sw m rate V bs (at_ + 1) (some k))) m) (f := fun j => w j * _) fun j _ => (su_mul _ _ _).symm, su_swap]
    refine su_congr fun k hk => ?_
    rw [su_congr (g := fun j => said (V k at_) b * sw m rate V bs (at_ + 1) (some k) * (w j * stp m rate (some j) k)) (f := fun j => w j * _) fun j _ => by grind, su_mul]
    have e : su (fun j => w j * stp m rate (some j) k) m = wst m rate w k := by
      rw [su_congr (g := fun j => rate / ((m : Rat) - 1) * w j + if k = j then (1 - rate - rate / ((m : Rat) - 1)) * w k else 0) fun j _ => by
        simp only [stp]; split
        · rename_i e; subst e; grind
        · grind]
      rw [su_add, su_mul, su_pick, if_pos hk]
      unfold wst; grind
    rw [e, if_neg (by omega)]
    grind
theorem sg_all (bs : List Bool) (h : 0 < m) : sg m rate V bs 0 (fun _ => 1 / (m : Rat)) = sw m rate V bs 0 none := by
  cases bs with
  | nil =>
    simp only [sg, sw]
    rw [← sm_range, sm_const]; simp
    have : (m : Rat) ≠ 0 := by
      intro e
      have : m = 0 := by exact_mod_cast e
      omega
    grind
  | cons b bs =>
    simp only [sg, sw]
    rw [sg_pos m rate V bs 1 _ (by omega)]
    exact su_congr fun k _ => by simp only [stp, if_true]
end
/-! ### bits -/
def IsBf (a : Rat) (n : Nat) : Prop := 1 ≤ a * 2 ^ n ∧ ∀ k, k < n → a * 2 ^ k < 1
theorem IsBf.uniq {a : Rat} {n k : Nat} (h : IsBf a n) (h2 : IsBf a k) : n = k := by
  rcases Nat.lt_trichotomy n k with l | l | l
  · have := h2.2 n l; have := h.1; grind
  · exact l
  · have := h.2 k l; have := h2.1; grind
theorem pow2_pos (n : Nat) : (0 : Rat) < 2 ^ n := by
  induction n with
  | zero => simp; decide +kernel
  | succ n ih => rw [Rat.pow_succ]; grind
theorem rpow_add (a : Rat) (k l : Nat) : a ^ (k + l) = a ^ k * a ^ l := by
  induction l with
  | zero => simp
  | succ l ih => rw [← Nat.add_assoc, Rat.pow_succ, ih, Rat.pow_succ]; grind
theorem IsBf.le {a b c : Rat} {n k l : Nat} (h : IsBf a n) (h2 : IsBf b k) (h3 : IsBf c l) (hb : 0 < b) (hc : 0 < c) (hle : b * c ≤ a) : n ≤ k + l := by
  rcases Nat.lt_or_ge (k + l) n with g | g
  · exfalso
    have h1 := h.2 _ g
    have p := pow2_pos k; have p2 := pow2_pos l
    have e : (2 : Rat) ^ (k + l) = 2 ^ k * 2 ^ l := rpow_add _ _ _
    rw [e] at h1
    have x1 := h2.1; have x2 := h3.1
    have y : (b * 2 ^ k) * (c * 2 ^ l) ≤ a * (2 ^ k * 2 ^ l) := by
      have := Rat.mul_le_mul_of_nonneg_right hle (Rat.le_of_lt (Rat.mul_pos p p2))
      grind
    have z : 1 ≤ (b * 2 ^ k) * (c * 2 ^ l) := by
      have z1 : (1 : Rat) * (c * 2 ^ l) ≤ (b * 2 ^ k) * (c * 2 ^ l) := Rat.mul_le_mul_of_nonneg_right x1 (Rat.le_of_lt (Rat.mul_pos hc p2))
      grind
    grind
  · exact g
end K22

-- DM
set_option Elab.async false
set_option linter.all false
set_option maxRecDepth 100000
/-! Mirrors: what they come to, in plain Lean. -/
namespace DL
open PySem PySem.Spec L2
/-! ### evaluation -/
theorem atI_nat {α : Type} {xs : List α} {k : Nat} : atI xs (k : Int) = xs[k]? := by
  unfold atI ixN
  by_cases h : k < xs.length
  · have h1 : (0 : Int) ≤ k ∧ (k : Int) < xs.length := ⟨by omega, by exact_mod_cast h⟩
    simp [h1]
  · rw [List.getElem?_eq_none (by omega)]
    have h1 : ¬ ((0 : Int) ≤ k ∧ (k : Int) < xs.length) := fun z => h (by exact_mod_cast z.2)
    have h2 : ¬ (-(xs.length : Int) ≤ k ∧ (k : Int) < 0) := fun z => by omega
    simp [h1, h2]; omega
@[simp] theorem idx_tup0 (a : D) (l : List D) : idxD (.tup (a :: l)) (.int 0) = some a := by
  show atI _ ((0 : Nat) : Int) = _
  rw [atI_nat]; rfl
@[simp] theorem idx_tup1 (a b : D) (l : List D) : idxD (.tup (a :: b :: l)) (.int 1) = some b := by
  show atI _ ((1 : Nat) : Int) = _
  rw [atI_nat]; rfl
@[simp] theorem idx_tup2 (a b c : D) (l : List D) : idxD (.tup (a :: b :: c :: l)) (.int 2) = some c := by
  show atI _ ((2 : Nat) : Int) = _
  rw [atI_nat]; rfl
theorem idx_tup {xs : List D} {k : Nat} {d : D} (h : xs[k]? = some d) : idxD (.tup xs) (.int k) = some d := by
  show atI _ _ = _
  rw [atI_nat, h]
theorem idx_lst {xs : List D} {k : Nat} {d : D} (h : xs[k]? = some d) : idxD (.lst xs) (.int k) = some d := by
  show atI _ _ = _
  rw [atI_nat, h]
theorem idx_str {xs : List Nat} {k : Nat} {d : Nat} (hl : xs.length ≤ sizeLine) (h : xs[k]? = some d) : idxD (.str xs) (.int k) = some (.str [d]) := by
  show (if xs.length ≤ sizeLine then _ else _) = _
  rw [if_pos hl, atI_nat, h]; rfl
@[simp] theorem mul_def {i j : Int} (h : MulOk i j) : mulM (.int i) (.int j) = some (.int (i * j)) := if_pos (chk_of h)
theorem mul_l {i j : Int} (h : -(2 ^ 64) < i) (h2 : i < 2 ^ 64) : mulM (.int i) (.int j) = some (.int (i * j)) := mul_def (.inl ⟨h, h2⟩)
theorem mul_r {i j : Int} (h : -(2 ^ 64) < j) (h2 : j < 2 ^ 64) : mulM (.int i) (.int j) = some (.int (i * j)) := mul_def (.inr (.inl ⟨h, h2⟩))
theorem mul_b {i j : Int} (h : i.natAbs < 2 ^ 60000000) (h2 : j.natAbs < 2 ^ 60000000) : mulM (.int i) (.int j) = some (.int (i * j)) := mul_def (.inr (.inr ⟨small_of _ h (Nat.le_refl _), small_of _ h2 (Nat.le_refl _)⟩))
@[simp] theorem add_int (i j : Int) : addD (.int i) (.int j) = some (.int (i + j)) := rfl
@[simp] theorem iadd_int (i j : Int) : iaddD (.int i) (.int j) = some (.int (i + j)) := rfl
@[simp] theorem sub_int (i j : Int) : subD (.int i) (.int j) = some (.int (i - j)) := rfl
@[simp] theorem neg_int (i : Int) : negD (.int i) = some (.int (-i)) := rfl
@[simp] theorem abs_int (i : Int) : absD (.int i) = some (.int (i.natAbs : Int)) := rfl
@[simp] theorem int_int (i : Int) : intD (.int i) = some (.int i) := rfl
theorem mod_int {i j : Int} (h : 0 < j) : modD (.int i) (.int j) = some (.int (i % j)) := if_pos h
theorem fdiv_int {i j : Int} (h : 0 < j) (h2 : j.natAbs < 2 ^ 9000) : fdivD (.int i) (.int j) = some (.int (i / j)) := if_pos (chk_of ⟨h, h2⟩)
@[simp] theorem lt_int (i j : Int) : ltD (.int i) (.int j) = some (decide (i < j)) := rfl
@[simp] theorem le_int (i j : Int) : leD (.int i) (.int j) = some (decide (i ≤ j)) := rfl
@[simp] theorem gt_int (i j : Int) : gtD (.int i) (.int j) = some (decide (j < i)) := rfl
@[simp] theorem ge_int (i j : Int) : geD (.int i) (.int j) = some (decide (j ≤ i)) := rfl
@[simp] theorem eq_int (i j : Int) : eqD (.int i) (.int j) = some (i == j) := rfl
@[simp] theorem ne_int (i j : Int) : neD (.int i) (.int j) = some (!(i == j)) := rfl
@[simp] theorem eq_str (a b : List Nat) : eqD (.str a) (.str b) = some (a == b) := rfl
@[simp] theorem ne_str (a b : List Nat) : neD (.str a) (.str b) = some (!(a == b)) := rfl
@[simp] theorem tru_bl (b : Bool) : truD (.bl b) = some b := rfl
@[simp] theorem len_lst (xs : List D) : lenD (.lst xs) = some (.int xs.length) := rfl
@[simp] theorem len_tup (xs : List D) : lenD (.tup xs) = some (.int xs.length) := rfl
theorem len_str {s : List Nat} (h : s.length ≤ sizeLine) : lenD (.str s) = some (.int s.length) := if_pos h
@[simp] theorem iter_lst (xs : List D) : iterD (.lst xs) = some xs := rfl
@[simp] theorem iter_tup (xs : List D) : iterD (.tup xs) = some xs := rfl
@[simp] theorem tup_lst (xs : List D) : tupD (.lst xs) = some (.tup xs) := rfl
@[simp] theorem tup_tup (xs : List D) : tupD (.tup xs) = some (.tup xs) := rfl
@[simp] theorem tup2_two {α : Type} (z : α) (a b : D) (k : D → D → α) : tup2 z (.tup [a, b]) k = k a b := rfl
@[simp] theorem tup3_three {α : Type} (z : α) (a b c : D) (k : D → D → D → α) : tup3 z (.tup [a, b, c]) k = k a b c := rfl
@[simp] theorem ofR_ok' {α τ ρ : Type} (a : α) (f : α → O τ ρ) : O.ofR (R.ok a) f = f a := rfl
@[simp] theorem ofR_ex' {α τ ρ : Type} (c : Str) (f : α → O τ ρ) : O.ofR (R.ex c) f = .xc c := rfl
@[simp] theorem seq_nx' {τ ρ τ' : Type} (s : τ) (f : τ → O τ' ρ) : O.seq (.nx s) f = f s := rfl
@[simp] theorem seq_rt' {τ ρ τ' : Type} (d : D) (us : List D) (f : τ → O τ' ρ) : O.seq (.rt d us : O τ ρ) f = .rt d us := rfl
@[simp] theorem seq_xc' {τ ρ τ' : Type} (c : Str) (f : τ → O τ' ρ) : O.seq (.xc c : O τ ρ) f = .xc c := rfl
@[simp] theorem toR_nx {τ ρ : Type} (s : τ) : (O.nx s : O τ ρ).toR = .ok .non := rfl
@[simp] theorem toR_rt {τ ρ : Type} (d : D) (us : List D) : (O.rt d us : O τ ρ).toR = .ok d := rfl
@[simp] theorem toR_xc {τ ρ : Type} (c : Str) : (O.xc c : O τ ρ).toR = .ex c := rfl
theorem rng1_nat {n : Nat} (h : n ≤ sizeLine) : rng1 (.int n) = some ((List.range n).map fun k => .int (k : Int)) := by
  have hs : sizeLine < 2 ^ 62 := by decide
  show (if chk _ then _ else _) = _
  rw [if_pos (chk_of ⟨⟨by omega, by omega⟩, by simpa using h⟩)]
  unfold rangeL
  simp
theorem rep_one {n : Nat} {z : D} (h : n ≤ sizeLine) : repL (.lst [z]) (.int n) = some (.lst (List.replicate n z)) := by
  have hs : sizeLine < 2 ^ 62 := by decide
  have h1 : -(2 ^ 63) ≤ (n : Int) := by omega
  have h2 : (n : Int) < 2 ^ 63 := by omega
  have h3 : [z].length * (n : Int).toNat ≤ sizeLine := by rw [List.length_singleton, Nat.one_mul, Int.toNat_natCast]; exact h
  have e : repL (.lst [z]) (.int n) = if -(2 ^ 63) ≤ (n : Int) ∧ (n : Int) < 2 ^ 63 ∧ [z].length * (n : Int).toNat ≤ sizeLine then some (.lst (List.replicate (n : Int).toNat [z]).flatten) else none := by unfold repL; rfl
  rw [e, if_pos ⟨h1, h2, h3⟩, Int.toNat_natCast, List.flatten_replicate_singleton]
/-! .. where the kernel must not compute: rewritten, not reduced -/
theorem bok {α β : Type} (a : α) (f : α → R β) : (R.ok a).bind f = f a := Eq.trans (congrArg (fun z => z.bind f) (Eq.refl (R.ok a))) (Eq.refl (f a))
theorem lok {α : Type} (a : α) : R.lift (some a) = .ok a := Eq.trans (congrArg R.lift (Eq.refl (some a))) (Eq.refl (R.ok a))
theorem ook {α τ ρ : Type} (a : α) (f : α → O τ ρ) : O.ofR (R.ok a) f = f a := Eq.trans (congrArg (fun z => O.ofR z f) (Eq.refl (R.ok a))) (Eq.refl (f a))
/-! ### loops -/
theorem forO_go {σ ρ : Type} (f : D → σ → O σ σ) : ∀ (ds : List D) (S : Nat → σ), (∀ k (h : k < ds.length), f ds[k] (S k) = .nx (S (k + 1))) → (forO ds (S 0) f : O σ ρ) = .nx (S ds.length)
  | [], S, _ => rfl
  | d :: ds, S, h => by
    unfold forO
    have h0 := h 0 (by simp)
    rw [show (d :: ds)[0] = d from rfl] at h0
    rw [h0]
    show forO ds (S 1) f = _
    have := forO_go (ρ := ρ) f ds (fun k => S (k + 1)) fun k hk => by
      have := h (k + 1) (by simpa using hk)
      simpa using this
    simpa using this
/-- a loop over a list's images: the state folds -/
theorem forO_map {σ ρ α : Type} (f : D → σ → O σ σ) (g : α → D) (F : σ → α → σ) : ∀ (l : List α) (s : σ), (∀ a ∈ l, ∀ s, f (g a) s = .nx (F s a)) → (forO (l.map g) s f : O σ ρ) = .nx (l.foldl F s)
  | [], s, _ => rfl
  | a :: l, s, h => by
    rw [List.map_cons]
    unfold forO
    rw [h a List.mem_cons_self s]
    exact forO_map f g F l _ fun b hb s => h b (List.mem_cons_of_mem _ hb) s
/-- .. with what stays true of the state, named by plain data -/
theorem forO_inv {σ ρ α β : Type} (f : D → σ → O σ σ) (g : α → D) (R : β → σ) (F : β → α → β) (I : Nat → β → Prop) (L : Nat) : ∀ (l : List α) (n : Nat) (b : β), n + l.length ≤ L → I n b → (∀ a ∈ l, ∀ n b, n < L → I n b → f (g a) (R b) = .nx (R (F b a)) ∧ I (n + 1) (F b a)) → (forO (l.map g) (R b) f : O σ ρ) = .nx (R (l.foldl F b)) ∧ I (n + l.length) (l.foldl F b)
  | [], n, b, _, h0, _ => ⟨rfl, h0⟩
  | a :: l, n, b, hL, h0, h => by
    rw [List.length_cons] at hL
    obtain ⟨h1, h2⟩ := h a List.mem_cons_self n b (by omega) h0
    rw [List.map_cons]
    unfold forO
    rw [h1]
    have := forO_inv (ρ := ρ) f g R F I L l (n + 1) (F b a) (by omega) h2 fun c hc => h c (List.mem_cons_of_mem _ hc)
    rw [List.length_cons, show n + (l.length + 1) = n + 1 + l.length by omega]
    exact this
theorem compM_map {α β : Type} (f : D → R (Option β)) (g : α → D) (F : α → β) : ∀ (l : List α), (∀ a ∈ l, f (g a) = .ok (some (F a))) → compM (l.map g) f = .ok (l.map F)
  | [], _ => rfl
  | a :: l, h => by
    rw [List.map_cons]
    unfold compM
    rw [h a List.mem_cons_self, compM_map f g F l fun b hb => h b (List.mem_cons_of_mem _ hb)]
    rfl
/-- .. with tests -/
theorem compM_filter {α β : Type} (f : D → R (Option β)) (g : α → D) (F : α → Option β) : ∀ (l : List α), (∀ a ∈ l, f (g a) = .ok (F a)) → compM (l.map g) f = .ok (l.filterMap F)
  | [], _ => rfl
  | a :: l, h => by
    rw [List.map_cons]
    unfold compM
    rw [h a List.mem_cons_self, compM_filter f g F l fun b hb => h b (List.mem_cons_of_mem _ hb)]
    simp only [R.nx_ok, R.bind_ok, List.filterMap_cons]
    cases F a <;> rfl
/-- a loop with a measure -/
theorem whileO_inv {σ ρ : Type} (c : σ → R Bool) (f : σ → O σ σ) (I : σ → Prop) (μ : σ → Nat) (Q : σ → Prop) (h : ∀ s, I s → (c s = .ok false ∧ Q s) ∨ (c s = .ok true ∧ ∃ s', f s = .nx s' ∧ I s' ∧ μ s' < μ s)) : ∀ (n : Nat) (s : σ), I s → μ s < n → ∃ s', (whileO n s c f : O σ ρ) = .nx s' ∧ Q s'
  | 0, s, _, hn => by omega
  | n + 1, s, hI, hn => by
    rcases h s hI with ⟨h1, h2⟩ | ⟨h1, s', h2, h3, h4⟩
    · exact ⟨s, by unfold whileO; rw [h1]; rfl, h2⟩
    · obtain ⟨t, h5, h6⟩ := whileO_inv (ρ := ρ) c f I μ Q h n s' h3 (by omega)
      exact ⟨t, by unfold whileO; rw [h1, h2]; exact h5, h6⟩
theorem while_toR {σ ρ τ' : Type} {c : σ → R Bool} {f : σ → O σ σ} {n : Nat} {s : σ} {g : σ → O τ' ρ} {r : R D} (I : σ → Prop) (μ : σ → Nat) (Q : σ → Prop) (hI : I s) (hn : μ s < n) (h : ∀ s, I s → (c s = .ok false ∧ Q s) ∨ (c s = .ok true ∧ ∃ s', f s = .nx s' ∧ I s' ∧ μ s' < μ s)) (hk : ∀ s, Q s → (g s).toR = r) : ((whileO n s c f : O σ ρ).seq g).toR = r := by
  obtain ⟨s', h1, h2⟩ := whileO_inv (ρ := ρ) c f I μ Q h n s hI hn
  rw [h1]; exact hk s' h2
theorem while_eq {σ ρ τ' : Type} {c : σ → R Bool} {f : σ → O σ σ} {n : Nat} {s : σ} {g : σ → O τ' ρ} {r : O τ' ρ} (I : σ → Prop) (μ : σ → Nat) (Q : σ → Prop) (hI : I s) (hn : μ s < n) (h : ∀ s, I s → (c s = .ok false ∧ Q s) ∨ (c s = .ok true ∧ ∃ s', f s = .nx s' ∧ I s' ∧ μ s' < μ s)) (hk : ∀ s, Q s → g s = r) : ((whileO n s c f : O σ ρ).seq g) = r := by
  obtain ⟨s', h1, h2⟩ := whileO_inv (ρ := ρ) c f I μ Q h n s hI hn
  rw [h1]; exact hk s' h2
theorem for_toR {σ ρ τ' α β : Type} {f : D → σ → O σ σ} {gd : α → D} {l : List α} {s : σ} {g : σ → O τ' ρ} {r : R D} (R : β → σ) (F : β → α → β) (I : Nat → β → Prop) (b : β) (hs : s = R b) (h0 : I 0 b) (h : ∀ a ∈ l, ∀ n b, n < l.length → I n b → f (gd a) (R b) = .nx (R (F b a)) ∧ I (n + 1) (F b a)) (hk : I l.length (l.foldl F b) → (g (R (l.foldl F b))).toR = r) : ((forO (l.map gd) s f : O σ ρ).seq g).toR = r := by
  obtain ⟨h1, h2⟩ := forO_inv (ρ := ρ) f gd R F I l.length l 0 b (by omega) h0 h
  rw [hs, h1]; exact hk (by simpa using h2)
theorem for_eq {σ ρ τ' α β : Type} {f : D → σ → O σ σ} {gd : α → D} {l : List α} {s : σ} {g : σ → O τ' ρ} {r : O τ' ρ} (R : β → σ) (F : β → α → β) (I : Nat → β → Prop) (b : β) (hs : s = R b) (h0 : I 0 b) (h : ∀ a ∈ l, ∀ n b, n < l.length → I n b → f (gd a) (R b) = .nx (R (F b a)) ∧ I (n + 1) (F b a)) (hk : I l.length (l.foldl F b) → g (R (l.foldl F b)) = r) : ((forO (l.map gd) s f : O σ ρ).seq g) = r := by
  obtain ⟨h1, h2⟩ := forO_inv (ρ := ρ) f gd R F I l.length l 0 b (by omega) h0 h
  rw [hs, h1]; exact hk (by simpa using h2)
/-- .. by places: the state before the k-th turn -/
theorem forR_toR {σ ρ τ' : Type} {f : D → σ → O σ σ} {ds : List D} {s : σ} {g : σ → O τ' ρ} {r : R D} (S : Nat → σ) (hs : s = S 0) (h : ∀ k (h : k < ds.length), f ds[k] (S k) = .nx (S (k + 1))) (hk : (g (S ds.length)).toR = r) : ((forO ds s f : O σ ρ).seq g).toR = r := by
  rw [hs, forO_go f ds S h]; exact hk
theorem forR_eq {σ ρ τ' : Type} {f : D → σ → O σ σ} {ds : List D} {s : σ} {g : σ → O τ' ρ} {r : O τ' ρ} (S : Nat → σ) (hs : s = S 0) (h : ∀ k (h : k < ds.length), f ds[k] (S k) = .nx (S (k + 1))) (hk : g (S ds.length) = r) : ((forO ds s f : O σ ρ).seq g) = r := by
  rw [hs, forO_go f ds S h]; exact hk
theorem zip_map {α : Type} (f g : α → D) (l : List α) : zipL (l.map f) (l.map g) = l.map fun a => .tup [f a, g a] := by
  induction l with
  | nil => rfl
  | cons a l ih => simp only [List.map_cons, zipL, ih]
theorem enum_eq : ∀ (xs : List D) (i : Nat), enumL i xs = (List.range xs.length).map fun k => .tup [.int ((i + k : Nat) : Int), xs.getD k .non]
  | [], i => rfl
  | x :: xs, i => by
    rw [enumL, enum_eq xs (i + 1), List.length_cons, List.range_succ_eq_map, List.map_cons, List.map_map]
    simp only [Function.comp_def, List.getD_cons_succ, List.getD_cons_zero, Nat.add_zero]
    refine congrArg _ (List.map_congr_left fun k _ => ?_)
    rw [show i + 1 + k = i + k.succ by omega]
theorem zip_map2 {α β : Type} (f : α → D) (g : β → D) : ∀ (l : List α) (k : List β), zipL (l.map f) (k.map g) = (l.zip k).map fun p => .tup [f p.1, g p.2]
  | [], _ => by simp [zipL]
  | _ :: _, [] => by simp [zipL]
  | a :: l, b :: k => by simp only [List.map_cons, zipL, List.zip_cons_cons, zip_map2 f g l k]
theorem iter_str {s : List Nat} (h : s.length ≤ sizeLine) : iterD (.str s) = some (s.map fun c => .str [c]) := by
  unfold iterD
  first | rw [if_pos h] | simp [h]
theorem zipD_some {x y : D} {xs ys : List D} (hx : iterD x = some xs) (hy : iterD y = some ys) (h : (zipL xs ys).length ≤ sizeLine) : zipD x y = some (zipL xs ys) := by
  unfold zipD lined
  rw [hx, hy]
  exact if_pos h
theorem enumD_some {x : D} {xs : List D} (hx : iterD x = some xs) (h : xs.length ≤ sizeLine) : enumD x = some (enumL 0 xs) := by
  unfold enumD lined
  rw [hx]
  have : (enumL 0 xs).length = xs.length := by rw [enum_eq]; simp
  exact if_pos (by rw [this]; exact h)
theorem enumL_get2 {xs : List D} {k : Nat} (h : k < (enumL 0 xs).length) (h2 : k < xs.length) : (enumL 0 xs)[k] = .tup [.int (k : Int), xs[k]] := by
  have e := enum_eq xs 0
  have : (enumL 0 xs)[k]? = some (.tup [.int (k : Int), xs[k]]) := by
    rw [e, List.getElem?_map, List.getElem?_range h2]
    simp [h2]
  rw [List.getElem?_eq_getElem h] at this
  exact Option.some.inj this
theorem enumL_len2 (xs : List D) : (enumL 0 xs).length = xs.length := by rw [enum_eq]; simp
theorem blsOf_map2 (l : List Bool) : blsOf (l.map D.bl) = some l := by
  induction l with
  | nil => rfl
  | cons x l ih => simp [blsOf, ih]
theorem all_map {α : Type} (l : List α) (f : α → Bool) : allD (.lst (l.map fun a => D.bl (f a))) = some (.bl (l.all f)) := by
  have : (l.map fun a => D.bl (f a)) = (l.map f).map D.bl := by simp
  rw [this]
  show ((some ((l.map f).map D.bl)).bind blsOf).map _ = _
  simp only [Option.bind_some, blsOf_map2, Option.map_some]
  simp
theorem eqvs_map {α : Type} (f : α → D) (g : α → D) (h : ∀ a, eqv (f a) (g a) = true) : ∀ l : List α, eqvs (l.map f) (l.map g) = true
  | [] => rfl
  | a :: l => by simp [eqvs, h a, eqvs_map f g h l]
mutual
theorem eqv_self : ∀ d : D, shal 60 d = true ∨ (∃ n, shal n d = true) → eqv d d = true
  | .non, _ => rfl
  | .bl b, _ => by simp [eqv]
  | .int i, _ => by simp [eqv]
  | .str s, _ => by simp [eqv]
  | .tup xs, h => by
    have : ∃ n, shals n xs = true := by
      rcases h with h | ⟨n, h⟩
      · exact ⟨59, h⟩
      · cases n with
        | zero => cases h
        | succ n => exact ⟨n, h⟩
    simp [eqv, eqvs_self xs this]
  | .lst xs, h => by
    have : ∃ n, shals n xs = true := by
      rcases h with h | ⟨n, h⟩
      · exact ⟨59, h⟩
      · cases n with
        | zero => cases h
        | succ n => exact ⟨n, h⟩
    simp [eqv, eqvs_self xs this]
  | .dic _, h => by rcases h with h | ⟨n, h⟩ <;> first | cases h | (cases n <;> cases h)
  | .ins _ _, h => by rcases h with h | ⟨n, h⟩ <;> first | cases h | (cases n <;> cases h)
  | .tape, h => by rcases h with h | ⟨n, h⟩ <;> first | cases h | (cases n <;> cases h)
theorem eqvs_self : ∀ xs : List D, (∃ n, shals n xs = true) → eqvs xs xs = true
  | [], _ => rfl
  | x :: xs, ⟨n, h⟩ => by
    have h' : shal n x = true ∧ shals n xs = true := by
      cases n <;> simpa [shals] using h
    simp [eqvs, eqv_self x (.inr ⟨n, h'.1⟩), eqvs_self xs ⟨n, h'.2⟩]
end
theorem ne_self {d : D} (h : shal 60 d = true) : neD d d = some false := by
  unfold neD eqD
  rw [h, eqv_self d (.inl h)]; rfl
theorem eq_self {d : D} (h : shal 60 d = true) : eqD d d = some true := by
  unfold eqD
  rw [h, eqv_self d (.inl h)]; rfl
theorem shals_map {α : Type} (n : Nat) (f : α → D) (h : ∀ a, shal n (f a) = true) : ∀ l : List α, shals n (l.map f) = true
  | [] => by cases n <;> rfl
  | a :: l => by
    have := shals_map n f h l
    cases n <;> simp [shals, h a, this]
/-! ### what draws -/
theorem bind_N {α β : Type} (m : N (R α)) (f : α → N (R β)) (P : R β → Prop) : N.bind m f P = m fun r => match r with | .ok a => f a P | .ex c => P (.ex c) | .st => False := rfl
theorem ofR_N {α τ ρ : Type} (m : N (R α)) (f : α → N (O τ ρ)) (P : O τ ρ → Prop) : N.ofR m f P = m fun r => match r with | .ok a => f a P | .ex c => P (.xc c) | .st => False := rfl
theorem seq_N {τ ρ τ' : Type} (m : N (O τ ρ)) (f : τ → N (O τ' ρ)) (P : O τ' ρ → Prop) : N.seq m f P = m (N.aftP P f) := rfl
@[simp] theorem aft_nx {τ ρ τ' : Type} (P : O τ' ρ → Prop) (f : τ → N (O τ' ρ)) (s : τ) : N.aftP P f (.nx s : O τ ρ) = f s P := rfl
@[simp] theorem aft_rt {τ ρ τ' : Type} (P : O τ' ρ → Prop) (f : τ → N (O τ' ρ)) (d : D) (us : List D) : N.aftP P f (.rt d us : O τ ρ) = P (.rt d us) := rfl
@[simp] theorem aft_xc {τ ρ τ' : Type} (P : O τ' ρ → Prop) (f : τ → N (O τ' ρ)) (c : Str) : N.aftP P f (.xc c : O τ ρ) = P (.xc c) := rfl
theorem nbind {α β : Type} (m : N (R α)) (f : α → N (R β)) (P : R β → Prop) : N.bind m f P = m fun r => match r with | .ok a => f a P | .ex c => P (.ex c) | .st => False := Eq.trans (congrArg (fun z => N.bind z f P) (Eq.refl m)) (Eq.refl _)
theorem nofr {α τ ρ : Type} (m : N (R α)) (f : α → N (O τ ρ)) (P : O τ ρ → Prop) : N.ofR m f P = m fun r => match r with | .ok a => f a P | .ex c => P (.xc c) | .st => False := Eq.trans (congrArg (fun z => N.ofR z f P) (Eq.refl m)) (Eq.refl _)
theorem nseq {τ ρ τ' : Type} (m : N (O τ ρ)) (f : τ → N (O τ' ρ)) (P : O τ' ρ → Prop) : N.seq m f P = m (N.aftP P f) := Eq.trans (congrArg (fun z => N.seq z f P) (Eq.refl m)) (Eq.refl _)
theorem nl {α : Type} (a : α) (P : α → Prop) : N.l a P = P a := Eq.trans (congrArg (fun z => N.l z P) (Eq.refl a)) (Eq.refl _)
theorem nbok {α β : Type} (a : α) (f : α → N (R β)) : N.bind (N.l (.ok a)) f = f a := Eq.trans (congrArg (fun z => N.bind (N.l (.ok z)) f) (Eq.refl a)) (Eq.refl _)
theorem nook {α τ ρ : Type} (a : α) (f : α → N (O τ ρ)) : N.ofR (N.l (.ok a)) f = f a := Eq.trans (congrArg (fun z => N.ofR (N.l (.ok z)) f) (Eq.refl a)) (Eq.refl _)
theorem naftnx {τ ρ τ' : Type} (P : O τ' ρ → Prop) (f : τ → N (O τ' ρ)) (s : τ) : N.aftP P f (.nx s : O τ ρ) = f s P := Eq.trans (congrArg (fun z => N.aftP P f (.nx z : O τ ρ)) (Eq.refl s)) (Eq.refl _)
theorem naftrt {τ ρ τ' : Type} (P : O τ' ρ → Prop) (f : τ → N (O τ' ρ)) (d : D) (us : List D) : N.aftP P f (.rt d us : O τ ρ) = P (.rt d us) := Eq.trans (congrArg (fun z => N.aftP P f (.rt z us : O τ ρ)) (Eq.refl d)) (Eq.refl _)
/-- a loop whose body only goes on -/
theorem forN_inv {σ ρ : Type} (f : D → σ → N (O σ σ)) (P : O σ ρ → Prop) (I : Nat → σ → Prop) (N' : Nat) : ∀ (ds : List D) (n : Nat) (s : σ), I n s → n + ds.length = N' → (∀ k (h : k < ds.length), ∀ s, I (n + k) s → ∀ P' : O σ σ → Prop, (∀ s', I (n + k + 1) s' → P' (.nx s')) → f ds[k] s P') → (∀ s, I N' s → P (.nx s)) → forN ds s f P
  | [], n, s, h0, hn, _, hP => hP s (by rw [show N' = n by simpa using hn.symm]; exact h0)
  | d :: ds, n, s, h0, hn, h, hP => by
    show f d s _
    refine h 0 (by simp) s h0 _ fun s' h1 => ?_
    refine forN_inv f P I N' ds (n + 1) s' h1 (by rw [← hn, List.length_cons]; omega) (fun k hk s hs P' hP' => ?_) hP
    have := h (k + 1) (by simpa using hk) s (by rw [show n + (k + 1) = n + 1 + k by omega]; exact hs) P' (by rw [show n + (k + 1) + 1 = n + 1 + k + 1 by omega]; exact hP')
    simpa using this
/-- .. that keeps no state -/
theorem forN_unit {ρ : Type} (f : D → Unit → N (O Unit Unit)) (P : O Unit ρ → Prop) (ds : List D) (h : ∀ d ∈ ds, ∀ P' : O Unit Unit → Prop, P' (.nx ()) → f d () P') (hP : P (.nx ())) : forN ds () f P :=
  forN_inv f P (fun _ _ => True) ds.length ds 0 () trivial (Nat.zero_add _) (fun k hk s _ P' hP' => h _ (List.getElem_mem hk) P' (hP' () trivial)) fun s _ => hP
/-- items that are drawn -/
theorem compN_all (f : D → N (R (Option D))) (Q : D → Prop) : ∀ (ds : List D) (P : R (List D) → Prop), (∀ d ∈ ds, ∀ P' : R (Option D) → Prop, (∀ y, Q y → P' (.ok (some y))) → f d P') → (∀ ys, ys.length = ds.length → (∀ y ∈ ys, Q y) → P (.ok ys)) → compN ds f P
  | [], P, _, hP => hP [] rfl (by simp)
  | d :: ds, P, h, hP => by
    show f d _
    refine h d List.mem_cons_self _ fun y hy => ?_
    show compN ds f _
    refine compN_all f Q ds _ (fun e he => h e (List.mem_cons_of_mem _ he)) fun ys hl hq => ?_
    refine hP (y :: ys) (by simp [hl]) fun z hz => ?_
    rcases List.mem_cons.mp hz with e | e
    · rw [e]; exact hy
    · exact hq z e
/-- .. as images of plain data -/
theorem compN_map {α : Type} (f : D → N (R (Option D))) (g : α → D) (Q : α → Prop) (ds : List D) (P : R (List D) → Prop) (h : ∀ d ∈ ds, ∀ P' : R (Option D) → Prop, (∀ a, Q a → P' (.ok (some (g a)))) → f d P') (hP : ∀ l : List α, l.length = ds.length → (∀ a ∈ l, Q a) → P (.ok (l.map g))) : compN ds f P := by
  refine compN_all f (fun y => ∃ a, Q a ∧ g a = y) ds P (fun d hd P' hP' => h d hd P' fun a ha => hP' _ ⟨a, ha, rfl⟩) fun ys hl hq => ?_
  have key : ∀ ys : List D, (∀ y ∈ ys, ∃ a, Q a ∧ g a = y) → ∃ l : List α, l.map g = ys ∧ ∀ a ∈ l, Q a := by
    intro ys
    induction ys with
    | nil => exact fun _ => ⟨[], rfl, by simp⟩
    | cons y ys ih =>
      intro h
      obtain ⟨a, ha, e⟩ := h y List.mem_cons_self
      obtain ⟨l, e2, hl⟩ := ih fun z hz => h z (List.mem_cons_of_mem _ hz)
      refine ⟨a :: l, by rw [List.map_cons, e, e2], fun b hb => ?_⟩
      rcases List.mem_cons.mp hb with z | z
      · rw [z]; exact ha
      · exact hl b z
  obtain ⟨l, e, h2⟩ := key ys hq
  subst e
  exact hP l (by simpa using hl) h2
end DL

-- FR
set_option Elab.async false
set_option linter.all false
set_option maxRecDepth 100000
/-! Fractions as pairs, and how large they are. -/
namespace DL
open PySem L2
def fr (q : Rat) : D := .tup [.int q.num, .int q.den]
theorem fr_one : fr 1 = .tup [.int 1, .int 1] := rfl
theorem fr_zero : fr 0 = .tup [.int 0, .int 1] := rfl
theorem eqv_fr (a b : Rat) : eqv (fr a) (fr b) = (a == b) := by
  unfold fr
  simp only [eqv, eqvs, Bool.and_true]
  by_cases h : a = b
  · subst h; simp
  · have : ¬ (a.num = b.num ∧ a.den = b.den) := fun z => h (Rat.ext z.1 z.2)
    rw [beq_eq_false_iff_ne.mpr h]
    simp only [Bool.and_eq_false_iff, beq_eq_false_iff_ne]
    by_cases h1 : a.num = b.num
    · right; intro e; exact this ⟨h1, by exact_mod_cast e⟩
    · left; exact h1
theorem shal_fr (n : Nat) (a : Rat) : shal (n + 1) (fr a) = true := rfl
theorem gcd_le {n d : Int} (hd : d ≠ 0) : 0 < (Int.gcd n d : Int) ∧ ((Int.gcd n d : Int)).natAbs ≤ d.natAbs := by
  have h1 : 0 < Int.gcd n d := Nat.gcd_pos_of_pos_right _ (by omega)
  have h2 : Int.gcd n d ≤ d.natAbs := Nat.gcd_le_right _ (by omega)
  exact ⟨by exact_mod_cast h1, by simpa using h2⟩
theorem divInt_pos {n d : Int} (hd : 0 < d) : fr (Rat.divInt n d) = .tup [.int (n / (Int.gcd n d : Int)), .int (d / (Int.gcd n d : Int))] := by
  unfold fr
  rw [Rat.num_divInt, Rat.den_divInt, if_neg (by omega), Int.gcd_comm d n, Int.sign_eq_one_of_pos hd, Int.one_mul]
  congr 3
  congr 1
  obtain ⟨k, rfl⟩ := Int.eq_ofNat_of_zero_le (Int.le_of_lt hd)
  simp
theorem divInt_neg {n d : Int} : Rat.divInt n d = Rat.divInt (0 - n) (0 - d) := by
  rw [Int.zero_sub, Int.zero_sub, Rat.neg_divInt_neg]
/-! ### sizes -/
@[irreducible] def Big : Nat := 2 ^ 4000
theorem big_mul {a b : Nat} (ha : a < Big) (hb : b < Big) : a * b < 2 ^ 8000 := by
  unfold Big at ha hb
  have : a * b < 2 ^ 4000 * 2 ^ 4000 := Nat.mul_lt_mul'' ha hb
  rw [← Nat.pow_add] at this
  exact this
theorem big_le {a : Nat} {k : Nat} (h : a < 2 ^ k) (hk : k ≤ 4000) : a < Big := by
  unfold Big
  exact Nat.lt_of_lt_of_le h (Nat.pow_le_pow_right (by decide) hk)
theorem big_lim {a : Nat} (h : a < Big) : a < 2 ^ 60000000 := by
  unfold Big at h
  exact Nat.lt_of_lt_of_le h (Nat.pow_le_pow_right (by decide) (by decide))
theorem p8000 {a : Nat} (h : a < 2 ^ 8000) : a < 2 ^ 9000 := Nat.lt_of_lt_of_le h (Nat.pow_le_pow_right (by decide) (by decide))
structure Ok (q : Rat) : Prop where
  n : q.num.natAbs < Big
  d : q.den < Big
theorem Ok.mulnn {a b : Rat} (ha : Ok a) (hb : Ok b) : mulM (.int a.num) (.int b.num) = some (.int (a.num * b.num)) := mul_b (big_lim ha.n) (big_lim hb.n)
theorem Ok.mulnd {a b : Rat} (ha : Ok a) (hb : Ok b) : mulM (.int a.num) (.int b.den) = some (.int (a.num * b.den)) := mul_b (big_lim ha.n) (by simpa using big_lim hb.d)
theorem Ok.muldn {a b : Rat} (ha : Ok a) (hb : Ok b) : mulM (.int a.den) (.int b.num) = some (.int (a.den * b.num)) := mul_b (by simpa using big_lim ha.d) (big_lim hb.n)
theorem Ok.muldd {a b : Rat} (ha : Ok a) (hb : Ok b) : mulM (.int a.den) (.int b.den) = some (.int (a.den * b.den)) := mul_b (by simpa using big_lim ha.d) (by simpa using big_lim hb.d)
theorem Ok.dd {a b : Rat} (ha : Ok a) (hb : Ok b) : ((a.den : Int) * b.den).natAbs < 2 ^ 9000 := by
  rw [Int.natAbs_mul]; exact p8000 (big_mul (by simpa using ha.d) (by simpa using hb.d))
theorem Ok.dn {a b : Rat} (ha : Ok a) (hb : Ok b) : ((a.den : Int) * b.num).natAbs < 2 ^ 9000 := by
  rw [Int.natAbs_mul]; exact p8000 (big_mul (by simpa using ha.d) hb.n)
theorem dd_ne (a b : Rat) : (a.den : Int) * b.den ≠ 0 := by
  have := a.den_pos; have := b.den_pos
  exact Int.mul_ne_zero (by omega) (by omega)
theorem mul_eq (a b : Rat) : Rat.divInt (a.num * b.num) (a.den * b.den) = a * b := by
  rw [← Rat.divInt_mul_divInt, Rat.num_divInt_den, Rat.num_divInt_den]
theorem add_eq (a b : Rat) : Rat.divInt (a.num * b.den + b.num * a.den) (a.den * b.den) = a + b := by
  have h1 := a.den_pos; have h2 := b.den_pos
  rw [← Rat.divInt_add_divInt _ _ (by omega) (by omega), Rat.num_divInt_den, Rat.num_divInt_den]
theorem sub_eq (a b : Rat) : Rat.divInt (a.num * b.den - b.num * a.den) (a.den * b.den) = a - b := by
  have h1 := a.den_pos; have h2 := b.den_pos
  rw [← Rat.divInt_sub_divInt _ _ (by omega) (by omega), Rat.num_divInt_den, Rat.num_divInt_den]
theorem div_eq (a b : Rat) : Rat.divInt (a.num * b.den) (a.den * b.num) = a / b := by
  rw [← Rat.divInt_mul_divInt, Rat.num_divInt_den, Rat.div_def, Rat.inv_def]
theorem one_sub (a : Rat) : fr (1 - a) = .tup [.int (a.den - a.num), .int a.den] := by
  have h1 := a.den_pos
  have e : (1 : Rat) - a = Rat.divInt (a.den - a.num) a.den := by
    have := sub_eq 1 a
    rw [← this]
    simp
  have hr : Int.gcd (a.den - a.num) a.den = 1 := by
    have := a.reduced
    rw [show (a.den : Int) - a.num = -(a.num - a.den) by omega, Int.neg_gcd, Int.gcd_sub_right_left_of_dvd _ (Int.dvd_refl _)]
    exact this
  rw [e, divInt_pos (by omega), hr]
  simp
/-- nonnegative, at most C, in parts of N -/
structure Q (N C : Nat) (q : Rat) : Prop where
  dv : q.den ∣ N
  nn : 0 ≤ q
  le : q ≤ C
theorem dvd_of_eq {q : Rat} {z : Int} {N : Nat} (hN : 0 < N) (h : q = Rat.divInt z N) : q.den ∣ N := by
  rw [h, Rat.den_divInt, if_neg (by omega)]
  simp only [Int.natAbs_natCast]
  exact Nat.div_dvd_of_dvd (Nat.gcd_dvd_left N z.natAbs)
theorem eq_of_dvd {q : Rat} {N : Nat} (hN : 0 < N) (h : q.den ∣ N) : ∃ z : Int, q = Rat.divInt z N := by
  obtain ⟨k, rfl⟩ := h
  have hk : k ≠ 0 := by rintro rfl; simp at hN
  refine ⟨q.num * k, ?_⟩
  rw [Int.natCast_mul, Rat.divInt_mul_right (by omega), Rat.num_divInt_den]
theorem Q.ok {N C : Nat} {q : Rat} (h : Q N C q) (hN : 0 < N) (h1 : N < Big) (h2 : C * N < Big) : Ok q := by
  have hd := Nat.le_of_dvd hN h.dv
  refine ⟨?_, by omega⟩
  have h3 := h.le
  rw [Rat.le_iff] at h3
  simp only [Rat.den_natCast, Rat.num_natCast] at h3
  have h4 := Rat.num_nonneg.mpr h.nn
  have h5 : q.num.natAbs ≤ C * q.den := by
    have : (q.num.natAbs : Int) ≤ (C * q.den : Nat) := by push_cast; omega
    exact_mod_cast this
  have h6 : C * q.den ≤ C * N := Nat.mul_le_mul_left _ hd
  omega
theorem Q.mono {N C M E : Nat} {q : Rat} (h : Q N C q) (h1 : N ∣ M) (h2 : C ≤ E) : Q M E q :=
  ⟨Nat.dvd_trans h.dv h1, h.nn, Rat.le_trans h.le (Rat.natCast_le_natCast.mpr h2)⟩
theorem Q.mul {N C M E : Nat} {a b : Rat} (ha : Q N C a) (hb : Q M E b) : Q (N * M) (C * E) (a * b) := by
  refine ⟨?_, Rat.mul_nonneg ha.nn hb.nn, ?_⟩
  · have : (a * b).den ∣ a.den * b.den := by
      rw [Rat.den_mul]
      exact Nat.div_dvd_of_dvd (Nat.gcd_dvd_right _ _)
    exact Nat.dvd_trans this (Nat.mul_dvd_mul ha.dv hb.dv)
  · have h1 := Rat.mul_le_mul_of_nonneg_right ha.le hb.nn
    have h2 := Rat.mul_le_mul_of_nonneg_left hb.le (show (0 : Rat) ≤ (C : Rat) by exact_mod_cast Nat.zero_le C)
    push_cast
    exact Rat.le_trans h1 h2
theorem Q.add {N C E : Nat} {a b : Rat} (hN : 0 < N) (ha : Q N C a) (hb : Q N E b) : Q N (C + E) (a + b) := by
  refine ⟨?_, Rat.add_nonneg ha.nn hb.nn, ?_⟩
  · obtain ⟨x, hx⟩ := eq_of_dvd hN ha.dv
    obtain ⟨y, hy⟩ := eq_of_dvd hN hb.dv
    refine dvd_of_eq (z := x + y) hN ?_
    rw [hx, hy, Rat.divInt_add_divInt _ _ (by omega) (by omega), ← Int.add_mul, Rat.divInt_mul_right (by omega)]
  · have := ha.le; have := hb.le
    push_cast; grind
theorem Q.sub {N C E : Nat} {a b : Rat} (hN : 0 < N) (ha : Q N C a) (hb : Q N E b) (h : b ≤ a) : Q N C (a - b) := by
  refine ⟨?_, by grind, ?_⟩
  · obtain ⟨x, hx⟩ := eq_of_dvd hN ha.dv
    obtain ⟨y, hy⟩ := eq_of_dvd hN hb.dv
    refine dvd_of_eq (z := x - y) hN ?_
    rw [hx, hy, Rat.divInt_sub_divInt _ _ (by omega) (by omega), ← Int.sub_mul, Rat.divInt_mul_right (by omega)]
  · have := ha.le; have := hb.nn
    grind
end DL

-- K22A1
set_option Elab.async false
set_option linter.all false
set_option maxRecDepth 100000
set_option maxHeartbeats 4000000
namespace K22
open DL PySem L2
/-! ### the tape -/
theorem intsOf_map (l : List Int) : intsOf (l.map D.int) = some l := by
  induction l with
  | nil => rfl
  | cons x l ih => simp [intsOf, ih]
theorem M_tape (ns : List Int) : M__law_tape [.lst (ns.map .int)] = .ok .tape := by
  show (B__law_tape _).toR = _
  unfold B__law_tape
  simp only [R.bind_ok, iter_lst, R.lift_some]
  rw [compM_map (g := D.int) (F := fun z : Int => D.int (z.natAbs : Int))]
  · simp only [R.bind_ok, ofR_ok', iter_lst, R.lift_some]
    obtain ⟨h, -⟩ := forO_inv (ρ := Unit) (fun d6 (s4 : D) => O.ofR (((((R.ok (s4)).bind fun x8 => (R.ok (.int 31)).bind fun x9 => R.lift (mulM x8 x9)).bind fun x10 => (R.ok (d6)).bind fun x11 => R.lift (addD x10 x11)).bind fun x12 => R.lift (intD x12)).bind fun x13 => (R.ok (.int 2147483647)).bind fun x14 => R.lift (modD x13 x14)) fun v7 => .nx (v7)) (fun z : Int => D.int (z.natAbs : Int)) D.int (fun b z => (b * 31 + z.natAbs) % 2147483647) (fun _ _ => True) ns.length ns 0 7 (by omega) trivial fun z _ n b _ _ => ⟨by
      simp only [R.bind_ok, mul_r (i := b) (j := 31) (by decide) (by decide), R.lift_some, add_int, int_int, mod_int (j := 2147483647) (by decide), ofR_ok'], trivial⟩
    simp only [R.bind_ok] at h
    rw [h]
    simp only [seq_nx']
    have e := intsOf_map (ns.map fun z => (z.natAbs : Int))
    rw [List.map_map] at e
    simp only [Function.comp_def] at e
    unfold tapeLit
    simp only [e, ofR_ok', toR_rt]
  · intro a _
    rfl
theorem M_take {m : Int} (h : 0 < m) (h2 : m.natAbs < 2 ^ 9000) (P : R D → Prop) (hP : ∀ r : Int, 0 ≤ r → r < m → P (.ok (.int r))) : M__law_take [.tape, .int m] P := by
  show B__law_take (.int m) _
  unfold B__law_take
  try simp only [ofR_N, bind_N, seq_N, N.l_app, N.bind_ok, N.ofR_ok, R.bind_ok, R.lift_some, gt_int, int_int, add_int, isInt]
  intro i
  have hm := fun z : Int => hP (z % m) (Int.emod_nonneg _ (by omega)) (Int.emod_lt_of_pos _ h)
  try simp only [ofR_N, bind_N, seq_N, N.l_app, N.bind_ok, N.ofR_ok, R.bind_ok, R.lift_some, gt_int, int_int, add_int, isInt]
  by_cases hi : 0 < i
  · simp only [hi, decide_true, if_true]
    try simp only [ofR_N, bind_N, seq_N, N.l_app, N.bind_ok, N.ofR_ok, R.bind_ok, R.lift_some, gt_int, int_int, add_int, isInt]
    intro j
    try simp only [ofR_N, bind_N, seq_N, N.l_app, N.bind_ok, N.ofR_ok, R.bind_ok, R.lift_some, gt_int, int_int, add_int, isInt]
    simp only [mod_int h, R.lift_some]
    try simp only [ofR_N, bind_N, seq_N, N.l_app, N.bind_ok, N.ofR_ok, R.bind_ok, R.lift_some, gt_int, int_int, add_int, isInt]
    intro k
    simp only [fdiv_int h h2, R.lift_some]
    try simp only [ofR_N, bind_N, seq_N, N.l_app, N.bind_ok, N.ofR_ok, R.bind_ok, R.lift_some, gt_int, int_int, add_int, isInt]
    exact hm j
  · simp only [hi, decide_false, Bool.false_eq_true, if_false]
    try simp only [ofR_N, bind_N, seq_N, N.l_app, N.bind_ok, N.ofR_ok, R.bind_ok, R.lift_some, gt_int, int_int, add_int, isInt]
    intro j
    try simp only [ofR_N, bind_N, seq_N, N.l_app, N.bind_ok, N.ofR_ok, R.bind_ok, R.lift_some, gt_int, int_int, add_int, isInt]
    intro k
    simp only [mul_r (i := k) (j := 48271) (by decide) (by decide), R.lift_some]
    try simp only [ofR_N, bind_N, seq_N, N.l_app, N.bind_ok, N.ofR_ok, R.bind_ok, R.lift_some, gt_int, int_int, add_int, isInt]
    intro k2
    simp only [mul_r (i := k2) (j := 69621) (by decide) (by decide), R.lift_some]
    try simp only [ofR_N, bind_N, seq_N, N.l_app, N.bind_ok, N.ofR_ok, R.bind_ok, R.lift_some, gt_int, int_int, add_int, isInt]
    simp only [mod_int (j := 2147483647) (by decide), R.lift_some]
    try simp only [ofR_N, bind_N, seq_N, N.l_app, N.bind_ok, N.ofR_ok, R.bind_ok, R.lift_some, gt_int, int_int, add_int, isInt]
    have hb1 := Int.emod_nonneg (k * 48271 + k2 * 69621) (show (2147483647 : Int) ≠ 0 by decide)
    have hb2 := Int.emod_lt_of_pos (k * 48271 + k2 * 69621) (show (0 : Int) < 2147483647 by decide)
    simp only [mul_l (i := (k * 48271 + k2 * 69621) % 2147483647) (j := (k * 48271 + k2 * 69621) % 2147483647) (by omega) (by omega), R.lift_some]
    try simp only [ofR_N, bind_N, seq_N, N.l_app, N.bind_ok, N.ofR_ok, R.bind_ok, R.lift_some, gt_int, int_int, add_int, isInt]
    intro k3
    simp only [mul_r (i := k3) (j := 40692) (by decide) (by decide), R.lift_some]
    try simp only [ofR_N, bind_N, seq_N, N.l_app, N.bind_ok, N.ofR_ok, R.bind_ok, R.lift_some, gt_int, int_int, add_int, isInt]
    simp only [mod_int (j := 2147483399) (by decide), R.lift_some]
    try simp only [ofR_N, bind_N, seq_N, N.l_app, N.bind_ok, N.ofR_ok, R.bind_ok, R.lift_some, gt_int, int_int, add_int, isInt]
    simp only [mod_int h, R.lift_some]
    try simp only [ofR_N, bind_N, seq_N, N.l_app, N.bind_ok, N.ofR_ok, R.bind_ok, R.lift_some, gt_int, int_int, add_int, isInt]
    exact hm _
/-! ### fractions -/
theorem M_gcd (a b : Int) : M__law_gcd [.int a, .int b] = .ok (.int (Int.gcd a b)) := by
  show (B__law_gcd _ _).toR = _
  unfold B__law_gcd
  simp only [R.bind_ok, abs_int, R.lift_some, ofR_ok', lst2_two]
  obtain ⟨s, h1, h2⟩ := whileO_inv (ρ := Unit) (fun (s10 : D × D) => R.lift (gtD s10.2 (.int 0))) (fun s10 => O.ofR ((((R.lift (intD s10.1)).bind fun x14 => R.lift (modD x14 s10.2)).bind fun x16 => .ok [x16]).bind fun xs19 => .ok (s10.2 :: xs19)) fun ds22 => lst2 .st ds22 fun v20 v21 => .nx ((v20), (v21)))
    (fun s => ∃ x y : Nat, s = (.int x, .int y) ∧ Nat.gcd x y = Int.gcd a b) (fun s => match s.2 with | .int y => y.natAbs | _ => 0) (fun s => s.1 = .int (Int.gcd a b))
    (by
      rintro s ⟨x, y, rfl, hg⟩
      by_cases hy : y = 0
      · subst hy
        refine .inl ⟨rfl, ?_⟩
        rw [← hg]; simp
      · have hy0 : (0 : Int) < y := by omega
        refine .inr ⟨by simp only [gt_int, R.lift_some]; rw [decide_eq_true hy0], (.int y, .int ((x % y : Nat) : Int)), ?_, ⟨y, x % y, rfl, ?_⟩, ?_⟩
        · simp only [int_int, R.lift_some, R.bind_ok, mod_int hy0, ofR_ok', lst2_two]
          norm_cast
        · rw [← hg, Nat.gcd_comm y, ← Nat.gcd_rec, Nat.gcd_comm]
        · simp only []
          have := Nat.mod_lt x (show 0 < y by omega)
          omega)
    (szDs [D.int a.natAbs, D.int b.natAbs] + 1000) (.int a.natAbs, .int b.natAbs) ⟨a.natAbs, b.natAbs, rfl, rfl⟩ (by simp [szDs, szD]; omega)
  rw [h1]
  simp only [seq_nx', ofR_ok', toR_rt, h2]
theorem M_ratio {n d : Int} (hd : d ≠ 0) (hs : d.natAbs < 2 ^ 9000) : M__law_ratio [.int n, .int d] = .ok (fr (Rat.divInt n d)) := by
  show (B__law_ratio _ _).toR = _
  unfold B__law_ratio
  have key : ∀ n d : Int, 0 < d → d.natAbs < 2 ^ 9000 → (O.ofR (M__law_gcd [.int n, .int d]) fun v15 => O.ofR ((((R.ok (.int n)).bind fun x16 => (R.ok (v15)).bind fun x17 => R.lift (fdivD x16 x17)).bind fun x22 => (((R.ok (.int d)).bind fun x18 => (R.ok (v15)).bind fun x19 => R.lift (fdivD x18 x19)).bind fun x20 => (R.ok []).bind fun xs21 => .ok (x20 :: xs21)).bind fun xs23 => .ok (x22 :: xs23)).bind fun xs24 => .ok (.tup xs24)) fun d => (.rt d [] : O Unit Unit)).toR = .ok (fr (Rat.divInt n d)) := fun n d h0 hs => by
    have hg := gcd_le (n := n) (d := d) (by omega)
    rw [M_gcd, divInt_pos h0]
    simp only [R.bind_ok, ofR_ok', fdiv_int hg.1 (Nat.lt_of_le_of_lt hg.2 hs), R.lift_some, toR_rt]
  simp only [R.bind_ok, lt_int, R.lift_some, ofR_ok']
  by_cases h : d < 0
  · rw [if_pos (decide_eq_true h)]
    simp only [sub_int, R.lift_some, R.bind_ok, ofR_ok', lst2_two, seq_nx']
    have := key (0 - n) (0 - d) (by omega) (by simpa using hs)
    simp only [R.bind_ok] at this
    rw [this, ← divInt_neg]
  · rw [if_neg (by simpa using h)]
    simp only [seq_nx']
    have := key n d (by omega) hs
    simp only [R.bind_ok] at this
    rw [this]
theorem M_share_ {n d : Int} (hd : d ≠ 0) (hs : d.natAbs < 2 ^ 9000) : M_share [.int n, .int d] = .ok (fr (Rat.divInt n d)) := by
  show (B_share _ _).toR = _
  unfold B_share
  simp only [R.bind_ok, eq_int, R.lift_some, ofR_ok']
  rw [if_neg (by simpa using hd)]
  have key : ∀ n d : Int, 0 < d → d.natAbs < 2 ^ 9000 → ((O.ofR (((R.ok (.int n)).bind fun x15 => R.lift (absD x15)).bind fun x18 => ((R.ok (.int d)).bind fun x16 => (R.ok []).bind fun xs17 => .ok (x16 :: xs17)).bind fun xs19 => .ok (x18 :: xs19)) fun ds45 => lst2 .st ds45 fun v20 v21 => (whileO (szDs [.int n, .int d, v20, v21] + 1000) ((v20), (v21)) (fun (s23 : D × D) => (R.ok (s23.2)).bind fun x24 => (R.ok (.int 0)).bind fun x25 => R.lift (gtD x24 x25)) fun s23 => O.ofR ((R.ok (s23.2)).bind fun x30 => (((R.ok (s23.1)).bind fun x26 => (R.ok (s23.2)).bind fun x27 => R.lift (modD x26 x27)).bind fun x28 => (R.ok []).bind fun xs29 => .ok (x28 :: xs29)).bind fun xs31 => .ok (x30 :: xs31)) fun ds34 => lst2 .st ds34 fun v32 v33 => .nx ((v32), (v33)) : O (D × D) _).seq fun s35 => O.ofR ((((R.ok (.int n)).bind fun x36 => (R.ok (s35.1)).bind fun x37 => R.lift (fdivD x36 x37)).bind fun x42 => (((R.ok (.int d)).bind fun x38 => (R.ok (s35.1)).bind fun x39 => R.lift (fdivD x38 x39)).bind fun x40 => (R.ok []).bind fun xs41 => .ok (x40 :: xs41)).bind fun xs43 => .ok (x42 :: xs43)).bind fun xs44 => .ok (.tup xs44)) fun d => (.rt d [] : O Unit Unit))).toR = .ok (fr (Rat.divInt n d)) := fun n d h0 hs => by
    have hg := gcd_le (n := n) (d := d) (by omega)
    simp only [R.bind_ok, abs_int, R.lift_some, ofR_ok', lst2_two]
    refine while_toR (fun s => ∃ x y : Nat, s = (.int x, .int y) ∧ Nat.gcd x y = Int.gcd n d) (fun s => match s.2 with | .int y => y.natAbs | _ => 0) (fun s => s.1 = .int (Int.gcd n d)) ⟨n.natAbs, d.natAbs, by rw [Int.natAbs_of_nonneg (Int.le_of_lt h0)], rfl⟩ (by simp [szDs, szD]; omega) ?_ fun s h2 => ?_
    · rintro s ⟨x, y, rfl, hg⟩
      by_cases hy : y = 0
      · subst hy
        refine .inl ⟨rfl, ?_⟩
        rw [← hg]; simp
      · have hy0 : (0 : Int) < y := by omega
        refine .inr ⟨by simp only [gt_int, R.lift_some]; rw [decide_eq_true hy0], (.int y, .int ((x % y : Nat) : Int)), ?_, ⟨y, x % y, rfl, ?_⟩, ?_⟩
        · simp only [int_int, R.lift_some, R.bind_ok, mod_int hy0, ofR_ok', lst2_two]
          norm_cast
        · rw [← hg, Nat.gcd_comm y, ← Nat.gcd_rec, Nat.gcd_comm]
        · simp only []
          have := Nat.mod_lt x (show 0 < y by omega)
          omega
    · simp only [h2, R.bind_ok, ofR_ok', fdiv_int hg.1 (Nat.lt_of_le_of_lt hg.2 hs), R.lift_some, toR_rt]
      rw [divInt_pos h0]
  simp only [lt_int, R.lift_some, ofR_ok']
  by_cases h : d < 0
  · rw [if_pos (decide_eq_true h)]
    simp only [neg_int, R.lift_some, R.bind_ok, ofR_ok', lst2_two, seq_nx']
    have := key (- n) (- d) (by omega) (by simpa using hs)
    simp only [R.bind_ok] at this
    rw [this, Rat.neg_divInt_neg]
  · rw [if_neg (by simpa using h)]
    simp only [seq_nx']
    have := key n d (by omega) hs
    simp only [R.bind_ok] at this
    rw [this]
theorem fr_def (a : Rat) : fr a = .tup [.int a.num, .int a.den] := rfl
theorem M_times_ {a b : Rat} (ha : Ok a) (hb : Ok b) : M_times [fr a, fr b] = .ok (fr (a * b)) := by
  show (B_times _ _).toR = _
  unfold B_times
  simp only [fr_def a, fr_def b, R.bind_ok, idx_tup0, idx_tup1, R.lift_some, ha.mulnn hb, ha.muldd hb]
  rw [M_share_ (dd_ne a b) (ha.dd hb), mul_eq]
  rfl
theorem M_ltimes {a b : Rat} (ha : Ok a) (hb : Ok b) : M__law_times [fr a, fr b] = .ok (fr (a * b)) := by
  show (B__law_times _ _).toR = _
  unfold B__law_times
  simp only [fr_def a, fr_def b, R.bind_ok, idx_tup0, idx_tup1, R.lift_some, ha.mulnn hb, ha.muldd hb]
  rw [M_ratio (dd_ne a b) (ha.dd hb), mul_eq]
  rfl
theorem M_plus_ {a b : Rat} (ha : Ok a) (hb : Ok b) : M_plus [fr a, fr b] = .ok (fr (a + b)) := by
  show (B_plus _ _).toR = _
  unfold B_plus
  simp only [fr_def a, fr_def b, R.bind_ok, idx_tup0, idx_tup1, R.lift_some, ha.mulnd hb, hb.mulnd ha, ha.muldd hb, add_int]
  rw [M_share_ (dd_ne a b) (ha.dd hb), add_eq]
  rfl
theorem M_over_ {a b : Rat} (ha : Ok a) (hb : Ok b) (h0 : b ≠ 0) : M_over [fr a, fr b] = .ok (fr (a / b)) := by
  show (B_over _ _).toR = _
  unfold B_over
  have hz : (a.den : Int) * b.num ≠ 0 := Int.mul_ne_zero (by have := a.den_pos; omega) (fun z => h0 (Rat.num_eq_zero.mp z))
  simp only [fr_def a, fr_def b, R.bind_ok, idx_tup0, idx_tup1, R.lift_some, ha.mulnd hb, ha.muldn hb]
  rw [M_share_ hz (ha.dn hb), div_eq]
  rfl
theorem M_less_ {a b : Rat} (ha : Ok a) (hb : Ok b) : M_less [fr a, fr b] = .ok (.bl (decide (a < b))) := by
  show (B_less _ _).toR = _
  unfold B_less
  simp only [fr_def a, fr_def b, R.bind_ok, idx_tup0, idx_tup1, R.lift_some, ha.mulnd hb, hb.mulnd ha, lt_int, Option.map_some, ofR_ok', toR_rt]
  simp only [Rat.lt_iff]
theorem Q.zero (N C : Nat) : Q N C 0 := ⟨by simp, by grind, by exact_mod_cast Nat.zero_le C⟩
theorem M_sum {N C : Nat} {l : List Rat} (h : ∀ a ∈ l, Q N C a) (hN : 0 < N) (hb : N < Big) (hc : (l.length * C) * N < Big) : M_sum_of [.lst (l.map fr)] = .ok (fr (sm l)) := by
  show (B_sum_of _).toR = _
  unfold B_sum_of
  simp only [R.bind_ok, iter_lst, R.lift_some, ofR_ok']
  have key : ∀ n, n ≤ l.length → ∀ b, Q N (n * C) b → Ok b := fun n hn b hq => hq.ok hN hb (Nat.lt_of_le_of_lt (Nat.mul_le_mul_right _ (Nat.mul_le_mul_right _ hn)) hc)
  refine for_toR (gd := fr) (l := l) fr (· + ·) (fun n b => Q N (n * C) b) 0 rfl (Q.zero _ _) (fun a ha n b hn hq => ?_) fun _ => rfl
  have h1 := h a ha
  have ho : Ok a := key 1 (by omega) a (by simpa using h1)
  refine ⟨?_, ?_⟩
  · simp only [M_plus_ (key n (by omega) b hq) ho, ofR_ok']
  · have := hq.add hN h1
    rw [show n * C + C = (n + 1) * C by grind] at this
    exact this
theorem M_lsum {N C : Nat} {l : List Rat} (h : ∀ a ∈ l, Q N C a) (hN : 0 < N) (hb : N < Big) (hc : (l.length * C) * N < Big) : M__law_sum [.lst (l.map fr)] = .ok (fr (sm l)) := by
  show (B__law_sum _).toR = _
  unfold B__law_sum
  simp only [R.bind_ok, iter_lst, R.lift_some, ofR_ok', tup2_two]
  have key : ∀ n, n ≤ l.length → ∀ b, Q N (n * C) b → Ok b := fun n hn b hq => hq.ok hN hb (Nat.lt_of_le_of_lt (Nat.mul_le_mul_right _ (Nat.mul_le_mul_right _ hn)) hc)
  refine for_toR (gd := fr) (l := l) (fun b => (D.int b.den, D.int b.num)) (· + ·) (fun n b => Q N (n * C) b) 0 rfl (Q.zero _ _) (fun a ha n b hn hq => ?_) fun _ => rfl
  have h1 := h a ha
  have ho : Ok a := key 1 (by omega) a (by simpa using h1)
  have hb' := key n (by omega) b hq
  refine ⟨?_, ?_⟩
  · simp only [fr_def a, tup2_two, hb'.mulnd ho, ho.mulnd hb', hb'.muldd ho, R.lift_some, R.bind_ok, add_int]
    rw [M_ratio (dd_ne b a) (hb'.dd ho), add_eq]
    simp only [fr_def, ofR_ok', tup2_two]
  · have := hq.add hN h1
    rw [show n * C + C = (n + 1) * C by grind] at this
    exact this
/-! ### bits -/
def bc (b : Bool) : Nat := if b then 49 else 48
def bsD (bits : List Bool) : D := .str (bits.map bc)
theorem eq_bc (b : Bool) : eqD (.str [bc b]) (.str [49]) = some b := by cases b <;> rfl
theorem M_said (a : Rat) (b : Bool) : M__law_said [fr a, .str [bc b]] = .ok (fr (said a b)) := by
  show (B__law_said _ _).toR = _
  unfold B__law_said said
  simp only [R.bind_ok, eq_bc, R.lift_some]
  cases b
  · simp only [Bool.false_eq_true, if_false, one_sub]
    simp only [fr_def a, idx_tup0, idx_tup1, R.lift_some, R.bind_ok, sub_int, ofR_ok', toR_rt]
  · simp only [if_true, ofR_ok', toR_rt]
def rowD (row : List Rat) : D := .tup (row.map fr)
theorem map_map' {α β γ : Type} (f : α → β) (g : β → γ) (l : List α) : (l.map f).map g = l.map fun a => g (f a) := by simp
theorem shr_zip : ∀ (row : List Rat) (bits : List Bool) (c : Rat), (row.zip bits).foldl (fun c p => c * said p.1 p.2) c = shr c row bits
  | [], bits, c => by cases bits <;> rfl
  | a :: row, [], c => rfl
  | a :: row, b :: bits, c => by simp only [List.zip_cons_cons, List.foldl_cons, shr]; exact shr_zip row bits _
/-- an entry of a voice -/
structure En (a : Rat) : Prop where
  q : Q 420 1 a
  p : 0 < a
  l : a < 1
theorem Q.one : Q 1 1 1 := ⟨by decide, by grind, by grind⟩
theorem En.said {a : Rat} (h : En a) (b : Bool) : Q 420 1 (said a b) := by
  unfold K22.said
  cases b
  · simp only [Bool.false_eq_true, if_false]
    exact (Q.one.mono (by decide) (by decide)).sub (by decide) h.q (by have := h.l; grind)
  · simpa using h.q
theorem p420 {k : Nat} (h : k ≤ 6) : 420 ^ k < Big := by
  refine Nat.lt_of_le_of_lt (Nat.pow_le_pow_right (by decide) h) (big_le (k := 64) (by decide) (by decide))
theorem shr_Q : ∀ {row : List Rat} {bits : List Bool} {n : Nat} {c : Rat}, (∀ a ∈ row, En a) → Q (420 ^ n) 1 c → Q (420 ^ (n + min row.length bits.length)) 1 (shr c row bits)
  | [], bits, n, c, _, hc => by cases bits <;> simpa [shr] using hc
  | a :: row, [], n, c, _, hc => by simpa [shr] using hc
  | a :: row, b :: bits, n, c, h, hc => by
    have h1 := hc.mul ((h a List.mem_cons_self).said b)
    rw [← Nat.pow_succ] at h1
    have := shr_Q (bits := bits) (fun x hx => h x (List.mem_cons_of_mem _ hx)) h1
    simp only [List.length_cons, shr]
    rw [show n + min (row.length + 1) (bits.length + 1) = n + 1 + min row.length bits.length by omega]
    exact this
theorem str_ok {bits : List Bool} (h : bits.length ≤ 6) : (bits.map bc).length ≤ sizeLine := by
  rw [List.length_map]; exact Nat.le_trans h (by decide)
theorem iter_bits {bits : List Bool} (h : bits.length ≤ 6) : iterD (bsD bits) = some (bits.map fun b => .str [bc b]) := by
  unfold bsD
  rw [iter_str (str_ok h), map_map']
theorem M_voice {row : List Rat} {bits : List Bool} (hr : ∀ a ∈ row, En a) (hb : bits.length ≤ 6) (hl : row.length ≤ 6) : M_voice_share [rowD row, bsD bits] = .ok (fr (shr 1 row bits)) := by
  show (B_voice_share _ _).toR = _
  unfold B_voice_share
  have hz : zipD (rowD row) (bsD bits) = some ((row.zip bits).map fun p => .tup [fr p.1, .str [bc p.2]]) := by
    rw [zipD_some (xs := row.map fr) (x := rowD row) (iter_tup _) (iter_bits hb) ?_, zip_map2]
    rw [zip_map2, List.length_map, List.length_zip]
    exact Nat.le_trans (Nat.min_le_left _ _) (Nat.le_trans hl (by decide))
  simp only [R.bind_ok, hz, R.lift_some, ofR_ok']
  refine for_toR (gd := fun p : Rat × Bool => .tup [fr p.1, .str [bc p.2]]) (l := row.zip bits) fr (fun c p => c * said p.1 p.2) (fun n b => Q (420 ^ n) 1 b) 1 rfl Q.one (fun a ha n b hn hq => ?_) fun _ => by rw [shr_zip]; rfl
  have he := hr a.1 (List.of_mem_zip ha).1
  rw [List.length_zip] at hn
  have h1 := he.said a.2
  have o1 : Ok (said a.1 a.2) := h1.ok (by decide) (p420 (k := 1) (by decide)) (p420 (k := 1) (by decide))
  have o2 : Ok b := hq.ok (Nat.pow_pos (by decide)) (p420 (by omega)) (by rw [Nat.one_mul]; exact p420 (by omega))
  refine ⟨?_, ?_⟩
  · obtain ⟨x, y⟩ := a
    cases y
    · simp only [tup2_two, eq_bc, R.lift_some, R.bind_ok, Bool.false_eq_true, if_false]
      simp only [fr_def x, idx_tup0, idx_tup1, R.lift_some, R.bind_ok, sub_int]
      simp only [← one_sub]
      have := M_times_ o2 o1
      simp only [said, Bool.false_eq_true, if_false] at this ⊢
      simp only [this, ofR_ok']
    · simp only [tup2_two, eq_bc, R.lift_some, R.bind_ok, if_true]
      have := M_times_ o2 o1
      simp only [said, if_true] at this ⊢
      simp only [this, ofR_ok']
  · rw [Nat.pow_succ]; exact hq.mul h1
theorem M_lshare {row : List Rat} {bits : List Bool} (hb : bits.length ≤ 6) (hl : bits.length ≤ row.length) (h1 : ∀ k, k ≤ bits.length → Ok (ah k row bits)) (h2 : ∀ k (h : k < bits.length) (h' : k < row.length), Ok (said row[k] bits[k])) : M__law_share [rowD row, bsD bits] = .ok (fr (ah bits.length row bits)) := by
  show (B__law_share _ _).toR = _
  unfold B__law_share
  simp only [R.bind_ok, ofR_ok']
  rw [show lenD (bsD bits) = some (.int (bits.length : Nat)) from by unfold bsD; rw [len_str (str_ok hb), List.length_map]]
  simp only [R.lift_some, R.bind_ok]
  rw [rng1_nat (Nat.le_trans hb (by decide))]
  simp only [R.lift_some, ofR_ok']
  refine forR_toR (S := fun k => fr (ah k row bits)) (by simp only [ah_zero]; rfl) (fun k hk => ?_) ?_
  · have hk' : k < bits.length := by simpa using hk
    have hk2 : k < row.length := by omega
    simp only [List.getElem_map, List.getElem_range]
    rw [show idxD (rowD row) (.int (k : Int)) = some (fr row[k]) from idx_tup (by simp [hk2]), show idxD (bsD bits) (.int (k : Int)) = some (.str [bc bits[k]]) from idx_str (str_ok hb) (by simp [hk'])]
    simp only [R.lift_some, R.bind_ok]
    rw [M_said]
    simp only [R.bind_ok]
    rw [M_ltimes (h1 k (by omega)) (h2 k hk' hk2), ← ah_succ hk2 hk']
    rfl
  · simp
theorem num_pos' {a : Rat} (h : 0 < a) : 0 < a.num := by
  rw [Rat.lt_iff] at h
  simpa using h
theorem least {p : Nat → Prop} : ∀ n : Nat, p n → ∃ k, p k ∧ ∀ j, j < k → ¬ p j
  | 0, h => ⟨0, h, by omega⟩
  | n + 1, h => by
    by_cases h2 : ∃ k, k ≤ n ∧ p k
    · obtain ⟨k, h3, h4⟩ := h2
      induction k using Nat.strongRecOn with
      | _ k ih =>
        by_cases h5 : ∃ j, j < k ∧ p j
        · obtain ⟨j, h6, h7⟩ := h5
          exact ih j h6 (by omega) h7
        · exact ⟨k, h4, fun j hj z => h5 ⟨j, hj, z⟩⟩
    · exact ⟨n + 1, h, fun j hj z => h2 ⟨j, by omega, z⟩⟩
theorem pow_lt {n : Nat} {a : Rat} (ha : 0 < a) (hd : a.den < Big) (h : a * 2 ^ n < 1) : n < 4000 ∧ n < a.den := by
  have h0 := pow2_pos n
  have hp := num_pos' ha
  have e : a * a.den = a.num := by
    have := Rat.num_divInt_den a
    rw [Rat.divInt_eq_div] at this
    have hd : ((a.den : Nat) : Rat) ≠ 0 := by
      have := a.den_pos
      intro z
      have : a.den = 0 := by exact_mod_cast z
      omega
    have h2 : ((a.den : Int) : Rat) = ((a.den : Nat) : Rat) := by norm_cast
    rw [h2] at this
    grind
  have h3 : (a.num : Rat) * 2 ^ n < a.den := by
    have hd : (0 : Rat) < a.den := by exact_mod_cast a.den_pos
    have := Rat.mul_lt_mul_of_pos_right h hd
    generalize (2 : Rat) ^ n = p at *
    grind
  have h4 : a.num * 2 ^ n < a.den := by exact_mod_cast h3
  have h5 : (2 ^ n : Int) ≤ a.num * 2 ^ n := by
    have : (0 : Int) < 2 ^ n := Int.pow_pos (by decide)
    have := Int.mul_le_mul_of_nonneg_right (show (1 : Int) ≤ a.num by omega) (Int.le_of_lt this)
    omega
  have h6 : 2 ^ n < a.den := by
    have : (2 ^ n : Int) < a.den := by omega
    exact_mod_cast this
  refine ⟨?_, Nat.lt_trans Nat.lt_two_pow_self h6⟩
  unfold Big at hd
  have : 2 ^ n < 2 ^ 4000 := Nat.lt_trans h6 hd
  exact (Nat.pow_lt_pow_iff_right (by decide)).mp this
theorem lt_one_iff {n : Nat} {a : Rat} : a * 2 ^ n < 1 ↔ a.num * 2 ^ n < (a.den : Int) := by
  have e : a * a.den = a.num := by
    have := Rat.num_divInt_den a
    rw [Rat.divInt_eq_div] at this
    have hd : ((a.den : Nat) : Rat) ≠ 0 := by
      have := a.den_pos
      intro z
      have : a.den = 0 := by exact_mod_cast z
      omega
    have h2 : ((a.den : Int) : Rat) = ((a.den : Nat) : Rat) := by norm_cast
    rw [h2] at this
    grind
  have hd : (0 : Rat) < a.den := by exact_mod_cast a.den_pos
  have h3 : (a.num : Rat) * 2 ^ n < a.den ↔ a.num * 2 ^ n < (a.den : Int) := by
    constructor
    · intro h; exact_mod_cast h
    · intro h; exact_mod_cast h
  rw [← h3]
  constructor
  · intro h
    have := Rat.mul_lt_mul_of_pos_right h hd
    generalize (2 : Rat) ^ n = p at *
    grind
  · intro h
    by_cases z : a * 2 ^ n < 1
    · exact z
    · exfalso
      replace z : 1 ≤ a * 2 ^ n := by grind
      have := Rat.mul_le_mul_of_nonneg_right z (Rat.le_of_lt hd)
      generalize (2 : Rat) ^ n = p at *
      grind
theorem bf_go {a : Rat} (ha : 0 < a) (ho : Ok a) {n : Nat} (h : ∀ k, k < n → a * 2 ^ k < 1) : n ≤ 4000 ∧ n ≤ a.den := by
  cases n with
  | zero => exact ⟨by omega, by omega⟩
  | succ n =>
    have := pow_lt ha ho.d (h n (by omega))
    omega
theorem M_bits {a : Rat} (ha : 0 < a) (h1 : a ≤ 1) (ho : Ok a) : ∃ n : Nat, IsBf a n ∧ M_bits_for [fr a] = .ok (.int n) := by
  suffices hs : ∃ r, M_bits_for [fr a] = r ∧ ∃ n : Nat, IsBf a n ∧ r = .ok (.int n) by
    obtain ⟨r, e, n, h2, h3⟩ := hs
    exact ⟨n, h2, by rw [e, h3]⟩
  refine ⟨_, rfl, ?_⟩
  show ∃ n : Nat, IsBf a n ∧ (B_bits_for _).toR = _
  unfold B_bits_for
  have hp := num_pos' ha
  have hone : Ok 1 := ⟨big_le (k := 2) (by decide) (by decide), big_le (k := 2) (by decide) (by decide)⟩
  have e1 : M_less [G_ONE, fr a] = .ok (.bl false) := by
    rw [show G_ONE = fr 1 from rfl, M_less_ hone ho, decide_eq_false (by grind)]
  simp only [R.bind_ok, e1]
  rw [show idxD (fr a) (.int 0) = some (.int a.num) from idx_tup0 _ _]
  simp only [R.lift_some, R.bind_ok, le_int, decide_eq_false (show ¬ a.num ≤ 0 by omega), Bool.false_eq_true, if_false, tru_bl, ofR_ok']
  have hfin : ∃ n : Nat, IsBf a n := by
    obtain ⟨n, h1, h2⟩ := least (p := fun n => 1 ≤ a * 2 ^ n) a.den (by
      by_cases z : a * 2 ^ a.den < 1
      · have := pow_lt ha ho.d z; omega
      · grind)
    exact ⟨n, h1, fun k hk => by have := h2 k hk; grind⟩
  obtain ⟨n, hn⟩ := hfin
  refine ⟨n, hn, ?_⟩
  refine while_toR (fun s => ∃ k : Nat, s = .int k ∧ ∀ j, j < k → a * 2 ^ j < 1) (fun s => match s with | .int k => a.den - k.toNat | _ => 0) (fun s => s = .int n) ⟨0, rfl, by omega⟩ (by simp [szDs, szD, fr]; omega) ?_ fun s h2 => by rw [h2]; rfl
  rintro s ⟨k, rfl, hk⟩
  have hg := bf_go ha ho hk
  have hsm : Small a.num := small_of 60000000 (big_lim ho.n) (Nat.le_refl _)
  have e2 : shlD (.int a.num) (.int (k : Int)) = some (.int (a.num * 2 ^ k)) := by
    have : (0 : Int) ≤ k ∧ (k : Int) ≤ 1000000 ∧ Small a.num := ⟨by omega, by omega, hsm⟩
    exact if_pos (chk_of this)
  simp only [fr_def, idx_tup0, idx_tup1, R.lift_some, R.bind_ok, e2, lt_int, iadd_int, ofR_ok']
  by_cases hc : a * 2 ^ k < 1
  · refine .inr ⟨by rw [decide_eq_true (lt_one_iff.mp hc)], _, rfl, ⟨k + 1, by simp, fun j hj => ?_⟩, ?_⟩
    · rcases Nat.lt_or_ge j k with z | z
      · exact hk j z
      · rw [show j = k by omega]; exact hc
    · have := pow_lt ha ho.d hc
      simp only []
      omega
  · refine .inl ⟨by rw [decide_eq_false (fun z => hc (lt_one_iff.mpr z))], ?_⟩
    have : IsBf a k := ⟨by grind, hk⟩
    rw [hn.uniq this]
theorem M_lbits {a : Rat} (ha : 0 < a) (ho : Ok a) {n : Nat} (hn : IsBf a n) : M__law_bits_for [fr a] = .ok (.int n) := by
  show (B__law_bits_for _).toR = _
  unfold B__law_bits_for
  simp only [R.bind_ok, ofR_ok', tup2_two]
  refine while_toR (fun s => ∃ k : Nat, s = (.int k, .int ((2 ^ k : Nat) : Int)) ∧ ∀ j, j < k → a * 2 ^ j < 1) (fun s => match s.1 with | .int k => a.den - k.toNat | _ => 0) (fun s => s.1 = .int n) ⟨0, rfl, by omega⟩ (by simp [szDs, szD, fr]; omega) ?_ fun s h2 => by rw [h2]; rfl
  rintro s ⟨k, rfl, hk⟩
  have hg := bf_go ha ho hk
  have hp : 2 ^ k < 2 ^ 60000000 := Nat.pow_lt_pow_right (by decide) (by omega)
  have e2 : mulM (.int a.num) (.int ((2 ^ k : Nat) : Int)) = some (.int (a.num * 2 ^ k)) := by
    rw [mul_b (big_lim ho.n) (by simpa using hp)]
    push_cast; rfl
  simp only [fr_def, idx_tup0, idx_tup1, R.lift_some, R.bind_ok, e2, lt_int]
  by_cases hc : a * 2 ^ k < 1
  · refine .inr ⟨by rw [decide_eq_true (lt_one_iff.mp hc)], (.int (k + 1 : Nat), .int ((2 ^ (k + 1) : Nat) : Int)), ?_, ⟨k + 1, rfl, fun j hj => ?_⟩, ?_⟩
    · simp only [add_int, R.lift_some, R.bind_ok]
      rw [mul_l (by decide) (by decide)]
      simp only [R.lift_some, R.bind_ok, ofR_ok', lst2_two]
      rw [Nat.pow_succ]
      push_cast
      rw [Int.mul_comm]
    · rcases Nat.lt_or_ge j k with z | z
      · exact hk j z
      · rw [show j = k by omega]; exact hc
    · have := pow_lt ha ho.d hc
      simp only []
      omega
  · refine .inl ⟨by rw [decide_eq_false (fun z => hc (lt_one_iff.mpr z))], ?_⟩
    have : IsBf a k := ⟨by grind, hk⟩
    rw [hn.uniq this]
theorem M_isb {bits : List Bool} (hb : bits.length ≤ 6) : M_is_bits [bsD bits] = .ok (.bl true) := by
  show (B_is_bits _).toR = _
  unfold B_is_bits
  simp only [R.bind_ok, iter_bits hb, R.lift_some]
  rw [compM_map (g := fun b => D.str [bc b]) (F := fun b => D.bl true) _ _ fun b _ => by cases b <;> rfl]
  simp only [R.bind_ok, all_map bits fun _ => true, R.lift_some, ofR_ok', toR_rt]
  simp
theorem M_chk {bits : List Bool} (hb : bits.length ≤ 6) : M_check_bits [bsD bits] = .ok .non := by
  show (B_check_bits _).toR = _
  unfold B_check_bits
  simp only [R.bind_ok, M_isb hb, tru_bl, R.lift_some]
  rw [show lenD (bsD bits) = some (.int (bits.length : Nat)) from by unfold bsD; rw [len_str (str_ok hb), List.length_map], show G_MOST_BITS = .int 100000 from rfl]
  simp only [R.lift_some, R.bind_ok, gt_int, decide_eq_false (show ¬ (100000 : Int) < bits.length by omega), Bool.false_eq_true, if_false, Bool.not_true, ofR_ok', toR_nx]
def vD (V : List (List Rat)) : D := .tup (V.map rowD)
theorem iter_row (row : List Rat) : iterD (rowD row) = some (row.map fr) := rfl
theorem iter_v (V : List (List Rat)) : iterD (vD V) = some (V.map rowD) := rfl
theorem len_row (row : List Rat) : lenD (rowD row) = some (.int row.length) := by unfold rowD; rw [len_tup, List.length_map]
theorem len_v (V : List (List Rat)) : lenD (vD V) = some (.int V.length) := by unfold vD; rw [len_tup, List.length_map]
theorem tru_v (V : List (List Rat)) : truD (vD V) = some (!V.isEmpty) := by
  cases V <;> rfl
theorem En.ok {a : Rat} (h : En a) : Ok a := h.q.ok (by decide) (p420 (k := 1) (by decide)) (p420 (k := 1) (by decide))
theorem ok_one : Ok 1 := ⟨big_le (k := 2) (by decide) (by decide), big_le (k := 2) (by decide) (by decide)⟩
theorem ok_zero : Ok 0 := ⟨big_le (k := 2) (by decide) (by decide), big_le (k := 2) (by decide) (by decide)⟩
/-- voices that are right -/
structure Vs (V : List (List Rat)) (n : Nat) : Prop where
  e : ∀ row ∈ V, ∀ a ∈ row, En a
  l : ∀ row ∈ V, row.length = n
  p : V ≠ []
  m : V.length ≤ 4
theorem M_chkv {V : List (List Rat)} {n : Nat} (h : Vs V n) : M_check_voices [vD V, .int n] = .ok .non := by
  show (B_check_voices _ _).toR = _
  unfold B_check_voices
  simp only [R.bind_ok, tru_v, iter_v, R.lift_some]
  have hz : V.isEmpty = false := by simp [h.p]
  rw [compM_map (g := rowD) (F := fun row : List Rat => D.bl true) _ _ fun row hr => by
    simp only [len_row, h.l row hr, R.lift_some, R.bind_ok, eq_int, itM, if_true, Option.map_some, beq_self_eq_true]]
  simp only [R.bind_ok, all_map V fun _ => true, R.lift_some, tru_bl, hz, Bool.not_false, Bool.not_true, Bool.false_eq_true, if_false]
  rw [show (V.all fun _ => true) = true by simp]
  simp only [Bool.not_true, ofR_ok', Bool.false_eq_true, if_false]
  rw [compM_map (g := rowD) (F := fun row : List Rat => D.bl true) _ _ fun row hr => by
    simp only [iter_row, R.lift_some, R.bind_ok, itM, if_true]
    rw [compM_map (g := fr) (F := fun a : Rat => D.bl true) _ _ fun a ha => by
      have he := h.e row hr a ha
      have e1 : M_less [G_ZERO, fr a] = .ok (.bl true) := by rw [show G_ZERO = fr 0 from rfl, M_less_ ok_zero he.ok, decide_eq_true he.p]
      have e2 : M_less [fr a, G_ONE] = .ok (.bl true) := by rw [show G_ONE = fr 1 from rfl, M_less_ he.ok ok_one, decide_eq_true he.l]
      simp only [R.bind_ok, e1, e2, tru_bl, R.lift_some, if_true]]
    simp only [R.bind_ok, all_map row fun _ => true, R.lift_some]
    rw [show (row.all fun _ => true) = true by simp]]
  simp only [R.bind_ok, all_map V fun _ => true, R.lift_some, tru_bl]
  rw [show (V.all fun _ => true) = true by simp]
  rfl
theorem M_chkv_len {V : List (List Rat)} {n m : Nat} (h : Vs V n) (hm : n ≠ m) : M_check_voices [vD V, .int m] = .ex "InvalidCounts" := by
  show (B_check_voices _ _).toR = _
  unfold B_check_voices
  simp only [R.bind_ok, tru_v, iter_v, R.lift_some]
  have hz : V.isEmpty = false := by simp [h.p]
  rw [compM_map (g := rowD) (F := fun row : List Rat => D.bl false) _ _ fun row hr => by
    simp only [len_row, h.l row hr, R.lift_some, R.bind_ok, eq_int, itM, if_true, Option.map_some]
    rw [beq_eq_false_iff_ne.mpr (show (n : Int) ≠ m by omega)]]
  simp only [R.bind_ok, all_map V fun _ => false, R.lift_some, tru_bl, hz, Bool.not_false, Bool.not_true, Bool.false_eq_true, if_false]
  rw [show (V.all fun _ => false) = false by
    cases V with
    | nil => exact absurd rfl h.p
    | cons _ _ => simp]
  rfl
/-! ### voices -/
theorem inv_Q {m : Nat} (h : 0 < m) (h4 : m ≤ 4) : Q 12 1 (1 / (m : Rat)) := by
  have hc : m = 1 ∨ m = 2 ∨ m = 3 ∨ m = 4 := by omega
  rcases hc with rfl | rfl | rfl | rfl <;> exact ⟨by decide +kernel, by decide +kernel, by decide +kernel⟩
theorem share_inv {m : Nat} (h : 0 < m) (h4 : m ≤ 4) : M_share [.int 1, .int m] = .ok (fr (1 / (m : Rat))) := by
  rw [M_share_ (by omega) (by
    have : m < 2 ^ 9000 := Nat.lt_of_le_of_lt h4 (Nat.lt_of_lt_of_le (show 4 < 2 ^ 3 by decide) (Nat.pow_le_pow_right (by decide) (by decide)))
    simpa using this), Rat.divInt_eq_div]
  norm_cast
/-- a bound for all that is reckoned with voices -/
def NN : Nat := 12 * 420 ^ 6
theorem nn_pos : 0 < NN := by decide
theorem nn_big : NN < Big := big_le (k := 64) (by decide) (by decide)
theorem nn_big4 {k : Nat} (h : k ≤ 64) : k * NN < Big := by
  have : k * NN ≤ 64 * NN := Nat.mul_le_mul_right _ h
  exact Nat.lt_of_le_of_lt this (big_le (k := 80) (by decide) (by decide))
theorem QN.ok {q : Rat} {C : Nat} (h : Q NN C q) (hC : C ≤ 64) : Ok q := h.ok nn_pos nn_big (nn_big4 hC)
theorem dvd420 {k : Nat} (h : k ≤ 6) : 420 ^ k ∣ NN := Nat.dvd_trans (Nat.pow_dvd_pow _ h) ⟨12, by decide⟩
theorem ah_Q {row : List Rat} {bits : List Bool} (k : Nat) (h : ∀ a ∈ row, En a) (hl : row.length ≤ 6) : Q (420 ^ min k (min row.length bits.length)) 1 (ah k row bits) := by
  unfold ah
  have := shr_Q (row := row.take k) (bits := bits.take k) (n := 0) (c := 1) (fun a ha => h a (List.mem_of_mem_take ha)) Q.one
  rw [List.length_take, List.length_take] at this
  rw [show min k (min row.length bits.length) = 0 + min (min k row.length) (min k bits.length) by omega]
  exact this
theorem ah_QN {row : List Rat} {bits : List Bool} (k : Nat) (h : ∀ a ∈ row, En a) (hl : row.length ≤ 6) : Q NN 1 (ah k row bits) := (ah_Q k h hl).mono (dvd420 (by omega)) (Nat.le_refl _)
theorem shr_ah {row : List Rat} {bits : List Bool} (h : row.length = bits.length) : ah bits.length row bits = shr 1 row bits := ah_all (by omega) (Nat.le_refl _)
theorem M_voices {V : List (List Rat)} {bits : List Bool} (h : Vs V bits.length) (hb : bits.length ≤ 6) : compM (V.map rowD) (fun d14 => itM (R.ok true) (M_voice_share [d14, bsD bits])) = .ok (V.map fun row => fr (ah bits.length row bits)) := by
  rw [compM_map (g := rowD) (F := fun row : List Rat => fr (ah bits.length row bits)) _ _ fun row hr => by
    rw [M_voice (h.e row hr) hb (by rw [h.l row hr]; exact hb), shr_ah (h.l row hr)]; rfl]
/-- the mixture's share of the first k bits -/
def mx (V : List (List Rat)) (bits : List Bool) (k : Nat) : Rat := 1 / (V.length : Rat) * sm (V.map fun row => ah k row bits)
theorem M_mixed {V : List (List Rat)} {bits : List Bool} (h : Vs V bits.length) (hb : bits.length ≤ 6) : M_mixed_share [vD V, bsD bits] = .ok (fr (mx V bits bits.length)) := by
  show (B_mixed_share _ _).toR = _
  unfold B_mixed_share
  have hm : 0 < V.length := by have := h.p; cases V with | nil => exact absurd rfl this | cons _ _ => simp
  have hlen : lenD (bsD bits) = some (.int (bits.length : Nat)) := by unfold bsD; rw [len_str (str_ok hb), List.length_map]
  simp only [R.bind_ok, M_chk hb, ofR_ok', hlen, len_v, R.lift_some, M_chkv h, share_inv hm h.m, iter_v, M_voices h hb]
  have hq : ∀ a ∈ V.map fun row => ah bits.length row bits, Q NN 1 a := fun a ha => by
    obtain ⟨row, hr, rfl⟩ := List.mem_map.mp ha
    exact ah_QN _ (h.e row hr) (by rw [h.l row hr]; exact hb)
  have hl : ((V.map fun row => ah bits.length row bits).length * 1) * NN < Big := nn_big4 (by have := h.m; simp; omega)
  have e : (V.map fun row => fr (ah bits.length row bits)) = (V.map fun row => ah bits.length row bits).map fr := by simp
  rw [e, M_sum hq nn_pos nn_big hl]
  simp only [R.bind_ok]
  have o1 : Ok (1 / (V.length : Rat)) := (inv_Q hm h.m).ok (by decide) (big_le (k := 8) (by decide) (by decide)) (big_le (k := 8) (by decide) (by decide))
  have o2 : Ok (sm (V.map fun row => ah bits.length row bits)) := by
    have key : ∀ l : List Rat, (∀ a ∈ l, Q NN 1 a) → Q NN l.length (sm l) := by
      intro l
      induction l with
      | nil => intro _; exact Q.zero _ _
      | cons x l ih =>
        intro hx
        rw [sm_cons, List.length_cons, Nat.add_comm]
        exact (hx x List.mem_cons_self).add nn_pos (ih fun y hy => hx y (List.mem_cons_of_mem _ hy))
    exact QN.ok (key _ hq) (by have := h.m; simp; omega)
  rw [M_times_ o1 o2]
  rfl
theorem M_mixed_ex {V : List (List Rat)} {bits : List Bool} {n : Nat} (h : Vs V n) (hn : n ≠ bits.length) (hb : bits.length ≤ 6) : M_mixed_share [vD V, bsD bits] = .ex "InvalidCounts" := by
  show (B_mixed_share _ _).toR = _
  unfold B_mixed_share
  have hlen : lenD (bsD bits) = some (.int (bits.length : Nat)) := by unfold bsD; rw [len_str (str_ok hb), List.length_map]
  simp only [R.bind_ok, M_chk hb, ofR_ok', hlen, R.lift_some, M_chkv_len h hn]
  rfl
/-- weights, told by the row -/
theorem M_heard_ {V : List (List Rat)} {n k N C : Nat} {w : List Rat → Rat} (h : Vs V n) (hk : k < n) (hn : n ≤ 6) (hw : ∀ row ∈ V, Ok (w row)) (b : Bool) : M_heard [.lst (V.map fun row => fr (w row)), vD V, .int k, .str [bc b]] = .ok (.lst (V.map fun row => fr (w row * said (row.getD k 0) b))) := by
  show (B_heard _ _ _ _).toR = _
  unfold B_heard
  simp only [R.bind_ok, iter_v, R.lift_some, eq_bc]
  have hget : ∀ row ∈ V, idxD (rowD row) (.int (k : Int)) = some (fr (row.getD k 0)) := fun row hr => by
    have hk' : k < row.length := by rw [h.l row hr]; exact hk
    exact idx_tup (by simp [hk'])
  rw [compM_map (g := rowD) (F := fun row : List Rat => fr (said (row.getD k 0) b)) _ _ fun row hr => by
    simp only [hget row hr, R.lift_some, R.bind_ok]
    unfold said
    cases b
    · simp only [Bool.false_eq_true, if_false, one_sub]
      simp only [fr_def (row.getD k 0), idx_tup0, idx_tup1, R.lift_some, R.bind_ok, sub_int]
      rfl
    · simp only [if_true]; rfl]
  simp only [R.bind_ok, ofR_ok']
  rw [zipD_some (iter_lst _) (iter_lst _) (by rw [zip_map, List.length_map]; exact Nat.le_trans h.m (by decide)), zip_map]
  simp only [R.lift_some, R.bind_ok]
  rw [compM_map (g := fun row : List Rat => D.tup [fr (w row), fr (said (row.getD k 0) b)]) (F := fun row : List Rat => fr (w row * said (row.getD k 0) b)) _ _ fun row hr => by
    have hk' : k < row.length := by rw [h.l row hr]; exact hk
    have he : En (row.getD k 0) := h.e row hr _ (by simp [hk'])
    have o1 : Ok (said (row.getD k 0) b) := (he.said b).ok (by decide) (p420 (k := 1) (by decide)) (p420 (k := 1) (by decide))
    simp only [tup2_two]
    rw [M_times_ (hw row hr) o1]
    rfl]
  rfl
theorem sm_QN {N C : Nat} (hN : 0 < N) : ∀ l : List Rat, (∀ a ∈ l, Q N C a) → Q N (l.length * C) (sm l)
  | [], _ => Q.zero _ _
  | x :: l, hx => by
    rw [sm_cons, List.length_cons, Nat.succ_mul, Nat.add_comm]
    exact (hx x List.mem_cons_self).add hN (sm_QN hN l fun y hy => hx y (List.mem_cons_of_mem _ hy))
theorem Vs.pos {V : List (List Rat)} {n : Nat} (h : Vs V n) : 0 < V.length := by
  have := h.p
  cases V with
  | nil => exact absurd rfl this
  | cons _ _ => simp
theorem Vs.inn {V : List (List Rat)} {n : Nat} (h : Vs V n) : ∀ row ∈ V, In row := fun row hr a ha => ⟨(h.e row hr a ha).p, (h.e row hr a ha).l⟩
theorem len_bits {bits : List Bool} (hb : bits.length ≤ 6) : lenD (bsD bits) = some (.int (bits.length : Nat)) := by unfold bsD; rw [len_str (str_ok hb), List.length_map]
theorem w_Q {V : List (List Rat)} {bits : List Bool} (h : Vs V bits.length) (hb : bits.length ≤ 6) {row : List Rat} (hr : row ∈ V) {k : Nat} (hk : k ≤ bits.length) : Q (12 * 420 ^ k) 1 (1 / (V.length : Rat) * ah k row bits) := by
  have h1 := (inv_Q h.pos h.m).mul (ah_Q (row := row) (bits := bits) k (h.e row hr) (by rw [h.l row hr]; exact hb))
  rw [h.l row hr, show min k (min bits.length bits.length) = k by omega] at h1
  exact h1
theorem w_QN {V : List (List Rat)} {bits : List Bool} (h : Vs V bits.length) (hb : bits.length ≤ 6) {row : List Rat} (hr : row ∈ V) {k : Nat} (hk : k ≤ bits.length) : Q NN 1 (1 / (V.length : Rat) * ah k row bits) :=
  (w_Q h hb hr hk).mono (Nat.mul_dvd_mul (Nat.dvd_refl _) (Nat.pow_dvd_pow _ (by omega))) (Nat.le_refl _)
theorem wr_QN {V : List (List Rat)} {bits : List Bool} (h : Vs V bits.length) (hb : bits.length ≤ 6) {row : List Rat} (hr : row ∈ V) {k : Nat} (hk : k < bits.length) : Q NN 1 (1 / (V.length : Rat) * ah k row bits * row.getD k 0) := by
  have hk' : k < row.length := by rw [h.l row hr]; exact hk
  have he : En (row.getD k 0) := h.e row hr _ (by simp [hk'])
  have h1 := (w_Q h hb hr (k := k) (by omega)).mul he.q
  rw [Nat.mul_assoc, ← Nat.pow_succ] at h1
  exact h1.mono (Nat.mul_dvd_mul (Nat.dvd_refl _) (Nat.pow_dvd_pow _ (by omega))) (Nat.le_refl _)
theorem map_fr {α : Type} (V : List α) (f : α → Rat) : (V.map fun row => fr (f row)) = (V.map f).map fr := by simp
theorem M_sumV {V : List (List Rat)} {n : Nat} (h : Vs V n) {f : List Rat → Rat} (hf : ∀ row ∈ V, Q NN 1 (f row)) : M_sum_of [.lst (V.map fun row => fr (f row))] = .ok (fr (sm (V.map f))) ∧ Ok (sm (V.map f)) := by
  have hq : ∀ a ∈ V.map f, Q NN 1 a := fun a ha => by
    obtain ⟨row, hr, rfl⟩ := List.mem_map.mp ha
    exact hf row hr
  have hl : ((V.map f).length * 1) ≤ 64 := by have := h.m; simp; omega
  exact ⟨by rw [map_fr, M_sum hq nn_pos nn_big (nn_big4 hl)], QN.ok (sm_QN nn_pos _ hq) hl⟩
theorem M_next {V : List (List Rat)} {bits : List Bool} (h : Vs V bits.length) (hb : bits.length ≤ 6) : M_said_next [vD V, bsD bits] = .ok (.tup ((List.range bits.length).map fun k => fr (sayN V bits k))) := by
  show (B_said_next _ _).toR = _
  unfold B_said_next
  simp only [bok, M_chk hb, ook, len_bits hb, len_v, lok, M_chkv h, share_inv h.pos h.m]
  have e0 : repL (.lst [fr (1 / (V.length : Rat))]) (.int V.length) = some (.lst (List.replicate V.length (fr (1 / (V.length : Rat))))) := by 
    exact rep_one (Nat.le_trans h.m (by decide))
  simp only [e0, lok, ook, lstK_lst]
  rw [enumD_some (iter_bits hb) (by rw [List.length_map]; exact Nat.le_trans hb (by decide))]
  simp only [R.lift_some, ofR_ok']
  refine forR_toR (S := fun k => ((List.range k).map fun j => fr (sayN V bits j), .lst (V.map fun row => fr (1 / (V.length : Rat) * ah k row bits)))) (by simp only [ah_zero, Rat.mul_one, List.map_const', List.range_zero, List.map_nil]) (fun k hk => ?_) ?_
  · have hk2 : k < bits.length := by simpa [enumL_len2] using hk
    rw [enumL_get2 hk (by simpa using hk2)]
    simp only [tup2_two, List.getElem_map]
    rw [zipD_some (xs := V.map fun row => fr (1 / (V.length : Rat) * ah k row bits)) (ys := V.map rowD) (iter_lst _) (iter_v V) (by rw [zip_map, List.length_map]; exact Nat.le_trans h.m (by decide)), zip_map]
    simp only [R.lift_some, R.bind_ok]
    rw [compM_map (g := fun row : List Rat => D.tup [fr (1 / (V.length : Rat) * ah k row bits), rowD row]) (F := fun row : List Rat => fr (1 / (V.length : Rat) * ah k row bits * row.getD k 0)) _ _ fun row hr => by
      have hk' : k < row.length := by rw [h.l row hr]; exact hk2
      have he : En (row.getD k 0) := h.e row hr _ (by simp [hk'])
      simp only [tup2_two]
      rw [show idxD (rowD row) (.int (k : Int)) = some (fr (row.getD k 0)) from idx_tup (by simp [hk'])]
      simp only [R.lift_some, R.bind_ok]
      rw [M_times_ (QN.ok (w_QN h hb hr (by omega)) (by decide)) he.ok]
      rfl]
    obtain ⟨e1, o1⟩ := M_sumV h (f := fun row => 1 / (V.length : Rat) * ah k row bits * row.getD k 0) fun row hr => wr_QN h hb hr hk2
    obtain ⟨e2, o2⟩ := M_sumV h (f := fun row => 1 / (V.length : Rat) * ah k row bits) fun row hr => w_QN h hb hr (by omega)
    have hpos := sah_pos (bits := bits) k h.inn h.p
    have hm : (0 : Rat) < V.length := by exact_mod_cast h.pos
    have hinv : (0 : Rat) < 1 / (V.length : Rat) := by
      rw [Rat.div_def]
      have := Rat.inv_pos.mpr hm
      grind
    have ey : sm (V.map fun row => 1 / (V.length : Rat) * ah k row bits) = 1 / (V.length : Rat) * sm (V.map fun row => ah k row bits) := sm_map_mul _ _ _
    have hy : sm (V.map fun row => 1 / (V.length : Rat) * ah k row bits) ≠ 0 := by
      rw [ey]
      have := Rat.mul_pos hinv hpos
      grind
    simp only [R.bind_ok, e1, e2, ofR_ok']
    rw [M_over_ o1 o2 hy]
    have es : sm (V.map fun row => 1 / (V.length : Rat) * ah k row bits * row.getD k 0) / sm (V.map fun row => 1 / (V.length : Rat) * ah k row bits) = sayN V bits k := by
      have ex : sm (V.map fun row => 1 / (V.length : Rat) * ah k row bits * row.getD k 0) = 1 / (V.length : Rat) * sm (V.map fun row => ah k row bits * row.getD k 0) := by
        rw [← sm_map_mul]
        exact congrArg sm (map_congr' fun row _ => by grind)
      rw [ex, ey]
      unfold sayN
      grind
    rw [es]
    simp only [ofR_ok', List.length_map, List.length_range]
    rw [if_pos (show k < sizeLine from Nat.lt_of_lt_of_le (show k < 7 by omega) (by decide))]
    rw [M_heard_ (n := bits.length) (N := 1) (C := 1) h hk2 hb (fun row hr => QN.ok (w_QN h hb hr (by omega)) (by decide))]
    simp only [ofR_ok']
    refine congrArg O.nx (Prod.ext ?_ (congrArg D.lst ?_))
    · show _ = (List.range (k + 1)).map _
      rw [List.range_succ, List.map_append]; rfl
    · refine map_congr' fun row hr => ?_
      have hk' : k < row.length := by rw [h.l row hr]; exact hk2
      have eg : row.getD k 0 = row[k] := by simp [hk']
      rw [ah_succ hk' hk2, eg, Rat.mul_assoc]
  · simp only [enumL_len2, List.length_map, tup_lst, R.lift_some, R.bind_ok, ofR_ok', toR_rt]
/-! ### the best voice -/
def bst (l : List Rat) (b : Rat) : Rat := l.foldl (fun b x => if b < x then x else b) b
theorem bst_mem : ∀ (l : List Rat) (b : Rat), bst l b = b ∨ bst l b ∈ l
  | [], b => .inl rfl
  | x :: l, b => by
    show bst l (if b < x then x else b) = b ∨ bst l (if b < x then x else b) ∈ x :: l
    rcases bst_mem l (if b < x then x else b) with h | h
    · by_cases hb : b < x
      · rw [if_pos hb] at h ⊢; exact .inr (by rw [h]; exact List.mem_cons_self)
      · rw [if_neg hb] at h ⊢; exact .inl h
    · exact .inr (List.mem_cons_of_mem _ h)
theorem sm_ge {l : List Rat} (h : ∀ x ∈ l, 0 ≤ x) {x : Rat} (hx : x ∈ l) : x ≤ sm l := by
  induction l with
  | nil => cases hx
  | cons y l ih =>
    rw [sm_cons]
    have h1 := h y List.mem_cons_self
    have h2 := sm_nonneg fun z hz => h z (List.mem_cons_of_mem _ hz)
    rcases List.mem_cons.mp hx with e | e
    · rw [e]; grind
    · have := ih (fun z hz => h z (List.mem_cons_of_mem _ hz)) e; grind
theorem inv_pos' {m : Nat} (h : 0 < m) : (0 : Rat) < 1 / (m : Rat) := by
  have hm : (0 : Rat) < m := by exact_mod_cast h
  rw [Rat.div_def]
  have := Rat.inv_pos.mpr hm
  grind
theorem mx_Q {V : List (List Rat)} {bits : List Bool} (h : Vs V bits.length) (hb : bits.length ≤ 6) : Ok (mx V bits bits.length) ∧ 0 < mx V bits bits.length ∧ mx V bits bits.length ≤ 1 := by
  have hq : ∀ a ∈ V.map fun row => ah bits.length row bits, Q (420 ^ bits.length) 1 a := fun a ha => by
    obtain ⟨row, hr, rfl⟩ := List.mem_map.mp ha
    have := ah_Q (bits := bits) bits.length (h.e row hr) (by rw [h.l row hr]; exact hb)
    rw [h.l row hr, show min bits.length (min bits.length bits.length) = bits.length by omega] at this
    exact this
  have h1 := sm_QN (Nat.pow_pos (by decide)) _ hq
  have h2 := (inv_Q h.pos h.m).mul h1
  have hp := Rat.mul_pos (inv_pos' h.pos) (sah_pos (bits := bits) bits.length h.inn h.p)
  refine ⟨QN.ok (C := 4) (h2.mono (Nat.mul_dvd_mul (Nat.dvd_refl _) (Nat.pow_dvd_pow _ (by omega))) (by have := h.m; simp; omega)) (by decide), hp, ?_⟩
  have h3 := h1.le
  have h4 := Rat.mul_le_mul_of_nonneg_left h3 (Rat.le_of_lt (inv_pos' h.pos))
  have hm : ((V.length : Nat) : Rat) ≠ 0 := by
    intro z
    have : V.length = 0 := by exact_mod_cast z
    have := h.pos; omega
  unfold mx
  simp only [List.length_map, Nat.mul_one] at h4
  have e : 1 / (V.length : Rat) * (V.length : Rat) = 1 := by grind
  rw [e] at h4
  exact h4
theorem best_Q {V : List (List Rat)} {bits : List Bool} (h : Vs V bits.length) (hb : bits.length ≤ 6) {x : Rat} (hx : x ∈ V.map fun row => ah bits.length row bits) : Ok x ∧ 0 < x ∧ x ≤ 1 := by
  obtain ⟨row, hr, rfl⟩ := List.mem_map.mp hx
  have h1 := ah_QN (bits := bits) bits.length (h.e row hr) (by rw [h.l row hr]; exact hb)
  exact ⟨QN.ok h1 (by decide), ah_pos (h.inn row hr), by have := h1.le; simpa using this⟩
theorem M_lost {V : List (List Rat)} {bits : List Bool} {row0 : List Rat} {V' : List (List Rat)} (hV : V = row0 :: V') (h : Vs V bits.length) (hb : bits.length ≤ 6) : ∃ n1 n2 n3 : Nat, IsBf (mx V bits bits.length) n1 ∧ IsBf (bst (V.map fun row => ah bits.length row bits) (ah bits.length row0 bits)) n2 ∧ IsBf (1 / (V.length : Rat)) n3 ∧ M_most_lost [vD V, bsD bits] = .ok (.tup [.int n1, .int n2, .int n3]) := by
  obtain ⟨o1, p1, l1⟩ := mx_Q h hb
  have h0 : row0 ∈ V := by rw [hV]; exact List.mem_cons_self
  have hmem : bst (V.map fun row => ah bits.length row bits) (ah bits.length row0 bits) ∈ V.map fun row => ah bits.length row bits := by
    rcases bst_mem (V.map fun row => ah bits.length row bits) (ah bits.length row0 bits) with e | e
    · rw [e]; exact List.mem_map.mpr ⟨row0, h0, rfl⟩
    · exact e
  obtain ⟨o2, p2, l2⟩ := best_Q h hb hmem
  have q3 := inv_Q h.pos h.m
  have o3 : Ok (1 / (V.length : Rat)) := q3.ok (by decide) (big_le (k := 8) (by decide) (by decide)) (big_le (k := 8) (by decide) (by decide))
  obtain ⟨n1, b1, e1⟩ := M_bits p1 l1 o1
  obtain ⟨n2, b2, e2⟩ := M_bits p2 l2 o2
  obtain ⟨n3, b3, e3⟩ := M_bits (inv_pos' h.pos) (by have := q3.le; simpa using this) o3
  refine ⟨n1, n2, n3, b1, b2, b3, ?_⟩
  show (B_most_lost _ _).toR = _
  unfold B_most_lost
  have hs0 : idxD (vD V) (.int 0) = some (rowD row0) := by rw [hV]; exact idx_tup0 _ _
  have hv : ∀ row ∈ V, M_voice_share [rowD row, bsD bits] = .ok (fr (ah bits.length row bits)) := fun row hr => by
    rw [M_voice (h.e row hr) hb (by rw [h.l row hr]; exact hb), shr_ah (h.l row hr)]
  simp only [bok, ook, len_bits hb, lok, M_chkv h, hs0, hv row0 h0, iter_v, len_v, M_mixed h hb, e1, share_inv h.pos h.m, e3]
  refine for_toR (gd := rowD) (l := V) fr (fun b row => if b < ah bits.length row bits then ah bits.length row bits else b) (fun n b => Ok b) (ah bits.length row0 bits) rfl (best_Q h hb (List.mem_map.mpr ⟨row0, h0, rfl⟩)).1 (fun row hr n b hn hq => ?_) fun _ => ?_
  · have ho := (best_Q h hb (List.mem_map.mpr ⟨row, hr, rfl⟩)).1
    simp only [hv row hr, ook, M_less_ hq ho, bok, tru_bl, lok]
    by_cases hc : b < ah bits.length row bits
    · simp only [hc, decide_true, if_true, ook]
      exact ⟨trivial, ho⟩
    · simp only [hc, decide_false, Bool.false_eq_true, if_false, ook]
      exact ⟨trivial, hq⟩
  · have ef : V.foldl (fun b row => if b < ah bits.length row bits then ah bits.length row bits else b) (ah bits.length row0 bits) = bst (V.map fun row => ah bits.length row bits) (ah bits.length row0 bits) := by
      unfold bst
      rw [List.foldl_map]
    rw [ef]
    simp only [e2, bok, ook]
    rfl
/-! ### switching -/
def Vf (V : List (List Rat)) (k at_ : Nat) : Rat := (V.getD k []).getD at_ 0
def wr (V : List (List Rat)) (rate : Rat) (w : List Rat → Rat) (row : List Rat) : Rat := (1 - rate) * w row + rate / ((V.length : Rat) - 1) * (sm (V.map w) - w row)
def Wk (V : List (List Rat)) (bits : List Bool) (rate : Rat) : Nat → List Rat → Rat
  | 0, _ => 1 / (V.length : Rat)
  | k + 1, row => (if k = 0 then Wk V bits rate k row else wr V rate (Wk V bits rate k) row) * said (row.getD k 0) (bits.getD k false)
theorem sm_su (V : List (List Rat)) (w : List Rat → Rat) : sm (V.map w) = su (fun k => w (V.getD k [])) V.length := by
  rw [← sm_range]
  congr 1
  refine List.ext_getElem (by simp) fun k h1 h2 => ?_
  have hk : k < V.length := by simpa using h1
  simp [hk]
theorem sg_W (V : List (List Rat)) (bits : List Bool) (rate : Rat) : ∀ (r k : Nat), k + r = bits.length → sg V.length rate (Vf V) (bits.drop k) k (fun j => Wk V bits rate k (V.getD j [])) = sm (V.map (Wk V bits rate bits.length))
  | 0, k, h => by
    rw [List.drop_eq_nil_of_le (by omega), show k = bits.length by omega]
    simp only [sg]
    rw [sm_su]
  | r + 1, k, h => by
    have hk : k < bits.length := by omega
    rw [List.drop_eq_getElem_cons hk]
    simp only [sg]
    rw [← sg_W V bits rate r (k + 1) (by omega)]
    congr 1
    funext j
    have eb : bits.getD k false = bits[k] := by simp [hk]
    simp only [Wk, eb]
    congr 1
    by_cases h0 : k = 0
    · rw [if_pos h0, if_pos h0]
    · rw [if_neg h0, if_neg h0]
      unfold wst wr
      rw [sm_su]
structure Rt (rate : Rat) : Prop where
  q : Q 30 1 rate
  p : 0 < rate
  l : rate < 1
theorem Rt.ok {r : Rat} (h : Rt r) : Ok r := h.q.ok (by decide) (big_le (k := 8) (by decide) (by decide)) (big_le (k := 8) (by decide) (by decide))
theorem other_Q {rate : Rat} (h : Rt rate) {m : Nat} (h2 : 2 ≤ m) (h4 : m ≤ 4) : Q 180 1 (rate / ((m : Rat) - 1)) := by
  have hc : m = 2 ∨ m = 3 ∨ m = 4 := by omega
  have key : ∀ c : Rat, Q 6 1 c → Q 180 1 (rate * c) := fun c hc => h.q.mul hc
  rcases hc with rfl | rfl | rfl
  · have := key 1 (by exact ⟨by decide +kernel, by decide +kernel, by decide +kernel⟩)
    rw [show rate / (((2 : Nat) : Rat) - 1) = rate * 1 by push_cast; grind]; exact this
  · have := key (1 / 2) (by exact ⟨by decide +kernel, by decide +kernel, by decide +kernel⟩)
    rw [show rate / (((3 : Nat) : Rat) - 1) = rate * (1 / 2) by push_cast; grind]; exact this
  · have := key (1 / 3) (by exact ⟨by decide +kernel, by decide +kernel, by decide +kernel⟩)
    rw [show rate / (((4 : Nat) : Rat) - 1) = rate * (1 / 3) by push_cast; grind]; exact this
theorem stay_Q {rate : Rat} (h : Rt rate) : Q 180 1 (1 - rate) :=
  ((Q.one.mono (by decide) (by decide)).sub (by decide) (h.q.mono (M := 180) ⟨6, rfl⟩ (Nat.le_refl _)) (by have := h.l; grind))
theorem wk_pos (k : Nat) : 0 < 12 * 75600 ^ k := Nat.mul_pos (by decide) (Nat.pow_pos (by decide))
theorem wk_big {k C : Nat} (hk : k ≤ 6) (hC : C ≤ 4 * 5 ^ 6) : C * (180 * (12 * 75600 ^ k)) < Big := by
  have h1 : 75600 ^ k ≤ 75600 ^ 6 := Nat.pow_le_pow_right (by decide) hk
  have h2 : C * (180 * (12 * 75600 ^ k)) ≤ 4 * 5 ^ 6 * (180 * (12 * 75600 ^ 6)) := Nat.mul_le_mul hC (Nat.mul_le_mul_left _ (Nat.mul_le_mul_left _ h1))
  exact Nat.lt_of_le_of_lt h2 (big_le (k := 150) (by decide) (by decide))
theorem qk_ok {k C : Nat} {q : Rat} (h : Q (180 * (12 * 75600 ^ k)) C q) (hk : k ≤ 6) (hC : C ≤ 4 * 5 ^ 6) : Ok q := by
  have hp := wk_pos k
  exact h.ok (by omega) (by have := wk_big (k := k) (C := 1) hk (by decide); omega) (wk_big hk hC)
theorem wr_Q {V : List (List Rat)} {n k : Nat} {rate : Rat} {w : List Rat → Rat} (h : Vs V n) (h2 : 2 ≤ V.length) (hr : Rt rate) (hw : ∀ row ∈ V, Q (12 * 75600 ^ k) (5 ^ k) (w row)) {row : List Rat} (hrow : row ∈ V) :
    Q (12 * 75600 ^ k) (4 * 5 ^ k) (sm (V.map w)) ∧ Q (12 * 75600 ^ k) (4 * 5 ^ k) (sm (V.map w) - w row) ∧ Q (180 * (12 * 75600 ^ k)) (5 ^ k) ((1 - rate) * w row) ∧ Q (180 * (12 * 75600 ^ k)) (4 * 5 ^ k) (rate / ((V.length : Rat) - 1) * (sm (V.map w) - w row)) ∧ Q (180 * (12 * 75600 ^ k)) (5 * 5 ^ k) (wr V rate w row) := by
  have hq : ∀ a ∈ V.map w, Q (12 * 75600 ^ k) (5 ^ k) a := fun a ha => by
    obtain ⟨row, hr, rfl⟩ := List.mem_map.mp ha
    exact hw row hr
  have h1 := sm_QN (wk_pos k) _ hq
  have h3 := h1.mono (Nat.dvd_refl _) (show (V.map w).length * 5 ^ k ≤ 4 * 5 ^ k from Nat.mul_le_mul_right _ (by have := h.m; simpa using this))
  have hge := sm_ge (fun x hx => (hq x hx).nn) (List.mem_map.mpr ⟨row, hrow, rfl⟩)
  have h5 := h3.sub (wk_pos k) (hw row hrow) hge
  have h6 := (stay_Q hr).mul (hw row hrow)
  have h7 := (other_Q hr h2 h.m).mul h5
  rw [Nat.one_mul] at h6 h7
  refine ⟨h3, h5, h6, h7, ?_⟩
  have := h6.add (by have := wk_pos k; omega) h7
  rw [show 5 ^ k + 4 * 5 ^ k = 5 * 5 ^ k by omega] at this
  exact this
theorem Wk_Q {V : List (List Rat)} {n : Nat} {rate : Rat} {bits : List Bool} (h : Vs V n) (h2 : 2 ≤ V.length) (hr : Rt rate) : ∀ k, k ≤ n → ∀ row ∈ V, Q (12 * 75600 ^ k) (5 ^ k) (Wk V bits rate k row)
  | 0, _, row, _ => by have := inv_Q h.pos h.m; simpa [Wk] using this
  | k + 1, hk, row, hrow => by
    have ih := Wk_Q (bits := bits) h h2 hr k (by omega)
    have hk' : k < row.length := by rw [h.l row hrow]; omega
    have he : En (row.getD k 0) := h.e row hrow _ (by simp [hk'])
    have hs := he.said (bits.getD k false)
    simp only [Wk]
    have key : Q (180 * (12 * 75600 ^ k)) (5 * 5 ^ k) (if k = 0 then Wk V bits rate k row else wr V rate (Wk V bits rate k) row) := by
      split
      · exact (ih row hrow).mono ⟨180, by rw [Nat.mul_comm]⟩ (by omega)
      · exact (wr_Q h h2 hr ih hrow).2.2.2.2
    have := key.mul hs
    rw [show 180 * (12 * 75600 ^ k) * 420 = 12 * 75600 ^ (k + 1) by rw [Nat.pow_succ]; omega, show 5 * 5 ^ k * 1 = 5 ^ (k + 1) by rw [Nat.pow_succ]; omega] at this
    exact this
theorem fr_nat (n : Nat) : fr (n : Rat) = .tup [.int n, .int 1] := by
  unfold fr
  rw [Rat.num_natCast, Rat.den_natCast]; rfl
theorem M_switch {V : List (List Rat)} {bits : List Bool} {rate : Rat} (h : Vs V bits.length) (hb : bits.length ≤ 6) (h2 : 2 ≤ V.length) (hr : Rt rate) : M_switching [vD V, bsD bits, fr rate] = .ok (fr (sw V.length rate (Vf V) bits 0 none)) := by
  rw [← sg_all V.length rate (Vf V) bits h.pos]
  have eg := sg_W V bits rate bits.length 0 (by omega)
  rw [List.drop_zero] at eg
  simp only [Wk] at eg
  rw [eg]
  show (B_switching _ _ _).toR = _
  unfold B_switching
  have e1 : M_less [G_ZERO, fr rate] = .ok (.bl true) := by rw [show G_ZERO = fr 0 from rfl, M_less_ ok_zero hr.ok, decide_eq_true hr.p]
  have e2 : M_less [fr rate, G_ONE] = .ok (.bl true) := by rw [show G_ONE = fr 1 from rfl, M_less_ hr.ok ok_one, decide_eq_true hr.l]
  have hm := h.m
  have em : ((V.length : Int) - 1) = ((V.length - 1 : Nat) : Int) := by omega
  have er : (((V.length - 1 : Nat)) : Rat) = (V.length : Rat) - 1 := by
    have : (V.length - 1) + 1 = V.length := by omega
    have h3 : (((V.length - 1) + 1 : Nat) : Rat) = (V.length : Rat) := by rw [this]
    push_cast at h3
    grind
  have o1 : Ok (((V.length - 1 : Nat)) : Rat) := ⟨by rw [Rat.num_natCast]; exact big_le (k := 3) (by simp; omega) (by decide), by rw [Rat.den_natCast]; exact big_le (k := 3) (by decide) (by decide)⟩
  have n1 : (((V.length - 1 : Nat)) : Rat) ≠ 0 := by
    intro z
    have : V.length - 1 = 0 := by exact_mod_cast z
    omega
  have eo : M_over [fr rate, .tup [.int ((V.length - 1 : Nat) : Int), .int 1]] = .ok (fr (rate / ((V.length : Rat) - 1))) := by
    rw [← fr_nat, M_over_ hr.ok o1 n1, er]
  have es : D.tup [D.int (rate.den - rate.num), D.int rate.den] = fr (1 - rate) := (one_sub rate).symm
  simp only [bok, M_chk hb, ook, len_bits hb, len_v, lok, M_chkv h, e1, e2, tru_bl, Bool.not_true, Bool.false_eq_true, if_false, lt_int, decide_eq_false (show ¬ (V.length : Int) < 2 by omega), share_inv h.pos h.m, sub_int, em, eo, rep_one (Nat.le_trans hm (show 4 ≤ sizeLine by decide))]
  rw [show idxD (fr rate) (.int 1) = some (.int rate.den) from idx_tup1 _ _ _, show idxD (fr rate) (.int 0) = some (.int rate.num) from idx_tup0 _ _]
  simp only [lok, bok, sub_int, ook, es]
  rw [enumD_some (iter_bits hb) (by rw [List.length_map]; exact Nat.le_trans hb (by decide))]
  simp only [lok, ook]
  have hQ := fun k (hk : k ≤ bits.length) => Wk_Q (bits := bits) h h2 hr k hk
  have hO : ∀ k, k ≤ bits.length → ∀ row ∈ V, Ok (Wk V bits rate k row) := fun k hk row hrow => by
    have hp := wk_pos k
    exact qk_ok (k := k) ((hQ k hk row hrow).mono ⟨180, by rw [Nat.mul_comm]⟩ (Nat.le_refl _)) (by omega) (Nat.le_trans (Nat.pow_le_pow_right (by decide) (show k ≤ 6 by omega)) (by decide))
  have hsum : ∀ k, k ≤ bits.length → M_sum_of [.lst (V.map fun row => fr (Wk V bits rate k row))] = .ok (fr (sm (V.map (Wk V bits rate k)))) := fun k hk => by
    rw [map_fr]
    have h5 : 5 ^ k ≤ 5 ^ 6 := Nat.pow_le_pow_right (by decide) (by omega)
    have hb1 := wk_big (k := k) (C := 4 * 5 ^ k) (by omega) (by omega)
    have hp := wk_pos k
    refine M_sum (N := 12 * 75600 ^ k) (C := 5 ^ k) (fun a ha => ?_) hp (by have := wk_big (k := k) (C := 1) (by omega) (by decide); omega) ?_
    · obtain ⟨row, hr, rfl⟩ := List.mem_map.mp ha
      exact hQ k hk row hr
    · refine Nat.lt_of_le_of_lt ?_ hb1
      refine Nat.mul_le_mul (Nat.mul_le_mul_right _ (by simpa using hm)) (by omega)
  refine forR_toR (S := fun k => .lst (V.map fun row => fr (Wk V bits rate k row))) (by simp only [Wk, List.map_const']) (fun k hk => ?_) ?_
  · have hk2 : k < bits.length := by simpa [enumL_len2] using hk
    rw [enumL_get2 hk (by simpa using hk2)]
    simp only [tup2_two, List.getElem_map, lok, bok, gt_int, ook]
    have eb : bits.getD k false = bits[k] := by simp [hk2]
    by_cases h0 : k = 0
    · subst h0
      simp only [show decide ((0 : Int) < ((0 : Nat) : Int)) = false by rfl, Bool.false_eq_true, if_false, seq_nx']
      rw [M_heard_ (n := bits.length) (N := 1) (C := 1) h hk2 hb (hO 0 (by omega))]
      simp only [ook]
      refine congrArg O.nx (congrArg D.lst (map_congr' fun row _ => ?_))
      simp only [Wk, if_true, eb]
    · rw [decide_eq_true (show (0 : Int) < (k : Int) by omega)]
      simp only [if_true, bok, hsum k (by omega), ook, iter_lst, lok]
      have hw := fun row (hrow : row ∈ V) => wr_Q (k := k) (w := Wk V bits rate k) h h2 hr (hQ k (by omega)) hrow
      have hC : 4 * 5 ^ k ≤ 4 * 5 ^ 6 := Nat.mul_le_mul_left _ (Nat.pow_le_pow_right (by decide) (by omega))
      have up : ∀ {q : Rat} {C : Nat}, Q (12 * 75600 ^ k) C q → C ≤ 4 * 5 ^ 6 → Ok q := fun hq hC => qk_ok (k := k) (hq.mono ⟨180, by rw [Nat.mul_comm]⟩ (Nat.le_refl _)) (by omega) hC
      rw [compM_map (g := fun row => fr (Wk V bits rate k row)) (F := fun row => fr (sm (V.map (Wk V bits rate k)) - Wk V bits rate k row)) _ _ fun row hrow => by
        have ot := up (hw row hrow).1 hC
        have oo := hO k (by omega) row hrow
        simp only [fr_def, idx_tup0, idx_tup1, R.lift_some, R.bind_ok, ot.mulnd oo, oo.mulnd ot, ot.muldd oo, sub_int]
        rw [M_share_ (dd_ne _ _) (ot.dd oo), sub_eq]
        rfl]
      simp only [bok, ook]
      rw [zipD_some (iter_lst _) (iter_lst _) (by rw [zip_map, List.length_map]; exact Nat.le_trans hm (by decide)), zip_map]
      simp only [lok, bok]
      rw [compM_map (g := fun row => D.tup [fr (Wk V bits rate k row), fr (sm (V.map (Wk V bits rate k)) - Wk V bits rate k row)]) (F := fun row => fr (wr V rate (Wk V bits rate k) row)) _ _ fun row hrow => by
        have ot := up (hw row hrow).2.1 hC
        have oo := hO k (by omega) row hrow
        have os : Ok (1 - rate) := (stay_Q hr).ok (by decide) (big_le (k := 10) (by decide) (by decide)) (big_le (k := 10) (by decide) (by decide))
        have oot : Ok (rate / ((V.length : Rat) - 1)) := (other_Q hr h2 hm).ok (by decide) (big_le (k := 10) (by decide) (by decide)) (big_le (k := 10) (by decide) (by decide))
        have o3 := qk_ok (hw row hrow).2.2.1 (by omega) (Nat.le_trans (by omega) hC)
        have o4 := qk_ok (hw row hrow).2.2.2.1 (by omega) hC
        simp only [tup2_two, bok, M_times_ os oo, M_times_ oot ot, M_plus_ o3 o4]
        rfl]
      simp only [bok, ook, seq_nx']
      have h55 : 5 * 5 ^ k ≤ 4 * 5 ^ 6 := by
        have : 5 ^ k ≤ 5 ^ 5 := Nat.pow_le_pow_right (by decide) (by omega)
        omega
      rw [M_heard_ (n := bits.length) (N := 1) (C := 1) (w := wr V rate (Wk V bits rate k)) h hk2 hb (fun row hrow => qk_ok (hw row hrow).2.2.2.2 (by omega) h55)]
      simp only [ook]
      refine congrArg O.nx (congrArg D.lst (map_congr' fun row _ => ?_))
      simp only [Wk, h0, if_false, eb]
  · simp only [enumL_len2, List.length_map, hsum bits.length (Nat.le_refl _), bok, ook]
    rfl
def nowD : Option Nat → D
  | none => .non
  | some j => .int j
theorem stp_Q {m : Nat} {rate : Rat} (h2 : 2 ≤ m) (h4 : m ≤ 4) (hr : Rt rate) (now : Option Nat) (k : Nat) : Q 2160 1 (stp m rate now k) := by
  unfold stp
  cases now with
  | none => exact (inv_Q (by omega) h4).mono ⟨180, rfl⟩ (Nat.le_refl _)
  | some j =>
    simp only []
    split
    · exact (stay_Q hr).mono ⟨12, rfl⟩ (Nat.le_refl _)
    · exact (other_Q hr h2 h4).mono ⟨12, rfl⟩ (Nat.le_refl _)
theorem su_Q {N C : Nat} (hN : 0 < N) {f : Nat → Rat} : ∀ m : Nat, (∀ k, k < m → Q N C (f k)) → Q N (m * C) (su f m)
  | 0, _ => by simpa [su] using Q.zero N 0
  | m + 1, h => by
    simp only [su]
    have := (su_Q hN m fun k hk => h k (by omega)).add hN (h m (by omega))
    rw [show m * C + C = (m + 1) * C by rw [Nat.succ_mul]] at this
    exact this
theorem Vf_En {V : List (List Rat)} {n k at_ : Nat} (h : Vs V n) (hk : k < V.length) (ha : at_ < n) : En (Vf V k at_) := by
  have h1 := h.e (V[k]) (List.getElem_mem hk)
  have h2 := h.l (V[k]) (List.getElem_mem hk)
  unfold Vf
  simp only [List.getD_eq_getElem?_getD, List.getElem?_eq_getElem hk, Option.getD_some]
  have h3 : at_ < V[k].length := by omega
  rw [List.getElem?_eq_getElem h3]
  exact h1 _ (List.getElem_mem h3)
theorem sw_Q {V : List (List Rat)} {n : Nat} {rate : Rat} (h : Vs V n) (h2 : 2 ≤ V.length) (hr : Rt rate) : ∀ (bs : List Bool) (at_ : Nat) (now : Option Nat), at_ + bs.length = n →
    Q (907200 ^ bs.length) (4 ^ bs.length) (sw V.length rate (Vf V) bs at_ now) ∧ ∀ b bs', bs = b :: bs' → ∀ k, k < V.length → Q (907200 ^ bs.length) (4 ^ bs'.length) (stp V.length rate now k * said (Vf V k at_) b * sw V.length rate (Vf V) bs' (at_ + 1) (some k))
  | [], at_, now, _ => ⟨by simpa [sw] using Q.one, fun b bs' e => nomatch e⟩
  | b :: bs, at_, now, hl => by
    rw [List.length_cons] at hl
    have key : ∀ k, k < V.length → Q (907200 ^ (bs.length + 1)) (4 ^ bs.length) (stp V.length rate now k * said (Vf V k at_) b * sw V.length rate (Vf V) bs (at_ + 1) (some k)) := fun k hk => by
      have ih := (sw_Q h h2 hr bs (at_ + 1) (some k) (by omega)).1
      have := ((stp_Q h2 h.m hr now k).mul ((Vf_En h hk (at_ := at_) (by omega)).said b)).mul ih
      rw [show 2160 * 420 * 907200 ^ bs.length = 907200 ^ (bs.length + 1) by rw [Nat.pow_succ]; omega, Nat.mul_one, Nat.one_mul] at this
      exact this
    refine ⟨?_, fun b' bs' e k hk => by cases e; exact key k hk⟩
    simp only [sw, List.length_cons]
    refine (su_Q (Nat.pow_pos (by decide)) V.length key).mono (Nat.dvd_refl _) ?_
    rw [Nat.pow_succ, Nat.mul_comm]
    exact Nat.mul_le_mul_left _ h.m
theorem p907 {k C : Nat} (hk : k ≤ 6) (hC : C ≤ 4 * 4 ^ 6) : C * 907200 ^ k < Big := by
  have h1 : 907200 ^ k ≤ 907200 ^ 6 := Nat.pow_le_pow_right (by decide) hk
  exact Nat.lt_of_le_of_lt (Nat.mul_le_mul hC h1) (big_le (k := 150) (by decide) (by decide))
theorem q907 {k C : Nat} {q : Rat} (h : Q (907200 ^ k) C q) (hk : k ≤ 6) (hC : C ≤ 4 * 4 ^ 6) : Ok q :=
  h.ok (Nat.pow_pos (by decide)) (by have := p907 (k := k) (C := 1) hk (by decide); omega) (p907 hk hC)
theorem fr_inv {m : Nat} (h : 0 < m) (h4 : m ≤ 4) : D.tup [.int 1, .int m] = fr (1 / (m : Rat)) := by
  have hc : m = 1 ∨ m = 2 ∨ m = 3 ∨ m = 4 := by omega
  unfold fr
  rcases hc with rfl | rfl | rfl | rfl
  · rw [show (1 / ((1 : Nat) : Rat)).num = 1 by decide +kernel, show (1 / ((1 : Nat) : Rat)).den = 1 by decide +kernel]
  · rw [show (1 / ((2 : Nat) : Rat)).num = 1 by decide +kernel, show (1 / ((2 : Nat) : Rat)).den = 2 by decide +kernel]
  · rw [show (1 / ((3 : Nat) : Rat)).num = 1 by decide +kernel, show (1 / ((3 : Nat) : Rat)).den = 3 by decide +kernel]
  · rw [show (1 / ((4 : Nat) : Rat)).num = 1 by decide +kernel, show (1 / ((4 : Nat) : Rat)).den = 4 by decide +kernel]
theorem seq_of {τ ρ τ' : Type} {m : O τ ρ} {v : τ} {f : τ → O τ' ρ} (h : m = .nx v) : m.seq f = f v := by rw [h]; rfl
theorem M_lsw {V : List (List Rat)} {bits : List Bool} {rate : Rat} (h : Vs V bits.length) (hb : bits.length ≤ 6) (h2 : 2 ≤ V.length) (hr : Rt rate) : ∀ (n at_ : Nat) (now : Option Nat), bits.length - at_ < n → at_ ≤ bits.length →
    M__law_switched n [vD V, bsD bits, fr rate, nowD now, .int at_] = .ok (fr (sw V.length rate (Vf V) (bits.drop at_) at_ now))
  | 0, _, _, hn, _ => by omega
  | n + 1, at_, now, hn, ha => by
    have hm := h.m
    show (B__law_switched n _ _ _ _ _).toR = _
    unfold B__law_switched
    simp only [bok, len_bits hb, lok, eq_int, ook]
    by_cases he : at_ = bits.length
    · subst he
      simp only [beq_self_eq_true, if_true, ook]
      rw [List.drop_eq_nil_of_le (Nat.le_refl _)]
      rfl
    · rw [beq_eq_false_iff_ne.mpr (show (at_ : Int) ≠ bits.length by omega)]
      simp only [Bool.false_eq_true, if_false, ook, bok, len_v, lok, lstK_lst]
      rw [rng1_nat (Nat.le_trans hm (by decide))]
      simp only [lok, ook]
      have hk : at_ < bits.length := by omega
      rw [List.drop_eq_getElem_cons hk]
      have hQ := (sw_Q h h2 hr (bits[at_] :: bits.drop (at_ + 1)) at_ now (by rw [List.length_cons, List.length_drop]; omega)).2 _ _ rfl
      let it : Nat → Rat := fun k => stp V.length rate now k * said (Vf V k at_) bits[at_] * sw V.length rate (Vf V) (bits.drop (at_ + 1)) (at_ + 1) (some k)
      refine forR_toR (S := fun k => (List.range k).map fun j => fr (it j)) rfl (fun k hkl => ?_) ?_
      · have hkv : k < V.length := by simpa using hkl
        simp only [List.getElem_map, List.getElem_range]
        refine (seq_of (v := fr (stp V.length rate now k)) ?_).trans ?_
        · show _ = O.nx (fr (stp V.length rate now k))
          cases now with
          | none =>
            simp only [nowD, show isD .non .non = some true from rfl, lok, ook, if_true, stp]
            rw [fr_inv h.pos hm]
          | some j =>
            simp only [nowD, bok, show isD (.int (j : Int)) .non = some false from rfl, lok, ook, Bool.false_eq_true, if_false, eq_int, sub_int]
            by_cases hkj : k = j
            · subst hkj
              simp only [beq_self_eq_true, if_true, stp]
              rw [one_sub]
              simp only [fr_def, idx_tup0, idx_tup1, R.lift_some, R.bind_ok, sub_int, ofR_ok']
            · rw [beq_eq_false_iff_ne.mpr (show (k : Int) ≠ j by omega)]
              simp only [Bool.false_eq_true, if_false, stp, hkj]
              have e5 : M__law_ratio [.int rate.num, .int (rate.den * ((V.length : Int) - 1))] = .ok (fr (rate / ((V.length : Rat) - 1))) := by
                have hd := rate.den_pos
                have hz : (rate.den : Int) * ((V.length : Int) - 1) ≠ 0 := Int.mul_ne_zero (by omega) (by omega)
                rw [M_ratio hz ?_]
                · congr 2
                  have e6 : ((V.length : Int) - 1) = ((V.length - 1 : Nat) : Int) := by omega
                  have er : (((V.length - 1 : Nat)) : Rat) = (V.length : Rat) - 1 := by
                    have : (V.length - 1) + 1 = V.length := by omega
                    have h3 : (((V.length - 1) + 1 : Nat) : Rat) = (V.length : Rat) := by rw [this]
                    push_cast at h3
                    grind
                  rw [← er, ← div_eq, Rat.num_natCast, Rat.den_natCast, e6]
                  simp
                · rw [Int.natAbs_mul]
                  refine p8000 (big_mul (by simpa using hr.ok.d) ?_)
                  have : ((V.length : Int) - 1).natAbs < 2 ^ 3 := by omega
                  exact big_le this (by decide)
              simp only [fr_def rate, idx_tup0, idx_tup1, R.lift_some, R.bind_ok]
              rw [mul_r (by omega) (by omega)]
              simp only [R.lift_some, R.bind_ok, e5, ofR_ok']
        have hVk : idxD (vD V) (.int (k : Int)) = some (rowD V[k]) := idx_tup (by simp [hkv])
        have hlk := h.l (V[k]) (List.getElem_mem hkv)
        have hVa : idxD (rowD V[k]) (.int (at_ : Int)) = some (fr (Vf V k at_)) := by
          have h3 : at_ < V[k].length := by omega
          refine idx_tup ?_
          unfold Vf
          simp [h3, hkv]
        have hba : idxD (bsD bits) (.int (at_ : Int)) = some (.str [bc bits[at_]]) := idx_str (str_ok hb) (by simp [hk])
        have ih := M_lsw h hb h2 hr n (at_ + 1) (some k) (by omega) (by omega)
        have ea : ((at_ : Int) + 1) = ((at_ + 1 : Nat) : Int) := by push_cast; rfl
        simp only [nowD] at ih
        have os := (stp_Q h2 hm hr now k).ok (by decide) (big_le (k := 20) (by decide) (by decide)) (big_le (k := 20) (by decide) (by decide))
        have qs := (Vf_En h hkv hk).said bits[at_]
        have o1 := qs.ok (by decide) (p420 (k := 1) (by decide)) (p420 (k := 1) (by decide))
        have o2 := ((stp_Q h2 hm hr now k).mul qs).ok (by decide) (big_le (k := 30) (by decide) (by decide)) (big_le (k := 30) (by decide) (by decide))
        have hl6 : (bits.drop (at_ + 1)).length ≤ 6 := by rw [List.length_drop]; omega
        have o3 := q907 ((sw_Q h h2 hr (bits.drop (at_ + 1)) (at_ + 1) (some k) (by rw [List.length_drop]; omega)).1) hl6 (Nat.le_trans (Nat.pow_le_pow_right (by decide) hl6) (by decide))
        simp only [hVk, hVa, hba, lok, bok, M_said, M_ltimes os o1, add_int, ea, ih, M_ltimes o2 o3, ook, List.length_map, List.length_range]
        rw [if_pos (show k < sizeLine from Nat.lt_of_lt_of_le (show k < 7 by omega) (by decide))]
        refine congrArg O.nx ?_
        rw [List.range_succ, List.map_append]
        rfl
      · simp only [List.length_map, List.length_range, bok]
        have hl7 : (bits[at_] :: bits.drop (at_ + 1)).length ≤ 6 := by rw [List.length_cons, List.length_drop]; omega
        have hl6 : (bits.drop (at_ + 1)).length ≤ 6 := by rw [List.length_drop]; omega
        have h46 : 4 ^ (bits.drop (at_ + 1)).length ≤ 4 ^ 6 := Nat.pow_le_pow_right (by decide) hl6
        have e7 := M_lsum (N := 907200 ^ (bits[at_] :: bits.drop (at_ + 1)).length) (C := 4 ^ (bits.drop (at_ + 1)).length) (l := (List.range V.length).map it) (fun a hx => by
          obtain ⟨k, hk, rfl⟩ := List.mem_map.mp hx
          exact hQ k (List.mem_range.mp hk)) (Nat.pow_pos (by decide)) (by have := p907 (C := 1) hl7 (by decide); omega) (p907 hl7 (by
            rw [List.length_map, List.length_range]
            exact Nat.mul_le_mul hm h46))
        rw [map_fr (List.range V.length) it, e7, sm_range]
        rfl
/-! ### what is refused -/
theorem ans_ex : ans__law_refused (.ex "InvalidCounts") = .ok (.bl true) := by kernel_rfl
theorem M_switch_ex {V : List (List Rat)} {bits : List Bool} {rate : Rat} (h : Vs V bits.length) (hb : bits.length ≤ 6) (ho : Ok rate) (hp : 0 < rate) (hc : ¬ rate < 1 ∨ V.length < 2) : M_switching [vD V, bsD bits, fr rate] = .ex "InvalidCounts" := by
  show (B_switching _ _ _).toR = _
  unfold B_switching
  have e1 : M_less [G_ZERO, fr rate] = .ok (.bl true) := by rw [show G_ZERO = fr 0 from rfl, M_less_ ok_zero ho, decide_eq_true hp]
  have e2 : M_less [fr rate, G_ONE] = .ok (.bl (decide (rate < 1))) := by rw [show G_ONE = fr 1 from rfl, M_less_ ho ok_one]
  simp only [bok, M_chk hb, ook, len_bits hb, len_v, lok, M_chkv h, e1, e2, tru_bl, Bool.not_true, Bool.false_eq_true, if_false, lt_int]
  by_cases h1 : rate < 1
  · have h2 : V.length < 2 := by rcases hc with z | z; exact absurd h1 z; exact z
    simp only [h1, decide_true, Bool.not_true, Bool.false_eq_true, if_false, decide_eq_true (show (V.length : Int) < 2 by omega), ook, if_true]
    rfl
  · simp only [h1, decide_false, Bool.not_false, if_true, ook]
    rfl
theorem M_mixed_bad {a : Rat} (ho : Ok a) (h : ¬ 0 < a ∨ ¬ a < 1) : M_mixed_share [vD [[a]], bsD [true]] = .ex "InvalidCounts" := by
  show (B_mixed_share _ _).toR = _
  unfold B_mixed_share
  have hc : M_check_voices [vD [[a]], .int ((1 : Nat) : Int)] = .ex "InvalidCounts" := by
    show (B_check_voices _ _).toR = _
    unfold B_check_voices
    have e1 : M_less [G_ZERO, fr a] = .ok (.bl (decide (0 < a))) := by rw [show G_ZERO = fr 0 from rfl, M_less_ ok_zero ho]
    have e2 : M_less [fr a, G_ONE] = .ok (.bl (decide (a < 1))) := by rw [show G_ONE = fr 1 from rfl, M_less_ ho ok_one]
    have e3 : compM (List.map rowD [[a]]) (fun d3 => itM (R.ok true) ((R.lift (lenD d3)).bind fun x5 => R.lift (Option.map D.bl (eqD x5 (D.int ((1 : Nat) : Int)))))) = .ok [.bl true] := by
      rw [compM_map (g := rowD) (F := fun row : List Rat => D.bl true) _ _ fun row hr => by
        rw [List.mem_singleton.mp hr, len_row]
        simp only [R.lift_some, R.bind_ok, eq_int, itM, if_true, Option.map_some, List.length_singleton, beq_self_eq_true]]
      rfl
    have e4 : compM (List.map rowD [[a]]) (fun d10 => itM (R.ok true) (((R.lift (iterD d10)).bind fun ds => (compM ds fun d12 => itM (R.ok true) ((M_less [G_ZERO, d12]).bind fun x21 => (R.lift (truD x21)).bind fun k => if k = true then M_less [d12, G_ONE] else R.ok x21)).bind fun ys => R.ok (D.lst ys)).bind fun x7 => R.lift (allD x7))) = .ok [.bl false] := by
      rw [compM_map (g := rowD) (F := fun row : List Rat => D.bl false) _ _ fun row hr => by
        rw [List.mem_singleton.mp hr, iter_row]
        simp only [R.lift_some, R.bind_ok, itM, if_true]
        rw [compM_map (g := fr) (F := fun a : Rat => D.bl false) _ _ fun b hb => by
          rw [List.mem_singleton.mp hb, e1, e2]
          simp only [R.bind_ok, tru_bl, R.lift_some]
          by_cases z : 0 < a
          · have z2 : ¬ a < 1 := by rcases h with y | y; exact absurd z y; exact y
            simp only [z, z2, decide_true, decide_false, if_true, R.bind_ok]
          · simp only [z, decide_false, Bool.false_eq_true, if_false, R.bind_ok]]
        rfl]
      rfl
    simp only [bok, tru_v, iter_v, lok]
    rw [e3]
    simp only [bok]
    rw [show allD (.lst [D.bl true]) = some (.bl true) from rfl]
    simp only [bok, tru_bl, lok, List.isEmpty_cons, Bool.not_false, Bool.not_true, Bool.false_eq_true, if_false, ook]
    rw [e4]
    simp only [bok]
    rw [show allD (.lst [D.bl false]) = some (.bl false) from rfl]
    simp only [bok, tru_bl, lok, Bool.not_false, ook, if_true]
    rfl
  have hl := len_bits (bits := [true]) (by decide)
  simp only [bok, M_chk (bits := [true]) (by decide), ook, hl, lok]
  rw [show ([true].length : Int) = ((1 : Nat) : Int) from rfl, hc]
  rfl
theorem M_mixed_nil : M_mixed_share [.tup [], bsD [true]] = .ex "InvalidCounts" := by
  show (B_mixed_share (.tup []) (bsD [true])).toR = _
  unfold B_mixed_share
  have hc : M_check_voices [.tup [], .int ((1 : Nat) : Int)] = .ex "InvalidCounts" := by
    show (B_check_voices (.tup []) (.int ((1 : Nat) : Int))).toR = _
    unfold B_check_voices
    simp only [bok, show truD (.tup []) = some false from rfl, lok, Bool.not_false, if_true, ook]
    rfl
  have hl := len_bits (bits := [true]) (by decide)
  simp only [bok, M_chk (bits := [true]) (by decide), ook, hl, lok]
  rw [show ([true].length : Int) = ((1 : Nat) : Int) from rfl, hc]
  rfl
/-! ### what is drawn -/
theorem lt9000 {n : Nat} (h : n < 2 ^ 10) : n < 2 ^ 9000 := Nat.lt_of_lt_of_le h (Nat.pow_le_pow_right (by decide) (by decide))
theorem take_nat {m : Nat} (h : 0 < m) (h2 : m < 2 ^ 10) (P : R D → Prop) (hP : ∀ r : Nat, r < m → P (.ok (.int r))) : M__law_take [.tape, .int m] P :=
  M_take (by omega) (by simpa using lt9000 h2) P fun r h0 h1 => by
    obtain ⟨n, rfl⟩ := Int.eq_ofNat_of_zero_le h0
    exact hP n (by omega)
theorem join_bits (bits : List Bool) (h : bits.length ≤ 6) : joinD [] (.lst (bits.map fun b => .str [bc b])) = some (bsD bits) := by
  have e1 : (bits.map fun b => D.str [bc b]) = (bits.map fun b => [bc b]).map D.str := by simp
  have e2 : ∀ l : List (List Nat), strsOf (l.map D.str) = some l := by
    intro l
    induction l with
    | nil => rfl
    | cons x l ih => simp [strsOf, ih]
  have e3 : ∀ l : List Bool, TL.joinL [] (l.map fun b => [bc b]) = l.map bc := by
    intro l
    induction l with
    | nil => rfl
    | cons x l ih => cases l with
      | nil => rfl
      | cons y l => simp only [List.map_cons] at ih ⊢; simp [TL.joinL, ih]
  unfold joinD
  rw [show seqOf (.lst (bits.map fun b => D.str [bc b])) = some (bits.map fun b => D.str [bc b]) from rfl, e1]
  simp only [Option.bind_some, e2, e3]
  rw [if_pos]
  · rfl
  · have : ((bits.map fun b => [bc b]).map (·.length)).sum = bits.length := by
      clear e1 e2 e3
      induction bits with
      | nil => rfl
      | cons x l ih => simp only [List.map_cons, List.sum_cons]; rw [ih (by simp at h; omega)]; simp; omega
    rw [this]; simp; omega
end K22

-- K22A2
set_option Elab.async false
set_option linter.all false
set_option maxRecDepth 100000
set_option maxHeartbeats 4000000
namespace K22
open DL PySem L2
theorem rng3' : rng1 (.int 3) = some [.int 0, .int 1, .int 2] := rng1_nat (n := 3) (by decide)
theorem frs (n : Int) (d : Nat) (q : Rat) (h1 : q.num = n) (h2 : q.den = d) : D.tup [.int n, .int d] = fr q := by unfold fr; rw [h1, h2]
theorem en1 : En (1 / 2) := ⟨⟨by decide +kernel, by decide +kernel, by decide +kernel⟩, by decide +kernel, by decide +kernel⟩
theorem en2 : En (1 / 3) := ⟨⟨by decide +kernel, by decide +kernel, by decide +kernel⟩, by decide +kernel, by decide +kernel⟩
theorem en3 : En (3 / 4) := ⟨⟨by decide +kernel, by decide +kernel, by decide +kernel⟩, by decide +kernel, by decide +kernel⟩
theorem en4 : En (9 / 10) := ⟨⟨by decide +kernel, by decide +kernel, by decide +kernel⟩, by decide +kernel, by decide +kernel⟩
theorem en5 : En (1 / 7) := ⟨⟨by decide +kernel, by decide +kernel, by decide +kernel⟩, by decide +kernel, by decide +kernel⟩
theorem rt1 : Rt (1 / 2) := ⟨⟨by decide +kernel, by decide +kernel, by decide +kernel⟩, by decide +kernel, by decide +kernel⟩
theorem rt2 : Rt (1 / 10) := ⟨⟨by decide +kernel, by decide +kernel, by decide +kernel⟩, by decide +kernel, by decide +kernel⟩
theorem rt3 : Rt (2 / 3) := ⟨⟨by decide +kernel, by decide +kernel, by decide +kernel⟩, by decide +kernel, by decide +kernel⟩
theorem pick5 (r : Nat) (h : r < 5) : ∃ q : Rat, En q ∧ idxD (.lst [.tup [.int 1, .int 2], .tup [.int 1, .int 3], .tup [.int 3, .int 4], .tup [.int 9, .int 10], .tup [.int 1, .int 7]]) (.int r) = some (fr q) := by
  have hc : r = 0 ∨ r = 1 ∨ r = 2 ∨ r = 3 ∨ r = 4 := by omega
  rcases hc with rfl | rfl | rfl | rfl | rfl
  · exact ⟨_, en1, by rw [idx_lst (k := 0) rfl, ← frs 1 2 _ (by decide +kernel) (by decide +kernel)]; rfl⟩
  · exact ⟨_, en2, by rw [idx_lst (k := 1) rfl, ← frs 1 3 _ (by decide +kernel) (by decide +kernel)]; rfl⟩
  · exact ⟨_, en3, by rw [idx_lst (k := 2) rfl, ← frs 3 4 _ (by decide +kernel) (by decide +kernel)]; rfl⟩
  · exact ⟨_, en4, by rw [idx_lst (k := 3) rfl, ← frs 9 10 _ (by decide +kernel) (by decide +kernel)]; rfl⟩
  · exact ⟨_, en5, by rw [idx_lst (k := 4) rfl, ← frs 1 7 _ (by decide +kernel) (by decide +kernel)]; rfl⟩
theorem pick3 (r : Nat) (h : r < 3) : ∃ q : Rat, Rt q ∧ idxD (.lst [.tup [.int 1, .int 2], .tup [.int 1, .int 10], .tup [.int 2, .int 3]]) (.int r) = some (fr q) := by
  have hc : r = 0 ∨ r = 1 ∨ r = 2 := by omega
  rcases hc with rfl | rfl | rfl
  · exact ⟨_, rt1, by rw [idx_lst (k := 0) rfl, ← frs 1 2 _ (by decide +kernel) (by decide +kernel)]; rfl⟩
  · exact ⟨_, rt2, by rw [idx_lst (k := 1) rfl, ← frs 1 10 _ (by decide +kernel) (by decide +kernel)]; rfl⟩
  · exact ⟨_, rt3, by rw [idx_lst (k := 2) rfl, ← frs 2 3 _ (by decide +kernel) (by decide +kernel)]; rfl⟩
theorem str_bit (r : Nat) (h : r < 2) : ∃ b : Bool, strD (.int r) = some (.str [bc b]) := by
  have hc : r = 0 ∨ r = 1 := by omega
  have key : ∀ r : Int, r.natAbs < 2 ^ 10 → strD (.int r) = some (.str (strI r)) := fun r h => if_pos (Nat.lt_of_lt_of_le h (Nat.pow_le_pow_right (by decide) (by decide)))
  rcases hc with rfl | rfl
  · exact ⟨false, by rw [key _ (by decide)]; rfl⟩
  · exact ⟨true, by rw [key _ (by decide)]; rfl⟩
theorem divInt_le (n d : Int) (hd : d ≠ 0) : (Rat.divInt n d).num.natAbs ≤ n.natAbs ∧ (Rat.divInt n d).den ≤ d.natAbs := by
  rw [Rat.num_divInt, Rat.den_divInt, if_neg hd]
  constructor
  · rw [Int.natAbs_ediv_of_dvd ?_, Int.natAbs_mul]
    · have h1 : d.sign.natAbs = 1 := by
        rw [Int.natAbs_sign_of_ne_zero hd]
      rw [h1, Nat.one_mul]
      exact Nat.div_le_self _ _
    · exact Int.dvd_mul_of_dvd_right (Int.gcd_dvd_right _ _)
  · exact Nat.div_le_self _ _
theorem div_ok {a b : Rat} {C : Nat} (ha : Q NN C a) (hb : Q NN C b) (hC : C ≤ 64) (h0 : b ≠ 0) : Ok (a / b) := by
  have bn : ∀ {q : Rat}, Q NN C q → q.num.natAbs ≤ C * NN ∧ q.den ≤ NN := fun {q} h => by
    have hd := Nat.le_of_dvd nn_pos h.dv
    have h3 := h.le
    rw [Rat.le_iff] at h3
    simp only [Rat.den_natCast, Rat.num_natCast] at h3
    have h4 := Rat.num_nonneg.mpr h.nn
    have h5 : q.num.natAbs ≤ C * q.den := by
      have : (q.num.natAbs : Int) ≤ (C * q.den : Nat) := by push_cast; omega
      exact_mod_cast this
    exact ⟨Nat.le_trans h5 (Nat.mul_le_mul_left _ hd), hd⟩
  obtain ⟨a1, a2⟩ := bn ha
  obtain ⟨b1, b2⟩ := bn hb
  have hz : (a.den : Int) * b.num ≠ 0 := Int.mul_ne_zero (by have := a.den_pos; omega) (fun z => h0 (Rat.num_eq_zero.mp z))
  obtain ⟨d1, d2⟩ := divInt_le (a.num * b.den) (a.den * b.num) hz
  rw [div_eq] at d1 d2
  rw [Int.natAbs_mul] at d1 d2
  have hb1 : C * NN * NN < Big := by
    refine Nat.lt_of_le_of_lt (Nat.mul_le_mul_right _ (Nat.mul_le_mul_right _ hC)) (big_le (k := 150) (by decide) (by decide))
  have e1 : a.num.natAbs * (b.den : Int).natAbs ≤ C * NN * NN := Nat.mul_le_mul a1 (by simpa using b2)
  have e2 : (a.den : Int).natAbs * b.num.natAbs ≤ NN * (C * NN) := Nat.mul_le_mul (by simpa using a2) b1
  rw [Nat.mul_comm NN (C * NN)] at e2
  exact ⟨by omega, by omega⟩
theorem cut_take {α : Type} (xs : List α) (k : Nat) (h : k ≤ xs.length) : cutL xs none (some (k : Int)) = xs.take k := by
  unfold cutL HT.sIx
  simp only []
  rw [if_neg (by omega), Int.toNat_natCast, Nat.min_eq_left h, List.drop_zero, Nat.sub_zero]
theorem map_get {α β : Type} (V : List α) (d : α) (f : α → β) : (List.range V.length).map (fun j => f (V.getD j d)) = V.map f := by
  refine List.ext_getElem (by simp) fun k h1 h2 => ?_
  have hk : k < V.length := by simpa using h1
  simp [hk]
theorem nsimp_frE (z : Empty → N (O Unit Unit)) : True := trivial
theorem shal_lst (l : List Rat) : shal 60 (.lst (l.map fr)) = true := by
  show shals 59 (l.map fr) = true
  exact shals_map 59 fr (fun a => rfl) l
theorem ah_next {V : List (List Rat)} {bits : List Bool} (h : Vs V bits.length) {k : Nat} (hk : k ≤ bits.length) : ah k ((List.range bits.length).map (sayN V bits)) bits = mx V bits k := by
  have h1 := said_all (bits := bits) h.inn h.l h.p k hk
  have e : ah k ((List.range bits.length).map (sayN V bits)) bits = shr 1 ((List.range k).map (sayN V bits)) (bits.take k) := by
    unfold ah
    rw [← List.map_take, List.take_range, Nat.min_eq_left hk]
  rw [e]
  unfold mx
  rw [← h1]
  have hm : ((V.length : Nat) : Rat) ≠ 0 := by
    intro z
    have : V.length = 0 := by exact_mod_cast z
    have := h.pos; omega
  grind
theorem mxk_ok {V : List (List Rat)} {bits : List Bool} (h : Vs V bits.length) (hb : bits.length ≤ 6) {k : Nat} (hk : k ≤ bits.length) : Ok (mx V bits k) := by
  have e : mx V bits k = sm (V.map fun row => 1 / (V.length : Rat) * ah k row bits) := (sm_map_mul _ _ _).symm
  rw [e]
  exact (M_sumV h (f := fun row => 1 / (V.length : Rat) * ah k row bits) fun row hr => w_QN h hb hr hk).2
theorem said_ok {V : List (List Rat)} {bits : List Bool} (h : Vs V bits.length) (hb : bits.length ≤ 6) {k : Nat} (hk : k < bits.length) (b : Bool) : Ok (said (sayN V bits k) b) ∧ Ok (sm (V.map fun row => ah k row bits * row.getD k 0)) ∧ Ok (sm (V.map fun row => ah k row bits)) ∧ sm (V.map fun row => ah k row bits) ≠ 0 := by
  have hp := sah_pos (bits := bits) k h.inn h.p
  have hne : sm (V.map fun row => ah k row bits) ≠ 0 := by grind
  have q1 : ∀ row ∈ V, Q NN 1 (ah k row bits * row.getD k 0) := fun row hr => by
    have hk' : k < row.length := by rw [h.l row hr]; exact hk
    have he : En (row.getD k 0) := h.e row hr _ (by simp [hk'])
    have h1 := (ah_Q (row := row) (bits := bits) k (h.e row hr) (by rw [h.l row hr]; exact hb)).mul he.q
    rw [← Nat.pow_succ] at h1
    exact h1.mono (dvd420 (by omega)) (Nat.le_refl _)
  have q2 : ∀ row ∈ V, Q NN 1 (ah k row bits) := fun row hr => ah_QN k (h.e row hr) (by rw [h.l row hr]; exact hb)
  have sq : ∀ (f : List Rat → Rat), (∀ row ∈ V, Q NN 1 (f row)) → Q NN 4 (sm (V.map f)) := fun f hf => by
    have := sm_QN nn_pos (V.map f) fun a ha => by
      obtain ⟨row, hr, rfl⟩ := List.mem_map.mp ha
      exact hf row hr
    exact this.mono (Nat.dvd_refl _) (by have := h.m; simpa using this)
  have s1 := sq _ q1
  have s2 := sq _ q2
  refine ⟨?_, QN.ok s1 (by decide), QN.ok s2 (by decide), hne⟩
  unfold said sayN
  cases b
  · simp only [Bool.false_eq_true, if_false]
    have hle : sm (V.map fun row => ah k row bits * row.getD k 0) ≤ sm (V.map fun row => ah k row bits) := by
      have e : ∀ l : List (List Rat), (∀ row ∈ l, ah k row bits * row.getD k 0 ≤ ah k row bits) → sm (l.map fun row => ah k row bits * row.getD k 0) ≤ sm (l.map fun row => ah k row bits) := by
        intro l
        induction l with
        | nil => intro _; exact Rat.le_refl
        | cons x l ih =>
          intro hx
          simp only [List.map_cons, sm_cons]
          have h1 := hx x List.mem_cons_self
          have h2 := ih fun y hy => hx y (List.mem_cons_of_mem _ hy)
          grind
      refine e V fun row hr => ?_
      have hk' : k < row.length := by rw [h.l row hr]; exact hk
      have he : En (row.getD k 0) := h.e row hr _ (by simp [hk'])
      have := Rat.mul_le_mul_of_nonneg_left (Rat.le_of_lt he.l) (Rat.le_of_lt (ah_pos (k := k) (bits := bits) (h.inn row hr)))
      rw [Rat.mul_one] at this
      exact this
    have e2 : 1 - sm (V.map fun row => ah k row bits * row.getD k 0) / sm (V.map fun row => ah k row bits) = (sm (V.map fun row => ah k row bits) - sm (V.map fun row => ah k row bits * row.getD k 0)) / sm (V.map fun row => ah k row bits) := by grind
    rw [e2]
    exact div_ok (s2.sub nn_pos s1 hle) s2 (by decide) hne
  · simp only [if_true]
    exact div_ok s1 s2 (by decide) hne
end K22

-- K22A
set_option Elab.async false
set_option linter.all false
set_option maxRecDepth 100000
set_option maxHeartbeats 4000000
namespace K22
open DL PySem L2
theorem neq_frl (l : List Rat) : neD (.lst (l.map fr)) (.lst (l.map fr)) = some false := ne_self (shal_lst l)
theorem neq_fr (q : Rat) : neD (fr q) (fr q) = some false := ne_self rfl
theorem intP_int (i : Int) : intP (.int i) = .ok (some i) := rfl
theorem slc_row {row : List Rat} {k : Nat} (h : k ≤ row.length) : slcD (rowD row) none (some (k : Int)) = some (rowD (row.take k)) := by
  show some (D.tup (cutL (row.map fr) none (some (k : Int)))) = _
  rw [cut_take _ _ (by simpa using h), ← List.map_take]; rfl
theorem slc_bits {bits : List Bool} {k : Nat} (hb : bits.length ≤ 6) (h : k ≤ bits.length) : slcD (bsD bits) none (some (k : Int)) = some (bsD (bits.take k)) := by
  show (if (bits.map bc).length ≤ sizeLine then some (D.str (cutL (bits.map bc) none (some (k : Int)))) else none) = _
  rw [if_pos (str_ok hb), cut_take _ _ (by simpa using h), ← List.map_take]; rfl
theorem M_lsumV {V : List (List Rat)} {n : Nat} (h : Vs V n) {f : List Rat → Rat} (hf : ∀ row ∈ V, Q NN 1 (f row)) : M__law_sum [.lst (V.map fun row => fr (f row))] = .ok (fr (sm (V.map f))) := by
  have hq : ∀ a ∈ V.map f, Q NN 1 a := fun a ha => by
    obtain ⟨row, hr, rfl⟩ := List.mem_map.mp ha
    exact hf row hr
  rw [map_fr, M_lsum hq nn_pos nn_big (nn_big4 (by have := h.m; simp; omega))]
theorem ar_Q {V : List (List Rat)} {bits : List Bool} (h : Vs V bits.length) (hb : bits.length ≤ 6) {k : Nat} (hk : k < bits.length) : ∀ row ∈ V, Q NN 1 (ah k row bits * row.getD k 0) := fun row hr => by
  have hk' : k < row.length := by rw [h.l row hr]; exact hk
  have he : En (row.getD k 0) := h.e row hr _ (by simp [hk'])
  have h1 := (ah_Q (row := row) (bits := bits) k (h.e row hr) (by rw [h.l row hr]; exact hb)).mul he.q
  rw [← Nat.pow_succ] at h1
  exact h1.mono (dvd420 (by omega)) (Nat.le_refl _)
theorem ah_take {row : List Rat} {bits : List Bool} {k : Nat} (h1 : k ≤ row.length) (h2 : k ≤ bits.length) (j : Nat) (hj : j ≤ k) : ah j (row.take k) (bits.take k) = ah j row bits := by
  unfold ah
  rw [List.take_take, List.take_take, Nat.min_eq_left hj]
theorem M_lshare_k {V : List (List Rat)} {bits : List Bool} (h : Vs V bits.length) (hb : bits.length ≤ 6) {row : List Rat} (hr : row ∈ V) {k : Nat} (hk : k ≤ bits.length) : M__law_share [rowD (row.take k), bsD (bits.take k)] = .ok (fr (ah k row bits)) := by
  have hl := h.l row hr
  have e1 : (bits.take k).length = k := by rw [List.length_take]; omega
  have e2 : (row.take k).length = k := by rw [List.length_take]; omega
  rw [M_lshare (by omega) (by omega) (fun j hj => ?_) (fun j h1 h2 => ?_), e1, ah_take (by omega) hk k (Nat.le_refl _)]
  · rw [ah_take (by omega) hk j (by omega)]
    exact QN.ok (ah_QN j (h.e row hr) (by omega)) (by decide)
  · exact ((h.e row hr _ (List.mem_of_mem_take (List.getElem_mem h2))).said _).ok (by decide) (p420 (k := 1) (by decide)) (p420 (k := 1) (by decide))
theorem M_lshare_next {V : List (List Rat)} {bits : List Bool} (h : Vs V bits.length) (hb : bits.length ≤ 6) : M__law_share [rowD ((List.range bits.length).map (sayN V bits)), bsD bits] = .ok (fr (mx V bits bits.length)) := by
  rw [M_lshare hb (by simp) (fun k hk => by rw [ah_next h hk]; exact mxk_ok h hb hk) (fun k h1 h2 => ?_), ah_next h (Nat.le_refl _)]
  have : ((List.range bits.length).map (sayN V bits))[k] = sayN V bits k := by simp
  rw [this]
  exact (said_ok h hb h1 _).1
theorem M_next' {V : List (List Rat)} {bits : List Bool} (h : Vs V bits.length) (hb : bits.length ≤ 6) : M_said_next [vD V, bsD bits] = .ok (rowD ((List.range bits.length).map (sayN V bits))) := by
  rw [M_next h hb]; unfold rowD; simp
theorem ne_nat (n : Nat) : neD (.int (n : Int)) (.int (n : Int)) = some false := ne_self rfl
theorem add_one (bits : List Bool) (hb : bits.length ≤ 6) : addD (bsD bits) (.str [49]) = some (bsD (bits ++ [true])) := by
  have h : (bits.map bc).length + [49].length ≤ sizeLine := by
    rw [List.length_map]; exact Nat.le_trans (Nat.add_le_add_right hb 1) (by decide)
  show (if (bits.map bc).length + [49].length ≤ sizeLine then some (D.str (bits.map bc ++ [49])) else none) = _
  rw [if_pos h]
  unfold bsD
  rw [List.map_append]; rfl
theorem bst_take (L : List Rat) (b0 : Rat) {k : Nat} (h : k < L.length) : bst (L.take (k + 1)) b0 = if bst (L.take k) b0 < L[k] then L[k] else bst (L.take k) b0 := by
  unfold bst
  rw [List.take_succ_eq_append_getElem h, List.foldl_append]
  rfl
theorem bst_in {L : List Rat} {b0 : Rat} (h : b0 ∈ L) (k : Nat) : bst (L.take k) b0 ∈ L := by
  rcases bst_mem (L.take k) b0 with e | e
  · rw [e]; exact h
  · exact List.mem_of_mem_take e
theorem holds_M : ∀ ns : List Int, ns.length ≤ 63 → (∀ z ∈ ns, Builtin.Int.intBits z ≤ 1048576) → M_law [.lst (ns.map .int)] fun r => r = .ok (.bl true) := by
  intro ns _ _
  show B_law (.lst (ns.map .int)) _
  unfold B_law
  simp only [bok, M_tape]
  try simp only [nbind, nofr, nseq, nl, nbok, nook, naftnx, naftrt, bok, lok, ook, lstK_lst, lst2_two, tup2_two]
  rw [rng3']
  try simp only [nbind, nofr, nseq, nl, nbok, nook, naftnx, naftrt, bok, lok, ook, lstK_lst, lst2_two, tup2_two]
  refine forN_unit _ _ _ (fun d hd P' hP' => ?_) ?_
  · try simp only [nbind, nofr, nseq, nl, nbok, nook, naftnx, naftrt, bok, lok, ook, lstK_lst, lst2_two, tup2_two]
    refine take_nat (m := 6) (by decide) (by decide) _ fun n hn => ?_
    simp only []
    try simp only [nbind, nofr, nseq, nl, nbok, nook, naftnx, naftrt, bok, lok, ook, lstK_lst, lst2_two, tup2_two]
    refine take_nat (m := 4) (by decide) (by decide) _ fun m0 hm0 => ?_
    obtain ⟨m, hm⟩ : ∃ m, m = m0 + 1 := ⟨_, rfl⟩
    have em : (1 : Int) + (m0 : Int) = (m : Int) := by omega
    have hrm := rng1_nat (show m ≤ sizeLine from Nat.le_trans (show m ≤ 6 by omega) (by decide))
    simp only [add_int, em, strR_str, rng1_nat (show n ≤ sizeLine from Nat.le_trans (show n ≤ 6 by omega) (by decide))]
    try simp only [nbind, nofr, nseq, nl, nbok, nook, naftnx, naftrt, bok, lok, ook, lstK_lst, lst2_two, tup2_two]
    refine compN_map _ (fun b => D.str [bc b]) (fun _ => True) _ _ (fun d _ P2 hP2 => ?_) fun bits hbl _ => ?_
    · unfold itN
      try simp only [nbind, nofr, nseq, nl, nbok, nook, naftnx, naftrt, bok, lok, ook, lstK_lst, lst2_two, tup2_two]
      simp only [if_true]
      try simp only [nbind, nofr, nseq, nl, nbok, nook, naftnx, naftrt, bok, lok, ook, lstK_lst, lst2_two, tup2_two]
      refine take_nat (m := 2) (by decide) (by decide) _ fun r hr => ?_
      obtain ⟨b, hb⟩ := str_bit r hr
      simp only [hb]
      try simp only [nbind, nofr, nseq, nl, nbok, nook, naftnx, naftrt, bok, lok, ook, lstK_lst, lst2_two, tup2_two]
      exact hP2 b trivial
    · simp only [List.length_map, List.length_range] at hbl
      subst hbl
      have hb6 : bits.length ≤ 6 := by omega
      simp only [join_bits bits hb6]
      try simp only [nbind, nofr, nseq, nl, nbok, nook, naftnx, naftrt, bok, lok, ook, lstK_lst, lst2_two, tup2_two]
      simp only [hrm]
      try simp only [nbind, nofr, nseq, nl, nbok, nook, naftnx, naftrt, bok, lok, ook, lstK_lst, lst2_two, tup2_two]
      refine compN_map _ rowD (fun row => row.length = bits.length ∧ ∀ a ∈ row, En a) _ _ (fun d _ P2 hP2 => ?_) fun V hVl hV => ?_
      · unfold itN
        try simp only [nbind, nofr, nseq, nl, nbok, nook, naftnx, naftrt, bok, lok, ook, lstK_lst, lst2_two, tup2_two]
        simp only [if_true]
        try simp only [nbind, nofr, nseq, nl, nbok, nook, naftnx, naftrt, bok, lok, ook, lstK_lst, lst2_two, tup2_two]
        refine compN_map _ fr En _ _ (fun d _ P3 hP3 => ?_) fun row hrl hrow => ?_
        · try simp only [nbind, nofr, nseq, nl, nbok, nook, naftnx, naftrt, bok, lok, ook, lstK_lst, lst2_two, tup2_two]
          refine take_nat (m := 5) (by decide) (by decide) _ fun r hr => ?_
          obtain ⟨q, hq, e⟩ := pick5 r hr
          simp only [e]
          try simp only [nbind, nofr, nseq, nl, nbok, nook, naftnx, naftrt, bok, lok, ook, lstK_lst, lst2_two, tup2_two]
          exact hP3 q hq
        · simp only [tup_lst]
          try simp only [nbind, nofr, nseq, nl, nbok, nook, naftnx, naftrt, bok, lok, ook, lstK_lst, lst2_two, tup2_two]
          refine hP2 row ⟨by simpa using hrl, hrow⟩
      · simp only [List.length_map, List.length_range] at hVl
        have hvs : Vs V bits.length := ⟨fun row hr => (hV row hr).2, fun row hr => (hV row hr).1, by intro z; subst z; simp at hVl; omega, by omega⟩
        subst hVl
        have hsh : compM (V.map rowD) (fun d247 => itM (R.ok true) (M__law_share [d247, bsD bits])) = .ok (V.map fun row => fr (ah bits.length row bits)) := by
          rw [compM_map (g := rowD) (F := fun row : List Rat => fr (ah bits.length row bits)) _ _ fun row hr => by
            rw [M_lshare hb6 (by rw [hvs.l row hr]; exact Nat.le_refl _) (fun k hk => QN.ok (ah_QN k (hvs.e row hr) (by rw [hvs.l row hr]; exact hb6)) (by decide)) (fun k h1 h2 => ((hvs.e row hr _ (List.getElem_mem h2)).said _).ok (by decide) (p420 (k := 1) (by decide)) (p420 (k := 1) (by decide)))]
            rfl]
        have hq1 : ∀ a ∈ V.map fun row => ah bits.length row bits, Q NN 1 a := fun a ha => by
          obtain ⟨row, hr, rfl⟩ := List.mem_map.mp ha
          exact ah_QN _ (hvs.e row hr) (by rw [hvs.l row hr]; exact hb6)
        have hls : M__law_sum [.lst (V.map fun row => fr (ah bits.length row bits))] = .ok (fr (sm (V.map fun row => ah bits.length row bits))) := by
          rw [map_fr V, M_lsum hq1 nn_pos nn_big (nn_big4 (by have := hvs.m; simp; omega))]
        have o1 : Ok (1 / (V.length : Rat)) := (inv_Q hvs.pos hvs.m).ok (by decide) (big_le (k := 8) (by decide) (by decide)) (big_le (k := 8) (by decide) (by decide))
        have o2 := (M_sumV hvs (f := fun row => ah bits.length row bits) fun row hr => ah_QN _ (hvs.e row hr) (by rw [hvs.l row hr]; exact hb6)).2
        have hlt : M__law_times [.tup [.int 1, .int (V.length : Nat)], fr (sm (V.map fun row => ah bits.length row bits))] = .ok (fr (mx V bits bits.length)) := by
          rw [fr_inv hvs.pos hvs.m, M_ltimes o1 o2]; rfl
        have hvd : D.tup (V.map rowD) = vD V := rfl
        have map_frV : (V.map fun row => fr (ah bits.length row bits)) = (V.map fun row => ah bits.length row bits).map fr := map_fr V _
        simp only [nbind, nofr, nseq, nl, nbok, nook, naftnx, naftrt, bok, lok, ook, lstK_lst, lst2_two, tup2_two, Bool.false_eq_true, if_false, if_true, Bool.not_true, Bool.not_false, tup_lst, hvd, iter_v, hsh, hls, hlt, M_voices hvs hb6, M_mixed hvs hb6]
        simp only [map_frV]
        simp only [nbind, nofr, nseq, nl, nbok, nook, naftnx, naftrt, bok, lok, ook, lstK_lst, lst2_two, tup2_two, Bool.false_eq_true, if_false, if_true, Bool.not_true, Bool.not_false, neq_frl, neq_fr]
        simp only [nbind, nofr, nseq, nl, nbok, nook, naftnx, naftrt, bok, lok, ook, lstK_lst, lst2_two, tup2_two, Bool.false_eq_true, if_false, if_true, Bool.not_true, Bool.not_false, M_next' hvs hb6, len_row, M_lshare_next hvs hb6, List.length_map, List.length_range, ne_nat, neq_fr]
        refine forN_unit _ _ _ (fun d hd P3 hP3 => ?_) ?_
        · obtain ⟨k, hk, rfl⟩ := List.mem_map.mp hd
          have hk2 : k < bits.length := List.mem_range.mp hk
          simp only [nbind, nofr, nseq, nl, nbok, nook, naftnx, naftrt, bok, lok, ook, lstK_lst, lst2_two, tup2_two, Bool.false_eq_true, if_false, if_true, Bool.not_true, Bool.not_false, intP_int, slc_bits hb6 (Nat.le_of_lt hk2)]
          rw [compM_map (g := rowD) (F := fun row : List Rat => fr (ah k row bits)) _ _ fun row hr => by
            rw [slc_row (show k ≤ row.length by rw [hvs.l row hr]; exact Nat.le_of_lt hk2)]
            simp only [lok, bok, M_lshare_k hvs hb6 hr (Nat.le_of_lt hk2)]
            rfl]
          simp only [nbind, nofr, nseq, nl, nbok, nook, naftnx, naftrt, bok, lok, ook, lstK_lst, lst2_two, tup2_two, Bool.false_eq_true, if_false, if_true, Bool.not_true, Bool.not_false]
          rw [compM_map (g := fun j : Nat => D.int (j : Int)) (F := fun j : Nat => fr (ah k (V.getD j []) bits * (V.getD j []).getD k 0)) _ _ fun j hj => by
            have hj2 : j < V.length := List.mem_range.mp hj
            have hjl := hvs.l V[j] (List.getElem_mem hj2)
            have e1 : V.getD j [] = V[j] := by simp [hj2]
            have hk3 : k < V[j].length := by omega
            have e2 : V[j].getD k 0 = V[j][k] := by simp [hk3]
            rw [e1, e2, idx_lst (k := j) (d := fr (ah k V[j] bits)) (by simp [hj2]), show idxD (vD V) (.int (j : Int)) = some (rowD V[j]) from idx_tup (by simp [hj2])]
            simp only [lok, bok]
            rw [show idxD (rowD V[j]) (.int (k : Int)) = some (fr V[j][k]) from idx_tup (by simp [hk3])]
            simp only [lok, bok, M_ltimes (QN.ok (ah_QN (bits := bits) k (hvs.e _ (List.getElem_mem hj2)) (by omega)) (by decide)) (hvs.e _ (List.getElem_mem hj2) _ (List.getElem_mem hk3)).ok]
            rfl]
          rw [map_get V [] (fun row => fr (ah k row bits * row.getD k 0))]
          obtain ⟨-, o3, o4, h04⟩ := said_ok hvs hb6 hk2 true
          simp only [nbind, nofr, nseq, nl, nbok, nook, naftnx, naftrt, bok, lok, ook, lstK_lst, lst2_two, tup2_two, Bool.false_eq_true, if_false, if_true, Bool.not_true, Bool.not_false, M_lsumV hvs (f := fun row => ah k row bits * row.getD k 0) (ar_Q hvs hb6 hk2), M_lsumV hvs (f := fun row => ah k row bits) (fun row hr => ah_QN k (hvs.e row hr) (by rw [hvs.l row hr]; exact hb6))]
          rw [show idxD (rowD ((List.range bits.length).map (sayN V bits))) (.int (k : Int)) = some (fr (sayN V bits k)) from idx_tup (by simp [hk2])]
          have hz : ((sm (V.map fun row => ah k row bits * row.getD k 0)).den : Int) * (sm (V.map fun row => ah k row bits)).num ≠ 0 := Int.mul_ne_zero (by have := (sm (V.map fun row => ah k row bits * row.getD k 0)).den_pos; omega) (fun z => h04 (Rat.num_eq_zero.mp z))
          have er : M__law_ratio [.int ((sm (V.map fun row => ah k row bits * row.getD k 0)).num * (sm (V.map fun row => ah k row bits)).den), .int ((sm (V.map fun row => ah k row bits * row.getD k 0)).den * (sm (V.map fun row => ah k row bits)).num)] = .ok (fr (sayN V bits k)) := by
            rw [M_ratio hz (o3.dn o4), div_eq]; rfl
          generalize sm (V.map fun row => ah k row bits * row.getD k 0) = X at *
          generalize sm (V.map fun row => ah k row bits) = Y at *
          rw [show idxD (fr X) (.int 0) = some (.int X.num) from idx_tup0 _ _, show idxD (fr X) (.int 1) = some (.int X.den) from idx_tup1 _ _ _, show idxD (fr Y) (.int 0) = some (.int Y.num) from idx_tup0 _ _, show idxD (fr Y) (.int 1) = some (.int Y.den) from idx_tup1 _ _ _]
          simp only [nbind, nofr, nseq, nl, nbok, nook, naftnx, naftrt, bok, lok, ook, lstK_lst, lst2_two, tup2_two, Bool.false_eq_true, if_false, if_true, Bool.not_true, Bool.not_false, o3.mulnd o4, o3.muldn o4, er, neq_fr]
          exact hP3
        · simp only [nbind, nofr, nseq, nl, nbok, nook, naftnx, naftrt, bok, lok, ook, lstK_lst, lst2_two, tup2_two, Bool.false_eq_true, if_false, if_true, Bool.not_true, Bool.not_false]
          have hne := hvs.p
          obtain ⟨row0, V', hV0⟩ : ∃ row0 V', V = row0 :: V' := by
            cases V with
            | nil => exact absurd rfl hne
            | cons a b => exact ⟨a, b, rfl⟩
          have hmem : ah bits.length row0 bits ∈ V.map fun row => ah bits.length row bits := List.mem_map.mpr ⟨row0, by rw [hV0]; exact List.mem_cons_self, rfl⟩
          rw [show idxD (.lst ((V.map fun row => ah bits.length row bits).map fr)) (.int 0) = some (fr (ah bits.length row0 bits)) from idx_lst (k := 0) (by rw [hV0]; rfl)]
          simp only [nbind, nofr, nseq, nl, nbok, nook, naftnx, naftrt, bok, lok, ook, lstK_lst, lst2_two, tup2_two, Bool.false_eq_true, if_false, if_true, Bool.not_true, Bool.not_false, iter_lst]
          obtain ⟨n1, n2, n3, b1, b2, b3, elost⟩ := M_lost hV0 hvs hb6
          have hL : ∀ x ∈ V.map fun row => ah bits.length row bits, Ok x ∧ 0 < x ∧ x ≤ 1 := fun x hx => best_Q hvs hb6 hx
          generalize hLd : (V.map fun row => ah bits.length row bits) = L at *
          generalize hb0 : ah bits.length row0 bits = b0 at *
          refine forN_inv _ _ (fun k s => s = fr (bst (L.take k) b0)) L.length _ 0 _ rfl (by simp) (fun k hk s hs P3 hP3 => ?_) ?_
          · have hk2 : k < L.length := by simpa using hk
            rw [Nat.zero_add] at hs
            subst hs
            have hob := (hL _ (bst_in hmem k)).1
            have hok := (hL _ (List.getElem_mem hk2)).1
            simp only [List.getElem_map]
            have hst := bst_take L b0 hk2
            rw [Nat.zero_add] at hP3
            generalize bst (L.take k) b0 = b at *
            rw [show idxD (fr L[k]) (.int 0) = some (.int L[k].num) from idx_tup0 _ _, show idxD (fr b) (.int 1) = some (.int b.den) from idx_tup1 _ _ _, show idxD (fr b) (.int 0) = some (.int b.num) from idx_tup0 _ _, show idxD (fr L[k]) (.int 1) = some (.int L[k].den) from idx_tup1 _ _ _]
            simp only [nbind, nofr, nseq, nl, nbok, nook, naftnx, naftrt, bok, lok, ook, lstK_lst, lst2_two, tup2_two, Bool.false_eq_true, if_false, if_true, Bool.not_true, Bool.not_false, hok.mulnd hob, hob.mulnd hok, gt_int]
            by_cases hc : b < L[k]
            · have hc2 := (Rat.lt_iff _ _).mp hc
              simp only [hc2, decide_true, if_true]
              rw [if_pos hc] at hst
              exact hP3 _ (by rw [hst])
            · have hc2 : ¬ b.num * L[k].den < L[k].num * b.den := fun z => hc ((Rat.lt_iff _ _).mpr z)
              simp only [hc2, decide_false, Bool.false_eq_true, if_false]
              rw [if_neg hc] at hst
              exact hP3 _ (by rw [hst])
          · intro s hs
            rw [List.take_of_length_le (Nat.le_refl _)] at hs
            subst hs
            obtain ⟨om, pm, -⟩ := mx_Q hvs hb6
            have hbm := hL (bst L b0) (by have := bst_in hmem L.length; rwa [List.take_of_length_le (Nat.le_refl _)] at this)
            have l1 := M_lbits pm om b1
            have l2 := M_lbits hbm.2.1 hbm.1 b2
            have l3 := M_lbits (inv_pos' hvs.pos) o1 b3
            rw [← fr_inv hvs.pos hvs.m] at l3
            have ene : neD (.tup [.int (n1 : Int), .int (n2 : Int), .int (n3 : Int)]) (.tup [.int (n1 : Int), .int (n2 : Int), .int (n3 : Int)]) = some false := ne_self rfl
            have hle : n1 ≤ n2 + n3 := by
              refine b1.le b2 b3 hbm.2.1 (inv_pos' hvs.pos) ?_
              unfold mx
              rw [hLd, Rat.mul_comm]
              refine Rat.mul_le_mul_of_nonneg_left ?_ (Rat.le_of_lt (inv_pos' hvs.pos))
              exact sm_ge (fun x hx => Rat.le_of_lt (hL x hx).2.1) (by have := bst_in hmem L.length; rwa [List.take_of_length_le (Nat.le_refl _)] at this)
            simp only [nbind, nofr, nseq, nl, nbok, nook, naftnx, naftrt, bok, lok, ook, lstK_lst, lst2_two, tup2_two, Bool.false_eq_true, if_false, if_true, Bool.not_true, Bool.not_false, elost, l1, l2, l3, ene, idx_tup0, idx_tup1, idx_tup2, add_int, gt_int, decide_eq_false (show ¬ (n2 : Int) + (n3 : Int) < (n1 : Int) by omega)]
            refine take_nat (m := 3) (by decide) (by decide) _ fun r hr => ?_
            obtain ⟨rate, hrt, e⟩ := pick3 r hr
            simp only [nbind, nofr, nseq, nl, nbok, nook, naftnx, naftrt, bok, lok, ook, lstK_lst, lst2_two, tup2_two, Bool.false_eq_true, if_false, if_true, Bool.not_true, Bool.not_false, e, gt_int]
            have hmx : M_mixed_share [vD V, bsD (bits ++ [true])] = .ex "InvalidCounts" := M_mixed_ex hvs (by rw [List.length_append]; simp) (by rw [List.length_append]; simp; omega)
            by_cases hm1 : 1 < V.length
            · have hl : M__law_switched 40 [vD V, bsD bits, fr rate, .non, .int 0] = .ok (fr (sw V.length rate (Vf V) (bits.drop 0) 0 none)) := M_lsw hvs hb6 hm1 hrt 40 0 none (by omega) (by omega)
              rw [List.drop_zero] at hl
              simp only [nbind, nofr, nseq, nl, nbok, nook, naftnx, naftrt, bok, lok, ook, lstK_lst, lst2_two, tup2_two, Bool.false_eq_true, if_false, if_true, Bool.not_true, Bool.not_false, decide_eq_true (show (1 : Int) < (V.length : Int) by omega), M_switch hvs hb6 hm1 hrt, hl, neq_fr, add_one bits hb6, hmx, ans_ex, tru_bl]
              exact hP'
            · simp only [nbind, nofr, nseq, nl, nbok, nook, naftnx, naftrt, bok, lok, ook, lstK_lst, lst2_two, tup2_two, Bool.false_eq_true, if_false, if_true, Bool.not_true, Bool.not_false, decide_eq_false (show ¬ (1 : Int) < (V.length : Int) by omega), M_switch_ex hvs hb6 hrt.ok hrt.p (.inr (show V.length < 2 by omega)), ans_ex, tru_bl, add_one bits hb6, hmx]
              exact hP'
  · simp only [nbind, nofr, nseq, nl, nbok, nook, naftnx, naftrt, bok, lok, ook, lstK_lst, lst2_two, tup2_two, Bool.false_eq_true, if_false, if_true, Bool.not_true, Bool.not_false, iter_tup]
    have e1 : D.str [49] = bsD [true] := rfl
    have e2 : D.tup [.tup [.tup [.int 0, .int 1]]] = vD [[0]] := rfl
    have e3 : D.tup [.tup [.tup [.int 1, .int 1]]] = vD [[1]] := rfl
    rw [e1, e2, e3]
    have b1 := M_mixed_nil
    have b2 := M_mixed_bad (a := 0) ok_zero (.inl (by grind))
    have b3 := M_mixed_bad (a := 1) ok_one (.inr (by grind))
    refine forN_unit _ _ _ (fun d hd P' hP' => ?_) ?_
    · have hc : M_mixed_share [d, bsD [true]] = .ex "InvalidCounts" := by
        simp only [List.mem_cons, List.not_mem_nil, or_false] at hd
        rcases hd with rfl | rfl | rfl
        · exact b1
        · exact b2
        · exact b3
      simp only [nbind, nofr, nseq, nl, nbok, nook, naftnx, naftrt, bok, lok, ook, lstK_lst, lst2_two, tup2_two, Bool.false_eq_true, if_false, if_true, Bool.not_true, Bool.not_false, hc, ans_ex, tru_bl]
      exact hP'
    · have e4 : D.tup [.tup [.tup [.int 1, .int 2]], .tup [.tup [.int 1, .int 2]]] = vD [[1 / 2], [1 / 2]] := by
        have e6 : D.tup [.int 1, .int 2] = fr (1 / 2) := frs 1 2 (1 / 2) (by decide +kernel) (by decide +kernel)
        rw [e6]; rfl
      have e5 : D.tup [.int 1, .int 1] = fr 1 := rfl
      have hvs : Vs [[1 / 2], [1 / 2]] [true].length := ⟨by
        intro row hr a ha
        simp only [List.mem_cons, List.not_mem_nil, or_false, or_self] at hr
        subst hr
        rw [List.mem_singleton.mp ha]; exact en1, by
        intro row hr
        simp only [List.mem_cons, List.not_mem_nil, or_false, or_self] at hr
        subst hr; rfl, by simp, by decide⟩
      have hs := M_switch_ex (V := [[1 / 2], [1 / 2]]) (bits := [true]) (rate := 1) hvs (by decide) ok_one (by grind) (.inl (by grind))
      rw [e4, e5]
      simp only [nbind, nofr, nseq, nl, nbok, nook, naftnx, naftrt, bok, lok, ook, lstK_lst, lst2_two, tup2_two, Bool.false_eq_true, if_false, if_true, Bool.not_true, Bool.not_false, hs, ans_ex]
      rfl
end K22

-- K22Z
set_option Elab.async false
set_option linter.all false
set_option maxRecDepth 100000
set_option maxHeartbeats 0
open PySem PySem.W PyProof.Rows in
set_option maxRecDepth 100000 in
set_option maxHeartbeats 0 in
theorem PySem.Challenge.cw_fewestbits_k22_whole_mixtures_of_voices_holds : PySem.Challenge.rw_fewestbits_k22_whole_mixtures_of_voices.Holds := by
  w_on; o_law; k_head; (case hw => w_witness2)
  k_fill
  refine LamX.walk_ofTs (l := PySem.Challenge.rw_fewestbits_k22_whole_mixtures_of_voices) (n := 63) (k := 45) (x := "script") (CX := fun w => L2.CX PySem.Challenge.rw_fewestbits_k22_whole_mixtures_of_voices.prog w) (by decide +kernel) (by decide) rfl ⟨rfl, by decide, by decide⟩ (fun w h Y => by first | exact PySem.W.km_in_of Y | exact PySem.W.kIn_of Y) ?F (fun w H s e s2 z => DL.cx_no z)
  case F =>
    intro w mg fa h Y KX G hmg
    refine' K22.all_mk (l := PySem.Challenge.rw_fewestbits_k22_whole_mixtures_of_voices) KX G hmg K22.holds_M ?a__law_tape ?l__law_tape ?c__law_tape ?k__law_tape ?a__law_gcd ?l__law_gcd ?c__law_gcd ?k__law_gcd ?a__law_ratio ?l__law_ratio ?c__law_ratio ?k__law_ratio ?a__law_times ?l__law_times ?c__law_times ?k__law_times ?a_is_bits ?l_is_bits ?c_is_bits ?k_is_bits ?a_check_bits ?l_check_bits ?c_check_bits ?k_check_bits ?a_less ?l_less ?c_less ?k_less ?a_check_voices ?l_check_voices ?c_check_voices ?k_check_voices ?a_share ?l_share ?c_share ?k_share ?a_plus ?l_plus ?c_plus ?k_plus ?a_sum_of ?l_sum_of ?c_sum_of ?k_sum_of ?a_times ?l_times ?c_times ?k_times ?a_heard ?l_heard ?c_heard ?k_heard ?a_over ?l_over ?c_over ?k_over ?a_said_next ?l_said_next ?c_said_next ?k_said_next ?a_voice_share ?l_voice_share ?c_voice_share ?k_voice_share ?a_bits_for ?l_bits_for ?c_bits_for ?k_bits_for ?a_mixed_share ?l_mixed_share ?c_mixed_share ?k_mixed_share ?a_most_lost ?l_most_lost ?c_most_lost ?k_most_lost ?a__law_take ?l__law_take ?c__law_take ?k__law_take ?a__law_said ?l__law_said ?c__law_said ?k__law_said ?a__law_share ?l__law_share ?c__law_share ?k__law_share ?a__law_sum ?l__law_sum ?c__law_sum ?k__law_sum ?a_switching ?l_switching ?c_switching ?k_switching ?a__law_switched ?l__law_switched ?c__law_switched ?k__law_switched ?a__law_bits_for ?l__law_bits_for ?c__law_bits_for ?k__law_bits_for ?a__law_refused ?l__law_refused ?c__law_refused ?k__law_refused ?a_law ?l_law ?c_law ?k_law ?cd_law_e ?cl_law ?e11_law ?e18_law ?e7_law ?e9_law ?e10_law ?ne_law ?nk_law ?tb_law ?nol ?b_abs ?b_all ?b_enumerate ?b_int ?b_len ?b_range ?b_str ?b_tuple ?b_zip ?g_MOST_BITS ?gk_MOST_BITS ?g_ONE ?gk_ONE ?g_ZERO ?gk_ZERO ?x_InvalidBits ?xe_InvalidBits ?xk_InvalidBits ?xs_InvalidBits ?xt_InvalidBits ?x_InvalidCounts ?xe_InvalidCounts ?xk_InvalidCounts ?xs_InvalidCounts ?xt_InvalidCounts ?p_0 ?p_1
    (case a__law_tape => k_is)
    (case l__law_tape => k_is)
    (case c__law_tape => k_is)
    (case k__law_tape => k_is)
    (case a__law_gcd => k_is)
    (case l__law_gcd => k_is)
    (case c__law_gcd => k_is)
    (case k__law_gcd => k_is)
    (case a__law_ratio => k_is)
    (case l__law_ratio => k_is)
    (case c__law_ratio => k_is)
    (case k__law_ratio => k_is)
    (case a__law_times => k_is)
    (case l__law_times => k_is)
    (case c__law_times => k_is)
    (case k__law_times => k_is)
    (case a_is_bits => k_is)
    (case l_is_bits => k_is)
    (case c_is_bits => k_is)
    (case k_is_bits => k_is)
    (case a_check_bits => k_is)
    (case l_check_bits => k_is)
    (case c_check_bits => k_is)
    (case k_check_bits => k_is)
    (case a_less => k_is)
    (case l_less => k_is)
    (case c_less => k_is)
    (case k_less => k_is)
    (case a_check_voices => k_is)
    (case l_check_voices => k_is)
    (case c_check_voices => k_is)
    (case k_check_voices => k_is)
    (case a_share => k_is)
    (case l_share => k_is)
    (case c_share => k_is)
    (case k_share => k_is)
    (case a_plus => k_is)
    (case l_plus => k_is)
    (case c_plus => k_is)
    (case k_plus => k_is)
    (case a_sum_of => k_is)
    (case l_sum_of => k_is)
    (case c_sum_of => k_is)
    (case k_sum_of => k_is)
    (case a_times => k_is)
    (case l_times => k_is)
    (case c_times => k_is)
    (case k_times => k_is)
    (case a_heard => k_is)
    (case l_heard => k_is)
    (case c_heard => k_is)
    (case k_heard => k_is)
    (case a_over => k_is)
    (case l_over => k_is)
    (case c_over => k_is)
    (case k_over => k_is)
    (case a_said_next => k_is)
    (case l_said_next => k_is)
    (case c_said_next => k_is)
    (case k_said_next => k_is)
    (case a_voice_share => k_is)
    (case l_voice_share => k_is)
    (case c_voice_share => k_is)
    (case k_voice_share => k_is)
    (case a_bits_for => k_is)
    (case l_bits_for => k_is)
    (case c_bits_for => k_is)
    (case k_bits_for => k_is)
    (case a_mixed_share => k_is)
    (case l_mixed_share => k_is)
    (case c_mixed_share => k_is)
    (case k_mixed_share => k_is)
    (case a_most_lost => k_is)
    (case l_most_lost => k_is)
    (case c_most_lost => k_is)
    (case k_most_lost => k_is)
    (case a__law_take => k_is)
    (case l__law_take => k_is)
    (case c__law_take => k_is)
    (case k__law_take => k_is)
    (case a__law_said => k_is)
    (case l__law_said => k_is)
    (case c__law_said => k_is)
    (case k__law_said => k_is)
    (case a__law_share => k_is)
    (case l__law_share => k_is)
    (case c__law_share => k_is)
    (case k__law_share => k_is)
    (case a__law_sum => k_is)
    (case l__law_sum => k_is)
    (case c__law_sum => k_is)
    (case k__law_sum => k_is)
    (case a_switching => k_is)
    (case l_switching => k_is)
    (case c_switching => k_is)
    (case k_switching => k_is)
    (case a__law_switched => k_is)
    (case l__law_switched => k_is)
    (case c__law_switched => k_is)
    (case k__law_switched => k_is)
    (case a__law_bits_for => k_is)
    (case l__law_bits_for => k_is)
    (case c__law_bits_for => k_is)
    (case k__law_bits_for => k_is)
    (case a__law_refused => k_is)
    (case l__law_refused => k_is)
    (case c__law_refused => k_is)
    (case k__law_refused => k_is)
    (case a_law => k_is)
    (case l_law => k_is)
    (case c_law => k_is)
    (case k_law => k_is)
    (case cd_law_e => rfl)
    (case cl_law => k_is)
    (case e11_law => rfl)
    (case e18_law => rfl)
    (case e7_law => rfl)
    (case e9_law => rfl)
    (case e10_law => rfl)
    (case ne_law => decide)
    (case nk_law => first | k_is | rfl | kernel_rfl)
    (case tb_law => exact PySem.W.km_tabs_of Y _ (by decide))
    (case nol => first | kernel_rfl | rfl)
    (case b_abs => k_is)
    (case b_all => k_is)
    (case b_enumerate => k_is)
    (case b_int => k_is)
    (case b_len => k_is)
    (case b_range => k_is)
    (case b_str => k_is)
    (case b_tuple => k_is)
    (case b_zip => k_is)
    (case g_MOST_BITS => k_is)
    (case gk_MOST_BITS => first | kernel_rfl | rfl)
    (case g_ONE => k_is)
    (case gk_ONE => first | kernel_rfl | rfl)
    (case g_ZERO => k_is)
    (case gk_ZERO => first | kernel_rfl | rfl)
    (case x_InvalidBits => k_is)
    (case xe_InvalidBits => k_exc)
    (case xk_InvalidBits => k_is)
    (case xs_InvalidBits => k_is)
    (case xt_InvalidBits => k_is)
    (case x_InvalidCounts => k_is)
    (case xe_InvalidCounts => k_exc)
    (case xk_InvalidCounts => k_is)
    (case xs_InvalidCounts => k_is)
    (case xt_InvalidCounts => k_is)
    (case p_0 => first | k_is | rfl)
    (case p_1 => first | k_is | rfl)
