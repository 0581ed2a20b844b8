import PyProof.Rows.All
import Wide.All
import OpenK.AllK
import Wide.FinOn
import HandS.ForMost
import HandS.Exc
import HandS.TryOnly
import HandS.ExcOwn
import HandS.WordsExc
import HandS.Lambda
import HandS.TryMany
import HandS.Wide
import HandS.WideBits
import HandS.Conv
import HandS.Zip
import HandS.Flow
import HandS.TupAny
import HandS.TupLe
import HandS.EndTab
import HandS.SortInts
import HandS.Deep
import HandS.TupMul
import HandS.RaiseMore
import PyProof.ZipIter
import PyProof.Draws
import PyProof.EnumMake
import PyProof.StrOps2
import HandS.SetKeys
import PyProof.Rows.SetFrom
import PyProof.ExcBaseAll.ValueError
import KE.BitLaws
import PySem.Challenge.RW_fewestbits_k23_whole_guarded_bits

-- DL0
set_option Elab.async false
set_option linter.all false
set_option maxRecDepth 100000
set_option maxHeartbeats 4000000
/-! The data layer: values as plain data, a result monad, what stands for what. -/
namespace DL
open PySem PySem.Spec PyProof.Rows L2

abbrev Sg := L2.St
/-- plain data -/
inductive D where
  | non | bl (b : Bool) | int (i : Int) | str (s : List Nat)
  | tup (xs : List D) | lst (xs : List D)
  | dic (kvs : List (Sum Int (List Nat) × D))
  | ins (c : Str) (fs : List (Str × D))
  | tape
  deriving Inhabited

/-- results: a value, an exception of a class, stuck -/
inductive R (α : Type) where
  | ok (a : α) | ex (c : Str) | st
namespace R
variable {α β γ : Type}
def bind : R α → (α → R β) → R β
  | .ok a, f => f a
  | .ex c, _ => .ex c
  | .st, _ => .st
def lift : Option α → R α
  | some a => .ok a
  | none => .st
/-- exceptions are stuck -/
def nx : R α → R α
  | .ok a => .ok a
  | _ => .st
@[simp] theorem bind_ok (a : α) (f : α → R β) : (R.ok a).bind f = f a := rfl
@[simp] theorem bind_ex (c : Str) (f : α → R β) : (R.ex c : R α).bind f = .ex c := rfl
@[simp] theorem bind_st (f : α → R β) : (R.st : R α).bind f = .st := rfl
@[simp] theorem lift_some (a : α) : R.lift (some a) = .ok a := rfl
@[simp] theorem lift_none : R.lift (none : Option α) = .st := rfl
@[simp] theorem nx_ok (a : α) : (R.ok a).nx = .ok a := rfl
@[simp] theorem nx_ex (c : Str) : (R.ex c : R α).nx = .st := rfl
@[simp] theorem nx_st : (R.st : R α).nx = .st := rfl
theorem bind_assoc (m : R α) (f : α → R β) (g : β → R γ) : (m.bind f).bind g = m.bind fun a => (f a).bind g := by
  cases m <;> rfl
end R

/-- a key of a dict -/
def keyD : Sum Int (List Nat) → Key
  | .inl i => .inl i
  | .inr s => .inr ⟨s.toArray⟩
def SS (s : List Nat) : Str := ⟨s.toArray⟩
/-- a tape: a dict with these keys; it may change at any time and stays one -/
def tapeKs : List Key := [.inr ("cells" : Str), .inr ("at" : Str), .inr ("left" : Str), .inr ("seed" : Str), .inr ("salt" : Str)]
def TapeO (o : HO) : Prop := ∃ kvs, o = .dK kvs ∧ kvs.map (·.1) = tapeKs
def tapeKvs (c : Addr) (i l s t : Int) : List (Key × V) := [(.inr ("cells" : Str), .ref c), (.inr ("at" : Str), .int i), (.inr ("left" : Str), .int l), (.inr ("seed" : Str), .int s), (.inr ("salt" : Str), .int t)]
def TapeOk (F : Addr → Prop) (H : Hp) (a : Addr) : Prop := ∃ (c : Addr) (cs : List Int) (i l s t : Int), H a = some (.dK (tapeKvs c i l s t)) ∧ F c ∧ Rd H c (.lst (cs.map V.int)) ∧ 0 ≤ i
/-- something stands there, no table -/
def Dat (H : Hp) (a : Addr) : Prop := ∃ o, H a = some o ∧ ∀ ps, o ≠ .tbl ps
theorem nd_none {H : Hp} {a : Addr} (h : H a = none) : ¬ Dat H a := fun ⟨o, e, _⟩ => by rw [h] at e; cases e
theorem Dat.ne {H : Hp} {a : Addr} (h : Dat H a) : H a ≠ none := by obtain ⟨o, e, _⟩ := h; rw [e]; simp
def NoTbl (o : HO) : Prop := (∀ ps, o ≠ .tbl ps) ∧ ¬ TapeO o
/-- signs are signs -/
def Okc (s : List Nat) : Prop := ∀ c ∈ s, c < 0x110000

mutual
/-- the value v in the heap H stands for the data d; the lists and dicts in it lie in F -/
inductive Rep (K : PySem.W.Frag) (F : Addr → Prop) (H : Hp) : V → D → Prop
  | non : Rep K F H .non .non
  | bl (b : Bool) : Rep K F H (.bl b) (.bl b)
  | int (i : Int) : Rep K F H (.int i) (.int i)
  | str (s : List Nat) (h : Okc s) : Rep K F H (.str (SS s)) (.str s)
  | tup {a : Addr} {vs : List V} {xs : List D} : SqT K H a vs → Reps K F H vs xs → Rep K F H (.ref a) (.tup xs)
  | lst {a : Addr} {vs : List V} {xs : List D} : F a → Rd H a (.lst vs) → Reps K F H vs xs → Rep K F H (.ref a) (.lst xs)
  | dic {a : Addr} {kvs : List (Key × V)} {xs : List (Sum Int (List Nat) × D)} : F a → Rd H a (.dK kvs) → NoTbl (.dK kvs) → RepKs K F H kvs xs → Rep K F H (.ref a) (.dic xs)
  | tape {a : Addr} : TapeOk F H a → Rep K F H (.ref a) .tape
inductive Reps (K : PySem.W.Frag) (F : Addr → Prop) (H : Hp) : List V → List D → Prop
  | nil : Reps K F H [] []
  | cons {v : V} {d : D} {vs : List V} {ds : List D} : Rep K F H v d → Reps K F H vs ds → Reps K F H (v :: vs) (d :: ds)
inductive RepKs (K : PySem.W.Frag) (F : Addr → Prop) (H : Hp) : List (Key × V) → List (Sum Int (List Nat) × D) → Prop
  | nil : RepKs K F H [] []
  | cons {k : Sum Int (List Nat)} {v : V} {d : D} {kvs : List (Key × V)} {xs : List (Sum Int (List Nat) × D)} : Rep K F H v d → RepKs K F H kvs xs → RepKs K F H ((keyD k, v) :: kvs) ((k, d) :: xs)
end

/-- what lies in F, and what never changes, stays -/
structure Grow (F : Addr → Prop) (H : Hp) (F' : Addr → Prop) (H' : Hp) : Prop where
  inc : ∀ a, F a → F' a
  keepF : ∀ b o, F b → H b = some o → NoTbl o → H' b = some o
  tups : ∀ b xs, H b = some (.tup xs) → H' b = some (.tup xs)
  frzs : ∀ b o u, H b = some (.frz o u) → H' b = some (.frz o u)
  tape : ∀ a, TapeOk F H a → TapeOk F' H' a
theorem Grow.refl {F : Addr → Prop} {H : Hp} : Grow F H F H := ⟨fun _ h => h, fun _ _ _ h _ => h, fun _ _ h => h, fun _ _ _ h => h, fun _ h => h⟩
theorem Grow.trans {F F1 F2 : Addr → Prop} {H H1 H2 : Hp} (a : Grow F H F1 H1) (b : Grow F1 H1 F2 H2) : Grow F H F2 H2 :=
  ⟨fun x h => b.inc x (a.inc x h), fun x o h e n => b.keepF x o (a.inc x h) (a.keepF x o h e n) n, fun x xs e => b.tups x xs (a.tups x xs e), fun x o u e => b.frzs x o u (a.frzs x o u e), fun x h => b.tape x (a.tape x h)⟩

section
variable {K : PySem.W.Frag} {F F' F1 F2 : Addr → Prop} {H H' H1 H2 : Hp} {a b : Addr} {v : V} {d : D} {vs : List V} {ds : List D}
theorem Grow.rdF {o : HO} (g : Grow F H F' H') (hF : F a) (hn : NoTbl o) (h : Rd H a o) : Rd H' a o := by
  rcases h with h | ⟨ob, h⟩
  · exact .inl (g.keepF a o hF h hn)
  · exact .inr ⟨ob, g.frzs a ob o h⟩
theorem Grow.sqT {xs : List V} (g : Grow F H F' H') (h : SqT K H a xs) : SqT K H' a xs := by
  rcases h with (h | ⟨o, h⟩) | h
  · exact .inl (.inl (g.tups a xs h))
  · exact .inl (.inr ⟨o, g.frzs a o _ h⟩)
  · exact .inr h
theorem noTbl_lst (xs : List V) : NoTbl (.lst xs) := ⟨fun _ e => (by cases e), fun ⟨_, e, _⟩ => (by cases e)⟩
theorem noTbl_tup (xs : List V) : NoTbl (.tup xs) := ⟨fun _ e => (by cases e), fun ⟨_, e, _⟩ => (by cases e)⟩
theorem noTbl_ins (C dx : Addr) (fs : List (Str × V)) : NoTbl (.ins C dx fs) := ⟨fun _ e => (by cases e), fun ⟨_, e, _⟩ => (by cases e)⟩
theorem noTbl_frz (o : Obj) (u : HO) : NoTbl (.frz o u) := ⟨fun _ e => (by cases e), fun ⟨_, e, _⟩ => (by cases e)⟩
theorem tapeO_kvs (c : Addr) (i l s t : Int) : TapeO (.dK (tapeKvs c i l s t)) := ⟨_, rfl, rfl⟩
mutual
theorem Rep.mono (g : Grow F H F' H') {v : V} : {d : D} → Rep K F H v d → Rep K F' H' v d
  | _, .non => .non
  | _, .bl b => .bl b
  | _, .int i => .int i
  | _, .str s h => .str s h
  | _, .tup h hs => .tup (g.sqT h) (Reps.mono g hs)
  | _, .lst hF h hs => .lst (g.inc _ hF) (g.rdF hF (noTbl_lst _) h) (Reps.mono g hs)
  | _, .dic hF h n hs => .dic (g.inc _ hF) (g.rdF hF n h) n (RepKs.mono g hs)
  | _, .tape h => .tape (g.tape _ h)
theorem Reps.mono (g : Grow F H F' H') {vs : List V} : {ds : List D} → Reps K F H vs ds → Reps K F' H' vs ds
  | _, .nil => .nil
  | _, .cons h t => .cons (Rep.mono g h) (Reps.mono g t)
theorem RepKs.mono (g : Grow F H F' H') {kvs : List (Key × V)} : {xs : List (Sum Int (List Nat) × D)} → RepKs K F H kvs xs → RepKs K F' H' kvs xs
  | _, .nil => .nil
  | _, .cons h t => .cons (Rep.mono g h) (RepKs.mono g t)
end
theorem Reps.length : ∀ {vs : List V} {ds : List D}, Reps K F H vs ds → vs.length = ds.length
  | _, _, .nil => rfl
  | _, _, .cons _ t => by rw [List.length_cons, List.length_cons, Reps.length t]
theorem Reps.append : ∀ {vs : List V} {ds : List D} {vs' : List V} {ds' : List D}, Reps K F H vs ds → Reps K F H vs' ds' → Reps K F H (vs ++ vs') (ds ++ ds')
  | _, _, _, _, .nil, s => s
  | _, _, _, _, .cons h t, s => .cons h (Reps.append t s)
theorem Reps.get : ∀ {vs : List V} {ds : List D} {i : Nat} {d : D}, Reps K F H vs ds → ds[i]? = some d → ∃ v, vs[i]? = some v ∧ Rep K F H v d
  | _, _, _, _, .nil, e => by simp at e
  | _, _, 0, _, .cons h _, e => by simp at e; subst e; exact ⟨_, rfl, h⟩
  | _, _, i + 1, _, .cons _ t, e => by
    obtain ⟨v, h1, h2⟩ := Reps.get (i := i) t (by simpa using e)
    exact ⟨v, by simpa using h1, h2⟩
theorem Reps.getV : ∀ {vs : List V} {ds : List D} {i : Nat} {v : V}, Reps K F H vs ds → vs[i]? = some v → ∃ d, ds[i]? = some d ∧ Rep K F H v d
  | _, _, _, _, .nil, e => by simp at e
  | _, _, 0, _, .cons h _, e => by simp at e; subst e; exact ⟨_, rfl, h⟩
  | _, _, i + 1, _, .cons _ t, e => by
    obtain ⟨v, h1, h2⟩ := Reps.getV (i := i) t (by simpa using e)
    exact ⟨v, by simpa using h1, h2⟩
theorem Reps.take : ∀ {vs : List V} {ds : List D} (n : Nat), Reps K F H vs ds → Reps K F H (vs.take n) (ds.take n)
  | _, _, 0, _ => .nil
  | _, _, _ + 1, .nil => .nil
  | _, _, n + 1, .cons h t => .cons h (Reps.take n t)
theorem Reps.drop : ∀ {vs : List V} {ds : List D} (n : Nat), Reps K F H vs ds → Reps K F H (vs.drop n) (ds.drop n)
  | _, _, 0, h => h
  | _, _, _ + 1, .nil => .nil
  | _, _, n + 1, .cons _ t => Reps.drop n t
theorem Reps.set : ∀ {vs : List V} {ds : List D} {v : V} {d : D} (i : Nat), Reps K F H vs ds → Rep K F H v d → Reps K F H (vs.set i v) (ds.set i d)
  | _, _, _, _, _, .nil, _ => .nil
  | _, _, _, _, 0, .cons _ t, r => .cons r t
  | _, _, _, _, i + 1, .cons h t, r => .cons h (Reps.set i t r)
theorem Reps.reverse : ∀ {vs : List V} {ds : List D}, Reps K F H vs ds → Reps K F H vs.reverse ds.reverse
  | _, _, .nil => .nil
  | _, _, .cons h t => by rw [List.reverse_cons, List.reverse_cons]; exact (Reps.reverse t).append (.cons h .nil)
theorem Reps.replicate (n : Nat) (h : Rep K F H v d) : Reps K F H (List.replicate n v) (List.replicate n d) := by
  induction n with
  | zero => exact .nil
  | succ n ih => rw [List.replicate_succ, List.replicate_succ]; exact .cons h ih
theorem Reps.flatRep (n : Nat) (h : Reps K F H vs ds) : Reps K F H (List.replicate n vs).flatten (List.replicate n ds).flatten := by
  induction n with
  | zero => exact .nil
  | succ n ih => rw [List.replicate_succ, List.replicate_succ, List.flatten_cons, List.flatten_cons]; exact h.append ih
/-- lists of a kind -/
theorem Reps.ints : ∀ {vs : List V} {is : List Int}, Reps K F H vs (is.map D.int) → vs = is.map V.int
  | _, [], .nil => rfl
  | _, i :: is, .cons h t => by cases h; rw [Reps.ints t]; rfl
theorem Reps.bls : ∀ {vs : List V} {is : List Bool}, Reps K F H vs (is.map D.bl) → vs = is.map V.bl
  | _, [], .nil => rfl
  | _, i :: is, .cons h t => by cases h; rw [Reps.bls t]; rfl
theorem Reps.strs : ∀ {vs : List V} {is : List (List Nat)}, Reps K F H vs (is.map D.str) → vs = (is.map SS).map V.str
  | _, [], .nil => rfl
  | _, i :: is, .cons h t => by cases h; rw [Reps.strs t]; rfl
theorem reps_ints : ∀ (is : List Int), Reps K F H (is.map V.int) (is.map D.int)
  | [] => .nil
  | i :: is => .cons (.int i) (reps_ints is)
theorem Reps.strOk : ∀ {vs : List V} {is : List (List Nat)}, Reps K F H vs (is.map D.str) → ∀ s ∈ is, Okc s
  | _, [], .nil, _, h => nomatch h
  | _, i :: is, .cons h t, s, hs => by
    rcases List.mem_cons.mp hs with e | e
    · cases h; rw [e]; assumption
    · exact Reps.strOk t s e
theorem reps_strs : ∀ (is : List (List Nat)), (∀ s ∈ is, Okc s) → Reps K F H ((is.map SS).map V.str) (is.map D.str)
  | [], _ => .nil
  | i :: is, h => .cons (.str i (h i List.mem_cons_self)) (reps_strs is fun s hs => h s (List.mem_cons_of_mem _ hs))
end

/-- how an expression's value is had: O: a new list (dict) of one's own, S: as data, B: looked at (a list may be another's own) -/
inductive Md | O | S | B

section
variable (K : PySem.W.Frag) (F : Addr → Prop) (H : Hp)
/-- an object of one's own at a -/
def OwnAt (a : Addr) : D → Prop
  | .lst xs => ∃ vs, H a = some (.lst vs) ∧ Reps K F H vs xs
  | .dic xs => ∃ kvs, H a = some (.dK kvs) ∧ NoTbl (.dK kvs) ∧ RepKs K F H kvs xs
  | _ => False
/-- what stands at a, looked at -/
def TopAt (a : Addr) : D → Prop
  | .lst xs => ∃ vs, Rd H a (.lst vs) ∧ Reps K F H vs xs
  | .dic xs => ∃ kvs, Rd H a (.dK kvs) ∧ NoTbl (.dK kvs) ∧ RepKs K F H kvs xs
  | _ => False
def Top (v : V) (d : D) : Prop := Rep K F H v d ∨ ∃ a, v = .ref a ∧ TopAt K F H a d
def RepM (md : Md) (H0 : Hp) (v : V) (d : D) : Prop :=
  match md with
  | .S => Rep K F H v d
  | .B => Top K F H v d
  | .O => ∃ a, v = .ref a ∧ ¬ Dat H0 a ∧ ¬ F a ∧ OwnAt K F H a d
end

/-- a slot: nothing known, shared data, an object of one's own -/
inductive Sl where
  | no | sh (d : D) | ow (d : D)
  deriving Inhabited
def SlR (K : PySem.W.Frag) (F : Addr → Prop) (H : Hp) (x : Option V) : Sl → Prop
  | .no => True
  | .sh d => ∃ v, x = some v ∧ Rep K F H v d
  | .ow d => ∃ a, x = some (.ref a) ∧ OwnAt K F H a d
/-- the slot i holds an object of one's own at a -/
def OwnI (σ : Sg) (env : List Sl) (i : Nat) (a : Addr) : Prop := (∃ d, env[i]? = some (.ow d)) ∧ σ[i]? = some (some (.ref a))
abbrev Tb := List (Addr × Str)
structure ER (K : PySem.W.Frag) (T : Tb) (F : Addr → Prop) (σ : Sg) (H : Hp) (env : List Sl) : Prop where
  len : σ.length = env.length
  slots : ∀ (i : Nat) (sl : Sl), env[i]? = some sl → ∃ x : Option V, σ[i]? = some x ∧ SlR K F H x sl
  nd : ∀ (i j : Nat) (a : Addr), OwnI σ env i a → OwnI σ env j a → i = j
  nf : ∀ (i : Nat) (a : Addr), OwnI σ env i a → ¬ F a
  ftr : ∀ a, F a → Dat H a
  tabs : LamX.Tabs T H

/-- a step that changes nothing that stood but tables -/
structure Stp (T : Tb) (F : Addr → Prop) (H : Hp) (F' : Addr → Prop) (H' : Hp) : Prop where
  inc : ∀ a, F a → F' a
  new : ∀ a, F' a → F a ∨ ¬ Dat H a
  keep : ∀ b o, H b = some o → NoTbl o → H' b = some o
  there : ∀ b, Dat H b → Dat H' b
  tape : ∀ a, TapeOk F H a → TapeOk F' H' a
  tabs : LamX.Tabs T H → LamX.Tabs T H'
  ftr : (∀ a, F a → Dat H a) → ∀ a, F' a → Dat H' a
section
variable {K : PySem.W.Frag} {T : Tb} {F F' F1 F2 : Addr → Prop} {H H' H1 H2 : Hp} {a b p : Addr} {v : V} {d : D} {vs : List V} {ds : List D}
theorem Stp.refl : Stp T F H F H := ⟨fun _ h => h, fun _ h => .inl h, fun _ _ h _ => h, fun _ h => h, fun _ h => h, fun h => h, fun h => h⟩
theorem Stp.back (s : Stp T F H F' H') (h : ¬ Dat H' a) : ¬ Dat H a := fun z => h (s.there a z)
theorem Stp.trans (a : Stp T F H F1 H1) (b : Stp T F1 H1 F2 H2) : Stp T F H F2 H2 where
  inc := fun x h => b.inc x (a.inc x h)
  new := fun x h => by
    rcases b.new x h with h | h
    · exact a.new x h
    · exact .inr (a.back h)
  keep := fun x o e n => b.keep x o (a.keep x o e n) n
  there := fun x h => b.there x (a.there x h)
  tape := fun x h => b.tape x (a.tape x h)
  tabs := fun h => b.tabs (a.tabs h)
  ftr := fun h => b.ftr (a.ftr h)
theorem Stp.grow (s : Stp T F H F' H') : Grow F H F' H' :=
  ⟨s.inc, fun b o _ e n => s.keep b o e n, fun b xs e => s.keep b _ e (noTbl_tup xs), fun b o u e => s.keep b _ e (noTbl_frz o u), s.tape⟩
theorem Stp.rd {o : HO} (s : Stp T F H F' H') (hn : NoTbl o) (h : Rd H a o) : Rd H' a o := by
  rcases h with h | ⟨ob, h⟩
  · exact .inl (s.keep a o h hn)
  · exact .inr ⟨ob, s.keep a _ h (noTbl_frz ob o)⟩
theorem Stp.topAt (s : Stp T F H F' H') : {d : D} → TopAt K F H a d → TopAt K F' H' a d
  | .lst _, ⟨vs, h, r⟩ => ⟨vs, s.rd (noTbl_lst _) h, r.mono s.grow⟩
  | .dic _, ⟨kvs, h, n, r⟩ => ⟨kvs, s.rd n h, n, r.mono s.grow⟩
theorem Stp.top (s : Stp T F H F' H') (h : Top K F H v d) : Top K F' H' v d := by
  rcases h with h | ⟨a, e, h⟩
  · exact .inl (h.mono s.grow)
  · exact .inr ⟨a, e, s.topAt h⟩
theorem Stp.ownAt (s : Stp T F H F' H') : {d : D} → OwnAt K F H a d → OwnAt K F' H' a d
  | .lst _, ⟨vs, h, r⟩ => ⟨vs, s.keep _ _ h (noTbl_lst _), r.mono s.grow⟩
  | .dic _, ⟨kvs, h, n, r⟩ => ⟨kvs, s.keep _ _ h n, n, r.mono s.grow⟩
theorem OwnAt.tr : {d : D} → OwnAt K F H a d → Dat H a
  | .lst _, ⟨vs, h, r⟩ => ⟨_, h, fun _ z => by cases z⟩
  | .dic _, ⟨kvs, h, n, r⟩ => ⟨_, h, fun _ z => by cases z⟩
theorem OwnAt.topAt : {d : D} → OwnAt K F H a d → TopAt K F H a d
  | .lst _, ⟨vs, h, r⟩ => ⟨vs, .inl h, r⟩
  | .dic _, ⟨kvs, h, n, r⟩ => ⟨kvs, .inl h, n, r⟩
theorem TopAt.rep (hF : F a) : {d : D} → TopAt K F H a d → Rep K F H (.ref a) d
  | .lst _, ⟨vs, h, r⟩ => .lst hF h r
  | .dic _, ⟨kvs, h, n, r⟩ => .dic hF h n r
theorem Rep.top (h : Rep K F H v d) : Top K F H v d := .inl h
theorem Stp.mode {md : Md} {H0 : Hp} (s : Stp T F H F' H') (hO : md = .O → ∀ a, ¬ Dat H0 a → ¬ F a → Dat H a → ¬ F' a) (h : RepM K F H md H0 v d) : RepM K F' H' md H0 v d := by
  cases md with
  | S => exact Rep.mono s.grow h
  | B => exact s.top h
  | O =>
    obtain ⟨a, e, h0, nf, o⟩ := h
    exact ⟨a, e, h0, hO rfl a h0 nf o.tr, s.ownAt o⟩
/-- a mode is made weaker -/
theorem Stp.notF (s : Stp T F H F' H') (nf : ¬ F a) (ht : Dat H a) : ¬ F' a := fun h => by
  rcases s.new a h with h | h
  · exact nf h
  · exact h ht
theorem tabs_upd {o : HO} (h : LamX.Tabs T H) (hp : H p = none) : LamX.Tabs T (upd H p o) := h.ext fun b u e => by rw [upd_ne (ne_of_none e hp)]; exact e
theorem TapeOk.upd {o : HO} (h : TapeOk F H a) (hap : a ≠ p) (hcp : ¬ F p) : TapeOk F (upd H p o) a := by
  obtain ⟨c, cs, i, l, s, t, h1, h2, h3, h4⟩ := h
  have hc : c ≠ p := fun e => hcp (by rw [← e]; exact h2)
  refine ⟨c, cs, i, l, s, t, by rw [upd_ne hap]; exact h1, h2, ?_, h4⟩
  rcases h3 with h3 | ⟨ob, h3⟩
  · exact .inl (by rw [upd_ne hc]; exact h3)
  · exact .inr ⟨ob, by rw [upd_ne hc]; exact h3⟩
theorem TapeOk.upd_none {o : HO} (h : TapeOk F H a) (hp : H p = none) : TapeOk F (L2.upd H p o) a := by
  obtain ⟨c, cs, i, l, s, t, h1, h2, h3, h4⟩ := h
  refine ⟨c, cs, i, l, s, t, by rw [upd_ne (ne_of_none h1 hp)]; exact h1, h2, ?_, h4⟩
  rcases h3 with h3 | ⟨ob, h3⟩
  · exact .inl (by rw [upd_ne (ne_of_none h3 hp)]; exact h3)
  · exact .inr ⟨ob, by rw [upd_ne (ne_of_none h3 hp)]; exact h3⟩
theorem TapeOk.addF (h : TapeOk F H a) (hi : ∀ b, F b → F' b) : TapeOk F' H a := by
  obtain ⟨c, cs, i, l, s, t, h1, h2, h3, h4⟩ := h
  exact ⟨c, cs, i, l, s, t, h1, hi c h2, h3, h4⟩
/-- a new object -/
theorem Dat.upd {o : HO} (h : Dat H a) (hp : H p = none) : Dat (L2.upd H p o) a := by
  obtain ⟨u, e, n⟩ := h
  exact ⟨u, by rw [upd_ne (ne_of_none e hp)]; exact e, n⟩
theorem Stp.new1 {o : HO} (hp : H p = none) : Stp T F H F (L2.upd H p o) where
  inc := fun _ h => h
  new := fun _ h => .inl h
  keep := fun b u e _ => by rw [upd_ne (ne_of_none e hp)]; exact e
  there := fun b h => h.upd hp
  tape := fun b h => h.upd_none hp
  tabs := fun h => tabs_upd h hp
  ftr := fun h a hF => (h a hF).upd hp
/-- .. that lies in F from now on -/
def Fa (F : Addr → Prop) (p : Addr) : Addr → Prop := fun a => F a ∨ a = p
theorem Stp.addF (hp : ¬ Dat H p) (s : Stp T F H F' H') (ht : Dat H' p) : Stp T F H (Fa F' p) H' where
  inc := fun a h => .inl (s.inc a h)
  new := fun a h => by
    rcases h with h | h
    · exact s.new a h
    · rw [h]; exact .inr hp
  keep := s.keep
  there := s.there
  tape := fun a h => (s.tape a h).addF fun _ h => .inl h
  tabs := s.tabs
  ftr := fun h a hF => by
    rcases hF with hF | hF
    · exact s.ftr h a hF
    · rw [hF]; exact ht
theorem Grow.addF : Grow F H (Fa F p) H := ⟨fun _ h => .inl h, fun _ _ _ h _ => h, fun _ _ h => h, fun _ _ _ h => h, fun _ h => h.addF fun _ h => .inl h⟩
theorem TopAt.addF (h : TopAt K F H a d) : TopAt K (Fa F p) H a d := by
  cases d with
  | lst xs => obtain ⟨vs, h, r⟩ := h; exact ⟨vs, h, r.mono Grow.addF⟩
  | dic xs => obtain ⟨vs, h, n, r⟩ := h; exact ⟨vs, h, n, r.mono Grow.addF⟩
  | _ => exact h.elim
theorem SlR.stp (s : Stp T F H F' H') {x : Option V} : {sl : Sl} → SlR K F H x sl → SlR K F' H' x sl
  | .no, _ => trivial
  | .sh _, ⟨v, e, r⟩ => ⟨v, e, r.mono s.grow⟩
  | .ow _, ⟨a, e, r⟩ => ⟨a, e, s.ownAt r⟩
theorem ER.sh_at {σ : Sg} {env : List Sl} {i : Nat} {d : D} (I : ER K T F σ H env) (e : env[i]? = some (.sh d)) : ∃ v, σ[i]? = some (some v) ∧ Rep K F H v d := by
  obtain ⟨x, h1, v, h2, h3⟩ := I.slots i _ e
  exact ⟨v, by rw [h1, h2], h3⟩
theorem ER.ow_at {σ : Sg} {env : List Sl} {i : Nat} {d : D} (I : ER K T F σ H env) (e : env[i]? = some (.ow d)) : ∃ a, σ[i]? = some (some (.ref a)) ∧ OwnAt K F H a d := by
  obtain ⟨x, h1, v, h2, h3⟩ := I.slots i _ e
  exact ⟨v, by rw [h1, h2], h3⟩
theorem ER.own {σ : Sg} {env : List Sl} {i : Nat} (I : ER K T F σ H env) (h : OwnI σ env i a) : ∃ d, env[i]? = some (.ow d) ∧ OwnAt K F H a d := by
  obtain ⟨⟨d, e⟩, h2⟩ := h
  obtain ⟨b, h1, h3⟩ := I.ow_at e
  rw [h1] at h2
  cases h2
  exact ⟨d, e, h3⟩
theorem ER.stp {σ : Sg} {env : List Sl} (I : ER K T F σ H env) (s : Stp T F H F' H') : ER K T F' σ H' env where
  len := I.len
  slots := fun i sl e => by
    obtain ⟨x, h1, h2⟩ := I.slots i sl e
    exact ⟨x, h1, h2.stp s⟩
  nd := I.nd
  nf := fun i a h => by
    obtain ⟨d, _, o⟩ := I.own h
    exact s.notF (I.nf i a h) o.tr
  ftr := s.ftr I.ftr
  tabs := s.tabs I.tabs
end
end DL

-- DL1
set_option Elab.async false
set_option linter.all false
set_option maxRecDepth 100000
set_option maxHeartbeats 4000000
/-! The data layer: expressions. -/
namespace DL
open PySem PySem.Spec PyProof.Rows L2

/-! ### names, told by the kernel -/
def visB (sc : Scope) (x : Str) : Bool := match sc.names.lookup x with
  | some .local => true
  | some .cell => true
  | some .free => true
  | _ => false
def locB (sc : Scope) (x : Str) : Bool := match sc.names.lookup x with
  | some .local => true
  | some .cell => true
  | _ => false
theorem vis_of {sc : Scope} {x : Str} (h : visB sc x = true) : Vis sc x := by
  unfold visB at h
  unfold Vis
  split at h <;> simp_all
theorem loc_of {sc : Scope} {x : Str} (h : locB sc x = true) : L2.Loc sc x := by
  unfold locB at h
  unfold L2.Loc
  split at h <;> simp_all
theorem gl_of {X : Cx} {x : Str} (h : X.env.kindOf x = some .globalImplicit) : Gl X x := h
theorem ne_name {x : Str} (h : (x == "__name__") = false) : x ≠ "__name__" := fun e => by subst e; simp at h
/-! ### the strongest readings -/
@[irreducible] def wpE (X : Cx) (e : Expr) : TE := fun σ H Q => ∀ pins s, Inv X pins σ H s → wpAny (model X.prog X.w) X.A (eval e X.env) (EP X pins σ Q) X.xe s
@[irreducible] def wpT (X : Cx) (e : Expr) : TT := fun σ H Q => ∀ pins s, Inv X pins σ H s → wpAny (model X.prog X.w) X.A (isTrue e X.env (eval e X.env)) (TP X pins σ Q) X.xe s
@[irreducible] def wpW (X : Cx) (e : Expr) : TT := fun σ H Q => ∀ whole pins s, Inv X pins σ H s → wpAny (model X.prog X.w) X.A (isTrue e X.env whole) (TP X pins σ Q) X.xe s
@[irreducible] def wpA (X : Cx) (es : List Expr) : TA := fun σ H Q => ∀ pos pins s, Inv X pins σ H s → wpAny (model X.prog X.w) X.A (spliced (backTo pos (starEach es X.env))) (AP X pins σ Q) X.xe s
@[irreducible] def wpF (X : Cx) (f : Value → Value → Sem Value) : R2 := fun x y H Q => ∀ pins s σ v u, Inv X pins σ H s → RelV x v → RelV y u → wpAny (model X.prog X.w) X.A (f v u) (EP X pins σ Q) X.xe s
theorem pe_wp {X : Cx} {e : Expr} : PE X e (wpE X e) := ⟨fun pins s _ _ _ I h => by unfold wpE at h; exact h pins s I⟩
theorem pt_wp {X : Cx} {e : Expr} : PT X e (wpT X e) := ⟨fun pins s _ _ _ I h => by unfold wpT at h; exact h pins s I⟩
theorem pw_wp {X : Cx} {e : Expr} : PW X e (wpW X e) := ⟨fun wh pins s _ _ _ I h => by unfold wpW at h; exact h wh pins s I⟩
theorem pa_wp {X : Cx} {es : List Expr} : PA X es (wpA X es) := ⟨fun pos pins s _ _ _ I h => by unfold wpA at h; exact h pos pins s I⟩
theorem op_wp {X : Cx} {f : Value → Value → Sem Value} : OpR X f (wpF X f) := fun pins s σ _ _ _ v u _ I a b h => by unfold wpF at h; exact h pins s σ v u I a b
theorem _root_.L2.PE.wp {X : Cx} {e : Expr} {t : TE} (h : PE X e t) {σ : Sg} {H : Hp} {Q : VK} (q : t σ H Q) : wpE X e σ H Q := by unfold wpE; exact fun pins s I => h.run pins s σ H Q I q
theorem _root_.L2.PT.wp {X : Cx} {e : Expr} {t : TT} (h : PT X e t) {σ : Sg} {H : Hp} {Q : Bool → Hp → Prop} (q : t σ H Q) : wpT X e σ H Q := by unfold wpT; exact fun pins s I => h.run pins s σ H Q I q
theorem _root_.L2.PW.wp {X : Cx} {e : Expr} {t : TT} (h : PW X e t) {σ : Sg} {H : Hp} {Q : Bool → Hp → Prop} (q : t σ H Q) : wpW X e σ H Q := by unfold wpW; exact fun wh pins s I => h.run wh pins s σ H Q I q
theorem _root_.L2.PA.wp {X : Cx} {es : List Expr} {t : TA} (h : PA X es t) {σ : Sg} {H : Hp} {Q : List V → Hp → Prop} (q : t σ H Q) : wpA X es σ H Q := by unfold wpA; exact fun pos pins s I => h.run pos pins s σ H Q I q
theorem _root_.L2.OpR.wp {X : Cx} {f : Value → Value → Sem Value} {r : R2} (h : OpR X f r) {x y : V} {H : Hp} {Q : VK} (q : r x y H Q) : wpF X f x y H Q := by unfold wpF; exact fun pins s σ v u I a b => h pins s σ H x y v u Q I a b q

/-! ### what is wanted of a result -/
section
variable (X : Cx) (T : Tb) (W : WX) (F : Addr → Prop) (σ : Sg) (H : Hp)
/-- an exception of the class c -/
def PostX (c : Str) : Prop := ∀ F' C dd H', Stp T F H F' H' → X.mg c = some (.ref C) → W (.ref C) dd σ H'
def PostE (md : Md) (m : R D) (Q : VK) : Prop :=
  match m with
  | .ok d => ∀ F' v H', Stp T F H F' H' → RepM X.K F' H' md H v d → Q v H'
  | .ex c => PostX X T W F σ H c
  | .st => False
def PostT (m : R Bool) (Q : Bool → Hp → Prop) : Prop :=
  match m with
  | .ok b => ∀ F' H', Stp T F H F' H' → Q b H'
  | .ex c => PostX X T W F σ H c
  | .st => False
def PostA (m : R (List D)) (Q : List V → Hp → Prop) : Prop :=
  match m with
  | .ok ds => ∀ F' vs H', Stp T F H F' H' → Reps X.K F' H' vs ds → Q vs H'
  | .ex c => PostX X T W F σ H c
  | .st => False
/-- of a value alone -/
def PostV (md : Md) (o : Option D) (Q : VK) : Prop :=
  match o with
  | some d => ∀ F' v H', Stp T F H F' H' → RepM X.K F' H' md H v d → Q v H'
  | none => False
end
def DE (md : Md) (X : Cx) (T : Tb) (W : WX) (env : List Sl) (e : Expr) (m : R D) : Prop :=
  ∀ F σ H Q, ER X.K T F σ H env → PostE X T W F σ H md m Q → wpE X e σ H Q
def DT (X : Cx) (T : Tb) (W : WX) (env : List Sl) (e : Expr) (m : R Bool) : Prop :=
  ∀ F σ H Q, ER X.K T F σ H env → PostT X T W F σ H m Q → wpT X e σ H Q
def DW (X : Cx) (T : Tb) (W : WX) (env : List Sl) (e : Expr) (m : R Bool) : Prop :=
  ∀ F σ H Q, ER X.K T F σ H env → PostT X T W F σ H m Q → wpW X e σ H Q
structure DA (X : Cx) (T : Tb) (W : WX) (env : List Sl) (es : List Expr) (m : R (List D)) : Prop where
  len : ∀ xs, m = .ok xs → xs.length = es.length
  run : ∀ F σ H Q, ER X.K T F σ H env → PostA X T W F σ H m Q → wpA X es σ H Q

section
variable {X : Cx} {T : Tb} {W : WX} {F F' F1 F2 : Addr → Prop} {σ : Sg} {H H' H1 H2 : Hp} {env : List Sl} {md md1 : Md} {e a b c : Expr} {es : List Expr} {m ma mb mc : R D} {mt mt1 mt2 : R Bool} {mas : R (List D)} {pos : Pos}
theorem PostX.stp {cl : Str} (s : Stp T F H F' H') (h : PostX X T W F σ H cl) : PostX X T W F' σ H' cl := fun F2 C dd H2 s2 hm => h F2 C dd H2 (s.trans s2) hm
theorem RepM.base {K : PySem.W.Frag} {v : V} {d : D} (s : Stp T F H F' H') (r : RepM K F2 H2 md H' v d) : RepM K F2 H2 md H v d := by
  cases md with
  | O => obtain ⟨a, e, n, r⟩ := r; exact ⟨a, e, s.back n, r⟩
  | S => exact r
  | B => exact r
theorem PostE.stp {Q : VK} (s : Stp T F H F' H') (h : PostE X T W F σ H md m Q) : PostE X T W F' σ H' md m Q := by
  cases m with
  | ok d => exact fun F2 v H2 s2 r => h F2 v H2 (s.trans s2) (RepM.base s r)
  | ex c => exact PostX.stp s h
  | st => exact h
theorem PostT.stp {Q : Bool → Hp → Prop} (s : Stp T F H F' H') (h : PostT X T W F σ H mt Q) : PostT X T W F' σ H' mt Q := by
  cases mt with
  | ok d => exact fun F2 H2 s2 => h F2 H2 (s.trans s2)
  | ex c => exact PostX.stp s h
  | st => exact h
theorem PostA.stp {Q : List V → Hp → Prop} (s : Stp T F H F' H') (h : PostA X T W F σ H mas Q) : PostA X T W F' σ H' mas Q := by
  cases mas with
  | ok d => exact fun F2 v H2 s2 r => h F2 v H2 (s.trans s2) r
  | ex c => exact PostX.stp s h
  | st => exact h
/-- weaker modes -/
theorem RepM.toB {K : PySem.W.Frag} {v : V} {d : D} (r : RepM K F H md H1 v d) : Top K F H v d := by
  cases md with
  | O => obtain ⟨a, e, _, _, r⟩ := r; exact .inr ⟨a, e, r.topAt⟩
  | S => exact .inl r
  | B => exact r
theorem DE.toB (h : DE md X T W env e m) : DE .B X T W env e m := fun F σ H Q I q => h F σ H Q I (by
  cases m with
  | ok d => exact fun F' v H' s r => q F' v H' s (RepM.toB r)
  | ex c => exact q
  | st => exact q)
theorem DE.ofO (h : DE .O X T W env e m) : DE .S X T W env e m := fun F σ H Q I q => h F σ H Q I (by
  cases m with
  | ok d =>
    intro F' v H' s r
    obtain ⟨p, ev, h0, nf, o⟩ := r
    subst ev
    exact q (Fa F' p) (.ref p) H' (s.addF h0 o.tr) (o.topAt.addF.rep (.inr rfl))
  | ex c => exact q
  | st => exact q)
/-- one expression, then more -/
theorem runE {α : Type} {Q1 : VK} {f : D → R α} {P : (Addr → Prop) → Hp → R α → Prop} (ha : DE md X T W env a ma) (I : ER X.K T F σ H env)
    (hx : ∀ c, P F H (.ex c) → PostX X T W F σ H c) (hs : P F H .st → False) (hP : ∀ F' H' r, Stp T F H F' H' → P F H r → P F' H' r)
    (h : P F H (ma.bind f)) (k : ∀ d F' v H', Stp T F H F' H' → RepM X.K F' H' md H v d → P F' H' (f d) → Q1 v H') : wpE X a σ H Q1 := by
  refine ha F σ H Q1 I ?_
  cases ma with
  | ok d => exact fun F' v H' s r => k d F' v H' s r (hP F' H' _ s h)
  | ex c => exact hx c h
  | st => exact (hs h).elim
theorem runEE {Q Q1 : VK} {f : D → R D} (ha : DE md X T W env a ma) (I : ER X.K T F σ H env) (h : PostE X T W F σ H md1 (ma.bind f) Q)
    (k : ∀ d F' v H', Stp T F H F' H' → RepM X.K F' H' md H v d → PostE X T W F' σ H' md1 (f d) Q → Q1 v H') : wpE X a σ H Q1 :=
  runE (P := fun F H r => PostE X T W F σ H md1 r Q) ha I (fun _ h => h) (fun h => h) (fun _ _ _ s h => PostE.stp s h) h k
theorem runET {Q1 : VK} {Q : Bool → Hp → Prop} {f : D → R Bool} (ha : DE md X T W env a ma) (I : ER X.K T F σ H env) (h : PostT X T W F σ H (ma.bind f) Q)
    (k : ∀ d F' v H', Stp T F H F' H' → RepM X.K F' H' md H v d → PostT X T W F' σ H' (f d) Q → Q1 v H') : wpE X a σ H Q1 :=
  runE (P := fun F H r => PostT X T W F σ H r Q) ha I (fun _ h => h) (fun h => h) (fun _ _ _ s h => PostT.stp s h) h k
theorem runEA {Q1 : VK} {Q : List V → Hp → Prop} {f : D → R (List D)} (ha : DE md X T W env a ma) (I : ER X.K T F σ H env) (h : PostA X T W F σ H (ma.bind f) Q)
    (k : ∀ d F' v H', Stp T F H F' H' → RepM X.K F' H' md H v d → PostA X T W F' σ H' (f d) Q → Q1 v H') : wpE X a σ H Q1 :=
  runE (P := fun F H r => PostA X T W F σ H r Q) ha I (fun _ h => h) (fun h => h) (fun _ _ _ s h => PostA.stp s h) h k
theorem runAE {Q : VK} {Q1 : List V → Hp → Prop} {f : List D → R D} (ha : DA X T W env es mas) (I : ER X.K T F σ H env) (h : PostE X T W F σ H md (mas.bind f) Q)
    (k : ∀ ds F' vs H', Stp T F H F' H' → Reps X.K F' H' vs ds → PostE X T W F' σ H' md (f ds) Q → Q1 vs H') : wpA X es σ H Q1 := by
  refine ha.run F σ H Q1 I ?_
  cases mas with
  | ok d => exact fun F' v H' s r => k d F' v H' s r (PostE.stp s h)
  | ex c => exact h
  | st => exact h.elim
theorem runTE {Q : VK} {Q1 : Bool → Hp → Prop} {f : Bool → R D} (ha : DT X T W env c mt) (I : ER X.K T F σ H env) (h : PostE X T W F σ H md (mt.bind f) Q)
    (k : ∀ b F' H', Stp T F H F' H' → PostE X T W F' σ H' md (f b) Q → Q1 b H') : wpT X c σ H Q1 := by
  refine ha F σ H Q1 I ?_
  cases mt with
  | ok d => exact fun F' H' s => k d F' H' s (PostE.stp s h)
  | ex c => exact h
  | st => exact h.elim
theorem runTT {Q Q1 : Bool → Hp → Prop} {f : Bool → R Bool} (ha : DT X T W env c mt) (I : ER X.K T F σ H env) (h : PostT X T W F σ H (mt.bind f) Q)
    (k : ∀ b F' H', Stp T F H F' H' → PostT X T W F' σ H' (f b) Q → Q1 b H') : wpT X c σ H Q1 := by
  refine ha F σ H Q1 I ?_
  cases mt with
  | ok d => exact fun F' H' s => k d F' H' s (PostT.stp s h)
  | ex c => exact h
  | st => exact h.elim
theorem PostE.lift {o : Option D} {Q : VK} (h : PostE X T W F σ H md (R.lift o) Q) : PostV X T F H md o Q := by
  cases o with
  | some d => exact h
  | none => exact h

/-! ### names, constants -/
theorem de_v {i : Nat} {x : Str} {d : D} (he : env[i]? = some (.sh d)) (hN : X.N[i]? = some x := by kernel_rfl) (hv : Vis X.env.scope x := by exact vis_of (by kernel_rfl))
    (hd : (x == ("__debug__" : Str)) = false := by kernel_rfl) (hcd : (x == ("__classdict__" : Str)) = false := by kernel_rfl) : DE .S X T W env (.Name x pos) (.ok d) := fun F σ H Q I q => by
  obtain ⟨v, e1, r⟩ := I.sh_at he
  exact (pe_var (pos := pos) hN hv hd hcd).wp ⟨v, e1, q F v H .refl r⟩
theorem de_vo {i : Nat} {x : Str} {d : D} (he : env[i]? = some (.ow d)) (hN : X.N[i]? = some x := by kernel_rfl) (hv : Vis X.env.scope x := by exact vis_of (by kernel_rfl))
    (hd : (x == ("__debug__" : Str)) = false := by kernel_rfl) (hcd : (x == ("__classdict__" : Str)) = false := by kernel_rfl) : DE .B X T W env (.Name x pos) (.ok d) := fun F σ H Q I q => by
  obtain ⟨a, e1, r⟩ := I.ow_at he
  exact (pe_var (pos := pos) hN hv hd hcd).wp ⟨.ref a, e1, q F (.ref a) H .refl (.inr ⟨a, rfl, r.topAt⟩)⟩
theorem de_int {i : Int} {j : Nat} : DE .S X T W env (.Constant (.int i) j pos) (.ok (.int i)) := fun F σ H Q I q => pe_int.wp (q F _ H .refl (.int i))
theorem de_bl {i : Bool} {j : Nat} : DE .S X T W env (.Constant (.bool i) j pos) (.ok (.bl i)) := fun F σ H Q I q => pe_bl.wp (q F _ H .refl (.bl i))
theorem de_non {j : Nat} : DE .S X T W env (.Constant .none j pos) (.ok .non) := fun F σ H Q I q => pe_non.wp (q F _ H .refl .non)
def okcB (s : List Nat) : Bool := s.all fun c => decide (c < 0x110000)
theorem okc_of {s : List Nat} (h : okcB s = true) : Okc s := fun c hc => of_decide_eq_true (List.all_eq_true.mp h c hc)
theorem de_str {x : Str} {s : List Nat} {j : Nat} (he : x = SS s := by kernel_rfl) (ho : okcB s = true := by kernel_rfl) : DE .S X T W env (.Constant (.str x) j pos) (.ok (.str s)) := fun F σ H Q I q => by
  subst he
  exact pe_str.wp (q F _ H .refl (.str s (okc_of ho)))
/-- a name of the module whose value is data of the written part -/
def KRep (K : PySem.W.Frag) (v : V) (d : D) : Prop := ∀ F H, Rep K F H v d
theorem de_glob {x : Str} {u : Value} {v : V} {d : D} (hm : X.mg x = some u) (r : RelV v u) (k : KRep X.K v d) (hg : Gl X x := by exact gl_of (by kernel_rfl)) (hd : (x == ("__debug__" : Str)) = false := by kernel_rfl) : DE .S X T W env (.Name x pos) (.ok d) :=
  fun F σ H Q I q => (pe_glob (pos := pos) hg hm r hd).wp (q F v H .refl (k F H))

/-! ### operators -/
/-- an operator on data -/
structure OpD (md : Md) (X : Cx) (T : Tb) (f : Value → Value → Sem Value) (g : D → D → Option D) : Prop where
  run : ∀ F H vx vy x y Q, Top X.K F H vx x → Top X.K F H vy y → PostV X T F H md (g x y) Q → wpF X f vx vy H Q
theorem de_op {op : Operator} {g : D → D → Option D} (ho : OpD md X T (binaryOp op) g) (ha : DE .B X T W env a ma) (hb : DE .B X T W env b mb) :
    DE md X T W env (.BinOp a op b pos) (ma.bind fun x => mb.bind fun y => R.lift (g x y)) := fun F σ H Q I q => by
  refine (pe_op (pos := pos) (op_wp (X := X) (f := binaryOp op)) pe_wp pe_wp).wp ?_
  refine runEE ha I q fun x F1 vx H1 s1 rx q1 => ?_
  refine runEE hb (I.stp s1) q1 fun y F2 vy H2 s2 ry q2 => ?_
  exact ho.run F2 H2 vx vy x y Q (s2.top rx) ry q2.lift
theorem de_cmp {op : CmpOp} {g : D → D → Option Bool} (ho : OpD .S X T (compareOp op) fun x y => (g x y).map D.bl) (ha : DE .B X T W env a ma) (hb : DE .B X T W env b mb) (hm : behindInMarks op b = false := by first | exact nomark _ | rfl) :
    DE .S X T W env (.Compare a [op] [b] pos) (ma.bind fun x => mb.bind fun y => R.lift ((g x y).map D.bl)) := fun F σ H Q I q => by
  refine (pe_cmpR (pos := pos) (op_wp (X := X) (f := compareOp op)) pe_wp pe_wp hm).wp ?_
  refine runEE ha I q fun x F1 vx H1 s1 rx q1 => ?_
  refine runEE hb (I.stp s1) q1 fun y F2 vy H2 s2 ry q2 => ?_
  exact ho.run F2 H2 vx vy x y Q (s2.top rx) ry q2.lift
theorem dt_cmp {op : CmpOp} {g : D → D → Option Bool} (ho : OpD .S X T (compareOp op) fun x y => (g x y).map D.bl) (ha : DE .B X T W env a ma) (hb : DE .B X T W env b mb) (hm : behindInMarks op b = false := by first | exact nomark _ | rfl) :
    DT X T W env (.Compare a [op] [b] pos) (ma.bind fun x => mb.bind fun y => R.lift (g x y)) := fun F σ H Q I q => by
  refine (pt_cmpR (pos := pos) (op_wp (X := X) (f := compareOp op)) pe_wp pe_wp hm).wp ?_
  refine runET ha I q fun x F1 vx H1 s1 rx q1 => ?_
  refine runET hb (I.stp s1) q1 fun y F2 vy H2 s2 ry q2 => ?_
  refine ho.run F2 H2 vx vy x y _ (s2.top rx) ry ?_
  revert q2
  cases g x y with
  | none => exact fun q2 => q2
  | some k =>
    intro q2 F3 v H3 s3 r
    cases r
    exact ⟨k, rfl, q2 F3 H3 s3⟩
/-- a < b < c -/
theorem dt_chain {op op' : CmpOp} {g g' : D → D → Option Bool} {c : Expr} (ho : OpD .S X T (compareOp op) fun x y => (g x y).map D.bl) (ho' : OpD .S X T (compareOp op') fun x y => (g' x y).map D.bl) (ha : DE .B X T W env a ma) (hb : DE .B X T W env b mb) (hc : DE .B X T W env c mc)
    (hp : PT X (.Compare a [op, op'] [b, c] pos) (tTest (tChain (wpF X (compareOp op)) (wpF X (compareOp op')) (wpE X a) (wpE X b) (wpE X c))) := by exact pt_chain op_wp op_wp pe_wp pe_wp pe_wp) :
    DT X T W env (.Compare a [op, op'] [b, c] pos) (ma.bind fun x => mb.bind fun y => (R.lift (g x y)).bind fun k => if k = true then mc.bind fun z => R.lift (g' y z) else .ok false) := fun F σ H Q I q => by
  refine hp.wp ?_
  refine runET ha I q fun x F1 vx H1 s1 rx q1 => ?_
  refine runET hb (I.stp s1) q1 fun y F2 vy H2 s2 ry q2 => ?_
  refine ho.run F2 H2 vx vy x y _ (s2.top rx) ry ?_
  revert q2
  cases g x y with
  | none => exact fun q2 => q2
  | some k =>
    intro q2 F3 v H3 s3 r
    cases r
    have q3 := PostT.stp s3 q2
    refine ⟨k, rfl, ?_⟩
    cases k with
    | false => exact ⟨false, rfl, q3 F3 H3 .refl⟩
    | true =>
      refine runET hc (((I.stp s1).stp s2).stp s3) q3 fun z F4 vz H4 s4 rz q4 => ?_
      refine ho'.run F4 H4 vy vz y z _ (s4.top (s3.top ry)) rz ?_
      revert q4
      cases g' y z with
      | none => exact fun q4 => q4
      | some k2 =>
        intro q4 F5 v H5 s5 r
        cases r
        exact ⟨k2, rfl, q4 F5 H5 s5⟩

/-! ### tests -/
/-- a value's truth -/
def truD : D → Option Bool
  | .non => some false
  | .bl b => some b
  | .int i => some (i != 0)
  | .str s => if s.length ≤ sizeLine then some (!s.isEmpty) else none
  | .tup xs => some (!xs.isEmpty)
  | .lst xs => some (!xs.isEmpty)
  | .dic _ => none
  | .ins _ _ => none
  | .tape => none
theorem isEmpty_reps {K : PySem.W.Frag} {vs : List V} {ds : List D} (r : Reps K F H vs ds) : (!vs.isEmpty) = !ds.isEmpty := by cases r <;> rfl
theorem tru_rep {K : PySem.W.Frag} {v : V} {d : D} {k : Bool} (r : Top K F H v d) (e : truD d = some k) : TruV K v H k := by
  rcases r with r | ⟨p, rfl, r⟩
  · cases r with
    | non => cases e; rfl
    | bl b => cases e; rfl
    | int i => cases e; rfl
    | str s hs =>
      have e' : (if s.length ≤ sizeLine then some (!s.isEmpty) else none) = some k := e
      by_cases hl : s.length ≤ sizeLine
      · rw [if_pos hl] at e'
        cases e'
        refine ⟨by simpa [SS, Str.length] using hl, ?_⟩
        cases s with
        | nil => rfl
        | cons a s =>
          have : (SS (a :: s)).length = s.length + 1 := by simp [SS, Str.length]
          rw [this]
          exact (bne_iff_ne.mpr (by omega)).symm
      · rw [if_neg hl] at e'
        cases e'
    | tup h hs => cases e; exact .inr (.inl ⟨_, h, (isEmpty_reps hs).symm⟩)
    | lst hF h hs => cases e; exact .inl ⟨_, .inl h, (isEmpty_reps hs).symm⟩
    | dic hF h n hs => cases e
    | tape h => cases e
  · cases d with
    | lst xs =>
      obtain ⟨vs, h, hs⟩ := r
      cases e
      exact .inl ⟨_, .inl h, (isEmpty_reps hs).symm⟩
    | dic xs => cases e
    | _ => exact r.elim
theorem dt_tru (ha : DE .B X T W env a ma) (he : ∀ whole, isTrue a X.env whole = (do let v ← whole; standAt a.pos; holding [v] (truthy v)) := by intro _; kernel_rfl) :
    DT X T W env a (ma.bind fun x => R.lift (truD x)) := fun F σ H Q I q => by
  refine (pt_truth pe_wp he).wp ?_
  refine runET ha I q fun x F1 vx H1 s1 rx q1 => ?_
  revert q1
  cases e : truD x with
  | none => exact fun q1 => q1.elim
  | some k => exact fun q1 => ⟨k, tru_rep rx e, q1 F1 H1 .refl⟩
theorem dt_not (ha : DT X T W env a mt) : DT X T W env (.UnaryOp .Not a pos) (mt.bind fun k => .ok (!k)) := fun F σ H Q I q => by
  refine (pt_not (pos := pos) pt_wp).wp ?_
  exact runTT ha I q fun k F1 H1 s1 q1 => q1 F1 H1 .refl
theorem dw_and1 (ha : DT X T W env a mt) : DW X T W env (.BoolOp .And [a] pos) mt := fun F σ H Q I q => (pw_and1 (pos := pos) pt_wp).wp (ha F σ H Q I q)
theorem dw_or1 (ha : DT X T W env a mt) : DW X T W env (.BoolOp .Or [a] pos) mt := fun F σ H Q I q => (pw_or1 (pos := pos) pt_wp).wp (ha F σ H Q I q)
theorem dw_and {es : List Expr} (ha : DT X T W env a mt1) (hb : DW X T W env (.BoolOp .And (b :: es) pos) mt2) : DW X T W env (.BoolOp .And (a :: b :: es) pos) (mt1.bind fun k => if k = true then mt2 else .ok false) := fun F σ H Q I q => by
  refine (pw_and (pos := pos) pt_wp pw_wp).wp ?_
  refine runTT ha I q fun k F1 H1 s1 q1 => ?_
  cases k with
  | true => exact hb F1 σ H1 Q (I.stp s1) q1
  | false => exact q1 F1 H1 .refl
theorem dw_or {es : List Expr} (ha : DT X T W env a mt1) (hb : DW X T W env (.BoolOp .Or (b :: es) pos) mt2) : DW X T W env (.BoolOp .Or (a :: b :: es) pos) (mt1.bind fun k => if k = true then .ok true else mt2) := fun F σ H Q I q => by
  refine (pw_or (pos := pos) pt_wp pw_wp).wp ?_
  refine runTT ha I q fun k F1 H1 s1 q1 => ?_
  cases k with
  | false => exact hb F1 σ H1 Q (I.stp s1) q1
  | true => exact q1 F1 H1 .refl
theorem dt_w (h : DW X T W env e mt) : DT X T W env e mt := fun F σ H Q I q => by
  unfold wpT
  intro pins s Iv
  have z := h F σ H Q I q
  unfold wpW at z
  exact z _ pins s Iv
/-- a value that is told to be a bool -/
def blD : D → Option Bool
  | .bl b => some b
  | _ => none
theorem de_not (ha : DT X T W env a mt) (hn : isTrue a X.env (eval a X.env) = isTrue a X.env (eval a X.env) := by kernel_rfl) (hp : PE X (.UnaryOp .Not a pos) (fun σ H Q => wpT X a σ H fun k H1 => Q (.bl (!k)) H1)) : DE .S X T W env (.UnaryOp .Not a pos) (mt.bind fun k => .ok (.bl (!k))) := fun F σ H Q I q => by
  refine hp.wp ?_
  exact runTE ha I q fun k F1 H1 s1 q1 => q1 F1 _ H1 .refl (.bl _)
theorem de_if (hc : DT X T W env c mt) (ha : DE md X T W env a ma) (hb : DE md X T W env b mb) : DE md X T W env (.IfExp c a b pos) (mt.bind fun k => if k = true then ma else mb) := fun F σ H Q I q => by
  refine (pe_ifExp (pos := pos) pt_wp pe_wp pe_wp).wp ?_
  refine runTE hc I q fun k F1 H1 s1 q1 => ?_
  cases k with
  | true => exact ha F1 σ H1 Q (I.stp s1) q1
  | false => exact hb F1 σ H1 Q (I.stp s1) q1
/-! ### lists of expressions, displays -/
theorem da_nil : DA X T W env [] (.ok []) := ⟨fun xs e => by cases e; rfl, fun F σ H Q I q => pa_nil.wp (q F [] H .refl .nil)⟩
theorem da_cons {es : List Expr} (ha : DE .S X T W env a ma) (hr : DA X T W env es mas) (hs : starEach (a :: es) X.env = (false, eval a X.env) :: starEach es X.env := by kernel_rfl) :
    DA X T W env (a :: es) (ma.bind fun x => mas.bind fun xs => .ok (x :: xs)) := by
  refine ⟨fun zs e => ?_, fun F σ H Q I q => ?_⟩
  · cases ma with
    | ok x =>
      cases mas with
      | ok xs => cases e; rw [List.length_cons, List.length_cons, hr.len xs rfl]
      | ex c => cases e
      | st => cases e
    | ex c => cases e
    | st => cases e
  refine (pa_cons pe_wp pa_wp hs).wp ?_
  refine runEA ha I q fun x F1 vx H1 s1 rx q1 => ?_
  refine hr.run F1 σ H1 _ (I.stp s1) ?_
  revert q1
  cases mas with
  | ok xs => exact fun q1 F2 vs H2 s2 r => q1 F2 (vx :: vs) H2 s2 (.cons (Rep.mono s2.grow rx) r)
  | ex c => exact fun q1 => q1
  | st => exact fun q1 => q1
theorem small_line {n : Nat} (h : n ≤ 100000) : n ≤ sizeLine := Nat.le_trans h (by decide)
theorem de_tup {k : Nat} (h : DA X T W env es mas) (hl : es.length ≤ 100000 := by decide) : DE .S X T W env (.Tuple es k pos) (mas.bind fun xs => .ok (.tup xs)) := fun F σ H Q I q => by
  refine (pe_tup (pos := pos) (x1 := k) pa_wp).wp ?_
  have hk := h.len
  cases mas with
  | ok ds =>
    refine h.run F σ H _ I fun F1 vs H1 s1 r => ⟨by rw [r.length, hk ds rfl]; exact small_line hl, fun p hp => ?_⟩
    exact q F1 (.ref p) _ (s1.trans (.new1 hp)) (.tup (.inl (.inl upd_same)) (r.mono (Stp.new1 (T := T) hp).grow))
  | ex c => exact h.run F σ H _ I q
  | st => exact q.elim
theorem de_lst (h : DA X T W env es mas) (hl : es.length ≤ 100000 := by decide) : DE .O X T W env (.List es pos) (mas.bind fun xs => .ok (.lst xs)) := fun F σ H Q I q => by
  refine (pe_lst (pos := pos) pa_wp).wp ?_
  have hk := h.len
  cases mas with
  | ok ds =>
    refine h.run F σ H _ I fun F1 vs H1 s1 r => ⟨by rw [r.length, hk ds rfl]; exact small_line hl, fun p hp => ?_⟩
    refine q F1 (.ref p) _ (s1.trans (.new1 hp)) ⟨p, rfl, s1.back (nd_none hp), fun hF => ?_, ⟨vs, upd_same, r.mono (Stp.new1 (T := T) hp).grow⟩⟩
    exact (s1.ftr I.ftr p hF).ne hp
  | ex c => exact h.run F σ H _ I q
  | st => exact q.elim
end
end DL

-- DL2
set_option Elab.async false
set_option linter.all false
set_option maxRecDepth 100000
set_option maxHeartbeats 4000000
/-! The data layer: operators, subscripts, slices, built-in functions. -/
namespace DL
open PySem PySem.Spec PyProof.Rows L2

section
variable {K : PySem.W.Frag} {T : Tb} {F F' : Addr → Prop} {H H' : Hp} {v : V} {p : Addr}
theorem top_int {i : Int} (h : Top K F H v (.int i)) : v = .int i := by
  rcases h with h | ⟨a, _, h⟩
  · cases h; rfl
  · exact h.elim
theorem top_bl {i : Bool} (h : Top K F H v (.bl i)) : v = .bl i := by
  rcases h with h | ⟨a, _, h⟩
  · cases h; rfl
  · exact h.elim
theorem top_non (h : Top K F H v .non) : v = .non := by
  rcases h with h | ⟨a, _, h⟩
  · cases h; rfl
  · exact h.elim
theorem top_str {s : List Nat} (h : Top K F H v (.str s)) : v = .str (SS s) ∧ Okc s := by
  rcases h with h | ⟨a, _, h⟩
  · cases h; exact ⟨rfl, by assumption⟩
  · exact h.elim
theorem top_tup {xs : List D} (h : Top K F H v (.tup xs)) : ∃ a vs, v = .ref a ∧ SqT K H a vs ∧ Reps K F H vs xs := by
  rcases h with h | ⟨a, _, h⟩
  · cases h; exact ⟨_, _, rfl, by assumption, by assumption⟩
  · exact h.elim
theorem top_lst {xs : List D} (h : Top K F H v (.lst xs)) : ∃ a vs, v = .ref a ∧ Rd H a (.lst vs) ∧ Reps K F H vs xs := by
  rcases h with h | ⟨a, e, h⟩
  · cases h; exact ⟨_, _, rfl, by assumption, by assumption⟩
  · obtain ⟨vs, h1, h2⟩ := h; exact ⟨a, vs, e, h1, h2⟩
theorem top_dic {xs : List (Sum Int (List Nat) × D)} (h : Top K F H v (.dic xs)) : ∃ a vs, v = .ref a ∧ Rd H a (.dK vs) ∧ RepKs K F H vs xs := by
  rcases h with h | ⟨a, e, h⟩
  · cases h; exact ⟨_, _, rfl, by assumption, by assumption⟩
  · obtain ⟨vs, h1, _, h2⟩ := h; exact ⟨a, vs, e, h1, h2⟩
/-- a new list, tuple as data -/
theorem newL {vs : List V} {xs : List D} (hp : H p = none) (r : Reps K F H vs xs) : Stp T F H (Fa F p) (upd H p (.lst vs)) ∧ Rep K (Fa F p) (upd H p (.lst vs)) (.ref p) (.lst xs) := by
  have s := Stp.addF (nd_none hp) (Stp.new1 (T := T) (F := F) (o := .lst vs) hp) ⟨_, upd_same, fun _ z => by cases z⟩
  exact ⟨s, .lst (.inr rfl) (.inl upd_same) (r.mono s.grow)⟩
theorem newT {vs : List V} {xs : List D} (hp : H p = none) (r : Reps K F H vs xs) : Stp T F H F (upd H p (.tup vs)) ∧ Rep K F (upd H p (.tup vs)) (.ref p) (.tup xs) := by
  have s := Stp.new1 (T := T) (F := F) (o := .tup vs) hp
  exact ⟨s, .tup (.inl (.inl upd_same)) (r.mono s.grow)⟩
/-- .. a list of one's own -/
theorem newO {vs : List V} {xs : List D} (hp : H p = none) (hf : ∀ a, F a → Dat H a) (r : Reps K F H vs xs) : Stp T F H F (upd H p (.lst vs)) ∧ RepM K F (upd H p (.lst vs)) .O H (.ref p) (.lst xs) := by
  have s := Stp.new1 (T := T) (F := F) (o := .lst vs) hp
  exact ⟨s, p, rfl, nd_none hp, fun h => (hf p h).ne hp, vs, upd_same, r.mono s.grow⟩
end

/-! ### sizes of numbers -/
def lim : Nat := 60000000
@[irreducible] def Small (i : Int) : Prop := i.natAbs < 2 ^ lim
theorem Small.lt {i : Int} (h : Small i) : i.natAbs < 2 ^ lim := by unfold Small at h; exact h
theorem small_of {i : Int} (k : Nat) (h : i.natAbs < 2 ^ k) (hk : k ≤ 60000000) : Small i := by
  unfold Small
  exact Nat.lt_of_lt_of_le h (Nat.pow_le_pow_right (by decide) hk)
open Classical in
noncomputable instance (p : Prop) : Decidable (PLift.{0} p → False) := propDecidable _
/-- a test that is never computed -/
noncomputable def chk (p : Prop) : Bool := @decide p (Classical.propDecidable p)
@[simp] theorem chk_true {p : Prop} : chk p = true ↔ p := by unfold chk; exact @decide_eq_true_iff p (Classical.propDecidable p)
theorem chk_of {p : Prop} (h : p) : chk p = true := chk_true.mpr h

/-! ### operators on data -/
noncomputable def addD : D → D → Option D
  | .int i, .int j => some (.int (i + j))
  | .str a, .str b => if a.length + b.length ≤ sizeLine then some (.str (a ++ b)) else none
  | .lst a, .lst b => if a.length + b.length ≤ sizeLine then some (.lst (a ++ b)) else none
  | .tup a, .tup b => if a.length + b.length ≤ sizeLine then some (.tup (a ++ b)) else none
  | _, _ => none
def subD : D → D → Option D
  | .int i, .int j => some (.int (i - j))
  | _, _ => none
noncomputable def mulD : D → D → Option D
  | .int i, .int j => if chk (Small i ∧ Small j) then some (.int (i * j)) else none
  | .str a, .int k => if 0 ≤ k ∧ a.length * k.toNat ≤ sizeLine ∧ k < 2 ^ 63 then some (.str (List.replicate k.toNat a).flatten) else none
  | .lst a, .int k => if -(2 ^ 63) ≤ k ∧ k < 2 ^ 63 ∧ a.length * k.toNat ≤ sizeLine then some (.lst (List.replicate k.toNat a).flatten) else none
  | _, _ => none
noncomputable def fdivD : D → D → Option D
  | .int i, .int j => if chk (0 < j ∧ j.natAbs < 2 ^ 9000) then some (.int (i / j)) else none
  | _, _ => none
def modD : D → D → Option D
  | .int i, .int j => if 0 < j then some (.int (i % j)) else none
  | _, _ => none
noncomputable def powD : D → D → Option D
  | .int i, .int j => if chk (0 ≤ j ∧ j ≤ 1000000 ∧ i.natAbs < 2 ^ 64) then some (.int (i ^ j.toNat)) else none
  | _, _ => none
noncomputable def shlD : D → D → Option D
  | .int i, .int j => if chk (0 ≤ j ∧ j ≤ 1000000 ∧ Small i) then some (.int (i * 2 ^ j.toNat)) else none
  | _, _ => none
def shrD : D → D → Option D
  | .int i, .int j => if 0 ≤ j then some (.int (i / 2 ^ j.toNat)) else none
  | _, _ => none
def andD : D → D → Option D
  | .int i, .int j => some (.int (Builtin.bitAnd i j))
  | _, _ => none
def orD : D → D → Option D
  | .int i, .int j => some (.int (Builtin.bitOr i j))
  | _, _ => none
def xorD : D → D → Option D
  | .int i, .int j => some (.int (Builtin.bitXor i j))
  | _, _ => none
/-- order -/
def cmpI (f : Int → Int → Bool) : D → D → Option Bool
  | .int i, .int j => some (f i j)
  | _, _ => none
def ltD : D → D → Option Bool
  | .int i, .int j => some (decide (i < j))
  | .str a, .str b => some (decide (a < b))
  | _, _ => none
def leD : D → D → Option Bool
  | .int i, .int j => some (decide (i ≤ j))
  | .str a, .str b => some (!decide (b < a))
  | _, _ => none
def gtD (x y : D) : Option Bool := ltD y x
def geD (x y : D) : Option Bool := leD y x

mutual
def eqv : D → D → Bool
  | .non, .non => true
  | .bl a, .bl b => a == b
  | .bl a, .int j => (if a then 1 else 0) == j
  | .int i, .bl b => i == (if b then 1 else 0)
  | .int i, .int j => i == j
  | .str x, .str y => x == y
  | .lst xs, .lst ys => eqvs xs ys
  | .tup xs, .tup ys => eqvs xs ys
  | _, _ => false
def eqvs : List D → List D → Bool
  | [], [] => true
  | x :: xs, y :: ys => eqv x y && eqvs xs ys
  | _, _ => false
end
mutual
/-- no dicts, nested to a depth of at most n -/
def shal : Nat → D → Bool
  | _, .non => true
  | _, .bl _ => true
  | _, .int _ => true
  | _, .str _ => true
  | n + 1, .tup xs => shals n xs
  | n + 1, .lst xs => shals n xs
  | _, _ => false
def shals : Nat → List D → Bool
  | _, [] => true
  | n, x :: xs => shal n x && shals n xs
end
/-- scalars -/
def scalD : D → Bool
  | .non => true
  | .bl _ => true
  | .int _ => true
  | .str _ => true
  | _ => false
def eqD (x y : D) : Option Bool := if shal 60 x && shal 60 y then some (eqv x y) else none
def neD (x y : D) : Option Bool := (eqD x y).map (!·)
def isD : D → D → Option Bool
  | .non, .non => some true
  | .bl a, .bl b => some (a == b)
  | _, .non => some false
  | _, _ => none
def isNotD (x y : D) : Option Bool := (isD x y).map (!·)

/-! .. stand for the library's -/
mutual
def toPy : D → PyData
  | .non => .none
  | .bl b => .bool b
  | .int i => .int i
  | .str s => .str (SS s)
  | .tup xs => .tuple (toPys xs)
  | .lst xs => .list (toPys xs)
  | .dic _ => .dict []
  | .ins _ _ => .dict []
  | .tape => .dict []
def toPys : List D → List PyData
  | [] => []
  | x :: xs => toPy x :: toPys xs
end
theorem SS_inj {a b : List Nat} (h : SS a = SS b) : a = b := by
  have := congrArg (fun s : Str => s.cps.toList) h
  simpa [SS] using this
theorem SS_beq (a b : List Nat) : (SS a == SS b) = (a == b) := by
  by_cases e : a = b
  · subst e; simp
  · rw [beq_eq_false_iff_ne.mpr e]; exact beq_eq_false_iff_ne.mpr fun h => e (SS_inj h)
mutual
theorem eqv_py : ∀ (n : Nat) (d e : D), shal n d = true → PyData.eqv (toPy d) (toPy e) = eqv d e
  | n, .non, e, h => by cases e <;> rfl
  | n, .bl b, e, h => by cases e <;> rfl
  | n, .int i, e, h => by cases e <;> rfl
  | n, .str s, e, h => by cases e <;> first | rfl | exact SS_beq _ _
  | n + 1, .tup xs, e, h => by cases e <;> first | rfl | exact eqvs_py n xs _ h
  | n + 1, .lst xs, e, h => by cases e <;> first | rfl | exact eqvs_py n xs _ h
  | 0, .tup xs, e, h => by simp [shal] at h
  | 0, .lst xs, e, h => by simp [shal] at h
  | n, .dic xs, e, h => by cases n <;> simp [shal] at h
  | n, .ins _ _, e, h => by cases n <;> simp [shal] at h
  | n, .tape, e, h => by cases n <;> simp [shal] at h
theorem eqvs_py : ∀ (n : Nat) (xs ys : List D), shals n xs = true → PyData.eqvAll (toPys xs) (toPys ys) = eqvs xs ys
  | n, [], ys, h => by cases ys <;> rfl
  | n, x :: xs, [], h => rfl
  | n, x :: xs, y :: ys, h => by
    have h' : shal n x = true ∧ shals n xs = true := by simpa [shals] using h
    show (PyData.eqv (toPy x) (toPy y) && PyData.eqvAll (toPys xs) (toPys ys)) = _
    rw [eqv_py n x y h'.1, eqvs_py n xs ys h'.2]
    rfl
end
mutual
theorem shal_depth : ∀ (n : Nat) (d : D), shal n d = true → (toPy d).depth ≤ n
  | n, .non, h => Nat.zero_le _
  | n, .bl b, h => Nat.zero_le _
  | n, .int i, h => Nat.zero_le _
  | n, .str s, h => Nat.zero_le _
  | n + 1, .tup xs, h => Nat.succ_le_succ (shals_depth n xs h)
  | n + 1, .lst xs, h => Nat.succ_le_succ (shals_depth n xs h)
  | 0, .tup xs, h => by simp [shal] at h
  | 0, .lst xs, h => by simp [shal] at h
  | n, .dic xs, h => by cases n <;> simp [shal] at h
  | n, .ins _ _, h => by cases n <;> simp [shal] at h
  | n, .tape, h => by cases n <;> simp [shal] at h
theorem shals_depth : ∀ (n : Nat) (xs : List D), shals n xs = true → PyData.depthAll (toPys xs) ≤ n
  | n, [], h => Nat.zero_le _
  | n, x :: xs, h => by
    have h' : shal n x = true ∧ shals n xs = true := by simpa [shals] using h
    exact Nat.max_le.mpr ⟨shal_depth n x h'.1, shals_depth n xs h'.2⟩
end
section
variable {K : PySem.W.Frag} {F : Addr → Prop} {H : Hp}
mutual
theorem rep_dp : ∀ (n : Nat) {v : V} {d : D}, Rep K F H v d → shal n d = true → Dp K H v (toPy d) ∧ (toPy d).canLay0 = true
  | n, _, _, .non, h => ⟨.non, rfl⟩
  | n, _, _, .bl b, h => ⟨.bl b, rfl⟩
  | n, _, _, .int i, h => ⟨.int i, rfl⟩
  | n, _, _, .str s ho, h => by
    refine ⟨.str _, ?_⟩
    show PyData.strOk (SS s) = true
    unfold PyData.strOk
    simp only [SS]
    rw [List.all_toArray, List.all_eq_true]
    exact fun c hc => decide_eq_true (ho c hc)
  | 0, _, .tup xs, .tup a b, h => by simp [shal] at h
  | 0, _, .lst xs, .lst a b c, h => by simp [shal] at h
  | n + 1, _, .tup xs, .tup a b, h => by
    obtain ⟨h1, h2⟩ := reps_dp n b h
    exact ⟨.tup a h1, h2⟩
  | n + 1, _, .lst xs, .lst a b c, h => by
    obtain ⟨h1, h2⟩ := reps_dp n c h
    exact ⟨.lst (.inl b) h1, h2⟩
  | n, _, .dic xs, .dic a b z c, h => by cases n <;> simp [shal] at h
  | n, _, .tape, .tape a, h => by cases n <;> simp [shal] at h
theorem reps_dp : ∀ (n : Nat) {vs : List V} {ds : List D}, Reps K F H vs ds → shals n ds = true → DpAll K H vs (toPys ds) ∧ PyData.canLayAll0 (toPys ds) = true
  | n, _, _, .nil, h => ⟨.nil, rfl⟩
  | n, _, x :: xs, .cons a b, h => by
    have h' : shal n x = true ∧ shals n xs = true := by simpa [shals] using h
    obtain ⟨h1, h2⟩ := rep_dp n a h'.1
    obtain ⟨h3, h4⟩ := reps_dp n b h'.2
    refine ⟨.cons h1 h3, ?_⟩
    show ((toPy x).canLay0 && PyData.canLayAll0 (toPys xs)) = true
    rw [h2, h4]
    rfl
end
theorem top_dp {n : Nat} {v : V} {d : D} (h : Top K F H v d) (hs : shal n d = true) : Dp K H v (toPy d) ∧ (toPy d).canLay0 = true := by
  rcases h with h | ⟨a, rfl, h⟩
  · exact rep_dp n h hs
  · cases d with
    | lst xs =>
      obtain ⟨vs, h1, h2⟩ := h
      cases n with
      | zero => simp [shal] at hs
      | succ n =>
        obtain ⟨h3, h4⟩ := reps_dp n h2 hs
        exact ⟨.lst (.inl h1) h3, h4⟩
    | dic xs => cases n <;> simp [shal] at hs
    | _ => exact h.elim
theorem top_shaped {v : V} {d : D} (h : Top K F H v d) (hs : shal 60 d = true) : Dp K H v (toPy d) ∧ SeqAt.shaped (toPy d) = true := by
  obtain ⟨h1, h2⟩ := top_dp h hs
  refine ⟨h1, ?_⟩
  unfold SeqAt.shaped
  rw [h2, decide_eq_true (Nat.le_trans (shal_depth 60 d hs) (by decide))]
  rfl
end

section
variable {X : Cx} {T : Tb} {W : WX} {F F' : Addr → Prop} {σ : Sg} {H H' : Hp} {env : List Sl} {md : Md}
/-- an operator by its library rule -/
theorem opd_of {f : Value → Value → Sem Value} {r : R2} {g : D → D → Option D} (ho : OpR X f r)
    (h : ∀ F H vx vy x y Q, Top X.K F H vx x → Top X.K F H vy y → PostV X T F H md (g x y) Q → r vx vy H Q) : OpD md X T f g :=
  ⟨fun F H vx vy x y Q rx ry q => ho.wp (h F H vx vy x y Q rx ry q)⟩
theorem PostV.imm {d : D} {v : V} {Q : VK} (h : PostV X T F H .S (some d) Q) (r : Rep X.K F H v d) : Q v H := h F v H .refl r
theorem okc_app {a b : List Nat} (h : Okc a) (h' : Okc b) : Okc (a ++ b) := fun c hc => (List.mem_append.mp hc).elim (h c) (h' c)
theorem SS_app (a b : List Nat) : SS a ++ SS b = SS (a ++ b) := by
  show (⟨a.toArray ++ b.toArray⟩ : Str) = ⟨(a ++ b).toArray⟩
  simp
theorem SS_len (a : List Nat) : (SS a).length = a.length := by simp [SS, Str.length]
/-- lists laid together, whoever holds them -/
theorem op_catR : OpR X (binaryOp .Add) (fun x y H Q => ∃ l b xs zs, x = .ref l ∧ y = .ref b ∧ Rd H l (.lst xs) ∧ Rd H b (.lst zs) ∧ xs.length + zs.length ≤ sizeLine ∧ ∀ p, H p = none → Q (.ref p) (upd H p (.lst (xs ++ zs)))) := by
  intro pins s σ H x y v u Q I rx ry h
  obtain ⟨l, b, xs, zs, rfl, rfl, hH, hB, hz, q⟩ := h
  cases rx
  cases ry
  obtain ⟨z, its, n, r, e⟩ := hH.ok I.hok
  obtain ⟨z2, its2, n2, r2, e2⟩ := hB.ok I.hok
  have hl := r.length
  have hl2 := r2.length
  refine PySem.P.add_list e e2 ?_ (by rw [List.size_toArray, List.size_toArray]; omega)
  have ea : its.toArray ++ its2.toArray = (its ++ its2).toArray := by simp
  rw [ea]
  exact ⟨.ref _, _, I.lnew (t' := s.toks) (r.append r2) (by rw [List.length_append]; omega), rfl, q _ I.fresh⟩
theorem o_add : OpD .S X T (binaryOp .Add) addD := by
  refine opd_of (((op_add (X := X)).or op_add_str).or (op_catR.or op_catA)) fun F H vx vy x y Q rx ry q => ?_
  cases x <;> cases y <;> try exact q.elim
  · rw [top_int rx, top_int ry]
    exact .inl (.inl ⟨_, _, rfl, rfl, q.imm (.int _)⟩)
  · rename_i a b
    obtain ⟨e1, o1⟩ := top_str rx
    obtain ⟨e2, o2⟩ := top_str ry
    rw [e1, e2]
    by_cases hl : a.length + b.length ≤ sizeLine
    · rw [show addD (.str a) (.str b) = some (.str (a ++ b)) from if_pos hl] at q
      refine .inl (.inr ⟨_, _, rfl, rfl, by rw [SS_len, SS_len]; exact hl, ?_⟩)
      rw [SS_app]
      exact q.imm (.str _ (okc_app o1 o2))
    · rw [show addD (.str a) (.str b) = none from if_neg hl] at q
      exact q.elim
  · rename_i xs ys
    obtain ⟨a, vs, e1, h1, r1⟩ := top_tup rx
    obtain ⟨b, ws, e2, h2, r2⟩ := top_tup ry
    rw [e1, e2]
    by_cases hl : xs.length + ys.length ≤ sizeLine
    · rw [show addD (.tup xs) (.tup ys) = some (.tup (xs ++ ys)) from if_pos hl] at q
      refine .inr (.inr ⟨a, b, vs, ws, rfl, rfl, h1, h2, by rw [r1.length, r2.length]; exact hl, fun hx => ?_, fun hx hy => ?_, fun hx hy p hp => ?_⟩)
      · subst hx
        cases r1
        exact q.imm (.tup h2 r2)
      · subst hy
        cases r2
        rw [List.append_nil] at q
        exact q.imm (.tup h1 r1)
      · obtain ⟨s, r⟩ := newT (T := T) hp (r1.append r2)
        exact q F _ _ s r
    · rw [show addD (.tup xs) (.tup ys) = none from if_neg hl] at q
      exact q.elim
  · rename_i xs ys
    obtain ⟨a, vs, e1, h1, r1⟩ := top_lst rx
    obtain ⟨b, ws, e2, h2, r2⟩ := top_lst ry
    rw [e1, e2]
    by_cases hl : xs.length + ys.length ≤ sizeLine
    · rw [show addD (.lst xs) (.lst ys) = some (.lst (xs ++ ys)) from if_pos hl] at q
      refine .inr (.inl ⟨a, b, vs, ws, rfl, rfl, h1, h2, by rw [r1.length, r2.length]; exact hl, fun p hp => ?_⟩)
      obtain ⟨s, r⟩ := newL (T := T) hp (r1.append r2)
      exact q _ _ _ s r
    · rw [show addD (.lst xs) (.lst ys) = none from if_neg hl] at q
      exact q.elim
theorem o_sub : OpD .S X T (binaryOp .Sub) subD := by
  refine opd_of op_sub fun F H vx vy x y Q rx ry q => ?_
  cases x <;> cases y <;> try exact q.elim
  rw [top_int rx, top_int ry]
  exact ⟨_, _, rfl, rfl, q.imm (.int _)⟩
/-- ints under a condition -/
theorem opI_of {f : Value → Value → Sem Value} {C : Int → Int → Prop} {g : Int → Int → Int} {gd : D → D → Option D} {c : Int → Int → Prop} (ho : OpR X f (rI C fun i j => .int (g i j)))
    (hg : ∀ x y, gd x y ≠ none → ∃ i j, x = .int i ∧ y = .int j ∧ C i j ∧ gd x y = some (.int (g i j))) : OpD .S X T f gd := by
  refine opd_of ho fun F H vx vy x y Q rx ry q => ?_
  by_cases h : gd x y = none
  · rw [h] at q; exact q.elim
  · obtain ⟨i, j, rfl, rfl, hc, e⟩ := hg x y h
    rw [e] at q
    rw [top_int rx, top_int ry]
    exact ⟨_, _, rfl, rfl, hc, q.imm (.int _)⟩
theorem mulSmall {i j : Int} (h : Small i ∧ Small j) : CMulX i j := mulx_ok h.1.lt h.2.lt (by decide)
theorem op_repR : OpR X (binaryOp .Mult) (fun x y H Q => ∃ l k xs, x = .ref l ∧ y = .int k ∧ H l = some (.lst xs) ∧ -(2 ^ 63) ≤ k ∧ k < 2 ^ 63 ∧ xs.length * k.toNat ≤ sizeLine ∧ ∀ p, H p = none → Q (.ref p) (upd H p (.lst (List.replicate k.toNat xs).flatten))) := op_rep
theorem o_mulI : OpD .S X T (binaryOp .Mult) (fun x y => match x, y with | .int i, .int j => if chk (Small i ∧ Small j) then some (.int (i * j)) else none | _, _ => none) := by
  refine opI_of (C := CMulX) (c := fun _ _ => True) op_mulX fun x y h => ?_
  cases x <;> cases y <;> simp at h
  rename_i i j
  refine ⟨i, j, rfl, rfl, mulSmall h, ?_⟩
  simp [h]
theorem o_fdiv : OpD .S X T (binaryOp .FloorDiv) fdivD := by
  refine opI_of (C := CDivW) (c := fun _ _ => True) op_fdivW fun x y h => ?_
  cases x <;> cases y <;> simp [fdivD] at h
  rename_i i j
  refine ⟨i, j, rfl, rfl, wide_div h.1 h.2 (by decide) (by decide), ?_⟩
  simp [fdivD, h]
theorem o_mod : OpD .S X T (binaryOp .Mod) modD := by
  refine opI_of (C := fun _ j => 0 < j) (c := fun _ _ => True) op_mod fun x y h => ?_
  cases x <;> cases y <;> simp [modD] at h
  rename_i i j
  refine ⟨i, j, rfl, rfl, h, ?_⟩
  simp [modD, h]
theorem o_pow : OpD .S X T (binaryOp .Pow) powD := by
  refine opI_of (C := CPow) (c := fun _ _ => True) op_pow fun x y h => ?_
  cases x <;> cases y <;> simp [powD] at h
  rename_i i j
  refine ⟨i, j, rfl, rfl, ⟨h.1, h.2.1, h.2.2⟩, ?_⟩
  simp [powD, h]
theorem o_shl : OpD .S X T (binaryOp .LShift) shlD := by
  refine opI_of (C := CShl) (c := fun _ _ => True) op_shlW fun x y h => ?_
  cases x <;> cases y <;> simp [shlD] at h
  rename_i i j
  obtain ⟨n, rfl⟩ : ∃ n : Nat, j = n := ⟨j.toNat, by omega⟩
  refine ⟨i, _, rfl, rfl, shl_ok h.2.2.lt (by have : lim = 60000000 := rfl; omega), ?_⟩
  simp [shlD, h]
theorem o_shr : OpD .S X T (binaryOp .RShift) shrD := by
  refine opI_of (C := fun _ j => 0 ≤ j) (c := fun _ _ => True) op_shr fun x y h => ?_
  cases x <;> cases y <;> simp [shrD] at h
  rename_i i j
  refine ⟨i, j, rfl, rfl, h, ?_⟩
  simp [shrD, h]
theorem o_and : OpD .S X T (binaryOp .BitAnd) andD := by
  refine opd_of op_and fun F H vx vy x y Q rx ry q => ?_
  cases x <;> cases y <;> try exact q.elim
  rw [top_int rx, top_int ry]
  exact ⟨_, _, rfl, rfl, q.imm (.int _)⟩
theorem o_or : OpD .S X T (binaryOp .BitOr) orD := by
  refine opd_of op_or fun F H vx vy x y Q rx ry q => ?_
  cases x <;> cases y <;> try exact q.elim
  rw [top_int rx, top_int ry]
  exact ⟨_, _, rfl, rfl, q.imm (.int _)⟩
theorem o_xor : OpD .S X T (binaryOp .BitXor) xorD := by
  refine opd_of op_xor fun F H vx vy x y Q rx ry q => ?_
  cases x <;> cases y <;> try exact q.elim
  rw [top_int rx, top_int ry]
  exact ⟨_, _, rfl, rfl, q.imm (.int _)⟩
theorem dec_eq {p : Prop} {i j : Decidable p} : @decide p i = @decide p j := by
  cases i <;> cases j <;> first | rfl | contradiction
theorem o_lt : OpD .S X T (compareOp .Lt) (fun x y => (ltD x y).map D.bl) := by
  refine opd_of (op_lt.or op_lt_str) fun F H vx vy x y Q rx ry q => ?_
  cases x <;> cases y <;> try exact q.elim
  · rw [top_int rx, top_int ry]
    exact .inl ⟨_, _, rfl, rfl, q.imm (.bl _)⟩
  · rw [(top_str rx).1, (top_str ry).1]
    exact .inr ⟨_, _, rfl, rfl, q.imm (.bl _)⟩
theorem o_le : OpD .S X T (compareOp .LtE) (fun x y => (leD x y).map D.bl) := by
  refine opd_of (op_le.or op_le_str) fun F H vx vy x y Q rx ry q => ?_
  cases x <;> cases y <;> try exact q.elim
  · rw [top_int rx, top_int ry]
    exact .inl ⟨_, _, rfl, rfl, q.imm (.bl _)⟩
  · rw [(top_str rx).1, (top_str ry).1]
    exact .inr ⟨_, _, rfl, rfl, q.imm (.bl _)⟩
theorem o_gt : OpD .S X T (compareOp .Gt) (fun x y => (gtD x y).map D.bl) := by
  refine opd_of (op_gt.or op_gt_str) fun F H vx vy x y Q rx ry q => ?_
  cases x <;> cases y <;> try exact q.elim
  · rw [top_int rx, top_int ry]
    exact .inl ⟨_, _, rfl, rfl, q.imm (.bl _)⟩
  · rw [(top_str rx).1, (top_str ry).1]
    exact .inr ⟨_, _, rfl, rfl, q.imm (.bl _)⟩
theorem o_ge : OpD .S X T (compareOp .GtE) (fun x y => (geD x y).map D.bl) := by
  refine opd_of (op_ge.or op_ge_str) fun F H vx vy x y Q rx ry q => ?_
  cases x <;> cases y <;> try exact q.elim
  · rw [top_int rx, top_int ry]
    exact .inl ⟨_, _, rfl, rfl, q.imm (.bl _)⟩
  · rw [(top_str rx).1, (top_str ry).1]
    exact .inr ⟨_, _, rfl, rfl, q.imm (.bl _)⟩
theorem o_eq (hu : X.A.units + 64 < cLine) : OpD .S X T (compareOp .Eq) (fun x y => (eqD x y).map D.bl) := by
  refine opd_of (op_eqD hu) fun F H vx vy x y Q rx ry q => ?_
  unfold eqD at q
  by_cases h : (shal 60 x && shal 60 y) = true
  · rw [if_pos h] at q
    rw [Bool.and_eq_true] at h
    obtain ⟨a1, a2⟩ := top_shaped rx h.1
    obtain ⟨b1, b2⟩ := top_shaped ry h.2
    refine ⟨_, _, a1, b1, a2, b2, ?_⟩
    rw [eqv_py 60 x y h.1]
    exact q.imm (.bl _)
  · rw [if_neg h] at q
    exact q.elim
theorem o_ne (hu : X.A.units + 64 < cLine) : OpD .S X T (compareOp .NotEq) (fun x y => (neD x y).map D.bl) := by
  refine opd_of (op_neD hu) fun F H vx vy x y Q rx ry q => ?_
  unfold neD eqD at q
  by_cases h : (shal 60 x && shal 60 y) = true
  · rw [if_pos h] at q
    rw [Bool.and_eq_true] at h
    obtain ⟨a1, a2⟩ := top_shaped rx h.1
    obtain ⟨b1, b2⟩ := top_shaped ry h.2
    refine ⟨_, _, a1, b1, a2, b2, ?_⟩
    rw [eqv_py 60 x y h.1]
    exact q.imm (.bl _)
  · rw [if_neg h] at q
    exact q.elim
theorem top_isN {K : PySem.W.Frag} {v : V} {d : D} (h : Top K F H v d) : decide (v = .non) = (match d with | .non => true | _ => false) := by
  rcases h with h | ⟨a, rfl, h⟩
  · cases h <;> rfl
  · cases d <;> first | exact h.elim | rfl
theorem o_is : OpD .S X T (compareOp .Is) (fun x y => (isD x y).map D.bl) := by
  refine opd_of (op_isN.or op_is_bl) fun F H vx vy x y Q rx ry q => ?_
  cases y <;> try (cases x <;> exact q.elim)
  · rw [top_non ry]
    refine .inl ⟨rfl, ?_⟩
    rw [top_isN rx]
    cases x <;> exact q.imm (.bl _)
  · cases x <;> try exact q.elim
    rename_i b a
    rw [top_bl rx, top_bl ry]
    refine .inr ⟨a, b, rfl, rfl, ?_⟩
    have : decide (a = b) = (a == b) := by cases a <;> cases b <;> rfl
    rw [this]
    exact q.imm (.bl _)
theorem o_isnot : OpD .S X T (compareOp .IsNot) (fun x y => (isNotD x y).map D.bl) := by
  refine opd_of (op_notN.or op_isnot_bl) fun F H vx vy x y Q rx ry q => ?_
  cases y <;> try (cases x <;> exact q.elim)
  · rw [top_non ry]
    refine .inl ⟨rfl, ?_⟩
    rw [top_isN rx]
    cases x <;> exact q.imm (.bl _)
  · cases x <;> try exact q.elim
    rename_i b a
    rw [top_bl rx, top_bl ry]
    refine .inr ⟨a, b, rfl, rfl, ?_⟩
    have : decide (a = b) = (a == b) := by cases a <;> cases b <;> rfl
    rw [this]
    exact q.imm (.bl _)
end
end DL

-- DL3
set_option Elab.async false
set_option linter.all false
set_option maxRecDepth 100000
set_option maxHeartbeats 4000000
/-! The data layer: subscripts, slices, calls. -/
namespace DL
open PySem PySem.Spec PyProof.Rows L2

/-! ### subscripts, slices on data -/
def idxD : D → D → Option D
  | .lst xs, .int i => atI xs i
  | .tup xs, .int i => atI xs i
  | .str s, .int i => if s.length ≤ sizeLine then (atI s i).map fun c => .str [c] else none
  | _, _ => none
def cutL {α : Type} (xs : List α) (lo hi : Option Int) : List α := (xs.drop (HT.sIx xs.length 0 lo)).take (HT.sIx xs.length xs.length hi - HT.sIx xs.length 0 lo)
def slcD (x : D) (lo hi : Option Int) : Option D :=
  match x with
  | .lst xs => some (.lst (cutL xs lo hi))
  | .tup xs => some (.tup (cutL xs lo hi))
  | .str s => if s.length ≤ sizeLine then some (.str (cutL s lo hi)) else none
  | _ => none
section
variable {K : PySem.W.Frag} {F : Addr → Prop} {H : Hp}
theorem atI_mem {α : Type} {xs : List α} {i : Int} {x : α} (h : atI xs i = some x) : x ∈ xs := by
  unfold atI at h
  cases e : ixN xs.length i with
  | none => rw [e] at h; cases h
  | some j => rw [e] at h; exact List.mem_of_getElem? h
theorem reps_at {vs : List V} {xs : List D} {i : Int} {d : D} (r : Reps K F H vs xs) (h : atI xs i = some d) : ∃ v, atI vs i = some v ∧ Rep K F H v d := by
  unfold atI at h ⊢
  rw [r.length]
  cases e : ixN xs.length i with
  | none => rw [e] at h; cases h
  | some j => rw [e] at h; exact r.get h
theorem reps_cut {vs : List V} {xs : List D} (lo hi : Option Int) (r : Reps K F H vs xs) : Reps K F H (cutV vs lo hi) (cutL xs lo hi) := by
  unfold cutV cutL
  rw [r.length]
  exact (r.drop _).take _
theorem okc_cut {s : List Nat} (lo hi : Option Int) (h : Okc s) : Okc (cutL s lo hi) := fun c hc => h c (List.mem_of_mem_drop (List.mem_of_mem_take hc))
end
section
variable {X : Cx} {T : Tb} {W : WX} {F F' : Addr → Prop} {σ : Sg} {H H' : Hp} {env : List Sl} {md : Md} {e a b c : Expr} {es : List Expr} {m ma mb mc : R D} {mas : R (List D)} {pos p2 : Pos}
theorem de_ix (ha : DE .B X T W env a ma) (hb : DE .B X T W env b mb) (hs : PlainIx b := by intro _ _; kernel_rfl) : DE .S X T W env (.Subscript a b pos) (ma.bind fun x => mb.bind fun y => R.lift (idxD x y)) := fun F σ H Q I q => by
  refine (pe_ix (pos := pos) ix_seq pe_wp pe_wp hs).wp ?_
  refine runEE ha I q fun x F1 vx H1 s1 rx q1 => ?_
  refine runEE hb (I.stp s1) q1 fun y F2 vy H2 s2 ry q2 => ?_
  replace rx : Top X.K F2 H2 vx x := s2.top rx
  cases x <;> cases y <;> try exact q2.elim
  · rename_i s i
    obtain ⟨e1, o1⟩ := top_str rx
    rw [e1, top_int ry]
    by_cases hl : s.length ≤ sizeLine
    · rw [show idxD (.str s) (.int i) = (atI s i).map fun c => D.str [c] from if_pos hl] at q2
      cases hc : atI s i with
      | none => rw [hc] at q2; exact q2.elim
      | some c =>
        rw [hc] at q2
        have := q2.lift.imm (.str [c] fun d hd => by rw [List.mem_singleton.mp hd]; exact o1 c (atI_mem hc))
        exact .inr (.inr ⟨SS s, i, c, rfl, rfl, by rw [SS_len]; exact hl, hc, this⟩)
    · rw [show idxD (.str s) (.int i) = none from if_neg hl] at q2
      exact q2.elim
  · rename_i xs i
    obtain ⟨p, vs, e1, h1, r1⟩ := top_tup rx
    rw [e1, top_int ry]
    rw [show idxD (.tup xs) (.int i) = atI xs i from rfl] at q2
    cases hc : atI xs i with
    | none => rw [hc] at q2; exact q2.elim
    | some d =>
      rw [hc] at q2
      obtain ⟨v, hv, rv⟩ := reps_at r1 hc
      exact .inr (.inl ⟨p, vs, i, v, rfl, rfl, h1, hv, q2.lift.imm rv⟩)
  · rename_i xs i
    obtain ⟨p, vs, e1, h1, r1⟩ := top_lst rx
    rw [e1, top_int ry]
    rw [show idxD (.lst xs) (.int i) = atI xs i from rfl] at q2
    cases hc : atI xs i with
    | none => rw [hc] at q2; exact q2.elim
    | some d =>
      rw [hc] at q2
      obtain ⟨v, hv, rv⟩ := reps_at r1 hc
      exact .inl ⟨p, vs, i, v, rfl, rfl, .inl h1, hv, q2.lift.imm rv⟩
/-- a part of a slice -/
def DP (X : Cx) (T : Tb) (W : WX) (env : List Sl) (o : Option Expr) (m : R (Option Int)) : Prop :=
  (o = none ∧ m = .ok none) ∨ ∃ e me, o = some e ∧ DE .S X T W env e me ∧ m = me.bind fun d => match d with | .int i => .ok (some i) | _ => .st
theorem dp_none : DP X T W env none (.ok none) := .inl ⟨rfl, rfl⟩
def intP (d : D) : R (Option Int) := match d with | .int i => .ok (some i) | _ => .st
@[simp] theorem intP_int (i : Int) : intP (.int i) = .ok (some i) := rfl
theorem dp_some (he : DE .S X T W env e m) : DP X T W env (some e) (m.bind intP) := .inr ⟨e, m, rfl, he, rfl⟩
theorem runP {Q : VK} {Q1 : Option Int → Hp → Prop} {o : Option Expr} {mo : R (Option Int)} {f : Option Int → R D} (h : DP X T W env o mo) (I : ER X.K T F σ H env) (q : PostE X T W F σ H md (mo.bind f) Q)
    (k : ∀ i F' H', Stp T F H F' H' → PostE X T W F' σ H' md (f i) Q → Q1 i H') : ∃ t, PO X o t ∧ t σ H Q1 := by
  rcases h with ⟨rfl, rfl⟩ | ⟨e, me, rfl, he, rfl⟩
  · exact ⟨_, po_none, k none F H .refl q⟩
  · refine ⟨_, po_some pe_wp, ?_⟩
    rw [R.bind_assoc] at q
    refine runEE he I q fun d F1 v H1 s1 r q1 => ?_
    cases d <;> try exact q1.elim
    cases r
    exact ⟨_, rfl, k _ F1 H1 s1 q1⟩
/-- the strongest reading of a part -/
@[irreducible] def wpO (X : Cx) (o : Option Expr) : TO := fun σ H Q => ∀ pins s, Inv X pins σ H s → wpAny (model X.prog X.w) X.A (evalPart o X.env) (fun u s' => ∃ o H', Inv X pins σ H' s' ∧ IsPart u o ∧ Q o H') X.xe s
theorem po_wp {o : Option Expr} : PO X o (wpO X o) := ⟨fun pins s _ _ _ I h => by unfold wpO at h; exact h pins s I⟩
theorem runO {Q : VK} {Q1 : Option Int → Hp → Prop} {o : Option Expr} {mo : R (Option Int)} {f : Option Int → R D} (h : DP X T W env o mo) (I : ER X.K T F σ H env) (q : PostE X T W F σ H md (mo.bind f) Q)
    (k : ∀ i F' H', Stp T F H F' H' → PostE X T W F' σ H' md (f i) Q → Q1 i H') : wpO X o σ H Q1 := by
  obtain ⟨t, h1, h2⟩ := runP h I q k
  unfold wpO
  exact fun pins s Iv => h1.run pins s σ H Q1 Iv h2
theorem de_slc {lo hi : Option Expr} {ml mh : R (Option Int)} (ha : DE .B X T W env a ma) (hl : DP X T W env lo ml) (hh : DP X T W env hi mh) :
    DE .S X T W env (.Subscript a (.Slice lo hi none p2) pos) (ma.bind fun x => ml.bind fun l => mh.bind fun h => R.lift (slcD x l h)) := fun F σ H Q I q => by
  refine (pe_slice (pos := pos) (p2 := p2) ((sl_list (X := X)).or (sl_tupA.or sl_str)) pe_wp po_wp po_wp).wp ?_
  refine runEE ha I q fun x F1 vx H1 s1 rx q1 => ?_
  refine runO hl (I.stp s1) q1 fun l F2 H2 s2 q2 => ?_
  refine runO hh ((I.stp s1).stp s2) q2 fun u F3 H3 s3 q3 => ?_
  replace rx : Top X.K F3 H3 vx x := s3.top (s2.top rx)
  cases x <;> try exact q3.elim
  · rename_i s
    obtain ⟨e1, o1⟩ := top_str rx
    rw [e1]
    by_cases hl : s.length ≤ sizeLine
    · rw [show slcD (.str s) l u = some (.str (cutL s l u)) from if_pos hl] at q3
      exact .inr (.inr ⟨SS s, rfl, by rw [SS_len]; exact hl, q3.lift.imm (v := .str (SS (cutL s l u))) (.str _ (okc_cut l u o1))⟩)
    · rw [show slcD (.str s) l u = none from if_neg hl] at q3
      exact q3.elim
  · rename_i xs
    obtain ⟨p, vs, e1, h1, r1⟩ := top_tup rx
    rw [e1]
    refine .inr (.inl ⟨p, vs, rfl, h1, fun hw => ?_, fun hw q hq => ?_⟩)
    · have e2 : cutL xs l u = xs := by
        unfold cutL
        rw [r1.length] at hw
        rw [hw.1, hw.2, Nat.sub_zero, List.drop_zero, List.take_length]
      rw [show slcD (.tup xs) l u = some (.tup (cutL xs l u)) from rfl, e2] at q3
      exact q3.lift.imm (.tup h1 r1)
    · obtain ⟨s, r⟩ := newT (T := T) hq (reps_cut l u r1)
      exact q3 F3 _ _ s r
  · rename_i xs
    obtain ⟨p, vs, e1, h1, r1⟩ := top_lst rx
    rw [e1]
    refine .inl ⟨p, vs, rfl, .inl h1, fun q hq => ?_⟩
    obtain ⟨s, r⟩ := newL (T := T) hq (reps_cut l u r1)
    exact q3 _ _ _ s r

/-! ### built-in functions -/
@[irreducible] def wpC (X : Cx) (f : Value) : List V → Hp → VK → Prop := fun vs H Q => ∀ pins s σ us, Inv X pins σ H s → Vals vs us → wpAny (model X.prog X.w) X.A (call f us) (EP X pins σ Q) X.xe s
theorem call_wp {f : Value} : CallR X f (wpC X f) := fun pins s σ _ _ us _ I r h => by unfold wpC at h; exact h pins s σ us I r
theorem _root_.L2.CallR.wp {f : Value} {r : List V → Hp → VK → Prop} (h : CallR X f r) {vs : List V} {Q : VK} (q : r vs H Q) : wpC X f vs H Q := by unfold wpC; exact fun pins s σ us I rv => h pins s σ H vs us Q I rv q
structure Cal1 (md : Md) (X : Cx) (T : Tb) (f : Value) (g : D → Option D) : Prop where
  run : ∀ F H v d Q, (∀ a, F a → Dat H a) → Top X.K F H v d → PostV X T F H md (g d) Q → wpC X f [v] H Q
structure Cal2 (md : Md) (X : Cx) (T : Tb) (f : Value) (g : D → D → Option D) : Prop where
  run : ∀ F H v w d e Q, (∀ a, F a → Dat H a) → Top X.K F H v d → Top X.K F H w e → PostV X T F H md (g d e) Q → wpC X f [v, w] H Q
theorem tA1 {Q : List V → Hp → Prop} (h : wpE X a σ H fun x H1 => Q [x] H1) (hs : starEach [a] X.env = (false, eval a X.env) :: starEach [] X.env) : wpA X [a] σ H Q :=
  (pa_cons pe_wp pa_nil hs).wp h
/-- f(a), f a built-in function -/
theorem de_c1B {id : String} {x : Str} {p : Pos} {g : D → Option D} (ho : Cal1 md X T (.builtin id) g) (hv : bootBuiltins x = some (.builtin id)) (hm : X.mg x = none) (ha : DE .B X T W env a ma) (hg : Gl X x := by exact gl_of (by kernel_rfl)) (hn : x ≠ "__name__" := by exact ne_name (by kernel_rfl)) (hdb : (x == ("__debug__" : Str)) = false := by kernel_rfl)
    (he : starEach [a] X.env = (false, eval a X.env) :: starEach [] X.env := by kernel_rfl) (hpl : (backTo pos (starEach [] X.env)).any (·.1) = false := by kernel_rfl) :
    DE md X T W env (.Call (.Name x p) [a] [] pos) (ma.bind fun d => R.lift (g d)) := fun F σ H Q I q => by
  refine (pe_callB (pos := pos) (p := p) call_wp hg hm hv (pa_cons pe_wp pa_nil he) hn hdb he hpl).wp ?_
  refine runEE ha I q fun d F1 v H1 s1 r q1 => ?_
  exact ho.run F1 H1 v d Q (s1.ftr I.ftr) r q1.lift
theorem de_c1T {ty : String} {x : Str} {p : Pos} {g : D → Option D} (ho : Cal1 md X T (.type ty) g) (hv : bootBuiltins x = some (.type ty)) (hm : X.mg x = none) (ha : DE .B X T W env a ma) (hg : Gl X x := by exact gl_of (by kernel_rfl)) (hn : x ≠ "__name__" := by exact ne_name (by kernel_rfl)) (hdb : (x == ("__debug__" : Str)) = false := by kernel_rfl)
    (he : starEach [a] X.env = (false, eval a X.env) :: starEach [] X.env := by kernel_rfl) (hpl : (backTo pos (starEach [] X.env)).any (·.1) = false := by kernel_rfl) :
    DE md X T W env (.Call (.Name x p) [a] [] pos) (ma.bind fun d => R.lift (g d)) := fun F σ H Q I q => by
  refine (pe_callTy (pos := pos) (p := p) call_wp hg hm hv (pa_cons pe_wp pa_nil he) hn hdb he hpl).wp ?_
  refine runEE ha I q fun d F1 v H1 s1 r q1 => ?_
  exact ho.run F1 H1 v d Q (s1.ftr I.ftr) r q1.lift
theorem de_c2B {id : String} {x : Str} {p : Pos} {g : D → D → Option D} (ho : Cal2 md X T (.builtin id) g) (hv : bootBuiltins x = some (.builtin id)) (hm : X.mg x = none) (ha : DE .B X T W env a ma) (hb : DE .B X T W env b mb) (hg : Gl X x := by exact gl_of (by kernel_rfl)) (hn : x ≠ "__name__" := by exact ne_name (by kernel_rfl)) (hdb : (x == ("__debug__" : Str)) = false := by kernel_rfl)
    (he : starEach [a, b] X.env = (false, eval a X.env) :: starEach [b] X.env := by kernel_rfl) (he2 : starEach [b] X.env = (false, eval b X.env) :: starEach [] X.env := by kernel_rfl) (hpl : (backTo pos (starEach [b] X.env)).any (·.1) = false := by kernel_rfl) :
    DE md X T W env (.Call (.Name x p) [a, b] [] pos) (ma.bind fun d => mb.bind fun e => R.lift (g d e)) := fun F σ H Q I q => by
  refine (pe_callB (pos := pos) (p := p) call_wp hg hm hv (pa_cons pe_wp (pa_cons pe_wp pa_nil he2) he) hn hdb he hpl).wp ?_
  refine runEE ha I q fun d F1 v H1 s1 r q1 => ?_
  refine runEE hb (I.stp s1) q1 fun e F2 w H2 s2 r2 q2 => ?_
  exact ho.run F2 H2 v w d e Q (s2.ftr (s1.ftr I.ftr)) (s2.top r) r2 q2.lift
theorem cal1_of {f : Value} {r : List V → Hp → VK → Prop} {g : D → Option D} (ho : CallR X f r) (h : ∀ F H v d Q, (∀ a, F a → Dat H a) → Top X.K F H v d → PostV X T F H md (g d) Q → r [v] H Q) : Cal1 md X T f g :=
  ⟨fun F H v d Q hF rx q => ho.wp (h F H v d Q hF rx q)⟩
theorem cal2_of {f : Value} {r : List V → Hp → VK → Prop} {g : D → D → Option D} (ho : CallR X f r) (h : ∀ F H v w d e Q, (∀ a, F a → Dat H a) → Top X.K F H v d → Top X.K F H w e → PostV X T F H md (g d e) Q → r [v, w] H Q) : Cal2 md X T f g :=
  ⟨fun F H v w d e Q hF rx ry q => ho.wp (h F H v w d e Q hF rx ry q)⟩
def lenD : D → Option D
  | .str s => if s.length ≤ sizeLine then some (.int s.length) else none
  | .lst xs => some (.int xs.length)
  | .tup xs => some (.int xs.length)
  | _ => none
theorem c_len : Cal1 .S X T (.builtin "len") lenD := cal1_of (call_len_seq.or call_len_str) fun F H v d Q hF rx q => by
  cases d <;> try exact q.elim
  · rename_i s
    rw [(top_str rx).1]
    by_cases hl : s.length ≤ sizeLine
    · rw [show lenD (.str s) = some (.int s.length) from if_pos hl] at q
      exact .inr ⟨_, rfl, by rw [SS_len]; exact hl, by rw [SS_len]; exact q.imm (.int _)⟩
    · rw [show lenD (.str s) = none from if_neg hl] at q
      exact q.elim
  · obtain ⟨a, vs, e1, h1, r1⟩ := top_tup rx
    rw [e1]
    exact .inl ⟨a, vs, rfl, .inr h1, by rw [r1.length]; exact q.imm (.int _)⟩
  · obtain ⟨a, vs, e1, h1, r1⟩ := top_lst rx
    rw [e1]
    exact .inl ⟨a, vs, rfl, .inl (.inl h1), by rw [r1.length]; exact q.imm (.int _)⟩
def absD : D → Option D
  | .int i => some (.int (i.natAbs : Int))
  | _ => none
theorem c_abs : Cal1 .S X T (.builtin "abs") absD := cal1_of call_abs fun F H v d Q hF rx q => by
  cases d <;> try exact q.elim
  rename_i i
  rw [top_int rx]
  refine ⟨i, rfl, ?_⟩
  have : (if i < 0 then -i else i) = (i.natAbs : Int) := by split <;> omega
  rw [this]
  exact q.imm (.int _)
def intD : D → Option D
  | .int i => some (.int i)
  | .bl b => some (.int (if b then 1 else 0))
  | .str s => if s.length ≤ 640 then (PySem.intText? (SS s)).map D.int else none
  | _ => none
theorem c_int : Cal1 .S X T (.type "int") intD := cal1_of (call_int1.or call_int_str) fun F H v d Q hF rx q => by
  cases d <;> try exact q.elim
  · rw [top_bl rx]; exact .inl (.inr ⟨_, rfl, q.imm (.int _)⟩)
  · rw [top_int rx]; exact .inl (.inl ⟨_, rfl, q.imm (.int _)⟩)
  · rename_i s
    rw [(top_str rx).1]
    by_cases hl : s.length ≤ 640
    · rw [show intD (.str s) = (PySem.intText? (SS s)).map D.int from if_pos hl] at q
      cases e : PySem.intText? (SS s) with
      | none => rw [e] at q; exact q.elim
      | some n => rw [e] at q; exact .inr ⟨_, n, rfl, e, by rw [SS_len]; exact hl, q.imm (.int _)⟩
    · rw [show intD (.str s) = none from if_neg hl] at q
      exact q.elim
/-- int of a text of digits (few of them) -/
def digS (s : List Nat) : Bool := !s.isEmpty && s.all fun c => decide (48 ≤ c ∧ c ≤ 57)
def strI (i : Int) : List Nat := (Str.ofString (toString i)).cps.toList
theorem strI_nat (n : Nat) : strI (n : Int) = TL.numL n := TL.tl_num n
def strD : D → Option D
  | .int i => if i.natAbs < 2 ^ 1900 then some (.str (strI i)) else none
  | .str s => some (.str s)
  | _ => none
theorem ofStr_okc (s : String) : Okc (Str.ofString s).cps.toList := by
  rw [show (Str.ofString s).cps.toList = s.toList.map Char.toNat from PyProof.Rows.signs_ofString s]
  intro c hc
  obtain ⟨ch, _, rfl⟩ := List.mem_map.mp hc
  have h := ch.valid
  unfold Char.toNat
  rcases h with h | ⟨_, h⟩ <;> (have : ch.val.toNat < _ := h) <;> omega
theorem SS_ofStr (s : String) : SS (Str.ofString s).cps.toList = Str.ofString s := TL.mk_tl _
theorem c_str : Cal1 .S X T (.type "str") strD := cal1_of (call_str_int.or SkE.call_str_str) fun F H v d Q hF rx q => by
  cases d <;> try exact q.elim
  · rename_i i
    rw [top_int rx]
    by_cases hl : i.natAbs < 2 ^ 1900
    · rw [show strD (.int i) = some (.str (strI i)) from if_pos hl] at q
      refine .inl ⟨i, rfl, Nat.lt_of_lt_of_le (PySem.Flt.log2_lt_of (k := 1900) (by decide) hl) (by decide), ?_⟩
      have := q.imm (v := .str (SS (strI i))) (.str _ (ofStr_okc _))
      rw [show SS (strI i) = Str.ofString (toString i) from SS_ofStr _] at this
      exact this
    · rw [show strD (.int i) = none from if_neg hl] at q
      exact q.elim
  · obtain ⟨e1, o1⟩ := top_str rx
    rw [e1]
    exact .inr ⟨_, rfl, q.imm (.str _ o1)⟩
def ordD : D → Option D
  | .str [c] => some (.int c)
  | _ => none
theorem c_ord : Cal1 .S X T (.builtin "ord") ordD := cal1_of call_ord fun F H v d Q hF rx q => by
  cases d <;> try exact q.elim
  rename_i s
  cases s with
  | nil => exact q.elim
  | cons c r =>
    cases r with
    | cons c' r => exact q.elim
    | nil =>
      rw [(top_str rx).1]
      exact ⟨_, rfl, rfl, q.imm (.int _)⟩
def chrD : D → Option D
  | .int i => if 0 ≤ i ∧ i < 1114112 then some (.str [i.toNat]) else none
  | _ => none
theorem c_chr : Cal1 .S X T (.builtin "chr") chrD := cal1_of call_chr fun F H v d Q hF rx q => by
  cases d <;> try exact q.elim
  rename_i i
  rw [top_int rx]
  by_cases hl : 0 ≤ i ∧ i < 1114112
  · rw [show chrD (.int i) = some (.str [i.toNat]) from if_pos hl] at q
    exact ⟨i, rfl, hl.1, by omega, q.imm (v := .str (SS [i.toNat])) (.str _ fun c hc => by rw [List.mem_singleton.mp hc]; omega)⟩
  · rw [show chrD (.int i) = none from if_neg hl] at q
    exact q.elim
def listD : D → Option D
  | .lst xs => some (.lst xs)
  | .tup xs => some (.lst xs)
  | _ => none
theorem c_list : Cal1 .O X T (.type "list") listD := cal1_of call_list_of fun F H v d Q hF rx q => by
  cases d <;> try exact q.elim
  · obtain ⟨a, vs, e1, h1, r1⟩ := top_tup rx
    rw [e1]
    refine ⟨a, vs, rfl, .inr h1, fun l hl => ?_⟩
    obtain ⟨s, r⟩ := newO (T := T) hl hF r1
    exact q F _ _ s r
  · obtain ⟨a, vs, e1, h1, r1⟩ := top_lst rx
    rw [e1]
    refine ⟨a, vs, rfl, .inl (.inl h1), fun l hl => ?_⟩
    obtain ⟨s, r⟩ := newO (T := T) hl hF r1
    exact q F _ _ s r
def tupD : D → Option D
  | .lst xs => some (.tup xs)
  | .tup xs => some (.tup xs)
  | _ => none
theorem c_tuple : Cal1 .S X T (.type "tuple") tupD := cal1_of call_tuple_of fun F H v d Q hF rx q => by
  cases d <;> try exact q.elim
  · obtain ⟨a, vs, e1, h1, r1⟩ := top_tup rx
    rw [e1]
    exact ⟨a, vs, rfl, .inr ⟨h1, q.imm (.tup h1 r1)⟩⟩
  · obtain ⟨a, vs, e1, h1, r1⟩ := top_lst rx
    rw [e1]
    refine ⟨a, vs, rfl, .inl ⟨.inl h1, fun l hl => ?_⟩⟩
    obtain ⟨s, r⟩ := newT (T := T) hl r1
    exact q F _ _ s r
/-- a list of ints, of bools -/
def intsOf : List D → Option (List Int)
  | [] => some []
  | .int i :: xs => (intsOf xs).map (i :: ·)
  | _ :: _ => none
def blsOf : List D → Option (List Bool)
  | [] => some []
  | .bl i :: xs => (blsOf xs).map (i :: ·)
  | _ :: _ => none
def strsOf : List D → Option (List (List Nat))
  | [] => some []
  | .str i :: xs => (strsOf xs).map (i :: ·)
  | _ :: _ => none
theorem intsOf_eq : ∀ {xs : List D} {is : List Int}, intsOf xs = some is → xs = is.map D.int
  | [], is, h => by cases h; rfl
  | x :: xs, is, h => by
    cases x <;> try (cases h; done)
    rename_i i
    cases e : intsOf xs with
    | none => unfold intsOf at h; rw [e] at h; cases h
    | some js =>
      unfold intsOf at h
      rw [e] at h
      cases h
      rw [intsOf_eq e]
      rfl
theorem blsOf_eq : ∀ {xs : List D} {is : List Bool}, blsOf xs = some is → xs = is.map D.bl
  | [], is, h => by cases h; rfl
  | x :: xs, is, h => by
    cases x <;> try (cases h; done)
    rename_i i
    cases e : blsOf xs with
    | none => unfold blsOf at h; rw [e] at h; cases h
    | some js =>
      unfold blsOf at h
      rw [e] at h
      cases h
      rw [blsOf_eq e]
      rfl
theorem strsOf_eq : ∀ {xs : List D} {is : List (List Nat)}, strsOf xs = some is → xs = is.map D.str
  | [], is, h => by cases h; rfl
  | x :: xs, is, h => by
    cases x <;> try (cases h; done)
    rename_i i
    cases e : strsOf xs with
    | none => unfold strsOf at h; rw [e] at h; cases h
    | some js =>
      unfold strsOf at h
      rw [e] at h
      cases h
      rw [strsOf_eq e]
      rfl
@[simp] theorem intsOf_map (is : List Int) : intsOf (is.map D.int) = some is := by
  induction is with
  | nil => rfl
  | cons i is ih => rw [List.map_cons]; unfold intsOf; rw [ih]; rfl
@[simp] theorem blsOf_map (is : List Bool) : blsOf (is.map D.bl) = some is := by
  induction is with
  | nil => rfl
  | cons i is ih => rw [List.map_cons]; unfold blsOf; rw [ih]; rfl
@[simp] theorem strsOf_map (is : List (List Nat)) : strsOf (is.map D.str) = some is := by
  induction is with
  | nil => rfl
  | cons i is ih => rw [List.map_cons]; unfold strsOf; rw [ih]; rfl
def seqOf : D → Option (List D)
  | .lst xs => some xs
  | .tup xs => some xs
  | _ => none
def lstOf : D → Option (List D)
  | .lst xs => some xs
  | _ => none
def sumD (d : D) : Option D := ((lstOf d).bind intsOf).map fun is => .int is.sum
def allD (d : D) : Option D := ((lstOf d).bind blsOf).map fun is => .bl (is.all id)
def anyD (d : D) : Option D := ((lstOf d).bind blsOf).map fun is => .bl (is.any id)
theorem top_ints {K : PySem.W.Frag} {v : V} {d : D} {is : List Int} (h : (lstOf d).bind intsOf = some is) (r : Top K F H v d) : ∃ a, v = .ref a ∧ SqL K H a (is.map V.int) := by
  cases d <;> try (cases h; done)
  obtain ⟨a, vs, e1, h1, r1⟩ := top_lst r
  have e := intsOf_eq h
  subst e
  exact ⟨a, e1, .inl (by rw [← r1.ints]; exact h1)⟩
theorem top_bls {K : PySem.W.Frag} {v : V} {d : D} {is : List Bool} (h : (lstOf d).bind blsOf = some is) (r : Top K F H v d) : ∃ a, v = .ref a ∧ SqL K H a (is.map V.bl) := by
  cases d <;> try (cases h; done)
  obtain ⟨a, vs, e1, h1, r1⟩ := top_lst r
  have e := blsOf_eq h
  subst e
  exact ⟨a, e1, .inl (by rw [← r1.bls]; exact h1)⟩
theorem c_sum (hc : X.calm = true) : Cal1 .S X T (.builtin "sum") sumD := cal1_of (cr_sum hc) fun F H v d Q hF rx q => by
  unfold sumD at q
  cases e : (lstOf d).bind intsOf with
  | none => rw [e] at q; exact q.elim
  | some is =>
    rw [e] at q
    obtain ⟨a, e1, h1⟩ := top_ints e rx
    rw [e1]
    exact ⟨a, is, rfl, h1, q.imm (.int _)⟩
theorem c_all (hc : X.calm = true) : Cal1 .S X T (.builtin "all") allD := cal1_of (cr_all hc) fun F H v d Q hF rx q => by
  unfold allD at q
  cases e : (lstOf d).bind blsOf with
  | none => rw [e] at q; exact q.elim
  | some is =>
    rw [e] at q
    obtain ⟨a, e1, h1⟩ := top_bls e rx
    rw [e1]
    exact ⟨a, is, rfl, h1, q.imm (.bl _)⟩
theorem c_any (hc : X.calm = true) : Cal1 .S X T (.builtin "any") anyD := cal1_of (cr_any hc) fun F H v d Q hF rx q => by
  unfold anyD at q
  cases e : (lstOf d).bind blsOf with
  | none => rw [e] at q; exact q.elim
  | some is =>
    rw [e] at q
    obtain ⟨a, e1, h1⟩ := top_bls e rx
    rw [e1]
    exact ⟨a, is, rfl, h1, q.imm (.bl _)⟩
/-- the greatest, the least of ints -/
def maxL : List Int → Option Int
  | [] => none
  | [i] => some i
  | i :: is => (maxL is).map fun m => if i < m then m else i
def minL : List Int → Option Int
  | [] => none
  | [i] => some i
  | i :: is => (minL is).map fun m => if m < i then m else i
theorem maxL_of : ∀ {is : List Int} {m : Int}, m ∈ is → (∀ y ∈ is, y ≤ m) → maxL is = some m
  | [], m, h, _ => nomatch h
  | [i], m, h, _ => by rw [List.mem_singleton.mp h]; rfl
  | i :: j :: is, m, h, hm => by
    have hi := hm i List.mem_cons_self
    by_cases e : m ∈ j :: is
    · have ih := maxL_of e fun y hy => hm y (List.mem_cons_of_mem _ hy)
      show (maxL (j :: is)).map _ = _
      rw [ih]
      show some (if i < m then m else i) = some m
      by_cases hlt : i < m
      · rw [if_pos hlt]
      · rw [if_neg hlt, show i = m by omega]
    · have ei : m = i := (List.mem_cons.mp h).resolve_right e
      subst ei
      have : ∃ m', maxL (j :: is) = some m' ∧ m' ∈ j :: is := maxL_some j is
      obtain ⟨m', e1, e2⟩ := this
      show (maxL (j :: is)).map _ = _
      rw [e1]
      show some (if m < m' then m' else m) = some m
      rw [if_neg (by have := hm m' (List.mem_cons_of_mem _ e2); omega)]
where maxL_some : ∀ (j : Int) (is : List Int), ∃ m', maxL (j :: is) = some m' ∧ m' ∈ j :: is
  | j, [] => ⟨j, rfl, List.mem_cons_self⟩
  | j, k :: is => by
    obtain ⟨m', e1, e2⟩ := maxL_some k is
    show ∃ m'', (maxL (k :: is)).map _ = _ ∧ _
    rw [e1]
    refine ⟨_, rfl, ?_⟩
    dsimp only
    split
    · exact List.mem_cons_of_mem _ e2
    · exact List.mem_cons_self
theorem minL_of : ∀ {is : List Int} {m : Int}, m ∈ is → (∀ y ∈ is, m ≤ y) → minL is = some m
  | [], m, h, _ => nomatch h
  | [i], m, h, _ => by rw [List.mem_singleton.mp h]; rfl
  | i :: j :: is, m, h, hm => by
    have hi := hm i List.mem_cons_self
    by_cases e : m ∈ j :: is
    · have ih := minL_of e fun y hy => hm y (List.mem_cons_of_mem _ hy)
      show (minL (j :: is)).map _ = _
      rw [ih]
      show some (if m < i then m else i) = some m
      by_cases hlt : m < i
      · rw [if_pos hlt]
      · rw [if_neg hlt, show i = m by omega]
    · have ei : m = i := (List.mem_cons.mp h).resolve_right e
      subst ei
      obtain ⟨m', e1, e2⟩ := minL_some j is
      show (minL (j :: is)).map _ = _
      rw [e1]
      show some (if m' < m then m' else m) = some m
      rw [if_neg (by have := hm m' (List.mem_cons_of_mem _ e2); omega)]
where minL_some : ∀ (j : Int) (is : List Int), ∃ m', minL (j :: is) = some m' ∧ m' ∈ j :: is
  | j, [] => ⟨j, rfl, List.mem_cons_self⟩
  | j, k :: is => by
    obtain ⟨m', e1, e2⟩ := minL_some k is
    show ∃ m'', (minL (k :: is)).map _ = _ ∧ _
    rw [e1]
    refine ⟨_, rfl, ?_⟩
    dsimp only
    split
    · exact List.mem_cons_of_mem _ e2
    · exact List.mem_cons_self
def maxD (d : D) : Option D := (((lstOf d).bind intsOf).bind maxL).map .int
def minD (d : D) : Option D := (((lstOf d).bind intsOf).bind minL).map .int
theorem c_max (hc : X.calm = true) : Cal1 .S X T (.builtin "max") maxD := cal1_of (cr_max hc) fun F H v d Q hF rx q => by
  unfold maxD at q
  cases e : (lstOf d).bind intsOf with
  | none => rw [e] at q; exact q.elim
  | some is =>
    rw [e] at q
    obtain ⟨a, e1, h1⟩ := top_ints e rx
    rw [e1]
    cases is with
    | nil => exact q.elim
    | cons i is =>
      refine ⟨a, i :: is, rfl, h1, by simp, fun m hm hm2 => ?_⟩
      have em : maxL (i :: is) = some m := maxL_of hm hm2
      rw [show (some (i :: is)).bind maxL = maxL (i :: is) from rfl, em] at q
      exact q.imm (.int m)
theorem c_min (hc : X.calm = true) : Cal1 .S X T (.builtin "min") minD := cal1_of (cr_min hc) fun F H v d Q hF rx q => by
  unfold minD at q
  cases e : (lstOf d).bind intsOf with
  | none => rw [e] at q; exact q.elim
  | some is =>
    rw [e] at q
    obtain ⟨a, e1, h1⟩ := top_ints e rx
    rw [e1]
    cases is with
    | nil => exact q.elim
    | cons i is =>
      refine ⟨a, i :: is, rfl, h1, by simp, fun m hm hm2 => ?_⟩
      have em : minL (i :: is) = some m := minL_of hm hm2
      rw [show (some (i :: is)).bind minL = minL (i :: is) from rfl, em] at q
      exact q.imm (.int m)
def max2D : D → D → Option D
  | .int i, .int j => some (.int (max i j))
  | _, _ => none
def min2D : D → D → Option D
  | .int i, .int j => some (.int (min i j))
  | _, _ => none
theorem c_max2 (hc : X.calm = true) : Cal2 .S X T (.builtin "max") max2D := cal2_of (call_max2 hc) fun F H v w d e Q hF rx ry q => by
  cases d <;> cases e <;> try exact q.elim
  rename_i i j
  rw [top_int rx, top_int ry]
  refine ⟨i, j, rfl, ?_⟩
  have : (if j > i then j else i) = max i j := by rw [Int.max_def]; split <;> split <;> omega
  rw [this]
  exact q.imm (.int _)
theorem c_min2 (hc : X.calm = true) : Cal2 .S X T (.builtin "min") min2D := cal2_of (call_min2 hc) fun F H v w d e Q hF rx ry q => by
  cases d <;> cases e <;> try exact q.elim
  rename_i i j
  rw [top_int rx, top_int ry]
  refine ⟨i, j, rfl, ?_⟩
  have : (if j < i then j else i) = min i j := by rw [Int.min_def]; split <;> split <;> omega
  rw [this]
  exact q.imm (.int _)
/-- sorted ints -/
def insI (i : Int) : List Int → List Int
  | [] => [i]
  | j :: r => if i ≤ j then i :: j :: r else j :: insI i r
def sortI : List Int → List Int
  | [] => []
  | i :: r => insI i (sortI r)
theorem insI_perm (i : Int) : ∀ l, (insI i l).Perm (i :: l)
  | [] => .refl _
  | j :: r => by
    unfold insI
    split
    · exact .refl _
    · exact ((insI_perm i r).cons j).trans (List.Perm.swap i j r)
theorem sortI_perm : ∀ l, (sortI l).Perm l
  | [] => .refl _
  | i :: r => (insI_perm i _).trans ((sortI_perm r).cons i)
theorem insI_sorted (i : Int) : ∀ l : List Int, l.Pairwise (· ≤ ·) → (insI i l).Pairwise (· ≤ ·)
  | [], _ => by unfold insI; simp
  | j :: r, h => by
    unfold insI
    have hj := List.pairwise_cons.mp h
    split
    · rename_i hij
      exact List.pairwise_cons.mpr ⟨fun y hy => by
        rcases List.mem_cons.mp hy with e | e
        · rw [e]; exact hij
        · exact Int.le_trans hij (hj.1 y e), h⟩
    · rename_i hij
      refine List.pairwise_cons.mpr ⟨fun y hy => ?_, insI_sorted i r hj.2⟩
      rcases List.mem_cons.mp ((insI_perm i r).mem_iff.mp hy) with e | e
      · rw [e]; omega
      · exact hj.1 y e
theorem sortI_sorted : ∀ l : List Int, (sortI l).Pairwise (· ≤ ·)
  | [] => .nil
  | i :: r => insI_sorted i _ (sortI_sorted r)
theorem sorted_uniq {a b : List Int} (p : a.Perm b) (ha : a.Pairwise (· ≤ ·)) (hb : b.Pairwise (· ≤ ·)) : a = b :=
  p.eq_of_pairwise (fun _ _ _ _ h1 h2 => Int.le_antisymm h1 h2) ha hb
def sortedD (d : D) : Option D := ((lstOf d).bind intsOf).map fun is => .lst ((sortI is).map D.int)
theorem c_sorted : Cal1 .O X T (.builtin "sorted") sortedD := cal1_of cr_sortedI fun F H v d Q hF rx q => by
  unfold sortedD at q
  cases e : (lstOf d).bind intsOf with
  | none => rw [e] at q; exact q.elim
  | some is =>
    rw [e] at q
    obtain ⟨a, e1, h1⟩ := top_ints e rx
    rw [e1]
    refine ⟨a, is, rfl, h1, fun ns' p hp hs hn => ?_⟩
    have en : ns' = sortI is := sorted_uniq (hp.trans (sortI_perm is).symm) hs (sortI_sorted is)
    subst en
    obtain ⟨s, r⟩ := newO (T := T) hn hF (reps_ints (K := X.K) (F := F) (H := H) (sortI is))
    exact q F _ _ s r

/-! ### methods of texts -/
/-- sep.join(list) -/
def joinD (a : List Nat) (d : D) : Option D := ((seqOf d).bind strsOf).bind fun ys => if (ys.map (·.length)).sum + ys.length * a.length ≤ 16777216 then some (.str (TL.joinL a ys)) else none
/-- a text is wanted -/
def strR {α : Type} (x : D) (k : List Nat → R α) : R α := match x with | .str a => k a | _ => .st
@[simp] theorem strR_str {α : Type} (a : List Nat) (k : List Nat → R α) : strR (.str a) k = k a := rfl
theorem okc_join {a : List Nat} (ha : Okc a) : ∀ {ys : List (List Nat)}, (∀ s ∈ ys, Okc s) → Okc (TL.joinL a ys)
  | [], _ => fun c hc => nomatch hc
  | [p], h => h p List.mem_cons_self
  | p :: q :: r, h => okc_app (h p List.mem_cons_self) (okc_app ha (okc_join ha fun s hs => h s (List.mem_cons_of_mem _ hs)))
theorem SS_join (a : List Nat) (ys : List (List Nat)) : Txt.join (SS a) (ys.map SS) = SS (TL.joinL a ys) := by
  rw [TL.join_eq]
  refine TL.ext_tl ?_
  rw [TL.tl_join, List.map_map]
  have : (TL.tl ∘ SS) = id := by funext s; rfl
  rw [this, List.map_id]
  rfl
theorem de_join {apos : Pos} (ha : DE .B X T W env a ma) (hb : DE .B X T W env b mb) (hs : starEach [b] X.env = [(false, eval b X.env)] := by kernel_rfl) (hbase : attributeBase a "join" X.env (eval a X.env) = eval a X.env := by kernel_rfl) (hline : (apos.endLine == pos.line) = true := by kernel_rfl) :
    DE .S X T W env (.Call (.Attribute a "join" apos) [b] [] pos) (ma.bind fun x => strR x fun x => mb.bind fun y => R.lift (joinD x y)) := fun F σ H Q I q => by
  refine (pe_join (pos := pos) (apos := apos) pe_wp pe_wp hs hbase hline).wp ?_
  refine runEE ha I q fun x F1 vx H1 s1 rx q1 => ?_
  cases x <;> try exact q1.elim
  rename_i sa
  obtain ⟨e1, o1⟩ := top_str (RepM.toB (md := .B) (H1 := H) rx)
  subst e1
  refine ⟨⟨_, rfl⟩, ?_⟩
  refine runEE hb (I.stp s1) q1 fun y F2 vy H2 s2 ry q2 => ?_
  unfold joinD at q2
  cases e : (seqOf y).bind strsOf with
  | none => rw [e] at q2; exact q2.elim
  | some ys =>
    rw [e] at q2
    by_cases hl : (ys.map (·.length)).sum + ys.length * sa.length ≤ 16777216
    · rw [show ((some ys).bind fun ys => if (ys.map (·.length)).sum + ys.length * sa.length ≤ 16777216 then some (D.str (TL.joinL sa ys)) else none) = some (D.str (TL.joinL sa ys)) from if_pos hl] at q2
      have fin : ∀ {p : Addr} {vs : List V}, (SqL X.K H2 p vs ∨ SqT X.K H2 p vs) → Reps X.K F2 H2 vs (ys.map D.str) →
          ∃ a p', ∃ ys : List Str, V.str (SS sa) = .str a ∧ [V.ref p] = [.ref p'] ∧ (SqL X.K H2 p' (ys.map V.str) ∨ SqT X.K H2 p' (ys.map V.str)) ∧ (ys.map (·.length)).sum + ys.length * a.length ≤ 16777216 ∧ Q (.str (Txt.join a ys)) H2 := by
        intro p vs hp r
        refine ⟨SS sa, p, ys.map SS, rfl, rfl, by rw [← r.strs]; exact hp, ?_, ?_⟩
        · rw [List.map_map, List.length_map, SS_len, show ((fun s : Str => s.length) ∘ SS) = List.length from by funext s; exact SS_len s]
          exact hl
        · rw [SS_join]
          exact q2.lift.imm (.str _ (okc_join o1 r.strOk))
      cases y <;> try (cases e; done)
      · obtain ⟨p, vs, e1, h1, r1⟩ := top_tup ry
        have ey := strsOf_eq e
        subst ey
        subst e1
        exact fin (.inr h1) r1
      · obtain ⟨p, vs, e1, h1, r1⟩ := top_lst ry
        have ey := strsOf_eq e
        subst ey
        subst e1
        exact fin (.inl (.inl h1)) r1
    · rw [show ((some ys).bind fun ys => if (ys.map (·.length)).sum + ys.length * sa.length ≤ 16777216 then some (D.str (TL.joinL sa ys)) else none) = none from if_neg hl] at q2
      exact q2.elim
end
end DL

-- DL4
set_option Elab.async false
set_option linter.all false
set_option maxRecDepth 100000
set_option maxHeartbeats 4000000
/-! The data layer: defs, statements. -/
namespace DL
open PySem PySem.Spec PyProof.Rows L2

/-! ### what a statement comes to -/
inductive O (τ ρ : Type) where
  | nx (s : τ) | rt (d : D) (us : List D) | bk (s : ρ) | ct (s : ρ) | xc (c : Str) | st
namespace O
variable {τ ρ α τ' : Type}
def ofR : R α → (α → O τ ρ) → O τ ρ
  | .ok a, f => f a
  | .ex c, _ => .xc c
  | .st, _ => .st
def seq : O τ ρ → (τ → O τ' ρ) → O τ' ρ
  | .nx s, f => f s
  | .rt d us, _ => .rt d us
  | .bk s, _ => .bk s
  | .ct s, _ => .ct s
  | .xc c, _ => .xc c
  | .st, _ => .st
def toR : O τ ρ → R D
  | .nx _ => .ok .non
  | .rt d _ => .ok d
  | .xc c => .ex c
  | _ => .st
@[simp] theorem ofR_ok (a : α) (f : α → O τ ρ) : O.ofR (R.ok a) f = f a := rfl
@[simp] theorem ofR_ex (c : Str) (f : α → O τ ρ) : O.ofR (R.ex c) f = .xc c := rfl
@[simp] theorem ofR_st (f : α → O τ ρ) : O.ofR R.st f = .st := rfl
@[simp] theorem seq_nx (s : τ) (f : τ → O τ' ρ) : (O.nx s : O τ ρ).seq f = f s := rfl
@[simp] theorem seq_rt (d : D) (us : List D) (f : τ → O τ' ρ) : (O.rt d us : O τ ρ).seq f = .rt d us := rfl
@[simp] theorem seq_bk (s : ρ) (f : τ → O τ' ρ) : (O.bk s : O τ ρ).seq f = .bk s := rfl
@[simp] theorem seq_ct (s : ρ) (f : τ → O τ' ρ) : (O.ct s : O τ ρ).seq f = .ct s := rfl
@[simp] theorem seq_xc (c : Str) (f : τ → O τ' ρ) : (O.xc c : O τ ρ).seq f = .xc c := rfl
@[simp] theorem seq_st (f : τ → O τ' ρ) : (O.st : O τ ρ).seq f = .st := rfl
@[simp] theorem toR_nx (s : τ) : (O.nx s : O τ ρ).toR = .ok .non := rfl
@[simp] theorem toR_rt (d : D) (us : List D) : (O.rt d us : O τ ρ).toR = .ok d := rfl
@[simp] theorem toR_xc (c : Str) : (O.xc c : O τ ρ).toR = .ex c := rfl
@[simp] theorem toR_st : (O.st : O τ ρ).toR = .st := rfl
end O

/-- what stood at the entry of a def: data in F0, the heap H0, the objects A that are handed in to be changed -/
structure Gh where
  F0 : Addr → Prop
  H0 : Hp
  A : List Addr
/-- weaker knowledge of the slots -/
inductive Wk : List Sl → List Sl → Prop
  | nil : Wk [] []
  | eq {s : Sl} {a b : List Sl} : Wk a b → Wk (s :: a) (s :: b)
  | no {s : Sl} {a b : List Sl} : Wk a b → Wk (s :: a) (.no :: b)
theorem Wk.refl : ∀ {a : List Sl}, Wk a a
  | [] => .nil
  | _ :: _ => .eq Wk.refl
theorem Wk.length : ∀ {a b : List Sl}, Wk a b → a.length = b.length
  | _, _, .nil => rfl
  | _, _, .eq t => by rw [List.length_cons, List.length_cons, Wk.length t]
  | _, _, .no t => by rw [List.length_cons, List.length_cons, Wk.length t]
theorem Wk.get : ∀ {a b : List Sl} {i : Nat} {s : Sl}, Wk a b → b[i]? = some s → (s = .no ∧ ∃ s', a[i]? = some s') ∨ a[i]? = some s
  | _, _, _, _, .nil, h => by simp at h
  | _, _, 0, _, .eq _, h => .inr h
  | _, _, 0, _, .no _, h => .inl ⟨by simpa using h.symm, _, rfl⟩
  | _, _, i + 1, _, .eq t, h => by simpa using Wk.get (i := i) t (by simpa using h)
  | _, _, i + 1, _, .no t, h => by simpa using Wk.get (i := i) t (by simpa using h)
theorem Wk.nos {n : Nat} : ∀ {a : List Sl}, a.length = n → Wk a (List.replicate n .no)
  | [], h => by subst h; exact .nil
  | _ :: a, h => by subst h; exact .no (Wk.nos rfl)
theorem ER.wk {K : PySem.W.Frag} {T : Tb} {F : Addr → Prop} {σ : Sg} {H : Hp} {a b : List Sl} (I : ER K T F σ H a) (w : Wk a b) : ER K T F σ H b where
  len := I.len.trans w.length
  slots := fun i sl e => by
    rcases w.get e with ⟨rfl, s', h⟩ | h
    · obtain ⟨x, h1, _⟩ := I.slots i s' h
      exact ⟨x, h1, trivial⟩
    · exact I.slots i sl h
  nd := fun i j p hi hj => by
    obtain ⟨⟨d, e1⟩, e2⟩ := hi
    obtain ⟨⟨d', e3⟩, e4⟩ := hj
    rcases w.get e1 with ⟨z, _⟩ | h1
    · cases z
    · rcases w.get e3 with ⟨z, _⟩ | h2
      · cases z
      · exact I.nd i j p ⟨⟨d, h1⟩, e2⟩ ⟨⟨d', h2⟩, e4⟩
  nf := fun i p hi => by
    obtain ⟨⟨d, e1⟩, e2⟩ := hi
    rcases w.get e1 with ⟨z, _⟩ | h1
    · cases z
    · exact I.nf i p ⟨⟨d, h1⟩, e2⟩
  ftr := I.ftr
  tabs := I.tabs
/-- the slots at ip hold the objects A -/
inductive IoAt (σ : Sg) : List Nat → List Addr → Prop
  | nil : IoAt σ [] []
  | cons {i : Nat} {a : Addr} {ip : List Nat} {A : List Addr} : σ[i]? = some (some (.ref a)) → IoAt σ ip A → IoAt σ (i :: ip) (a :: A)
theorem IoAt.mono {σ σ' : Sg} : ∀ {ip : List Nat} {A : List Addr}, IoAt σ ip A → (∀ i ∈ ip, σ'[i]? = σ[i]?) → IoAt σ' ip A
  | _, _, .nil, _ => .nil
  | _, _, .cons h t, k => .cons (by rw [k _ List.mem_cons_self]; exact h) (IoAt.mono t fun i hi => k i (List.mem_cons_of_mem _ hi))
structure ER2 (K : PySem.W.Frag) (T : Tb) (G : Gh) (ip : List Nat) (F : Addr → Prop) (σ : Sg) (H : Hp) (env : List Sl) : Prop where
  er : ER K T F σ H env
  inc : ∀ a, G.F0 a → F a
  new : ∀ a, F a → G.F0 a ∨ ¬ Dat G.H0 a
  keep : ∀ b o, G.H0 b = some o → NoTbl o → b ∉ G.A → H b = some o
  there : ∀ b, Dat G.H0 b → Dat H b
  tape : ∀ a, TapeOk G.F0 G.H0 a → TapeOk F H a
  own : ∀ i a, OwnI σ env i a → ¬ Dat G.H0 a ∨ a ∈ G.A
  io : IoAt σ ip G.A
/-- the objects A hold us -/
inductive OwnsAt (K : PySem.W.Frag) (F : Addr → Prop) (H : Hp) : List Addr → List D → Prop
  | nil : OwnsAt K F H [] []
  | cons {a : Addr} {d : D} {A : List Addr} {us : List D} : OwnAt K F H a d → OwnsAt K F H A us → OwnsAt K F H (a :: A) (d :: us)
/-- from the entry to a return -/
structure StpR (T : Tb) (G : Gh) (F' : Addr → Prop) (H' : Hp) : Prop where
  inc : ∀ a, G.F0 a → F' a
  new : ∀ a, F' a → G.F0 a ∨ ¬ Dat G.H0 a
  keep : ∀ b o, G.H0 b = some o → NoTbl o → b ∉ G.A → H' b = some o
  there : ∀ b, Dat G.H0 b → Dat H' b
  tape : ∀ a, TapeOk G.F0 G.H0 a → TapeOk F' H' a
  tabs : LamX.Tabs T H'
  ftr : ∀ a, F' a → Dat H' a

section
variable {K : PySem.W.Frag} {T : Tb} {G : Gh} {ip : List Nat} {F F' : Addr → Prop} {σ σ' : Sg} {H H' : Hp} {env env' : List Sl} {a : Addr} {v : V} {d : D}
theorem ER2.stp (I : ER2 K T G ip F σ H env) (s : Stp T F H F' H') : ER2 K T G ip F' σ H' env where
  er := I.er.stp s
  inc := fun a h => s.inc a (I.inc a h)
  new := fun a h => by
    rcases s.new a h with h | h
    · exact I.new a h
    · exact .inr fun z => h (I.there a z)
  keep := fun b o e n hb => s.keep b o (I.keep b o e n hb) n
  there := fun b h => s.there b (I.there b h)
  tape := fun a h => s.tape a (I.tape a h)
  own := I.own
  io := I.io
theorem ER2.wk (I : ER2 K T G ip F σ H env) (w : Wk env env') : ER2 K T G ip F σ H env' :=
  ⟨I.er.wk w, I.inc, I.new, I.keep, I.there, I.tape, fun i a ⟨⟨d, e1⟩, e2⟩ => by
    rcases w.get e1 with ⟨z, _⟩ | h1
    · cases z
    · exact I.own i a ⟨⟨d, h1⟩, e2⟩, I.io⟩
theorem ER2.nos (I : ER2 K T G ip F σ H env) : ER2 K T G ip F σ H (List.replicate σ.length .no) := I.wk (Wk.nos I.er.len.symm)
theorem ER2.stpR (I : ER2 K T G ip F σ H env) : StpR T G F H := ⟨I.inc, I.new, I.keep, I.there, I.tape, I.er.tabs, I.er.ftr⟩
theorem ER2.back (I : ER2 K T G ip F σ H env) (h : ¬ Dat H a) : ¬ Dat G.H0 a := fun z => h (I.there a z)
theorem getSet {α : Type} {l : List α} {i j : Nat} {x y : α} (h : (l.set i x)[j]? = some y) : (j = i ∧ y = x) ∨ (j ≠ i ∧ l[j]? = some y) := by
  by_cases e : j = i
  · subst e
    by_cases hl : j < l.length
    · rw [List.getElem?_set_self hl] at h
      exact .inl ⟨rfl, (Option.some.inj h).symm⟩
    · rw [List.getElem?_eq_none (by simpa using Nat.le_of_not_lt hl)] at h
      cases h
  · rw [List.getElem?_set_ne (Ne.symm e)] at h
    exact .inr ⟨e, h⟩
/-- a slot gets shared data -/
theorem ER.set_sh {i : Nat} (I : ER K T F σ H env) (r : Rep K F H v d) : ER K T F (σ.set i (some v)) H (env.set i (.sh d)) where
  len := by rw [List.length_set, List.length_set]; exact I.len
  slots := fun j sl e => by
    rcases getSet e with ⟨rfl, rfl⟩ | ⟨hj, e⟩
    · have hl : j < env.length := by
        by_cases hl : j < env.length
        · exact hl
        · rw [List.getElem?_eq_none (by simpa using Nat.le_of_not_lt hl)] at e; cases e
      exact ⟨some v, List.getElem?_set_self (by rw [I.len]; exact hl), v, rfl, r⟩
    · obtain ⟨x, h1, h2⟩ := I.slots j sl e
      exact ⟨x, by rw [List.getElem?_set_ne (Ne.symm hj)]; exact h1, h2⟩
  nd := fun j k p hj hk => by
    obtain ⟨⟨dj, e1⟩, e2⟩ := hj
    obtain ⟨⟨dk, e3⟩, e4⟩ := hk
    rcases getSet e1 with ⟨_, z⟩ | ⟨n1, e1⟩
    · cases z
    · rcases getSet e3 with ⟨_, z⟩ | ⟨n2, e3⟩
      · cases z
      · rw [List.getElem?_set_ne (Ne.symm n1)] at e2
        rw [List.getElem?_set_ne (Ne.symm n2)] at e4
        exact I.nd j k p ⟨⟨dj, e1⟩, e2⟩ ⟨⟨dk, e3⟩, e4⟩
  nf := fun j p hj => by
    obtain ⟨⟨dj, e1⟩, e2⟩ := hj
    rcases getSet e1 with ⟨_, z⟩ | ⟨n1, e1⟩
    · cases z
    · rw [List.getElem?_set_ne (Ne.symm n1)] at e2
      exact I.nf j p ⟨⟨dj, e1⟩, e2⟩
  ftr := I.ftr
  tabs := I.tabs
theorem ER2.set_sh {i : Nat} (I : ER2 K T G ip F σ H env) (r : Rep K F H v d) (hi : i ∉ ip) : ER2 K T G ip F (σ.set i (some v)) H (env.set i (.sh d)) :=
  ⟨I.er.set_sh r, I.inc, I.new, I.keep, I.there, I.tape, fun j p ⟨⟨dj, e1⟩, e2⟩ => by
    rcases getSet e1 with ⟨_, z⟩ | ⟨n1, e1⟩
    · cases z
    · rw [List.getElem?_set_ne (Ne.symm n1)] at e2
      exact I.own j p ⟨⟨dj, e1⟩, e2⟩, I.io.mono fun j hj => List.getElem?_set_ne (fun e => hi (by rw [e]; exact hj))⟩
/-- a slot gets an object of its own, new -/
theorem ER.set_ow {i : Nat} (I : ER K T F σ H env) (o : OwnAt K F H a d) (nf : ¬ F a) (nn : ∀ j, ¬ OwnI σ env j a) : ER K T F (σ.set i (some (.ref a))) H (env.set i (.ow d)) where
  len := by rw [List.length_set, List.length_set]; exact I.len
  slots := fun j sl e => by
    rcases getSet e with ⟨rfl, rfl⟩ | ⟨hj, e⟩
    · have hl : j < env.length := by
        by_cases hl : j < env.length
        · exact hl
        · rw [List.getElem?_eq_none (by simpa using Nat.le_of_not_lt hl)] at e; cases e
      exact ⟨some (.ref a), List.getElem?_set_self (by rw [I.len]; exact hl), a, rfl, o⟩
    · obtain ⟨x, h1, h2⟩ := I.slots j sl e
      exact ⟨x, by rw [List.getElem?_set_ne (Ne.symm hj)]; exact h1, h2⟩
  nd := fun j k p hj hk => by
    obtain ⟨⟨dj, e1⟩, e2⟩ := hj
    obtain ⟨⟨dk, e3⟩, e4⟩ := hk
    rcases getSet e1 with ⟨rfl, _⟩ | ⟨n1, e1'⟩
    · rcases getSet e2 with ⟨_, z⟩ | ⟨n, _⟩
      · cases z
        rcases getSet e3 with ⟨rfl, _⟩ | ⟨n2, e3⟩
        · rfl
        · rw [List.getElem?_set_ne (Ne.symm n2)] at e4
          exact absurd ⟨⟨dk, e3⟩, e4⟩ (nn k)
      · exact absurd rfl n
    · rw [List.getElem?_set_ne (Ne.symm n1)] at e2
      rcases getSet e3 with ⟨rfl, _⟩ | ⟨n2, e3'⟩
      · rcases getSet e4 with ⟨_, z⟩ | ⟨n, _⟩
        · cases z
          exact absurd ⟨⟨dj, e1'⟩, e2⟩ (nn j)
        · exact absurd rfl n
      · rw [List.getElem?_set_ne (Ne.symm n2)] at e4
        exact I.nd j k p ⟨⟨dj, e1'⟩, e2⟩ ⟨⟨dk, e3'⟩, e4⟩
  nf := fun j p hj => by
    obtain ⟨⟨dj, e1⟩, e2⟩ := hj
    rcases getSet e1 with ⟨rfl, _⟩ | ⟨n1, e1⟩
    · rcases getSet e2 with ⟨_, z⟩ | ⟨n, _⟩
      · cases z; exact nf
      · exact absurd rfl n
    · rw [List.getElem?_set_ne (Ne.symm n1)] at e2
      exact I.nf j p ⟨⟨dj, e1⟩, e2⟩
  ftr := I.ftr
  tabs := I.tabs
theorem ER2.set_ow {i : Nat} (I : ER2 K T G ip F σ H env) (o : OwnAt K F H a d) (nf : ¬ F a) (nn : ∀ j, ¬ OwnI σ env j a) (h0 : ¬ Dat G.H0 a) (hi : i ∉ ip) : ER2 K T G ip F (σ.set i (some (.ref a))) H (env.set i (.ow d)) :=
  ⟨I.er.set_ow o nf nn, I.inc, I.new, I.keep, I.there, I.tape, fun j p ⟨⟨dj, e1⟩, e2⟩ => by
    rcases getSet e1 with ⟨rfl, _⟩ | ⟨n1, e1⟩
    · rcases getSet e2 with ⟨_, z⟩ | ⟨n, _⟩
      · cases z; exact .inl h0
      · exact absurd rfl n
    · rw [List.getElem?_set_ne (Ne.symm n1)] at e2
      exact I.own j p ⟨⟨dj, e1⟩, e2⟩, I.io.mono fun j hj => List.getElem?_set_ne (fun e => hi (by rw [e]; exact hj))⟩
/-- what is one's own is changed -/
theorem upd_rep {p : Addr} {o : HO} (nf : ¬ F p) (hm : ∀ u, H p = some u → (∀ xs, u ≠ .tup xs) ∧ (∀ ob w, u ≠ .frz ob w) ∧ ¬ TapeO u) : Grow F H F (upd H p o) :=
  ⟨fun _ h => h, fun b u hb e _ => by rw [upd_ne (fun z => nf (by rw [← z]; exact hb))]; exact e,
    fun b xs e => by rw [upd_ne (fun z => by subst z; exact (hm _ e).1 xs rfl)]; exact e,
    fun b ob w e => by rw [upd_ne (fun z => by subst z; exact (hm _ e).2.1 ob w rfl)]; exact e,
    fun b h => h.upd (fun z => by subst z; obtain ⟨c, cs, i, l, s, t, e, _⟩ := h; exact (hm _ e).2.2 (tapeO_kvs ..)) nf⟩
theorem OwnAt.kind {d : D} (o : OwnAt K F H a d) : ∀ u, H a = some u → (∀ xs, u ≠ .tup xs) ∧ (∀ ob w, u ≠ .frz ob w) ∧ ¬ TapeO u := fun u e => by
  cases d with
  | lst xs => obtain ⟨vs, h, _⟩ := o; rw [h] at e; cases e; exact ⟨fun _ z => (by cases z), fun _ _ z => (by cases z), (noTbl_lst _).2⟩
  | dic xs => obtain ⟨vs, h, n, _⟩ := o; rw [h] at e; cases e; exact ⟨fun _ z => (by cases z), fun _ _ z => (by cases z), n.2⟩
  | _ => exact o.elim
theorem OwnAt.notbl {d : D} (o : OwnAt K F H a d) : ∀ ps, H a ≠ some (.tbl ps) := fun ps e => by
  cases d with
  | lst xs => obtain ⟨vs, h, _⟩ := o; rw [h] at e; cases e
  | dic xs => obtain ⟨vs, h, _⟩ := o; rw [h] at e; cases e
  | _ => exact o.elim
/-- code objects are no data -/
theorem tabs_write {T : Tb} {p : Addr} {o : HO} {d : D} (t : LamX.Tabs T H) (ho : OwnAt K F H p d) : LamX.Tabs T (upd H p o) := fun q hq => by
  obtain ⟨ps, h1, h2, h3⟩ := t q hq
  refine ⟨ps, ?_, h2, fun pos cv hc => ?_⟩
  · rw [upd_ne (fun z => by rw [z] at h1; exact ho.notbl ps h1)]; exact h1
  · obtain ⟨c, e1, e2⟩ := h3 pos cv hc
    refine ⟨c, e1, ?_⟩
    rw [upd_ne (fun z => ?_)]
    · exact e2
    · subst z
      cases d with
      | lst xs => obtain ⟨vs, h, _⟩ := ho; rw [h] at e2; unfold LamX.CodeO at e2; cases e2
      | dic xs => obtain ⟨vs, h, _⟩ := ho; rw [h] at e2; unfold LamX.CodeO at e2; cases e2
      | _ => exact ho.elim
theorem OwnAt.grow {d : D} {b : Addr} (g : Grow F H F H') (hb : H' b = H b) (o : OwnAt K F H b d) : OwnAt K F H' b d := by
  cases d with
  | lst xs => obtain ⟨vs, h, r⟩ := o; exact ⟨vs, by rw [hb]; exact h, r.mono g⟩
  | dic xs => obtain ⟨vs, h, n, r⟩ := o; exact ⟨vs, by rw [hb]; exact h, n, r.mono g⟩
  | _ => exact o.elim
theorem ER2.write {i : Nat} {o : HO} {d d' : D} (I : ER2 K T G ip F σ H env) (he : env[i]? = some (.ow d)) (hs : σ[i]? = some (some (.ref a)))
    (ho' : OwnAt K F (upd H a o) a d') : ER2 K T G ip F σ (upd H a o) (env.set i (.ow d')) := by
  have hi : OwnI σ env i a := ⟨⟨d, he⟩, hs⟩
  obtain ⟨d0, e0, ho⟩ := I.er.own hi
  rw [he] at e0; cases e0
  have nf := I.er.nf i a hi
  have g : Grow F H F (upd H a o) := upd_rep nf ho.kind
  have hil : i < env.length := by
    by_cases hl : i < env.length
    · exact hl
    · rw [List.getElem?_eq_none (by simpa using Nat.le_of_not_lt hl)] at he; cases he
  have ow' : ∀ j p, OwnI σ (env.set i (.ow d')) j p → OwnI σ env j p := fun j p ⟨⟨dj, e1⟩, e2⟩ => by
    rcases getSet e1 with ⟨rfl, _⟩ | ⟨n1, e1⟩
    · exact ⟨⟨d, he⟩, e2⟩
    · exact ⟨⟨dj, e1⟩, e2⟩
  have datU : ∀ b, Dat H b → Dat (upd H a o) b := fun b h => by
    by_cases z : b = a
    · subst z; exact ho'.tr
    · obtain ⟨u, e, n⟩ := h; exact ⟨u, by rw [upd_ne z]; exact e, n⟩
  refine ⟨⟨by rw [List.length_set]; exact I.er.len, fun j sl e => ?_, fun j k p hj hk => I.er.nd j k p (ow' j p hj) (ow' k p hk), fun j p hj => I.er.nf j p (ow' j p hj), fun b hb => datU b (I.er.ftr b hb), tabs_write I.er.tabs ho⟩,
    I.inc, I.new, fun b u e n hb => ?_, fun b h => datU b (I.there b h), fun b h => g.tape b (I.tape b h), fun j p hj => I.own j p (ow' j p hj), I.io⟩
  · rcases getSet e with ⟨rfl, rfl⟩ | ⟨hj, e⟩
    · exact ⟨_, hs, a, rfl, ho'⟩
    · obtain ⟨x, h1, h2⟩ := I.er.slots j sl e
      refine ⟨x, h1, ?_⟩
      cases sl with
      | no => trivial
      | sh d => obtain ⟨v, e1, r⟩ := h2; exact ⟨v, e1, r.mono g⟩
      | ow dj =>
        obtain ⟨p, e1, r⟩ := h2
        refine ⟨p, e1, r.grow g (upd_ne fun z => ?_)⟩
        subst z
        exact hj (I.er.nd j i p ⟨⟨dj, e⟩, by rw [h1, e1]⟩ hi)
  · rw [upd_ne (fun z => ?_)]
    · exact I.keep b u e n hb
    · subst z
      rcases I.own i b hi with h | h
      · exact h ⟨u, e, n.1⟩
      · exact hb h
theorem ER2.write_grow {i : Nat} {o : HO} {d : D} (I : ER2 K T G ip F σ H env) (he : env[i]? = some (.ow d)) (hs : σ[i]? = some (some (.ref a))) : Grow F H F (upd H a o) := by
  have hi : OwnI σ env i a := ⟨⟨d, he⟩, hs⟩
  obtain ⟨d0, e0, ho⟩ := I.er.own hi
  exact upd_rep (I.er.nf i a hi) ho.kind
end

/-! ### the judgement of statements -/
@[irreducible] def wpS (X : Cx) (ss : List Stmt) : TS := fun D σ H => ∀ pins s, Inv X pins σ H s → wpAny (model X.prog X.w) X.A (execs ss X.env) (SP X pins D) X.xe s
theorem ps_wp {X : Cx} {ss : List Stmt} : PSs X ss (wpS X ss) := ⟨fun pins s _ _ _ I h => by unfold wpS at h; exact h pins s I⟩
theorem _root_.L2.PSs.wp {X : Cx} {ss : List Stmt} {t : TS} (h : PSs X ss t) {D : Ends} {σ : Sg} {H : Hp} (q : t D σ H) : wpS X ss D σ H := by unfold wpS; exact fun pins s I => h.run pins s σ H D I q
theorem wpS_cons {X : Cx} {st : Stmt} {ss : List Stmt} {t : TS} (h : PS X st t) {D : Ends} {σ : Sg} {H : Hp} (q : t { D with nx := wpS X ss D } σ H) : wpS X (st :: ss) D σ H := (pss_cons h ps_wp).wp q

def PostS {τ ρ : Type} (X : Cx) (T : Tb) (W : WX) (G : Gh) (ip : List Nat) (rm : Md) (inj : τ → List Sl) (injL : ρ → List Sl) (envX : List Sl) (F : Addr → Prop) (H : Hp) (m : O τ ρ) (D : Ends) : Prop :=
  match m with
  | .nx s => ∀ F' σ' H', ER2 X.K T G ip F' σ' H' (inj s) → Grow F H F' H' → D.nx σ' H'
  | .rt d us => ∀ F' v H', StpR T G F' H' → RepM X.K F' H' rm G.H0 v d → OwnsAt X.K F' H' G.A us → D.rt v H'
  | .bk s => ∀ F' σ' H', ER2 X.K T G ip F' σ' H' (injL s) → Grow F H F' H' → D.bk σ' H'
  | .ct s => ∀ F' σ' H', ER2 X.K T G ip F' σ' H' (injL s) → Grow F H F' H' → D.ct σ' H'
  | .xc c => ∀ F' C dd σ' H', ER2 X.K T G ip F' σ' H' (List.replicate σ'.length .no) → X.mg c = some (.ref C) → W (.ref C) dd σ' H'
  | .st => False
/-- statements from env come to m -/
def DS {τ ρ : Type} (X : Cx) (T : Tb) (W : WX) (ip : List Nat) (rm : Md) (inj : τ → List Sl) (injL : ρ → List Sl) (envX env : List Sl) (ss : List Stmt) (m : O τ ρ) : Prop :=
  ∀ G F σ H D, ER2 X.K T G ip F σ H env → PostS X T W G ip rm inj injL envX F H m D → wpS X ss D σ H

section
variable {X : Cx} {T : Tb} {W : WX} {ip : List Nat} {rm : Md} {τ ρ τ' : Type} {inj : τ → List Sl} {injL : ρ → List Sl} {envX env : List Sl} {G : Gh} {F F' : Addr → Prop} {σ : Sg} {H H' : Hp} {ss : List Stmt} {e : Expr} {me : R D} {md : Md} {pos : Pos}
theorem PostS.grow {m : O τ ρ} {D : Ends} (g : Grow F H F' H') (h : PostS X T W G ip rm inj injL envX F H m D) : PostS X T W G ip rm inj injL envX F' H' m D := by
  cases m with
  | nx s => exact fun F2 σ2 H2 I g2 => h F2 σ2 H2 I (g.trans g2)
  | rt d us => exact h
  | bk s => exact fun F2 σ2 H2 I g2 => h F2 σ2 H2 I (g.trans g2)
  | ct s => exact fun F2 σ2 H2 I g2 => h F2 σ2 H2 I (g.trans g2)
  | xc c => exact h
  | st => exact h
/-- an expression in a statement -/
theorem runS {Q1 : VK} {f : D → O τ ρ} {D : Ends} (he : DE md X T W env e me) (wx : True) (I : ER2 X.K T G ip F σ H env) (h : PostS X T W G ip rm inj injL envX F H (O.ofR me f) D)
    (k : ∀ d F' v H', Stp T F H F' H' → RepM X.K F' H' md H v d → ER2 X.K T G ip F' σ H' env → PostS X T W G ip rm inj injL envX F' H' (f d) D → Q1 v H') : wpE X e σ H Q1 := by
  refine he F σ H Q1 I.er ?_
  cases me with
  | ok d => exact fun F' v H' s r => k d F' v H' s r (I.stp s) (PostS.grow s.grow h)
  | ex c => exact fun F' C dd H' s hm => h F' C dd σ H' (I.stp s).nos hm
  | st => exact h
theorem runST {mt : R Bool} {Q1 : Bool → Hp → Prop} {f : Bool → O τ ρ} {D : Ends} (he : DT X T W env e mt) (wx : True) (I : ER2 X.K T G ip F σ H env) (h : PostS X T W G ip rm inj injL envX F H (O.ofR mt f) D)
    (k : ∀ b F' H', Stp T F H F' H' → ER2 X.K T G ip F' σ H' env → PostS X T W G ip rm inj injL envX F' H' (f b) D → Q1 b H') : wpT X e σ H Q1 := by
  refine he F σ H Q1 I.er ?_
  cases mt with
  | ok b => exact fun F' H' s => k b F' H' s (I.stp s) (PostS.grow s.grow h)
  | ex c => exact fun F' C dd H' s hm => h F' C dd σ H' (I.stp s).nos hm
  | st => exact h

theorem dss_nil {s : τ} (w : Wk env (inj s)) : DS X T W ip rm inj injL envX env [] (.nx s) := fun G F σ H D I h => pss_nil.wp (h F σ H (I.wk w) .refl)
/-- x = e, shared -/
theorem dss_set {i : Nat} {x : Str} {p' : Pos} {f : D → O τ ρ} (he : DE .S X T W env e me) (hr : ∀ d, DS X T W ip rm inj injL envX (env.set i (.sh d)) ss (f d)) (wx : True) (hN : X.N.Nodup) (hi : X.N[i]? = some x := by kernel_rfl)
    (hx : Loc X.env.scope x := by exact loc_of (by kernel_rfl)) (hip : i ∉ ip := by decide) (hs : swapsWith e (some (.Name x p')) pos.line X.env = pure false := by kernel_rfl) (hf : X.fn x = true ∨ X.env.scope.names.lookup x = some .local := by first | exact .inl rfl | exact .inr rfl) :
    DS X T W ip rm inj injL envX env (.Assign [.Name x p'] e pos :: ss) (O.ofR me f) := fun G F σ H D I h => by
  refine wpS_cons (ps_set (pos := pos) (pos' := p') hN hi hx pe_wp hs hf) ?_
  refine runS he wx I h fun d F1 v H1 s1 r I1 q1 => ?_
  exact hr d G F1 _ H1 D (I1.set_sh r hip) q1
/-- x = e, a new object of one's own -/
theorem dss_setO {i : Nat} {x : Str} {p' : Pos} {f : D → O τ ρ} (he : DE .O X T W env e me) (hr : ∀ d, DS X T W ip rm inj injL envX (env.set i (.ow d)) ss (f d)) (wx : True) (hN : X.N.Nodup) (hi : X.N[i]? = some x := by kernel_rfl)
    (hx : Loc X.env.scope x := by exact loc_of (by kernel_rfl)) (hip : i ∉ ip := by decide) (hs : swapsWith e (some (.Name x p')) pos.line X.env = pure false := by kernel_rfl) (hf : X.fn x = true ∨ X.env.scope.names.lookup x = some .local := by first | exact .inl rfl | exact .inr rfl) :
    DS X T W ip rm inj injL envX env (.Assign [.Name x p'] e pos :: ss) (O.ofR me f) := fun G F σ H D I h => by
  refine wpS_cons (ps_set (pos := pos) (pos' := p') hN hi hx pe_wp hs hf) ?_
  refine runS he wx I h fun d F1 v H1 s1 r I1 q1 => ?_
  obtain ⟨a, rfl, h0, nf, o⟩ := r
  refine hr d G F1 _ H1 D (I1.set_ow o nf (fun j hj => ?_) (I.back h0) hip) q1
  obtain ⟨d', _, o'⟩ := I.er.own hj
  exact h0 o'.tr
/-- a, b = x, y: both sides written, plain names -/
theorem dss_par {i j : Nat} {x y : Str} {a b : Expr} {mas : R (List D)} {px py pt : Pos} {kt k2 : Nat} {pt2 : Pos} {f : D → D → O τ ρ} (ha : DA X T W env [a, b] mas)
    (hr : ∀ c d, DS X T W ip rm inj injL envX ((env.set i (.sh c)).set j (.sh d)) ss (f c d)) (wx : True) (hc : X.calm = true) (hN : X.N.Nodup)
    (hi : X.N[i]? = some x := by kernel_rfl) (hj : X.N[j]? = some y := by kernel_rfl) (hij : i ≠ j := by decide) (hx : X.env.scope.names.lookup x = some .local := by kernel_rfl) (hy : X.env.scope.names.lookup y = some .local := by kernel_rfl) (hip : i ∉ ip := by decide) (hjp : j ∉ ip := by decide)
    (hw : swappedStores [.Tuple [.Name x px, .Name y py] kt pt] (.Tuple [a, b] k2 pt2) X.env = pure (some [x, y]) := by kernel_rfl)
    (hs : swapsWithSole [.Tuple [.Name x px, .Name y py] kt pt] (.Tuple [a, b] k2 pt2) pos.line X.env = pure false := by kernel_rfl) :
    DS X T W ip rm inj injL envX env (.Assign [.Tuple [.Name x px, .Name y py] kt pt] (.Tuple [a, b] k2 pt2) pos :: ss) (O.ofR mas fun ds => match ds with | [c, d] => f c d | _ => .st) := fun G F σ H D I h => by
  refine wpS_cons (ps_par (pos := pos) hc hN hi hj hij hx hy pa_wp hw hs) ?_
  refine ha.run F σ H _ I.er ?_
  have hlen := ha.len
  cases mas with
  | ok ds =>
    intro F' vs H' s r
    have hl := hlen ds rfl
    match ds, hl, r with
    | [c, d], _, .cons r1 (.cons r2 .nil) =>
      exact ⟨_, _, rfl, hr c d G F' _ H' D (((I.stp s).set_sh r1 hip).set_sh r2 hjp) (PostS.grow s.grow h)⟩
  | ex c => exact fun F' C dd H' s hm => h F' C dd σ H' (I.stp s).nos hm
  | st => exact h.elim
/-- if; what follows goes on with the branches' ends -/
theorem dss_if {c : Expr} {a b : List Stmt} {mt : R Bool} {inj1 : τ' → List Sl} {oa ob : O τ' ρ} {f : τ' → O τ ρ} (hc : DT X T W env c mt) (ha : DS X T W ip rm inj1 injL envX env a oa) (hb : DS X T W ip rm inj1 injL envX env b ob)
    (hr : ∀ s, DS X T W ip rm inj injL envX (inj1 s) ss (f s)) (wx : True) : DS X T W ip rm inj injL envX env (.If c a b pos :: ss) ((O.ofR mt fun k => if k = true then oa else ob).seq f) := fun G F σ H D I h => by
  refine wpS_cons (ps_if (pos := pos) pt_wp ps_wp ps_wp) ?_
  have h' : PostS X T W G ip rm inj1 injL envX F H (O.ofR mt fun k => if k = true then oa else ob) { D with nx := wpS X ss D } := by
    revert h
    cases (O.ofR mt fun k => if k = true then oa else ob) with
    | nx s => exact fun h F' σ' H' I' g => hr s G F' σ' H' D I' (PostS.grow g h)
    | rt d us => exact fun h => h
    | bk s => exact fun h => h
    | ct s => exact fun h => h
    | xc c => exact fun h => h
    | st => exact fun h => h
  refine runST hc wx I h' fun k F1 H1 s1 I1 q1 => ?_
  cases k with
  | true => exact ha G F1 σ H1 _ I1 q1
  | false => exact hb G F1 σ H1 _ I1 q1
/-- if without else whose suite does not go on: what follows stands once -/
theorem dss_pass (hr : ∀ (s : Unit), DS X T W ip rm inj injL envX env ss m) : DS X T W ip rm inj injL envX env (.Pass pos :: ss) m := fun G F σ H D I h => by
  refine wpS_cons (ps_pass (pos := pos)) ?_
  exact hr () G F σ H D I h
/-- return e -/
def ioUs (env : List Sl) (ip : List Nat) (us : List D) : Prop := us.length = ip.length ∧ ∀ (k : Nat) (i : Nat), ip[k]? = some i → ∃ d, env[i]? = some (.ow d) ∧ us[k]? = some d
theorem owns_of (I : ER X.K T F σ H env) : ∀ {ip : List Nat} {A : List Addr} {us : List D}, IoAt σ ip A → (us.length = ip.length ∧ ∀ (k : Nat) (i : Nat), ip[k]? = some i → ∃ d, env[i]? = some (.ow d) ∧ us[k]? = some d) → OwnsAt X.K F H A us
  | _, _, us, .nil, h => by
    have : us = [] := List.length_eq_zero_iff.mp h.1
    subst this
    exact .nil
  | i :: ip, a :: A, us, .cons e t, h => by
    match us, h with
    | [], h => exact absurd h.1 (by simp)
    | u :: us, h =>
      obtain ⟨d, e1, e2⟩ := h.2 0 i rfl
      have : d = u := by simpa using e2.symm
      subst this
      obtain ⟨b, e3, o⟩ := I.ow_at e1
      rw [e] at e3
      cases e3
      exact .cons o (owns_of I t ⟨by simpa using h.1, fun k j hj => by simpa using h.2 (k + 1) j (by simpa using hj)⟩)
theorem dss_ret {us : List D} (he : DE rm X T W env e me) (wx : True) (hu : ioUs env ip us) : DS X T W ip rm inj injL envX env (.Return (some e) pos :: ss) (O.ofR me fun d => .rt d us) := fun G F σ H D I h => by
  refine wpS_cons (ps_ret (pos := pos) pe_wp) ?_
  refine runS (f := fun d => .rt d us) he wx I h fun d F1 v H1 s1 r I1 q1 => ?_
  refine q1 F1 v H1 I1.stpR ?_ (owns_of (A := G.A) I1.er I1.io hu)
  cases rm with
  | S => exact r
  | B => exact r
  | O => obtain ⟨a, e, h0, nf, o⟩ := r; exact ⟨a, e, I.back h0, nf, o⟩
/-- return of a list (dict) of one's own, whole -/
theorem dss_retO {i : Nat} {x : Str} {p : Pos} {d : D} {us : List D} (hv : env[i]? = some (.ow d)) (hu : ioUs env ip us) (hip : i ∉ ip := by decide) (hN : X.N[i]? = some x := by kernel_rfl) (hvi : Vis X.env.scope x := by exact vis_of (by kernel_rfl))
    (hd : (x == ("__debug__" : Str)) = false := by kernel_rfl) (hcd : (x == ("__classdict__" : Str)) = false := by kernel_rfl)
    (hA : ∀ (k j : Nat), ip[k]? = some j → ∃ d, env[j]? = some (Sl.ow d)) : DS X T W ip .O inj injL envX env (.Return (some (.Name x p)) pos :: ss) (.rt d us) := fun G F σ H D I h => by
  refine wpS_cons (ps_ret (pos := pos) (pe_var (pos := p) hN hvi hd hcd)) ?_
  obtain ⟨a, e1, o⟩ := I.er.ow_at hv
  refine ⟨.ref a, e1, h F (.ref a) H I.stpR ⟨a, rfl, ?_, I.er.nf i a ⟨⟨d, hv⟩, e1⟩, o⟩ (owns_of I.er I.io hu)⟩
  rcases I.own i a ⟨⟨d, hv⟩, e1⟩ with h0 | h0
  · exact h0
  · exfalso
    have key : ∀ {ip : List Nat} {A : List Addr}, IoAt σ ip A → a ∈ A → ∃ (k j : Nat), ip[k]? = some j ∧ σ[j]? = some (some (V.ref a)) := by
      intro ip A t
      induction t with
      | nil => intro h; cases h
      | cons e t ih =>
        intro h
        rcases List.mem_cons.mp h with z | z
        · subst z; exact ⟨0, _, rfl, e⟩
        · obtain ⟨k, j, h1, h2⟩ := ih z
          exact ⟨k + 1, j, by simpa using h1, h2⟩
    obtain ⟨k, j, h1, h2⟩ := key I.io h0
    obtain ⟨dj, h3⟩ := hA k j h1
    have : i = j := I.er.nd i j a ⟨⟨d, hv⟩, e1⟩ ⟨⟨dj, h3⟩, h2⟩
    subst this
    exact hip (List.mem_of_getElem? h1)
theorem dss_retN {us : List D} (hu : ioUs env ip us) : DS X T W ip .S inj injL envX env (.Return none pos :: ss) (.rt .non us) := fun G F σ H D I h => by
  refine wpS_cons (ps_retN (pos := pos)) ?_
  exact h F .non H I.stpR .non (owns_of I.er I.io hu)
/-- an expression as a statement, its value dropped -/
theorem dss_expr {f : O τ ρ} (he : DE md X T W env e me) (hr : DS X T W ip rm inj injL envX env ss f) (wx : True) (hs : swapsWith e none pos.line X.env = pure false := by kernel_rfl) :
    DS X T W ip rm inj injL envX env (.Expr e pos :: ss) (O.ofR me fun _ => f) := fun G F σ H D I h => by
  refine wpS_cons (ps_expr (pos := pos) pe_wp hs) ?_
  exact runS (f := fun _ => f) he wx I h fun d F1 v H1 s1 r I1 q1 => hr G F1 σ H1 D I1 q1
/-- an own object is shared from now on -/
theorem ER2.freeze {i : Nat} {d : D} (I : ER2 X.K T G ip F σ H env) (hv : env[i]? = some (.ow d)) (hip : i ∉ ip) (hA : ∀ (k j : Nat), ip[k]? = some j → ∃ d, env[j]? = some (Sl.ow d)) : ∃ F', ER2 X.K T G ip F' σ H (env.set i (.sh d)) ∧ Grow F H F' H := by
  obtain ⟨a, e1, o⟩ := I.er.ow_at hv
  have hi : OwnI σ env i a := ⟨⟨d, hv⟩, e1⟩
  have hil : i < σ.length := (List.getElem?_eq_some_iff.mp e1).1
  have nA : ¬ Dat G.H0 a := by
    rcases I.own i a hi with h0 | h0
    · exact h0
    · exfalso
      have key : ∀ {ip : List Nat} {A : List Addr}, IoAt σ ip A → a ∈ A → ∃ (k j : Nat), ip[k]? = some j ∧ σ[j]? = some (some (V.ref a)) := by
        intro ip A t
        induction t with
        | nil => intro h; cases h
        | cons e t ih =>
          intro h
          rcases List.mem_cons.mp h with z | z
          · subst z; exact ⟨0, _, rfl, e⟩
          · obtain ⟨k, j, h1, h2⟩ := ih z
            exact ⟨k + 1, j, by simpa using h1, h2⟩
      obtain ⟨k, j, h1, h2⟩ := key I.io h0
      obtain ⟨dj, h3⟩ := hA k j h1
      have : i = j := I.er.nd i j a hi ⟨⟨dj, h3⟩, h2⟩
      subst this
      exact hip (List.mem_of_getElem? h1)
  have g : Grow F H (Fa F a) H := Grow.addF
  have ow' : ∀ j p, OwnI σ (env.set i (.sh d)) j p → OwnI σ env j p ∧ j ≠ i := fun j p ⟨⟨dj, e1⟩, e2⟩ => by
    rcases getSet e1 with ⟨_, z⟩ | ⟨n1, e1⟩
    · cases z
    · exact ⟨⟨⟨dj, e1⟩, e2⟩, n1⟩
  refine ⟨Fa F a, ⟨⟨by rw [List.length_set]; exact I.er.len, fun j sl e => ?_, fun j k p hj hk => I.er.nd j k p (ow' j p hj).1 (ow' k p hk).1, fun j p hj z => ?_, fun b hb => ?_, I.er.tabs⟩,
    fun b hb => .inl (I.inc b hb), fun b hb => ?_, I.keep, I.there, fun b h => g.tape b (I.tape b h), fun j p hj => I.own j p (ow' j p hj).1, I.io⟩, g⟩
  · rcases getSet e with ⟨rfl, rfl⟩ | ⟨hj, e⟩
    · exact ⟨_, e1, .ref a, rfl, o.topAt.addF.rep (.inr rfl)⟩
    · obtain ⟨x, h1, h2⟩ := I.er.slots j sl e
      refine ⟨x, h1, ?_⟩
      cases sl with
      | no => trivial
      | sh d => obtain ⟨v, e1, r⟩ := h2; exact ⟨v, e1, r.mono g⟩
      | ow dj =>
        obtain ⟨p, e1, r⟩ := h2
        refine ⟨p, e1, ?_⟩
        cases dj with
        | lst xs => obtain ⟨vs, h, r⟩ := r; exact ⟨vs, h, r.mono g⟩
        | dic xs => obtain ⟨vs, h, n, r⟩ := r; exact ⟨vs, h, n, r.mono g⟩
        | _ => exact r.elim
  · obtain ⟨h1, h2⟩ := ow' j p hj
    rcases z with z | z
    · exact I.er.nf j p h1 z
    · subst z
      exact h2 (I.er.nd j i p h1 hi)
  · rcases hb with hb | hb
    · exact I.er.ftr b hb
    · rw [hb]; exact o.tr
  · rcases hb with hb | hb
    · exact I.new b hb
    · rw [hb]; exact .inr nA
theorem dss_freeze {i : Nat} {d : D} {m : O τ ρ} (hv : env[i]? = some (.ow d)) (hr : DS X T W ip rm inj injL envX (env.set i (.sh d)) ss m) (hip : i ∉ ip := by decide) (hA : ∀ (k j : Nat), ip[k]? = some j → ∃ d, env[j]? = some (Sl.ow d)) : DS X T W ip rm inj injL envX env ss m := fun G F σ H D I h => by
  obtain ⟨F', I', g⟩ := I.freeze hv hip hA
  exact hr G F' σ H D I' (PostS.grow g h)
end
end DL

-- DL5
set_option Elab.async false
set_option linter.all false
set_option maxRecDepth 100000
set_option maxHeartbeats 4000000
/-! The data layer: calls of defs, raise, targets, loops. -/
namespace DL
open PySem PySem.Spec PyProof.Rows L2

/-! ### a def's promise -/
def spD (K : PySem.W.Frag) (T : Tb) (mg : Str → Option Value) (md : Md) (n : Nat) (M : List D → R D) : Sp := fun vs H Q E => vs.length = n ∧ ∃ (F : Addr → Prop) (ds : List D), (∀ a, F a → Dat H a) ∧ LamX.Tabs T H ∧ Reps K F H vs ds ∧
  match M ds with
  | .ok d => ∀ F' v H', Stp T F H F' H' → RepM K F' H' md H v d → Q v H'
  | .ex c => ∀ F' C dd H', Stp T F H F' H' → mg c = some (.ref C) → E (.ref C) dd H'
  | .st => False
structure FnD (P : Program) (w : World) (K : PySem.W.Frag) (mg : Str → Option Value) (base : Heap) (T : Tb) (k : Nat) (x : Str) (n : Nat) (md : Md) (M : List D → R D) : Prop where
  ex : ∃ (f : Addr) (fd : FuncData) (ps : List Str), mg x = some (.ref f) ∧ PySem.W.keepIn K (.ref f) = true ∧ Binds K fd ps [] ∧ FnOk P w K mg base (L2.CX P w) k f fd ps (spD K T mg md n M)
theorem FnD.mono {P : Program} {w : World} {K : PySem.W.Frag} {mg : Str → Option Value} {base : Heap} {T : Tb} {j k : Nat} {x : Str} {n : Nat} {md : Md} {M : List D → R D} (h : FnD P w K mg base T j x n md M) (hk : j ≤ k) : FnD P w K mg base T k x n md M := by
  obtain ⟨f, fd, ps, h1, h2, h3, h4⟩ := h.ex
  exact ⟨f, fd, ps, h1, h2, h3, h4.mono hk⟩
section
variable {X : Cx} {T : Tb} {W : WX} {ip : List Nat} {rm : Md} {τ ρ τ' : Type} {inj : τ → List Sl} {injL : ρ → List Sl} {envX env : List Sl} {G : Gh} {F F' : Addr → Prop} {σ : Sg} {H H' : Hp} {ss : List Stmt} {e : Expr} {es : List Expr} {me : R D} {mas : R (List D)} {md : Md} {pos : Pos}
/-- f(e, ..), f a def of the text -/
theorem de_call {k j n : Nat} {x : Str} {p : Pos} {M : List D → R D} (Fn : FnD X.prog X.w X.K X.mg X.base T k x n md M) (hr : Room j X.A) (tk : Takes X W) (ha : DA X T W env (e :: es) mas) (hk : k ≤ j := by decide) (hn : (e :: es).length = n := by kernel_rfl) (hg : Gl X x := by exact gl_of (by kernel_rfl))
    (hdb : (x == ("__debug__" : Str)) = false := by kernel_rfl) (he : starEach (e :: es) X.env = (false, eval e X.env) :: starEach es X.env := by kernel_rfl) (hpl : (backTo pos (starEach es X.env)).any (·.1) = false := by kernel_rfl) :
    DE md X T W env (.Call (.Name x p) (e :: es) [] pos) (mas.bind M) := fun F σ H Q I q => by
  obtain ⟨f, fd, ps, h1, h2, h3, h4⟩ := Fn.ex
  refine (pe_callS (pos := pos) (p := p) h4 (hr.mono hk) hg h1 h2 h3 (fun σ => passAt tk σ) pa_wp hdb he hpl).wp ?_
  have hlen := ha.len
  refine ha.run F σ H _ I ?_
  cases mas with
  | ok ds =>
    intro F1 vs H1 s1 r
    refine ⟨by rw [r.length, hlen ds rfl]; exact hn, F1, ds, s1.ftr I.ftr, s1.tabs I.tabs, r, ?_⟩
    have q1 := PostE.stp s1 q
    revert q1
    show PostE X T W F1 σ H1 md (M ds) Q → _
    cases M ds with
    | ok d => exact fun q1 => q1
    | ex c => exact fun q1 => q1
    | st => exact fun q1 => q1
  | ex c => exact q
  | st => exact q.elim
/-- raise X('..') -/
theorem dss_raise {c : Str} {C : Addr} {m : Str} {j : Nat} {p p2 p3 : Pos} {bmB : List Value} {B newId initId : String} (tk : Takes X W) (wx : True) (hc : X.calm = true) (Fb : ExcBaseFacts B newId initId bmB) (q : PySem.W.excIn X.K C bmB newId = true) (gC : X.mg c = some (.ref C)) (kC : PySem.W.keepIn X.K (.ref C) = true)
    (r : Raises X (.ref C)) (hg : Gl X c := by exact gl_of (by kernel_rfl)) (hdb : (c == ("__debug__" : Str)) = false := by kernel_rfl) :
    DS X T W ip rm inj injL envX env (.Raise (some (.Call (.Name c p) [.Constant (.str m) j p2] [] p3)) none pos :: ss) (.xc c) := fun G F σ H D I h =>
  wpS_cons (ps_raise (pos := pos) hc tk (pmk_own (p := p) (p2 := p2) (pos := p3) Fb q gC kC r hg hdb)) (h F C none σ H I.nos gC)
theorem dss_break {s : ρ} (w : Wk env (injL s)) : DS X T W ip rm inj injL envX env (.Break pos :: ss) (.bk s) := fun G F σ H D I h => wpS_cons (ps_break (pos := pos)) (h F σ H (I.wk w) .refl)
theorem dss_continue {s : ρ} (w : Wk env (injL s)) : DS X T W ip rm inj injL envX env (.Continue pos :: ss) (.ct s) := fun G F σ H D I h => wpS_cons (ps_continue (pos := pos)) (h F σ H (I.wk w) .refl)
end

/-! ### targets -/
inductive Pat where
  | nm (i : Nat) | tp (ps : List Pat)
mutual
def Pat.bind : Pat → D → List Sl → Option (List Sl)
  | .nm i, d, env => some (env.set i (.sh d))
  | .tp ps, .tup ds, env => Pat.binds ps ds env
  | .tp _, _, _ => none
def Pat.binds : List Pat → List D → List Sl → Option (List Sl)
  | [], [], env => some env
  | p :: ps, d :: ds, env => (Pat.bind p d env).bind (Pat.binds ps ds)
  | _, _, _ => none
end
mutual
def Pat.ixs : Pat → List Nat
  | .nm i => [i]
  | .tp ps => Pat.ixss ps
def Pat.ixss : List Pat → List Nat
  | [] => []
  | p :: ps => Pat.ixs p ++ Pat.ixss ps
end
section
variable (K : PySem.W.Frag) (F : Addr → Prop) (H : Hp)
mutual
/-- d is stored at the pattern's slots -/
def Pat.Upd : Pat → D → Sg → Sg → Prop
  | .nm i, d, σ, σ' => ∃ v, Rep K F H v d ∧ σ' = σ.set i (some v)
  | .tp ps, .tup ds, σ, σ' => Pat.Upds ps ds σ σ'
  | .tp _, _, _, _ => False
def Pat.Upds : List Pat → List D → Sg → Sg → Prop
  | [], [], σ, σ' => σ' = σ
  | p :: ps, d :: ds, σ, σ' => ∃ σ1, Pat.Upd p d σ σ1 ∧ Pat.Upds ps ds σ1 σ'
  | _, _, _, _ => False
end
end
section
variable {K : PySem.W.Frag} {T : Tb} {G : Gh} {ip : List Nat} {F : Addr → Prop} {H : Hp}
mutual
theorem Pat.er : ∀ {p : Pat} {d : D} {σ σ' : Sg} {env env' : List Sl}, Pat.Upd K F H p d σ σ' → p.bind d env = some env' → ER K T F σ H env → ER K T F σ' H env'
  | .nm i, d, σ, σ', env, env', ⟨v, r, e⟩, h, I => by cases h; subst e; exact I.set_sh r
  | .tp ps, .tup ds, σ, σ', env, env', u, h, I => Pat.ers (ps := ps) (ds := ds) u h I
  | .tp ps, .non, _, _, _, _, u, h, I => u.elim
  | .tp ps, .bl _, _, _, _, _, u, h, I => u.elim
  | .tp ps, .int _, _, _, _, _, u, h, I => u.elim
  | .tp ps, .str _, _, _, _, _, u, h, I => u.elim
  | .tp ps, .lst _, _, _, _, _, u, h, I => u.elim
  | .tp ps, .dic _, _, _, _, _, u, h, I => u.elim
  | .tp ps, .ins _ _, _, _, _, _, u, h, I => u.elim
  | .tp ps, .tape, _, _, _, _, u, h, I => u.elim
theorem Pat.ers : ∀ {ps : List Pat} {ds : List D} {σ σ' : Sg} {env env' : List Sl}, Pat.Upds K F H ps ds σ σ' → Pat.binds ps ds env = some env' → ER K T F σ H env → ER K T F σ' H env'
  | [], [], σ, σ', env, env', u, h, I => by cases h; have u' : σ' = σ := u; subst u'; exact I
  | p :: ps, d :: ds, σ, σ', env, env', ⟨σ1, u1, u2⟩, h, I => by
    have h' : (p.bind d env).bind (Pat.binds ps ds) = some env' := h
    cases e : p.bind d env with
    | none => rw [e] at h'; cases h'
    | some env1 =>
      rw [e] at h'
      exact Pat.ers u2 h' (Pat.er u1 e I)
  | [], _ :: _, _, _, _, _, u, _, _ => u.elim
  | _ :: _, [], _, _, _, _, u, _, _ => u.elim
end
mutual
theorem Pat.er2 : ∀ {p : Pat} {d : D} {σ σ' : Sg} {env env' : List Sl}, Pat.Upd K F H p d σ σ' → p.bind d env = some env' → (∀ i ∈ p.ixs, i ∉ ip) → ER2 K T G ip F σ H env → ER2 K T G ip F σ' H env'
  | .nm i, d, σ, σ', env, env', ⟨v, r, e⟩, h, hp, I => by cases h; subst e; exact I.set_sh r (hp i (List.mem_singleton.mpr rfl))
  | .tp ps, .tup ds, σ, σ', env, env', u, h, hp, I => Pat.er2s (ps := ps) (ds := ds) u h hp I
  | .tp ps, .non, _, _, _, _, u, h, _, I => u.elim
  | .tp ps, .bl _, _, _, _, _, u, h, _, I => u.elim
  | .tp ps, .int _, _, _, _, _, u, h, _, I => u.elim
  | .tp ps, .str _, _, _, _, _, u, h, _, I => u.elim
  | .tp ps, .lst _, _, _, _, _, u, h, _, I => u.elim
  | .tp ps, .dic _, _, _, _, _, u, h, _, I => u.elim
  | .tp ps, .ins _ _, _, _, _, _, u, h, _, I => u.elim
  | .tp ps, .tape, _, _, _, _, u, h, _, I => u.elim
theorem Pat.er2s : ∀ {ps : List Pat} {ds : List D} {σ σ' : Sg} {env env' : List Sl}, Pat.Upds K F H ps ds σ σ' → Pat.binds ps ds env = some env' → (∀ i ∈ Pat.ixss ps, i ∉ ip) → ER2 K T G ip F σ H env → ER2 K T G ip F σ' H env'
  | [], [], σ, σ', env, env', u, h, _, I => by cases h; have u' : σ' = σ := u; subst u'; exact I
  | p :: ps, d :: ds, σ, σ', env, env', ⟨σ1, u1, u2⟩, h, hp, I => by
    have h' : (p.bind d env).bind (Pat.binds ps ds) = some env' := h
    cases e : p.bind d env with
    | none => rw [e] at h'; cases h'
    | some env1 =>
      rw [e] at h'
      exact Pat.er2s u2 h' (fun i hi => hp i (List.mem_append_right _ hi)) (Pat.er2 u1 e (fun i hi => hp i (List.mem_append_left _ hi)) I)
  | [], _ :: _, _, _, _, _, u, _, _, _ => u.elim
  | _ :: _, [], _, _, _, _, u, _, _, _ => u.elim
end
theorem wipe_set {σ : Sg} {i : Nat} {x : Option V} : ∀ {vs : List Nat}, i ∈ vs → wipe (σ.set i x) vs = wipe σ vs
  | v :: vs, h => by
    show (wipe (σ.set i x) vs).set v none = (wipe σ vs).set v none
    by_cases hi : i ∈ vs
    · rw [wipe_set hi]
    · have e : i = v := (List.mem_cons.mp h).resolve_right hi
      subst e
      have key : ∀ {vs : List Nat}, i ∉ vs → wipe (σ.set i x) vs = (wipe σ vs).set i x := by
        intro vs
        induction vs with
        | nil => intro _; rfl
        | cons w vs ih =>
          intro hw
          show (wipe (σ.set i x) vs).set w none = ((wipe σ vs).set w none).set i x
          rw [ih (fun z => hw (List.mem_cons_of_mem _ z)), List.set_comm _ _ (fun z => hw (by rw [z]; exact List.mem_cons_self))]
      rw [key hi, List.set_set]
mutual
theorem Pat.wipe : ∀ {p : Pat} {d : D} {σ σ' : Sg} {vs : List Nat}, Pat.Upd K F H p d σ σ' → (∀ i ∈ p.ixs, i ∈ vs) → L2.wipe σ' vs = L2.wipe σ vs
  | .nm i, d, σ, σ', vs, ⟨v, r, e⟩, hp => by subst e; exact wipe_set (hp i (List.mem_singleton.mpr rfl))
  | .tp ps, .tup ds, σ, σ', vs, u, hp => Pat.wipes (ps := ps) (ds := ds) u hp
  | .tp ps, .non, _, _, _, u, _ => u.elim
  | .tp ps, .bl _, _, _, _, u, _ => u.elim
  | .tp ps, .int _, _, _, _, u, _ => u.elim
  | .tp ps, .str _, _, _, _, u, _ => u.elim
  | .tp ps, .lst _, _, _, _, u, _ => u.elim
  | .tp ps, .dic _, _, _, _, u, _ => u.elim
  | .tp ps, .ins _ _, _, _, _, u, _ => u.elim
  | .tp ps, .tape, _, _, _, u, _ => u.elim
theorem Pat.wipes : ∀ {ps : List Pat} {ds : List D} {σ σ' : Sg} {vs : List Nat}, Pat.Upds K F H ps ds σ σ' → (∀ i ∈ Pat.ixss ps, i ∈ vs) → L2.wipe σ' vs = L2.wipe σ vs
  | [], [], σ, σ', vs, u, _ => by have u' : σ' = σ := u; subst u'; rfl
  | p :: ps, d :: ds, σ, σ', vs, ⟨σ1, u1, u2⟩, hp => (Pat.wipes u2 fun i hi => hp i (List.mem_append_right _ hi)).trans (Pat.wipe u1 fun i hi => hp i (List.mem_append_left _ hi))
  | [], _ :: _, _, _, _, u, _ => u.elim
  | _ :: _, [], _, _, _, u, _ => u.elim
end
end
mutual
theorem Pat.dec : ∀ (p : Pat) (d : D) (e1 e2 : List Sl), p.bind d e1 = none → p.bind d e2 = none
  | .nm i, d, e1, e2, h => by cases h
  | .tp ps, .tup ds, e1, e2, h => Pat.decs ps ds e1 e2 h
  | .tp ps, .non, e1, e2, h => rfl
  | .tp ps, .bl _, e1, e2, h => rfl
  | .tp ps, .int _, e1, e2, h => rfl
  | .tp ps, .str _, e1, e2, h => rfl
  | .tp ps, .lst _, e1, e2, h => rfl
  | .tp ps, .dic _, e1, e2, h => rfl
  | .tp ps, .ins _ _, e1, e2, h => rfl
  | .tp ps, .tape, e1, e2, h => rfl
theorem Pat.decs : ∀ (ps : List Pat) (ds : List D) (e1 e2 : List Sl), Pat.binds ps ds e1 = none → Pat.binds ps ds e2 = none
  | [], [], e1, e2, h => by cases h
  | [], _ :: _, e1, e2, h => rfl
  | _ :: _, [], e1, e2, h => rfl
  | p :: ps, d :: ds, e1, e2, h => by
    have h' : (p.bind d e1).bind (Pat.binds ps ds) = none := h
    show (p.bind d e2).bind (Pat.binds ps ds) = none
    cases a : p.bind d e1 with
    | none => rw [Pat.dec p d e1 e2 a]; rfl
    | some e3 =>
      rw [a] at h'
      cases b : p.bind d e2 with
      | none => rfl
      | some e4 => exact Pat.decs ps ds e3 e4 h'
end
@[irreducible] def wpG (X : Cx) (tg : Expr) : TG := fun v σ H Q => ∀ pins s u, Inv X pins σ H s → RelV v u → wpAny (model X.prog X.w) X.A (assign tg X.env u) (fun _ s' => ∃ σ' H', Inv X pins σ' H' s' ∧ Q σ' H') X.xe s
@[irreducible] def wpGs (X : Cx) (ts : List Expr) : TGs := fun vs σ H Q => ∀ pins s us, Inv X pins σ H s → Vals vs us → wpAny (model X.prog X.w) X.A (assignInOrder ((assignEach ts X.env).map (·.2)) us) (fun _ s' => ∃ σ' H', Inv X pins σ' H' s' ∧ Q σ' H') X.xe s
theorem pg_wp {X : Cx} {tg : Expr} : PG X tg (wpG X tg) := ⟨fun pins s σ H v u Q I r h => by unfold wpG at h; exact h pins s u I r⟩
theorem pgs_wp {X : Cx} {ts : List Expr} : PGs X ts (wpGs X ts) := ⟨fun pins s σ H vs us Q I r h => by unfold wpGs at h; exact h pins s us I r⟩
/-- the target tg is the pattern p -/
def GT (X : Cx) (tg : Expr) (p : Pat) : Prop := ∀ F H v d σ Q, Rep X.K F H v d → (∀ env, p.bind d env ≠ none) → (∀ σ', Pat.Upd X.K F H p d σ σ' → Q σ' H) → wpG X tg v σ H Q
def GTs (X : Cx) (ts : List Expr) (ps : List Pat) : Prop := ts.length = ps.length ∧ ∀ F H vs ds σ Q, Reps X.K F H vs ds → (∀ env, Pat.binds ps ds env ≠ none) → (∀ σ', Pat.Upds X.K F H ps ds σ σ' → Q σ' H) → wpGs X ts vs σ H Q
section
variable {X : Cx} {pos : Pos}
theorem gt_nm {i : Nat} {x : Str} (hN : X.N.Nodup) (hi : X.N[i]? = some x := by kernel_rfl) (hx : Loc X.env.scope x := by exact loc_of (by kernel_rfl)) (hf : X.fn x = true ∨ X.env.scope.names.lookup x = some .local := by first | exact .inl rfl | exact .inr rfl) : GT X (.Name x pos) (.nm i) :=
  fun F H v d σ Q r _ q => by
  unfold wpG
  exact fun pins s u I ru => (pg_name (pos := pos) hN hi hx hf).run pins s σ H v u Q I ru (q _ ⟨v, r, rfl⟩)
theorem gts_nil : GTs X [] [] := ⟨rfl, fun F H vs ds σ Q r hb q => by
  unfold wpGs
  intro pins s us I rv
  cases r with
  | nil => exact pgs_nil.run pins s σ H [] us Q I rv ⟨rfl, q σ rfl⟩
  | cons r t => exact absurd rfl (hb [])⟩
theorem binds_len : ∀ {ps : List Pat} {ds : List D} {env : List Sl}, Pat.binds ps ds env ≠ none → ps.length = ds.length
  | [], [], _, _ => rfl
  | p :: ps, d :: ds, env, h => by
    have h' : (p.bind d env).bind (Pat.binds ps ds) ≠ none := h
    cases e : p.bind d env with
    | none => rw [e] at h'; exact absurd rfl h'
    | some env1 => rw [e] at h'; rw [List.length_cons, List.length_cons, binds_len h']
  | [], _ :: _, _, h => absurd rfl h
  | _ :: _, [], _, h => absurd rfl h
theorem gts_cons {e : Expr} {es : List Expr} {p : Pat} {ps : List Pat} (h1 : GT X e p) (h2 : GTs X es ps) (hs : (assignEach (e :: es) X.env).map (·.2) = assign e X.env :: (assignEach es X.env).map (·.2) := by kernel_rfl) : GTs X (e :: es) (p :: ps) := by
  refine ⟨by rw [List.length_cons, List.length_cons, h2.1], fun F H vs ds σ Q r hb q => ?_⟩
  unfold wpGs
  intro pins s us I rv
  cases r with
  | nil => exact absurd rfl (hb [])
  | cons r t =>
    refine (pgs_cons pg_wp pgs_wp hs).run pins s σ H _ us Q I rv ⟨_, _, rfl, ?_⟩
    refine h1 F H _ _ σ _ r (fun env z => hb env (show (Pat.bind _ _ _).bind _ = none by rw [z]; rfl)) fun σ1 u1 => ?_
    refine h2.2 F H _ _ σ1 _ t (fun env z => ?_) fun σ2 u2 => q σ2 ⟨σ1, u1, u2⟩
    refine hb env ?_
    show (Pat.bind _ _ _).bind _ = none
    cases a : Pat.bind p _ env with
    | none => rfl
    | some e3 => exact Pat.decs ps _ env e3 z
theorem gt_tup {es : List Expr} {k : Nat} {ps : List Pat} (h : GTs X es ps) (hc : X.calm = true) (hst : (assignEach es X.env).findIdx? (·.1) = none := by kernel_rfl) (hl : (assignEach es X.env).length = es.length := by kernel_rfl) : GT X (.Tuple es k pos) (.tp ps) := by
  intro F H v d σ Q r hb q
  unfold wpG
  intro pins s u I ru
  cases r <;> try exact absurd rfl (hb [])
  rename_i a vs xs hq hr
  refine (pg_tup (pos := pos) (k := k) (n := es.length) hc pgs_wp hl hst).run pins s σ H _ u Q I ru ⟨a, vs, rfl, hq, ?_, ?_⟩
  · rw [hr.length, ← binds_len (hb []), h.1]
  · exact h.2 F H vs xs σ Q hr hb q
end

/-! ### what is walked -/
/-- J walks over the data ds; md S: whatever grows; else: as long as nothing that stood changes -/
structure WalkD (md : Md) (K : PySem.W.Frag) (T : Tb) (F : Addr → Prop) (H : Hp) (J : It) (ds : List D) : Prop where
  ex : ∃ Gd : (Addr → Prop) → Hp → Prop, 
    (∀ F' H', (md = .S → Grow F H F' H') → (md ≠ .S → Stp T F H F' H') → Gd F' H') ∧
    (∀ i F H, i < ds.length → Gd F H → J.go i H) ∧ (∀ F H, Gd F H → J.stop ds.length H) ∧
    (∀ i F H x H', i < ds.length → Gd F H → J.yld i H x H' → ∃ d, ds[i]? = some d ∧ ∃ F', Stp T F H F' H' ∧ Rep K F' H' x d)
@[irreducible] def wpI (X : Cx) (tg iter : Expr) : TI := fun σ H R => ∀ pins s, Inv X pins σ H s → wpAny (model X.prog X.w) X.A (eval iter X.env) (fun v s1 => wpAny (model X.prog X.w) X.A (pyIter v) (PIE X pins σ tg R) X.xe s1) X.xe s
theorem pi_wp {X : Cx} {tg iter : Expr} : PI X tg iter (wpI X tg iter) := ⟨fun pins s _ _ _ I h => by unfold wpI at h; exact h pins s I⟩
theorem _root_.L2.PI.wp {X : Cx} {tg iter : Expr} {wi : TI} (h : PI X tg iter wi) {σ : Sg} {H : Hp} {R : It → Hp → Prop} (q : wi σ H R) : wpI X tg iter σ H R := by unfold wpI; exact fun pins s I => h.run pins s σ H R I q
def PostI (md : Md) (X : Cx) (T : Tb) (W : WX) (F : Addr → Prop) (σ : Sg) (H : Hp) (m : R (List D)) (R : It → Hp → Prop) : Prop :=
  match m with
  | .ok ds => ∀ F' H' J, Stp T F H F' H' → WalkD md X.K T F' H' J ds → ds.length ≤ sizeLine → R J H'
  | .ex c => PostX X T W F σ H c
  | .st => False
def DI (md : Md) (X : Cx) (T : Tb) (W : WX) (env : List Sl) (tg iter : Expr) (m : R (List D)) : Prop :=
  ∀ F σ H (R : It → Hp → Prop), ER X.K T F σ H env → PostI md X T W F σ H m R → wpI X tg iter σ H R
section
variable {X : Cx} {T : Tb} {W : WX} {ip : List Nat} {rm : Md} {τ ρ τ' : Type} {inj : τ → List Sl} {injL : ρ → List Sl} {envX env : List Sl} {G : Gh} {F F' : Addr → Prop} {σ : Sg} {H H' : Hp} {ss : List Stmt} {e a b c tg : Expr} {es : List Expr} {me ma mb mc : R D} {mas : R (List D)} {md : Md} {pos p : Pos}
/-- a list, a tuple, a text -/
def iterD : D → Option (List D)
  | .lst xs => some xs
  | .tup xs => some xs
  | .str s => if s.length ≤ sizeLine then some (s.map fun c => .str [c]) else none
  | _ => none
theorem pi_any {l : Expr} {tl : TE} (hl : PE X l tl) : PI X tg l (fun σ H R => tl σ H fun x H1 => (∃ a, x = .ref a ∧ ∃ xs, SqL X.K H1 a xs ∧ (xs.length ≤ sizeLine → R (Itl X.K a) H1)) ∨ (∃ a, x = .ref a ∧ ∃ xs, SqT X.K H1 a xs ∧ (xs.length ≤ sizeLine → R (Itt X.K a) H1)) ∨ ∃ z, x = .str z ∧ R (Its z) H1) := by
  refine ⟨fun pins s σ H R I h => ?_⟩
  refine thn (hl.run pins s σ H _ I h) fun v s1 ⟨x, H1, I1, r1, q1⟩ => ?_
  rcases q1 with ⟨a, e, xs, hq, q⟩ | ⟨a, e, xs, hq, q⟩ | ⟨z, e, q⟩
  · subst e
    cases r1
    obtain ⟨its, rv, p, hz⟩ := I1.list hq
    refine wpAny_pyIter_list p.isList ?_
    refine ⟨s1.heap.objs.size, [s1.heap.objs.size], _, _, H1, rfl, I1.kept (t' := s1.toks) fun b o e => Heap.get?_push_of_some _ e, turn_list a _, ⟨_, Heap.get?_push_size _ rfl, rfl, rfl⟩, fun b hb => ?_, q hz⟩
    have e : b = s1.heap.objs.size := by simpa using hb
    subst e
    exact I1.fpOk (Nat.le_refl _) (I1.hok.fresh (Nat.le_refl _))
  · subst e
    cases r1
    obtain ⟨its, rv, p, hz⟩ := I1.tuple hq
    refine wpAny_pyIter_tuple (show s1.heap.IsTuple a its.toArray from p) ?_
    refine ⟨s1.heap.objs.size, [s1.heap.objs.size], _, _, H1, rfl, I1.kept (t' := s1.toks) fun b o e => Heap.get?_push_of_some _ e, turn_tuple a _, ⟨_, Heap.get?_push_size _ rfl, rfl, rfl⟩, fun b hb => ?_, q hz⟩
    have e : b = s1.heap.objs.size := by simpa using hb
    subst e
    exact I1.fpOk (Nat.le_refl _) (I1.hok.fresh (Nat.le_refl _))
  · subst e
    obtain ⟨t, rfl⟩ := r1
    cases ha : z.cps.all (· < 128)
    · exact wpAny_pyIter_wide ha (pi_one (tk := s1.toks) I1 _ (turn_str _ z t "str_iterator" (.inr rfl)) ⟨_, Heap.get?_push_size _ rfl, rfl, rfl⟩ q)
    · exact wpAny_pyIter_ascii ha (pi_one (tk := s1.toks) I1 _ (turn_str _ z t "str_ascii_iterator" (.inl rfl)) ⟨_, Heap.get?_push_size _ rfl, rfl, rfl⟩ q)
theorem walkD_lst {a : Addr} {vs : List V} {xs : List D} (hF : md = .S → F a) (h : Rd H a (.lst vs)) (r : Reps X.K F H vs xs) : WalkD md X.K T F H (Itl X.K a) xs := by
  refine ⟨fun F H => Rd H a (.lst vs) ∧ Reps X.K F H vs xs, fun F' H' k1 k2 => ?_, fun i F H hi ⟨g2, g3⟩ => ?_, fun F H ⟨g2, g3⟩ => ⟨vs, .inl g2, by rw [g3.length]; exact Nat.le_refl _⟩, fun i F H x H' hi ⟨g2, g3⟩ y => ?_⟩
  · by_cases e : md = .S
    · have k := k1 e
      exact ⟨k.rdF (hF e) (noTbl_lst _) h, r.mono k⟩
    · have k := k2 e
      exact ⟨k.rd (noTbl_lst _) h, r.mono k.grow⟩
  · have : i < vs.length := by rw [g3.length]; exact hi
    exact ⟨vs, vs[i], .inl g2, by simp [this]⟩
  · obtain ⟨rfl, h2⟩ := y
    obtain ⟨d, h3, h4⟩ := g3.getV (h2 vs (.inl g2))
    exact ⟨d, h3, F, .refl, h4⟩
theorem walkD_tup {a : Addr} {vs : List V} {xs : List D} (h : SqT X.K H a vs) (r : Reps X.K F H vs xs) : WalkD md X.K T F H (Itt X.K a) xs := by
  refine ⟨fun F H => SqT X.K H a vs ∧ Reps X.K F H vs xs, fun F' H' k1 k2 => ?_, fun i F H hi ⟨g2, g3⟩ => ?_, fun F H ⟨g2, g3⟩ => ⟨vs, g2, by rw [g3.length]; exact Nat.le_refl _⟩, fun i F H x H' hi ⟨g2, g3⟩ y => ?_⟩
  · by_cases e : md = .S
    · have k := k1 e
      exact ⟨k.sqT h, r.mono k⟩
    · have k := (k2 e).grow
      exact ⟨k.sqT h, r.mono k⟩
  · have : i < vs.length := by rw [g3.length]; exact hi
    exact ⟨vs, vs[i], g2, by simp [this]⟩
  · obtain ⟨rfl, h2⟩ := y
    obtain ⟨d, h3, h4⟩ := g3.getV (h2 vs g2)
    exact ⟨d, h3, F, .refl, h4⟩
theorem walkD_str {s : List Nat} (ho : Okc s) : WalkD md X.K T F H (Its (SS s)) (s.map fun c => .str [c]) := by
  refine ⟨fun F H => True, fun _ _ _ _ => trivial, fun i F H hi _ => ?_, fun F H _ => ?_, fun i F H x H' hi _ y => ?_⟩
  · show i < (SS s).cps.size
    rw [List.length_map] at hi
    simpa [SS] using hi
  · show (SS s).cps.size ≤ _
    rw [List.length_map]
    simp [SS]
  · obtain ⟨rfl, c, hc, rfl⟩ := y
    have hc' : s[i]? = some c := by simpa [SS] using hc
    refine ⟨.str [c], by rw [List.getElem?_map, hc']; rfl, F, .refl, .str [c] fun z hz => ?_⟩
    rw [List.mem_singleton.mp hz]
    exact ho c (List.mem_of_getElem? hc')
/-- an iterable's data with its mode -/
theorem di_any (ha : DE md X T W env e me) (hm : md = .S ∨ md = .B) : DI md X T W env tg e (me.bind fun x => R.lift (iterD x)) := fun F σ H Rr I q => by
  refine (pi_any pe_wp).wp ?_
  refine ha F σ H _ I ?_
  cases me with
  | ex c => exact q
  | st => exact q.elim
  | ok d =>
    intro F1 v H1 s1 r
    have q1 : PostI md X T W F σ H (R.lift (iterD d)) Rr := q
    have top : Top X.K F1 H1 v d := RepM.toB r
    cases d <;> try exact q1.elim
    · rename_i z
      obtain ⟨e1, o1⟩ := top_str top
      by_cases hl : z.length ≤ sizeLine
      · rw [show iterD (.str z) = some (z.map fun c => D.str [c]) from if_pos hl] at q1
        exact .inr (.inr ⟨_, e1, q1 F1 H1 _ s1 (walkD_str o1) (by rw [List.length_map]; exact hl)⟩)
      · rw [show iterD (.str z) = none from if_neg hl] at q1
        exact q1.elim
    · obtain ⟨a, vs, e1, h1, r1⟩ := top_tup top
      exact .inr (.inl ⟨a, e1, vs, h1, fun hz => q1 F1 H1 _ s1 (walkD_tup h1 r1) (by rw [← r1.length]; exact hz)⟩)
    · rename_i xs
      rcases hm with e | e
      · subst e
        have r' : Rep X.K F1 H1 v (.lst xs) := r
        cases r' with
        | lst hF h hs => exact .inl ⟨_, rfl, _, .inl h, fun hz => q1 F1 H1 _ s1 (walkD_lst (fun _ => hF) h hs) (by rw [← hs.length]; exact hz)⟩
      · subst e
        obtain ⟨a, vs, e1, h1, r1⟩ := top_lst top
        exact .inl ⟨a, e1, vs, .inl h1, fun hz => q1 F1 H1 _ s1 (walkD_lst (fun z => nomatch z) h1 r1) (by rw [← r1.length]; exact hz)⟩
/-- ranges -/
def rangeL (lo : Int) (n : Nat) (c : Int) : List D := (List.range n).map fun (k : Nat) => .int (lo + (k : Int) * c)
def int62 (i : Int) : Prop := -(2 ^ 62) ≤ i ∧ i < 2 ^ 62
noncomputable def rng1 : D → Option (List D)
  | .int j => if chk (int62 j ∧ j.toNat ≤ sizeLine) then some (rangeL 0 j.toNat 1) else none
  | _ => none
noncomputable def rng2 : D → D → Option (List D)
  | .int i, .int j => if chk ((int62 i ∧ int62 j) ∧ (j - i).toNat ≤ sizeLine) then some (rangeL i (j - i).toNat 1) else none
  | _, _ => none
noncomputable def rng3 : D → D → D → Option (List D)
  | .int i, .int j, .int c => if chk (∃ n : Nat, RgC i j c n ∧ n ≤ sizeLine) then some (rangeL i (Builtin.Range.rangeSize i j c).toNat c) else none
  | _, _, _ => none
theorem rangeL_len (lo c : Int) (n : Nat) : (rangeL lo n c).length = n := by simp [rangeL]
theorem walkD_rng {lo : Int} {n : Nat} : WalkD md X.K T F H (Itr lo n) (rangeL lo n 1) := by
  have hl : (rangeL lo n 1).length = n := by simp [rangeL]
  refine ⟨fun F H => True, fun _ _ _ _ => trivial, fun i F H hi _ => by rw [hl] at hi; exact hi, fun F H _ => by rw [hl]; exact Nat.le_refl n, fun i F H x H' hi _ y => ?_⟩
  obtain ⟨rfl, rfl⟩ := y
  rw [hl] at hi
  refine ⟨.int (lo + i), ?_, F, .refl, .int _⟩
  simp [rangeL, hi]
theorem walkD_rngC {lo c : Int} {n : Nat} : WalkD md X.K T F H (Itc lo c n) (rangeL lo n c) := by
  have hl : (rangeL lo n c).length = n := by simp [rangeL]
  refine ⟨fun F H => True, fun _ _ _ _ => trivial, fun i F H hi _ => by rw [hl] at hi; exact hi, fun F H _ => by rw [hl]; exact Nat.le_refl n, fun i F H x H' hi _ y => ?_⟩
  obtain ⟨rfl, rfl⟩ := y
  rw [hl] at hi
  refine ⟨.int (lo + (i : Nat) * c), ?_, F, .refl, .int _⟩
  simp [rangeL, hi]
theorem di_r1 (ha : DE .S X T W env a ma) (hm : X.mg "range" = none) (hg : Gl X "range" := by exact gl_of (by kernel_rfl)) (hs : starEach [a] X.env = [(false, eval a X.env)] := by kernel_rfl) : DI md X T W env tg (.Call (.Name "range" p) [a] [] pos) (ma.bind fun x => R.lift (rng1 x)) := fun F σ H Rr I q => by
  refine (pi_range1 (p := p) (pos := pos) hg hm (pa_cons pe_wp pa_nil (by rw [hs]; rfl)) hs).wp ?_
  refine ha F σ H _ I ?_
  cases ma with
  | ex c => exact q
  | st => exact q.elim
  | ok d =>
    intro F1 v H1 s1 r
    have q1 : PostI md X T W F σ H (R.lift (rng1 d)) Rr := q
    cases d <;> try exact q1.elim
    rename_i j
    cases r
    by_cases hj : int62 j ∧ j.toNat ≤ sizeLine
    · rw [show rng1 (.int j) = some (rangeL 0 j.toNat 1) from if_pos (chk_of hj)] at q1
      exact ⟨j, rfl, hj.1.1, hj.1.2, q1 F1 H1 _ s1 walkD_rng (by rw [rangeL_len]; exact hj.2)⟩
    · rw [show rng1 (.int j) = none from if_neg (fun z => hj (chk_true.mp z))] at q1
      exact q1.elim
theorem di_r2 (ha : DE .S X T W env a ma) (hb : DE .S X T W env b mb) (hm : X.mg "range" = none) (hg : Gl X "range" := by exact gl_of (by kernel_rfl)) (hs : starEach [a, b] X.env = [(false, eval a X.env), (false, eval b X.env)] := by kernel_rfl) (hs2 : starEach [b] X.env = [(false, eval b X.env)] := by kernel_rfl) :
    DI md X T W env tg (.Call (.Name "range" p) [a, b] [] pos) (ma.bind fun x => mb.bind fun y => R.lift (rng2 x y)) := fun F σ H Rr I q => by
  refine (pi_range2 (p := p) (pos := pos) hg hm (pa_cons pe_wp (pa_cons pe_wp pa_nil (by rw [hs2]; rfl)) (by rw [hs, hs2])) hs hs2).wp ?_
  refine ha F σ H _ I ?_
  cases ma with
  | ex c => exact q
  | st => exact q.elim
  | ok d =>
    intro F1 v H1 s1 r
    refine hb F1 σ H1 _ (I.stp s1) ?_
    cases mb with
    | ex c => exact PostX.stp s1 q
    | st => exact q.elim
    | ok d2 =>
      intro F2 v2 H2 s2 r2
      have q1 : PostI md X T W F σ H (R.lift (rng2 d d2)) Rr := q
      cases d <;> try exact q1.elim
      rename_i i
      cases d2 <;> try exact q1.elim
      rename_i j
      cases r
      cases r2
      by_cases hj : (int62 i ∧ int62 j) ∧ (j - i).toNat ≤ sizeLine
      · rw [show rng2 (.int i) (.int j) = some (rangeL i (j - i).toNat 1) from if_pos (chk_of hj)] at q1
        exact ⟨i, j, rfl, ⟨hj.1.1.1, hj.1.1.2, hj.1.2.1, hj.1.2.2⟩, q1 F2 H2 _ (s1.trans s2) walkD_rng (by rw [rangeL_len]; exact hj.2)⟩
      · rw [show rng2 (.int i) (.int j) = none from if_neg (fun z => hj (chk_true.mp z))] at q1
        exact q1.elim
theorem di_r3 (ha : DE .S X T W env a ma) (hb : DE .S X T W env b mb) (hc : DE .S X T W env c mc) (hm : X.mg "range" = none) (hg : Gl X "range" := by exact gl_of (by kernel_rfl)) (hs : starEach [a, b, c] X.env = (false, eval a X.env) :: starEach [b, c] X.env := by kernel_rfl)
    (hs2 : starEach [b, c] X.env = (false, eval b X.env) :: starEach [c] X.env := by kernel_rfl) (hs3 : starEach [c] X.env = (false, eval c X.env) :: starEach [] X.env := by kernel_rfl) (hpl : (backTo pos (starEach [b, c] X.env)).any (·.1) = false := by kernel_rfl) :
    DI md X T W env tg (.Call (.Name "range" p) [a, b, c] [] pos) (ma.bind fun x => mb.bind fun y => mc.bind fun z => R.lift (rng3 x y z)) := fun F σ H Rr I q => by
  refine (pi_range3 (p := p) (pos := pos) hg hm (pa_cons pe_wp (pa_cons pe_wp (pa_cons pe_wp pa_nil hs3) hs2) hs) hs hpl).wp ?_
  refine ha F σ H _ I ?_
  cases ma with
  | ex c => exact q
  | st => exact q.elim
  | ok d =>
    intro F1 v H1 s1 r
    refine hb F1 σ H1 _ (I.stp s1) ?_
    cases mb with
    | ex c => exact PostX.stp s1 q
    | st => exact q.elim
    | ok d2 =>
      intro F2 v2 H2 s2 r2
      refine hc F2 σ H2 _ ((I.stp s1).stp s2) ?_
      cases mc with
      | ex c => exact PostX.stp s2 (PostX.stp s1 q)
      | st => exact q.elim
      | ok d3 =>
        intro F3 v3 H3 s3 r3
        have q1 : PostI md X T W F σ H (R.lift (rng3 d d2 d3)) Rr := q
        cases d <;> try exact q1.elim
        rename_i i
        cases d2 <;> try exact q1.elim
        rename_i j
        cases d3 <;> try exact q1.elim
        rename_i k
        cases r
        cases r2
        cases r3
        by_cases hj : ∃ n : Nat, RgC i j k n ∧ n ≤ sizeLine
        · rw [show rng3 (.int i) (.int j) (.int k) = some (rangeL i (Builtin.Range.rangeSize i j k).toNat k) from if_pos (chk_of hj)] at q1
          obtain ⟨n, hn, hz⟩ := hj
          have en : (Builtin.Range.rangeSize i j k).toNat = n := by rw [hn.2.2.2, Int.toNat_natCast]
          rw [en] at q1
          exact ⟨i, j, k, n, rfl, hn, q1 F3 H3 _ ((s1.trans s2).trans s3) walkD_rngC (by rw [rangeL_len]; exact hz)⟩
        · rw [show rng3 (.int i) (.int j) (.int k) = none from if_neg (fun z => hj (chk_true.mp z))] at q1
          exact q1.elim

/-! ### loops -/
def forO {σ ρ : Type} : List D → σ → (D → σ → O σ σ) → O σ ρ
  | [], s, _ => .nx s
  | d :: ds, s, f => match f d s with
    | .nx s' => forO ds s' f
    | .ct s' => forO ds s' f
    | .bk s' => .nx s'
    | .rt d us => .rt d us
    | .xc c => .xc c
    | .st => .st
def whileO {σ ρ : Type} : Nat → σ → (σ → R Bool) → (σ → O σ σ) → O σ ρ
  | 0, _, _, _ => .st
  | n + 1, s, c, f => O.ofR (c s) fun k => if k = true then (match f s with
    | .nx s' => whileO n s' c f
    | .ct s' => whileO n s' c f
    | .bk s' => .nx s'
    | .rt d us => .rt d us
    | .xc c => .xc c
    | .st => .st) else .nx s
/-- statements behind a target's stores -/
def DSo {τ ρ : Type} (X : Cx) (T : Tb) (W : WX) (ip : List Nat) (rm : Md) (inj : τ → List Sl) (injL : ρ → List Sl) (envX : List Sl) (oe : Option (List Sl)) (ss : List Stmt) (m : O τ ρ) : Prop :=
  match oe with
  | some env => DS X T W ip rm inj injL envX env ss m
  | none => m = .st
theorem pat_dec {p : Pat} {d : D} {env : List Sl} (h : p.bind d env ≠ none) (env' : List Sl) : p.bind d env' ≠ none := fun z => h (Pat.dec p d env' env z)
theorem dss_for {tg iter : Expr} {body : List Stmt} {mi : R (List D)} {pt : Pat} {τb : Type} {injb : τb → List Sl} {s0 : τb} {ob : D → τb → O τb τb} {f : τb → O τ ρ} (hi : DI .S X T W env tg iter mi) (hg : GT X tg pt)
    (hb : ∀ d s, DSo X T W ip rm injb injb envX (pt.bind d (injb s)) body (ob d s)) (hr : ∀ s, DS X T W ip rm inj injL envX (injb s) ss (f s)) (w0 : Wk env (injb s0)) (wx : True) (hp : PassesOwn (model X.prog X.w) X.A X.env X.xe) (hc : X.calm = true)
    (hip : ∀ i ∈ pt.ixs, i ∉ ip := by decide) (hs : ∀ x, foldedSetIterable iter X.env x = pure x := by intro _; kernel_rfl) :
    DS X T W ip rm inj injL envX env (.For tg iter body [] pos :: ss) ((O.ofR mi fun ds => forO ds s0 ob).seq f) := fun G F σ H D I h => by
  refine wpS_cons (ps_for (pos := pos) hp hc pi_wp pg_wp ps_wp hs) ?_
  refine hi F σ H _ I.er ?_
  cases mi with
  | ex c => exact fun F' C dd H' s hm => h F' C dd σ H' (I.stp s).nos hm
  | st => exact h.elim
  | ok ds =>
    intro F1 H1 J s1 ⟨Gd, gst, ggo, gstop, gyld⟩ _
    have h1 : PostS X T W G ip rm inj injL envX F1 H1 ((forO ds s0 ob : O τb ρ).seq f) D := PostS.grow s1.grow h
    refine ⟨fun i m σ' H' => ∃ F' s, m = ds.length - i ∧ i ≤ ds.length ∧ ER2 X.K T G ip F' σ' H' (injb s) ∧ Grow F1 H1 F' H' ∧ PostS X T W G ip rm inj injL envX F' H' ((forO (ds.drop i) s ob : O τb ρ).seq f) D, ⟨_, F1, s0, rfl, Nat.zero_le _, (I.stp s1).wk w0, .refl, by rw [List.drop_zero]; exact h1⟩, ?_⟩
    rintro i m σ2 H2 ⟨F2, s, rfl, hil, I2, w2, h2⟩
    have g2 : Gd F2 H2 := gst F2 H2 (fun _ => w2) (fun z => absurd rfl z)
    by_cases hlt : i < ds.length
    · refine .inr ⟨ggo i F2 H2 hlt g2, fun σ' H' => ∃ F' s, ER2 X.K T G ip F' σ' H' (injb s) ∧ Grow F1 H1 F' H' ∧ PostS X T W G ip rm inj injL envX F' H' ((forO (ds.drop (i + 1)) s ob : O τb ρ).seq f) D, fun σ' H' ⟨F', s, a, b, c⟩ => ⟨ds.length - (i + 1), by omega, F', s, rfl, hlt, a, b, c⟩, fun x H3 hy => ?_⟩
      obtain ⟨d, hd, F3, s3, r3⟩ := gyld i F2 H2 x H3 hlt g2 hy
      have I3 := I2.stp s3
      have w3 := w2.trans s3.grow
      have h3 := PostS.grow s3.grow h2
      have ed : ds.drop i = d :: ds.drop (i + 1) := by
        rw [List.drop_eq_getElem_cons hlt]
        have := (List.getElem?_eq_some_iff.mp hd).2
        rw [this]
      rw [ed] at h3
      have hbd := hb d s
      cases eb : pt.bind d (injb s) with
      | none =>
        rw [eb] at hbd
        have z : ob d s = .st := hbd
        have h4 : PostS X T W G ip rm inj injL envX F3 H3 ((match ob d s with | .nx s' => forO (ds.drop (i + 1)) s' ob | .ct s' => forO (ds.drop (i + 1)) s' ob | .bk s' => .nx s' | .rt d us => .rt d us | .xc c => .xc c | .st => .st : O τb ρ).seq f) D := h3
        rw [z] at h4
        exact h4.elim
      | some env3 =>
        rw [eb] at hbd
        have hbd : DS X T W ip rm injb injb envX env3 body (ob d s) := hbd
        refine hg F3 H3 x d σ2 _ r3 (fun env' => pat_dec (by rw [eb]; simp) env') fun σ4 u4 => ?_
        have I4 := Pat.er2 u4 eb hip I3
        refine hbd G F3 σ4 H3 _ I4 ?_
        have h4 : PostS X T W G ip rm inj injL envX F3 H3 ((match ob d s with | .nx s' => forO (ds.drop (i + 1)) s' ob | .ct s' => forO (ds.drop (i + 1)) s' ob | .bk s' => .nx s' | .rt d us => .rt d us | .xc c => .xc c | .st => .st : O τb ρ).seq f) D := h3
        revert h4
        cases ob d s with
        | nx s' => exact fun h4 F5 σ5 H5 I5 g5 => ⟨F5, s', I5, w3.trans g5, PostS.grow g5 h4⟩
        | ct s' => exact fun h4 F5 σ5 H5 I5 g5 => ⟨F5, s', I5, w3.trans g5, PostS.grow g5 h4⟩
        | bk s' => exact fun h4 F5 σ5 H5 I5 g5 => hr s' G F5 σ5 H5 D I5 (PostS.grow g5 h4)
        | rt d us => exact fun h4 => h4
        | xc c => exact fun h4 => h4
        | st => exact fun h4 => h4
    · have e : i = ds.length := by omega
      subst e
      refine .inl ⟨gstop F2 H2 g2, ?_⟩
      rw [List.drop_length] at h2
      exact hr s G F2 σ2 H2 D I2 h2
theorem dss_while {c : Expr} {body : List Stmt} {τb : Type} {injb : τb → List Sl} {s0 : τb} {n : Nat} {mc : τb → R Bool} {ob : τb → O τb τb} {f : τb → O τ ρ} (hcn : ∀ s, DT X T W (injb s) c (mc s))
    (hb : ∀ s, DS X T W ip rm injb injb envX (injb s) body (ob s)) (hr : ∀ s, DS X T W ip rm inj injL envX (injb s) ss (f s)) (w0 : Wk env (injb s0)) (wx : True) (hp : PassesOwn (model X.prog X.w) X.A X.env X.xe) :
    DS X T W ip rm inj injL envX env (.While c body [] pos :: ss) ((whileO n s0 mc ob : O τb ρ).seq f) := fun G F σ H D I h => by
  refine wpS_cons (ps_while (pos := pos) hp pt_wp ps_wp) ?_
  refine ⟨fun m σ' H' => ∃ F' s, ER2 X.K T G ip F' σ' H' (injb s) ∧ PostS X T W G ip rm inj injL envX F' H' ((whileO m s mc ob : O τb ρ).seq f) D, ⟨n, F, s0, I.wk w0, h⟩, ?_⟩
  rintro m σ1 H1 ⟨F1, s, I1, h1⟩
  cases m with
  | zero => exact h1.elim
  | succ m =>
    have h2 : PostS X T W G ip rm inj injL envX F1 H1 ((O.ofR (mc s) fun k => if k = true then (match ob s with | .nx s' => whileO m s' mc ob | .ct s' => whileO m s' mc ob | .bk s' => .nx s' | .rt d us => .rt d us | .xc c => .xc c | .st => .st) else .nx s : O τb ρ).seq f) D := h1
    refine hcn s F1 σ1 H1 _ I1.er ?_
    revert h2
    cases mc s with
    | ex c => exact fun h2 F' C dd H' st hm => h2 F' C dd σ1 H' (I1.stp st).nos hm
    | st => exact fun h2 => h2
    | ok k =>
      intro h2 F2 H2 s2
      have I2 := I1.stp s2
      have h2 := PostS.grow s2.grow h2
      cases k with
      | false =>
        rw [if_neg Bool.false_ne_true]
        exact hr s G F2 σ1 H2 D I2 h2
      | true =>
        rw [if_pos rfl]
        refine ⟨fun σ' H' => ∃ F' s, ER2 X.K T G ip F' σ' H' (injb s) ∧ PostS X T W G ip rm inj injL envX F' H' ((whileO m s mc ob : O τb ρ).seq f) D, fun σ' H' ⟨F', s, a, b⟩ => ⟨m, Nat.lt_succ_self m, F', s, a, b⟩, ?_⟩
        refine hb s G F2 σ1 H2 _ I2 ?_
        have h4 : PostS X T W G ip rm inj injL envX F2 H2 ((match ob s with | .nx s' => whileO m s' mc ob | .ct s' => whileO m s' mc ob | .bk s' => .nx s' | .rt d us => .rt d us | .xc c => .xc c | .st => .st : O τb ρ).seq f) D := h2
        revert h4
        cases ob s with
        | nx s' => exact fun h4 F5 σ5 H5 I5 g5 => ⟨F5, s', I5, PostS.grow g5 h4⟩
        | ct s' => exact fun h4 F5 σ5 H5 I5 g5 => ⟨F5, s', I5, PostS.grow g5 h4⟩
        | bk s' => exact fun h4 F5 σ5 H5 I5 g5 => hr s' G F5 σ5 H5 D I5 (PostS.grow g5 h4)
        | rt d us => exact fun h4 => h4
        | xc c => exact fun h4 => h4
        | st => exact fun h4 => h4
/-! targets as they stand -/
def tup2 {α : Type} (z : α) (d : D) (k : D → D → α) : α := match d with | .tup [a, b] => k a b | _ => z
def tup3 {α : Type} (z : α) (d : D) (k : D → D → D → α) : α := match d with | .tup [a, b, c] => k a b c | _ => z
def tup4 {α : Type} (z : α) (d : D) (k : D → D → D → D → α) : α := match d with | .tup [a, b, c, e] => k a b c e | _ => z
@[simp] theorem tup2_tup {α : Type} (z : α) (a b : D) (k : D → D → α) : tup2 z (.tup [a, b]) k = k a b := rfl
@[simp] theorem tup3_tup {α : Type} (z : α) (a b c : D) (k : D → D → D → α) : tup3 z (.tup [a, b, c]) k = k a b c := rfl
@[simp] theorem tup4_tup {α : Type} (z : α) (a b c e : D) (k : D → D → D → D → α) : tup4 z (.tup [a, b, c, e]) k = k a b c e := rfl
theorem dso_nm {i : Nat} {d : D} {m : O τ ρ} (h : DS X T W ip rm inj injL envX (env.set i (.sh d)) ss m) : DSo X T W ip rm inj injL envX ((Pat.nm i).bind d env) ss m := h
theorem dso_2 {p q : Pat} {d : D} {m : D → D → O τ ρ} (h : ∀ a b, DSo X T W ip rm inj injL envX ((p.bind a env).bind (q.bind b)) ss (m a b)) : DSo X T W ip rm inj injL envX ((Pat.tp [p, q]).bind d env) ss (tup2 .st d m) := by
  have key : ∀ a b, Pat.binds [p, q] [a, b] env = (p.bind a env).bind (q.bind b) := fun a b => by
    show (p.bind a env).bind (fun e => (q.bind b e).bind (Pat.binds [] [])) = _
    cases p.bind a env with
    | none => rfl
    | some e => show (q.bind b e).bind (Pat.binds [] []) = q.bind b e; cases q.bind b e <;> rfl
  have nn : ∀ xs, (∀ a b, xs ≠ [a, b]) → Pat.binds [p, q] xs env = none := fun xs hx => by
    cases e : Pat.binds [p, q] xs env with
    | none => rfl
    | some z =>
      have := binds_len (by rw [e]; simp)
      match xs, this with
      | [a, b], _ => exact absurd rfl (hx a b)
  cases d with
  | tup xs =>
    match xs with
    | [a, b] => show DSo _ _ _ _ _ _ _ _ (Pat.binds [p, q] [a, b] env) _ _; rw [key]; exact h a b
    | [] => exact rfl
    | [a] => show DSo _ _ _ _ _ _ _ _ (Pat.binds [p, q] [a] env) _ _; rw [nn _ (by intros; simp)]; exact rfl
    | a :: b :: c :: r => show DSo _ _ _ _ _ _ _ _ (Pat.binds [p, q] (a :: b :: c :: r) env) _ _; rw [nn _ (by intros; simp)]; exact rfl
  | _ => exact rfl
theorem dso_3 {p q t : Pat} {d : D} {m : D → D → D → O τ ρ} (h : ∀ a b c, DSo X T W ip rm inj injL envX (((p.bind a env).bind (q.bind b)).bind (t.bind c)) ss (m a b c)) : DSo X T W ip rm inj injL envX ((Pat.tp [p, q, t]).bind d env) ss (tup3 .st d m) := by
  have key : ∀ a b c, Pat.binds [p, q, t] [a, b, c] env = ((p.bind a env).bind (q.bind b)).bind (t.bind c) := fun a b c => by
    show (p.bind a env).bind (fun e => (q.bind b e).bind (fun e => (t.bind c e).bind (Pat.binds [] []))) = _
    cases p.bind a env with
    | none => rfl
    | some e =>
      show (q.bind b e).bind (fun e => (t.bind c e).bind (Pat.binds [] [])) = (q.bind b e).bind (t.bind c)
      cases q.bind b e with
      | none => rfl
      | some e => show (t.bind c e).bind (Pat.binds [] []) = t.bind c e; cases t.bind c e <;> rfl
  have nn : ∀ xs, (∀ a b c, xs ≠ [a, b, c]) → Pat.binds [p, q, t] xs env = none := fun xs hx => by
    cases e : Pat.binds [p, q, t] xs env with
    | none => rfl
    | some z =>
      have := binds_len (by rw [e]; simp)
      match xs, this with
      | [a, b, c], _ => exact absurd rfl (hx a b c)
  cases d with
  | tup xs =>
    match xs with
    | [a, b, c] => show DSo _ _ _ _ _ _ _ _ (Pat.binds [p, q, t] [a, b, c] env) _ _; rw [key]; exact h a b c
    | [] => exact rfl
    | [a] => show DSo _ _ _ _ _ _ _ _ (Pat.binds [p, q, t] [a] env) _ _; rw [nn _ (by intros; simp)]; exact rfl
    | [a, b] => show DSo _ _ _ _ _ _ _ _ (Pat.binds [p, q, t] [a, b] env) _ _; rw [nn _ (by intros; simp)]; exact rfl
    | a :: b :: c :: e :: r => show DSo _ _ _ _ _ _ _ _ (Pat.binds [p, q, t] (a :: b :: c :: e :: r) env) _ _; rw [nn _ (by intros; simp)]; exact rfl
  | _ => exact rfl
/-- a, b = e -/
theorem dss_asgP {tg : Expr} {pt : Pat} {f : D → O τ ρ} (he : DE .S X T W env e me) (hg : GT X tg pt) (hr : ∀ d, DSo X T W ip rm inj injL envX (pt.bind d env) ss (f d)) (wx : True) (hip : ∀ i ∈ pt.ixs, i ∉ ip := by decide)
    (hs : swapsWithSole [tg] e pos.line X.env = pure false := by kernel_rfl) (hw : swappedStores [tg] e X.env = pure none := by kernel_rfl) (h1 : (assignEach [tg] X.env).map (·.2) = [assign tg X.env] := by kernel_rfl) :
    DS X T W ip rm inj injL envX env (.Assign [tg] e pos :: ss) (O.ofR me f) := fun G F σ H D I h => by
  refine wpS_cons (ps_asg (pos := pos) pe_wp pg_wp hs hw h1) ?_
  refine runS he wx I h fun d F1 v H1 s1 r I1 q1 => ?_
  have hd := hr d
  cases eb : pt.bind d env with
  | none =>
    rw [eb] at hd
    have z : f d = .st := hd
    rw [z] at q1
    exact q1.elim
  | some env3 =>
    rw [eb] at hd
    refine hg F1 H1 v d σ _ r (fun env' => pat_dec (by rw [eb]; simp) env') fun σ4 u4 => ?_
    exact hd G F1 σ4 H1 D (Pat.er2 u4 eb hip I1) q1
/-- name op= e -/
theorem dss_aug {i : Nat} {x : Str} {op : Operator} {p' : Pos} {d0 : D} {g : D → D → Option D} {f : D → O τ ρ} (hv : env[i]? = some (.sh d0)) (ho : OpD .S X T (inplaceOp op) g) (he : DE .S X T W env e me) (hr : ∀ d, DS X T W ip rm inj injL envX (env.set i (.sh d)) ss (f d)) (wx : True) (hN : X.N.Nodup) (hi : X.N[i]? = some x := by kernel_rfl)
    (hx : Loc X.env.scope x := by exact loc_of (by kernel_rfl)) (hip : i ∉ ip := by decide) (hf : X.fn x = true ∨ X.env.scope.names.lookup x = some .local := by first | exact .inl rfl | exact .inr rfl) :
    DS X T W ip rm inj injL envX env (.AugAssign (.Name x p') op e pos :: ss) (O.ofR (me.bind fun y => R.lift (g d0 y)) f) := fun G F σ H D I h => by
  have hip' : PIp X op (wpF X (inplaceOp op)) := fun pins s σ H x y v u Q I r1 r2 h => op_wp pins s σ H x y v u Q I r1 r2 h
  refine wpS_cons (ps_aug (pos := pos) (pos' := p') hN hi hx pe_wp hip' hf) ?_
  obtain ⟨v0, e0, r0⟩ := I.er.sh_at hv
  refine ⟨v0, e0, ?_⟩
  have h' : PostS X T W G ip rm inj injL envX F H (O.ofR me fun y => O.ofR (R.lift (g d0 y)) f) D := by
    cases me <;> exact h
  refine runS he wx I h' fun y F1 vy H1 s1 ry I1 q1 => ?_
  refine ho.run F1 H1 v0 vy d0 y _ (.inl (r0.mono s1.grow)) (.inl ry) ?_
  revert q1
  cases g d0 y with
  | none => exact fun q1 => q1
  | some z =>
    intro q1 F2 vz H2 s2 rz
    exact hr z G F2 _ H2 D ((I1.stp s2).set_sh rz hip) (PostS.grow s2.grow q1)
theorem ip_addD : OpD .S X T (inplaceOp .Add) (fun x y => match x, y with | .int _, .int _ => addD x y | .str _, .str _ => addD x y | _, _ => none) := by
  refine opd_of ((iop_add (X := X)).or iop_add_str) fun F H vx vy x y Q rx ry q => ?_
  cases x <;> cases y <;> try exact q.elim
  · rw [top_int rx, top_int ry]
    exact .inl ⟨_, _, rfl, rfl, q.imm (.int _)⟩
  · rename_i a b
    obtain ⟨e1, o1⟩ := top_str rx
    obtain ⟨e2, o2⟩ := top_str ry
    rw [e1, e2]
    by_cases hl : a.length + b.length ≤ sizeLine
    · have q : PostV X T F H .S (addD (.str a) (.str b)) Q := q
      rw [show addD (.str a) (.str b) = some (.str (a ++ b)) from if_pos hl] at q
      refine .inr ⟨_, _, rfl, rfl, by rw [SS_len, SS_len]; exact hl, ?_⟩
      rw [SS_app]
      exact q.imm (.str _ (okc_app o1 o2))
    · have q : PostV X T F H .S (addD (.str a) (.str b)) Q := q
      rw [show addD (.str a) (.str b) = none from if_neg hl] at q
      exact q.elim
theorem ip_subD : OpD .S X T (inplaceOp .Sub) subD := by
  refine opd_of iop_sub fun F H vx vy x y Q rx ry q => ?_
  cases x <;> cases y <;> try exact q.elim
  rw [top_int rx, top_int ry]
  exact ⟨_, _, rfl, rfl, q.imm (.int _)⟩
end
end DL

-- DL6
set_option Elab.async false
set_option linter.all false
set_option maxRecDepth 100000
set_option maxHeartbeats 4000000
/-! The data layer: comprehensions, changes of lists, defs by their bodies. -/
namespace DL
open PySem PySem.Spec PyProof.Rows L2

abbrev W0 : WX := fun _ _ _ _ => False
section
variable {K : PySem.W.Frag} {T : Tb} {F F' F1 : Addr → Prop} {H H' H1 : Hp} {p : Addr} {d : D} {σ : Sg} {env : List Sl}
/-- an object that the base does not know is changed -/
theorem datW {o : HO} {b : Addr} (ho : OwnAt K F' H' p d) (s : Stp T F H F' H') (hp : H p = none) (h : Dat H' b) (h0 : Dat H b) : Dat (upd H' p o) b := by
  obtain ⟨u, e, n⟩ := h
  obtain ⟨u0, e0, n0⟩ := h0
  exact ⟨u, by rw [upd_ne (ne_of_none e0 hp)]; exact e, n⟩
theorem Stp.wr {o : HO} (s : Stp T F H F' H') (hp : H p = none) (nf : ¬ F' p) (ht : ∀ ps, o ≠ .tbl ps) (ho : OwnAt K F' H' p d) : Stp T F H F' (upd H' p o) where
  inc := s.inc
  new := s.new
  keep := fun b u e n => by rw [upd_ne (ne_of_none e hp)]; exact s.keep b u e n
  there := fun b h => datW ho s hp (s.there b h) h
  tape := fun b h => (upd_rep nf ho.kind).tape b (s.tape b h)
  tabs := fun h => tabs_write (s.tabs h) ho
  ftr := fun h a hF => by
    by_cases e : a = p
    · exact absurd (by rw [← e]; exact hF) nf
    · obtain ⟨u, e1, n⟩ := s.ftr h a hF
      exact ⟨u, by rw [upd_ne e]; exact e1, n⟩
def wipeE (env : List Sl) : List Nat → List Sl
  | [] => env
  | v :: vs => (wipeE env vs).set v .no
theorem ER.set_no {i : Nat} (I : ER K T F σ H env) : ER K T F (σ.set i none) H (env.set i .no) where
  len := by rw [List.length_set, List.length_set]; exact I.len
  slots := fun j sl e => by
    rcases getSet e with ⟨rfl, rfl⟩ | ⟨hj, e⟩
    · have hl : j < env.length := by
        by_cases hl : j < env.length
        · exact hl
        · rw [List.getElem?_eq_none (by simpa using Nat.le_of_not_lt hl)] at e; cases e
      exact ⟨none, List.getElem?_set_self (by rw [I.len]; exact hl), trivial⟩
    · obtain ⟨x, h1, h2⟩ := I.slots j sl e
      exact ⟨x, by rw [List.getElem?_set_ne (Ne.symm hj)]; exact h1, h2⟩
  nd := fun j k q hj hk => by
    obtain ⟨⟨dj, e1⟩, e2⟩ := hj
    obtain ⟨⟨dk, e3⟩, e4⟩ := hk
    rcases getSet e1 with ⟨_, z⟩ | ⟨n1, e1⟩
    · cases z
    · rcases getSet e3 with ⟨_, z⟩ | ⟨n2, e3⟩
      · cases z
      · rw [List.getElem?_set_ne (Ne.symm n1)] at e2
        rw [List.getElem?_set_ne (Ne.symm n2)] at e4
        exact I.nd j k q ⟨⟨dj, e1⟩, e2⟩ ⟨⟨dk, e3⟩, e4⟩
  nf := fun j q hj => by
    obtain ⟨⟨dj, e1⟩, e2⟩ := hj
    rcases getSet e1 with ⟨_, z⟩ | ⟨n1, e1⟩
    · cases z
    · rw [List.getElem?_set_ne (Ne.symm n1)] at e2
      exact I.nf j q ⟨⟨dj, e1⟩, e2⟩
  ftr := I.ftr
  tabs := I.tabs
theorem ER.wipe : ∀ {vs : List Nat}, ER K T F σ H env → ER K T F (L2.wipe σ vs) H (wipeE env vs)
  | [], I => I
  | v :: vs, I => (ER.wipe (vs := vs) I).set_no
end

/-! ### comprehensions -/
def optC {α : Type} : Option α → List α → List α
  | some y, ys => y :: ys
  | none, ys => ys
@[simp] theorem optC_some {α : Type} (y : α) (ys : List α) : optC (some y) ys = y :: ys := rfl
@[simp] theorem optC_none {α : Type} (ys : List α) : optC none ys = ys := rfl
def compM {α : Type} : List D → (D → R (Option α)) → R (List α)
  | [], _ => .ok []
  | d :: ds, f => (f d).nx.bind fun o => (compM ds f).bind fun ys => .ok (optC o ys)
/-- an item behind its tests -/
def itM (mt : R Bool) (me : R D) : R (Option D) := mt.bind fun k => if k = true then me.bind fun y => .ok (some y) else .ok none
def wpTs (X : Cx) (ifs : List Expr) : TT := fun σ H Q => ∀ pins s, Inv X pins σ H s → wpAny (model X.prog X.w) X.A (forIn ifs true fun c r => if r = true then do let ok ← isTrue c X.env (eval c X.env); pure (ForInStep.yield ok) else pure (ForInStep.yield r)) (TP X pins σ Q) X.xe s
section
variable {X : Cx} {T : Tb} {W : WX} {ip : List Nat} {rm : Md} {τ ρ τ' : Type} {inj : τ → List Sl} {injL : ρ → List Sl} {envX env env2 : List Sl} {G : Gh} {F F' : Addr → Prop} {σ : Sg} {H H' : Hp} {ss : List Stmt} {e a b c tg elt iter : Expr} {es : List Expr} {me ma mb mc : R D} {mas : R (List D)} {mt : R Bool} {md : Md} {pos p : Pos}
/-- tests of a comprehension -/
inductive DTs (X : Cx) (T : Tb) (W : WX) (env : List Sl) : List Expr → R Bool → Prop
  | nil : DTs X T W env [] (.ok true)
  | one {c : Expr} {m : R Bool} : DT X T W env c m → DTs X T W env [c] m
abbrev blkOf (X : Cx) (scope : Scope) (q : Shared × Hp × Addr × List (Str × Addr) × List Addr) : Cx := X.blk q.1 q.2.1 scope (compEnvC scope q.2.2.2.1 q.2.2.1 X.env) q.2.2.2.2
abbrev Blk := Shared × Hp × Addr × List (Str × Addr) × List Addr
/-- the block of a comprehension, for an item d -/
def CB (X : Cx) (T : Tb) (scope : Scope) (oe : Option (List Sl)) (ifs : List Expr) (elt : Expr) (m : R (Option D)) : Prop :=
  match oe with
  | some env2 => ∃ mt me, m = itM mt me ∧ (∀ q : Blk, DTs (blkOf X scope q) T W0 env2 ifs mt) ∧ ∀ q : Blk, DE .S (blkOf X scope q) T W0 env2 elt me
  | none => m = .st
theorem cb_mk {scope : Scope} {ifs : List Expr} (ht : ∀ q : Blk, DTs (blkOf X scope q) T W0 env2 ifs mt) (he : ∀ q : Blk, DE .S (blkOf X scope q) T W0 env2 elt me) : CB X T scope (some env2) ifs elt (itM mt me) := ⟨mt, me, rfl, ht, he⟩
theorem cb_nm {scope : Scope} {ifs : List Expr} {i : Nat} {d : D} {m : R (Option D)} (h : CB X T scope (some (env.set i (.sh d))) ifs elt m) : CB X T scope ((Pat.nm i).bind d env) ifs elt m := h
theorem cb_2 {scope : Scope} {ifs : List Expr} {p q : Pat} {d : D} {m : D → D → R (Option D)} (h : ∀ a b, CB X T scope ((p.bind a env).bind (q.bind b)) ifs elt (m a b)) : CB X T scope ((Pat.tp [p, q]).bind d env) ifs elt (tup2 .st d m) := by
  have key : ∀ a b, Pat.binds [p, q] [a, b] env = (p.bind a env).bind (q.bind b) := fun a b => by
    show (p.bind a env).bind (fun e => (q.bind b e).bind (Pat.binds [] [])) = _
    cases p.bind a env with
    | none => rfl
    | some e => show (q.bind b e).bind (Pat.binds [] []) = q.bind b e; cases q.bind b e <;> rfl
  have nn : ∀ xs, (∀ a b, xs ≠ [a, b]) → Pat.binds [p, q] xs env = none := fun xs hx => by
    cases e : Pat.binds [p, q] xs env with
    | none => rfl
    | some z =>
      have := binds_len (by rw [e]; simp)
      match xs, this with
      | [a, b], _ => exact absurd rfl (hx a b)
  cases d with
  | tup xs =>
    match xs with
    | [a, b] => show CB _ _ _ (Pat.binds [p, q] [a, b] env) _ _ _; rw [key]; exact h a b
    | [] => exact rfl
    | [a] => show CB _ _ _ (Pat.binds [p, q] [a] env) _ _ _; rw [nn _ (by intros; simp)]; exact rfl
    | a :: b :: c :: r => show CB _ _ _ (Pat.binds [p, q] (a :: b :: c :: r) env) _ _ _; rw [nn _ (by intros; simp)]; exact rfl
  | _ => exact rfl
theorem cb_3 {scope : Scope} {ifs : List Expr} {p q t : Pat} {d : D} {m : D → D → D → R (Option D)} (h : ∀ a b c, CB X T scope (((p.bind a env).bind (q.bind b)).bind (t.bind c)) ifs elt (m a b c)) : CB X T scope ((Pat.tp [p, q, t]).bind d env) ifs elt (tup3 .st d m) := by
  have key : ∀ a b c, Pat.binds [p, q, t] [a, b, c] env = ((p.bind a env).bind (q.bind b)).bind (t.bind c) := fun a b c => by
    show (p.bind a env).bind (fun e => (q.bind b e).bind (fun e => (t.bind c e).bind (Pat.binds [] []))) = _
    cases p.bind a env with
    | none => rfl
    | some e =>
      show (q.bind b e).bind (fun e => (t.bind c e).bind (Pat.binds [] [])) = (q.bind b e).bind (t.bind c)
      cases q.bind b e with
      | none => rfl
      | some e => show (t.bind c e).bind (Pat.binds [] []) = t.bind c e; cases t.bind c e <;> rfl
  have nn : ∀ xs, (∀ a b c, xs ≠ [a, b, c]) → Pat.binds [p, q, t] xs env = none := fun xs hx => by
    cases e : Pat.binds [p, q, t] xs env with
    | none => rfl
    | some z =>
      have := binds_len (by rw [e]; simp)
      match xs, this with
      | [a, b, c], _ => exact absurd rfl (hx a b c)
  cases d with
  | tup xs =>
    match xs with
    | [a, b, c] => show CB _ _ _ (Pat.binds [p, q, t] [a, b, c] env) _ _ _; rw [key]; exact h a b c
    | [] => exact rfl
    | [a] => show CB _ _ _ (Pat.binds [p, q, t] [a] env) _ _ _; rw [nn _ (by intros; simp)]; exact rfl
    | [a, b] => show CB _ _ _ (Pat.binds [p, q, t] [a, b] env) _ _ _; rw [nn _ (by intros; simp)]; exact rfl
    | a :: b :: c :: e :: r => show CB _ _ _ (Pat.binds [p, q, t] (a :: b :: c :: e :: r) env) _ _ _; rw [nn _ (by intros; simp)]; exact rfl
  | _ => exact rfl

def gStar (X : Cx) (scope : Scope) (tg : Expr) : TG := fun v σ H Q => ∀ q : Blk, wpG (blkOf X scope q) tg v σ H Q
def tStar (X : Cx) (scope : Scope) (ifs : List Expr) : TT := fun σ H Q => ∀ q : Blk, wpTs (blkOf X scope q) ifs σ H Q
def eStar (X : Cx) (scope : Scope) (e : Expr) : TE := fun σ H Q => ∀ q : Blk, wpE (blkOf X scope q) e σ H Q
theorem dts_run {X : Cx} {ifs : List Expr} {b : Bool} {Q : Bool → Hp → Prop} (h : DTs X T W env ifs (.ok b)) (I : ER X.K T F σ H env) (k : ∀ F' H', Stp T F H F' H' → Q b H') : wpTs X ifs σ H Q := by
  cases h with
  | nil => exact fun pins s Iv => pts_nil.run pins s σ H Q Iv (k F H .refl)
  | one h => exact fun pins s Iv => (pts_one pt_wp).run pins s σ H Q Iv (h F σ H Q I k)
theorem lc_run {mi : R (List D)} {pt : Pat} {scope : Scope} {ifs : List Expr} {own : List (Str × Nat)} {f : D → R (Option D)} {Q : VK} (hi : DI md X T W env tg iter mi) (hg : ∀ q : Blk, GT (blkOf X scope q) tg pt)
    (hix : ∀ i ∈ pt.ixs, i ∈ own.map (·.2)) (hb : ∀ d, CB X T scope (pt.bind d (wipeE env (own.map (·.2)))) ifs elt (f d)) (I : ER X.K T F σ H env)
    (q : PostE X T W F σ H .O (mi.bind fun ds => (compM ds f).bind fun ys => .ok (.lst ys)) Q) :
    tLc (wpI X tg iter) (gStar X scope tg) (tStar X scope ifs) (eStar X scope elt) (own.map (·.2)) σ H Q := by
  refine hi F σ H _ I ?_
  cases mi with
  | ex c => exact q
  | st => exact q.elim
  | ok ds =>
    intro F1 H1 J s1 ⟨Gd, gst, ggo, gstop, gyld⟩ hlen D0 hD0
    have I1 := I.stp s1
    have q1 : PostE X T W F1 σ H1 .O ((compM ds f).bind fun ys => .ok (.lst ys)) Q := PostE.stp s1 q
    have b0 : H1 D0 = none := hD0
    refine ⟨fun i m H' => ∃ F' acc ys, m = ds.length - i ∧ i ≤ ds.length ∧ Stp T F1 H1 F' H' ∧ H' D0 = some (.lst acc) ∧ ¬ F' D0 ∧ Reps X.K F' H' acc ys ∧ ys.length ≤ i ∧
      PostE X T W F1 σ H1 .O ((compM (ds.drop i) f).bind fun zs => .ok (.lst (ys ++ zs))) Q, ⟨_, F1, [], [], rfl, Nat.zero_le _, .new1 hD0, upd_same, fun z => (I1.ftr D0 z).ne hD0, .nil, Nat.le_refl _, by rw [List.drop_zero]; exact q1⟩, ?_⟩
    rintro i m H2 ⟨F2, acc, ys, rfl, hil, s2, hD2, nf2, r2, hy2, q2⟩
    have g2 : Gd F2 H2 := gst F2 H2 (fun _ => s2.grow) (fun _ => s2)
    by_cases hlt : i < ds.length
    · refine .inr ⟨ggo i F2 H2 hlt g2, fun H' => ∃ F' acc ys, Stp T F1 H1 F' H' ∧ H' D0 = some (.lst acc) ∧ ¬ F' D0 ∧ Reps X.K F' H' acc ys ∧ ys.length ≤ i + 1 ∧
        PostE X T W F1 σ H1 .O ((compM (ds.drop (i + 1)) f).bind fun zs => .ok (.lst (ys ++ zs))) Q, fun H' ⟨F', acc, ys, a1, a2, a3, a4, a5, a6⟩ => ⟨ds.length - (i + 1), by omega, F', acc, ys, rfl, hlt, a1, a2, a3, a4, a5, a6⟩, fun x H3 hy => ?_⟩
      obtain ⟨d, hd, F3, s3, r3⟩ := gyld i F2 H2 x H3 hlt g2 hy
      have ed : ds.drop i = d :: ds.drop (i + 1) := by
        rw [List.drop_eq_getElem_cons hlt, (List.getElem?_eq_some_iff.mp hd).2]
      rw [ed] at q2
      have s13 := s2.trans s3
      have I3 : ER X.K T F3 (L2.wipe σ (own.map (·.2))) H3 (wipeE env (own.map (·.2))) := (I1.stp s13).wipe
      have o2 : OwnAt X.K F2 H2 D0 (.lst ys) := ⟨acc, hD2, r2⟩
      have o3 := s3.ownAt o2
      have nf3 : ¬ F3 D0 := s3.notF nf2 o2.tr
      have hbd := hb d
      have q3 : PostE X T W F1 σ H1 .O (((f d).nx.bind fun o => (compM (ds.drop (i + 1)) f).bind fun ys => .ok (optC o ys)).bind fun zs => .ok (.lst (ys ++ zs))) Q := q2
      cases eb : pt.bind d (wipeE env (own.map (·.2))) with
      | none =>
        rw [eb] at hbd
        have z : f d = .st := hbd
        rw [z] at q3
        exact q3.elim
      | some env3 =>
        rw [eb] at hbd
        obtain ⟨mt, me, ef, ht, he⟩ := hbd
        intro qb
        refine hg qb F3 H3 x d _ _ r3 (fun env' => pat_dec (by rw [eb]; simp) env') fun σ4 u4 => ?_
        have I4 := Pat.er u4 eb I3
        refine ⟨Pat.wipe u4 hix |>.trans ?_, ?_⟩
        · -- wiping twice
          have key : ∀ (vs ws : List Nat) (σ : Sg), (∀ v ∈ ws, v ∈ vs) → L2.wipe (L2.wipe σ ws) vs = L2.wipe σ vs := by
            intro vs ws
            induction ws with
            | nil => intro σ _; rfl
            | cons w ws ih =>
              intro σ h
              show L2.wipe ((L2.wipe σ ws).set w none) vs = _
              rw [wipe_set (h w List.mem_cons_self), ih σ fun v hv => h v (List.mem_cons_of_mem _ hv)]
          exact key _ _ σ fun _ h => h
        · rw [ef] at q3
          cases mt with
          | ex c => exact q3.elim
          | st => exact q3.elim
          | ok k =>
            intro qt
            refine dts_run (ht qt) I4 fun F5 H5 s5 => ?_
            have o5 := s5.ownAt o3
            have nf5 : ¬ F5 D0 := s5.notF nf3 o3.tr
            cases k with
            | false =>
              rw [if_neg Bool.false_ne_true]
              obtain ⟨acc5, h5, r5⟩ := o5
              have q4 : PostE X T W F1 σ H1 .O (((compM (ds.drop (i + 1)) f).bind fun ys => .ok (optC none ys)).bind fun zs => .ok (.lst (ys ++ zs))) Q := q3
              rw [R.bind_assoc] at q4
              exact ⟨F5, acc5, ys, s13.trans s5, h5, nf5, r5, by omega, q4⟩
            | true =>
              rw [if_pos rfl]
              intro qe
              refine he qe F5 σ4 H5 _ (I4.stp s5) ?_
              cases me with
              | ex c => exact q3.elim
              | st => exact q3.elim
              | ok y =>
                intro F6 v6 H6 s6 r6
                have o6 := s6.ownAt o5
                obtain ⟨acc6, h6, ra6⟩ := id o6
                have nf6 : ¬ F6 D0 := s6.notF nf5 o5.tr
                have s16 := (s13.trans s5).trans s6
                have g6 : Grow F6 H6 F6 (upd H6 D0 (.lst (acc6 ++ [v6]))) := upd_rep nf6 o6.kind
                refine ⟨acc6, h6, ?_, F6, acc6 ++ [v6], ys ++ [y], s16.wr b0 nf6 (fun _ z => by cases z) o6, upd_same, nf6, (ra6.append (.cons r6 .nil)).mono g6, by rw [List.length_append]; simp; omega, ?_⟩
                · rw [ra6.length]; omega
                · have q4 : PostE X T W F1 σ H1 .O (((compM (ds.drop (i + 1)) f).bind fun ys => .ok (y :: ys)).bind fun zs => .ok (.lst (ys ++ zs))) Q := q3
                  rw [R.bind_assoc] at q4
                  have e2 : (fun zs => R.ok (D.lst ((ys ++ [y]) ++ zs))) = fun zs => (R.ok (y :: zs)).bind fun zs => .ok (.lst (ys ++ zs)) := by
                    funext zs; show R.ok _ = R.ok _; rw [List.append_assoc]; rfl
                  rw [e2]
                  exact q4
    · have e : i = ds.length := by omega
      subst e
      refine .inl ⟨gstop F2 H2 g2, ?_⟩
      rw [List.drop_length] at q2
      have q3 : PostE X T W F1 σ H1 .O (.ok (.lst (ys ++ []))) Q := q2
      rw [List.append_nil] at q3
      exact q3 F2 (.ref D0) H2 s2 ⟨D0, rfl, nd_none b0, nf2, acc, hD2, r2⟩
theorem lc_pe {scope : Scope} {ifs : List Expr} {own : List (Str × Nat)} (hc : X.calm = true) (hN : X.N.Nodup) (ok : BlkOk X.N X.env.scope scope own) (hs : ∀ x, foldedSetIterable iter X.env x = pure x) :
    PE X (.ListComp elt [⟨tg, iter, ifs, 0⟩] scope pos) (tLc (wpI X tg iter) (gStar X scope tg) (tStar X scope ifs) (eStar X scope elt) (own.map (·.2))) :=
  pe_lc (pos := pos) hc hN pi_wp ok (fun s H C cl fp => ⟨fun pins s' σ H' v u Q I r h => pg_wp.run pins s' σ H' v u Q I r (h (s, H, C, cl, fp))⟩) (fun s H C cl fp => ⟨fun pins s' σ H' Q I h => h (s, H, C, cl, fp) pins s' I⟩) (fun s H C cl fp => ⟨fun pins s' σ H' Q I h => pe_wp.run pins s' σ H' Q I (h (s, H, C, cl, fp))⟩) hs
/-- [elt for tg in iter if ..] -/
theorem de_lc {mi : R (List D)} {pt : Pat} {scope : Scope} {ifs : List Expr} (own : List (Str × Nat)) {f : D → R (Option D)} (hi : DI md X T W env tg iter mi) (hg : ∀ q : Blk, GT (blkOf X scope q) tg pt)
    (hb : ∀ d, CB X T scope (pt.bind d (wipeE env (own.map (·.2)))) ifs elt (f d)) (hc : X.calm = true) (hN : X.N.Nodup) (ok : BlkOk X.N X.env.scope scope own) (hix : ∀ i ∈ pt.ixs, i ∈ own.map (·.2) := by decide) (hs : ∀ x, foldedSetIterable iter X.env x = pure x := by intro _; kernel_rfl) :
    DE .O X T W env (.ListComp elt [⟨tg, iter, ifs, 0⟩] scope pos) (mi.bind fun ds => (compM ds f).bind fun ys => .ok (.lst ys)) := fun F σ H Q I q =>
  (lc_pe (pos := pos) hc hN ok hs).wp (lc_run hi hg hix hb I q)
/-- name = [..] on one line -/
theorem dss_setLc {i : Nat} {y : Str} {py spos : Pos} {mi : R (List D)} {pt : Pat} {scope : Scope} {ifs : List Expr} (own : List (Str × Nat)) {g : D → R (Option D)} {f : D → O τ ρ} (hi : DI md X T W env tg iter mi) (hg : ∀ q : Blk, GT (blkOf X scope q) tg pt)
    (hb : ∀ d, CB X T scope (pt.bind d (wipeE env (own.map (·.2)))) ifs elt (g d)) (hr : ∀ d, DS X T W ip rm inj injL envX (env.set i (.ow d)) ss (f d)) (wx : True) (hc : X.calm = true) (hN : X.N.Nodup) (ok : BlkOk X.N X.env.scope scope own)
    (hsw : swapsWith (.ListComp elt [⟨tg, iter, ifs, 0⟩] scope pos) (some (.Name y py)) spos.line X.env = pure true) (hy : X.N[i]? = some y := by kernel_rfl) (hyl : X.env.scope.names.lookup y = some .local := by kernel_rfl) (hip : i ∉ ip := by decide) (hix : ∀ i ∈ pt.ixs, i ∈ own.map (·.2) := by decide) (hs : ∀ x, foldedSetIterable iter X.env x = pure x := by intro _; kernel_rfl) :
    DS X T W ip rm inj injL envX env (.Assign [.Name y py] (.ListComp elt [⟨tg, iter, ifs, 0⟩] scope pos) spos :: ss) (O.ofR (mi.bind fun ds => (compM ds g).bind fun ys => .ok (.lst ys)) f) := fun G F σ H D I h => by
  refine wpS_cons (L2.ps_setLc (spos := spos) (pos := pos) (py := py) (g := gStar X scope tg) (tt := tStar X scope ifs) (te := eStar X scope elt) hc hN hy hyl hsw pi_wp ok (fun s H C cl fp => ⟨fun pins s' σ H' v u Q I r h => pg_wp.run pins s' σ H' v u Q I r (h (s, H, C, cl, fp))⟩) (fun s H C cl fp => ⟨fun pins s' σ H' Q I h => h (s, H, C, cl, fp) pins s' I⟩) (fun s H C cl fp => ⟨fun pins s' σ H' Q I h => pe_wp.run pins s' σ H' Q I (h (s, H, C, cl, fp))⟩) hs) ?_
  show tLc (wpI X tg iter) (gStar X scope tg) (tStar X scope ifs) (eStar X scope elt) (own.map (·.2)) σ H _
  refine lc_run hi hg hix hb I.er ?_
  revert h
  generalize (mi.bind fun ds => (compM ds g).bind fun ys => R.ok (DL.D.lst ys)) = mm
  cases mm with
  | ex c => exact fun h F' C dd H' s hm => h F' C dd σ H' (I.stp s).nos hm
  | st => exact fun h => h
  | ok d =>
    intro h F1 v H1 s1 r
    obtain ⟨a, rfl, h0, nf, o⟩ := r
    have I1 := I.stp s1
    refine hr d G F1 _ H1 D (I1.set_ow o nf (fun j hj => ?_) (I.back h0) hip) (PostS.grow s1.grow h)
    obtain ⟨d', _, o'⟩ := I.er.own hj
    exact h0 o'.tr

/-! ### changes of lists -/
/-- xs.append(e) -/
theorem dss_append {i : Nat} {x : Str} {xs : List D} {p1 apos cpos : Pos} {f : D → O τ ρ} (hv : env[i]? = some (.ow (.lst xs))) (he : DE .S X T W env e me) (hr : ∀ d, DS X T W ip rm inj injL envX (env.set i (.ow (.lst (xs ++ [d])))) ss (f d)) (wx : True)
    (hN : X.N[i]? = some x := by kernel_rfl) (hvi : Vis X.env.scope x := by exact vis_of (by kernel_rfl)) (hd : (x == ("__debug__" : Str)) = false := by kernel_rfl) (hcd : (x == ("__classdict__" : Str)) = false := by kernel_rfl)
    (hbase : attributeBase (.Name x p1) "append" X.env (eval (.Name x p1) X.env) = eval (.Name x p1) X.env := by kernel_rfl)
    (hfew : ((backTo cpos (starEach [e] X.env)).all (fun x => !x.1) && (backToKw cpos (keywordEach [] X.env)).all (fun x => x.1.isSome)
      && decide (([e] : List Expr).length + ([] : List Keyword).length + (if ([] : List Keyword).isEmpty then 0 else 1) < 30)) = true := by kernel_rfl)
    (hline : (apos.endLine == cpos.line) = true := by kernel_rfl) (hs : starEach [e] X.env = (false, eval e X.env) :: starEach [] X.env := by kernel_rfl) (hplain : (backTo cpos (starEach [] X.env)).any (·.1) = false := by kernel_rfl)
    (hsw : swapsWith (.Call (.Attribute (.Name x p1) "append" apos) [e] [] cpos) none pos.line X.env = pure false := by kernel_rfl) :
    DS X T W ip rm inj injL envX env (.Expr (.Call (.Attribute (.Name x p1) "append" apos) [e] [] cpos) pos :: ss) (O.ofR me fun d => if xs.length < sizeLine then f d else .st) := fun G F σ H D I h => by
  refine wpS_cons (ps_expr (pos := pos) (pe_bm PySem.F.plainAttrs_list PySem.F.slot_list_append PySem.F.type_list_append mt_append (pe_var (pos := p1) hN hvi hd hcd) (pa_cons pe_wp pa_nil hs) hbase hfew hline hs hplain) hsw) ?_
  obtain ⟨a, e1, o⟩ := I.er.ow_at hv
  obtain ⟨vs, hH, r⟩ := id o
  refine ⟨.ref a, e1, .inl ⟨rfl, vs, .inl (.inl hH)⟩, ?_⟩
  refine runS he wx I h fun d F1 v H1 s1 rv I1 q1 => ?_
  by_cases hl : xs.length < sizeLine
  · rw [if_pos hl] at q1
    obtain ⟨b, e2, o1⟩ := I1.er.ow_at hv
    rw [e1] at e2
    cases e2
    obtain ⟨vs1, hH1, r1⟩ := id o1
    refine ⟨a, vs1, v, rfl, rfl, hH1, by rw [r1.length]; exact hl, ?_⟩
    have g := I1.write_grow (o := .lst (vs1 ++ [v])) hv e1
    exact hr d G F1 σ _ D (I1.write hv e1 ⟨vs1 ++ [v], upd_same, (r1.append (.cons rv .nil)).mono g⟩) (PostS.grow g q1)
  · rw [if_neg hl] at q1
    exact q1.elim
/-- lists joined in place, whoever holds the second -/
theorem mt_extendR : MtM X "list.extend" (fun x vs H Q => ∃ l b xs zs, x = .ref l ∧ vs = [.ref b] ∧ H l = some (.lst xs) ∧ Rd H b (.lst zs) ∧ xs.length + zs.length ≤ sizeLine ∧ Q .non (upd H l (.lst (xs ++ zs)))) := by
  intro pins s σ H x vs v us Q I rx rv h
  obtain ⟨l, b, xs, zs, rfl, rfl, hH, hB, hz, q⟩ := h
  cases rx
  obtain ⟨u, rfl, ru⟩ := rv.one
  cases ru
  obtain ⟨z, its, n, r, hl, e⟩ := I.lstM hH
  obtain ⟨z2, its2, n2, r2, e2⟩ := hB.ok I.hok
  have hl2 := r2.length
  have hsz : its.toArray.size + its2.toArray.size ≤ sizeLine := by rw [List.size_toArray, List.size_toArray]; omega
  have hlong : ¬ (!its.toArray.isEmpty && Builtin.List.listTooLong (its.toArray.size + its2.toArray.size)) = true := by
    rw [notLongL hsz, Bool.and_false]
    exact Bool.false_ne_true
  refine call_meets F.slot_list_extend ⟨_, e, rfl⟩ F.entry_list_extend (F.args_list_extend_2 _ _)
    (AutoSeq1.list_extend_list_list_0 l its.toArray n b its2.toArray n2 hlong (by rw [List.size_toArray]; omega) (by omega)) ⟨e, e2, ?_⟩
  refine ⟨.non, _, I.lset (its' := its ++ its2) hH e (by simp) (r.append r2) ?_, rfl, q⟩
  rw [List.length_append]
  omega
theorem dss_extend {i : Nat} {x : Str} {xs : List D} {p1 apos cpos : Pos} {f : List D → O τ ρ} (hv : env[i]? = some (.ow (.lst xs))) (he : DE .S X T W env e me) (hr : ∀ ys, DS X T W ip rm inj injL envX (env.set i (.ow (.lst (xs ++ ys)))) ss (f ys)) (wx : True)
    (hN : X.N[i]? = some x := by kernel_rfl) (hvi : Vis X.env.scope x := by exact vis_of (by kernel_rfl)) (hd : (x == ("__debug__" : Str)) = false := by kernel_rfl) (hcd : (x == ("__classdict__" : Str)) = false := by kernel_rfl)
    (hbase : attributeBase (.Name x p1) "extend" X.env (eval (.Name x p1) X.env) = eval (.Name x p1) X.env := by kernel_rfl)
    (hfew : ((backTo cpos (starEach [e] X.env)).all (fun x => !x.1) && (backToKw cpos (keywordEach [] X.env)).all (fun x => x.1.isSome)
      && decide (([e] : List Expr).length + ([] : List Keyword).length + (if ([] : List Keyword).isEmpty then 0 else 1) < 30)) = true := by kernel_rfl)
    (hline : (apos.endLine == cpos.line) = true := by kernel_rfl) (hs : starEach [e] X.env = (false, eval e X.env) :: starEach [] X.env := by kernel_rfl) (hplain : (backTo cpos (starEach [] X.env)).any (·.1) = false := by kernel_rfl)
    (hsw : swapsWith (.Call (.Attribute (.Name x p1) "extend" apos) [e] [] cpos) none pos.line X.env = pure false := by kernel_rfl) :
    DS X T W ip rm inj injL envX env (.Expr (.Call (.Attribute (.Name x p1) "extend" apos) [e] [] cpos) pos :: ss) (O.ofR (me.bind fun d => R.lift (lstOf d)) fun ys => if xs.length + ys.length ≤ sizeLine then f ys else .st) := fun G F σ H D I h => by
  refine wpS_cons (ps_expr (pos := pos) (pe_bm PySem.F.plainAttrs_list PySem.F.slot_list_extend PySem.F.type_list_extend mt_extendR (pe_var (pos := p1) hN hvi hd hcd) (pa_cons pe_wp pa_nil hs) hbase hfew hline hs hplain) hsw) ?_
  obtain ⟨a, e1, o⟩ := I.er.ow_at hv
  obtain ⟨vs, hH, r⟩ := id o
  refine ⟨.ref a, e1, .inl ⟨rfl, vs, .inl (.inl hH)⟩, ?_⟩
  have h' : PostS X T W G ip rm inj injL envX F H (O.ofR me fun d => O.ofR (R.lift (lstOf d)) fun ys => if xs.length + ys.length ≤ sizeLine then f ys else .st) D := by
    cases me <;> exact h
  refine runS he wx I h' fun d F1 v H1 s1 rv I1 q1 => ?_
  cases d <;> try exact q1.elim
  rename_i ys
  have q1 : PostS X T W G ip rm inj injL envX F1 H1 (if xs.length + ys.length ≤ sizeLine then f ys else .st) D := q1
  by_cases hl : xs.length + ys.length ≤ sizeLine
  · rw [if_pos hl] at q1
    obtain ⟨b, e2, o1⟩ := I1.er.ow_at hv
    rw [e1] at e2
    cases e2
    obtain ⟨vs1, hH1, r1⟩ := id o1
    have rv' : Rep X.K F1 H1 v (.lst ys) := rv
    cases rv' with
    | lst hF hB rb =>
      rename_i b ws
      refine ⟨a, b, vs1, ws, rfl, rfl, hH1, hB, by rw [r1.length, rb.length]; exact hl, ?_⟩
      have g := I1.write_grow (o := .lst (vs1 ++ ws)) hv e1
      exact hr ys G F1 σ _ D (I1.write hv e1 ⟨vs1 ++ ws, upd_same, (r1.append rb).mono g⟩) (PostS.grow g q1)
  · rw [if_neg hl] at q1
    exact q1.elim
/-- xs[i] = e -/
def setL (xs : List D) (k : D) (y : D) : Option (List D) := match k with | .int k => (ixN xs.length k).map fun j => xs.set j y | _ => none
theorem dss_setitem {i : Nat} {x : Str} {xs : List D} {ix : Expr} {mx : R D} {p1 p2 : Pos} {f : List D → O τ ρ} (hv : env[i]? = some (.ow (.lst xs))) (he : DE .S X T W env e me) (hx : DE .S X T W env ix mx)
    (hr : ∀ ys, DS X T W ip rm inj injL envX (env.set i (.ow (.lst ys))) ss (f ys)) (wx : True)
    (hN : X.N[i]? = some x := by kernel_rfl) (hvi : Vis X.env.scope x := by exact vis_of (by kernel_rfl)) (hd : (x == ("__debug__" : Str)) = false := by kernel_rfl) (hcd : (x == ("__classdict__" : Str)) = false := by kernel_rfl)
    (ha : ∀ v, assign (.Subscript (.Name x p1) ix p2) X.env v = (do
      let ov ← holding [v] (eval (.Name x p1) X.env)
      let iv ← holding [v, ov] (eval ix X.env)
      standAt p2
      holding [v, ov, iv] (setItem ov iv v)
      release [v, ov, iv] []) := by intro _; kernel_rfl)
    (hs : swapsWithSole [.Subscript (.Name x p1) ix p2] e pos.line X.env = pure false := by kernel_rfl) (hw : swappedStores [.Subscript (.Name x p1) ix p2] e X.env = pure none := by kernel_rfl)
    (h1 : (assignEach [.Subscript (.Name x p1) ix p2] X.env).map (·.2) = [assign (.Subscript (.Name x p1) ix p2) X.env] := by kernel_rfl) :
    DS X T W ip rm inj injL envX env (.Assign [.Subscript (.Name x p1) ix p2] e pos :: ss) (O.ofR (me.bind fun y => mx.bind fun k => R.lift (setL xs k y)) f) := fun G F σ H D I h => by
  refine wpS_cons (ps_asg (pos := pos) pe_wp (pg_sub (pe_var (pos := p1) hN hvi hd hcd) pe_wp set_list ha) hs hw h1) ?_
  have h' : PostS X T W G ip rm inj injL envX F H (O.ofR me fun y => O.ofR (mx.bind fun k => R.lift (setL xs k y)) f) D := by
    cases me <;> exact h
  refine runS he wx I h' fun y F1 vy H1 s1 ry I1 q1 => ?_
  obtain ⟨a, e1, o⟩ := I1.er.ow_at hv
  refine ⟨.ref a, e1, ?_⟩
  have q1' : PostS X T W G ip rm inj injL envX F1 H1 (O.ofR mx fun k => O.ofR (R.lift (setL xs k y)) f) D := by
    cases mx <;> exact q1
  refine runS hx wx I1 q1' fun k F2 vk H2 s2 rk I2 q2 => ?_
  cases k <;> try exact q2.elim
  rename_i k
  cases rk
  have q2 : PostS X T W G ip rm inj injL envX F2 H2 (O.ofR (R.lift ((ixN xs.length k).map fun j => xs.set j y)) f) D := q2
  obtain ⟨b, e2, o2⟩ := I2.er.ow_at hv
  rw [e1] at e2
  cases e2
  obtain ⟨vs, hH, r⟩ := id o2
  cases ej : ixN xs.length k with
  | none => rw [ej] at q2; exact q2.elim
  | some j =>
    rw [ej] at q2
    refine ⟨a, vs, k, j, rfl, rfl, hH, by rw [r.length]; exact ej, ?_⟩
    have g := I2.write_grow (o := .lst (vs.set j vy)) hv e1
    have ry' : Rep X.K F2 H2 vy y := Rep.mono s2.grow ry
    exact hr _ G F2 σ _ D (I2.write hv e1 ⟨vs.set j vy, upd_same, (r.set j ry').mono g⟩) (PostS.grow g q2)
end

/-! ### a def by its body -/
/-- a def of the text, with what is known of its code -/
structure FunC (K : PySem.W.Frag) (x : Str) (st : Stmt) (f : Addr) (fd : FuncData) (C : Value → Prop) : Prop where
  ex : ∃ (oc : Value) (od : Option Addr) (kV doc pm : Value) (an : Option Addr) (cdv ct : Value) (osl : Array (Option Value)),
    fd = PySem.W.fnOf x x (defArgs st) (defBody st) (defScope st) .none kV doc pm an cdv ct ∧ K.lookup f = some ⟨oc, od, .func fd, osl⟩ ∧ PySem.W.codeIn K cdv x = true ∧ C cdv
  kp : PySem.W.keepIn K (.ref f) = true
theorem _root_.L2.Fun.c {K : PySem.W.Frag} {x : Str} {st : Stmt} {f : Addr} {fd : FuncData} (F : Fun K x x st f fd) : FunC K x st f fd fun _ => True := by
  obtain ⟨⟨oc, od, kV, doc, pm, an, cdv, ct, osl, h1, h2, h3⟩, kp⟩ := F
  exact ⟨⟨oc, od, kV, doc, pm, an, cdv, ct, osl, h1, h2, h3, trivial⟩, kp⟩
theorem fnD_ofC {C : Value → Prop} {P : Program} {w : World} {K : PySem.W.Frag} {mg : Str → Option Value} {base : Heap} {T : Tb} {x : Str} {st : Stmt} {f : Addr} {fd : FuncData} {N ps : List Str} {k : Nat} {md : Md} {M : List D → R D} (Fn : FunC K x st f fd C) (hm : mg x = some (.ref f)) (S : FnScope N ps (defScope st)) (b : Binds K fd ps [])
    (body : ∀ (cdv : Value) (hC : C cdv) (A : Around) (outer : List Env) (s : Shared) (H : Hp) (E : XK) (ds : List D), ds.length = ps.length → Room k (A.deeper (envOfC x (defScope st) s.heap.objs.size f cdv)) →
      ∃ (m : O Unit Unit), DS (cxOf (L2.CX P w) P w K mg base N x (defScope st) f cdv A outer s H E) T (fun cls d _ H' => E cls d H') [] md (fun _ => List.replicate N.length .no) (fun _ => List.replicate N.length .no) (List.replicate N.length .no)
        (ds.map .sh ++ List.replicate (N.length - ps.length) .no) (defBody st) m ∧ M ds = m.toR ∧ (md = .O → ∀ s, m ≠ .nx s)) : FnD P w K mg base T (k + 1) x ps.length md M := by
  refine ⟨f, fd, ps, hm, Fn.kp, b, ?_⟩
  obtain ⟨oc, od, kV, doc, pm, an, cdv, ct, osl, rfl, lk, hcd, hC⟩ := Fn.ex
  refine fn_of lk hcd S (fun vs H Q E h => h.1) fun A outer s H vs Q E hr hsp => ?_
  obtain ⟨hlen, F, ds, hF, hT, r, q⟩ := hsp
  have hdl : ds.length = ps.length := by rw [← r.length]; exact hlen
  obtain ⟨m, hDS, hM, hO⟩ := body cdv hC A outer s H E ds hdl hr
  refine ⟨_, ps_wp, ?_⟩
  have hpl : ps.length ≤ N.length := by have := congrArg List.length S.pre; rw [List.length_take] at this; omega
  have hslots : ∀ (i : Nat) (sl : Sl), (ds.map Sl.sh ++ List.replicate (N.length - ps.length) Sl.no)[i]? = some sl → ∃ x : Option V, (L2.start N vs)[i]? = some x ∧ SlR K F H x sl := fun i sl e => by
    have hvl : vs.length = ps.length := hlen
    unfold L2.start
    by_cases hi : i < ds.length
    · rw [List.getElem?_append_left (by simpa using hi), List.getElem?_map] at e
      cases ed : ds[i]? with
      | none => rw [ed] at e; cases e
      | some d =>
        rw [ed] at e
        cases e
        obtain ⟨v, hv, rv⟩ := r.get ed
        refine ⟨some v, ?_, v, rfl, rv⟩
        rw [List.getElem?_append_left (by rw [List.length_map]; omega), List.getElem?_map, hv]
        rfl
    · rw [List.getElem?_append_right (by simpa using Nat.le_of_not_lt hi), List.getElem?_replicate] at e
      split at e
      · rename_i hlt
        cases e
        refine ⟨none, ?_, trivial⟩
        rw [List.getElem?_append_right (by rw [List.length_map]; omega), List.getElem?_replicate, if_pos (by rw [List.length_map] at *; omega)]
      · cases e
  have noOwn : ∀ (i : Nat) (a : Addr), ¬ OwnI (L2.start N vs) (ds.map Sl.sh ++ List.replicate (N.length - ps.length) Sl.no) i a := fun i a ⟨⟨d, e⟩, _⟩ => by
    by_cases hi : i < ds.length
    · rw [List.getElem?_append_left (by simpa using hi), List.getElem?_map] at e
      cases ed : ds[i]? with
      | none => rw [ed] at e; cases e
      | some d => rw [ed] at e; cases e
    · rw [List.getElem?_append_right (by simpa using Nat.le_of_not_lt hi), List.getElem?_replicate] at e
      split at e <;> cases e
  have hl : (L2.start N vs).length = (ds.map Sl.sh ++ List.replicate (N.length - ps.length) Sl.no).length := by
    unfold L2.start
    simp only [List.length_append, List.length_map, List.length_replicate]
    omega
  refine hDS ⟨F, H, []⟩ F (L2.start N vs) H { nx := fun _ H' => Q .non H', rt := Q } ⟨⟨hl, hslots, fun i j a h => absurd h (noOwn i a), fun i a h => absurd h (noOwn i a), hF, hT⟩, fun _ h => h, fun _ h => .inl h, fun _ _ h _ _ => h, fun _ h => h, fun _ h => h, fun i a h => absurd h (noOwn i a), .nil⟩ ?_
  rw [hM] at q
  cases m with
  | nx s1 =>
    intro F' σ' H' I' _
    have q : ∀ F' v H', Stp T F H F' H' → RepM K F' H' md H v .non → Q v H' := q
    refine q F' .non H' ⟨I'.inc, I'.new, fun b o e n => I'.keep b o e n (by simp), I'.there, I'.tape, fun _ => I'.er.tabs, fun _ => I'.er.ftr⟩ ?_
    cases md with
    | S => exact .non
    | B => exact .inl .non
    | O => exact absurd rfl (hO rfl s1)
  | rt d us =>
    intro F' v H' s1 r1 _
    have q : ∀ F' v H', Stp T F H F' H' → RepM K F' H' md H v d → Q v H' := q
    exact q F' v H' ⟨s1.inc, s1.new, fun b o e n => s1.keep b o e n (by simp), s1.there, s1.tape, fun _ => s1.tabs, fun _ => s1.ftr⟩ r1
  | bk s1 => exact q.elim
  | ct s1 => exact q.elim
  | xc c =>
    intro F' C dd σ' H' I' hmC
    have q : ∀ F' C dd H', Stp T F H F' H' → mg c = some (.ref C) → E (.ref C) dd H' := q
    exact q F' C dd H' ⟨I'.inc, I'.new, fun b o e n => I'.keep b o e n (by simp), I'.there, I'.tape, fun _ => I'.er.tabs, fun _ => I'.er.ftr⟩ hmC
  | st => exact q.elim
theorem fnD_of {P : Program} {w : World} {K : PySem.W.Frag} {mg : Str → Option Value} {base : Heap} {T : Tb} {x : Str} {st : Stmt} {f : Addr} {fd : FuncData} {N ps : List Str} {k : Nat} {md : Md} {M : List D → R D} (Fn : Fun K x x st f fd) (hm : mg x = some (.ref f)) (S : FnScope N ps (defScope st)) (b : Binds K fd ps [])
    (body : ∀ (cdv : Value) (A : Around) (outer : List Env) (s : Shared) (H : Hp) (E : XK) (ds : List D), ds.length = ps.length → Room k (A.deeper (envOfC x (defScope st) s.heap.objs.size f cdv)) →
      ∃ (m : O Unit Unit), DS (cxOf (L2.CX P w) P w K mg base N x (defScope st) f cdv A outer s H E) T (fun cls d _ H' => E cls d H') [] md (fun _ => List.replicate N.length .no) (fun _ => List.replicate N.length .no) (List.replicate N.length .no)
        (ds.map .sh ++ List.replicate (N.length - ps.length) .no) (defBody st) m ∧ M ds = m.toR ∧ (md = .O → ∀ s, m ≠ .nx s)) : FnD P w K mg base T (k + 1) x ps.length md M := fnD_ofC (C := fun _ => True) Fn.c hm S b fun cdv _ A outer s H E ds hl hr => body cdv A outer s H E ds hl hr
end DL

-- DL7
set_option Elab.async false
set_option linter.all false
set_option maxRecDepth 100000
set_option maxHeartbeats 4000000
/-! The data layer: what is drawn from a tape. -/
namespace DL
open PySem PySem.Spec PyProof.Rows L2

/-- all that may come -/
abbrev N (α : Type) := (α → Prop) → Prop
namespace N
variable {α β τ ρ τ' : Type}
def l (r : α) : N α := fun P => P r
def bind (m : N (R α)) (f : α → N (R β)) : N (R β) := fun P => m fun r => match r with
  | .ok a => f a P
  | .ex c => P (.ex c)
  | .st => False
def ofR (m : N (R α)) (f : α → N (O τ ρ)) : N (O τ ρ) := fun P => m fun r => match r with
  | .ok a => f a P
  | .ex c => P (.xc c)
  | .st => False
/-- after a loop, an if -/
def aftP (P : O τ' ρ → Prop) (f : τ → N (O τ' ρ)) : O τ ρ → Prop
  | .nx s => f s P
  | .rt d us => P (.rt d us)
  | .bk s => P (.bk s)
  | .ct s => P (.ct s)
  | .xc c => P (.xc c)
  | .st => False
def seq (m : N (O τ ρ)) (f : τ → N (O τ' ρ)) : N (O τ' ρ) := fun P => m (aftP P f)
/-- no exceptions -/
def nx (m : N (R α)) : N (R α) := fun P => m fun r => match r with
  | .ok a => P (.ok a)
  | _ => False
theorem bind_l (m : R α) (f : α → N (R β)) (P : R β → Prop) : N.bind (N.l m) f P = (match m with | .ok a => f a P | .ex c => P (.ex c) | .st => False) := rfl
@[simp] theorem bind_ok (a : α) (f : α → N (R β)) : N.bind (N.l (.ok a)) f = f a := rfl
@[simp] theorem ofR_ok (a : α) (f : α → N (O τ ρ)) : N.ofR (N.l (.ok a)) f = f a := rfl
@[simp] theorem seq_nx (s : τ) (f : τ → N (O τ' ρ)) : N.seq (N.l (.nx s)) f = f s := rfl
@[simp] theorem seq_rt (d : D) (us : List D) (f : τ → N (O τ' ρ)) : N.seq (N.l (.rt d us)) f = N.l (.rt d us) := rfl
@[simp] theorem l_app (a : α) (P : α → Prop) : N.l a P = P a := rfl
theorem bind_assoc {γ : Type} (m : N (R α)) (f : α → N (R β)) (g : β → N (R γ)) : N.bind (N.bind m f) g = N.bind m fun a => N.bind (f a) g := by
  funext P
  show m _ = m _
  refine congrArg m (funext fun r => ?_)
  cases r <;> rfl
end N

section
variable (X : Cx) (T : Tb) (W : WX) (F : Addr → Prop) (σ : Sg) (H : Hp)
def NPostE (md : Md) (m : N (R D)) (Q : VK) : Prop := ∃ P, (∀ r, P r → PostE X T W F σ H md r Q) ∧ m P
def NPostT (m : N (R Bool)) (Q : Bool → Hp → Prop) : Prop := ∃ P, (∀ r, P r → PostT X T W F σ H r Q) ∧ m P
def NPostA (n : Nat) (m : N (R (List D))) (Q : List V → Hp → Prop) : Prop := ∃ P, (∀ r, P r → (∀ xs, r = .ok xs → xs.length = n) → PostA X T W F σ H r Q) ∧ m P
def NPostI (md : Md) (m : N (R (List D))) (Q : It → Hp → Prop) : Prop := ∃ P, (∀ r, P r → PostI md X T W F σ H r Q) ∧ m P
end
def EN (md : Md) (X : Cx) (T : Tb) (W : WX) (env : List Sl) (e : Expr) (m : N (R D)) : Prop :=
  ∀ F σ H Q, ER X.K T F σ H env → NPostE X T W F σ H md m Q → wpE X e σ H Q
def TN (X : Cx) (T : Tb) (W : WX) (env : List Sl) (e : Expr) (m : N (R Bool)) : Prop :=
  ∀ F σ H Q, ER X.K T F σ H env → NPostT X T W F σ H m Q → wpT X e σ H Q
def WN (X : Cx) (T : Tb) (W : WX) (env : List Sl) (e : Expr) (m : N (R Bool)) : Prop :=
  ∀ F σ H Q, ER X.K T F σ H env → NPostT X T W F σ H m Q → wpW X e σ H Q
def AN (X : Cx) (T : Tb) (W : WX) (env : List Sl) (es : List Expr) (m : N (R (List D))) : Prop :=
  ∀ F σ H Q, ER X.K T F σ H env → NPostA X T W F σ H es.length m Q → wpA X es σ H Q
def IN (md : Md) (X : Cx) (T : Tb) (W : WX) (env : List Sl) (tg iter : Expr) (m : N (R (List D))) : Prop :=
  ∀ F σ H (Q : It → Hp → Prop), ER X.K T F σ H env → NPostI X T W F σ H md m Q → wpI X tg iter σ H Q

section
variable {X : Cx} {T : Tb} {W : WX} {F F' F1 F2 : Addr → Prop} {σ : Sg} {H H' H1 H2 : Hp} {env : List Sl} {md md1 : Md} {e a b c tg iter : Expr} {es : List Expr} {m ma mb mc : N (R D)} {mt mt1 mt2 : N (R Bool)} {mas : N (R (List D))} {pos p2 : Pos}
theorem NPostE.stp {Q : VK} (s : Stp T F H F' H') (h : NPostE X T W F σ H md m Q) : NPostE X T W F' σ H' md m Q := by
  obtain ⟨P, h1, h2⟩ := h
  exact ⟨P, fun r hr => PostE.stp s (h1 r hr), h2⟩
theorem NPostT.stp {Q : Bool → Hp → Prop} (s : Stp T F H F' H') (h : NPostT X T W F σ H mt Q) : NPostT X T W F' σ H' mt Q := by
  obtain ⟨P, h1, h2⟩ := h
  exact ⟨P, fun r hr => PostT.stp s (h1 r hr), h2⟩
theorem NPostA.stp {n : Nat} {Q : List V → Hp → Prop} (s : Stp T F H F' H') (h : NPostA X T W F σ H n mas Q) : NPostA X T W F' σ H' n mas Q := by
  obtain ⟨P, h1, h2⟩ := h
  exact ⟨P, fun r hr hl => PostA.stp s (h1 r hr hl), h2⟩
theorem PostI.stp {md : Md} {mi : R (List D)} {Q : It → Hp → Prop} (s : Stp T F H F' H') (h : PostI md X T W F σ H mi Q) : PostI md X T W F' σ H' mi Q := by
  cases mi with
  | ok d => exact fun F2 H2 J s2 => h F2 H2 J (s.trans s2)
  | ex c => exact PostX.stp s h
  | st => exact h
theorem NPostI.stp {Q : It → Hp → Prop} (s : Stp T F H F' H') (h : NPostI X T W F σ H md mas Q) : NPostI X T W F' σ H' md mas Q := by
  obtain ⟨P, h1, h2⟩ := h
  exact ⟨P, fun r hr => PostI.stp s (h1 r hr), h2⟩
theorem NPostE.l {r : R D} {Q : VK} (h : NPostE X T W F σ H md (N.l r) Q) : PostE X T W F σ H md r Q := by
  obtain ⟨P, h1, h2⟩ := h
  exact h1 r h2
theorem NPostT.l {r : R Bool} {Q : Bool → Hp → Prop} (h : NPostT X T W F σ H (N.l r) Q) : PostT X T W F σ H r Q := by
  obtain ⟨P, h1, h2⟩ := h
  exact h1 r h2
theorem NPostI.l {r : R (List D)} {Q : It → Hp → Prop} (h : NPostI X T W F σ H md (N.l r) Q) : PostI md X T W F σ H r Q := by
  obtain ⟨P, h1, h2⟩ := h
  exact h1 r h2
/-- what does not draw -/
theorem en_of {m : R D} (h : DE md X T W env e m) : EN md X T W env e (N.l m) := fun F σ H Q I q => h F σ H Q I q.l
theorem tn_of {m : R Bool} (h : DT X T W env e m) : TN X T W env e (N.l m) := fun F σ H Q I q => h F σ H Q I q.l
theorem wn_of {m : R Bool} (h : DW X T W env e m) : WN X T W env e (N.l m) := fun F σ H Q I q => h F σ H Q I q.l
theorem an_of {m : R (List D)} (h : DA X T W env es m) : AN X T W env es (N.l m) := fun F σ H Q I ⟨P, h1, h2⟩ => h.run F σ H Q I (h1 m h2 h.len)
theorem in_of {m : R (List D)} (h : DI md X T W env tg iter m) : IN md X T W env tg iter (N.l m) := fun F σ H Q I q => h F σ H Q I q.l
theorem EN.toB (h : EN md X T W env e m) : EN .B X T W env e m := fun F σ H Q I ⟨P, h1, h2⟩ => h F σ H Q I ⟨P, fun r hr => by
  have := h1 r hr
  cases r with
  | ok d => exact fun F' v H' s r => this F' v H' s (RepM.toB r)
  | ex c => exact this
  | st => exact this, h2⟩
theorem EN.ofO (h : EN .O X T W env e m) : EN .S X T W env e m := fun F σ H Q I ⟨P, h1, h2⟩ => h F σ H Q I ⟨P, fun r hr => by
  have q := h1 r hr
  cases r with
  | ok d =>
    intro F' v H' s r
    obtain ⟨p, ev, h0, nf, o⟩ := r
    subst ev
    exact q (Fa F' p) (.ref p) H' (s.addF h0 o.tr) (o.topAt.addF.rep (.inr rfl))
  | ex c => exact q
  | st => exact q, h2⟩
/-- one expression, then more -/
theorem nrunEE {Q Q1 : VK} {f : D → N (R D)} (ha : EN md X T W env a ma) (I : ER X.K T F σ H env) (h : NPostE X T W F σ H md1 (N.bind ma f) Q)
    (k : ∀ d F' v H', Stp T F H F' H' → RepM X.K F' H' md H v d → NPostE X T W F' σ H' md1 (f d) Q → Q1 v H') : wpE X a σ H Q1 := by
  obtain ⟨P, h1, h2⟩ := h
  refine ha F σ H Q1 I ⟨_, fun r hr => ?_, h2⟩
  cases r with
  | ok d => exact fun F' v H' s r => k d F' v H' s r (NPostE.stp s ⟨P, h1, hr⟩)
  | ex c => exact h1 _ hr
  | st => exact hr.elim
theorem nrunET {Q1 : VK} {Q : Bool → Hp → Prop} {f : D → N (R Bool)} (ha : EN md X T W env a ma) (I : ER X.K T F σ H env) (h : NPostT X T W F σ H (N.bind ma f) Q)
    (k : ∀ d F' v H', Stp T F H F' H' → RepM X.K F' H' md H v d → NPostT X T W F' σ H' (f d) Q → Q1 v H') : wpE X a σ H Q1 := by
  obtain ⟨P, h1, h2⟩ := h
  refine ha F σ H Q1 I ⟨_, fun r hr => ?_, h2⟩
  cases r with
  | ok d => exact fun F' v H' s r => k d F' v H' s r (NPostT.stp s ⟨P, h1, hr⟩)
  | ex c => exact h1 _ hr
  | st => exact hr.elim
theorem nrunTE {Q : VK} {Q1 : Bool → Hp → Prop} {f : Bool → N (R D)} (ha : TN X T W env c mt) (I : ER X.K T F σ H env) (h : NPostE X T W F σ H md (N.bind mt f) Q)
    (k : ∀ b F' H', Stp T F H F' H' → NPostE X T W F' σ H' md (f b) Q → Q1 b H') : wpT X c σ H Q1 := by
  obtain ⟨P, h1, h2⟩ := h
  refine ha F σ H Q1 I ⟨_, fun r hr => ?_, h2⟩
  cases r with
  | ok d => exact fun F' H' s => k d F' H' s (NPostE.stp s ⟨P, h1, hr⟩)
  | ex c => exact h1 _ hr
  | st => exact hr.elim
theorem nrunTT {Q Q1 : Bool → Hp → Prop} {f : Bool → N (R Bool)} (ha : TN X T W env c mt) (I : ER X.K T F σ H env) (h : NPostT X T W F σ H (N.bind mt f) Q)
    (k : ∀ b F' H', Stp T F H F' H' → NPostT X T W F' σ H' (f b) Q → Q1 b H') : wpT X c σ H Q1 := by
  obtain ⟨P, h1, h2⟩ := h
  refine ha F σ H Q1 I ⟨_, fun r hr => ?_, h2⟩
  cases r with
  | ok d => exact fun F' H' s => k d F' H' s (NPostT.stp s ⟨P, h1, hr⟩)
  | ex c => exact h1 _ hr
  | st => exact hr.elim
theorem nrunAE {Q : VK} {Q1 : List V → Hp → Prop} {f : List D → N (R D)} (ha : AN X T W env es mas) (I : ER X.K T F σ H env) (h : NPostE X T W F σ H md (N.bind mas f) Q)
    (k : ∀ ds F' vs H', Stp T F H F' H' → Reps X.K F' H' vs ds → ds.length = es.length → NPostE X T W F' σ H' md (f ds) Q → Q1 vs H') : wpA X es σ H Q1 := by
  obtain ⟨P, h1, h2⟩ := h
  refine ha F σ H Q1 I ⟨_, fun r hr hl => ?_, h2⟩
  cases r with
  | ok d => exact fun F' v H' s r => k d F' v H' s r (hl d rfl) (NPostE.stp s ⟨P, h1, hr⟩)
  | ex c => exact h1 _ hr
  | st => exact hr.elim
theorem nrunEI {Q1 : VK} {Q : It → Hp → Prop} {f : D → N (R (List D))} (ha : EN md X T W env a ma) (I : ER X.K T F σ H env) (h : NPostI X T W F σ H md1 (N.bind ma f) Q)
    (k : ∀ d F' v H', Stp T F H F' H' → RepM X.K F' H' md H v d → NPostI X T W F' σ H' md1 (f d) Q → Q1 v H') : wpE X a σ H Q1 := by
  obtain ⟨P, h1, h2⟩ := h
  refine ha F σ H Q1 I ⟨_, fun r hr => ?_, h2⟩
  cases r with
  | ok d => exact fun F' v H' s r => k d F' v H' s r (NPostI.stp s ⟨P, h1, hr⟩)
  | ex c => exact h1 _ hr
  | st => exact hr.elim

theorem en_op {op : Operator} {g : D → D → Option D} (ho : OpD md X T (binaryOp op) g) (ha : EN .B X T W env a ma) {mb : D → N (R D)} (hb : ∀ x, EN .B X T W env b (mb x)) :
    EN md X T W env (.BinOp a op b pos) (N.bind ma fun x => N.bind (mb x) fun y => N.l (R.lift (g x y))) := fun F σ H Q I q => by
  refine (pe_op (pos := pos) (op_wp (X := X) (f := binaryOp op)) pe_wp pe_wp).wp ?_
  refine nrunEE ha I q fun x F1 vx H1 s1 rx q1 => ?_
  refine nrunEE (hb x) (I.stp s1) q1 fun y F2 vy H2 s2 ry q2 => ?_
  exact ho.run F2 H2 vx vy x y Q (s2.top rx) ry q2.l.lift
theorem en_cmp {op : CmpOp} {g : D → D → Option Bool} (ho : OpD .S X T (compareOp op) fun x y => (g x y).map D.bl) (ha : EN .B X T W env a ma) (hb : EN .B X T W env b mb) (hm : behindInMarks op b = false := by first | exact nomark _ | rfl) :
    EN .S X T W env (.Compare a [op] [b] pos) (N.bind ma fun x => N.bind mb fun y => N.l (R.lift ((g x y).map D.bl))) := fun F σ H Q I q => by
  refine (pe_cmpR (pos := pos) (op_wp (X := X) (f := compareOp op)) pe_wp pe_wp hm).wp ?_
  refine nrunEE ha I q fun x F1 vx H1 s1 rx q1 => ?_
  refine nrunEE hb (I.stp s1) q1 fun y F2 vy H2 s2 ry q2 => ?_
  exact ho.run F2 H2 vx vy x y Q (s2.top rx) ry q2.l.lift
theorem tn_cmp {op : CmpOp} {g : D → D → Option Bool} (ho : OpD .S X T (compareOp op) fun x y => (g x y).map D.bl) (ha : EN .B X T W env a ma) (hb : EN .B X T W env b mb) (hm : behindInMarks op b = false := by first | exact nomark _ | rfl) :
    TN X T W env (.Compare a [op] [b] pos) (N.bind ma fun x => N.bind mb fun y => N.l (R.lift (g x y))) := fun F σ H Q I q => by
  refine (pt_cmpR (pos := pos) (op_wp (X := X) (f := compareOp op)) pe_wp pe_wp hm).wp ?_
  refine nrunET ha I q fun x F1 vx H1 s1 rx q1 => ?_
  refine nrunET hb (I.stp s1) q1 fun y F2 vy H2 s2 ry q2 => ?_
  refine ho.run F2 H2 vx vy x y _ (s2.top rx) ry ?_
  replace q2 := q2.l
  revert q2
  cases g x y with
  | none => exact fun q2 => q2
  | some k =>
    intro q2 F3 v H3 s3 r
    cases r
    exact ⟨k, rfl, q2 F3 H3 s3⟩
theorem tn_tru (ha : EN .B X T W env a ma) (he : ∀ whole, isTrue a X.env whole = (do let v ← whole; standAt a.pos; holding [v] (truthy v)) := by intro _; kernel_rfl) :
    TN X T W env a (N.bind ma fun x => N.l (R.lift (truD x))) := fun F σ H Q I q => by
  refine (pt_truth pe_wp he).wp ?_
  refine nrunET ha I q fun x F1 vx H1 s1 rx q1 => ?_
  replace q1 := q1.l
  revert q1
  cases e : truD x with
  | none => exact fun q1 => q1.elim
  | some k => exact fun q1 => ⟨k, tru_rep rx e, q1 F1 H1 .refl⟩
theorem tn_not (ha : TN X T W env a mt) : TN X T W env (.UnaryOp .Not a pos) (N.bind mt fun k => N.l (.ok (!k))) := fun F σ H Q I q => by
  refine (pt_not (pos := pos) pt_wp).wp ?_
  exact nrunTT ha I q fun k F1 H1 s1 q1 => q1.l F1 H1 .refl
theorem wn_and1 (ha : TN X T W env a mt) : WN X T W env (.BoolOp .And [a] pos) mt := fun F σ H Q I q => (pw_and1 (pos := pos) pt_wp).wp (ha F σ H Q I q)
theorem wn_or1 (ha : TN X T W env a mt) : WN X T W env (.BoolOp .Or [a] pos) mt := fun F σ H Q I q => (pw_or1 (pos := pos) pt_wp).wp (ha F σ H Q I q)
theorem wn_and {es : List Expr} (ha : TN X T W env a mt1) (hb : WN X T W env (.BoolOp .And (b :: es) pos) mt2) : WN X T W env (.BoolOp .And (a :: b :: es) pos) (N.bind mt1 fun k => if k = true then mt2 else N.l (.ok false)) := fun F σ H Q I q => by
  refine (pw_and (pos := pos) pt_wp pw_wp).wp ?_
  refine nrunTT ha I q fun k F1 H1 s1 q1 => ?_
  cases k with
  | true => exact hb F1 σ H1 Q (I.stp s1) q1
  | false => exact q1.l F1 H1 .refl
theorem wn_or {es : List Expr} (ha : TN X T W env a mt1) (hb : WN X T W env (.BoolOp .Or (b :: es) pos) mt2) : WN X T W env (.BoolOp .Or (a :: b :: es) pos) (N.bind mt1 fun k => if k = true then N.l (.ok true) else mt2) := fun F σ H Q I q => by
  refine (pw_or (pos := pos) pt_wp pw_wp).wp ?_
  refine nrunTT ha I q fun k F1 H1 s1 q1 => ?_
  cases k with
  | false => exact hb F1 σ H1 Q (I.stp s1) q1
  | true => exact q1.l F1 H1 .refl
theorem tn_w (h : WN X T W env e mt) : TN X T W env e mt := fun F σ H Q I q => by
  unfold wpT
  intro pins s Iv
  have z := h F σ H Q I q
  unfold wpW at z
  exact z _ pins s Iv
theorem en_if (hc : TN X T W env c mt) (ha : EN md X T W env a ma) (hb : EN md X T W env b mb) : EN md X T W env (.IfExp c a b pos) (N.bind mt fun k => if k = true then ma else mb) := fun F σ H Q I q => by
  refine (pe_ifExp (pos := pos) pt_wp pe_wp pe_wp).wp ?_
  refine nrunTE hc I q fun k F1 H1 s1 q1 => ?_
  cases k with
  | true => exact ha F1 σ H1 Q (I.stp s1) q1
  | false => exact hb F1 σ H1 Q (I.stp s1) q1
theorem an_cons {es : List Expr} (ha : EN .S X T W env a ma) (hr : AN X T W env es mas) (hs : starEach (a :: es) X.env = (false, eval a X.env) :: starEach es X.env := by kernel_rfl) :
    AN X T W env (a :: es) (N.bind ma fun x => N.bind mas fun xs => N.l (.ok (x :: xs))) := fun F σ H Q I ⟨P, h1, h2⟩ => by
  refine (pa_cons pe_wp pa_wp hs).wp ?_
  refine ha F σ H _ I ⟨_, fun r hr' => ?_, h2⟩
  cases r with
  | ok x =>
    intro F1 vx H1 s1 rx
    refine hr F1 σ H1 _ (I.stp s1) ⟨_, fun r2 hr2 hl => ?_, hr'⟩
    cases r2 with
    | ok xs => 
      have q1 := PostA.stp s1 (h1 (.ok (x :: xs)) hr2 (fun ys e => by cases e; rw [List.length_cons, List.length_cons, hl xs rfl]))
      exact fun F2 vs H2 s2 r => q1 F2 (vx :: vs) H2 s2 (.cons (Rep.mono s2.grow rx) r)
    | ex c => exact PostX.stp s1 (h1 (.ex c) hr2 (fun ys e => by cases e))
    | st => exact hr2.elim
  | ex c => exact h1 (.ex c) hr' (fun ys e => by cases e)
  | st => exact hr'.elim
theorem en_tup {k : Nat} (h : AN X T W env es mas) (hl : es.length ≤ 100000 := by decide) : EN .S X T W env (.Tuple es k pos) (N.bind mas fun xs => N.l (.ok (.tup xs))) := fun F σ H Q I q => by
  refine (pe_tup (pos := pos) (x1 := k) pa_wp).wp ?_
  refine nrunAE h I q fun ds F1 vs H1 s1 r hd q1 => ?_
  refine ⟨by rw [r.length, hd]; exact small_line hl, fun p hp => ?_⟩
  exact q1.l F1 (.ref p) _ (.new1 hp) (.tup (.inl (.inl upd_same)) (r.mono (Stp.new1 (T := T) hp).grow))
theorem en_lst (h : AN X T W env es mas) (hl : es.length ≤ 100000 := by decide) : EN .O X T W env (.List es pos) (N.bind mas fun xs => N.l (.ok (.lst xs))) := fun F σ H Q I q => by
  refine (pe_lst (pos := pos) pa_wp).wp ?_
  refine nrunAE h I q fun ds F1 vs H1 s1 r hd q1 => ?_
  refine ⟨by rw [r.length, hd]; exact small_line hl, fun p hp => ?_⟩
  refine q1.l F1 (.ref p) _ (.new1 hp) ⟨p, rfl, nd_none hp, fun hF => ?_, ⟨vs, upd_same, r.mono (Stp.new1 (T := T) hp).grow⟩⟩
  exact (s1.ftr I.ftr p hF).ne hp
theorem en_ix (ha : EN .B X T W env a ma) (hb : EN .B X T W env b mb) (hs : PlainIx b := by intro _ _; kernel_rfl) : EN .S X T W env (.Subscript a b pos) (N.bind ma fun x => N.bind mb fun y => N.l (R.lift (idxD x y))) := fun F σ H Q I q => by
  refine (pe_ix (pos := pos) ix_seq pe_wp pe_wp hs).wp ?_
  refine nrunEE ha I q fun x F1 vx H1 s1 rx q1 => ?_
  refine nrunEE hb (I.stp s1) q1 fun y F2 vy H2 s2 ry q2 => ?_
  replace q2 := q2.l
  replace rx : Top X.K F2 H2 vx x := s2.top rx
  cases x <;> cases y <;> try exact q2.elim
  · rename_i s i
    obtain ⟨e1, o1⟩ := top_str rx
    rw [e1, top_int ry]
    by_cases hl : s.length ≤ sizeLine
    · rw [show idxD (.str s) (.int i) = (atI s i).map fun c => D.str [c] from if_pos hl] at q2
      cases hc : atI s i with
      | none => rw [hc] at q2; exact q2.elim
      | some c =>
        rw [hc] at q2
        have := q2.lift.imm (.str [c] fun d hd => by rw [List.mem_singleton.mp hd]; exact o1 c (atI_mem hc))
        exact .inr (.inr ⟨SS s, i, c, rfl, rfl, by rw [SS_len]; exact hl, hc, this⟩)
    · rw [show idxD (.str s) (.int i) = none from if_neg hl] at q2
      exact q2.elim
  · rename_i xs i
    obtain ⟨p, vs, e1, h1, r1⟩ := top_tup rx
    rw [e1, top_int ry]
    rw [show idxD (.tup xs) (.int i) = atI xs i from rfl] at q2
    cases hc : atI xs i with
    | none => rw [hc] at q2; exact q2.elim
    | some d =>
      rw [hc] at q2
      obtain ⟨v, hv, rv⟩ := reps_at r1 hc
      exact .inr (.inl ⟨p, vs, i, v, rfl, rfl, h1, hv, q2.lift.imm rv⟩)
  · rename_i xs i
    obtain ⟨p, vs, e1, h1, r1⟩ := top_lst rx
    rw [e1, top_int ry]
    rw [show idxD (.lst xs) (.int i) = atI xs i from rfl] at q2
    cases hc : atI xs i with
    | none => rw [hc] at q2; exact q2.elim
    | some d =>
      rw [hc] at q2
      obtain ⟨v, hv, rv⟩ := reps_at r1 hc
      exact .inl ⟨p, vs, i, v, rfl, rfl, .inl h1, hv, q2.lift.imm rv⟩
/-- a part of a slice -/
def PN (X : Cx) (T : Tb) (W : WX) (env : List Sl) (o : Option Expr) (m : N (R (Option Int))) : Prop :=
  (o = none ∧ m = N.l (.ok none)) ∨ ∃ e me, o = some e ∧ EN .S X T W env e me ∧ m = N.bind me fun d => N.l (intP d)
theorem pn_none : PN X T W env none (N.l (.ok none)) := .inl ⟨rfl, rfl⟩
theorem pn_some (he : EN .S X T W env e m) : PN X T W env (some e) (N.bind m fun d => N.l (intP d)) := .inr ⟨e, m, rfl, he, rfl⟩
theorem nrunO {Q : VK} {Q1 : Option Int → Hp → Prop} {o : Option Expr} {mo : N (R (Option Int))} {f : Option Int → N (R D)} (h : PN X T W env o mo) (I : ER X.K T F σ H env) (q : NPostE X T W F σ H md (N.bind mo f) Q)
    (k : ∀ i F' H', Stp T F H F' H' → NPostE X T W F' σ H' md (f i) Q → Q1 i H') : wpO X o σ H Q1 := by
  rcases h with ⟨rfl, rfl⟩ | ⟨e, me, rfl, he, rfl⟩
  · unfold wpO
    exact fun pins s Iv => po_none.run pins s σ H Q1 Iv (k none F H .refl q)
  · unfold wpO
    refine fun pins s Iv => (po_some pe_wp).run pins s σ H Q1 Iv ?_
    rw [N.bind_assoc] at q
    refine nrunEE he I q fun d F1 v H1 s1 r q1 => ?_
    cases d <;> try (obtain ⟨P, h1, h2⟩ := q1; exact h2.elim)
    cases r
    exact ⟨_, rfl, k _ F1 H1 s1 q1⟩
theorem en_slc {lo hi : Option Expr} {ml mh : N (R (Option Int))} (ha : EN .B X T W env a ma) (hl : PN X T W env lo ml) (hh : PN X T W env hi mh) :
    EN .S X T W env (.Subscript a (.Slice lo hi none p2) pos) (N.bind ma fun x => N.bind ml fun l => N.bind mh fun h => N.l (R.lift (slcD x l h))) := fun F σ H Q I q => by
  refine (pe_slice (pos := pos) (p2 := p2) ((sl_list (X := X)).or (sl_tupA.or sl_str)) pe_wp po_wp po_wp).wp ?_
  refine nrunEE ha I q fun x F1 vx H1 s1 rx q1 => ?_
  refine nrunO hl (I.stp s1) q1 fun l F2 H2 s2 q2 => ?_
  refine nrunO hh ((I.stp s1).stp s2) q2 fun u F3 H3 s3 q3 => ?_
  replace q3 := q3.l
  replace rx : Top X.K F3 H3 vx x := s3.top (s2.top rx)
  cases x <;> try exact q3.elim
  · rename_i s
    obtain ⟨e1, o1⟩ := top_str rx
    rw [e1]
    by_cases hl : s.length ≤ sizeLine
    · rw [show slcD (.str s) l u = some (.str (cutL s l u)) from if_pos hl] at q3
      exact .inr (.inr ⟨SS s, rfl, by rw [SS_len]; exact hl, q3.lift.imm (v := .str (SS (cutL s l u))) (.str _ (okc_cut l u o1))⟩)
    · rw [show slcD (.str s) l u = none from if_neg hl] at q3
      exact q3.elim
  · rename_i xs
    obtain ⟨p, vs, e1, h1, r1⟩ := top_tup rx
    rw [e1]
    refine .inr (.inl ⟨p, vs, rfl, h1, fun hw => ?_, fun hw q hq => ?_⟩)
    · have e2 : cutL xs l u = xs := by
        unfold cutL
        rw [r1.length] at hw
        rw [hw.1, hw.2, Nat.sub_zero, List.drop_zero, List.take_length]
      rw [show slcD (.tup xs) l u = some (.tup (cutL xs l u)) from rfl, e2] at q3
      exact q3.lift.imm (.tup h1 r1)
    · obtain ⟨s, r⟩ := newT (T := T) hq (reps_cut l u r1)
      exact q3 F3 _ _ s r
  · rename_i xs
    obtain ⟨p, vs, e1, h1, r1⟩ := top_lst rx
    rw [e1]
    refine .inl ⟨p, vs, rfl, .inl h1, fun q hq => ?_⟩
    obtain ⟨s, r⟩ := newL (T := T) hq (reps_cut l u r1)
    exact q3 _ _ _ s r
theorem en_c1B {id : String} {x : Str} {p : Pos} {g : D → Option D} (ho : Cal1 md X T (.builtin id) g) (hv : bootBuiltins x = some (.builtin id)) (hm : X.mg x = none) (ha : EN .B X T W env a ma) (hg : Gl X x := by exact gl_of (by kernel_rfl)) (hn : x ≠ "__name__" := by exact ne_name (by kernel_rfl)) (hdb : (x == ("__debug__" : Str)) = false := by kernel_rfl)
    (he : starEach [a] X.env = (false, eval a X.env) :: starEach [] X.env := by kernel_rfl) (hpl : (backTo pos (starEach [] X.env)).any (·.1) = false := by kernel_rfl) :
    EN md X T W env (.Call (.Name x p) [a] [] pos) (N.bind ma fun d => N.l (R.lift (g d))) := fun F σ H Q I q => by
  refine (pe_callB (pos := pos) (p := p) call_wp hg hm hv (pa_cons pe_wp pa_nil he) hn hdb he hpl).wp ?_
  refine nrunEE ha I q fun d F1 v H1 s1 r q1 => ?_
  exact ho.run F1 H1 v d Q (s1.ftr I.ftr) r q1.l.lift
theorem en_c1T {ty : String} {x : Str} {p : Pos} {g : D → Option D} (ho : Cal1 md X T (.type ty) g) (hv : bootBuiltins x = some (.type ty)) (hm : X.mg x = none) (ha : EN .B X T W env a ma) (hg : Gl X x := by exact gl_of (by kernel_rfl)) (hn : x ≠ "__name__" := by exact ne_name (by kernel_rfl)) (hdb : (x == ("__debug__" : Str)) = false := by kernel_rfl)
    (he : starEach [a] X.env = (false, eval a X.env) :: starEach [] X.env := by kernel_rfl) (hpl : (backTo pos (starEach [] X.env)).any (·.1) = false := by kernel_rfl) :
    EN md X T W env (.Call (.Name x p) [a] [] pos) (N.bind ma fun d => N.l (R.lift (g d))) := fun F σ H Q I q => by
  refine (pe_callTy (pos := pos) (p := p) call_wp hg hm hv (pa_cons pe_wp pa_nil he) hn hdb he hpl).wp ?_
  refine nrunEE ha I q fun d F1 v H1 s1 r q1 => ?_
  exact ho.run F1 H1 v d Q (s1.ftr I.ftr) r q1.l.lift
theorem en_c2B {id : String} {x : Str} {p : Pos} {g : D → D → Option D} (ho : Cal2 md X T (.builtin id) g) (hv : bootBuiltins x = some (.builtin id)) (hm : X.mg x = none) (ha : EN .B X T W env a ma) (hb : EN .B X T W env b mb) (hg : Gl X x := by exact gl_of (by kernel_rfl)) (hn : x ≠ "__name__" := by exact ne_name (by kernel_rfl)) (hdb : (x == ("__debug__" : Str)) = false := by kernel_rfl)
    (he : starEach [a, b] X.env = (false, eval a X.env) :: starEach [b] X.env := by kernel_rfl) (he2 : starEach [b] X.env = (false, eval b X.env) :: starEach [] X.env := by kernel_rfl) (hpl : (backTo pos (starEach [b] X.env)).any (·.1) = false := by kernel_rfl) :
    EN md X T W env (.Call (.Name x p) [a, b] [] pos) (N.bind ma fun d => N.bind mb fun e => N.l (R.lift (g d e))) := fun F σ H Q I q => by
  refine (pe_callB (pos := pos) (p := p) call_wp hg hm hv (pa_cons pe_wp (pa_cons pe_wp pa_nil he2) he) hn hdb he hpl).wp ?_
  refine nrunEE ha I q fun d F1 v H1 s1 r q1 => ?_
  refine nrunEE hb (I.stp s1) q1 fun e F2 w H2 s2 r2 q2 => ?_
  exact ho.run F2 H2 v w d e Q (s2.ftr (s1.ftr I.ftr)) (s2.top r) r2 q2.l.lift
end

/-! ### a def that draws -/
def spN (K : PySem.W.Frag) (T : Tb) (mg : Str → Option Value) (md : Md) (n : Nat) (M : List D → N (R D)) : Sp := fun vs H Q E => vs.length = n ∧ ∃ (F : Addr → Prop) (ds : List D), (∀ a, F a → Dat H a) ∧ LamX.Tabs T H ∧ Reps K F H vs ds ∧
  ∃ P : R D → Prop, (∀ r, P r → match r with
  | .ok d => ∀ F' v H', Stp T F H F' H' → RepM K F' H' md H v d → Q v H'
  | .ex c => ∀ F' C dd H', Stp T F H F' H' → mg c = some (.ref C) → E (.ref C) dd H'
  | .st => False) ∧ M ds P
structure FnN (P : Program) (w : World) (K : PySem.W.Frag) (mg : Str → Option Value) (base : Heap) (T : Tb) (k : Nat) (x : Str) (n : Nat) (md : Md) (M : List D → N (R D)) : Prop where
  ex : ∃ (f : Addr) (fd : FuncData) (ps : List Str), mg x = some (.ref f) ∧ PySem.W.keepIn K (.ref f) = true ∧ Binds K fd ps [] ∧ FnOk P w K mg base (L2.CX P w) k f fd ps (spN K T mg md n M)
theorem FnN.mono {P : Program} {w : World} {K : PySem.W.Frag} {mg : Str → Option Value} {base : Heap} {T : Tb} {j k : Nat} {x : Str} {n : Nat} {md : Md} {M : List D → N (R D)} (h : FnN P w K mg base T j x n md M) (hk : j ≤ k) : FnN P w K mg base T k x n md M := by
  obtain ⟨f, fd, ps, h1, h2, h3, h4⟩ := h.ex
  exact ⟨f, fd, ps, h1, h2, h3, h4.mono hk⟩
section
variable {X : Cx} {T : Tb} {W : WX} {ip : List Nat} {rm : Md} {τ ρ τ' : Type} {inj : τ → List Sl} {injL : ρ → List Sl} {envX env : List Sl} {G : Gh} {F F' : Addr → Prop} {σ : Sg} {H H' : Hp} {ss : List Stmt} {e : Expr} {es : List Expr} {me : N (R D)} {mas : N (R (List D))} {md : Md} {pos : Pos}
/-- f(e, ..), f a def that draws -/
theorem en_call {k j n : Nat} {x : Str} {p : Pos} {M : List D → N (R D)} (Fn : FnN X.prog X.w X.K X.mg X.base T k x n md M) (hr : Room j X.A) (tk : Takes X W) (ha : AN X T W env (e :: es) mas) (hk : k ≤ j := by decide) (hn : (e :: es).length = n := by kernel_rfl) (hg : Gl X x := by exact gl_of (by kernel_rfl))
    (hdb : (x == ("__debug__" : Str)) = false := by kernel_rfl) (he : starEach (e :: es) X.env = (false, eval e X.env) :: starEach es X.env := by kernel_rfl) (hpl : (backTo pos (starEach es X.env)).any (·.1) = false := by kernel_rfl) :
    EN md X T W env (.Call (.Name x p) (e :: es) [] pos) (N.bind mas M) := fun F σ H Q I q => by
  obtain ⟨f, fd, ps, h1, h2, h3, h4⟩ := Fn.ex
  refine (pe_callS (pos := pos) (p := p) h4 (hr.mono hk) hg h1 h2 h3 (fun σ => passAt tk σ) pa_wp hdb he hpl).wp ?_
  refine nrunAE ha I q fun ds F1 vs H1 s1 r hl q1 => ?_
  obtain ⟨P, q2, q3⟩ := q1
  refine ⟨by rw [r.length, hl]; exact hn, F1, ds, s1.ftr I.ftr, s1.tabs I.tabs, r, P, fun r hr => ?_, q3⟩
  have := q2 r hr
  cases r with
  | ok d => exact this
  | ex c => exact this
  | st => exact this
/-- .. one that does not draw, arguments that draw -/
theorem en_callD {k j n : Nat} {x : Str} {p : Pos} {M : List D → R D} (Fn : FnD X.prog X.w X.K X.mg X.base T k x n md M) (hr : Room j X.A) (tk : Takes X W) (ha : AN X T W env (e :: es) mas) (hk : k ≤ j := by decide) (hn : (e :: es).length = n := by kernel_rfl) (hg : Gl X x := by exact gl_of (by kernel_rfl))
    (hdb : (x == ("__debug__" : Str)) = false := by kernel_rfl) (he : starEach (e :: es) X.env = (false, eval e X.env) :: starEach es X.env := by kernel_rfl) (hpl : (backTo pos (starEach es X.env)).any (·.1) = false := by kernel_rfl) :
    EN md X T W env (.Call (.Name x p) (e :: es) [] pos) (N.bind mas fun ds => N.l (M ds)) := fun F σ H Q I q => by
  obtain ⟨f, fd, ps, h1, h2, h3, h4⟩ := Fn.ex
  refine (pe_callS (pos := pos) (p := p) h4 (hr.mono hk) hg h1 h2 h3 (fun σ => passAt tk σ) pa_wp hdb he hpl).wp ?_
  refine nrunAE ha I q fun ds F1 vs H1 s1 r hl q1 => ?_
  refine ⟨by rw [r.length, hl]; exact hn, F1, ds, s1.ftr I.ftr, s1.tabs I.tabs, r, ?_⟩
  have := q1.l
  revert this
  cases M ds with
  | ok d => exact fun q1 => q1
  | ex c => exact fun q1 => q1
  | st => exact fun q1 => q1
end
end DL

-- DL8
set_option Elab.async false
set_option linter.all false
set_option maxRecDepth 100000
set_option maxHeartbeats 4000000
/-! The data layer: statements that draw. -/
namespace DL
open PySem PySem.Spec PyProof.Rows L2

section
variable {X : Cx} {T : Tb} {W : WX} {F F' F1 F2 : Addr → Prop} {σ : Sg} {H H' H1 H2 : Hp} {env : List Sl} {md md1 : Md} {e a b c tg iter : Expr} {es : List Expr} {m ma mb mc : N (R D)} {mt mt1 mt2 : N (R Bool)} {mas : N (R (List D))} {pos p p2 : Pos}
theorem en_join {apos : Pos} (ha : EN .B X T W env a ma) (hb : EN .B X T W env b mb) (hs : starEach [b] X.env = [(false, eval b X.env)] := by kernel_rfl) (hbase : attributeBase a "join" X.env (eval a X.env) = eval a X.env := by kernel_rfl) (hline : (apos.endLine == pos.line) = true := by kernel_rfl) :
    EN .S X T W env (.Call (.Attribute a "join" apos) [b] [] pos) (N.bind ma fun x => N.bind (N.l (strR x .ok)) fun x => N.bind mb fun y => N.l (R.lift (joinD x y))) := fun F σ H Q I q => by
  refine (pe_join (pos := pos) (apos := apos) pe_wp pe_wp hs hbase hline).wp ?_
  refine nrunEE ha I q fun x F1 vx H1 s1 rx q1 => ?_
  cases x <;> try (obtain ⟨P, h1, h2⟩ := q1; exact h2.elim)
  rename_i sa
  obtain ⟨e1, o1⟩ := top_str (RepM.toB (md := .B) (H1 := H) rx)
  subst e1
  refine ⟨⟨_, rfl⟩, ?_⟩
  refine nrunEE hb (I.stp s1) q1 fun y F2 vy H2 s2 ry q2 => ?_
  replace q2 := q2.l
  unfold joinD at q2
  cases e : (seqOf y).bind strsOf with
  | none => rw [e] at q2; exact q2.elim
  | some ys =>
    rw [e] at q2
    by_cases hl : (ys.map (·.length)).sum + ys.length * sa.length ≤ 16777216
    · rw [show ((some ys).bind fun ys => if (ys.map (·.length)).sum + ys.length * sa.length ≤ 16777216 then some (D.str (TL.joinL sa ys)) else none) = some (D.str (TL.joinL sa ys)) from if_pos hl] at q2
      have fin : ∀ {p : Addr} {vs : List V}, (SqL X.K H2 p vs ∨ SqT X.K H2 p vs) → Reps X.K F2 H2 vs (ys.map D.str) →
          ∃ a p', ∃ ys : List Str, V.str (SS sa) = .str a ∧ [V.ref p] = [.ref p'] ∧ (SqL X.K H2 p' (ys.map V.str) ∨ SqT X.K H2 p' (ys.map V.str)) ∧ (ys.map (·.length)).sum + ys.length * a.length ≤ 16777216 ∧ Q (.str (Txt.join a ys)) H2 := by
        intro p vs hp r
        refine ⟨SS sa, p, ys.map SS, rfl, rfl, by rw [← r.strs]; exact hp, ?_, ?_⟩
        · rw [List.map_map, List.length_map, SS_len, show ((fun s : Str => s.length) ∘ SS) = List.length from by funext s; exact SS_len s]
          exact hl
        · rw [SS_join]
          exact q2.lift.imm (.str _ (okc_join o1 r.strOk))
      cases y <;> try (cases e; done)
      · obtain ⟨p, vs, e1, h1, r1⟩ := top_tup ry
        have ey := strsOf_eq e
        subst ey
        subst e1
        exact fin (.inr h1) r1
      · obtain ⟨p, vs, e1, h1, r1⟩ := top_lst ry
        have ey := strsOf_eq e
        subst ey
        subst e1
        exact fin (.inl (.inl h1)) r1
    · rw [show ((some ys).bind fun ys => if (ys.map (·.length)).sum + ys.length * sa.length ≤ 16777216 then some (D.str (TL.joinL sa ys)) else none) = none from if_neg hl] at q2
      exact q2.elim

/-! ### iterables that draw -/
theorem in_any (ha : EN md X T W env e ma) (hm : md = .S ∨ md = .B) : IN md X T W env tg e (N.bind ma fun x => N.l (R.lift (iterD x))) := fun F σ H Rr I q => by
  refine (pi_any pe_wp).wp ?_
  refine nrunEI ha I q fun d F1 v H1 s1 r q1 => ?_
  replace q1 : PostI md X T W F1 σ H1 (R.lift (iterD d)) Rr := q1.l
  have top : Top X.K F1 H1 v d := RepM.toB r
  cases d <;> try exact q1.elim
  · rename_i z
    obtain ⟨e1, o1⟩ := top_str top
    by_cases hl : z.length ≤ sizeLine
    · rw [show iterD (.str z) = some (z.map fun c => D.str [c]) from if_pos hl] at q1
      exact .inr (.inr ⟨_, e1, q1 F1 H1 _ .refl (walkD_str o1) (by rw [List.length_map]; exact hl)⟩)
    · rw [show iterD (.str z) = none from if_neg hl] at q1
      exact q1.elim
  · obtain ⟨a, vs, e1, h1, r1⟩ := top_tup top
    exact .inr (.inl ⟨a, e1, vs, h1, fun hz => q1 F1 H1 _ .refl (walkD_tup h1 r1) (by rw [← r1.length]; exact hz)⟩)
  · rename_i xs
    rcases hm with e | e
    · subst e
      have r' : Rep X.K F1 H1 v (.lst xs) := r
      cases r' with
      | lst hF h hs => exact .inl ⟨_, rfl, _, .inl h, fun hz => q1 F1 H1 _ .refl (walkD_lst (fun _ => hF) h hs) (by rw [← hs.length]; exact hz)⟩
    · subst e
      obtain ⟨a, vs, e1, h1, r1⟩ := top_lst top
      exact .inl ⟨a, e1, vs, .inl h1, fun hz => q1 F1 H1 _ .refl (walkD_lst (fun z => nomatch z) h1 r1) (by rw [← r1.length]; exact hz)⟩
theorem in_r1 (ha : EN .S X T W env a ma) (hm : X.mg "range" = none) (hg : Gl X "range" := by exact gl_of (by kernel_rfl)) (hs : starEach [a] X.env = [(false, eval a X.env)] := by kernel_rfl) : IN md X T W env tg (.Call (.Name "range" p) [a] [] pos) (N.bind ma fun x => N.l (R.lift (rng1 x))) := fun F σ H Rr I q => by
  refine (pi_range1 (p := p) (pos := pos) hg hm (pa_cons pe_wp pa_nil (by rw [hs]; rfl)) hs).wp ?_
  refine nrunEI ha I q fun d F1 v H1 s1 r q1 => ?_
  replace q1 : PostI md X T W F1 σ H1 (R.lift (rng1 d)) Rr := q1.l
  cases d <;> try exact q1.elim
  rename_i j
  cases r
  by_cases hj : int62 j ∧ j.toNat ≤ sizeLine
  · rw [show rng1 (.int j) = some (rangeL 0 j.toNat 1) from if_pos (chk_of hj)] at q1
    exact ⟨j, rfl, hj.1.1, hj.1.2, q1 F1 H1 _ .refl walkD_rng (by rw [rangeL_len]; exact hj.2)⟩
  · rw [show rng1 (.int j) = none from if_neg (fun z => hj (chk_true.mp z))] at q1
    exact q1.elim
theorem in_r2 (ha : EN .S X T W env a ma) (hb : EN .S X T W env b mb) (hm : X.mg "range" = none) (hg : Gl X "range" := by exact gl_of (by kernel_rfl)) (hs : starEach [a, b] X.env = [(false, eval a X.env), (false, eval b X.env)] := by kernel_rfl) (hs2 : starEach [b] X.env = [(false, eval b X.env)] := by kernel_rfl) :
    IN md X T W env tg (.Call (.Name "range" p) [a, b] [] pos) (N.bind ma fun x => N.bind mb fun y => N.l (R.lift (rng2 x y))) := fun F σ H Rr I q => by
  refine (pi_range2 (p := p) (pos := pos) hg hm (pa_cons pe_wp (pa_cons pe_wp pa_nil (by rw [hs2]; rfl)) (by rw [hs, hs2])) hs hs2).wp ?_
  refine nrunEI ha I q fun d F1 v H1 s1 r q1 => ?_
  refine nrunEI hb (I.stp s1) q1 fun d2 F2 v2 H2 s2 r2 q2 => ?_
  replace q2 : PostI md X T W F2 σ H2 (R.lift (rng2 d d2)) Rr := q2.l
  cases d <;> try exact q2.elim
  rename_i i
  cases d2 <;> try exact q2.elim
  rename_i j
  cases r
  cases r2
  by_cases hj : (int62 i ∧ int62 j) ∧ (j - i).toNat ≤ sizeLine
  · rw [show rng2 (.int i) (.int j) = some (rangeL i (j - i).toNat 1) from if_pos (chk_of hj)] at q2
    exact ⟨i, j, rfl, ⟨hj.1.1.1, hj.1.1.2, hj.1.2.1, hj.1.2.2⟩, q2 F2 H2 _ .refl walkD_rng (by rw [rangeL_len]; exact hj.2)⟩
  · rw [show rng2 (.int i) (.int j) = none from if_neg (fun z => hj (chk_true.mp z))] at q2
    exact q2.elim
end

/-! ### statements -/
def NPostS {τ ρ : Type} (X : Cx) (T : Tb) (W : WX) (G : Gh) (ip : List Nat) (rm : Md) (inj : τ → List Sl) (injL : ρ → List Sl) (envX : List Sl) (F : Addr → Prop) (H : Hp) (m : N (O τ ρ)) (D : Ends) : Prop :=
  ∃ P : O τ ρ → Prop, (∀ o, P o → PostS X T W G ip rm inj injL envX F H o D) ∧ m P
def SN {τ ρ : Type} (X : Cx) (T : Tb) (W : WX) (ip : List Nat) (rm : Md) (inj : τ → List Sl) (injL : ρ → List Sl) (envX env : List Sl) (ss : List Stmt) (m : N (O τ ρ)) : Prop :=
  ∀ G F σ H D, ER2 X.K T G ip F σ H env → NPostS X T W G ip rm inj injL envX F H m D → wpS X ss D σ H
section
variable {X : Cx} {T : Tb} {W : WX} {ip : List Nat} {rm : Md} {τ ρ τ' : Type} {inj : τ → List Sl} {injL : ρ → List Sl} {envX env : List Sl} {G : Gh} {F F' : Addr → Prop} {σ : Sg} {H H' : Hp} {ss : List Stmt} {e tg iter elt : Expr} {es : List Expr} {me : N (R D)} {mas : N (R (List D))} {m : N (O τ ρ)} {md : Md} {pos : Pos}
theorem NPostS.grow {D : Ends} (g : Grow F H F' H') (h : NPostS X T W G ip rm inj injL envX F H m D) : NPostS X T W G ip rm inj injL envX F' H' m D := by
  obtain ⟨P, h1, h2⟩ := h
  exact ⟨P, fun o ho => PostS.grow g (h1 o ho), h2⟩
theorem NPostS.l {o : O τ ρ} {D : Ends} (h : NPostS X T W G ip rm inj injL envX F H (N.l o) D) : PostS X T W G ip rm inj injL envX F H o D := by
  obtain ⟨P, h1, h2⟩ := h
  exact h1 o h2
theorem sn_of {o : O τ ρ} (h : DS X T W ip rm inj injL envX env ss o) : SN X T W ip rm inj injL envX env ss (N.l o) := fun G F σ H D I q => h G F σ H D I q.l
theorem nrunS {Q1 : VK} {f : D → N (O τ ρ)} {D : Ends} (he : EN md X T W env e me) (wx : True) (I : ER2 X.K T G ip F σ H env) (h : NPostS X T W G ip rm inj injL envX F H (N.ofR me f) D)
    (k : ∀ d F' v H', Stp T F H F' H' → RepM X.K F' H' md H v d → ER2 X.K T G ip F' σ H' env → NPostS X T W G ip rm inj injL envX F' H' (f d) D → Q1 v H') : wpE X e σ H Q1 := by
  obtain ⟨P, h1, h2⟩ := h
  refine he F σ H Q1 I.er ⟨_, fun r hr => ?_, h2⟩
  cases r with
  | ok d => exact fun F' v H' s r => k d F' v H' s r (I.stp s) (NPostS.grow s.grow ⟨P, h1, hr⟩)
  | ex c => exact fun F' C dd H' s hm => h1 _ hr F' C dd σ H' (I.stp s).nos hm
  | st => exact hr.elim
theorem nrunST {mt : N (R Bool)} {Q1 : Bool → Hp → Prop} {f : Bool → N (O τ ρ)} {D : Ends} (he : TN X T W env e mt) (wx : True) (I : ER2 X.K T G ip F σ H env) (h : NPostS X T W G ip rm inj injL envX F H (N.ofR mt f) D)
    (k : ∀ b F' H', Stp T F H F' H' → ER2 X.K T G ip F' σ H' env → NPostS X T W G ip rm inj injL envX F' H' (f b) D → Q1 b H') : wpT X e σ H Q1 := by
  obtain ⟨P, h1, h2⟩ := h
  refine he F σ H Q1 I.er ⟨_, fun r hr => ?_, h2⟩
  cases r with
  | ok d => exact fun F' H' s => k d F' H' s (I.stp s) (NPostS.grow s.grow ⟨P, h1, hr⟩)
  | ex c => exact fun F' C dd H' s hm => h1 _ hr F' C dd σ H' (I.stp s).nos hm
  | st => exact hr.elim
theorem sn_nil {s : τ} (w : Wk env (inj s)) : SN X T W ip rm inj injL envX env [] (N.l (.nx s)) := sn_of (dss_nil w)
theorem sn_set {i : Nat} {x : Str} {p' : Pos} {f : D → N (O τ ρ)} (he : EN .S X T W env e me) (hr : ∀ d, SN X T W ip rm inj injL envX (env.set i (.sh d)) ss (f d)) (wx : True) (hN : X.N.Nodup) (hi : X.N[i]? = some x := by kernel_rfl)
    (hx : Loc X.env.scope x := by exact loc_of (by kernel_rfl)) (hip : i ∉ ip := by decide) (hs : swapsWith e (some (.Name x p')) pos.line X.env = pure false := by kernel_rfl) (hf : X.fn x = true ∨ X.env.scope.names.lookup x = some .local := by first | exact .inl rfl | exact .inr rfl) :
    SN X T W ip rm inj injL envX env (.Assign [.Name x p'] e pos :: ss) (N.ofR me f) := fun G F σ H D I h => by
  refine wpS_cons (ps_set (pos := pos) (pos' := p') hN hi hx pe_wp hs hf) ?_
  refine nrunS he wx I h fun d F1 v H1 s1 r I1 q1 => ?_
  exact hr d G F1 _ H1 D (I1.set_sh r hip) q1
theorem sn_setO {i : Nat} {x : Str} {p' : Pos} {f : D → N (O τ ρ)} (he : EN .O X T W env e me) (hr : ∀ d, SN X T W ip rm inj injL envX (env.set i (.ow d)) ss (f d)) (wx : True) (hN : X.N.Nodup) (hi : X.N[i]? = some x := by kernel_rfl)
    (hx : Loc X.env.scope x := by exact loc_of (by kernel_rfl)) (hip : i ∉ ip := by decide) (hs : swapsWith e (some (.Name x p')) pos.line X.env = pure false := by kernel_rfl) (hf : X.fn x = true ∨ X.env.scope.names.lookup x = some .local := by first | exact .inl rfl | exact .inr rfl) :
    SN X T W ip rm inj injL envX env (.Assign [.Name x p'] e pos :: ss) (N.ofR me f) := fun G F σ H D I h => by
  refine wpS_cons (ps_set (pos := pos) (pos' := p') hN hi hx pe_wp hs hf) ?_
  refine nrunS he wx I h fun d F1 v H1 s1 r I1 q1 => ?_
  obtain ⟨a, rfl, h0, nf, o⟩ := r
  refine hr d G F1 _ H1 D (I1.set_ow o nf (fun j hj => ?_) (I.back h0) hip) q1
  obtain ⟨d', _, o'⟩ := I.er.own hj
  exact h0 o'.tr
theorem sn_par {i j : Nat} {x y : Str} {a b : Expr} {px py pt : Pos} {kt k2 : Nat} {pt2 : Pos} {f : D → D → N (O τ ρ)} (ha : AN X T W env [a, b] mas)
    (hr : ∀ c d, SN X T W ip rm inj injL envX ((env.set i (.sh c)).set j (.sh d)) ss (f c d)) (wx : True) (hc : X.calm = true) (hN : X.N.Nodup)
    (hi : X.N[i]? = some x := by kernel_rfl) (hj : X.N[j]? = some y := by kernel_rfl) (hij : i ≠ j := by decide) (hx : X.env.scope.names.lookup x = some .local := by kernel_rfl) (hy : X.env.scope.names.lookup y = some .local := by kernel_rfl) (hip : i ∉ ip := by decide) (hjp : j ∉ ip := by decide)
    (hw : swappedStores [.Tuple [.Name x px, .Name y py] kt pt] (.Tuple [a, b] k2 pt2) X.env = pure (some [x, y]) := by kernel_rfl)
    (hs : swapsWithSole [.Tuple [.Name x px, .Name y py] kt pt] (.Tuple [a, b] k2 pt2) pos.line X.env = pure false := by kernel_rfl) :
    SN X T W ip rm inj injL envX env (.Assign [.Tuple [.Name x px, .Name y py] kt pt] (.Tuple [a, b] k2 pt2) pos :: ss) (N.ofR mas fun ds => match ds with | [c, d] => f c d | _ => N.l .st) := fun G F σ H D I ⟨P, h1, h2⟩ => by
  refine wpS_cons (ps_par (pos := pos) hc hN hi hj hij hx hy pa_wp hw hs) ?_
  refine ha F σ H _ I.er ⟨_, fun r hr' hlen => ?_, h2⟩
  cases r with
  | ok ds =>
    intro F' vs H' s r
    have hl := hlen ds rfl
    match ds, hl, r, hr' with
    | [c, d], _, .cons r1 (.cons r2 .nil), hr' =>
      exact ⟨_, _, rfl, hr c d G F' _ H' D (((I.stp s).set_sh r1 hip).set_sh r2 hjp) (NPostS.grow s.grow ⟨P, h1, hr'⟩)⟩
  | ex c => exact fun F' C dd H' s hm => h1 _ hr' F' C dd σ H' (I.stp s).nos hm
  | st => exact hr'.elim
theorem sn_if {c : Expr} {a b : List Stmt} {mt : N (R Bool)} {inj1 : τ' → List Sl} {oa ob : N (O τ' ρ)} {f : τ' → N (O τ ρ)} (hc : TN X T W env c mt) (ha : SN X T W ip rm inj1 injL envX env a oa) (hb : SN X T W ip rm inj1 injL envX env b ob)
    (hr : ∀ s, SN X T W ip rm inj injL envX (inj1 s) ss (f s)) (wx : True) : SN X T W ip rm inj injL envX env (.If c a b pos :: ss) (N.seq (N.ofR mt fun k => if k = true then oa else ob) f) := fun G F σ H D I ⟨P, h1, h2⟩ => by
  refine wpS_cons (ps_if (pos := pos) pt_wp ps_wp ps_wp) ?_
  have h' : NPostS X T W G ip rm inj1 injL envX F H (N.ofR mt fun k => if k = true then oa else ob) { D with nx := wpS X ss D } := by
    refine ⟨_, fun o ho => ?_, h2⟩
    cases o with
    | nx s => exact fun F' σ' H' I' g => hr s G F' σ' H' D I' (NPostS.grow g ⟨P, h1, ho⟩)
    | rt d us => exact h1 _ ho
    | bk s => exact h1 _ ho
    | ct s => exact h1 _ ho
    | xc c => exact h1 _ ho
    | st => exact ho.elim
  refine nrunST hc wx I h' fun k F1 H1 s1 I1 q1 => ?_
  cases k with
  | true => exact ha G F1 σ H1 _ I1 q1
  | false => exact hb G F1 σ H1 _ I1 q1
theorem sn_ret {us : List D} (he : EN rm X T W env e me) (wx : True) (hu : ioUs env ip us) : SN X T W ip rm inj injL envX env (.Return (some e) pos :: ss) (N.ofR me fun d => N.l (.rt d us)) := fun G F σ H D I h => by
  refine wpS_cons (ps_ret (pos := pos) pe_wp) ?_
  refine nrunS (f := fun d => N.l (.rt d us)) he wx I h fun d F1 v H1 s1 r I1 q1 => ?_
  refine q1.l F1 v H1 I1.stpR ?_ (owns_of (A := G.A) I1.er I1.io hu)
  cases rm with
  | S => exact r
  | B => exact r
  | O => obtain ⟨a, e, h0, nf, o⟩ := r; exact ⟨a, e, I.back h0, nf, o⟩
theorem sn_expr {f : N (O τ ρ)} (he : EN md X T W env e me) (hr : SN X T W ip rm inj injL envX env ss f) (wx : True) (hs : swapsWith e none pos.line X.env = pure false := by kernel_rfl) :
    SN X T W ip rm inj injL envX env (.Expr e pos :: ss) (N.ofR me fun _ => f) := fun G F σ H D I h => by
  refine wpS_cons (ps_expr (pos := pos) pe_wp hs) ?_
  exact nrunS (f := fun _ => f) he wx I h fun d F1 v H1 s1 r I1 q1 => hr G F1 σ H1 D I1 q1
theorem sn_freeze {i : Nat} {d : D} (hv : env[i]? = some (.ow d)) (hr : SN X T W ip rm inj injL envX (env.set i (.sh d)) ss m) (hip : i ∉ ip := by decide) (hA : ∀ (k j : Nat), ip[k]? = some j → ∃ d, env[j]? = some (Sl.ow d)) : SN X T W ip rm inj injL envX env ss m := fun G F σ H D I h => by
  obtain ⟨F', I', g⟩ := I.freeze hv hip hA
  exact hr G F' σ H D I' (NPostS.grow g h)
theorem sn_break {s : ρ} (w : Wk env (injL s)) : SN X T W ip rm inj injL envX env (.Break pos :: ss) (N.l (.bk s)) := sn_of (dss_break w)
theorem sn_continue {s : ρ} (w : Wk env (injL s)) : SN X T W ip rm inj injL envX env (.Continue pos :: ss) (N.l (.ct s)) := sn_of (dss_continue w)
/-- a, b = e -/
def SNo {τ ρ : Type} (X : Cx) (T : Tb) (W : WX) (ip : List Nat) (rm : Md) (inj : τ → List Sl) (injL : ρ → List Sl) (envX : List Sl) (oe : Option (List Sl)) (ss : List Stmt) (m : N (O τ ρ)) : Prop :=
  match oe with
  | some env => SN X T W ip rm inj injL envX env ss m
  | none => m = N.l .st
theorem sn_asgP {tg : Expr} {pt : Pat} {f : D → N (O τ ρ)} (he : EN .S X T W env e me) (hg : GT X tg pt) (hr : ∀ d, SNo X T W ip rm inj injL envX (pt.bind d env) ss (f d)) (wx : True) (hip : ∀ i ∈ pt.ixs, i ∉ ip := by decide)
    (hs : swapsWithSole [tg] e pos.line X.env = pure false := by kernel_rfl) (hw : swappedStores [tg] e X.env = pure none := by kernel_rfl) (h1 : (assignEach [tg] X.env).map (·.2) = [assign tg X.env] := by kernel_rfl) :
    SN X T W ip rm inj injL envX env (.Assign [tg] e pos :: ss) (N.ofR me f) := fun G F σ H D I h => by
  refine wpS_cons (ps_asg (pos := pos) pe_wp pg_wp hs hw h1) ?_
  refine nrunS he wx I h fun d F1 v H1 s1 r I1 q1 => ?_
  have hd := hr d
  cases eb : pt.bind d env with
  | none =>
    rw [eb] at hd
    have z : f d = N.l .st := hd
    rw [z] at q1
    exact q1.l.elim
  | some env3 =>
    rw [eb] at hd
    refine hg F1 H1 v d σ _ r (fun env' => pat_dec (by rw [eb]; simp) env') fun σ4 u4 => ?_
    exact hd G F1 σ4 H1 D (Pat.er2 u4 eb hip I1) q1
theorem sno_nm {i : Nat} {d : D} (h : SN X T W ip rm inj injL envX (env.set i (.sh d)) ss m) : SNo X T W ip rm inj injL envX ((Pat.nm i).bind d env) ss m := h
theorem binds2_none {p q : Pat} {xs : List D} (hx : ∀ a b, xs ≠ [a, b]) : Pat.binds [p, q] xs env = none := by
  cases e : Pat.binds [p, q] xs env with
  | none => rfl
  | some z =>
    have := binds_len (by rw [e]; simp)
    match xs, this with
    | [a, b], _ => exact absurd rfl (hx a b)
theorem binds2_some {p q : Pat} {a b : D} : Pat.binds [p, q] [a, b] env = (p.bind a env).bind (q.bind b) := by
  show (p.bind a env).bind (fun e => (q.bind b e).bind (Pat.binds [] [])) = _
  cases p.bind a env with
  | none => rfl
  | some e => show (q.bind b e).bind (Pat.binds [] []) = q.bind b e; cases q.bind b e <;> rfl
theorem sno_2 {p q : Pat} {d : D} {m : D → D → N (O τ ρ)} (h : ∀ a b, SNo X T W ip rm inj injL envX ((p.bind a env).bind (q.bind b)) ss (m a b)) : SNo X T W ip rm inj injL envX ((Pat.tp [p, q]).bind d env) ss (tup2 (N.l .st) d m) := by
  cases d with
  | tup xs =>
    match xs with
    | [a, b] => show SNo _ _ _ _ _ _ _ _ (Pat.binds [p, q] [a, b] env) _ _; rw [binds2_some]; exact h a b
    | [] => exact rfl
    | [a] => show SNo _ _ _ _ _ _ _ _ (Pat.binds [p, q] [a] env) _ _; rw [binds2_none (by intros; simp)]; exact rfl
    | a :: b :: c :: r => show SNo _ _ _ _ _ _ _ _ (Pat.binds [p, q] (a :: b :: c :: r) env) _ _; rw [binds2_none (by intros; simp)]; exact rfl
  | _ => exact rfl

/-! ### loops -/
def forN {σ ρ : Type} : List D → σ → (D → σ → N (O σ σ)) → N (O σ ρ)
  | [], s, _ => N.l (.nx s)
  | d :: ds, s, f => fun P => f d s fun o => match o with
    | .nx s' => forN ds s' f P
    | .ct s' => forN ds s' f P
    | .bk s' => P (.nx s')
    | .rt d us => P (.rt d us)
    | .xc c => P (.xc c)
    | .st => False
def whileN {σ ρ : Type} : Nat → σ → (σ → N (R Bool)) → (σ → N (O σ σ)) → N (O σ ρ)
  | 0, _, _, _ => fun _ => False
  | n + 1, s, c, f => fun P => c s fun r => match r with
    | .ok true => f s fun o => match o with
      | .nx s' => whileN n s' c f P
      | .ct s' => whileN n s' c f P
      | .bk s' => P (.nx s')
      | .rt d us => P (.rt d us)
      | .xc c => P (.xc c)
      | .st => False
    | .ok false => P (.nx s)
    | .ex c => P (.xc c)
    | .st => False
theorem sn_for {tg iter : Expr} {body : List Stmt} {mi : N (R (List D))} {pt : Pat} {τb : Type} {injb : τb → List Sl} {s0 : τb} {ob : D → τb → N (O τb τb)} {f : τb → N (O τ ρ)} (hi : IN .S X T W env tg iter mi) (hg : GT X tg pt)
    (hb : ∀ d s, SNo X T W ip rm injb injb envX (pt.bind d (injb s)) body (ob d s)) (hr : ∀ s, SN X T W ip rm inj injL envX (injb s) ss (f s)) (w0 : Wk env (injb s0)) (wx : True) (hp : PassesOwn (model X.prog X.w) X.A X.env X.xe) (hc : X.calm = true)
    (hip : ∀ i ∈ pt.ixs, i ∉ ip := by decide) (hs : ∀ x, foldedSetIterable iter X.env x = pure x := by intro _; kernel_rfl) :
    SN X T W ip rm inj injL envX env (.For tg iter body [] pos :: ss) (N.seq (N.ofR mi fun ds => forN ds s0 ob) f) := fun G F σ H D I ⟨P, hP, h⟩ => by
  refine wpS_cons (ps_for (pos := pos) hp hc pi_wp pg_wp ps_wp hs) ?_
  refine hi F σ H _ I.er ⟨_, fun r hr' => ?_, h⟩
  cases r with
  | ex c => exact fun F' C dd H' s hm => hP _ hr' F' C dd σ H' (I.stp s).nos hm
  | st => exact hr'.elim
  | ok ds =>
    intro F1 H1 J s1 ⟨Gd, gst, ggo, gstop, gyld⟩ _
    have hP1 : ∀ o, P o → PostS X T W G ip rm inj injL envX F1 H1 o D := fun o ho => PostS.grow s1.grow (hP o ho)
    refine ⟨fun i m σ' H' => ∃ F' s, m = ds.length - i ∧ i ≤ ds.length ∧ ER2 X.K T G ip F' σ' H' (injb s) ∧ Grow F1 H1 F' H' ∧ (forN (ds.drop i) s ob : N (O τb ρ)) (N.aftP P f), ⟨_, F1, s0, rfl, Nat.zero_le _, (I.stp s1).wk w0, .refl, by rw [List.drop_zero]; exact hr'⟩, ?_⟩
    rintro i m σ2 H2 ⟨F2, s, rfl, hil, I2, w2, h2⟩
    have g2 : Gd F2 H2 := gst F2 H2 (fun _ => w2) (fun z => absurd rfl z)
    by_cases hlt : i < ds.length
    · refine .inr ⟨ggo i F2 H2 hlt g2, fun σ' H' => ∃ F' s, ER2 X.K T G ip F' σ' H' (injb s) ∧ Grow F1 H1 F' H' ∧ (forN (ds.drop (i + 1)) s ob : N (O τb ρ)) (N.aftP P f), fun σ' H' ⟨F', s, a, b, c⟩ => ⟨ds.length - (i + 1), by omega, F', s, rfl, hlt, a, b, c⟩, fun x H3 hy => ?_⟩
      obtain ⟨d, hd, F3, s3, r3⟩ := gyld i F2 H2 x H3 hlt g2 hy
      have I3 := I2.stp s3
      have w3 := w2.trans s3.grow
      have ed : ds.drop i = d :: ds.drop (i + 1) := by
        rw [List.drop_eq_getElem_cons hlt]
        have := (List.getElem?_eq_some_iff.mp hd).2
        rw [this]
      rw [ed] at h2
      have hbd := hb d s
      cases eb : pt.bind d (injb s) with
      | none =>
        rw [eb] at hbd
        have z : ob d s = N.l .st := hbd
        have h4 : (ob d s) (fun o => match o with | .nx s' => forN (ds.drop (i + 1)) s' ob (N.aftP P f) | .ct s' => forN (ds.drop (i + 1)) s' ob (N.aftP P f) | .bk s' => N.aftP P f (.nx s') | .rt d us => N.aftP P f (.rt d us) | .xc c => N.aftP P f (.xc c) | .st => False) := h2
        rw [z] at h4
        exact h4.elim
      | some env3 =>
        rw [eb] at hbd
        have hbd : SN X T W ip rm injb injb envX env3 body (ob d s) := hbd
        refine hg F3 H3 x d σ2 _ r3 (fun env' => pat_dec (by rw [eb]; simp) env') fun σ4 u4 => ?_
        have I4 := Pat.er2 u4 eb hip I3
        refine hbd G F3 σ4 H3 _ I4 ⟨_, fun o ho => ?_, h2⟩
        cases o with
        | nx s' => exact fun F5 σ5 H5 I5 g5 => ⟨F5, s', I5, w3.trans g5, ho⟩
        | ct s' => exact fun F5 σ5 H5 I5 g5 => ⟨F5, s', I5, w3.trans g5, ho⟩
        | bk s' => exact fun F5 σ5 H5 I5 g5 => hr s' G F5 σ5 H5 D I5 ⟨P, fun o ho => PostS.grow (w3.trans g5) (hP1 o ho), ho⟩
        | rt d us => exact PostS.grow w3 (hP1 _ ho)
        | xc c => exact PostS.grow w3 (hP1 _ ho)
        | st => exact ho.elim
    · have e : i = ds.length := by omega
      subst e
      refine .inl ⟨gstop F2 H2 g2, ?_⟩
      rw [List.drop_length] at h2
      exact hr s G F2 σ2 H2 D I2 ⟨P, fun o ho => PostS.grow w2 (hP1 o ho), h2⟩
theorem sn_while {c : Expr} {body : List Stmt} {τb : Type} {injb : τb → List Sl} {s0 : τb} {n : Nat} {mc : τb → N (R Bool)} {ob : τb → N (O τb τb)} {f : τb → N (O τ ρ)} (hcn : ∀ s, TN X T W (injb s) c (mc s))
    (hb : ∀ s, SN X T W ip rm injb injb envX (injb s) body (ob s)) (hr : ∀ s, SN X T W ip rm inj injL envX (injb s) ss (f s)) (w0 : Wk env (injb s0)) (wx : True) (hp : PassesOwn (model X.prog X.w) X.A X.env X.xe) :
    SN X T W ip rm inj injL envX env (.While c body [] pos :: ss) (N.seq (whileN n s0 mc ob : N (O τb ρ)) f) := fun G F σ H D I ⟨P, hP, h⟩ => by
  refine wpS_cons (ps_while (pos := pos) hp pt_wp ps_wp) ?_
  refine ⟨fun m σ' H' => ∃ F' s, ER2 X.K T G ip F' σ' H' (injb s) ∧ Grow F H F' H' ∧ (whileN m s mc ob : N (O τb ρ)) (N.aftP P f), ⟨n, F, s0, I.wk w0, .refl, h⟩, ?_⟩
  rintro m σ1 H1 ⟨F1, s, I1, w1, h1⟩
  cases m with
  | zero => exact h1.elim
  | succ m =>
    refine hcn s F1 σ1 H1 _ I1.er ⟨_, fun r hr' => ?_, h1⟩
    cases r with
    | ex c => exact fun F' C dd H' st hm => hP _ hr' F' C dd σ1 H' (I1.stp st).nos hm
    | st => exact hr'.elim
    | ok k =>
      intro F2 H2 s2
      have I2 := I1.stp s2
      have w2 := w1.trans s2.grow
      cases k with
      | false =>
        rw [if_neg Bool.false_ne_true]
        exact hr s G F2 σ1 H2 D I2 ⟨P, fun o ho => PostS.grow w2 (hP o ho), hr'⟩
      | true =>
        rw [if_pos rfl]
        refine ⟨fun σ' H' => ∃ F' s, ER2 X.K T G ip F' σ' H' (injb s) ∧ Grow F H F' H' ∧ (whileN m s mc ob : N (O τb ρ)) (N.aftP P f), fun σ' H' ⟨F', s, a, b⟩ => ⟨m, Nat.lt_succ_self m, F', s, a, b⟩, ?_⟩
        refine hb s G F2 σ1 H2 _ I2 ⟨_, fun o ho => ?_, hr'⟩
        cases o with
        | nx s' => exact fun F5 σ5 H5 I5 g5 => ⟨F5, s', I5, w2.trans g5, ho⟩
        | ct s' => exact fun F5 σ5 H5 I5 g5 => ⟨F5, s', I5, w2.trans g5, ho⟩
        | bk s' => exact fun F5 σ5 H5 I5 g5 => hr s' G F5 σ5 H5 D I5 ⟨P, fun o ho => PostS.grow (w2.trans g5) (hP o ho), ho⟩
        | rt d us => exact PostS.grow w2 (hP _ ho)
        | xc c => exact PostS.grow w2 (hP _ ho)
        | st => exact ho.elim
end
end DL

-- DL9
set_option Elab.async false
set_option linter.all false
set_option maxRecDepth 100000
set_option maxHeartbeats 4000000
/-! The data layer: comprehensions that draw, changes of lists. -/
namespace DL
open PySem PySem.Spec PyProof.Rows L2

def compN {α : Type} : List D → (D → N (R (Option α))) → N (R (List α))
  | [], _ => N.l (.ok [])
  | d :: ds, f => N.bind (N.nx (f d)) fun o => N.bind (compN ds f) fun ys => N.l (.ok (optC o ys))
def itN (mt : N (R Bool)) (me : N (R D)) : N (R (Option D)) := N.bind mt fun k => if k = true then N.bind me fun y => N.l (.ok (some y)) else N.l (.ok none)
section
variable {X : Cx} {T : Tb} {W : WX} {ip : List Nat} {rm : Md} {τ ρ τ' : Type} {inj : τ → List Sl} {injL : ρ → List Sl} {envX env env2 : List Sl} {G : Gh} {F F' : Addr → Prop} {σ : Sg} {H H' : Hp} {ss : List Stmt} {e a b c tg elt iter : Expr} {es : List Expr} {me ma mb mc : N (R D)} {mas : N (R (List D))} {mt : N (R Bool)} {md : Md} {pos p : Pos}
inductive TNs (X : Cx) (T : Tb) (W : WX) (env : List Sl) : List Expr → N (R Bool) → Prop
  | nil : TNs X T W env [] (N.l (.ok true))
  | one {c : Expr} {m : N (R Bool)} : TN X T W env c m → TNs X T W env [c] m
/-- the block of a comprehension, for an item d -/
def CN (X : Cx) (T : Tb) (scope : Scope) (oe : Option (List Sl)) (ifs : List Expr) (elt : Expr) (m : N (R (Option D))) : Prop :=
  match oe with
  | some env2 => ∃ mt me, m = itN mt me ∧ (∀ q : Blk, TNs (blkOf X scope q) T W0 env2 ifs mt) ∧ ∀ q : Blk, EN .S (blkOf X scope q) T W0 env2 elt me
  | none => m = N.l .st
theorem cn_mk {scope : Scope} {ifs : List Expr} (ht : ∀ q : Blk, TNs (blkOf X scope q) T W0 env2 ifs mt) (he : ∀ q : Blk, EN .S (blkOf X scope q) T W0 env2 elt me) : CN X T scope (some env2) ifs elt (itN mt me) := ⟨mt, me, rfl, ht, he⟩
theorem cn_nm {scope : Scope} {ifs : List Expr} {i : Nat} {d : D} {m : N (R (Option D))} (h : CN X T scope (some (env.set i (.sh d))) ifs elt m) : CN X T scope ((Pat.nm i).bind d env) ifs elt m := h
theorem cn_2 {scope : Scope} {ifs : List Expr} {p q : Pat} {d : D} {m : D → D → N (R (Option D))} (h : ∀ a b, CN X T scope ((p.bind a env).bind (q.bind b)) ifs elt (m a b)) : CN X T scope ((Pat.tp [p, q]).bind d env) ifs elt (tup2 (N.l .st) d m) := by
  cases d with
  | tup xs =>
    match xs with
    | [a, b] => show CN _ _ _ (Pat.binds [p, q] [a, b] env) _ _ _; rw [binds2_some]; exact h a b
    | [] => exact rfl
    | [a] => show CN _ _ _ (Pat.binds [p, q] [a] env) _ _ _; rw [binds2_none (by intros; simp)]; exact rfl
    | a :: b :: c :: r => show CN _ _ _ (Pat.binds [p, q] (a :: b :: c :: r) env) _ _ _; rw [binds2_none (by intros; simp)]; exact rfl
  | _ => exact rfl
/-- tests that do not draw, tests that do -/
theorem tns_of {ifs : List Expr} {m : R Bool} (h : DTs X T W env ifs m) : TNs X T W env ifs (N.l m) := by
  cases h with
  | nil => exact .nil
  | one h => exact .one (tn_of h)
theorem tns_run {X : Cx} {ifs : List Expr} {Q : Bool → Hp → Prop} (h : TNs X T W env ifs mt) (I : ER X.K T F σ H env) (q : NPostT X T W F σ H mt Q) : wpTs X ifs σ H Q := by
  cases h with
  | nil => exact fun pins s Iv => pts_nil.run pins s σ H Q Iv (q.l F H .refl)
  | one h => exact fun pins s Iv => (pts_one pt_wp).run pins s σ H Q Iv (h F σ H Q I q)
theorem lcn_run {mi : N (R (List D))} {pt : Pat} {scope : Scope} {ifs : List Expr} {own : List (Str × Nat)} {f : D → N (R (Option D))} {Q : VK} (hi : IN md X T W env tg iter mi) (hg : ∀ q : Blk, GT (blkOf X scope q) tg pt)
    (hix : ∀ i ∈ pt.ixs, i ∈ own.map (·.2)) (hb : ∀ d, CN X T scope (pt.bind d (wipeE env (own.map (·.2)))) ifs elt (f d)) (I : ER X.K T F σ H env)
    (q : NPostE X T W F σ H .O (N.bind mi fun ds => N.bind (compN ds f) fun ys => N.l (.ok (.lst ys))) Q) :
    tLc (wpI X tg iter) (gStar X scope tg) (tStar X scope ifs) (eStar X scope elt) (own.map (·.2)) σ H Q := by
  obtain ⟨P, hP, h⟩ := q
  refine hi F σ H _ I ⟨_, fun r hr' => ?_, h⟩
  cases r with
  | ex c => exact hP _ hr'
  | st => exact hr'.elim
  | ok ds =>
    intro F1 H1 J s1 ⟨Gd, gst, ggo, gstop, gyld⟩ hlen D0 hD0
    have I1 := I.stp s1
    have hP1 : ∀ r, P r → PostE X T W F1 σ H1 .O r Q := fun r hr => PostE.stp s1 (hP r hr)
    have b0 : H1 D0 = none := hD0
    have h0 : (N.bind (compN ds f) fun ys => N.l (.ok (.lst ys))) P := hr'
    refine ⟨fun i m H' => ∃ F' acc ys, m = ds.length - i ∧ i ≤ ds.length ∧ Stp T F1 H1 F' H' ∧ H' D0 = some (.lst acc) ∧ ¬ F' D0 ∧ Reps X.K F' H' acc ys ∧ ys.length ≤ i ∧
      (N.bind (compN (ds.drop i) f) fun zs => N.l (.ok (.lst (ys ++ zs)))) P, ⟨_, F1, [], [], rfl, Nat.zero_le _, .new1 hD0, upd_same, fun z => (I1.ftr D0 z).ne hD0, .nil, Nat.le_refl _, by rw [List.drop_zero]; exact h0⟩, ?_⟩
    rintro i m H2 ⟨F2, acc, ys, rfl, hil, s2, hD2, nf2, r2, hy2, q2⟩
    have g2 : Gd F2 H2 := gst F2 H2 (fun _ => s2.grow) (fun _ => s2)
    by_cases hlt : i < ds.length
    · refine .inr ⟨ggo i F2 H2 hlt g2, fun H' => ∃ F' acc ys, Stp T F1 H1 F' H' ∧ H' D0 = some (.lst acc) ∧ ¬ F' D0 ∧ Reps X.K F' H' acc ys ∧ ys.length ≤ i + 1 ∧
        (N.bind (compN (ds.drop (i + 1)) f) fun zs => N.l (.ok (.lst (ys ++ zs)))) P, fun H' ⟨F', acc, ys, a1, a2, a3, a4, a5, a6⟩ => ⟨ds.length - (i + 1), by omega, F', acc, ys, rfl, hlt, a1, a2, a3, a4, a5, a6⟩, fun x H3 hy => ?_⟩
      obtain ⟨d, hd, F3, s3, r3⟩ := gyld i F2 H2 x H3 hlt g2 hy
      have ed : ds.drop i = d :: ds.drop (i + 1) := by
        rw [List.drop_eq_getElem_cons hlt, (List.getElem?_eq_some_iff.mp hd).2]
      rw [ed] at q2
      have s13 := s2.trans s3
      have I3 : ER X.K T F3 (L2.wipe σ (own.map (·.2))) H3 (wipeE env (own.map (·.2))) := (I1.stp s13).wipe
      have o2 : OwnAt X.K F2 H2 D0 (.lst ys) := ⟨acc, hD2, r2⟩
      have o3 := s3.ownAt o2
      have nf3 : ¬ F3 D0 := s3.notF nf2 o2.tr
      have hbd := hb d
      have q3 : (N.bind (N.bind (N.nx (f d)) fun o => N.bind (compN (ds.drop (i + 1)) f) fun ys => N.l (.ok (optC o ys))) fun zs => N.l (.ok (.lst (ys ++ zs)))) P := q2
      rw [N.bind_assoc] at q3
      cases eb : pt.bind d (wipeE env (own.map (·.2))) with
      | none =>
        rw [eb] at hbd
        have z : f d = N.l .st := hbd
        rw [z] at q3
        exact q3.elim
      | some env3 =>
        rw [eb] at hbd
        obtain ⟨mt, me, ef, ht, he⟩ := hbd
        intro qb
        refine hg qb F3 H3 x d _ _ r3 (fun env' => pat_dec (by rw [eb]; simp) env') fun σ4 u4 => ?_
        have I4 := Pat.er u4 eb I3
        refine ⟨Pat.wipe u4 hix |>.trans ?_, ?_⟩
        · have key : ∀ (vs ws : List Nat) (σ : Sg), (∀ v ∈ ws, v ∈ vs) → L2.wipe (L2.wipe σ ws) vs = L2.wipe σ vs := by
            intro vs ws
            induction ws with
            | nil => intro σ _; rfl
            | cons w ws ih =>
              intro σ h
              show L2.wipe ((L2.wipe σ ws).set w none) vs = _
              rw [wipe_set (h w List.mem_cons_self), ih σ fun v hv => h v (List.mem_cons_of_mem _ hv)]
          exact key _ _ σ fun _ h => h
        · rw [ef] at q3
          intro qt
          refine tns_run (ht qt) I4 ⟨_, fun r hr => ?_, q3⟩
          cases r with
          | ex c => exact hr.elim
          | st => exact hr.elim
          | ok k =>
          intro F5 H5 s5
          have o5 := s5.ownAt o3
          have nf5 : ¬ F5 D0 := s5.notF nf3 o3.tr
          cases k with
          | false =>
            rw [if_neg Bool.false_ne_true]
            obtain ⟨acc5, h5, r5⟩ := o5
            have q4 : (N.bind (N.bind (compN (ds.drop (i + 1)) f) fun ys => N.l (.ok (optC none ys))) fun zs => N.l (.ok (.lst (ys ++ zs)))) P := hr
            rw [N.bind_assoc] at q4
            exact ⟨F5, acc5, ys, s13.trans s5, h5, nf5, r5, by omega, q4⟩
          | true =>
            rw [if_pos rfl]
            intro qe
            refine he qe F5 σ4 H5 _ (I4.stp s5) ⟨_, fun r hr => ?_, hr⟩
            cases r with
            | ex c => exact hr.elim
            | st => exact hr.elim
            | ok y =>
              intro F6 v6 H6 s6 r6
              have o6 := s6.ownAt o5
              obtain ⟨acc6, h6, ra6⟩ := id o6
              have nf6 : ¬ F6 D0 := s6.notF nf5 o5.tr
              have s16 := (s13.trans s5).trans s6
              have g6 : Grow F6 H6 F6 (upd H6 D0 (.lst (acc6 ++ [v6]))) := upd_rep nf6 o6.kind
              refine ⟨acc6, h6, ?_, F6, acc6 ++ [v6], ys ++ [y], s16.wr b0 nf6 (fun _ z => by cases z) o6, upd_same, nf6, (ra6.append (.cons r6 .nil)).mono g6, by rw [List.length_append]; simp; omega, ?_⟩
              · rw [ra6.length]; omega
              · have q4 : (N.bind (N.bind (compN (ds.drop (i + 1)) f) fun ys => N.l (.ok (y :: ys))) fun zs => N.l (.ok (.lst (ys ++ zs)))) P := hr
                rw [N.bind_assoc] at q4
                have e2 : (fun zs => N.l (R.ok (D.lst ((ys ++ [y]) ++ zs)))) = fun zs => N.bind (N.l (R.ok (y :: zs))) fun zs => N.l (.ok (.lst (ys ++ zs))) := by
                  funext zs; show N.l (R.ok _) = N.l (R.ok _); rw [List.append_assoc]; rfl
                rw [e2]
                exact q4
    · have e : i = ds.length := by omega
      subst e
      refine .inl ⟨gstop F2 H2 g2, ?_⟩
      rw [List.drop_length] at q2
      have q3 : P (.ok (.lst (ys ++ []))) := q2
      rw [List.append_nil] at q3
      exact hP1 _ q3 F2 (.ref D0) H2 s2 ⟨D0, rfl, nd_none b0, nf2, acc, hD2, r2⟩
theorem en_lc {mi : N (R (List D))} {pt : Pat} {scope : Scope} {ifs : List Expr} (own : List (Str × Nat)) {f : D → N (R (Option D))} (hi : IN md X T W env tg iter mi) (hg : ∀ q : Blk, GT (blkOf X scope q) tg pt)
    (hb : ∀ d, CN X T scope (pt.bind d (wipeE env (own.map (·.2)))) ifs elt (f d)) (hc : X.calm = true) (hN : X.N.Nodup) (ok : BlkOk X.N X.env.scope scope own) (hix : ∀ i ∈ pt.ixs, i ∈ own.map (·.2) := by decide) (hs : ∀ x, foldedSetIterable iter X.env x = pure x := by intro _; kernel_rfl) :
    EN .O X T W env (.ListComp elt [⟨tg, iter, ifs, 0⟩] scope pos) (N.bind mi fun ds => N.bind (compN ds f) fun ys => N.l (.ok (.lst ys))) := fun F σ H Q I q =>
  (lc_pe (pos := pos) hc hN ok hs).wp (lcn_run hi hg hix hb I q)
theorem sn_setLc {i : Nat} {y : Str} {py spos : Pos} {mi : N (R (List D))} {pt : Pat} {scope : Scope} {ifs : List Expr} (own : List (Str × Nat)) {g : D → N (R (Option D))} {f : D → N (O τ ρ)} (hi : IN md X T W env tg iter mi) (hg : ∀ q : Blk, GT (blkOf X scope q) tg pt)
    (hb : ∀ d, CN X T scope (pt.bind d (wipeE env (own.map (·.2)))) ifs elt (g d)) (hr : ∀ d, SN X T W ip rm inj injL envX (env.set i (.ow d)) ss (f d)) (wx : True) (hc : X.calm = true) (hN : X.N.Nodup) (ok : BlkOk X.N X.env.scope scope own)
    (hsw : swapsWith (.ListComp elt [⟨tg, iter, ifs, 0⟩] scope pos) (some (.Name y py)) spos.line X.env = pure true) (hy : X.N[i]? = some y := by kernel_rfl) (hyl : X.env.scope.names.lookup y = some .local := by kernel_rfl) (hip : i ∉ ip := by decide) (hix : ∀ i ∈ pt.ixs, i ∈ own.map (·.2) := by decide) (hs : ∀ x, foldedSetIterable iter X.env x = pure x := by intro _; kernel_rfl) :
    SN X T W ip rm inj injL envX env (.Assign [.Name y py] (.ListComp elt [⟨tg, iter, ifs, 0⟩] scope pos) spos :: ss) (N.ofR (N.bind mi fun ds => N.bind (compN ds g) fun ys => N.l (.ok (.lst ys))) f) := fun G F σ H D I ⟨P, hP, h⟩ => by
  refine wpS_cons (L2.ps_setLc (spos := spos) (pos := pos) (py := py) (g := gStar X scope tg) (tt := tStar X scope ifs) (te := eStar X scope elt) hc hN hy hyl hsw pi_wp ok (fun s H C cl fp => ⟨fun pins s' σ H' v u Q I r h => pg_wp.run pins s' σ H' v u Q I r (h (s, H, C, cl, fp))⟩) (fun s H C cl fp => ⟨fun pins s' σ H' Q I h => h (s, H, C, cl, fp) pins s' I⟩) (fun s H C cl fp => ⟨fun pins s' σ H' Q I h => pe_wp.run pins s' σ H' Q I (h (s, H, C, cl, fp))⟩) hs) ?_
  show tLc (wpI X tg iter) (gStar X scope tg) (tStar X scope ifs) (eStar X scope elt) (own.map (·.2)) σ H _
  refine lcn_run hi hg hix hb I.er ⟨_, fun r hr' => ?_, h⟩
  cases r with
  | ex c => exact fun F' C dd H' s hm => hP _ hr' F' C dd σ H' (I.stp s).nos hm
  | st => exact hr'.elim
  | ok d =>
    intro F1 v H1 s1 r
    obtain ⟨a, rfl, h0, nf, o⟩ := r
    have I1 := I.stp s1
    refine hr d G F1 _ H1 D (I1.set_ow o nf (fun j hj => ?_) (I.back h0) hip) ⟨P, fun o ho => PostS.grow s1.grow (hP o ho), hr'⟩
    obtain ⟨d', _, o'⟩ := I.er.own hj
    exact h0 o'.tr

/-! ### changes of lists -/
theorem sn_append {i : Nat} {x : Str} {xs : List D} {p1 apos cpos : Pos} {f : D → N (O τ ρ)} (hv : env[i]? = some (.ow (.lst xs))) (he : EN .S X T W env e me) (hr : ∀ d, SN X T W ip rm inj injL envX (env.set i (.ow (.lst (xs ++ [d])))) ss (f d)) (wx : True)
    (hN : X.N[i]? = some x := by kernel_rfl) (hvi : Vis X.env.scope x := by exact vis_of (by kernel_rfl)) (hd : (x == ("__debug__" : Str)) = false := by kernel_rfl) (hcd : (x == ("__classdict__" : Str)) = false := by kernel_rfl)
    (hbase : attributeBase (.Name x p1) "append" X.env (eval (.Name x p1) X.env) = eval (.Name x p1) X.env := by kernel_rfl)
    (hfew : ((backTo cpos (starEach [e] X.env)).all (fun x => !x.1) && (backToKw cpos (keywordEach [] X.env)).all (fun x => x.1.isSome)
      && decide (([e] : List Expr).length + ([] : List Keyword).length + (if ([] : List Keyword).isEmpty then 0 else 1) < 30)) = true := by kernel_rfl)
    (hline : (apos.endLine == cpos.line) = true := by kernel_rfl) (hs : starEach [e] X.env = (false, eval e X.env) :: starEach [] X.env := by kernel_rfl) (hplain : (backTo cpos (starEach [] X.env)).any (·.1) = false := by kernel_rfl)
    (hsw : swapsWith (.Call (.Attribute (.Name x p1) "append" apos) [e] [] cpos) none pos.line X.env = pure false := by kernel_rfl) :
    SN X T W ip rm inj injL envX env (.Expr (.Call (.Attribute (.Name x p1) "append" apos) [e] [] cpos) pos :: ss) (N.ofR me fun d => if xs.length < sizeLine then f d else N.l .st) := fun G F σ H D I h => by
  refine wpS_cons (ps_expr (pos := pos) (pe_bm PySem.F.plainAttrs_list PySem.F.slot_list_append PySem.F.type_list_append mt_append (pe_var (pos := p1) hN hvi hd hcd) (pa_cons pe_wp pa_nil hs) hbase hfew hline hs hplain) hsw) ?_
  obtain ⟨a, e1, o⟩ := I.er.ow_at hv
  obtain ⟨vs, hH, r⟩ := id o
  refine ⟨.ref a, e1, .inl ⟨rfl, vs, .inl (.inl hH)⟩, ?_⟩
  refine nrunS he wx I h fun d F1 v H1 s1 rv I1 q1 => ?_
  by_cases hl : xs.length < sizeLine
  · rw [if_pos hl] at q1
    obtain ⟨b, e2, o1⟩ := I1.er.ow_at hv
    rw [e1] at e2
    cases e2
    obtain ⟨vs1, hH1, r1⟩ := id o1
    refine ⟨a, vs1, v, rfl, rfl, hH1, by rw [r1.length]; exact hl, ?_⟩
    have g := I1.write_grow (o := .lst (vs1 ++ [v])) hv e1
    exact hr d G F1 σ _ D (I1.write hv e1 ⟨vs1 ++ [v], upd_same, (r1.append (.cons rv .nil)).mono g⟩) (NPostS.grow g q1)
  · rw [if_neg hl] at q1
    exact q1.l.elim
theorem sn_setitem {i : Nat} {x : Str} {xs : List D} {ix : Expr} {mx : N (R D)} {p1 p2 : Pos} {f : List D → N (O τ ρ)} (hv : env[i]? = some (.ow (.lst xs))) (he : EN .S X T W env e me) (hx : EN .S X T W env ix mx)
    (hr : ∀ ys, SN X T W ip rm inj injL envX (env.set i (.ow (.lst ys))) ss (f ys)) (wx : True)
    (hN : X.N[i]? = some x := by kernel_rfl) (hvi : Vis X.env.scope x := by exact vis_of (by kernel_rfl)) (hd : (x == ("__debug__" : Str)) = false := by kernel_rfl) (hcd : (x == ("__classdict__" : Str)) = false := by kernel_rfl)
    (ha : ∀ v, assign (.Subscript (.Name x p1) ix p2) X.env v = (do
      let ov ← holding [v] (eval (.Name x p1) X.env)
      let iv ← holding [v, ov] (eval ix X.env)
      standAt p2
      holding [v, ov, iv] (setItem ov iv v)
      release [v, ov, iv] []) := by intro _; kernel_rfl)
    (hs : swapsWithSole [.Subscript (.Name x p1) ix p2] e pos.line X.env = pure false := by kernel_rfl) (hw : swappedStores [.Subscript (.Name x p1) ix p2] e X.env = pure none := by kernel_rfl)
    (h1 : (assignEach [.Subscript (.Name x p1) ix p2] X.env).map (·.2) = [assign (.Subscript (.Name x p1) ix p2) X.env] := by kernel_rfl) :
    SN X T W ip rm inj injL envX env (.Assign [.Subscript (.Name x p1) ix p2] e pos :: ss) (N.ofR me fun y => N.ofR mx fun k => N.ofR (N.l (R.lift (setL xs k y))) f) := fun G F σ H D I h => by
  refine wpS_cons (ps_asg (pos := pos) pe_wp (pg_sub (pe_var (pos := p1) hN hvi hd hcd) pe_wp set_list ha) hs hw h1) ?_
  refine nrunS he wx I h fun y F1 vy H1 s1 ry I1 q1 => ?_
  obtain ⟨a, e1, o⟩ := I1.er.ow_at hv
  refine ⟨.ref a, e1, ?_⟩
  refine nrunS hx wx I1 q1 fun k F2 vk H2 s2 rk I2 q2 => ?_
  cases k <;> try (obtain ⟨P, h1, h2⟩ := q2; exact h2.elim)
  rename_i k
  cases rk
  have q2 : NPostS X T W G ip rm inj injL envX F2 H2 (N.ofR (N.l (R.lift ((ixN xs.length k).map fun j => xs.set j y))) f) D := q2
  obtain ⟨b, e2, o2⟩ := I2.er.ow_at hv
  rw [e1] at e2
  cases e2
  obtain ⟨vs, hH, r⟩ := id o2
  cases ej : ixN xs.length k with
  | none => rw [ej] at q2; obtain ⟨P, h1, h2⟩ := q2; exact h2.elim
  | some j =>
    rw [ej] at q2
    refine ⟨a, vs, k, j, rfl, rfl, hH, by rw [r.length]; exact ej, ?_⟩
    have g := I2.write_grow (o := .lst (vs.set j vy)) hv e1
    have ry' : Rep X.K F2 H2 vy y := Rep.mono s2.grow ry
    exact hr _ G F2 σ _ D (I2.write hv e1 ⟨vs.set j vy, upd_same, (r.set j ry').mono g⟩) (NPostS.grow g q2)
theorem sn_aug {i : Nat} {x : Str} {op : Operator} {p' : Pos} {d0 : D} {g : D → D → Option D} {f : D → N (O τ ρ)} (hv : env[i]? = some (.sh d0)) (ho : OpD .S X T (inplaceOp op) g) (he : EN .S X T W env e me) (hr : ∀ d, SN X T W ip rm inj injL envX (env.set i (.sh d)) ss (f d)) (wx : True) (hN : X.N.Nodup) (hi : X.N[i]? = some x := by kernel_rfl)
    (hx : Loc X.env.scope x := by exact loc_of (by kernel_rfl)) (hip : i ∉ ip := by decide) (hf : X.fn x = true ∨ X.env.scope.names.lookup x = some .local := by first | exact .inl rfl | exact .inr rfl) :
    SN X T W ip rm inj injL envX env (.AugAssign (.Name x p') op e pos :: ss) (N.ofR me fun y => N.ofR (N.l (R.lift (g d0 y))) f) := fun G F σ H D I h => by
  have hip' : PIp X op (wpF X (inplaceOp op)) := fun pins s σ H x y v u Q I r1 r2 h => op_wp pins s σ H x y v u Q I r1 r2 h
  refine wpS_cons (ps_aug (pos := pos) (pos' := p') hN hi hx pe_wp hip' hf) ?_
  obtain ⟨v0, e0, r0⟩ := I.er.sh_at hv
  refine ⟨v0, e0, ?_⟩
  refine nrunS he wx I h fun y F1 vy H1 s1 ry I1 q1 => ?_
  refine ho.run F1 H1 v0 vy d0 y _ (.inl (r0.mono s1.grow)) (.inl ry) ?_
  revert q1
  cases g d0 y with
  | none => exact fun ⟨P, h1, h2⟩ => h2.elim
  | some z =>
    intro q1 F2 vz H2 s2 rz
    exact hr z G F2 _ H2 D ((I1.stp s2).set_sh rz hip) (NPostS.grow s2.grow q1)
end
/-- a def that draws, by its body -/
theorem fnN_ofC {C : Value → Prop} {P : Program} {w : World} {K : PySem.W.Frag} {mg : Str → Option Value} {base : Heap} {T : Tb} {x : Str} {st : Stmt} {f : Addr} {fd : FuncData} {N' ps : List Str} {k : Nat} {md : Md} {M : List D → N (R D)} (Fn : FunC K x st f fd C) (hm : mg x = some (.ref f)) (S : FnScope N' ps (defScope st)) (b : Binds K fd ps [])
    (body : ∀ (cdv : Value) (hC : C cdv) (A : Around) (outer : List Env) (s : Shared) (H : Hp) (E : XK) (ds : List D), ds.length = ps.length → Room k (A.deeper (envOfC x (defScope st) s.heap.objs.size f cdv)) →
      ∃ (m : N (O Unit Unit)), SN (cxOf (L2.CX P w) P w K mg base N' x (defScope st) f cdv A outer s H E) T (fun cls d _ H' => E cls d H') [] md (fun _ => List.replicate N'.length .no) (fun _ => List.replicate N'.length .no) (List.replicate N'.length .no)
        (ds.map .sh ++ List.replicate (N'.length - ps.length) .no) (defBody st) m ∧ (∀ Pr, M ds Pr → m fun o => Pr o.toR) ∧ (md = .O → ∀ Pr, m Pr → m fun o => Pr o ∧ ∀ s, o ≠ .nx s)) : FnN P w K mg base T (k + 1) x ps.length md M := by
  refine ⟨f, fd, ps, hm, Fn.kp, b, ?_⟩
  obtain ⟨oc, od, kV, doc, pm, an, cdv, ct, osl, rfl, lk, hcd, hC⟩ := Fn.ex
  refine fn_of lk hcd S (fun vs H Q E h => h.1) fun A outer s H vs Q E hr hsp => ?_
  obtain ⟨hlen, F, ds, hF, hT, r, Pr, q, hM'⟩ := hsp
  have hdl : ds.length = ps.length := by rw [← r.length]; exact hlen
  obtain ⟨m, hDS, hM, hO⟩ := body cdv hC A outer s H E ds hdl hr
  refine ⟨_, ps_wp, ?_⟩
  have hpl : ps.length ≤ N'.length := by have := congrArg List.length S.pre; rw [List.length_take] at this; omega
  have hslots : ∀ (i : Nat) (sl : Sl), (ds.map Sl.sh ++ List.replicate (N'.length - ps.length) Sl.no)[i]? = some sl → ∃ x : Option V, (L2.start N' vs)[i]? = some x ∧ SlR K F H x sl := fun i sl e => by
    have hvl : vs.length = ps.length := hlen
    unfold L2.start
    by_cases hi : i < ds.length
    · rw [List.getElem?_append_left (by simpa using hi), List.getElem?_map] at e
      cases ed : ds[i]? with
      | none => rw [ed] at e; cases e
      | some d =>
        rw [ed] at e
        cases e
        obtain ⟨v, hv, rv⟩ := r.get ed
        refine ⟨some v, ?_, v, rfl, rv⟩
        rw [List.getElem?_append_left (by rw [List.length_map]; omega), List.getElem?_map, hv]
        rfl
    · rw [List.getElem?_append_right (by simpa using Nat.le_of_not_lt hi), List.getElem?_replicate] at e
      split at e
      · rename_i hlt
        cases e
        refine ⟨none, ?_, trivial⟩
        rw [List.getElem?_append_right (by rw [List.length_map]; omega), List.getElem?_replicate, if_pos (by rw [List.length_map] at *; omega)]
      · cases e
  have noOwn : ∀ (i : Nat) (a : Addr), ¬ OwnI (L2.start N' vs) (ds.map Sl.sh ++ List.replicate (N'.length - ps.length) Sl.no) i a := fun i a ⟨⟨d, e⟩, _⟩ => by
    by_cases hi : i < ds.length
    · rw [List.getElem?_append_left (by simpa using hi), List.getElem?_map] at e
      cases ed : ds[i]? with
      | none => rw [ed] at e; cases e
      | some d => rw [ed] at e; cases e
    · rw [List.getElem?_append_right (by simpa using Nat.le_of_not_lt hi), List.getElem?_replicate] at e
      split at e <;> cases e
  have hl : (L2.start N' vs).length = (ds.map Sl.sh ++ List.replicate (N'.length - ps.length) Sl.no).length := by
    unfold L2.start
    simp only [List.length_append, List.length_map, List.length_replicate]
    omega
  refine hDS ⟨F, H, []⟩ F (L2.start N' vs) H { nx := fun _ H' => Q .non H', rt := Q } ⟨⟨hl, hslots, fun i j a h => absurd h (noOwn i a), fun i a h => absurd h (noOwn i a), hF, hT⟩, fun _ h => h, fun _ h => .inl h, fun _ _ h _ _ => h, fun _ h => h, fun _ h => h, fun i a h => absurd h (noOwn i a), .nil⟩ ?_
  have hm2 : m fun o => Pr o.toR ∧ (md = .O → ∀ s, o ≠ .nx s) := by
    have h1 := hM Pr hM'
    by_cases e : md = .O
    · have h2 := hO e _ h1
      have : (fun o : O Unit Unit => Pr o.toR ∧ (md = .O → ∀ s, o ≠ .nx s)) = fun o => Pr o.toR ∧ ∀ s, o ≠ .nx s := by
        funext o; rw [eq_iff_iff]; exact ⟨fun h => ⟨h.1, h.2 e⟩, fun h => ⟨h.1, fun _ => h.2⟩⟩
      rw [this]; exact h2
    · have : (fun o : O Unit Unit => Pr o.toR ∧ (md = .O → ∀ s, o ≠ .nx s)) = fun o => Pr o.toR := by
        funext o; rw [eq_iff_iff]; exact ⟨fun h => h.1, fun h => ⟨h, fun z => absurd z e⟩⟩
      rw [this]; exact h1
  refine ⟨_, fun o ho => ?_, hm2⟩
  obtain ⟨ho, hoO⟩ := ho
  have q := q _ ho
  cases o with
  | nx s1 =>
    intro F' σ' H' I' _
    have q : ∀ F' v H', Stp T F H F' H' → RepM K F' H' md H v .non → Q v H' := q
    refine q F' .non H' ⟨I'.inc, I'.new, fun b o e n => I'.keep b o e n (by simp), I'.there, I'.tape, fun _ => I'.er.tabs, fun _ => I'.er.ftr⟩ ?_
    cases md with
    | S => exact .non
    | B => exact .inl .non
    | O => exact absurd rfl (hoO rfl s1)
  | rt d us =>
    intro F' v H' s1 r1 _
    have q : ∀ F' v H', Stp T F H F' H' → RepM K F' H' md H v d → Q v H' := q
    exact q F' v H' ⟨s1.inc, s1.new, fun b o e n => s1.keep b o e n (by simp), s1.there, s1.tape, fun _ => s1.tabs, fun _ => s1.ftr⟩ r1
  | bk s1 => exact q.elim
  | ct s1 => exact q.elim
  | xc c =>
    intro F' C dd σ' H' I' hmC
    have q : ∀ F' C dd H', Stp T F H F' H' → mg c = some (.ref C) → E (.ref C) dd H' := q
    exact q F' C dd H' ⟨I'.inc, I'.new, fun b o e n => I'.keep b o e n (by simp), I'.there, I'.tape, fun _ => I'.er.tabs, fun _ => I'.er.ftr⟩ hmC
  | st => exact q.elim
theorem fnN_of {P : Program} {w : World} {K : PySem.W.Frag} {mg : Str → Option Value} {base : Heap} {T : Tb} {x : Str} {st : Stmt} {f : Addr} {fd : FuncData} {N' ps : List Str} {k : Nat} {md : Md} {M : List D → N (R D)} (Fn : Fun K x x st f fd) (hm : mg x = some (.ref f)) (S : FnScope N' ps (defScope st)) (b : Binds K fd ps [])
    (body : ∀ (cdv : Value) (A : Around) (outer : List Env) (s : Shared) (H : Hp) (E : XK) (ds : List D), ds.length = ps.length → Room k (A.deeper (envOfC x (defScope st) s.heap.objs.size f cdv)) →
      ∃ (m : N (O Unit Unit)), SN (cxOf (L2.CX P w) P w K mg base N' x (defScope st) f cdv A outer s H E) T (fun cls d _ H' => E cls d H') [] md (fun _ => List.replicate N'.length .no) (fun _ => List.replicate N'.length .no) (List.replicate N'.length .no)
        (ds.map .sh ++ List.replicate (N'.length - ps.length) .no) (defBody st) m ∧ (∀ Pr, M ds Pr → m fun o => Pr o.toR) ∧ (md = .O → ∀ Pr, m Pr → m fun o => Pr o ∧ ∀ s, o ≠ .nx s)) : FnN P w K mg base T (k + 1) x ps.length md M := fnN_ofC (C := fun _ => True) Fn.c hm S b fun cdv _ A outer s H E ds hl hr => body cdv A outer s H E ds hl hr
end DL

-- DL10
set_option Elab.async false
set_option linter.all false
set_option maxRecDepth 100000
set_option maxHeartbeats 4000000
/-! The data layer: the law's tape. -/
namespace DL
open PySem PySem.Spec PyProof.Rows L2

section
variable {K : PySem.W.Frag} {T : Tb} {F F' : Addr → Prop} {H H' : Hp} {a c : Addr}
/-- a tape is changed -/
theorem Stp.tapeSet {cs : List Int} {i l s t i' l' s' t' : Int} (e : H a = some (.dK (tapeKvs c i l s t))) (hc : F c) (hr : Rd H c (.lst (cs.map V.int))) (h0 : 0 ≤ i') : Stp T F H F (upd H a (.dK (tapeKvs c i' l' s' t'))) := by
  have cne : ∀ {b : Addr} {xs : List V}, Rd H b (.lst xs) → b ≠ a := fun h z => by
    subst z
    rcases h with h | ⟨ob, h⟩ <;> rw [e] at h <;> cases h
  have rdk : ∀ {b : Addr} {xs : List V}, Rd H b (.lst xs) → Rd (upd H a (.dK (tapeKvs c i' l' s' t'))) b (.lst xs) := fun h => by
    have := cne h
    rcases h with h | ⟨ob, h⟩
    · exact .inl (by rw [upd_ne this]; exact h)
    · exact .inr ⟨ob, by rw [upd_ne this]; exact h⟩
  have datU : ∀ b, Dat H b → Dat (upd H a (.dK (tapeKvs c i' l' s' t'))) b := fun b ⟨u, e1, n⟩ => by
    by_cases z : b = a
    · subst z; exact ⟨_, upd_same, fun _ z => by cases z⟩
    · exact ⟨u, by rw [upd_ne z]; exact e1, n⟩
  refine ⟨fun _ h => h, fun _ h => .inl h, fun b o hb n => ?_, datU, fun b h => ?_, fun tb => ?_, fun hF b hb => datU b (hF b hb)⟩
  · rw [upd_ne (fun z => by subst z; rw [e] at hb; cases hb; exact n.2 (tapeO_kvs ..))]; exact hb
  · by_cases z : b = a
    · subst z
      exact ⟨c, cs, i', l', s', t', upd_same, hc, rdk hr, h0⟩
    · obtain ⟨c2, cs2, i2, l2, s2, t2, h1, h2, h3, h4⟩ := h
      exact ⟨c2, cs2, i2, l2, s2, t2, by rw [upd_ne z]; exact h1, h2, rdk h3, h4⟩
  · intro q hq
    obtain ⟨ps, h1, h2, h3⟩ := tb q hq
    refine ⟨ps, ?_, h2, fun pos cv hcv => ?_⟩
    · rw [upd_ne (fun z => by rw [z, e] at h1; cases h1)]; exact h1
    · obtain ⟨c0, e1, e2⟩ := h3 pos cv hcv
      refine ⟨c0, e1, ?_⟩
      rw [upd_ne (fun z => ?_)]
      · exact e2
      · subst z
        rw [e] at e2; unfold LamX.CodeO at e2; cases e2
theorem tape_len {i l s t : Int} : (tapeKvs c i l s t).length < sizeLine := by rw [sizeLine_eq]; show 5 < _; decide
theorem rep_tape {v : V} (r : Rep K F H v .tape) : ∃ a, v = .ref a ∧ TapeOk F H a := by
  cases r with
  | tape h => exact ⟨_, rfl, h⟩
end
section
variable {X : Cx} {T : Tb} {W : WX} {ip : List Nat} {rm : Md} {τ ρ τ' : Type} {inj : τ → List Sl} {injL : ρ → List Sl} {envX env : List Sl} {G : Gh} {F F' : Addr → Prop} {σ : Sg} {H H' : Hp} {ss : List Stmt} {e : Expr} {me : N (R D)} {m : N (O τ ρ)} {md : Md} {pos : Pos}
/-- a key of the tape's numbers -/
inductive TKey : Str → Prop
  | at_ : TKey "at"
  | left : TKey "left"
  | seed : TKey "seed"
  | salt : TKey "salt"
def anyI : N (R D) := fun P => ∀ i : Int, P (.ok (.int i))
theorem pe_tget {i : Nat} {x k : Str} {p p2 : Pos} {j : Nat} (hu : X.A.units + 1 < cLine) (hN : X.N[i]? = some x) (hv : Vis X.env.scope x)
    (hd : (x == ("__debug__" : Str)) = false) (hcd : (x == ("__classdict__" : Str)) = false) : PE X (.Subscript (.Name x p) (.Constant (.str k) j p2) pos) (tDGet (fun σ H Q => ∃ v, σ[i]? = some (some v) ∧ Q v H) (fun σ H Q => Q (.str k) H)) :=
  pe_dget hu (pe_var (pos := p) hN hv hd hcd) pe_str (by intro _ _; rfl)
/-- tape['left'] -/
theorem en_tget {i : Nat} {x k : Str} {p p2 : Pos} {j : Nat} (he : env[i]? = some (.sh .tape)) (hk : TKey k) (hu : X.A.units + 1 < cLine) (hN : X.N[i]? = some x := by kernel_rfl) (hv : Vis X.env.scope x := by exact vis_of (by kernel_rfl))
    (hd : (x == ("__debug__" : Str)) = false := by kernel_rfl) (hcd : (x == ("__classdict__" : Str)) = false := by kernel_rfl) : EN .S X T W env (.Subscript (.Name x p) (.Constant (.str k) j p2) pos) anyI := fun F σ H Q I ⟨P, h1, h2⟩ => by
  refine (pe_tget (pos := pos) (p := p) (p2 := p2) (j := j) (k := k) hu hN hv hd hcd).wp ?_
  obtain ⟨v, e1, r⟩ := I.sh_at he
  obtain ⟨a, rfl, c, cs, i, l, s, t, e, hc, hr, h0⟩ := rep_tape r
  have fin : ∀ z : Int, Q (.int z) H := fun z => h1 _ (h2 z) F (.int z) H .refl (.int z)
  cases hk with
  | at_ => exact ⟨.ref a, e1, a, .int i, rfl, DGet.k (k := .inr _) e, fin i⟩
  | left => exact ⟨.ref a, e1, a, .int l, rfl, DGet.k (k := .inr _) e, fin l⟩
  | seed => exact ⟨.ref a, e1, a, .int s, rfl, DGet.k (k := .inr _) e, fin s⟩
  | salt => exact ⟨.ref a, e1, a, .int t, rfl, DGet.k (k := .inr _) e, fin t⟩
inductive TKeyS : Str → Prop
  | left : TKeyS "left"
  | salt : TKeyS "salt"
def isInt (d : D) : R D := match d with | .int i => .ok (.int i) | _ => .st
/-- tape['left'] = e -/
theorem sn_tset {i : Nat} {x k : Str} {p p2 p3 : Pos} {j : Nat} (hE : env[i]? = some (.sh .tape)) (hk : TKeyS k) (hu : X.A.units + 1 < cLine) (he : EN .S X T W env e me) (hr : SN X T W ip rm inj injL envX env ss m) (wx : True) (hN : X.N[i]? = some x := by kernel_rfl) (hv : Vis X.env.scope x := by exact vis_of (by kernel_rfl))
    (hd : (x == ("__debug__" : Str)) = false := by kernel_rfl) (hcd : (x == ("__classdict__" : Str)) = false := by kernel_rfl)
    (hs : swapsWith e (some (.Subscript (.Name x p) (.Constant (.str k) j p2) p3)) pos.line X.env = pure false := by kernel_rfl) :
    SN X T W ip rm inj injL envX env (.Assign [.Subscript (.Name x p) (.Constant (.str k) j p2) p3] e pos :: ss) (N.ofR me fun d => N.ofR (N.l (isInt d)) fun _ => m) := fun G F σ H D I h => by
  refine wpS_cons (ps_dput (pos := pos) hu (pe_var (pos := p) hN hv hd hcd) pe_str pe_wp hs) ?_
  refine nrunS he wx I h fun d F1 v H1 s1 r I1 q1 => ?_
  cases d <;> try (obtain ⟨P, h1, h2⟩ := q1; exact h2.elim)
  rename_i z
  cases r
  have q1 : NPostS X T W G ip rm inj injL envX F1 H1 m D := q1
  obtain ⟨v, e1, r⟩ := I1.er.sh_at hE
  obtain ⟨a, rfl, c, cs, i, l, s, t, e, hc, hr', h0⟩ := rep_tape r
  cases hk with
  | left =>
    have st : Stp T F1 H1 F1 (upd H1 a (.dK (tapeKvs c i z s t))) := Stp.tapeSet e hc hr' h0
    exact ⟨.ref a, e1, a, _, rfl, DPut.k (k := .inr _) e tape_len, hr G F1 σ _ D (I1.stp st) (NPostS.grow st.grow q1)⟩
  | salt =>
    have st : Stp T F1 H1 F1 (upd H1 a (.dK (tapeKvs c i l s z))) := Stp.tapeSet e hc hr' h0
    exact ⟨.ref a, e1, a, _, rfl, DPut.k (k := .inr _) e tape_len, hr G F1 σ _ D (I1.stp st) (NPostS.grow st.grow q1)⟩
/-- if tape['left'] == 0 and tape['at'] < len(tape['cells']): tape['left'] = tape['cells'][tape['at']]; tape['at'] = tape['at'] + 1 -/
theorem sn_tapeif {i : Nat} {x : Str} {q1 q2 q3 q4 q5 q6 q7 q8 q9 q10 q11 q12 q13 q14 q15 q16 q17 q18 q19 q20 q21 q22 q23 q24 q25 q26 q27 q28 q29 q30 q31 q32 q33 q34 q35 q36 : Pos} {j1 j2 j3 j4 j5 j6 j7 j8 j9 j10 : Nat} (hE : env[i]? = some (.sh .tape)) (hu : X.A.units + 1 < cLine) (hl : X.mg "len" = none) (hr : SN X T W ip rm inj injL envX env ss m)
    (hg : Gl X "len" := by exact gl_of (by kernel_rfl))
    (hN : X.N[i]? = some x := by kernel_rfl) (hv : Vis X.env.scope x := by exact vis_of (by kernel_rfl))
    (hd : (x == ("__debug__" : Str)) = false := by kernel_rfl) (hcd : (x == ("__classdict__" : Str)) = false := by kernel_rfl)
    (hs1 : swapsWith (.Subscript (.Subscript (.Name x q18) (.Constant (.str "cells") j6 q19) q20) (.Subscript (.Name x q21) (.Constant (.str "at") j7 q22) q23) q24) (some (.Subscript (.Name x q15) (.Constant (.str "left") j5 q16) q17)) q25.line X.env = pure false := by kernel_rfl)
    (hs2 : swapsWith (.BinOp (.Subscript (.Name x q29) (.Constant (.str "at") j9 q30) q31) .Add (.Constant (.int 1) j10 q32) q33) (some (.Subscript (.Name x q26) (.Constant (.str "at") j8 q27) q28)) q34.line X.env = pure false := by kernel_rfl) :
    SN X T W ip rm inj injL envX env (.If (.BoolOp .And [.Compare (.Subscript (.Name x q1) (.Constant (.str "left") j1 q2) q3) [.Eq] [.Constant (.int 0) j2 q4] q5,
        .Compare (.Subscript (.Name x q6) (.Constant (.str "at") j3 q7) q8) [.Lt] [.Call (.Name "len" q9) [.Subscript (.Name x q10) (.Constant (.str "cells") j4 q11) q12] [] q13] q14] q35)
      [.Assign [.Subscript (.Name x q15) (.Constant (.str "left") j5 q16) q17] (.Subscript (.Subscript (.Name x q18) (.Constant (.str "cells") j6 q19) q20) (.Subscript (.Name x q21) (.Constant (.str "at") j7 q22) q23) q24) q25,
       .Assign [.Subscript (.Name x q26) (.Constant (.str "at") j8 q27) q28] (.BinOp (.Subscript (.Name x q29) (.Constant (.str "at") j9 q30) q31) .Add (.Constant (.int 1) j10 q32) q33) q34] [] q36 :: ss) m := fun G F σ H D I h => by
  obtain ⟨v, e1, r⟩ := I.er.sh_at hE
  obtain ⟨a, rfl, c, cs, ia, l, s, t, e, hc, hr', h0⟩ := rep_tape r
  have rest : wpS X ss D σ H := hr G F σ H D I h
  refine wpS_cons (ps_if (pos := q36) pt_wp ps_wp ps_wp) ?_
  have tg : ∀ {k : Str} {p p2 pos : Pos} {j : Nat}, PE X (.Subscript (.Name x p) (.Constant (.str k) j p2) pos) (tDGet (fun σ H Q => ∃ v, σ[i]? = some (some v) ∧ Q v H) (fun σ H Q => Q (.str k) H)) := fun {k p p2 pos j} => pe_tget hu hN hv hd hcd
  have t1 : PT X (.Compare (.Subscript (.Name x q1) (.Constant (.str "left") j1 q2) q3) [.Eq] [.Constant (.int 0) j2 q4] q5) _ := pt_cmpR op_eq tg pe_int (by first | exact nomark _ | rfl)
  have t2 : PT X (.Compare (.Subscript (.Name x q6) (.Constant (.str "at") j3 q7) q8) [.Lt] [.Call (.Name "len" q9) [.Subscript (.Name x q10) (.Constant (.str "cells") j4 q11) q12] [] q13] q14) _ :=
    pt_cmpR op_lt tg (pe_callB (pos := q13) (p := q9) call_len_seq hg hl (by rfl) (pa_cons tg pa_nil rfl)) (by first | exact nomark _ | rfl)
  have tt := pw_and (pos := q35) t1 (pw_and1 (pos := q35) t2)
  show wpT X _ σ H _
  unfold wpT
  refine fun pins st Iv => tt.run _ pins st σ H _ Iv ?_
  have no : wpS X [] { D with nx := wpS X ss D } σ H := pss_nil.wp rest
  refine ⟨.ref a, e1, a, .int l, rfl, DGet.k (k := .inr _) e, rfl, _, rfl, ?_⟩
  rw [dec_int]
  cases hl0 : (l == 0) with
  | false => exact no
  | true =>
    refine ⟨.ref a, e1, a, .int ia, rfl, DGet.k (k := .inr _) e, .ref a, e1, a, .ref c, rfl, DGet.k (k := .inr _) e, c, _, rfl, .inl (.inl hr'), _, _, rfl, rfl, _, rfl, ?_⟩
    by_cases hlt : ia < ((cs.map V.int).length : Int)
    · rw [decide_eq_true hlt]
      show wpS X _ _ σ H
      refine wpS_cons (ps_dput (pos := q25) hu (pe_var (pos := q15) hN hv hd hcd) pe_str (pe_ix (pos := q24) ix_list tg tg (by intro _ _; rfl)) hs1) ?_
      have hlen : ia.toNat < cs.length := by rw [List.length_map] at hlt; omega
      have hat : atI (cs.map V.int) ia = some (.int (cs[ia.toNat])) := by
        unfold atI ixN
        rw [if_pos h0, if_pos hlt]
        simp [hlen]
      refine ⟨.ref a, e1, a, .ref c, rfl, DGet.k (k := .inr _) e, .ref a, e1, a, .int ia, rfl, DGet.k (k := .inr _) e, c, _, ia, _, rfl, rfl, .inl hr', hat, .ref a, e1, a, _, rfl, DPut.k (k := .inr _) e tape_len, ?_⟩
      have st1 : Stp T F H F (upd H a (.dK (tapeKvs c ia (cs[ia.toNat]) s t))) := Stp.tapeSet e hc hr' h0
      have I1 := I.stp st1
      have e2 : upd H a (.dK (tapeKvs c ia (cs[ia.toNat]) s t)) a = some (.dK (tapeKvs c ia (cs[ia.toNat]) s t)) := upd_same
      have hr2 : Rd (upd H a (.dK (tapeKvs c ia (cs[ia.toNat]) s t))) c (.lst (cs.map V.int)) := st1.rd (noTbl_lst _) hr'
      show wpS X _ _ σ (upd H a (.dK (tapeKvs c ia (cs[ia.toNat]) s t)))
      refine wpS_cons (ps_dput (pos := q34) hu (pe_var (pos := q26) hN hv hd hcd) pe_str (pe_op (pos := q33) op_add tg pe_int) hs2) ?_
      refine ⟨.ref a, e1, a, .int ia, rfl, DGet.k (k := .inr _) e2, ia, 1, rfl, rfl, .ref a, e1, a, _, rfl, DPut.k (k := .inr _) e2 tape_len, ?_⟩
      have st2 : Stp T F (upd H a (.dK (tapeKvs c ia (cs[ia.toNat]) s t))) F (upd (upd H a (.dK (tapeKvs c ia (cs[ia.toNat]) s t))) a (.dK (tapeKvs c (ia + 1) (cs[ia.toNat]) s t))) := Stp.tapeSet e2 hc hr2 (by omega)
      exact pss_nil.wp (hr G F σ _ D (I1.stp st2) (NPostS.grow (st1.grow.trans st2.grow) h))
    · rw [decide_eq_false hlt]
      exact no
/-- {'cells': cells, 'at': 0, 'left': 0, 'seed': seed, 'salt': 0} -/
def tapeLit (dc ds : D) : R D := match dc, ds with
  | .lst xs, .int _ => (match intsOf xs with | some _ => .ok .tape | none => .st)
  | _, _ => .st
theorem de_tapelit {i k : Nat} {x y : Str} {dc ds : D} {q1 q2 q3 q4 q5 q6 q7 q8 q9 q10 : Pos} {j1 j2 j3 j4 j5 j6 : Nat} (hx : env[i]? = some (.sh dc)) (hy : env[k]? = some (.sh ds))
    (hN : X.N[i]? = some x := by kernel_rfl) (hv : Vis X.env.scope x := by exact vis_of (by kernel_rfl))
    (hd : (x == ("__debug__" : Str)) = false := by kernel_rfl) (hcd : (x == ("__classdict__" : Str)) = false := by kernel_rfl)
    (hN2 : X.N[k]? = some y := by kernel_rfl) (hv2 : Vis X.env.scope y := by exact vis_of (by kernel_rfl))
    (hd2 : (y == ("__debug__" : Str)) = false := by kernel_rfl) (hcd2 : (y == ("__classdict__" : Str)) = false := by kernel_rfl) :
    DE .S X T W env (.Dict [some (.Constant (.str "cells") j1 q1), some (.Constant (.str "at") j2 q2), some (.Constant (.str "left") j3 q3), some (.Constant (.str "seed") j4 q4), some (.Constant (.str "salt") j5 q5)]
      [.Name x q6, .Constant (.int 0) j6 q7, .Constant (.int 0) j6 q8, .Name y q9, .Constant (.int 0) j6 q10] pos) (tapeLit dc ds) := fun F σ H Q I q => by
  refine (pe_disp (pos := pos) (pps_cons pe_str (pe_var (pos := q6) hN hv hd hcd) (pps_cons pe_str pe_int (pps_cons pe_str pe_int (pps_cons pe_str (pe_var (pos := q9) hN2 hv2 hd2 hcd2) (pps_cons pe_str pe_int pps_nil))))) rfl rfl (by simp) (show 5 ≤ 15 by decide)).wp ?_
  obtain ⟨vc, e1, rc⟩ := I.sh_at hx
  obtain ⟨vs, e2, rs⟩ := I.sh_at hy
  cases dc <;> try exact q.elim
  cases ds <;> try exact q.elim
  rename_i xs s
  cases rs
  have q : PostE X T W F σ H .S (match intsOf xs with | some _ => R.ok D.tape | none => .st) Q := q
  cases es : intsOf xs with
  | none => rw [es] at q; exact q.elim
  | some is =>
    rw [es] at q
    have qf : PostE X T W F σ H .S (R.ok D.tape) Q := q
    clear q
    have ex := intsOf_eq es
    subst ex
    cases rc with
    | @lst c vs _ hF hrd hrs =>
    intro p hp
    have hH : H p = none := hp
    refine ⟨_, e1, .int s, e2, upd_same, [(.inr "cells", .ref c), (.inr "at", .int 0), (.inr "left", .int 0), (.inr "seed", .int s), (.inr "salt", .int 0)], rfl, (show 5 ≤ 15 by decide), ?_⟩
    have eu : ∀ o1 o2 : HO, upd (upd H p o1) p o2 = upd H p o2 := fun o1 o2 => by
      funext b
      by_cases z : b = p
      · rw [z, upd_same, upd_same]
      · rw [upd_ne z, upd_ne z, upd_ne z]
    rw [eu]
    have st : Stp T F H F (upd H p (.dK (tapeKvs c 0 0 s 0))) := .new1 hp
    refine qf F (.ref p) _ st (.tape ⟨c, is, 0, 0, s, 0, upd_same, hF, ?_, Int.le_refl _⟩)
    rw [← hrs.ints]
    exact st.rd (noTbl_lst _) hrd
end
end DL

-- DL11
set_option Elab.async false
set_option linter.all false
set_option maxRecDepth 100000
set_option maxHeartbeats 4000000
/-! The data layer: zip and enumerate over lists, tuples and texts. -/
namespace DL
open PySem PySem.Spec PyProof.Rows L2 PyProof

section
variable {prog : Program} {w : World} {A : Around}
theorem draws_tuple (hh : A.handled = none) (it l : Addr) (hne : l ≠ it) (items : Array Value) :
    Draws prog w A it [it, l] items.size (fun i v => items[i]? = some v) (fun i h => h.IsTupleIter it l i ∧ h.IsTuple l items) where
  live := fun _ _ st => let ⟨o, ho, _⟩ := st.1; ⟨o, ho⟩
  frame := fun _ _ _ st hk => ⟨st.1.at fun o e => hk it (by simp) o e, st.2.at fun o e => hk l (by simp) o e⟩
  item := fun i s Q E hi st hQ => by
    refine RZ.nextOf_tuple_item st.1 st.2 (x := items[i]) (by simp [hi]) fun h' hit' hs' => ?_
    exact hQ _ h' s.toks (by simp [hi]) ⟨hit', st.2.extBut hs'.extBut hne⟩ hs'
  done := fun s Q E st hE => RZ.nextOf_tuple_end hh st.1 st.2 (by simp) hE

/-! ### zip of whatever draws -/
variable {E : Value → Shared → Prop} {s : Shared}
structure ZApart (z TI TO i1 i2 : Addr) (f1 f2 : List Addr) : Prop where
  TIz : TI ≠ z
  TOz : TO ≠ z
  i1z : i1 ≠ z
  i2z : i2 ≠ z
  TITO : TI ≠ TO
  TIi1 : TI ≠ i1
  TIi2 : TI ≠ i2
  TOi1 : TO ≠ i1
  TOi2 : TO ≠ i2
  i12 : i1 ≠ i2
  z1 : z ∉ f1
  TO1 : TO ∉ f1
  i21 : i2 ∉ f1
  z2 : z ∉ f2
  TO2 : TO ∉ f2
  i12' : i1 ∉ f2
theorem _root_.PySem.Draws.but {it : Addr} {fp : List Addr} {n i : Nat} {P : Nat → Value → Prop} {St : Nat → Heap → Prop} {h h' : Heap} {b : Addr} (D : Draws prog w A it fp n P St) (st : St i h) (hs : Heap.ExtBut b h h') (hb : b ∉ fp) : St i h' :=
  D.frame i h h' st fun c hc o e => hs c o (fun z => hb (by rw [← z]; exact hc)) e
theorem zipD_next_item {z TI TO i1 i2 : Addr} {f1 f2 : List Addr} {k1 k2 n1 n2 : Nat} {P1 P2 : Nat → Value → Prop} {S1 S2 : Nat → Heap → Prop} {a b : Value} {Q : Value → Shared → Prop} (D : ZApart z TI TO i1 i2 f1 f2)
    (D1 : Draws prog w A i1 f1 n1 P1 S1) (D2 : Draws prog w A i2 f2 n2 P2 S2)
    (hz : IsZip s.heap z TI TO .none) (hTI : IsPair s.heap TI (.ref i1) (.ref i2)) (hTO : IsPair s.heap TO a b)
    (h1 : S1 k1 s.heap) (h2 : S2 k2 s.heap) (hx : k1 < n1) (hy : k2 < n2)
    (hQ : ∀ x y h' tk, P1 k1 x → P2 k2 y → IsZip h' z TI TO (rawInt s.heap.objs.size) → IsPair h' TO x y → S1 (k1 + 1) h' → S2 (k2 + 1) h' → IsPair h' s.heap.objs.size x y → h'.objs.size = s.heap.objs.size + 1 →
      (∀ c o, c ≠ z → c ≠ TO → c ≠ i1 → c ≠ i2 → s.heap.get? c = some o → h'.get? c = some o) → Q (.ref s.heap.objs.size) { s with heap := h', toks := tk }) :
    wpAny (model prog w) A (Builtin.«zip.__next__» ⟨[.ref z], []⟩) (fun fin s' => ∃ v, fin = .done (.ret v) ∧ Q v s') E s := by
  obtain ⟨hp, g, d, tk₀, os⟩ := s
  show wpAny _ _ (field (.ref z) 2 >>= _) _ _ _
  refine wpAny_bind (wpAny_field hz rfl (x := .bool false) rfl ?_)
  show wpAny _ _ (field (.ref z) 3 >>= _) _ _ _
  refine wpAny_bind (wpAny_field hz rfl (x := .ref TI) rfl ?_)
  refine wpAny_bind (wpAny_seqItems hTI rfl ?_)
  show wpAny _ _ (Builtin.SmallTypes.ownedTupleIsFree (.ref z) >>= _) _ _ _
  refine wpAny_bind ?_
  unfold Builtin.SmallTypes.ownedTupleIsFree
  refine wpAny_bind (wpAny_field hz rfl (x := .none) rfl (wpAny_pure ?_))
  simp only [if_true]
  refine wpAny_bind (wpAny_rule ?_)
  refine wpAny_bind (wpAny_field hz rfl (x := .ref TO) rfl ?_)
  refine wpAny_bind (wpAny_setField_rec hz (by simp) fun h₁ hz₁ hs₁ => ?_)
  replace hz₁ : IsZip h₁ z TI TO .ellipsis := hz₁
  replace hs₁ : Heap.SameBut z hp h₁ := hs₁
  refine wpAny_bind ?_
  simp only [List.zipIdx_cons, List.zipIdx_nil, List.forIn_cons, List.forIn_nil]
  refine wpAny_bind (wpAny_bind (wpAny_onRaise ?_))
  show wpAny _ _ (Builtin.SmallTypes.nextOf (.ref i1) >>= _) _ _ _
  refine wpAny_bind (D1.item k1 _ _ _ hx (D1.but h1 hs₁.extBut D.z1) fun x h₂ t₂ px h1₂ hs₂ => wpAny_pure ?_)
  replace hs₂ : Heap.SameBut i1 h₁ h₂ := hs₂
  have hTO₂ : IsPair h₂ TO a b := hs₂.extBut _ _ D.TOi1 (hs₁.extBut _ _ D.TOz hTO)
  refine wpAny_bind (wpAny_seqItems hTO₂ rfl ?_)
  refine wpAny_bind (wpAny_updateSeq_pair hTO₂ fun h₃ hTO₃ hs₃ => ?_)
  replace hTO₃ : IsPair h₃ TO x b := hTO₃
  replace hs₃ : Heap.SameBut TO h₂ h₃ := hs₃
  refine wpAny_bind (wpAny_letGo (wpAny_pure ?_))
  refine wpAny_bind (wpAny_bind (wpAny_onRaise ?_))
  show wpAny _ _ (Builtin.SmallTypes.nextOf (.ref i2) >>= _) _ _ _
  refine wpAny_bind (D2.item k2 _ _ _ hy (D2.but (D2.but (D2.but h2 hs₁.extBut D.z2) hs₂.extBut D.i12') hs₃.extBut D.TO2) fun y h₄ t₄ py h2₄ hs₄ => wpAny_pure ?_)
  replace hs₄ : Heap.SameBut i2 h₃ h₄ := hs₄
  have hTO₄ : IsPair h₄ TO x b := hs₄.extBut _ _ D.TOi2 hTO₃
  refine wpAny_bind (wpAny_seqItems hTO₄ rfl ?_)
  refine wpAny_bind (wpAny_updateSeq_pair hTO₄ fun h₅ hTO₅ hs₅ => ?_)
  replace hTO₅ : IsPair h₅ TO x y := hTO₅
  replace hs₅ : Heap.SameBut TO h₄ h₅ := hs₅
  refine wpAny_bind (wpAny_letGo (wpAny_pure (wpAny_pure ?_)))
  refine wpAny_bind (wpAny_seqItems hTO₅ rfl ?_)
  refine wpAny_bind (wpAny_newTuple ?_)
  have hsz : h₅.objs.size = hp.objs.size := by rw [hs₅.1, hs₄.1, hs₃.1, hs₂.1, hs₁.1]
  have hz₅ : IsZip h₅ z TI TO .ellipsis := hs₅.extBut _ _ D.TOz.symm (hs₄.extBut _ _ D.i2z.symm (hs₃.extBut _ _ D.TOz.symm (hs₂.extBut _ _ D.i1z.symm hz₁)))
  have hk₅ : ∀ c o, c ≠ z → c ≠ TO → c ≠ i1 → c ≠ i2 → hp.get? c = some o → h₅.get? c = some o := fun c o c1 c2 c3 c4 e =>
    hs₅.extBut _ _ c2 (hs₄.extBut _ _ c4 (hs₃.extBut _ _ c2 (hs₂.extBut _ _ c3 (hs₁.extBut _ _ c1 e))))
  have h1₅ : S1 (k1 + 1) h₅ := D1.but (D1.but (D1.but h1₂ hs₃.extBut D.TO1) hs₄.extBut D.i21) hs₅.extBut D.TO1
  have h2₅ : S2 (k2 + 1) h₅ := D2.but h2₄ hs₅.extBut D.TO2
  have hzlt : z < h₅.objs.size := Heap.lt_size hz₅
  have hTOlt : TO < h₅.objs.size := Heap.lt_size hTO₅
  show wpAny _ _ (Builtin.SmallTypes.ownedTupleHandOut (.ref z) (.ref h₅.objs.size) >>= _) _ _ _
  refine wpAny_bind ?_
  unfold Builtin.SmallTypes.ownedTupleHandOut
  have hz₆ : IsZip (h₅.push { cls := .type "tuple", data := .seq #[x, y] }) z TI TO .ellipsis := Heap.get?_push_of_some _ hz₅
  refine wpAny_bind (wpAny_setField_rec hz₆ (by simp) fun h₇ hz₇ hs₇ => ?_)
  replace hz₇ : IsZip h₇ z TI TO (rawInt h₅.objs.size) := hz₇
  refine wpAny_setField_rec hz₇ (by simp) fun h₈ hz₈ hs₈ => ?_
  replace hz₈ : IsZip h₈ z TI TO (rawInt h₅.objs.size) := hz₈
  have up : ∀ c o, c ≠ z → h₅.get? c = some o → h₈.get? c = some o := fun c o c1 e => hs₈.extBut _ _ c1 (hs₇.extBut _ _ c1 (Heap.get?_push_of_some _ e))
  have hT₈ : IsPair h₈ h₅.objs.size x y := hs₈.extBut _ _ (Nat.ne_of_gt hzlt) (hs₇.extBut _ _ (Nat.ne_of_gt hzlt) (Heap.get?_push_size _ rfl))
  have hz8 : h₈.objs.size = h₅.objs.size + 1 := by rw [hs₈.1, hs₇.1, Heap.size_push]
  rw [hsz] at hz₈ hT₈ hz8
  refine wpAny_pure ⟨_, rfl, ?_⟩
  show Q (.ref h₅.objs.size) _
  rw [hsz]
  exact hQ x y h₈ _ px py hz₈ (up _ _ D.TOz hTO₅) (D1.frame _ _ _ h1₅ fun c hc o e => up c o (fun q => D.z1 (by rw [← q]; exact hc)) e) (D2.frame _ _ _ h2₅ fun c hc o e => up c o (fun q => D.z2 (by rw [← q]; exact hc)) e) hT₈ hz8 fun c o c1 c2 c3 c4 e => up c o c1 (hk₅ c o c1 c2 c3 c4 e)
theorem zipD_next_end {z TI TO i1 i2 : Addr} {f1 f2 : List Addr} {k n1 n2 : Nat} {P1 P2 : Nat → Value → Prop} {S1 S2 : Nat → Heap → Prop} {a b : Value} {Q : Fin → Shared → Prop} (D : ZApart z TI TO i1 i2 f1 f2)
    (D1 : Draws prog w A i1 f1 n1 P1 S1) (D2 : Draws prog w A i2 f2 n2 P2 S2)
    (hz : IsZip s.heap z TI TO .none) (hTI : IsPair s.heap TI (.ref i1) (.ref i2)) (hTO : IsPair s.heap TO a b)
    (h1 : S1 k s.heap) (h2 : S2 k s.heap) (hend : k = n1 ∨ (k < n1 ∧ k = n2))
    (hE : ∀ h' tk e, (∀ c o, c ≠ z → c ≠ TO → c ≠ i1 → c ≠ i2 → s.heap.get? c = some o → h'.get? c = some o) → (∃ o, h'.get? e = some o ∧ o.cls = .type "StopIteration") → E (.ref e) { s with heap := h', toks := tk }) :
    wpAny (model prog w) A (Builtin.«zip.__next__» ⟨[.ref z], []⟩) Q E s := by
  obtain ⟨hp, g, d, tk₀, os⟩ := s
  show wpAny _ _ (field (.ref z) 2 >>= _) _ _ _
  refine wpAny_bind (wpAny_field hz rfl (x := .bool false) rfl ?_)
  show wpAny _ _ (field (.ref z) 3 >>= _) _ _ _
  refine wpAny_bind (wpAny_field hz rfl (x := .ref TI) rfl ?_)
  refine wpAny_bind (wpAny_seqItems hTI rfl ?_)
  show wpAny _ _ (Builtin.SmallTypes.ownedTupleIsFree (.ref z) >>= _) _ _ _
  refine wpAny_bind ?_
  unfold Builtin.SmallTypes.ownedTupleIsFree
  refine wpAny_bind (wpAny_field hz rfl (x := .none) rfl (wpAny_pure ?_))
  simp only [if_true]
  refine wpAny_bind (wpAny_rule ?_)
  refine wpAny_bind (wpAny_field hz rfl (x := .ref TO) rfl ?_)
  refine wpAny_bind (wpAny_setField_rec hz (by simp) fun h₁ hz₁ hs₁ => ?_)
  replace hz₁ : IsZip h₁ z TI TO .ellipsis := hz₁
  replace hs₁ : Heap.SameBut z hp h₁ := hs₁
  refine wpAny_bind ?_
  simp only [List.zipIdx_cons, List.zipIdx_nil, List.forIn_cons, List.forIn_nil]
  refine wpAny_bind (wpAny_bind (wpAny_onRaise ?_))
  show wpAny _ _ (Builtin.SmallTypes.nextOf (.ref i1) >>= _) _ _ _
  rcases hend with hend | ⟨hlt, hend⟩
  · rw [hend] at h1
    refine wpAny_bind (D1.done _ _ _ (D1.but h1 hs₁.extBut D.z1) fun h₂ e hs₂ he => ?_)
    obtain ⟨oe, hoe, hce⟩ := he
    have hz₂ : IsZip h₂ z TI TO .ellipsis := hs₂ _ _ D.i1z.symm hz₁
    have hez : e ≠ z := fun x => by subst x; rw [hz₂] at hoe; cases hoe; simp at hce
    exact wpAny_setField_rec hz₂ (by simp) fun h₃ _ hs₃ => hE h₃ _ e (fun c o c1 _ c3 _ x => hs₃.extBut _ _ c1 (hs₂ _ _ c3 (hs₁.extBut _ _ c1 x))) ⟨oe, hs₃.extBut _ _ hez hoe, hce⟩
  · refine wpAny_bind (D1.item k _ _ _ hlt (D1.but h1 hs₁.extBut D.z1) fun x h₂ t₂ px h1₂ hs₂ => wpAny_pure ?_)
    replace hs₂ : Heap.SameBut i1 h₁ h₂ := hs₂
    have hTO₂ : IsPair h₂ TO a b := hs₂.extBut _ _ D.TOi1 (hs₁.extBut _ _ D.TOz hTO)
    refine wpAny_bind (wpAny_seqItems hTO₂ rfl ?_)
    refine wpAny_bind (wpAny_updateSeq_pair hTO₂ fun h₃ hTO₃ hs₃ => ?_)
    replace hs₃ : Heap.SameBut TO h₂ h₃ := hs₃
    refine wpAny_bind (wpAny_letGo (wpAny_pure ?_))
    refine wpAny_bind (wpAny_bind (wpAny_onRaise ?_))
    show wpAny _ _ (Builtin.SmallTypes.nextOf (.ref i2) >>= _) _ _ _
    rw [hend] at h2
    refine wpAny_bind (D2.done _ _ _ (D2.but (D2.but (D2.but h2 hs₁.extBut D.z2) hs₂.extBut D.i12') hs₃.extBut D.TO2) fun h₄ e hs₄ he => ?_)
    obtain ⟨oe, hoe, hce⟩ := he
    have hz₄ : IsZip h₄ z TI TO .ellipsis := hs₄ _ _ D.i2z.symm (hs₃.extBut _ _ D.TOz.symm (hs₂.extBut _ _ D.i1z.symm hz₁))
    have hez : e ≠ z := fun x => by subst x; rw [hz₄] at hoe; cases hoe; simp at hce
    exact wpAny_setField_rec hz₄ (by simp) fun h₅ _ hs₅ => hE h₅ _ e (fun c o c1 c2 c3 c4 x => hs₅.extBut _ _ c1 (hs₄ _ _ c4 (hs₃.extBut _ _ c2 (hs₂.extBut _ _ c3 (hs₁.extBut _ _ c1 x))))) ⟨oe, hs₅.extBut _ _ hez hoe, hce⟩
theorem pyNext_zipD_item {z TI TO i1 i2 : Addr} {f1 f2 : List Addr} {k1 k2 n1 n2 : Nat} {P1 P2 : Nat → Value → Prop} {S1 S2 : Nat → Heap → Prop} {a b : Value} {Q : Option Value → Shared → Prop} (D : ZApart z TI TO i1 i2 f1 f2)
    (D1 : Draws prog w A.in1 i1 f1 n1 P1 S1) (D2 : Draws prog w A.in1 i2 f2 n2 P2 S2)
    (hz : IsZip s.heap z TI TO .none) (hTI : IsPair s.heap TI (.ref i1) (.ref i2)) (hTO : IsPair s.heap TO a b)
    (h1 : S1 k1 s.heap) (h2 : S2 k2 s.heap) (hx : k1 < n1) (hy : k2 < n2)
    (hQ : ∀ x y h' tk, P1 k1 x → P2 k2 y → IsZip h' z TI TO (rawInt s.heap.objs.size) → IsPair h' TO x y → S1 (k1 + 1) h' → S2 (k2 + 1) h' → IsPair h' s.heap.objs.size x y → h'.objs.size = s.heap.objs.size + 1 →
      (∀ c o, c ≠ z → c ≠ TO → c ≠ i1 → c ≠ i2 → s.heap.get? c = some o → h'.get? c = some o) → Q (some (.ref s.heap.objs.size)) { s with heap := h', toks := tk }) :
    wpAny (model prog w) A (pyNext (.ref z)) Q E s := by
  have hT : s.TypeIs (.ref z) "zip" := ⟨_, hz, rfl⟩
  unfold pyNext
  exact wpAny_bind (wpAny_attempt (wpAny_callSpecial?_slot (name := Str.ofString "__next__") hT F.slot_zip_next
    (wpAny_call_entry F.slot_zip_next hT F.entry_zip_next
      (zipD_next_item D D1 D2 hz hTI hTO h1 h2 hx hy fun x y h' tk p1 p2 a1 a2 a3 a4 a5 a6 a7 => wpAny_pure (hQ x y h' tk p1 p2 a1 a2 a3 a4 a5 a6 a7)) (F.args_zip_next_1 _))))
theorem pyNext_zipD_end {z TI TO i1 i2 : Addr} {f1 f2 : List Addr} {k n1 n2 : Nat} {P1 P2 : Nat → Value → Prop} {S1 S2 : Nat → Heap → Prop} {a b : Value} {Q : Option Value → Shared → Prop} (D : ZApart z TI TO i1 i2 f1 f2)
    (D1 : Draws prog w A.in1 i1 f1 n1 P1 S1) (D2 : Draws prog w A.in1 i2 f2 n2 P2 S2)
    (hz : IsZip s.heap z TI TO .none) (hTI : IsPair s.heap TI (.ref i1) (.ref i2)) (hTO : IsPair s.heap TO a b)
    (h1 : S1 k s.heap) (h2 : S2 k s.heap) (hend : k = n1 ∨ (k < n1 ∧ k = n2))
    (hQ : ∀ h' tk, (∀ c o, c ≠ z → c ≠ TO → c ≠ i1 → c ≠ i2 → s.heap.get? c = some o → h'.get? c = some o) → Q none { s with heap := h', toks := tk }) : wpAny (model prog w) A (pyNext (.ref z)) Q E s := by
  have hT : s.TypeIs (.ref z) "zip" := ⟨_, hz, rfl⟩
  unfold pyNext
  refine wpAny_bind (wpAny_attempt (wpAny_callSpecial?_slot (name := Str.ofString "__next__") hT F.slot_zip_next
    (wpAny_call_entry F.slot_zip_next hT F.entry_zip_next (zipD_next_end D D1 D2 hz hTI hTO h1 h2 hend fun h' tk e hk he => ?_) (F.args_zip_next_1 _))))
  obtain ⟨o, ho, hc⟩ := he
  refine wpAny_bind (wpAny_isInstance (T := "StopIteration") (b := true) ⟨o, ho, hc⟩ isSubtype_stop ?_)
  exact wpAny_pure (hQ _ _ hk)
end

/-! ### making a zip, an enumerate -/
/-- a value whose iterator is made by laying the object o -/
def Iters (C : Heap → Prop) (v : Value) (o : Obj) : Prop := ∀ (prog : Program) (w : World) (A : Around) (Q : Value → Shared → Prop) (E : Value → Shared → Prop) (s : Shared), C s.heap → Q (.ref s.heap.objs.size) { s with heap := s.heap.push o } → wpAny (model prog w) A (pyIter v) Q E s
theorem Iters.use {C : Heap → Prop} {v : Value} {o : Obj} (i : Iters C v o) {prog : Program} {w : World} {A : Around} {Q : Value → Shared → Prop} {E : Value → Shared → Prop} {s : Shared} (c : C s.heap) (q : Q (.ref s.heap.objs.size) { s with heap := s.heap.push o }) : wpAny (model prog w) A (pyIter v) Q E s := i prog w A Q E s c q
abbrev zH3 (h : Heap) (o1 o2 : Obj) : Heap := ((h.push o1).push o2).push { cls := .type "tuple", data := .seq #[.ref h.objs.size, .ref (h.push o1).objs.size] }
abbrev zH4 (h : Heap) (o1 o2 : Obj) : Heap := (zH3 h o1 o2).push { cls := .type "tuple", data := .seq #[.none, .none] }
abbrev zH5 (h : Heap) (o1 o2 : Obj) : Heap := (zH4 h o1 o2).push { cls := .type "zip", data := .fields #[.none, .bool false, .bool false, .ref ((h.push o1).push o2).objs.size, .ref (zH3 h o1 o2).objs.size] }
theorem meets_zipD_new {C1 C2 : Heap → Prop} (v1 v2 : Value) (o1 o2 : Obj) (i1 : Iters C1 v1 o1) (i2 : Iters C2 v2 o2) :
    Meets (Builtin.«zip.__new__» ⟨[.type "zip", v1, v2], []⟩) (fun _ R s => C1 s.heap ∧ C2 (s.heap.push o1) ∧
      R (.ok (.ret (.ref (zH4 s.heap o1 o2).objs.size))) { s with heap := zH5 s.heap o1 o2 }) :=
  .of_wp fun prog w A R s h => by
    obtain ⟨hp, g, d, tk, os⟩ := s; obtain ⟨hl1, hl2, h⟩ := h
    have hsub := sub_zip
    have hL1 : C1 (Shared.heap ⟨hp, g, d, tk, os⟩) := hl1
    have hL2 : C2 (Shared.heap ⟨hp.push o1, g, d, tk, os⟩) := hl2
    wp_walk using Iters.use i1 hL1, Iters.use i2 hL2
    exact ⟨_, rfl, h⟩
end DL

-- DL12
set_option Elab.async false
set_option linter.all false
set_option maxRecDepth 100000
set_option maxHeartbeats 4000000
/-! The data layer: zip and enumerate, walked. -/
namespace DL
open PySem PySem.Spec PyProof.Rows L2 PyProof

/-- what is walked: a list, a tuple, a text -/
inductive Sk | l (a : Addr) | t (a : Addr) | s (z : Str)
namespace Sk
def v : Sk → V
  | .l a => .ref a
  | .t a => .ref a
  | .s z => .str z
def src (K : PySem.W.Frag) (H : Hp) : Sk → List V → Prop
  | .l a, xs => SqL K H a xs
  | .t a, xs => SqT K H a xs
  | .s z, xs => xs = z.cps.toList.map fun c => V.str ⟨#[c]⟩
def ne : Sk → Addr → Prop
  | .l a, c => a ≠ c
  | .t a, c => a ≠ c
  | .s _, _ => True
def st (k : Sk) (it : Addr) (i : Nat) (h : Heap) : Prop := match k with
  | .l a => h.IsListIter it a i
  | .t a => h.IsTupleIter it a i
  | .s z => ∃ t, h.IsStrIter it (strIterType z) z t i
theorem st_obj {k : Sk} {it : Addr} {i : Nat} {h : Heap} (s : k.st it i h) : ∃ o, h.get? it = some o ∧ ∀ v, o.data ≠ .cell v := by
  cases k with
  | l a => obtain ⟨o, e, _, d⟩ := s; exact ⟨o, e, fun v z => by rw [d] at z; cases z⟩
  | t a => obtain ⟨o, e, _, d⟩ := s; exact ⟨o, e, fun v z => by rw [d] at z; cases z⟩
  | s z => obtain ⟨t, o, e, _, d⟩ := s; exact ⟨o, e, fun v z => by rw [d] at z; cases z⟩
theorem st_at {k : Sk} {it : Addr} {i : Nat} {h h' : Heap} (s : k.st it i h) (hk : ∀ o, h.get? it = some o → h'.get? it = some o) : k.st it i h' := by
  cases k with
  | l a => obtain ⟨o, e, r⟩ := s; exact ⟨o, hk o e, r⟩
  | t a => obtain ⟨o, e, r⟩ := s; exact ⟨o, hk o e, r⟩
  | s z => obtain ⟨t, o, e, r⟩ := s; exact ⟨t, o, hk o e, r⟩
theorem src_inj {X : Cx} {pins : List (Addr × Obj)} {σ : L2.St} {H : Hp} {s : Shared} {k : Sk} {xs ys : List V} (I : Inv X pins σ H s) (h1 : k.src X.K H xs) (h2 : k.src X.K H ys) : xs = ys := by
  cases k with
  | l a => exact I.list_inj h1 h2
  | t a => exact I.tuple_inj h1 h2
  | s z => exact h1.trans h2.symm
theorem draws {X : Cx} {pins : List (Addr × Obj)} {σ : L2.St} {H : Hp} {s : Shared} {k : Sk} {xs : List V} {it : Addr} {i : Nat} {A : Around} {prog : Program} {w : World} (I : Inv X pins σ H s) (h : k.src X.K H xs) (st : k.st it i s.heap) (hne : k.ne it) (hh : A.handled = none) :
    ∃ (fp : List Addr) (P : Nat → Value → Prop) (St : Nat → Heap → Prop), Draws prog w A it fp xs.length P St ∧ St i s.heap ∧ (∀ j x, P j x → ∃ y, xs[j]? = some y ∧ RelV y x) ∧ (∀ j h, St j h → k.st it j h) ∧ (∀ c, c ≠ it → k.ne c → c ∉ fp) ∧ it ∈ fp := by
  cases k with
  | l a =>
    obtain ⟨its, rv, p, _⟩ := I.list h
    have hl := rv.length
    have D := Draws.list (prog := prog) (w := w) (A := A) hh it a hne its.toArray
    rw [List.size_toArray, ← hl] at D
    refine ⟨_, _, _, D, ⟨st, p.isList⟩, fun j x e => ?_, fun j h s => s.1, fun c h1 h2 z => ?_, by simp⟩
    · have e' : its[j]? = some x := by simpa using e
      have hj : j < xs.length := by rw [hl]; exact (List.getElem?_eq_some_iff.mp e').1
      obtain ⟨u, hu, ru⟩ := rv.get (List.getElem?_eq_getElem hj)
      rw [e'] at hu; cases hu
      exact ⟨_, List.getElem?_eq_getElem hj, ru⟩
    · have : c = it ∨ c = a := by simpa using z
      rcases this with z | z
      · exact h1 z
      · exact h2 z.symm
  | t a =>
    obtain ⟨its, rv, p, _⟩ := I.tuple h
    have hl := rv.length
    have D := draws_tuple (prog := prog) (w := w) (A := A) hh it a hne its.toArray
    rw [List.size_toArray, ← hl] at D
    refine ⟨_, _, _, D, ⟨st, p⟩, fun j x e => ?_, fun j h s => s.1, fun c h1 h2 z => ?_, by simp⟩
    · have e' : its[j]? = some x := by simpa using e
      have hj : j < xs.length := by rw [hl]; exact (List.getElem?_eq_some_iff.mp e').1
      obtain ⟨u, hu, ru⟩ := rv.get (List.getElem?_eq_getElem hj)
      rw [e'] at hu; cases hu
      exact ⟨_, List.getElem?_eq_getElem hj, ru⟩
    · have : c = it ∨ c = a := by simpa using z
      rcases this with z | z
      · exact h1 z
      · exact h2 z.symm
  | s z =>
    have h : xs = z.cps.toList.map fun c => V.str ⟨#[c]⟩ := h
    subst h
    obtain ⟨t, st⟩ := st
    have hP : ∀ (j : Nat) (x : Value), (∃ c u, z.cps[j]? = some c ∧ x = .str ⟨#[c]⟩ u) → ∃ y, (z.cps.toList.map fun c => V.str ⟨#[c]⟩)[j]? = some y ∧ RelV y x := fun j x ⟨c, u, e, ex⟩ => by
      subst ex
      refine ⟨.str ⟨#[c]⟩, ?_, ⟨u, rfl⟩⟩
      rw [List.getElem?_map, show z.cps.toList[j]? = some c from by simpa using e]
      rfl
    have hn : (z.cps.toList.map fun c => V.str ⟨#[c]⟩).length = z.cps.size := by simp
    rw [hn]
    cases ha : z.cps.all (· < 128) with
    | true =>
      have e : strIterType z = "str_ascii_iterator" := by simp [strIterType, ha]
      rw [e] at st
      exact ⟨_, _, _, Draws.strAscii hh it z t, st, hP, fun j h s => ⟨t, by rw [e]; exact s⟩, fun c h1 _ q => h1 (by simpa using q), by simp⟩
    | false =>
      have e : strIterType z = "str_iterator" := by simp [strIterType, ha]
      rw [e] at st
      exact ⟨_, _, _, Draws.strWide hh it z t, st, hP, fun j h s => ⟨t, by rw [e]; exact s⟩, fun c h1 _ q => h1 (by simpa using q), by simp⟩
/-- its iterator is made -/
def obj : Sk → Tok → Obj
  | .l a, _ => { cls := .type "list_iterator", data := .fields #[.ref a, .int 0 0] }
  | .t a, _ => { cls := .type "tuple_iterator", data := .fields #[.ref a, .int 0 0] }
  | .s z, tk => { cls := .type (strIterType z), data := .fields #[.str z tk, .int 0 0] }
theorem st0 {k : Sk} {t : Tok} {it : Addr} {h : Heap} (e : h.get? it = some (k.obj t)) : k.st it 0 h := by
  cases k with
  | l a => exact ⟨_, e, rfl, rfl⟩
  | t a => exact ⟨_, e, rfl, rfl⟩
  | s z => exact ⟨t, _, e, rfl, rfl⟩
theorem obj_free {k : Sk} {t : Tok} : (k.obj t).isFreed = false := by cases k <;> rfl
theorem iters {X : Cx} {pins : List (Addr × Obj)} {σ : L2.St} {H : Hp} {s : Shared} {k : Sk} {xs : List V} {u : Value} (I : Inv X pins σ H s) (h : k.src X.K H xs) (r : RelV k.v u) :
    ∃ (t : Tok) (C : Heap → Prop), Iters C u (k.obj t) ∧ C s.heap ∧ (∀ h o, C h → C (h.push o)) ∧ ∀ c, s.heap.objs.size ≤ c → k.ne c := by
  cases k with
  | l a =>
    cases (show u = .ref a from r)
    obtain ⟨its, rv, p, _⟩ := I.list h
    exact ⟨0, fun h => h.IsList a its.toArray, fun prog w A Q E s c q => wpAny_pyIter_list c q, p.isList, fun h o c => c.push _, fun c hc z => by subst z; exact absurd p.lt (Nat.not_lt.mpr hc)⟩
  | t a =>
    cases (show u = .ref a from r)
    obtain ⟨its, rv, p, _⟩ := I.tuple h
    obtain ⟨o1, ho1, _⟩ := id p
    exact ⟨0, fun h => h.IsTuple a its.toArray, fun prog w A Q E s c q => wpAny_pyIter_tuple c q, p, fun h o c => Heap.IsTuple.push c _, fun c hc z => by subst z; exact absurd (Heap.lt_size ho1) (Nat.not_lt.mpr hc)⟩
  | s z =>
    obtain ⟨t, rfl⟩ := r
    exact ⟨t, fun _ => True, fun prog w A Q E s c q => wpAny_pyIter_strU q, trivial, fun _ _ _ => trivial, fun _ _ => trivial⟩
end Sk

/-- pairs of what stands at a and at b at each turn -/
def ItzG (K : PySem.W.Frag) (a b : Sk) : It :=
  ⟨fun i H => ∃ (xs ys : List V), a.src K H xs ∧ b.src K H ys ∧ i < xs.length ∧ i < ys.length,
    fun i H v H' => ∃ T x y, v = .ref T ∧ H T = none ∧ H' = upd H T (.tup [x, y]) ∧ (∀ xs, a.src K H xs → xs[i]? = some x) ∧ ∀ ys, b.src K H ys → ys[i]? = some y,
    fun i H => ∃ xs ys : List V, a.src K H xs ∧ b.src K H ys ∧ (i = xs.length ∨ (i < xs.length ∧ i = ys.length))⟩
structure ZA (z TI TO i1 i2 : Addr) (a b : Sk) : Prop where
  TIz : TI ≠ z
  TOz : TO ≠ z
  i1z : i1 ≠ z
  i2z : i2 ≠ z
  TITO : TI ≠ TO
  TIi1 : TI ≠ i1
  TIi2 : TI ≠ i2
  TOi1 : TO ≠ i1
  TOi2 : TO ≠ i2
  i12 : i1 ≠ i2
  az : a.ne z
  aTO : a.ne TO
  ai1 : a.ne i1
  ai2 : a.ne i2
  bz : b.ne z
  bTO : b.ne TO
  bi1 : b.ne i1
  bi2 : b.ne i2
theorem turn_zipG {P : Program} {w : World} {K : PySem.W.Frag} {elts : List Expr} {kk : Nat} {tpos : Pos} {a b : Sk} {z TI TO i1 i2 : Addr} (D : ZA z TI TO i1 i2 a b) :
    Turn P w K (.Tuple elts kk tpos) (ItzG K a b) [z, TI, TO, i1, i2] z (fun i h => IsZip h z TI TO .none ∧ IsPair h TI (.ref i1) (.ref i2) ∧ (∃ x y, IsPair h TO x y) ∧ a.st i1 i h ∧ b.st i2 i h) where
  mem := by simp
  obj := fun i h st c hc => by
    obtain ⟨hz, hTI, ⟨x, y, hTO⟩, s1, s2⟩ := st
    have e' : c = z ∨ c = TI ∨ c = TO ∨ c = i1 ∨ c = i2 := by simpa using hc
    rcases e' with q | q | q | q | q
    · rw [q]; exact ⟨_, hz, fun v q => nomatch q⟩
    · rw [q]; exact ⟨_, hTI, fun v q => nomatch q⟩
    · rw [q]; exact ⟨_, hTO, fun v q => nomatch q⟩
    · rw [q]; exact Sk.st_obj s1
    · rw [q]; exact Sk.st_obj s2
  keep := fun i h h' st k => by
    obtain ⟨hz, hTI, ⟨x, y, hTO⟩, h1, h2⟩ := st
    exact ⟨k z (by simp) _ hz, k TI (by simp) _ hTI, ⟨x, y, k TO (by simp) _ hTO⟩, Sk.st_at h1 fun o q => k i1 (by simp) o q, Sk.st_at h2 fun o q => k i2 (by simp) o q⟩
  item := by
    intro X hP hw hK hc i pins s σ H E I hf st hg
    subst hP hw hK
    obtain ⟨hz, hTI, ⟨x0, y0, hTO⟩, h1, h2⟩ := st
    obtain ⟨xs, ys, hqx, hqy, hx, hy⟩ := hg
    have hh : X.A.in1.handled = none := I.ok.hd hc
    obtain ⟨f1, P1, S1, D1, c1, p1, k1, n1, m1⟩ := Sk.draws (prog := X.prog) (w := X.w) I hqx h1 D.ai1 hh
    obtain ⟨f2, P2, S2, D2, c2, p2, k2, n2, m2⟩ := Sk.draws (prog := X.prog) (w := X.w) I hqy h2 D.bi2 hh
    have Z : ZApart z TI TO i1 i2 f1 f2 := ⟨D.TIz, D.TOz, D.i1z, D.i2z, D.TITO, D.TIi1, D.TIi2, D.TOi1, D.TOi2, D.i12, n1 z D.i1z.symm D.az, n1 TO D.TOi1 D.aTO, n1 i2 D.i12.symm D.ai2, n2 z D.i2z.symm D.bz, n2 TO D.TOi2 D.bTO, n2 i1 D.i12 D.bi1⟩
    have hzl : z < s.heap.objs.size := Heap.lt_size hz
    refine pyNext_zipD_item Z D1 D2 hz hTI hTO c1 c2 hx hy fun u u2 h' tk pu pu2 z' TO' h1' h2' hT hsz hk => ?_
    obtain ⟨x, hx', ru⟩ := p1 _ _ pu
    obtain ⟨y, hy', ru2⟩ := p2 _ _ pu2
    refine ⟨_, rfl, wpAny_letOwnedTupleGo_zip (s := { s with heap := h', toks := tk }) z' fun h'' z'' sb => ?_⟩
    have hT2 : h''.get? s.heap.objs.size = some { cls := .type "tuple", data := .seq #[u, u2] } := (sb.2 _ (Nat.ne_of_gt hzl)).trans hT
    have new : ObjOk X.prog X.w (upd H s.heap.objs.size (.tup [x, y])) h'' s.heap.objs.size (.tup [x, y]) :=
      ⟨by show 2 ≤ sizeLine; decide, [u, u2], .cons ru (.cons ru2 .nil), ⟨_, hT2, rfl, _, rfl⟩⟩
    have I1 : Inv X pins σ (upd H s.heap.objs.size (.tup [x, y])) { s with heap := h'', toks := tk } :=
      I.turnedNew (t' := tk) (ch := [z, TI, TO, i1, i2]) (fun c o hb q => (sb.2 c (fun q' => hb (by simp [q']))).trans (hk c o (fun q' => hb (by simp [q'])) (fun q' => hb (by simp [q'])) (fun q' => hb (by simp [q'])) (fun q' => hb (by simp [q'])) q)) hf (Nat.le_refl _) new
    refine ⟨.ref s.heap.objs.size, _, I1, rfl, ⟨_, x, y, rfl, I.hok.fresh (Nat.le_refl _), rfl, fun l hl => by rw [Sk.src_inj I hl hqx]; exact hx', fun l hl => by rw [Sk.src_inj I hl hqy]; exact hy'⟩, ⟨z'', ?_, ⟨u, u2, ?_⟩, ?_, ?_⟩, fun c hcm => ?_⟩
    · exact (sb.2 _ D.TIz).trans (hk _ _ D.TIz D.TITO D.TIi1 D.TIi2 hTI)
    · exact (sb.2 _ D.TOz).trans TO'
    · exact Sk.st_at (k1 _ _ h1') fun o q => (sb.2 _ D.i1z).trans q
    · exact Sk.st_at (k2 _ _ h2') fun o q => (sb.2 _ D.i2z).trans q
    · have hlt : c < s.heap.objs.size := by
        have e' : c = z ∨ c = TI ∨ c = TO ∨ c = i1 ∨ c = i2 := by simpa using hcm
        rcases e' with q | q | q | q | q
        · rw [q]; exact hzl
        · rw [q]; exact Heap.lt_size hTI
        · rw [q]; exact Heap.lt_size hTO
        · rw [q]; obtain ⟨_, e1, _⟩ := Sk.st_obj h1; exact Heap.lt_size e1
        · rw [q]; obtain ⟨_, e2, _⟩ := Sk.st_obj h2; exact Heap.lt_size e2
      rw [upd_ne (Nat.ne_of_lt hlt)]
      exact (hf c hcm).1
  done := by
    intro X hP hw hK hc i pins s σ H E I hf st hg
    subst hP hw hK
    obtain ⟨hz, hTI, ⟨x0, y0, hTO⟩, h1, h2⟩ := st
    obtain ⟨xs, ys, hqx, hqy, hend⟩ := hg
    have hh : X.A.in1.handled = none := I.ok.hd hc
    obtain ⟨f1, P1, S1, D1, c1, p1, k1, n1, m1⟩ := Sk.draws (prog := X.prog) (w := X.w) I hqx h1 D.ai1 hh
    obtain ⟨f2, P2, S2, D2, c2, p2, k2, n2, m2⟩ := Sk.draws (prog := X.prog) (w := X.w) I hqy h2 D.bi2 hh
    have Z : ZApart z TI TO i1 i2 f1 f2 := ⟨D.TIz, D.TOz, D.i1z, D.i2z, D.TITO, D.TIi1, D.TIi2, D.TOi1, D.TOi2, D.i12, n1 z D.i1z.symm D.az, n1 TO D.TOi1 D.aTO, n1 i2 D.i12.symm D.ai2, n2 z D.i2z.symm D.bz, n2 TO D.TOi2 D.bTO, n2 i1 D.i12 D.bi1⟩
    exact pyNext_zipD_end Z D1 D2 hz hTI hTO c1 c2 hend fun h' tk hk => ⟨rfl, I.turnedL (t' := tk) (ch := [z, TI, TO, i1, i2]) (fun c o hb q =>
      hk c o (fun q' => hb (by simp [q'])) (fun q' => hb (by simp [q'])) (fun q' => hb (by simp [q'])) (fun q' => hb (by simp [q'])) q) hf⟩
  self := fun A i s Q E st h => wpAny_pyIter_zip st.1 h
theorem pi_zipG {X : Cx} {e e2 : Expr} {ta : TA} {p pos tpos : Pos} {elts : List Expr} {kk : Nat} (hg : Gl X "zip") (hm : X.mg "zip" = none) (ha : PA X [e, e2] ta)
    (hs : starEach [e, e2] X.env = (false, eval e X.env) :: starEach [e2] X.env := by kernel_rfl) (hpl : (backTo pos (starEach [e2] X.env)).any (·.1) = false := by kernel_rfl) :
    PI X (.Tuple elts kk tpos) (.Call (.Name "zip" p) [e, e2] [] pos) (fun σ H R => ta σ H fun vs H1 => ∃ (a b : Sk) (xs ys : List V), vs = [a.v, b.v] ∧ a.src X.K H1 xs ∧ b.src X.K H1 ys ∧ R (ItzG X.K a b) H1) := by
  refine ⟨fun pins s σ H R I h => ?_⟩
  refine Call_ (ld_blt I hg hm PyProof.Rows.boot_zip (PyProof.Rows.callWith_type1 (thn (ha.run pos pins s σ H _ I h) fun us s1 ⟨vs, H1, I1, r1, q1⟩ => ?_) hs hpl))
  obtain ⟨a, b, xs, ys, ex, hqx, hqy, q⟩ := q1
  subst ex
  cases r1 with
  | @cons _ u1 _ _ r rr =>
    cases rr with
    | @cons _ u2 _ _ r' rr =>
      cases rr
      obtain ⟨t1, C1, i1, c1, k1, n1⟩ := Sk.iters I1 hqx r
      obtain ⟨t2, C2, i2, c2, k2, n2⟩ := Sk.iters I1 hqy r'
      have fresh5 : ∀ c, c ∈ [s1.heap.objs.size + 4, s1.heap.objs.size + 2, s1.heap.objs.size + 3, s1.heap.objs.size, s1.heap.objs.size + 1] → s1.heap.objs.size ≤ c := fun c hcm => by
        have e' : c = s1.heap.objs.size + 4 ∨ c = s1.heap.objs.size + 2 ∨ c = s1.heap.objs.size + 3 ∨ c = s1.heap.objs.size ∨ c = s1.heap.objs.size + 1 := by simpa using hcm
        omega
      refine callType_new F.called_zip (by decide) (F.typeCall_zip_2 _ _) (F.newCall_zip_2 _ _) (fun obj => F.args_object_init_3 obj _ _) F.entry_zip_new
        (meets_zipD_new u1 u2 (a.obj t1) (b.obj t2) i1 i2) ⟨c1, k2 _ _ c2, ?_⟩
      have z1 : (s1.heap.push (a.obj t1)).objs.size = s1.heap.objs.size + 1 := Heap.size_push ..
      have z2 : ((s1.heap.push (a.obj t1)).push (b.obj t2)).objs.size = s1.heap.objs.size + 2 := by rw [Heap.size_push, z1]
      have z3 : (zH3 s1.heap (a.obj t1) (b.obj t2)).objs.size = s1.heap.objs.size + 3 := by rw [Heap.size_push, z2]
      have z4 : (zH4 s1.heap (a.obj t1) (b.obj t2)).objs.size = s1.heap.objs.size + 4 := by rw [Heap.size_push, z3]
      have g5 : (zH5 s1.heap (a.obj t1) (b.obj t2)).get? (zH4 s1.heap (a.obj t1) (b.obj t2)).objs.size = some _ := Heap.get?_push_size _ rfl
      have g4 : (zH5 s1.heap (a.obj t1) (b.obj t2)).get? (zH3 s1.heap (a.obj t1) (b.obj t2)).objs.size = some _ := Heap.get?_push_of_some _ (Heap.get?_push_size _ rfl)
      have g3 : (zH5 s1.heap (a.obj t1) (b.obj t2)).get? ((s1.heap.push (a.obj t1)).push (b.obj t2)).objs.size = some _ := Heap.get?_push_of_some _ (Heap.get?_push_of_some _ (Heap.get?_push_size _ rfl))
      have g2 : (zH5 s1.heap (a.obj t1) (b.obj t2)).get? (s1.heap.push (a.obj t1)).objs.size = some _ := Heap.get?_push_of_some _ (Heap.get?_push_of_some _ (Heap.get?_push_of_some _ (Heap.get?_push_size _ Sk.obj_free)))
      have g1 : (zH5 s1.heap (a.obj t1) (b.obj t2)).get? s1.heap.objs.size = some _ := Heap.get?_push_of_some _ (Heap.get?_push_of_some _ (Heap.get?_push_of_some _ (Heap.get?_push_of_some _ (Heap.get?_push_size _ Sk.obj_free))))
      show _ ∧ _
      rw [z2, z3, z4] at g5
      rw [z1, z2] at g3
      rw [z3] at g4
      rw [z1] at g2
      rw [z4]
      have hk : ∀ c o, s1.heap.get? c = some o → (zH5 s1.heap (a.obj t1) (b.obj t2)).get? c = some o := fun c o x => Heap.get?_push_of_some _ (Heap.get?_push_of_some _ (Heap.get?_push_of_some _ (Heap.get?_push_of_some _ (Heap.get?_push_of_some _ x))))
      refine ⟨⟨_, g5, rfl⟩, wpAny_pyIter_zip g5 ?_⟩
      have I2 : Inv X pins σ H1 { s1 with heap := zH5 s1.heap (a.obj t1) (b.obj t2) } := I1.kept (t' := s1.toks) hk
      have Z : ZA (s1.heap.objs.size + 4) (s1.heap.objs.size + 2) (s1.heap.objs.size + 3) s1.heap.objs.size (s1.heap.objs.size + 1) a b := by
        clear g1 g2 g3 g4 g5 z1 z2 z3 z4
        have hd : ∀ i j : Nat, i ≠ j → s1.heap.objs.size + i ≠ s1.heap.objs.size + j := fun i j h z => h (Nat.add_left_cancel z)
        have hd0 : ∀ i : Nat, i ≠ 0 → s1.heap.objs.size ≠ s1.heap.objs.size + i := fun i h z => h (by have := Nat.add_left_cancel (n := s1.heap.objs.size) (m := 0) (k := i) z; exact this.symm)
        exact ⟨hd _ _ (by decide), hd _ _ (by decide), hd0 _ (by decide), hd _ _ (by decide), hd _ _ (by decide), (hd0 _ (by decide)).symm, hd _ _ (by decide), (hd0 _ (by decide)).symm, hd _ _ (by decide), hd0 _ (by decide),
          n1 _ (Nat.le_add_right _ _), n1 _ (Nat.le_add_right _ _), n1 _ (Nat.le_refl _), n1 _ (Nat.le_add_right _ _), n2 _ (Nat.le_add_right _ _), n2 _ (Nat.le_add_right _ _), n2 _ (Nat.le_refl _), n2 _ (Nat.le_add_right _ _)⟩
      refine ⟨s1.heap.objs.size + 4, [s1.heap.objs.size + 4, s1.heap.objs.size + 2, s1.heap.objs.size + 3, s1.heap.objs.size, s1.heap.objs.size + 1], _, _, H1, rfl, I2, turn_zipG Z, ⟨g5, g3, ⟨_, _, g4⟩, Sk.st0 g1, Sk.st0 g2⟩, fun c hcm => I1.fpOk (fresh5 c hcm) (I1.hok.fresh (fresh5 c hcm)), q⟩
end DL

-- DL13
set_option Elab.async false
set_option linter.all false
set_option maxRecDepth 100000
set_option maxHeartbeats 4000000
/-! The data layer: enumerate, walked; zip and enumerate as data. -/
namespace DL
open PySem PySem.Spec PyProof.Rows L2 PyProof

theorem meets_enumerate_newT (l : Addr) (items : Array Value) (n : Nat) (dct : Option Addr) (sl : Array (Option Value)) :
    Meets (Builtin.«enumerate.__new__» ⟨[.type "enumerate", .ref l], []⟩) (fun _ R s => s.heap.get? l = some { cls := .type "tuple", dict := dct, data := .seq items n, slots := sl } ∧
      R (.ok (.ret (.ref (s.heap.push { cls := .type "tuple_iterator", data := .fields #[.ref l, .int 0 0] }).objs.size)))
        { s with heap := (s.heap.push { cls := .type "tuple_iterator", data := .fields #[.ref l, .int 0 0] }).push { cls := .type "enumerate", data := .fields #[.none, .bool false, .ref s.heap.objs.size, rawInt 0, .none, .none] } }) :=
  .of_wp fun prog w A R s h => by
    obtain ⟨hp, g, d, tk, os⟩ := s; obtain ⟨hl, h⟩ := h
    have hsub := sub_enumerate
    have hL : Heap.IsTuple (Shared.heap ⟨hp, g, d, tk, os⟩) l items := ⟨_, hl, rfl, n, rfl⟩
    wp_walk using wpAny_loadPart' hl
    refine wpAny_stack_any fun st => wpAny_pure ?_
    split
    · rename_i c _ _ _ _ _
      cases (c == Value.type "enumerate")
      · wp_walk using wpAny_loadPart' hl, wpAny_pyIter_tuple hL
        exact ⟨_, rfl, h⟩
      · wp_walk using wpAny_loadPart' hl, wpAny_pyIter_tuple hL
        exact ⟨_, rfl, h⟩
    · wp_walk using wpAny_loadPart' hl, wpAny_pyIter_tuple hL
      exact ⟨_, rfl, h⟩
section
variable {prog : Program} {w : World} {A : Around} {E : Value → Shared → Prop} {s : Shared}
theorem call_enumerate_tuple {l : Addr} {items : Array Value} {Q : Value → Shared → Prop} (hL : s.heap.IsTuple l items)
    (h : ∀ h', IsEnum h' (s.heap.objs.size + 1) s.heap.objs.size 0 .none → h'.IsTupleIter s.heap.objs.size l 0 → h'.objs.size = s.heap.objs.size + 2 →
      (∀ b o, s.heap.get? b = some o → h'.get? b = some o) → Q (.ref (s.heap.objs.size + 1)) { s with heap := h' }) :
    wpAny (model prog w) A (call (.type "enumerate") [.ref l]) Q E s := by
  obtain ⟨⟨c, dct, dt, sl⟩, hl, hc, n, hd⟩ := hL
  replace hc : c = .type "tuple" := hc
  replace hd : dt = .seq items n := hd
  subst hc hd
  refine callType_new F.called_enumerate (by decide) (F.typeCall_enumerate_1 _) (F.newCall_enumerate_1 _) (fun obj => F.args_object_init_2 obj _) F.entry_enumerate_new
    (meets_enumerate_newT l items n dct sl) ⟨hl, ?_⟩
  have hz : (s.heap.push { cls := .type "tuple_iterator", data := .fields #[.ref l, .int 0 0] }).objs.size = s.heap.objs.size + 1 := Heap.size_push ..
  show _ ∧ _
  rw [hz]
  have he : IsEnum ((s.heap.push { cls := .type "tuple_iterator", data := .fields #[.ref l, .int 0 0] }).push
      { cls := .type "enumerate", data := .fields #[.none, .bool false, .ref s.heap.objs.size, rawInt 0, .none, .none] }) (s.heap.objs.size + 1) s.heap.objs.size 0 .none := by
    have := Heap.get?_push_size (s.heap.push { cls := .type "tuple_iterator", data := .fields #[.ref l, .int 0 0] })
      (o := { cls := .type "enumerate", data := .fields #[.none, .bool false, .ref s.heap.objs.size, rawInt 0, .none, .none] }) rfl
    rw [hz] at this
    exact this
  refine ⟨⟨_, he, rfl⟩, h _ he ⟨_, Heap.get?_push_of_some _ (Heap.get?_push_size _ rfl), rfl, rfl⟩ (by rw [Heap.size_push, hz]) fun b o x => Heap.get?_push_of_some _ (Heap.get?_push_of_some _ x)⟩
end
def IteG (K : PySem.W.Frag) (a : Sk) : It :=
  ⟨fun i H => ∃ xs : List V, a.src K H xs ∧ i < xs.length,
    fun i H v H' => ∃ T x, v = .ref T ∧ H T = none ∧ H' = upd H T (.tup [.int (i : Nat), x]) ∧ ∀ xs, a.src K H xs → xs[i]? = some x,
    fun i H => ∃ xs : List V, a.src K H xs ∧ i = xs.length⟩
theorem turn_enumG {P : Program} {w : World} {K : PySem.W.Frag} {elts : List Expr} {kk : Nat} {tpos : Pos} {a : Sk} {e it : Addr} (hne : e ≠ it) (ha : a.ne e) (hai : a.ne it) :
    Turn P w K (.Tuple elts kk tpos) (IteG K a) [e, it] e (fun i h => (∃ old, IsEnum h e it ((i : Nat) : Int) old) ∧ a.st it i h) where
  mem := by simp
  obj := fun i h st b hb => by
    obtain ⟨⟨old, he⟩, s1⟩ := st
    have e' : b = e ∨ b = it := by simpa using hb
    rcases e' with z | z
    · rw [z]; exact ⟨_, he, fun v q => nomatch q⟩
    · rw [z]; exact Sk.st_obj s1
  keep := fun i h h' st k => let ⟨⟨old, he⟩, hi⟩ := st; ⟨⟨old, k e (by simp) _ he⟩, Sk.st_at hi fun o q => k it (by simp) o q⟩
  item := by
    intro X hP hw hK hc i pins s σ H E I hf st hg
    subst hP hw hK
    obtain ⟨⟨old, he⟩, hit⟩ := st
    obtain ⟨xs, hq, hx⟩ := hg
    have hh : X.A.in1.handled = none := I.ok.hd hc
    obtain ⟨f1, P1, S1, D1, c1, p1, k1, n1, m1⟩ := Sk.draws (prog := X.prog) (w := X.w) I hq hit hai hh
    have hel : e < s.heap.objs.size := Heap.lt_size he
    have hil : it < s.heap.objs.size := by obtain ⟨_, q, _⟩ := Sk.st_obj hit; exact Heap.lt_size q
    refine wpAny_pyNext_enum_itemD D1 he c1 hx hne (n1 e hne ha) fun u h' tk pu ho hit' hT hsz hk => ?_
    obtain ⟨x, hx', ru⟩ := p1 _ _ pu
    refine ⟨_, rfl, wpAny_letOwnedTupleGo_enum (s := { s with heap := h', toks := tk + 1 }) ho fun h'' he' sb => ?_⟩
    have hT2 : h''.get? s.heap.objs.size = some { cls := .type "tuple", data := .seq #[.int i tk, u] } := (sb.2 _ (Nat.ne_of_gt hel)).trans hT
    have new : ObjOk X.prog X.w (upd H s.heap.objs.size (.tup [.int (i : Nat), x])) h'' s.heap.objs.size (.tup [.int (i : Nat), x]) :=
      ⟨by show 2 ≤ sizeLine; decide, [.int i tk, u], .cons ⟨_, rfl⟩ (.cons ru .nil), ⟨_, hT2, rfl, _, rfl⟩⟩
    have I1 : Inv X pins σ (upd H s.heap.objs.size (.tup [.int (i : Nat), x])) { s with heap := h'', toks := tk + 1 } :=
      I.turnedNew (ch := [e, it]) (fun b ob hb q => (sb.2 b (fun z => hb (by simp [z]))).trans (hk b ob (fun z => hb (by simp [z])) (fun z => hb (by simp [z])) q)) hf (Nat.le_refl _) new
    refine ⟨.ref s.heap.objs.size, _, I1, rfl, ⟨_, x, rfl, I.hok.fresh (Nat.le_refl _), rfl, fun ys hy => by rw [Sk.src_inj I hy hq]; exact hx'⟩, ⟨⟨u, ?_⟩, Sk.st_at (k1 _ _ hit') fun o q => (sb.2 it (Ne.symm hne)).trans q⟩, fun b hb => ?_⟩
    · have e1 : ((i + 1 : Nat) : Int) = (i : Int) + 1 := by omega
      rw [e1]; exact he'
    · have hb' : b < s.heap.objs.size := by
        have e' : b = e ∨ b = it := by simpa using hb
        rcases e' with z | z
        · rw [z]; exact hel
        · rw [z]; exact hil
      rw [upd_ne (Nat.ne_of_lt hb')]
      exact (hf b hb).1
  done := by
    intro X hP hw hK hc i pins s σ H E I hf st hg
    subst hP hw hK
    obtain ⟨⟨old, he⟩, hit⟩ := st
    obtain ⟨xs, hq, rfl⟩ := hg
    have hh : X.A.in1.handled = none := I.ok.hd hc
    obtain ⟨f1, P1, S1, D1, c1, p1, k1, n1, m1⟩ := Sk.draws (prog := X.prog) (w := X.w) I hq hit hai hh
    obtain ⟨f0, f1, f2, f3, f4, f5⟩ := hf it (by simp)
    exact wpAny_pyNext_enum_endD D1 he c1 fun h' eb => ⟨rfl, I.turned (t' := s.toks) (fun b o hb q => eb b o hb q) f0 f1 f3 f4 f5⟩
  self := fun A i s Q E st h => let ⟨⟨_, he⟩, _⟩ := st; wpAny_pyIter_enum he h
theorem pi_enumG {X : Cx} {e : Expr} {ta : TA} {p pos tpos : Pos} {elts : List Expr} {kk : Nat} (hg : Gl X "enumerate") (hm : X.mg "enumerate" = none) (ha : PA X [e] ta) (hs : starEach [e] X.env = [(false, eval e X.env)] := by kernel_rfl) :
    PI X (.Tuple elts kk tpos) (.Call (.Name "enumerate" p) [e] [] pos) (fun σ H R => ta σ H fun vs H1 => ∃ (a : Sk) (xs : List V), vs = [a.v] ∧ a.src X.K H1 xs ∧ R (IteG X.K a) H1) := by
  refine ⟨fun pins s σ H R I h => ?_⟩
  refine Call_ (ld_blt I hg hm boot_enumerate (PyProof.Rows.callWith_type1 (thn (ha.run pos pins s σ H _ I h) fun us s1 ⟨vs, H1, I1, r1, q1⟩ => ?_) hs rfl))
  obtain ⟨a, xs, ex, hq, q⟩ := q1
  subst ex
  cases r1 with
  | @cons _ u _ _ r rr =>
    cases rr
    have fin : ∀ h', IsEnum h' (s1.heap.objs.size + 1) s1.heap.objs.size 0 .none → a.st s1.heap.objs.size 0 h' → (∀ b o, s1.heap.get? b = some o → h'.get? b = some o) → (∀ c, s1.heap.objs.size ≤ c → a.ne c) →
        wpAny (model X.prog X.w) X.A (pyIter (.ref (s1.heap.objs.size + 1))) (PIE X pins σ (.Tuple elts kk tpos) R) X.xe { s1 with heap := h' } := fun h' he hit hk hn => by
      refine wpAny_pyIter_enum he ?_
      have I2 : Inv X pins σ H1 { s1 with heap := h' } := I1.kept (t' := s1.toks) hk
      refine ⟨s1.heap.objs.size + 1, [s1.heap.objs.size + 1, s1.heap.objs.size], _, _, H1, rfl, I2, turn_enumG (Nat.succ_ne_self _) (hn _ (Nat.le_succ _)) (hn _ (Nat.le_refl _)), ⟨⟨.none, he⟩, hit⟩, fun b hb => ?_, q⟩
      have e' : b = s1.heap.objs.size + 1 ∨ b = s1.heap.objs.size := by simpa using hb
      have hle : s1.heap.objs.size ≤ b := by
        rcases e' with z | z
        · rw [z]; exact Nat.le_add_right _ _
        · rw [z]; exact Nat.le_refl _
      exact I1.fpOk hle (I1.hok.fresh hle)
    cases a with
    | l a =>
      cases (show u = .ref a from r)
      obtain ⟨its, rv, p', hz⟩ := I1.list hq
      exact call_enumerate_list p'.isList fun h' he hit hsz hk => fin h' he hit hk fun c hc z => by subst z; exact absurd p'.lt (Nat.not_lt.mpr hc)
    | t a =>
      cases (show u = .ref a from r)
      obtain ⟨its, rv, p', hz⟩ := I1.tuple hq
      obtain ⟨o1, ho1, _⟩ := id p'
      exact call_enumerate_tuple p' fun h' he hit hsz hk => fin h' he hit hk fun c hc z => by subst z; exact absurd (Heap.lt_size ho1) (Nat.not_lt.mpr hc)
    | s z =>
      obtain ⟨t, rfl⟩ := r
      exact call_enumerate_str fun h' he hit hsz hk => fin h' he ⟨t, hit⟩ hk fun _ _ => trivial

/-! ### as data -/
/-- the kind of a looked at value -/
theorem top_sk {K : PySem.W.Frag} {F : Addr → Prop} {H : Hp} {v : V} {d : D} {ds : List D} (h : Top K F H v d) (e : iterD d = some ds) :
    ∃ (k : Sk) (xs : List V), v = k.v ∧ k.src K H xs ∧ Reps K F H xs ds := by
  cases d <;> try (cases e; done)
  · rename_i s
    obtain ⟨e1, o1⟩ := top_str h
    by_cases hl : s.length ≤ sizeLine
    · rw [show iterD (.str s) = some (s.map fun c => D.str [c]) from if_pos hl] at e
      cases e
      refine ⟨.s (SS s), s.map fun c => V.str ⟨#[c]⟩, e1, rfl, ?_⟩
      clear hl h e1
      induction s with
      | nil => exact .nil
      | cons c s ih => exact .cons (.str [c] fun z hz => by rw [List.mem_singleton.mp hz]; exact o1 c List.mem_cons_self) (ih fun z hz => o1 z (List.mem_cons_of_mem _ hz))
    · rw [show iterD (.str s) = none from if_neg hl] at e
      cases e
  · cases e
    obtain ⟨a, vs, e1, h1, r1⟩ := top_tup h
    exact ⟨.t a, vs, e1, h1, r1⟩
  · cases e
    obtain ⟨a, vs, e1, h1, r1⟩ := top_lst h
    exact ⟨.l a, vs, e1, .inl h1, r1⟩
/-- a kind stays as it is while nothing that stood changes -/
def SkGood (md : Md) (K : PySem.W.Frag) (F : Addr → Prop) (H : Hp) (k : Sk) (ds : List D) : Prop := ∃ xs, k.src K H xs ∧ Reps K F H xs ds ∧ (match k with | .l a => (md = .S → F a) ∧ ∃ vs, Rd H a (.lst vs) ∧ Reps K F H vs ds | _ => True)
theorem SkGood.step {K : PySem.W.Frag} {T : Tb} {F F' : Addr → Prop} {H H' : Hp} {md : Md} {k : Sk} {ds : List D} (g : SkGood md K F H k ds) (s : Stp T F H F' H') : SkGood md K F' H' k ds := by
  obtain ⟨xs, h1, h2, h3⟩ := g
  cases k with
  | l a =>
    obtain ⟨hF, vs, h4, h5⟩ := h3
    have h6 := s.rd (noTbl_lst _) h4
    exact ⟨vs, .inl h6, h5.mono s.grow, fun e => s.inc a (hF e), vs, h6, h5.mono s.grow⟩
  | t a => exact ⟨xs, s.grow.sqT h1, h2.mono s.grow, trivial⟩
  | s z => exact ⟨xs, h1, h2.mono s.grow, trivial⟩
theorem SkGood.grow {K : PySem.W.Frag} {F F' : Addr → Prop} {H H' : Hp} {k : Sk} {ds : List D} (g : SkGood .S K F H k ds) (s : Grow F H F' H') : SkGood .S K F' H' k ds := by
  obtain ⟨xs, h1, h2, h3⟩ := g
  cases k with
  | l a =>
    obtain ⟨hF, vs, h4, h5⟩ := h3
    have h6 := s.rdF (hF rfl) (noTbl_lst _) h4
    exact ⟨vs, .inl h6, h5.mono s, fun e => s.inc a (hF e), vs, h6, h5.mono s⟩
  | t a => exact ⟨xs, s.sqT h1, h2.mono s, trivial⟩
  | s z => exact ⟨xs, h1, h2.mono s, trivial⟩
theorem top_good {K : PySem.W.Frag} {F : Addr → Prop} {H H0 : Hp} {md : Md} {v : V} {d : D} {ds : List D} (h : RepM K F H md H0 v d) (hm : md = .S ∨ md = .B) (e : iterD d = some ds) : ∃ k : Sk, v = k.v ∧ SkGood md K F H k ds := by
  cases d <;> try (cases e; done)
  · obtain ⟨k, xs, h1, h2, h3⟩ := top_sk (RepM.toB h) e
    obtain ⟨e1, _⟩ := top_str (RepM.toB h)
    rw [h1] at e1
    cases k with
    | s z => exact ⟨.s z, h1, xs, h2, h3, trivial⟩
    | l a => cases e1
    | t a => cases e1
  · cases e
    obtain ⟨a, vs, e1, h1, r1⟩ := top_tup (RepM.toB h)
    exact ⟨.t a, e1, vs, h1, r1, trivial⟩
  · cases e
    obtain ⟨a, vs, e1, h1, r1⟩ := top_lst (RepM.toB h)
    refine ⟨.l a, e1, vs, .inl h1, r1, fun em => ?_, vs, h1, r1⟩
    subst em
    subst e1
    cases (show Rep K F H (.ref a) (.lst _) from h) with
    | lst hF _ _ => exact hF
/-- pairs -/
def zipL : List D → List D → List D
  | x :: xs, y :: ys => .tup [x, y] :: zipL xs ys
  | _, _ => []
def enumL : Nat → List D → List D
  | _, [] => []
  | i, x :: xs => .tup [.int i, x] :: enumL (i + 1) xs
theorem zipL_len : ∀ (xs ys : List D), (zipL xs ys).length = min xs.length ys.length
  | x :: xs, y :: ys => by simp only [zipL, List.length_cons, zipL_len xs ys]; omega
  | [], ys => by simp [zipL]
  | x :: xs, [] => by simp [zipL]
theorem zipL_get : ∀ (xs ys : List D) (i : Nat) (x y : D), xs[i]? = some x → ys[i]? = some y → (zipL xs ys)[i]? = some (.tup [x, y])
  | x :: xs, y :: ys, 0, _, _, h1, h2 => by simp at h1 h2; subst h1 h2; rfl
  | x :: xs, y :: ys, i + 1, a, b, h1, h2 => by simp only [zipL, List.getElem?_cons_succ] at h1 h2 ⊢; exact zipL_get xs ys i a b h1 h2
  | [], ys, i, _, _, h1, _ => by simp at h1
  | x :: xs, [], i, _, _, _, h2 => by simp at h2
theorem enumL_len : ∀ (k : Nat) (xs : List D), (enumL k xs).length = xs.length
  | _, [] => rfl
  | k, x :: xs => by simp only [enumL, List.length_cons, enumL_len]
theorem enumL_get : ∀ (k : Nat) (xs : List D) (i : Nat) (x : D), xs[i]? = some x → (enumL k xs)[i]? = some (.tup [.int ((k + i : Nat) : Int), x])
  | _, [], i, _, h => by simp at h
  | k, x :: xs, 0, _, h => by simp at h; subst h; rfl
  | k, x :: xs, i + 1, a, h => by
    simp only [enumL, List.getElem?_cons_succ] at h ⊢
    rw [enumL_get (k + 1) xs i a h, show k + 1 + i = k + (i + 1) by omega]
section
variable {X : Cx} {T : Tb} {W : WX} {F F' : Addr → Prop} {σ : Sg} {H H' : Hp} {env : List Sl} {md : Md} {a b : Expr} {ma mb : R D} {na nb : N (R D)} {pos p tpos : Pos} {elts : List Expr} {kk : Nat} {k k2 : Sk} {ds ds2 : List D}
theorem walkD_zip (g1 : SkGood md X.K F H k ds) (g2 : SkGood md X.K F H k2 ds2) : WalkD md X.K T F H (ItzG X.K k k2) (zipL ds ds2) := by
  refine ⟨fun F H => SkGood md X.K F H k ds ∧ SkGood md X.K F H k2 ds2, fun F' H' k1 k2 => ?_, fun i F H hi ⟨q1, q2⟩ => ?_, fun F H ⟨q1, q2⟩ => ?_, fun i F H x H' hi ⟨q1, q2⟩ y => ?_⟩
  · by_cases e : md = .S
    · subst e; exact ⟨g1.grow (k1 rfl), g2.grow (k1 rfl)⟩
    · exact ⟨g1.step (k2 e), g2.step (k2 e)⟩
  · obtain ⟨xs, h1, r1, _⟩ := q1
    obtain ⟨ys, h2, r2, _⟩ := q2
    rw [zipL_len] at hi
    exact ⟨xs, ys, h1, h2, by rw [r1.length]; omega, by rw [r2.length]; omega⟩
  · obtain ⟨xs, h1, r1, _⟩ := q1
    obtain ⟨ys, h2, r2, _⟩ := q2
    refine ⟨xs, ys, h1, h2, ?_⟩
    rw [zipL_len, r1.length, r2.length]
    omega
  · obtain ⟨xs, h1, r1, _⟩ := q1
    obtain ⟨ys, h2, r2, _⟩ := q2
    obtain ⟨Tp, x1, y1, rfl, hT, rfl, e1, e2⟩ := y
    obtain ⟨d1, hd1, rd1⟩ := r1.getV (e1 xs h1)
    obtain ⟨d2, hd2, rd2⟩ := r2.getV (e2 ys h2)
    obtain ⟨s, r⟩ := newT (T := T) hT (.cons rd1 (.cons rd2 .nil))
    exact ⟨_, zipL_get ds ds2 i d1 d2 hd1 hd2, F, s, r⟩
theorem walkD_enum (g1 : SkGood md X.K F H k ds) : WalkD md X.K T F H (IteG X.K k) (enumL 0 ds) := by
  refine ⟨fun F H => SkGood md X.K F H k ds, fun F' H' k1 k2 => ?_, fun i F H hi q1 => ?_, fun F H q1 => ?_, fun i F H x H' hi q1 y => ?_⟩
  · by_cases e : md = .S
    · subst e; exact g1.grow (k1 rfl)
    · exact g1.step (k2 e)
  · obtain ⟨xs, h1, r1, _⟩ := q1
    rw [enumL_len] at hi
    exact ⟨xs, h1, by rw [r1.length]; omega⟩
  · obtain ⟨xs, h1, r1, _⟩ := q1
    exact ⟨xs, h1, by rw [enumL_len, r1.length]⟩
  · obtain ⟨xs, h1, r1, _⟩ := q1
    obtain ⟨Tp, x1, rfl, hT, rfl, e1⟩ := y
    obtain ⟨d1, hd1, rd1⟩ := r1.getV (e1 xs h1)
    obtain ⟨s, r⟩ := newT (T := T) hT (.cons (.int (i : Nat)) (.cons rd1 .nil))
    have := enumL_get 0 ds i d1 hd1
    rw [Nat.zero_add] at this
    exact ⟨_, this, F, s, r⟩
theorem sk_len {K : PySem.W.Frag} (g : SkGood md K F H k ds) : ∃ xs, k.src K H xs ∧ xs.length = ds.length := by
  obtain ⟨xs, h1, r1, _⟩ := g
  exact ⟨xs, h1, r1.length⟩
/-- lists, tuples and texts of a length that a line can have -/
def lined (ds : List D) : Option (List D) := if ds.length ≤ sizeLine then some ds else none
def zipD (x y : D) : Option (List D) := (iterD x).bind fun xs => (iterD y).bind fun ys => lined (zipL xs ys)
def enumD (x : D) : Option (List D) := (iterD x).bind fun xs => lined (enumL 0 xs)
theorem lined_of {ds es : List D} (h : lined ds = some es) : es = ds ∧ ds.length ≤ sizeLine := by
  unfold lined at h
  split at h
  · cases h; exact ⟨rfl, by assumption⟩
  · cases h
theorem RepM.stp {K : PySem.W.Frag} {H0 : Hp} {v : V} {d : D} (s : Stp T F H F' H') (hm : md = .S ∨ md = .B) (h : RepM K F H md H0 v d) : RepM K F' H' md H0 v d :=
  s.mode (fun e => by rcases hm with z | z <;> rw [z] at e <;> cases e) h
theorem in_zip (ha : EN md X T W env a na) {nb : D → N (R D)} (hb : ∀ x, EN md X T W env b (nb x)) (hm : md = .S ∨ md = .B) (hmg : X.mg "zip" = none) (hg : Gl X "zip" := by exact gl_of (by kernel_rfl)) (hs : starEach [a, b] X.env = (false, eval a X.env) :: starEach [b] X.env := by kernel_rfl)
    (hs2 : starEach [b] X.env = (false, eval b X.env) :: starEach [] X.env := by kernel_rfl) (hpl : (backTo pos (starEach [b] X.env)).any (·.1) = false := by kernel_rfl) :
    IN md X T W env (.Tuple elts kk tpos) (.Call (.Name "zip" p) [a, b] [] pos) (N.bind na fun x => N.bind (nb x) fun y => N.l (R.lift (zipD x y))) := fun F σ H Rr I q => by
  refine (pi_zipG (p := p) (pos := pos) hg hmg (pa_cons pe_wp (pa_cons pe_wp pa_nil hs2) hs) hs hpl).wp ?_
  refine nrunEI ha I q fun d F1 v H1 s1 r q1 => ?_
  refine nrunEI (hb d) (I.stp s1) q1 fun d2 F2 v2 H2 s2 r2 q2 => ?_
  replace q2 : PostI md X T W F2 σ H2 (R.lift (zipD d d2)) Rr := q2.l
  unfold zipD at q2
  cases e1 : iterD d with
  | none => rw [e1] at q2; exact q2.elim
  | some xs =>
  cases e2 : iterD d2 with
  | none => rw [e1, e2] at q2; exact q2.elim
  | some ys =>
  rw [e1, e2] at q2
  cases e3 : lined (zipL xs ys) with
  | none => rw [show ((some xs).bind fun xs => (some ys).bind fun ys => lined (zipL xs ys)) = none from e3] at q2; exact q2.elim
  | some zs =>
  rw [show ((some xs).bind fun xs => (some ys).bind fun ys => lined (zipL xs ys)) = some zs from e3] at q2
  obtain ⟨ez, hz⟩ := lined_of e3
  subst ez
  obtain ⟨k, ek, g1⟩ := top_good (RepM.stp s2 hm r) hm e1
  obtain ⟨k2, ek2, g2⟩ := top_good r2 hm e2
  obtain ⟨us, u1, _⟩ := sk_len g1
  obtain ⟨ws, w1, _⟩ := sk_len g2
  exact ⟨k, k2, us, ws, by rw [ek, ek2], u1, w1, q2 F2 H2 _ .refl (walkD_zip g1 g2) hz⟩
theorem in_enum (ha : EN md X T W env a na) (hm : md = .S ∨ md = .B) (hmg : X.mg "enumerate" = none) (hg : Gl X "enumerate" := by exact gl_of (by kernel_rfl)) (hs : starEach [a] X.env = [(false, eval a X.env)] := by kernel_rfl) :
    IN md X T W env (.Tuple elts kk tpos) (.Call (.Name "enumerate" p) [a] [] pos) (N.bind na fun x => N.l (R.lift (enumD x))) := fun F σ H Rr I q => by
  refine (pi_enumG (p := p) (pos := pos) hg hmg (pa_cons pe_wp pa_nil (by rw [hs]; rfl)) hs).wp ?_
  refine nrunEI ha I q fun d F1 v H1 s1 r q1 => ?_
  replace q1 : PostI md X T W F1 σ H1 (R.lift (enumD d)) Rr := q1.l
  unfold enumD at q1
  cases e1 : iterD d with
  | none => rw [e1] at q1; exact q1.elim
  | some xs =>
  rw [e1] at q1
  cases e3 : lined (enumL 0 xs) with
  | none => rw [show ((some xs).bind fun xs => lined (enumL 0 xs)) = none from e3] at q1; exact q1.elim
  | some zs =>
  rw [show ((some xs).bind fun xs => lined (enumL 0 xs)) = some zs from e3] at q1
  obtain ⟨ez, hz⟩ := lined_of e3
  subst ez
  obtain ⟨k, ek, g1⟩ := top_good r hm e1
  obtain ⟨us, u1, _⟩ := sk_len g1
  exact ⟨k, us, by rw [ek], u1, q1 F1 H1 _ .refl (walkD_enum g1) hz⟩
/-! what does not draw -/
theorem postI_n {m : R (List D)} {Q : It → Hp → Prop} {n : N (R (List D))} (h : PostI md X T W F σ H m Q) (hn : n = N.l m) : NPostI X T W F σ H md n Q := ⟨fun r => r = m, fun r e => by rw [e]; exact h, by rw [hn]; rfl⟩
theorem di_of2 {tg iter : Expr} {g : D → D → Option (List D)} (h : IN md X T W env tg iter (N.bind (N.l ma) fun x => N.bind (N.l mb) fun y => N.l (R.lift (g x y)))) : DI md X T W env tg iter (ma.bind fun x => mb.bind fun y => R.lift (g x y)) := fun F σ H Q I q => by
  refine h F σ H Q I ⟨fun r => r = ma.bind fun x => mb.bind fun y => R.lift (g x y), fun r e => by rw [e]; exact q, ?_⟩
  cases ma with
  | ok x =>
    cases mb with
    | ok y => exact rfl
    | ex c => exact rfl
    | st => exact q.elim
  | ex c => exact rfl
  | st => exact q.elim
theorem di_of1 {tg iter : Expr} {g : D → Option (List D)} (h : IN md X T W env tg iter (N.bind (N.l ma) fun x => N.l (R.lift (g x)))) : DI md X T W env tg iter (ma.bind fun x => R.lift (g x)) := fun F σ H Q I q => by
  refine h F σ H Q I ⟨fun r => r = ma.bind fun x => R.lift (g x), fun r e => by rw [e]; exact q, ?_⟩
  cases ma with
  | ok x => exact rfl
  | ex c => exact rfl
  | st => exact q.elim
theorem di_zip (ha : DE md X T W env a ma) (hb : DE md X T W env b mb) (hm : md = .S ∨ md = .B) (hmg : X.mg "zip" = none) (hg : Gl X "zip" := by exact gl_of (by kernel_rfl)) (hs : starEach [a, b] X.env = (false, eval a X.env) :: starEach [b] X.env := by kernel_rfl)
    (hs2 : starEach [b] X.env = (false, eval b X.env) :: starEach [] X.env := by kernel_rfl) (hpl : (backTo pos (starEach [b] X.env)).any (·.1) = false := by kernel_rfl) :
    DI md X T W env (.Tuple elts kk tpos) (.Call (.Name "zip" p) [a, b] [] pos) (ma.bind fun x => mb.bind fun y => R.lift (zipD x y)) := di_of2 (in_zip (en_of ha) (fun _ => en_of hb) hm hmg hg hs hs2 hpl)
theorem di_enum (ha : DE md X T W env a ma) (hm : md = .S ∨ md = .B) (hmg : X.mg "enumerate" = none) (hg : Gl X "enumerate" := by exact gl_of (by kernel_rfl)) (hs : starEach [a] X.env = [(false, eval a X.env)] := by kernel_rfl) :
    DI md X T W env (.Tuple elts kk tpos) (.Call (.Name "enumerate" p) [a] [] pos) (ma.bind fun x => R.lift (enumD x)) := di_of1 (in_enum (en_of ha) hm hmg hg hs)
end
end DL

-- DL14
set_option Elab.async false
set_option linter.all false
set_option maxRecDepth 100000
set_option maxHeartbeats 4000000
/-! The data layer: lambdas handed to defs that try them. -/
namespace DL
open PySem PySem.Spec PyProof.Rows L2 LamX

theorem stp_ext {T : Tb} {F : Addr → Prop} {H H1 : Hp} (e : ExtN H H1) (t : Tabs T H1) : Stp T F H F H1 := by
  have dat : ∀ b, Dat H b → Dat H1 b := fun b ⟨o, h, n⟩ => ⟨o, e b o h n, n⟩
  refine ⟨fun _ h => h, fun _ h => .inl h, fun b o h n => e b o h n.1, dat, fun a h => ?_, fun _ => t, fun hF a h => dat a (hF a h)⟩
  obtain ⟨c, cs, i, l, s, t, h1, h2, h3, h4⟩ := h
  refine ⟨c, cs, i, l, s, t, e _ _ h1 (fun _ z => by cases z), h2, ?_, h4⟩
  rcases h3 with h3 | ⟨ob, h3⟩
  · exact .inl (e _ _ h3 (fun _ z => by cases z))
  · exact .inr ⟨ob, e _ _ h3 (fun _ z => by cases z)⟩
theorem takes_lam {X : Cx} {A : Around} {outer : List Env} {s : Shared} {H : Hp} {E : XK} {scope : Scope} {f c' : Addr} : Takes (lamCx X A outer s H E scope f c') (fun cls d _ H => E cls d H) := takes_of rfl rfl rfl rfl
theorem takes_cx {P : Program} {w : World} {K : PySem.W.Frag} {mg : Str → Option Value} {base : Heap} {N : List Str} {q : Str} {scope : Scope} {f : Addr} {cd : Value} {A : Around} {outer : List Env} {s : Shared} {H : Hp} {E : XK} : Takes (cxOf (L2.CX P w) P w K mg base N q scope f cd A outer s H E) (fun cls d _ H => E cls d H) := takes_of rfl rfl rfl rfl
theorem owns_cx {P : Program} {w : World} {K : PySem.W.Frag} {mg : Str → Option Value} {base : Heap} {N : List Str} {q : Str} {scope : Scope} {f : Addr} {cd : Value} {A : Around} {outer : List Env} {s : Shared} {H : Hp} {E : XK} :
    PassesOwn (model P w) (cxOf (L2.CX P w) P w K mg base N q scope f cd A outer s H E).A (cxOf (L2.CX P w) P w K mg base N q scope f cd A outer s H E).env (cxOf (L2.CX P w) P w K mg base N q scope f cd A outer s H E).xe := passes_of (X := cxOf (L2.CX P w) P w K mg base N q scope f cd A outer s H E) rfl

/-! ### helpers that try a call -/
def wL (K : PySem.W.Frag) : List (Value × V) → Value → Hp → VK → Prop
  | [], _, _, _ => False
  | (C, v) :: r, cls, H, Q => ∃ b, PySem.W.exmOne K cls C = some b ∧ (b = true → Q v H) ∧ (b = false → wL K r cls H Q)
/-- a constant and its value -/
def KonV (k : Const) (v : V) : Prop := ∀ (X : Cx) (j : Nat) (p : Pos), PE X (.Constant k j p) (fun _ H Q => Q v H)
theorem kon_bl {b : Bool} : KonV (.bool b) (.bl b) := fun _ _ _ => pe_bl
theorem kon_non : KonV .none .non := fun _ _ _ => pe_non
theorem kon_str {s : Str} : KonV (.str s) (.str s) := fun _ _ _ => pe_str
/-- except clauses that return constants -/
inductive HdC (X : Cx) (sg : Scope) : List ExceptHandler → List (Value × V) → Prop
  | nil : HdC X sg [] []
  | cons {e : Str} {CS : Addr} {k : Const} {v : V} {j : Nat} {p4 p5 p6 p7 : Pos} {hds : List ExceptHandler} {l : List (Value × V)} (hge : sg.names.lookup e = some .globalImplicit) (hme : X.mg e = some (.ref CS)) (hde : (e == ("__debug__" : Str)) = false) (hk : KonV k v) (r : HdC X sg hds l) :
      HdC X sg (.ExceptHandler (some (.Name e p4)) none [.Return (some (.Constant k j p5)) p6] p7 :: hds) ((.ref CS, v) :: l)
def retTS (l : List (Value × V)) : List (Value × (Addr → Value → Option Addr → TS)) := l.map fun p => (p.1, fun _ _ _ D σ H => D.rt p.2 H)
def TTm (K : PySem.W.Frag) (l : List (Value × V)) (v : V) : (XK → Hp → VK → Prop) → Hp → VK → Prop := fun tl H Q => tl (fun cls _ H' => wL K l cls H' Q) H (fun _ H' => Q v H')
def TTr (K : PySem.W.Frag) (l : List (Value × V)) : (XK → Hp → VK → Prop) → Hp → VK → Prop := fun tl H Q => tl (fun cls _ H' => wL K l cls H' Q) H Q
section
variable {X : Cx}
theorem hdC_ok {Ng : List Str} {x : Str} {sg : Scope} {g : Addr} {cdg : Value} {s : Shared} {H : Hp} {hds : List ExceptHandler} {l : List (Value × V)} (h : HdC X sg hds l) :
    HdsOk ((cxOf C8.CX0 X.prog X.w X.K X.mg X.base Ng x sg g cdg X.A X.stack s H C8.E0).nox) hds (retTS l) := by
  induction h with
  | nil => exact .nil
  | cons hge hme hde hk r ih => exact .cons ⟨hge, hde, .inl hme⟩ (fun a oe cls d pn _ _ => pss_one (ps_ret (hk _ _ _))) ih
theorem wL_many {K : PySem.W.Frag} {D : Ends} {Q : VK} {cls : Value} {d : Option Addr} {σ : Sg} {H : Hp} (hD : D.rt = Q) : ∀ {l : List (Value × V)}, wL K l cls H Q → wMany K (fun _ _ _ _ => False) D (retTS l) cls d σ H
  | [], h => h
  | (C, v) :: r, ⟨b, h1, h2, h3⟩ => ⟨b, h1, fun hb a _ => by show D.rt v H; rw [hD]; exact h2 hb, fun hb => wL_many hD (h3 hb)⟩
theorem many_gives {Ng : List Str} {x a q : Str} {sg : Scope} {g : Addr} {cdg : Value} {h₀ : ExceptHandler} {hds : List ExceptHandler} {l : List (Value × V)} {k : Const} {v : V} {j : Nat} {p1 p2 p3 p8 p9 p10 : Pos} (hh : HdC X sg (h₀ :: hds) l) (hk : KonV k v) (h0 : ∀ f : Addr, (L2.start Ng [V.ref f])[0]? = some (some (V.ref f)))
    (hs : ∀ env : Env, swapsWith (.Call (.Name a p1) [] [] p2) none p3.line env = pure false) :
    GivesTo X Ng x sg g cdg [.Try [.Expr (.Call (.Name a p1) [] [] p2) p3] (h₀ :: hds) [] [] p8, .Return (some (.Constant k j p9)) p10] a q (TTm X.K l v) := by
  intro f c' s H Q tl act hc h
  refine ⟨_, pss_cons (ps_try_many (X := (cxOf C8.CX0 X.prog X.w X.K X.mg X.base Ng x sg g cdg X.A X.stack s H C8.E0).nox) (l := retTS l)
      (tb := fun W D σ H => ∃ Ech : XK, (∀ cls d σ' H', Ech cls d H' → W cls d σ' H') ∧ σ[0]? = some (some (.ref f)) ∧ H c' = some (CodeO c' q) ∧ tl Ech H fun _ H1 => D.nx σ H1)
      rfl rfl takes_none5 (fun W pn xe tk _ => ?_) (hdC_ok hh)) (pss_one (ps_ret (hk _ _ _))), ?_⟩
  · refine ⟨fun pins s' σ H' D I h' => ?_⟩
    obtain ⟨Ech, hW, h1, h2, h3⟩ := h'
    have hp := act W pn xe Ech p1 p2 tk hW
    have hq := pss_one (ps_expr (pos := p3) hp (hs _))
    exact hq.run pins s' σ H' D I ⟨h1, h2, h3⟩
  · exact ⟨fun cls _ H' => wL X.K l cls H' Q, fun cls d σ' H' w => wL_many rfl w, h0 f, hc, h⟩
theorem told_many {Ng : List Str} {x a q : Str} {sg : Scope} {g : Addr} {cdg : Value} {h₀ : ExceptHandler} {hds : List ExceptHandler} {l : List (Value × V)} {p1 p2 p3 p8 : Pos} (hh : HdC X sg (h₀ :: hds) l) (h0 : ∀ f : Addr, (L2.start Ng [V.ref f])[0]? = some (some (V.ref f))) :
    GivesTo X Ng x sg g cdg [.Try [.Return (some (.Call (.Name a p1) [] [] p2)) p3] (h₀ :: hds) [] [] p8] a q (TTr X.K l) := by
  intro f c' s H Q tl act hc h
  refine ⟨_, pss_one (ps_try_many (X := (cxOf C8.CX0 X.prog X.w X.K X.mg X.base Ng x sg g cdg X.A X.stack s H C8.E0).nox) (l := retTS l)
      (tb := fun W D σ H => ∃ Ech : XK, (∀ cls d σ' H', Ech cls d H' → W cls d σ' H') ∧ σ[0]? = some (some (.ref f)) ∧ H c' = some (CodeO c' q) ∧ tl Ech H D.rt)
      rfl rfl takes_none5 (fun W pn xe tk _ => ?_) (hdC_ok hh)), ?_⟩
  · refine ⟨fun pins s' σ H' D I h' => ?_⟩
    obtain ⟨Ech, hW, h1, h2, h3⟩ := h'
    have hp := act W pn xe Ech p1 p2 tk hW
    have hq := pss_one (ps_ret (pos := p3) hp)
    exact hq.run pins s' σ H' D I ⟨h1, h2, h3⟩
  · exact ⟨fun cls _ H' => wL X.K l cls H' Q, fun cls d σ' H' w => wL_many rfl w, h0 f, hc, h⟩
end

/-! ### as data -/
/-- scalars as data and as values -/
def scV : D → Option V
  | .non => some .non
  | .bl b => some (.bl b)
  | .int i => some (.int i)
  | .str s => if okcB s then some (.str (SS s)) else none
  | _ => none
theorem scV_rep {K : PySem.W.Frag} {F : Addr → Prop} {H : Hp} {d : D} {v : V} (h : scV d = some v) : Rep K F H v d := by
  cases d <;> try (cases h; done)
  · cases h; exact .non
  · cases h; exact .bl _
  · cases h; exact .int _
  · rename_i s
    have h' : (if okcB s = true then some (V.str (SS s)) else none) = some v := h
    by_cases ho : okcB s = true
    · rw [if_pos ho] at h'; cases h'; exact .str _ (okc_of ho)
    · rw [if_neg ho] at h'; cases h'
abbrev SubT := Str → Str → Option Bool
/-- the first clause that takes an exception of the class c -/
def handC (sub : SubT) (c : Str) : List (Str × D) → R D
  | [] => .st
  | (h, d) :: r => match sub c h with
    | some true => .ok d
    | some false => handC sub c r
    | none => .st
def tryC (sub : SubT) (m : R D) (hs : List (Str × D)) (k : D → D) : R D := match m with
  | .ok v => .ok (k v)
  | .ex c => handC sub c hs
  | .st => .st
/-- the table of classes tells the truth -/
def SubOk (K : PySem.W.Frag) (mg : Str → Option Value) (sub : SubT) : Prop := ∀ c h b, sub c h = some b → ∀ C Ch, mg c = some (.ref C) → mg h = some (.ref Ch) → PySem.W.exmOne K (.ref C) (.ref Ch) = some b
inductive HsOk (mg : Str → Option Value) : List (Str × D) → List (Value × V) → Prop
  | nil : HsOk mg [] []
  | cons {h : Str} {d : D} {Ch : Addr} {v : V} {hs : List (Str × D)} {l : List (Value × V)} (hm : mg h = some (.ref Ch)) (hv : scV d = some v) (r : HsOk mg hs l) : HsOk mg ((h, d) :: hs) ((.ref Ch, v) :: l)
theorem handC_wL {X : Cx} {T : Tb} {W : WX} {F F' : Addr → Prop} {σ : Sg} {H H' : Hp} {sub : SubT} {c : Str} {C : Addr} {Q : VK} (hsub : SubOk X.K X.mg sub) (hC : X.mg c = some (.ref C)) (s : Stp T F H F' H') :
    ∀ {hs : List (Str × D)} {l : List (Value × V)}, HsOk X.mg hs l → PostE X T W F σ H .S (handC sub c hs) Q → wL X.K l (.ref C) H' Q
  | _, _, .nil, q => q.elim
  | _, _, @HsOk.cons _ h d Ch v hs l hm hv r, q => by
    have q' : PostE X T W F σ H .S (match sub c h with | some true => .ok d | some false => handC sub c hs | none => .st) Q := q
    cases e : sub c h with
    | none => rw [e] at q'; exact q'.elim
    | some b =>
      rw [e] at q'
      refine ⟨b, hsub c h b e C Ch hC hm, fun hb => ?_, fun hb => ?_⟩
      · subst hb
        exact q' F' v H' s (scV_rep hv)
      · subst hb
        exact handC_wL hsub hC s r q'
section
variable {X : Cx} {T : Tb} {W : WX} {env : List Sl} {m : R D}
/-- the shape of a helper: TT, and what it answers -/
def LamHow (X : Cx) (TT : (XK → Hp → VK → Prop) → Hp → VK → Prop) (T : Tb) (ans : R D → R D) : Prop :=
  ∀ (W W' : WX) (F F' : Addr → Prop) (σ : Sg) (H H1 : Hp) (Q : VK) (tl : XK → Hp → VK → Prop) (m : R D), Stp T F H F' H1 → PostE X T W F σ H .S (ans m) Q →
    (∀ (E : XK) (Q' : VK), (match m with
      | .ok d => ∀ F2 v H2, Stp T F' H1 F2 H2 → Rep X.K F2 H2 v d → Q' v H2
      | .ex c => ∀ F2 C dd H2, Stp T F' H1 F2 H2 → X.mg c = some (.ref C) → E (.ref C) dd H2
      | .st => False) → tl E H1 Q') → TT tl H1 Q
theorem how_m {sub : SubT} {hs : List (Str × D)} {l : List (Value × V)} {dv : D} {v : V} (hsub : SubOk X.K X.mg sub) (hl : HsOk X.mg hs l) (hv : scV dv = some v) : LamHow X (TTm X.K l v) T (fun m => tryC sub m hs fun _ => dv) := fun W W' F F' σ H H1 Q tl m s q h => by
  refine h _ _ ?_
  cases m with
  | ok d => exact fun F2 v2 H2 s2 r => q F2 v H2 (s.trans s2) (scV_rep hv)
  | ex c => exact fun F2 C dd H2 s2 hC => handC_wL hsub hC (s.trans s2) hl q
  | st => exact q.elim
theorem how_r {sub : SubT} {hs : List (Str × D)} {l : List (Value × V)} (hsub : SubOk X.K X.mg sub) (hl : HsOk X.mg hs l) : LamHow X (TTr X.K l) T (fun m => tryC sub m hs id) := fun W W' F F' σ H H1 Q tl m s q h => by
  refine h _ _ ?_
  cases m with
  | ok d => exact fun F2 v2 H2 s2 r => q F2 v2 H2 (s.trans s2) r
  | ex c => exact fun F2 C dd H2 s2 hC => handC_wL hsub hC (s.trans s2) hl q
  | st => exact q.elim
/-- a helper def that calls what it gets: its facts -/
structure LamFn (X : Cx) (T : Tb) (x : Str) (ans : R D → R D) : Prop where
  ex : ∃ (g : Addr) (a : Str) (pg : Arguments) (bg : List Stmt) (sg : Scope) (dV kV doc pm cdv ct oc : Value) (an od : Option Addr) (osl : Array (Option Value)) (Ng : List Str) (TT : (XK → Hp → VK → Prop) → Hp → VK → Prop),
    X.mg x = some (.ref g) ∧ PySem.W.keepIn X.K (.ref g) = true ∧ X.K.lookup g = some ⟨oc, od, .func (PySem.W.fnOf x x pg bg sg dV kV doc pm an cdv ct), osl⟩ ∧ PySem.W.codeIn X.K cdv x = true ∧ L2.Binds X.K (PySem.W.fnOf x x pg bg sg dV kV doc pm an cdv ct) [a] [] ∧
    FnScope Ng [a] sg ∧ Ng[0]? = some a ∧ Vis sg a ∧ (a == ("__debug__" : Str)) = false ∧ (a == ("__classdict__" : Str)) = false ∧ GivesTo X Ng x sg g cdv bg a (X.env.qual ++ "<lambda>") TT ∧ LamHow X TT T ans
/-- x(lambda: body) -/
theorem de_lam {x : Str} {ans : R D → R D} {k : Nat} {c P : Addr} {params : Arguments} {body : Expr} {scope : Scope} {p lpos pos : Pos} (L : LamFn X T x ans) (hg : Gl X x)
    (TB : TabB X.base X.mg c P) (hcode : X.env.code = .ref c) (hmT : (P, X.env.qual ++ "<lambda>") ∈ T) (hu : ∀ p ∈ T, p.1 = P → p.2 = X.env.qual ++ "<lambda>") (hr : Room (k + 2) X.A) (Ls : LamS X.env.scope scope) (hdef : defaultsOf params X.env = ([], []))
    (hbind : ∀ (q : Str) (cl : List (Str × Addr)) (pm cv ctv : Value), bindArgs (PySem.W.kla_fn "<lambda>" q params body scope cl pm cv ctv) ⟨[], []⟩ = pure [])
    (hbody : ∀ (A : Around) (outer : List Env) (s : Shared) (H : Hp) (E : XK) (f c' : Addr), Room k (A.deeper (lamEnv X scope s.heap.objs.size f c')) → DE .S (lamCx X A outer s H E scope f c') T (fun cls d _ H => E cls d H) env body m)
    (hdb : (x == ("__debug__" : Str)) = false := by kernel_rfl) :
    DE .S X T W env (.Call (.Name x p) [.Lambda params body scope lpos] [] pos) (ans m) := fun F σ H Q I q => by
  obtain ⟨g, a, pg, bg, sg, dV, kV, doc, pm, cdv, ct, oc, an, od, osl, Ng, TT, h1, h2, h3, h4, h5, h6, h7, h8, h9, h10, h11, h12⟩ := L.ex
  refine (pe_lamcall (p := p) (lpos := lpos) (pos := pos) (t := fun E σ H Q => ∀ (A : Around) (outer : List Env) (s : Shared) (H0 : Hp) (f c' : Addr), Room k (A.deeper (lamEnv X scope s.heap.objs.size f c')) → wpE (lamCx X A outer s H0 E scope f c') body σ H Q)
    hg h1 h2 h3 h4 h5 h6 h7 h8 h11 TB hcode hmT hu hr Ls hdef hbind (fun A outer s H E f c' hr' => ⟨fun pins s' σ' H' Q' Iv h => pe_wp.run pins s' σ' H' Q' Iv (h A outer s H f c' hr')⟩) hdb h9 h10).wp ?_
  refine ⟨I.tabs, fun H1 eN t1 => ?_⟩
  have st : Stp T F H F H1 := stp_ext eN t1
  refine h12 W W F F σ H H1 Q _ m st q fun E Q' hm A outer s H0 f c' hr' => ?_
  refine hbody A outer s H0 E f c' hr' F σ H1 Q' (I.stp st) ?_
  cases m with
  | ok d => exact hm
  | ex c => exact hm
  | st => exact hm
end
end DL

-- DL15
set_option Elab.async false
set_option linter.all false
set_option maxRecDepth 100000
set_option maxHeartbeats 4000000
/-! The data layer: products, membership. -/
namespace DL
open PySem PySem.Spec PyProof.Rows L2

section
variable {X : Cx} {T : Tb} {W : WX} {F F' : Addr → Prop} {σ : Sg} {H H' : Hp} {env : List Sl} {md : Md}
/-- a list, whoever holds it, times an int -/
theorem op_repG : OpR X (binaryOp .Mult) (fun x y H Q => ∃ l k xs, x = .ref l ∧ y = .int k ∧ Rd H l (.lst xs) ∧ -(2 ^ 63) ≤ k ∧ k < 2 ^ 63 ∧ xs.length * k.toNat ≤ sizeLine ∧ ∀ p, H p = none → Q (.ref p) (upd H p (.lst (List.replicate k.toNat xs).flatten))) := by
  intro pins s σ H x y v u Q I rx ry h
  obtain ⟨l, k, xs, rfl, rfl, hH, h1, h2, hz, q⟩ := h
  cases rx
  obtain ⟨t, rfl⟩ := ry
  obtain ⟨z, its, n, r, e⟩ := hH.ok I.hok
  have hl := r.length
  have hlen : its.toArray.size * k.toNat ≤ sizeLine := by rw [List.size_toArray, ← hl]; exact hz
  have hcap : ¬ its.toArray.size * k.toNat > (2 ^ 63 - 1) / 8 := by
    have : (sizeLine : Nat) ≤ (2 ^ 63 - 1) / 8 := by decide
    omega
  have hfit : ¬ (!Builtin.List.listFitsIndex k) = true := by
    rw [fitsIndex_both h1 h2]
    exact Bool.false_ne_true
  have hlong : ¬ Builtin.List.listTooLong (its.toArray.size * k.toNat) = true := by
    rw [notLongL hlen]
    exact Bool.false_ne_true
  have hnew : List.foldl (fun x1 x2 => x1 ++ x2) #[] (List.replicate (if its.toArray.isEmpty = true then 0 else k.toNat) its.toArray) = (List.replicate k.toNat its).flatten.toArray := by
    have f0 : ∀ m : Nat, List.foldl (fun x1 x2 => x1 ++ x2) #[] (List.replicate m its.toArray) = (List.replicate m its).flatten.toArray := fun m => by
      have := foldl_rep its m []
      rw [List.nil_append] at this
      exact this
    rw [f0]
    cases its with
    | nil => simp
    | cons a r' => rw [if_neg (by simp)]
  refine wpAny_binaryOp_repeat_ref (T := "list") (U := "int") (by decide) ⟨_, e, rfl⟩ (fun s' => typeIs_int s' k t) noFill_list_mul F.fills_int_mul F.slot_int_rmul repeat_list F.slot_int_index.lookup
    (call_meets F.slot_int_rmul (typeIs_int s k t) F.entry_int_rmul (F.args_int_rmul_2 _ _) (int___rmul___int_list k t l its.toArray n)
      ⟨e, rfl, ⟨_, e, rfl⟩, call_meets F.slot_list_mul ⟨_, e, rfl⟩ F.entry_list_mul (F.args_list_mul_2 _ _) (AutoListH.list___mul___list_int_3 l its.toArray n k t hfit hcap hlong) ⟨e, ?_⟩⟩)
  rw [hnew]
  exact ⟨.ref _, _, I.lnew (t' := s.toks) (r.rep k.toNat) (by rw [PyProof.Rows.lm_len_rep_flat, Nat.mul_comm]; exact hz), rfl, q _ I.fresh⟩
theorem foldl_arr (c : Array Nat) : ∀ (n : Nat) (acc : List Nat), (List.replicate n c).foldl (· ++ ·) acc.toArray = (acc ++ (List.replicate n c.toList).flatten).toArray
  | 0, acc => by simp
  | n + 1, acc => by
    rw [List.replicate_succ, List.foldl_cons, show acc.toArray ++ c = (acc ++ c.toList).toArray by simp, foldl_arr c n, List.replicate_succ, List.flatten_cons, List.append_assoc]
/-- a text times an int -/
theorem op_strmul : OpR X (binaryOp .Mult) (fun x y H Q => ∃ (s : List Nat) (k : Int), x = .str (SS s) ∧ y = .int k ∧ -(2 ^ 63) ≤ k ∧ k < 2 ^ 63 ∧ s.length * k.toNat ≤ sizeLine ∧ Q (.str (SS (List.replicate k.toNat s).flatten)) H) := by
  intro pins sh σ H x y v u Q I rx ry h
  obtain ⟨s, k, rfl, rfl, h1, h2, hz, q⟩ := h
  obtain ⟨t, rfl⟩ := rx
  obtain ⟨t2, rfl⟩ := ry
  have hsl := sizeLine_eq
  have hr : (decide (k < -(2 ^ 63 : Int)) || decide (k ≥ 2 ^ 63)) = false := by
    rw [decide_eq_false (by omega), decide_eq_false (by omega)]; rfl
  have hlen : (SS s).length = s.length := SS_len s
  refine PySem.P.mul_str hr (fun h3 _ => ?_) (fun h3 _ => ?_) ?_
  · rw [hlen]
    have hk : 0 < k := by omega
    have h4 : (s.length : Int) * k ≤ sizeLine := by
      have : ((s.length * k.toNat : Nat) : Int) ≤ (sizeLine : Nat) := by exact_mod_cast hz
      rw [Int.natCast_mul, Int.toNat_of_nonneg (by omega)] at this
      exact this
    intro h5
    have h6 : (2 ^ 63 - 1) / k * k ≤ 2 ^ 63 - 1 := Int.ediv_mul_le _ (by omega)
    have h7 : (2 ^ 63 - 1 : Int) < ((2 ^ 63 - 1) / k + 1) * k := Int.lt_ediv_add_one_mul_self _ hk
    have h8 : ((2 ^ 63 - 1) / k + 1) * k ≤ (s.length : Int) * k := Int.mul_le_mul_of_nonneg_right (by omega) (by omega)
    have : ((sizeLine : Nat) : Int) < 2 ^ 63 - 1 := by rw [hsl]; decide
    omega
  · rw [hlen]
    exact decide_eq_false (by omega)
  · by_cases h3 : k < 1
    · rw [if_pos h3]
      have e : k.toNat = 0 := by omega
      rw [e] at q
      exact ⟨by decide, .str (SS []), H, I.tok _, ⟨_, rfl⟩, q⟩
    · rw [if_neg h3]
      by_cases h4 : (k == 1 || (SS s).length == 0) = true
      · rw [if_pos h4]
        have e : (List.replicate k.toNat s).flatten = s := by
          rw [Bool.or_eq_true, beq_iff_eq, beq_iff_eq, hlen] at h4
          rcases h4 with h4 | h4
          · rw [h4]; simp
          · have : s = [] := List.length_eq_zero_iff.mp h4
            subst this
            simp
        rw [e] at q
        exact ⟨.str (SS s), H, I, ⟨_, rfl⟩, q⟩
      · rw [if_neg h4]
        have e : (⟨(List.replicate k.toNat (SS s).cps).foldl (· ++ ·) #[]⟩ : Str) = SS (List.replicate k.toNat s).flatten := by
          have := foldl_arr (SS s).cps k.toNat []
          rw [List.nil_append] at this
          show (⟨(List.replicate k.toNat (SS s).cps).foldl (· ++ ·) #[]⟩ : Str) = ⟨_⟩
          rw [this]
          rfl
        rw [e]
        exact ⟨by rw [SS_len]; simp; rw [Nat.mul_comm]; exact hz, .str _, H, I.tok _, ⟨_, rfl⟩, q⟩
def MulOk (i j : Int) : Prop := (-(2 ^ 64) < i ∧ i < 2 ^ 64) ∨ (-(2 ^ 64) < j ∧ j < 2 ^ 64) ∨ (Small i ∧ Small j)
/-- ints, texts, lists times ints -/
noncomputable def mulM (x y : D) : Option D := match x, y with
  | .int i, .int j => if chk (MulOk i j) then some (.int (i * j)) else none
  | .str s, .int k => if -(2 ^ 63) ≤ k ∧ k < 2 ^ 63 ∧ s.length * k.toNat ≤ sizeLine then some (.str (List.replicate k.toNat s).flatten) else none
  | _, _ => none
def repL (x y : D) : Option D := match x, y with
  | .lst xs, .int k => if -(2 ^ 63) ≤ k ∧ k < 2 ^ 63 ∧ xs.length * k.toNat ≤ sizeLine then some (.lst (List.replicate k.toNat xs).flatten) else none
  | _, _ => none
theorem okc_rep {s : List Nat} {n : Nat} (h : Okc s) : Okc (List.replicate n s).flatten := fun c hc => by
  obtain ⟨l, hl, hc⟩ := List.mem_flatten.mp hc
  rw [(List.mem_replicate.mp hl).2] at hc
  exact h c hc
theorem o_mul : OpD .S X T (binaryOp .Mult) mulM := by
  refine opd_of (op_mul.or (op_mulX.or op_strmul)) fun F H vx vy x y Q rx ry q => ?_
  cases x <;> cases y <;> try exact q.elim
  · rename_i i j
    rw [top_int rx, top_int ry]
    by_cases h : MulOk i j
    · rw [show mulM (.int i) (.int j) = some (.int (i * j)) from if_pos (chk_of h)] at q
      rcases h with h | h | h
      · exact .inl ⟨_, _, rfl, rfl, .inl h, q.imm (.int _)⟩
      · exact .inl ⟨_, _, rfl, rfl, .inr h, q.imm (.int _)⟩
      · exact .inr (.inl ⟨_, _, rfl, rfl, mulSmall h, q.imm (.int _)⟩)
    · rw [show mulM (.int i) (.int j) = none from if_neg (fun z => h (chk_true.mp z))] at q
      exact q.elim
  · rename_i s k
    obtain ⟨e1, o1⟩ := top_str rx
    rw [e1, top_int ry]
    by_cases h : -(2 ^ 63) ≤ k ∧ k < 2 ^ 63 ∧ s.length * k.toNat ≤ sizeLine
    · rw [show mulM (.str s) (.int k) = some (.str (List.replicate k.toNat s).flatten) from if_pos h] at q
      exact .inr (.inr ⟨s, k, rfl, rfl, h.1, h.2.1, h.2.2, q.imm (.str _ (okc_rep o1))⟩)
    · rw [show mulM (.str s) (.int k) = none from if_neg h] at q
      exact q.elim
theorem o_rep : OpD .S X T (binaryOp .Mult) repL := by
  refine opd_of op_repG fun F H vx vy x y Q rx ry q => ?_
  cases x <;> cases y <;> try exact q.elim
  rename_i xs k
  obtain ⟨a, vs, e1, h1, r1⟩ := top_lst rx
  rw [e1, top_int ry]
  by_cases h : -(2 ^ 63) ≤ k ∧ k < 2 ^ 63 ∧ xs.length * k.toNat ≤ sizeLine
  · rw [show repL (.lst xs) (.int k) = some (.lst (List.replicate k.toNat xs).flatten) from if_pos h] at q
    refine ⟨a, k, vs, rfl, rfl, h1, h.1, h.2.1, by rw [r1.length]; exact h.2.2, fun p hp => ?_⟩
    obtain ⟨s, r⟩ := newL (T := T) hp (r1.flatRep k.toNat)
    exact q _ _ _ s r
  · rw [show repL (.lst xs) (.int k) = none from if_neg h] at q
    exact q.elim

/-! ### membership -/
def occB (a b : List Nat) : Bool := !(Builtin.Str.occurrences (SS b) (SS a) 0 (SS b).length 1).isEmpty
def inD (x y : D) : Option Bool := match x, y with
  | .str a, .str b => some (match a with | [c] => b.contains c | _ => occB a b)
  | x, .lst ys => if shal 60 x && shal 60 (.lst ys) then some (ys.any fun z => eqv z x) else none
  | x, .tup ys => if scalD x && ys.all scalD then some (ys.any fun z => eqv z x) else none
  | _, _ => none
def notInD (x y : D) : Option Bool := (inD x y).map (!·)
theorem scal_flat {K : PySem.W.Frag} {v : V} {d : D} (r : Rep K F H v d) (h : scalD d = true) : flatV v = true := by
  cases d <;> try (cases h; done)
  all_goals (cases r; rfl)
theorem scal_eqV {K : PySem.W.Frag} {v w : V} {d e : D} (r : Rep K F H v d) (r2 : Rep K F H w e) (h : scalD d = true) (h2 : scalD e = true) : eqV v w = eqv d e := by
  cases d <;> try (cases h; done)
  all_goals (cases e <;> try (cases h2; done))
  all_goals (cases r; cases r2; first | rfl | exact SS_beq _ _)
theorem flat_all {K : PySem.W.Frag} : ∀ {vs : List V} {ds : List D}, Reps K F H vs ds → ds.all scalD = true → vs.all flatV = true
  | _, _, .nil, _ => rfl
  | _, _, .cons r t, h => by
    rw [List.all_cons, Bool.and_eq_true] at h
    rw [List.all_cons, scal_flat r h.1, flat_all t h.2]; rfl
theorem inV_any {K : PySem.W.Frag} {v : V} {d : D} (r : Rep K F H v d) (h : scalD d = true) : ∀ {vs : List V} {ds : List D}, Reps K F H vs ds → ds.all scalD = true → inV v vs = ds.any fun z => eqv z d
  | _, _, .nil, _ => rfl
  | _, _, .cons r1 t, h1 => by
    rw [List.all_cons, Bool.and_eq_true] at h1
    have := inV_any r h t h1.2
    unfold inV at this ⊢
    rw [List.any_cons, List.any_cons, this, scal_eqV r1 r h1.1 h]
theorem any_py (d : D) : ∀ (n : Nat) (ys : List D), shals n ys = true → ((toPys ys).any fun z => PyData.eqv z (toPy d)) = ys.any fun z => eqv z d
  | n, [], _ => rfl
  | n, y :: ys, h => by
    have h' : shal n y = true ∧ shals n ys = true := by simpa [shals] using h
    show (PyData.eqv (toPy y) (toPy d) || _) = _
    rw [eqv_py n y d h'.1, any_py d n ys h'.2]
    rfl
theorem in_str1 {a b : List Nat} {c : Nat} (h : a = [c]) : decide (c ∈ (SS b).cps.toList) = b.contains c := by
  show decide (c ∈ b) = _
  rw [List.contains_eq_mem]
theorem o_in (hu : X.A.units + 65 < cLine) : OpD .S X T (compareOp .In) (fun x y => (inD x y).map D.bl) := by
  refine opd_of (op_in_sign.or (op_in_str.or (op_in_seq.or (op_inD hu)))) fun F H vx vy x y Q rx ry q => ?_
  cases y with
  | str b =>
    cases x <;> try exact q.elim
    rename_i a
    obtain ⟨e1, o1⟩ := top_str rx
    obtain ⟨e2, o2⟩ := top_str ry
    rw [e1, e2]
    match a with
    | [c] =>
      have q : PostV X T F H .S (some (.bl (b.contains c))) Q := q
      refine .inl ⟨c, SS b, rfl, rfl, ?_⟩
      rw [in_str1 rfl]
      exact q.imm (.bl _)
    | [] => exact .inr (.inl ⟨_, _, rfl, rfl, q.imm (.bl _)⟩)
    | _ :: _ :: _ => exact .inr (.inl ⟨_, _, rfl, rfl, q.imm (.bl _)⟩)
  | lst ys =>
    have q : PostV X T F H .S ((if shal 60 x && shal 60 (.lst ys) then some (ys.any fun z => eqv z x) else none).map D.bl) Q := by cases x <;> exact q
    by_cases h : (shal 60 x && shal 60 (.lst ys)) = true
    · rw [if_pos h] at q
      rw [Bool.and_eq_true] at h
      obtain ⟨a1, a2⟩ := top_shaped rx h.1
      obtain ⟨b1, b2⟩ := top_shaped ry h.2
      refine .inr (.inr (.inr ⟨_, _, a1, b1, a2, b2, ?_⟩))
      rw [any_py x 59 ys h.2]
      exact q.imm (.bl _)
    · rw [if_neg h] at q
      exact q.elim
  | tup ys =>
    have q : PostV X T F H .S ((if scalD x && ys.all scalD then some (ys.any fun z => eqv z x) else none).map D.bl) Q := by cases x <;> exact q
    by_cases h : (scalD x && ys.all scalD) = true
    · rw [if_pos h] at q
      rw [Bool.and_eq_true] at h
      obtain ⟨a, vs, e1, h1, r1⟩ := top_tup ry
      have rx' : Rep X.K F H vx x := by
        rcases rx with rx | ⟨p, _, rx⟩
        · exact rx
        · cases x <;> first | exact rx.elim | (cases h.1)
      refine .inr (.inr (.inl ⟨a, vs, e1, .inr h1, scal_flat rx' h.1, flat_all r1 h.2, ?_⟩))
      rw [if_neg Bool.false_ne_true, inV_any rx' h.1 r1 h.2]
      exact q.imm (.bl _)
    · rw [if_neg h] at q
      exact q.elim
  | _ => cases x <;> exact q.elim
theorem o_notin (hu : X.A.units + 65 < cLine) : OpD .S X T (compareOp .NotIn) (fun x y => (notInD x y).map D.bl) := by
  refine opd_of (op_notIn_sign.or (op_notIn_str.or (op_notIn_seq.or (op_notInD hu)))) fun F H vx vy x y Q rx ry q => ?_
  cases y with
  | str b =>
    cases x <;> try exact q.elim
    rename_i a
    obtain ⟨e1, o1⟩ := top_str rx
    obtain ⟨e2, o2⟩ := top_str ry
    rw [e1, e2]
    match a with
    | [c] =>
      have q : PostV X T F H .S (some (.bl (!b.contains c))) Q := q
      refine .inl ⟨c, SS b, rfl, rfl, ?_⟩
      rw [in_str1 rfl]
      exact q.imm (.bl _)
    | [] => exact .inr (.inl ⟨_, _, rfl, rfl, q.imm (.bl _)⟩)
    | _ :: _ :: _ => exact .inr (.inl ⟨_, _, rfl, rfl, q.imm (.bl _)⟩)
  | lst ys =>
    have q : PostV X T F H .S (((if shal 60 x && shal 60 (.lst ys) then some (ys.any fun z => eqv z x) else none).map (!·)).map D.bl) Q := by cases x <;> exact q
    by_cases h : (shal 60 x && shal 60 (.lst ys)) = true
    · rw [if_pos h] at q
      rw [Bool.and_eq_true] at h
      obtain ⟨a1, a2⟩ := top_shaped rx h.1
      obtain ⟨b1, b2⟩ := top_shaped ry h.2
      refine .inr (.inr (.inr ⟨_, _, a1, b1, a2, b2, ?_⟩))
      rw [any_py x 59 ys h.2]
      exact q.imm (.bl _)
    · rw [if_neg h] at q
      exact q.elim
  | tup ys =>
    have q : PostV X T F H .S (((if scalD x && ys.all scalD then some (ys.any fun z => eqv z x) else none).map (!·)).map D.bl) Q := by cases x <;> exact q
    by_cases h : (scalD x && ys.all scalD) = true
    · rw [if_pos h] at q
      rw [Bool.and_eq_true] at h
      obtain ⟨a, vs, e1, h1, r1⟩ := top_tup ry
      have rx' : Rep X.K F H vx x := by
        rcases rx with rx | ⟨p, _, rx⟩
        · exact rx
        · cases x <;> first | exact rx.elim | (cases h.1)
      refine .inr (.inr (.inl ⟨a, vs, e1, .inr h1, scal_flat rx' h.1, flat_all r1 h.2, ?_⟩))
      rw [if_pos rfl, inV_any rx' h.1 r1 h.2]
      exact q.imm (.bl _)
    · rw [if_neg h] at q
      exact q.elim
  | _ => cases x <;> exact q.elim
end
end DL

-- DL16
set_option Elab.async false
set_option linter.all false
set_option maxRecDepth 100000
set_option maxHeartbeats 4000000
/-! The data layer: what the printer of walks asks for. -/
namespace DL
open PySem PySem.Spec PyProof.Rows L2

section
variable {X : Cx} {T : Tb} {W : WX} {F F' : Addr → Prop} {σ : Sg} {H H' : Hp} {env : List Sl} {md : Md} {a b e : Expr} {es : List Expr} {ma mb : R D} {pos : Pos}
theorem de_one {op : BoolOp} (ha : DE md X T W env a ma) : DE md X T W env (.BoolOp op [a] pos) ma := fun F σ H Q I q => (pe_one (pos := pos) pe_wp).wp (ha F σ H Q I q)
theorem de_andV (ha : DE .S X T W env a ma) (hb : DE .S X T W env (.BoolOp .And (b :: es) pos) mb) : DE .S X T W env (.BoolOp .And (a :: b :: es) pos) (ma.bind fun x => (R.lift (truD x)).bind fun k => if k = true then mb else .ok x) := fun F σ H Q I q => by
  refine (pe_andT (pos := pos) pe_wp pe_wp).wp ?_
  refine runEE ha I q fun x F1 vx H1 s1 rx q1 => ?_
  cases e : truD x with
  | none => rw [e] at q1; exact q1.elim
  | some k =>
    rw [e] at q1
    refine ⟨k, tru_rep (.inl rx) e, ?_⟩
    cases k with
    | true => exact hb F1 σ H1 Q (I.stp s1) q1
    | false => exact q1 F1 vx H1 .refl rx
theorem de_orV (ha : DE .S X T W env a ma) (hb : DE .S X T W env (.BoolOp .Or (b :: es) pos) mb) : DE .S X T W env (.BoolOp .Or (a :: b :: es) pos) (ma.bind fun x => (R.lift (truD x)).bind fun k => if k = true then .ok x else mb) := fun F σ H Q I q => by
  refine (pe_orT (pos := pos) pe_wp pe_wp).wp ?_
  refine runEE ha I q fun x F1 vx H1 s1 rx q1 => ?_
  cases e : truD x with
  | none => rw [e] at q1; exact q1.elim
  | some k =>
    rw [e] at q1
    refine ⟨k, tru_rep (.inl rx) e, ?_⟩
    cases k with
    | false => exact hb F1 σ H1 Q (I.stp s1) q1
    | true => exact q1 F1 vx H1 .refl rx
theorem de_notV (ha : DE .B X T W env a ma) : DE .S X T W env (.UnaryOp .Not a pos) (ma.bind fun x => (R.lift (truD x)).bind fun k => .ok (.bl (!k))) := fun F σ H Q I q => by
  refine (pe_notT (pos := pos) pe_wp).wp ?_
  refine runEE ha I q fun x F1 vx H1 s1 rx q1 => ?_
  cases e : truD x with
  | none => rw [e] at q1; exact q1.elim
  | some k =>
    rw [e] at q1
    exact ⟨k, tru_rep rx e, q1 F1 _ H1 .refl (.bl _)⟩
def negD : D → Option D
  | .int i => some (.int (-i))
  | _ => none
theorem de_neg (ha : DE .S X T W env a ma) : DE .S X T W env (.UnaryOp .USub a pos) (ma.bind fun x => R.lift (negD x)) := fun F σ H Q I q => by
  refine (pe_un (pos := pos) un_neg pe_wp).wp ?_
  refine runEE ha I q fun x F1 vx H1 s1 rx q1 => ?_
  cases x <;> try exact q1.elim
  cases rx
  exact ⟨_, rfl, q1 F1 _ H1 .refl (.int _)⟩
end
def lst2 {α : Type} (z : α) (ds : List D) (k : D → D → α) : α := match ds with | [a, b] => k a b | _ => z
@[simp] theorem lst2_two {α : Type} (z : α) (a b : D) (k : D → D → α) : lst2 z [a, b] k = k a b := rfl
/-- a list is wanted -/
def lstK {α : Type} (z : α) (d : D) (k : List D → α) : α := match d with | .lst xs => k xs | _ => z
@[simp] theorem lstK_lst {α : Type} (z : α) (xs : List D) (k : List D → α) : lstK z (.lst xs) k = k xs := rfl
noncomputable def iaddD (x y : D) : Option D := match x, y with
  | .int _, .int _ => addD x y
  | .str _, .str _ => addD x y
  | _, _ => none
section
variable {X : Cx} {T : Tb} {W : WX} {ip : List Nat} {rm : Md} {τ ρ τ' : Type} {inj : τ → List Sl} {injL : ρ → List Sl} {envX env : List Sl} {G : Gh} {F F' : Addr → Prop} {σ : Sg} {H H' : Hp} {ss : List Stmt} {e : Expr} {me : R D} {ne : N (R D)} {md : Md} {pos : Pos}
theorem ip_add : OpD .S X T (inplaceOp .Add) iaddD := ip_addD
theorem dss_parL {i j : Nat} {x y : Str} {a b : Expr} {mas : R (List D)} {px py pt : Pos} {kt k2 : Nat} {pt2 : Pos} {f : D → D → O τ ρ} (ha : DA X T W env [a, b] mas)
    (hr : ∀ c d, DS X T W ip rm inj injL envX ((env.set i (.sh c)).set j (.sh d)) ss (f c d)) (wx : True) (hc : X.calm = true) (hN : X.N.Nodup)
    (hi : X.N[i]? = some x := by kernel_rfl) (hj : X.N[j]? = some y := by kernel_rfl) (hij : i ≠ j := by decide) (hx : X.env.scope.names.lookup x = some .local := by kernel_rfl) (hy : X.env.scope.names.lookup y = some .local := by kernel_rfl) (hip : i ∉ ip := by decide) (hjp : j ∉ ip := by decide)
    (hw : swappedStores [.Tuple [.Name x px, .Name y py] kt pt] (.Tuple [a, b] k2 pt2) X.env = pure (some [x, y]) := by kernel_rfl)
    (hs : swapsWithSole [.Tuple [.Name x px, .Name y py] kt pt] (.Tuple [a, b] k2 pt2) pos.line X.env = pure false := by kernel_rfl) :
    DS X T W ip rm inj injL envX env (.Assign [.Tuple [.Name x px, .Name y py] kt pt] (.Tuple [a, b] k2 pt2) pos :: ss) (O.ofR mas fun ds => lst2 .st ds f) := by
  have e : (fun ds => lst2 (O.st : O τ ρ) ds f) = fun ds => match ds with | [c, d] => f c d | _ => .st := by
    funext ds
    match ds with
    | [] => rfl
    | [_] => rfl
    | [_, _] => rfl
    | _ :: _ :: _ :: _ => rfl
  rw [e]
  exact dss_par ha hr wx hc hN hi hj hij hx hy hip hjp hw hs
theorem sn_parL {i j : Nat} {x y : Str} {a b : Expr} {mas : N (R (List D))} {px py pt : Pos} {kt k2 : Nat} {pt2 : Pos} {f : D → D → N (O τ ρ)} (ha : AN X T W env [a, b] mas)
    (hr : ∀ c d, SN X T W ip rm inj injL envX ((env.set i (.sh c)).set j (.sh d)) ss (f c d)) (wx : True) (hc : X.calm = true) (hN : X.N.Nodup)
    (hi : X.N[i]? = some x := by kernel_rfl) (hj : X.N[j]? = some y := by kernel_rfl) (hij : i ≠ j := by decide) (hx : X.env.scope.names.lookup x = some .local := by kernel_rfl) (hy : X.env.scope.names.lookup y = some .local := by kernel_rfl) (hip : i ∉ ip := by decide) (hjp : j ∉ ip := by decide)
    (hw : swappedStores [.Tuple [.Name x px, .Name y py] kt pt] (.Tuple [a, b] k2 pt2) X.env = pure (some [x, y]) := by kernel_rfl)
    (hs : swapsWithSole [.Tuple [.Name x px, .Name y py] kt pt] (.Tuple [a, b] k2 pt2) pos.line X.env = pure false := by kernel_rfl) :
    SN X T W ip rm inj injL envX env (.Assign [.Tuple [.Name x px, .Name y py] kt pt] (.Tuple [a, b] k2 pt2) pos :: ss) (N.ofR mas fun ds => lst2 (N.l .st) ds f) := by
  have e : (fun ds => lst2 (N.l (O.st : O τ ρ)) ds f) = fun ds => match ds with | [c, d] => f c d | _ => N.l .st := by
    funext ds
    match ds with
    | [] => rfl
    | [_] => rfl
    | [_, _] => rfl
    | _ :: _ :: _ :: _ => rfl
  rw [e]
  exact sn_par ha hr wx hc hN hi hj hij hx hy hip hjp hw hs
/-- what follows a new list of one's own knows its items -/
theorem lstK_ds {i : Nat} {f : List D → O τ ρ} (hr : ∀ xs, DS X T W ip rm inj injL envX (env.set i (.ow (.lst xs))) ss (f xs)) (d : D) : DS X T W ip rm inj injL envX (env.set i (.ow d)) ss (lstK .st d f) := by
  cases d with
  | lst xs => exact hr xs
  | _ => exact fun G F σ H D I h => h.elim
theorem lstK_sn {i : Nat} {f : List D → N (O τ ρ)} (hr : ∀ xs, SN X T W ip rm inj injL envX (env.set i (.ow (.lst xs))) ss (f xs)) (d : D) : SN X T W ip rm inj injL envX (env.set i (.ow d)) ss (lstK (N.l .st) d f) := by
  cases d with
  | lst xs => exact hr xs
  | _ => exact fun G F σ H D I h => h.l.elim
theorem ds_env {e' : List Sl} {m : O τ ρ} (he : env = e') (h : DS X T W ip rm inj injL envX e' ss m) : DS X T W ip rm inj injL envX env ss m := by subst he; exact h
theorem sn_env {e' : List Sl} {m : N (O τ ρ)} (he : env = e') (h : SN X T W ip rm inj injL envX e' ss m) : SN X T W ip rm inj injL envX env ss m := by subst he; exact h
theorem ds_st : DS X T W ip rm inj injL envX env ss .st := fun G F σ H D I h => h.elim
theorem sn_st : SN X T W ip rm inj injL envX env ss (N.l .st) := fun G F σ H D I h => h.l.elim
def injE : Empty → List Sl := fun z => nomatch z
def fE {α : Type} : Empty → α := fun z => nomatch z
/-- if without else whose suite does not go on -/
theorem dss_ifR {c : Expr} {a : List Stmt} {mt : R Bool} {oa : O Empty ρ} {m : O τ ρ} (hc : DT X T W env c mt) (ha : DS X T W ip rm injE injL envX env a oa) (hr : DS X T W ip rm inj injL envX env ss m) (wx : True) :
    DS X T W ip rm inj injL envX env (.If c a [] pos :: ss) (O.ofR mt fun k => if k = true then oa.seq fE else m) := fun G F σ H D I h => by
  refine wpS_cons (ps_if (pos := pos) pt_wp ps_wp ps_wp) ?_
  refine runST hc wx I h fun k F1 H1 s1 I1 q1 => ?_
  cases k with
  | true =>
    refine ha G F1 σ H1 _ I1 ?_
    rw [if_pos rfl] at q1
    cases oa with
    | nx s => exact nomatch s
    | rt d us => exact q1
    | bk s => exact q1
    | ct s => exact q1
    | xc c => exact q1
    | st => exact q1
  | false => exact pss_nil.wp (hr G F1 σ H1 D I1 q1)
theorem sn_ifR {c : Expr} {a : List Stmt} {mt : N (R Bool)} {oa : N (O Empty ρ)} {m : N (O τ ρ)} (hc : TN X T W env c mt) (ha : SN X T W ip rm injE injL envX env a oa) (hr : SN X T W ip rm inj injL envX env ss m) (wx : True) :
    SN X T W ip rm inj injL envX env (.If c a [] pos :: ss) (N.ofR mt fun k => if k = true then N.seq oa fE else m) := fun G F σ H D I h => by
  refine wpS_cons (ps_if (pos := pos) pt_wp ps_wp ps_wp) ?_
  refine nrunST hc wx I h fun k F1 H1 s1 I1 q1 => ?_
  cases k with
  | true =>
    rw [if_pos rfl] at q1
    obtain ⟨P, h1, h2⟩ := q1
    refine ha G F1 σ H1 _ I1 ⟨_, fun o ho => ?_, h2⟩
    cases o with
    | nx s => exact nomatch s
    | rt d us => exact h1 _ ho
    | bk s => exact h1 _ ho
    | ct s => exact h1 _ ho
    | xc c => exact h1 _ ho
    | st => exact ho.elim
  | false => exact pss_nil.wp (hr G F1 σ H1 D I1 q1)
/-- a new list of one's own, or a shared one -/
theorem dss_setF {i : Nat} {f : D → O τ ρ} (h : ∀ d, DS X T W [] rm inj injL envX (env.set i (.sh d)) ss (f d)) (hl : i < env.length) (d : D) : DS X T W [] rm inj injL envX (env.set i (.ow d)) ss (f d) :=
  dss_freeze (i := i) (List.getElem?_set_self hl) (by rw [List.set_set]; exact h d) (by simp) (fun k j z => by simp at z)
theorem sn_setF {i : Nat} {f : D → N (O τ ρ)} (h : ∀ d, SN X T W [] rm inj injL envX (env.set i (.sh d)) ss (f d)) (hl : i < env.length) (d : D) : SN X T W [] rm inj injL envX (env.set i (.ow d)) ss (f d) :=
  sn_freeze (i := i) (List.getElem?_set_self hl) (by rw [List.set_set]; exact h d) (by simp) (fun k j z => by simp at z)
end
mutual
/-- how much there is of data: a bound for loops -/
def szD : D → Nat
  | .non => 1
  | .bl _ => 1
  | .int i => i.natAbs + 1
  | .str s => s.length + 1
  | .tup xs => szDs xs + 1
  | .lst xs => szDs xs + 1
  | .dic _ => 1
  | .ins _ _ => 1
  | .tape => 1
def szDs : List D → Nat
  | [] => 0
  | x :: xs => szD x + szDs xs + 1
end
end DL

-- DL17
set_option Elab.async false
set_option linter.all false
set_option maxRecDepth 100000
set_option maxHeartbeats 4000000
/-! The data layer: odds and ends for the printer. -/
namespace DL
open PySem PySem.Spec PyProof.Rows L2
theorem _root_.L2.Room.uu {k : Nat} {A : Around} (h : Room k A) : A.units + 65 < cLine := by
  have h2 := h.un
  omega
theorem _root_.L2.Room.u1 {k : Nat} {A : Around} (h : Room k A) : A.units + 1 < cLine := by have := h.uu; omega
theorem _root_.L2.Room.u64 {k : Nat} {A : Around} (h : Room k A) : A.units + 64 < cLine := by have := h.uu; omega
theorem _root_.L2.Room.u65 {k : Nat} {A : Around} (h : Room k A) : A.units + 65 < cLine := h.uu
section
variable {X : Cx} {T : Tb} {W : WX} {ip : List Nat} {rm : Md} {τ ρ τ' : Type} {inj : τ → List Sl} {injL : ρ → List Sl} {envX env : List Sl} {G : Gh} {F F' : Addr → Prop} {σ : Sg} {H H' : Hp} {ss : List Stmt} {tg iter elt : Expr} {md : Md} {pos : Pos}
theorem sn_setLcD {i : Nat} {y : Str} {py spos : Pos} {mi : R (List D)} {pt : Pat} {scope : Scope} {ifs : List Expr} (own : List (Str × Nat)) {g : D → R (Option D)} {f : D → N (O τ ρ)} (hi : DI md X T W env tg iter mi) (hg : ∀ q : Blk, GT (blkOf X scope q) tg pt)
    (hb : ∀ d, CB X T scope (pt.bind d (wipeE env (own.map (·.2)))) ifs elt (g d)) (hr : ∀ d, SN X T W ip rm inj injL envX (env.set i (.ow d)) ss (f d)) (wx : True) (hc : X.calm = true) (hN : X.N.Nodup) (ok : BlkOk X.N X.env.scope scope own)
    (hsw : swapsWith (.ListComp elt [⟨tg, iter, ifs, 0⟩] scope pos) (some (.Name y py)) spos.line X.env = pure true) (hy : X.N[i]? = some y := by kernel_rfl) (hyl : X.env.scope.names.lookup y = some .local := by kernel_rfl) (hip : i ∉ ip := by decide) (hix : ∀ i ∈ pt.ixs, i ∈ own.map (·.2) := by decide) (hs : ∀ x, foldedSetIterable iter X.env x = pure x := by intro _; kernel_rfl) :
    SN X T W ip rm inj injL envX env (.Assign [.Name y py] (.ListComp elt [⟨tg, iter, ifs, 0⟩] scope pos) spos :: ss) (N.ofR (N.l (mi.bind fun ds => (compM ds g).bind fun ys => .ok (.lst ys))) f) := fun G F σ H D I ⟨P, hP, h⟩ => by
  refine wpS_cons (L2.ps_setLc (spos := spos) (pos := pos) (py := py) (g := gStar X scope tg) (tt := tStar X scope ifs) (te := eStar X scope elt) hc hN hy hyl hsw pi_wp ok (fun s H C cl fp => ⟨fun pins s' σ H' v u Q I r h => pg_wp.run pins s' σ H' v u Q I r (h (s, H, C, cl, fp))⟩) (fun s H C cl fp => ⟨fun pins s' σ H' Q I h => h (s, H, C, cl, fp) pins s' I⟩) (fun s H C cl fp => ⟨fun pins s' σ H' Q I h => pe_wp.run pins s' σ H' Q I (h (s, H, C, cl, fp))⟩) hs) ?_
  show tLc (wpI X tg iter) (gStar X scope tg) (tStar X scope ifs) (eStar X scope elt) (own.map (·.2)) σ H _
  refine lc_run hi hg hix hb I.er ?_
  revert h
  generalize (mi.bind fun ds => (compM ds g).bind fun ys => R.ok (DL.D.lst ys)) = mm
  cases mm with
  | ex c => exact fun h F' C dd H' s hm => hP _ h F' C dd σ H' (I.stp s).nos hm
  | st => exact fun h => h
  | ok d =>
    intro h F1 v H1 s1 r
    obtain ⟨a, rfl, h0, nf, o⟩ := r
    have I1 := I.stp s1
    refine hr d G F1 _ H1 D (I1.set_ow o nf (fun j hj => ?_) (I.back h0) hip) ⟨P, fun o ho => PostS.grow s1.grow (hP o ho), h⟩
    obtain ⟨d', _, o'⟩ := I.er.own hj
    exact h0 o'.tr
end
end DL

-- DL18
set_option Elab.async false
/-! The data layer: short names for the tactics of side conditions. -/
namespace DL
open PySem PySem.Spec PyProof.Rows L2
end DL

-- DL19
set_option Elab.async false
set_option linter.all false
set_option maxRecDepth 100000
set_option maxHeartbeats 4000000
/-! The data layer: the end. -/
namespace DL
open PySem PySem.Spec PyProof.Rows L2
section
theorem fnOk_ofC {C : Value → Prop} {P : Program} {w : World} {K : PySem.W.Frag} {mg : Str → Option Value} {base : Heap} {T : Tb} {x : Str} {st : Stmt} {f : Addr} {fd : FuncData} {N' ps : List Str} {k : Nat} {md : Md} {M : List D → N (R D)} (Fn : FunC K x st f fd C) (S : FnScope N' ps (defScope st)) (b : Binds K fd ps [])
    (body : ∀ (cdv : Value) (hC : C cdv) (A : Around) (outer : List Env) (s : Shared) (H : Hp) (E : XK) (ds : List D), ds.length = ps.length → Room k (A.deeper (envOfC x (defScope st) s.heap.objs.size f cdv)) →
      ∃ (m : N (O Unit Unit)), SN (cxOf (L2.CX P w) P w K mg base N' x (defScope st) f cdv A outer s H E) T (fun cls d _ H' => E cls d H') [] md (fun _ => List.replicate N'.length .no) (fun _ => List.replicate N'.length .no) (List.replicate N'.length .no)
        (ds.map .sh ++ List.replicate (N'.length - ps.length) .no) (defBody st) m ∧ (∀ Pr, M ds Pr → m fun o => Pr o.toR) ∧ (md = .O → ∀ Pr, m Pr → m fun o => Pr o ∧ ∀ s, o ≠ .nx s)) : FnOk P w K mg base (L2.CX P w) (k + 1) f fd ps (spN K T mg md ps.length M) := by
  obtain ⟨oc, od, kV, doc, pm, an, cdv, ct, osl, rfl, lk, hcd, hC⟩ := Fn.ex
  refine fn_of lk hcd S (fun vs H Q E h => h.1) fun A outer s H vs Q E hr hsp => ?_
  obtain ⟨hlen, F, ds, hF, hT, r, Pr, q, hM'⟩ := hsp
  have hdl : ds.length = ps.length := by rw [← r.length]; exact hlen
  obtain ⟨m, hDS, hM, hO⟩ := body cdv hC A outer s H E ds hdl hr
  refine ⟨_, ps_wp, ?_⟩
  have hpl : ps.length ≤ N'.length := by have := congrArg List.length S.pre; rw [List.length_take] at this; omega
  have hslots : ∀ (i : Nat) (sl : Sl), (ds.map Sl.sh ++ List.replicate (N'.length - ps.length) Sl.no)[i]? = some sl → ∃ x : Option V, (L2.start N' vs)[i]? = some x ∧ SlR K F H x sl := fun i sl e => by
    have hvl : vs.length = ps.length := hlen
    unfold L2.start
    by_cases hi : i < ds.length
    · rw [List.getElem?_append_left (by simpa using hi), List.getElem?_map] at e
      cases ed : ds[i]? with
      | none => rw [ed] at e; cases e
      | some d =>
        rw [ed] at e
        cases e
        obtain ⟨v, hv, rv⟩ := r.get ed
        refine ⟨some v, ?_, v, rfl, rv⟩
        rw [List.getElem?_append_left (by rw [List.length_map]; omega), List.getElem?_map, hv]
        rfl
    · rw [List.getElem?_append_right (by simpa using Nat.le_of_not_lt hi), List.getElem?_replicate] at e
      split at e
      · rename_i hlt
        cases e
        refine ⟨none, ?_, trivial⟩
        rw [List.getElem?_append_right (by rw [List.length_map]; omega), List.getElem?_replicate, if_pos (by rw [List.length_map] at *; omega)]
      · cases e
  have noOwn : ∀ (i : Nat) (a : Addr), ¬ OwnI (L2.start N' vs) (ds.map Sl.sh ++ List.replicate (N'.length - ps.length) Sl.no) i a := fun i a ⟨⟨d, e⟩, _⟩ => by
    by_cases hi : i < ds.length
    · rw [List.getElem?_append_left (by simpa using hi), List.getElem?_map] at e
      cases ed : ds[i]? with
      | none => rw [ed] at e; cases e
      | some d => rw [ed] at e; cases e
    · rw [List.getElem?_append_right (by simpa using Nat.le_of_not_lt hi), List.getElem?_replicate] at e
      split at e <;> cases e
  have hl : (L2.start N' vs).length = (ds.map Sl.sh ++ List.replicate (N'.length - ps.length) Sl.no).length := by
    unfold L2.start
    simp only [List.length_append, List.length_map, List.length_replicate]
    omega
  refine hDS ⟨F, H, []⟩ F (L2.start N' vs) H { nx := fun _ H' => Q .non H', rt := Q } ⟨⟨hl, hslots, fun i j a h => absurd h (noOwn i a), fun i a h => absurd h (noOwn i a), hF, hT⟩, fun _ h => h, fun _ h => .inl h, fun _ _ h _ _ => h, fun _ h => h, fun _ h => h, fun i a h => absurd h (noOwn i a), .nil⟩ ?_
  have hm2 : m fun o => Pr o.toR ∧ (md = .O → ∀ s, o ≠ .nx s) := by
    have h1 := hM Pr hM'
    by_cases e : md = .O
    · have h2 := hO e _ h1
      have : (fun o : O Unit Unit => Pr o.toR ∧ (md = .O → ∀ s, o ≠ .nx s)) = fun o => Pr o.toR ∧ ∀ s, o ≠ .nx s := by
        funext o; rw [eq_iff_iff]; exact ⟨fun h => ⟨h.1, h.2 e⟩, fun h => ⟨h.1, fun _ => h.2⟩⟩
      rw [this]; exact h2
    · have : (fun o : O Unit Unit => Pr o.toR ∧ (md = .O → ∀ s, o ≠ .nx s)) = fun o => Pr o.toR := by
        funext o; rw [eq_iff_iff]; exact ⟨fun h => h.1, fun h => ⟨h, fun z => absurd z e⟩⟩
      rw [this]; exact h1
  refine ⟨_, fun o ho => ?_, hm2⟩
  obtain ⟨ho, hoO⟩ := ho
  have q := q _ ho
  cases o with
  | nx s1 =>
    intro F' σ' H' I' _
    have q : ∀ F' v H', Stp T F H F' H' → RepM K F' H' md H v .non → Q v H' := q
    refine q F' .non H' ⟨I'.inc, I'.new, fun b o e n => I'.keep b o e n (by simp), I'.there, I'.tape, fun _ => I'.er.tabs, fun _ => I'.er.ftr⟩ ?_
    cases md with
    | S => exact .non
    | B => exact .inl .non
    | O => exact absurd rfl (hoO rfl s1)
  | rt d us =>
    intro F' v H' s1 r1 _
    have q : ∀ F' v H', Stp T F H F' H' → RepM K F' H' md H v d → Q v H' := q
    exact q F' v H' ⟨s1.inc, s1.new, fun b o e n => s1.keep b o e n (by simp), s1.there, s1.tape, fun _ => s1.tabs, fun _ => s1.ftr⟩ r1
  | bk s1 => exact q.elim
  | ct s1 => exact q.elim
  | xc c =>
    intro F' C dd σ' H' I' hmC
    have q : ∀ F' C dd H', Stp T F H F' H' → mg c = some (.ref C) → E (.ref C) dd H' := q
    exact q F' C dd H' ⟨I'.inc, I'.new, fun b o e n => I'.keep b o e n (by simp), I'.there, I'.tape, fun _ => I'.er.tabs, fun _ => I'.er.ftr⟩ hmC
  | st => exact q.elim
end
/-- a code object's head, read off the heap's fragment -/
theorem codeHd_mk {K : PySem.W.Frag} {h : Heap} {c Pt : Addr} {od : Option Addr} {osl : Array (Option Value)} {vs : Array Value} {file : Str} {tf tg tt : Tok} {flags text : Int} {inF : Bool} (X : K.In h)
    (l : List.lookup c K = some ⟨.type "code", od, .fields vs, osl⟩) (e11 : vs[11]? = some (.ref Pt)) (e18 : vs.getD 18 .none = .str file tf) (e7 : vs.getD 7 .none = .int flags tg) (e9 : vs.getD 9 .none = .bool inF) (e10 : vs.getD 10 .none = .int text tt) (ne : c ≠ Pt) : PySem.W.CodeHd h c Pt :=
  ⟨_, vs, file, tf, flags, tg, inF, text, tt, X _ _ l, rfl, rfl, e11, by rw [Array.getD_eq_getD_getElem?, e11]; rfl, e18, e7, e9, e10, ne⟩
/-- no lists stand in the fragment -/
def noLst (K : PySem.W.Frag) : Bool := K.all fun p => match p.2.cls with | .type t => !(t == "list") | _ => true
theorem noLst_of {K : PySem.W.Frag} {a : Addr} {o : Obj} (h : noLst K = true) (l : List.lookup a K = some o) (e : o.cls = .type "list") : False := by
  unfold noLst at h
  induction K with
  | nil => cases l
  | cons p K ih =>
    rw [List.all_cons, Bool.and_eq_true] at h
    rw [List.lookup_cons] at l
    split at l
    · cases l
      have := h.1
      rw [e] at this
      simp at this
    · exact ih h.2 l
/-- a value of the fragment stands for data -/
def kval (K : PySem.W.Frag) : Nat → Value → D → Bool
  | 0, _, _ => false
  | n + 1, u, d => match u, d with
    | .none, .non => true
    | .bool b, .bl c => b == c
    | .int i _, .int j => i == j
    | .str s _, .str l => s == SS l && okcB l
    | .ref a, .tup ds => (match List.lookup a K with
      | some ⟨.type t, _, .seq its _, _⟩ => t == "tuple" && decide (its.size ≤ sizeLine) && its.toList.length == ds.length && (its.toList.zip ds).all fun p => kval K n p.1 p.2
      | _ => false)
    | _, _ => false
theorem kval_of {K : PySem.W.Frag} : ∀ {n : Nat} {u : Value} {d : D}, kval K n u d = true → ∃ v, RelV v u ∧ KRep K v d
  | 0, _, _, h => by cases h
  | n + 1, u, d, h => by
    unfold kval at h
    split at h
    · exact ⟨.non, rfl, fun F H => .non⟩
    · rename_i b c
      have : b = c := by simpa using h
      subst this
      exact ⟨.bl b, rfl, fun F H => .bl _⟩
    · rename_i i t j
      have : i = j := by simpa using h
      subst this
      exact ⟨.int i, ⟨t, rfl⟩, fun F H => .int _⟩
    · rename_i s t l
      rw [Bool.and_eq_true] at h
      have : s = SS l := by simpa using h.1
      subst this
      refine ⟨.str (SS l), ⟨t, rfl⟩, fun F H => .str _ fun c hc => ?_⟩
      have h2 := h.2
      unfold okcB at h2
      rw [List.all_eq_true] at h2
      simpa using h2 c hc
    · rename_i a ds
      split at h
      · rename_i t od its m osl e
        simp only [Bool.and_eq_true, beq_iff_eq, decide_eq_true_eq] at h
        obtain ⟨⟨⟨ht, hs⟩, hl⟩, ha⟩ := h
        subst ht
        have key : ∀ (us : List Value) (ds : List D), us.length = ds.length → ((us.zip ds).all fun p => kval K n p.1 p.2) = true → ∃ vs, Vals vs us ∧ ∀ F H, Reps K F H vs ds := by
          intro us
          induction us with
          | nil => intro ds hl _; cases ds with
            | nil => exact ⟨[], .nil, fun F H => .nil⟩
            | cons _ _ => simp at hl
          | cons u us ih =>
            intro ds hl ha
            cases ds with
            | nil => simp at hl
            | cons d ds =>
              rw [List.zip_cons_cons, List.all_cons, Bool.and_eq_true] at ha
              obtain ⟨v, h1, h2⟩ := kval_of ha.1
              obtain ⟨vs, h3, h4⟩ := ih ds (by simpa using hl) ha.2
              exact ⟨v :: vs, .cons h1 h3, fun F H => .cons (h2 F H) (h4 F H)⟩
        obtain ⟨vs, h1, h2⟩ := key _ _ hl ha
        exact ⟨.ref a, rfl, fun F H => .tup (.inr ⟨_, its, m, e, rfl, rfl, hs, h1⟩) (h2 F H)⟩
      · cases h
    · cases h
/-- a def's text, from what stands in the fragment -/
theorem funC_mk {K : PySem.W.Frag} {x : Str} {st : Stmt} {f : Addr} {oc : Value} {od an : Option Addr} {osl : Array (Option Value)} {kV doc pm cdv ct : Value} {C : Value → Prop}
    (l : List.lookup f K = some ⟨oc, od, .func (PySem.W.fnOf x x (defArgs st) (defBody st) (defScope st) .none kV doc pm an cdv ct), osl⟩) (c : PySem.W.codeIn K cdv x = true) (kp : PySem.W.keepIn K (.ref f) = true) (hC : C cdv) :
    FunC K x st f (PySem.W.fnOf x x (defArgs st) (defBody st) (defScope st) .none kV doc pm an cdv ct) C := ⟨⟨_, _, _, _, _, _, _, _, _, rfl, l, c, hC⟩, kp⟩
theorem tabs_of {T : Tb} {cs : List (Addr × Addr)} {H : Hp} (hT : ∀ q ∈ T, ∃ p ∈ cs, q.1 = p.2) (h : ∀ p ∈ cs, H p.2 = some (.tbl #[])) : LamX.Tabs T H := fun q hq => by
  obtain ⟨p, hp, e⟩ := hT q hq
  exact ⟨#[], by rw [e]; exact h p hp, trivial, fun pos cv z => by cases z⟩
/-- the law, joined -/
theorem lawAt_of {l : PySem.W.OpenLaw} {w : World} {mg : Str → Option Value} {fa : Addr} {h : Heap} {K : PySem.W.Frag} {n k : Nat} {x : Str} {fd : FuncData} {cs : List (Addr × Addr)} {T : Tb} {M : List D → N (R D)}
    (tab : ∀ p ∈ cs, h.get? p.2 = some (PySem.W.tabObj #[])) (nk : ∀ p ∈ cs, List.lookup p.2 K = none) (hd : ∀ p ∈ cs, PySem.W.CodeHd h p.1 p.2) (nl : noLst K = true)
    (hb : ∀ (s : Shared) (u : Value), BindsTo s fd ⟨[u], []⟩ [(x, u)]) (hT : ∀ q ∈ T, ∃ p ∈ cs, q.1 = p.2)
    (hM : ∀ ns : List Int, ns.length ≤ n → (∀ z ∈ ns, Builtin.Int.intBits z ≤ 1048576) → M [.lst (ns.map .int)] fun r => r = .ok (.bl true))
    (ok : ∀ base : Heap, K.In base → base.Ns mainGlobals mg → (∀ p ∈ cs, LamX.TabB base mg p.1 p.2) → FnOk l.prog w K mg base (L2.CX l.prog w) k fa fd [x] (spN K T mg .S 1 M)) :
    LamX.LawAtS l w K (L2.CX l.prog w) k n x mg fa h := by
  refine ⟨fd, cs, _, tab, nk, hd, hb, fun H a ns h1 h2 h3 h4 => ?_, ok⟩
  have hr : Rd H a (.lst (ns.map V.int)) := by
    rcases h4 with h4 | ⟨o, its, m, e, e2, _⟩
    · exact h4
    · exact (noLst_of nl e e2).elim
  refine ⟨rfl, fun b => b = a, [.lst (ns.map .int)], fun b hb => ?_, tabs_of hT h3, .cons (.lst rfl hr (reps_ints ns)) .nil, _, fun r hr => ?_, hM ns h1 h2⟩
  · subst hb
    rcases hr with hr | ⟨ob, hr⟩
    · exact ⟨_, hr, fun ps z => by cases z⟩
    · exact ⟨_, hr, fun ps z => by cases z⟩
  · subst hr
    intro F' v H' _ r
    cases (show Rep K F' H' v (.bl true) from r)
    rfl
theorem cx_no {P : Program} {w : World} {H : Hp} {s : Shared} {e : Value} {s' : Shared} (h : L2.CX P w [] H s (fun _ _ _ => False) e s') : False := by
  obtain ⟨_, _, _, _, _, _, _, _, _, _, _, _, h⟩ := h
  exact h
end DL

-- DL20
set_option Elab.async false
set_option linter.all false
set_option maxRecDepth 100000
set_option maxHeartbeats 4000000
/-! The data layer: comprehensions of two generators. -/
namespace DL
open PySem PySem.Spec PyProof.Rows L2
def compM2 : List D → (D → R (List D)) → R (List D)
  | [], _ => .ok []
  | d :: ds, f => (f d).nx.bind fun zs => (compM2 ds f).bind fun ys => .ok (zs ++ ys)
theorem compM_noex {α : Type} (f : D → R (Option α)) (c : Str) : ∀ ds : List D, compM ds f ≠ .ex c
  | [], h => by cases h
  | d :: ds, h => by
    unfold compM at h
    cases e : f d with
    | ok o =>
      rw [e] at h
      cases e2 : compM ds f with
      | ok ys => rw [e2] at h; cases h
      | ex c' => exact compM_noex f c' ds e2
      | st => rw [e2] at h; cases h
    | ex c' => rw [e] at h; cases h
    | st => rw [e] at h; cases h
theorem compM2_noex (f : D → R (List D)) (c : Str) : ∀ ds : List D, compM2 ds f ≠ .ex c
  | [], h => by cases h
  | d :: ds, h => by
    unfold compM2 at h
    cases e : f d with
    | ok o =>
      rw [e] at h
      cases e2 : compM2 ds f with
      | ok ys => rw [e2] at h; cases h
      | ex c' => exact compM2_noex f c' ds e2
      | st => rw [e2] at h; cases h
    | ex c' => rw [e] at h; cases h
    | st => rw [e] at h; cases h
/-- a list of bounded length -/
def lstB (ys : List D) : R D := if ys.length ≤ sizeLine then .ok (.lst ys) else .st
section
variable {X : Cx} {T : Tb} {W : WX} {ip : List Nat} {rm : Md} {τ ρ τ' : Type} {inj : τ → List Sl} {injL : ρ → List Sl} {envX env env2 : List Sl} {G : Gh} {F F' : Addr → Prop} {σ : Sg} {H H' : Hp} {ss : List Stmt} {e a b c tg elt iter tg1 iter1 : Expr} {es : List Expr} {me ma mb mc : R D} {mas : R (List D)} {mt : R Bool} {md : Md} {pos p : Pos}
/-- the inner loop, for an item d of the outer one -/
def CB2 (X : Cx) (T : Tb) (scope : Scope) (vs1 : List Nat) (oe : Option (List Sl)) (ifs : List Expr) (tg1 iter1 : Expr) (ifs1 : List Expr) (elt : Expr) (m : R (List D)) : Prop :=
  match oe with
  | some env2 => ∃ (mt : R Bool) (mi1 : R (List D)) (pt1 : Pat) (g : D → R (Option D)), m = (mt.bind fun k => if k = true then mi1.bind fun es => compM es g else .ok []) ∧ (∀ q : Blk, DTs (blkOf X scope q) T W0 env2 ifs mt) ∧ (∀ q : Blk, DI .S (blkOf X scope q) T W0 env2 tg1 iter1 mi1) ∧
      (∀ q : Blk, GT (blkOf X scope q) tg1 pt1) ∧ (∀ i ∈ pt1.ixs, i ∈ vs1) ∧ ∀ e, CB X T scope (pt1.bind e (wipeE env2 vs1)) ifs1 elt (g e)
  | none => m = .st
mutual
theorem Pat.Upd.mono {K : PySem.W.Frag} {F F' : Addr → Prop} {H H' : Hp} (g : Grow F H F' H') : ∀ {p : Pat} {d : D} {σ σ' : Sg}, Pat.Upd K F H p d σ σ' → Pat.Upd K F' H' p d σ σ'
  | .nm i, d, σ, σ', ⟨v, r, e⟩ => ⟨v, r.mono g, e⟩
  | .tp ps, .tup ds, σ, σ', h => Pat.Upds.mono g (ps := ps) (ds := ds) h
  | .tp _, .non, _, _, h => h
  | .tp _, .bl _, _, _, h => h
  | .tp _, .int _, _, _, h => h
  | .tp _, .str _, _, _, h => h
  | .tp _, .lst _, _, _, h => h
  | .tp _, .dic _, _, _, h => h
  | .tp _, .ins _ _, _, _, h => h
  | .tp _, .tape, _, _, h => h
theorem Pat.Upds.mono {K : PySem.W.Frag} {F F' : Addr → Prop} {H H' : Hp} (g : Grow F H F' H') : ∀ {ps : List Pat} {ds : List D} {σ σ' : Sg}, Pat.Upds K F H ps ds σ σ' → Pat.Upds K F' H' ps ds σ σ'
  | [], [], σ, σ', h => h
  | p :: ps, d :: ds, σ, σ', ⟨σ1, a, b⟩ => ⟨σ1, Pat.Upd.mono g a, Pat.Upds.mono g b⟩
  | [], _ :: _, _, _, h => h
  | _ :: _, [], _, _, h => h
end
def iStar (X : Cx) (scope : Scope) (tg iter : Expr) : TI := fun σ H R => ∀ q : Blk, wpI (blkOf X scope q) tg iter σ H R
theorem wipe_twice (vs : List Nat) (σ : Sg) : L2.wipe (L2.wipe σ vs) vs = L2.wipe σ vs := by
  have key : ∀ (vs ws : List Nat) (σ : Sg), (∀ v ∈ ws, v ∈ vs) → L2.wipe (L2.wipe σ ws) vs = L2.wipe σ vs := by
    intro vs ws
    induction ws with
    | nil => intro σ _; rfl
    | cons w ws ih =>
      intro σ h
      show L2.wipe ((L2.wipe σ ws).set w none) vs = _
      rw [wipe_set (h w List.mem_cons_self), ih σ fun v hv => h v (List.mem_cons_of_mem _ hv)]
  exact key _ _ σ fun _ h => h
theorem lc2_run {mi : R (List D)} {pt : Pat} {scope : Scope} {ifs ifs1 : List Expr} {own : List (Str × Nat)} {vs1 : List Nat} {f : D → R (List D)} {Q : VK} (hi : DI md X T W env tg iter mi) (hg : ∀ q : Blk, GT (blkOf X scope q) tg pt)
    (hix : ∀ i ∈ pt.ixs, i ∈ own.map (·.2)) (hb : ∀ d, CB2 X T scope vs1 (pt.bind d (wipeE env (own.map (·.2)))) ifs tg1 iter1 ifs1 elt (f d)) (I : ER X.K T F σ H env)
    (q : PostE X T W F σ H .O (mi.bind fun ds => (compM2 ds f).bind lstB) Q) :
    tLc2 (wpI X tg iter) (gStar X scope tg) (tStar X scope ifs) (iStar X scope tg1 iter1) (gStar X scope tg1) (tStar X scope ifs1) (eStar X scope elt) (own.map (·.2)) vs1 σ H Q := by
  refine hi F σ H _ I ?_
  cases mi with
  | ex c => exact q
  | st => exact q.elim
  | ok ds =>
    intro F1 H1 J s1 ⟨Gd, gst, ggo, gstop, gyld⟩ hlen D0 hD0
    have I1 := I.stp s1
    have q1 : PostE X T W F1 σ H1 .O ((compM2 ds f).bind lstB) Q := PostE.stp s1 q
    have b0 : H1 D0 = none := hD0
    cases eall : compM2 ds f with
    | ex c => exact absurd eall (compM2_noex f c ds)
    | st => rw [eall] at q1; exact q1.elim
    | ok all =>
    rw [eall] at q1
    by_cases hall : all.length ≤ sizeLine
    case neg => rw [show (R.ok all).bind lstB = R.st from if_neg hall] at q1; exact q1.elim
    rw [show (R.ok all).bind lstB = R.ok (.lst all) from if_pos hall] at q1
    refine ⟨fun i m H' => ∃ F' acc ys zs, m = ds.length - i ∧ i ≤ ds.length ∧ Stp T F1 H1 F' H' ∧ H' D0 = some (.lst acc) ∧ ¬ F' D0 ∧ Reps X.K F' H' acc ys ∧
      compM2 (ds.drop i) f = .ok zs ∧ ys ++ zs = all, ⟨_, F1, [], [], all, rfl, Nat.zero_le _, .new1 hD0, upd_same, fun z => (I1.ftr D0 z).ne hD0, .nil, by rw [List.drop_zero]; exact eall, rfl⟩, ?_⟩
    rintro i m H2 ⟨F2, acc, ys, zs, rfl, hil, s2, hD2, nf2, r2, ez, ey⟩
    have g2 : Gd F2 H2 := gst F2 H2 (fun _ => s2.grow) (fun _ => s2)
    by_cases hlt : i < ds.length
    · refine .inr ⟨ggo i F2 H2 hlt g2, fun H' => ∃ F' acc ys zs, Stp T F1 H1 F' H' ∧ H' D0 = some (.lst acc) ∧ ¬ F' D0 ∧ Reps X.K F' H' acc ys ∧
        compM2 (ds.drop (i + 1)) f = .ok zs ∧ ys ++ zs = all, fun H' ⟨F', acc, ys, zs, a1, a2, a3, a4, a5, a6⟩ => ⟨ds.length - (i + 1), by omega, F', acc, ys, zs, rfl, hlt, a1, a2, a3, a4, a5, a6⟩, fun x H3 hy => ?_⟩
      obtain ⟨d, hd, F3, s3, r3⟩ := gyld i F2 H2 x H3 hlt g2 hy
      have ed : ds.drop i = d :: ds.drop (i + 1) := by
        rw [List.drop_eq_getElem_cons hlt, (List.getElem?_eq_some_iff.mp hd).2]
      rw [ed] at ez
      have s13 := s2.trans s3
      have I3 : ER X.K T F3 (L2.wipe σ (own.map (·.2))) H3 (wipeE env (own.map (·.2))) := (I1.stp s13).wipe
      have o2 : OwnAt X.K F2 H2 D0 (.lst ys) := ⟨acc, hD2, r2⟩
      have o3 := s3.ownAt o2
      have nf3 : ¬ F3 D0 := s3.notF nf2 o2.tr
      have hbd := hb d
      cases eb : pt.bind d (wipeE env (own.map (·.2))) with
      | none =>
        rw [eb] at hbd
        have z : f d = .st := hbd
        unfold compM2 at ez
        rw [z] at ez
        cases ez
      | some env3 =>
        rw [eb] at hbd
        obtain ⟨mt, mi1, pt1, g, ef, ht, hi1, hg1, hix1, hb1⟩ := hbd
        intro qb
        refine hg qb F3 H3 x d _ _ r3 (fun env' => pat_dec (by rw [eb]; simp) env') fun σ4 u4 => ?_
        have I4 := Pat.er u4 eb I3
        refine ⟨Pat.wipe u4 hix |>.trans (wipe_twice _ σ), ?_⟩
        have ez' : ((f d).nx.bind fun zs => (compM2 (ds.drop (i + 1)) f).bind fun ys => .ok (zs ++ ys)) = .ok zs := ez
        rw [ef] at ez'
        cases mt with
        | ex c => cases ez'
        | st => cases ez'
        | ok k =>
          intro qt
          refine dts_run (ht qt) I4 fun F5 H5 s5 => ?_
          have o5 := s5.ownAt o3
          have nf5 : ¬ F5 D0 := s5.notF nf3 o3.tr
          cases k with
          | false =>
            rw [if_neg Bool.false_ne_true]
            obtain ⟨acc5, h5, r5⟩ := o5
            have ez2 : ((compM2 (ds.drop (i + 1)) f).bind fun ys => R.ok ([] ++ ys)) = .ok zs := ez'
            cases er : compM2 (ds.drop (i + 1)) f with
            | ex c => rw [er] at ez2; cases ez2
            | st => rw [er] at ez2; cases ez2
            | ok zs2 =>
              rw [er] at ez2
              cases ez2
              exact ⟨F5, acc5, ys, zs2, s13.trans s5, h5, nf5, r5, rfl, ey⟩
          | true =>
            rw [if_pos rfl]
            intro q1i
            refine hi1 q1i F5 σ4 H5 _ (I4.stp s5) ?_
            cases mi1 with
            | ex c => cases ez'
            | st => cases ez'
            | ok es =>
              intro F6 H6 J1 s6 ⟨Gd1, gst1, ggo1, gstop1, gyld1⟩ hlen1
              have ez3 : ((compM es g).nx.bind fun zs => (compM2 (ds.drop (i + 1)) f).bind fun ys => R.ok (zs ++ ys)) = .ok zs := ez'
              cases ei : compM es g with
              | ex c => rw [ei] at ez3; cases ez3
              | st => rw [ei] at ez3; cases ez3
              | ok zi =>
              rw [ei] at ez3
              cases er : compM2 (ds.drop (i + 1)) f with
              | ex c => rw [er] at ez3; cases ez3
              | st => rw [er] at ez3; cases ez3
              | ok zr =>
              rw [er] at ez3
              cases ez3
              have o6 := s6.ownAt o5
              have nf6 : ¬ F6 D0 := s6.notF nf5 o5.tr
              have s16 := (s13.trans s5).trans s6
              obtain ⟨acc6, h6, r6⟩ := o6
              refine ⟨fun j k H' => ∃ F' acc ys zj, k = es.length - j ∧ j ≤ es.length ∧ Stp T F1 H1 F' H' ∧ Grow F6 H6 F' H' ∧ H' D0 = some (.lst acc) ∧ ¬ F' D0 ∧ Reps X.K F' H' acc ys ∧ compM (es.drop j) g = .ok zj ∧ ys ++ (zj ++ zr) = all, ⟨_, F6, acc6, ys, zi, rfl, Nat.zero_le _, s16, .refl, h6, nf6, r6, by rw [List.drop_zero]; exact ei, ey⟩, ?_⟩
              rintro j k H7 ⟨F7, acc7, ys7, zj, rfl, hjl, s17, s67, hD7, nf7, r7, ezj, ey7⟩
              have g7 : Gd1 F7 H7 := gst1 F7 H7 (fun _ => s67) (fun z => absurd rfl z)
              by_cases hjlt : j < es.length
              · refine .inr ⟨ggo1 j F7 H7 hjlt g7, fun H' => ∃ F' acc ys zj, Stp T F1 H1 F' H' ∧ Grow F6 H6 F' H' ∧ H' D0 = some (.lst acc) ∧ ¬ F' D0 ∧ Reps X.K F' H' acc ys ∧ compM (es.drop (j + 1)) g = .ok zj ∧ ys ++ (zj ++ zr) = all, fun H' ⟨F', acc, ys, zj, a1, a2, a3, a4, a5, a6, a7⟩ => ⟨es.length - (j + 1), by omega, F', acc, ys, zj, rfl, hjlt, a1, a2, a3, a4, a5, a6, a7⟩, fun x1 H8 hy1 => ?_⟩
                obtain ⟨d1, hd1, F8, s8, r8⟩ := gyld1 j F7 H7 x1 H8 hjlt g7 hy1
                have ed1 : es.drop j = d1 :: es.drop (j + 1) := by
                  rw [List.drop_eq_getElem_cons hjlt, (List.getElem?_eq_some_iff.mp hd1).2]
                rw [ed1] at ezj
                have o7 : OwnAt X.K F7 H7 D0 (.lst ys7) := ⟨acc7, hD7, r7⟩
                have o8 := s8.ownAt o7
                have nf8 : ¬ F8 D0 := s8.notF nf7 o7.tr
                have I8 : ER X.K T F8 (L2.wipe σ4 vs1) H8 (wipeE env3 vs1) := (Pat.er (u4.mono (((s5.grow.trans s6.grow).trans s67).trans s8.grow)) eb (I1.stp (s17.trans s8)).wipe).wipe
                have hbd1 := hb1 d1
                cases eb1 : pt1.bind d1 (wipeE env3 vs1) with
                | none =>
                  rw [eb1] at hbd1
                  have z : g d1 = .st := hbd1
                  unfold compM at ezj
                  rw [z] at ezj
                  cases ezj
                | some env4 =>
                  rw [eb1] at hbd1
                  obtain ⟨mt1, me1, eg, ht1, he1⟩ := hbd1
                  intro qb1
                  refine hg1 qb1 F8 H8 x1 d1 _ _ r8 (fun env' => pat_dec (by rw [eb1]; simp) env') fun σ5 u5 => ?_
                  have I5 := Pat.er u5 eb1 I8
                  refine ⟨Pat.wipe u5 hix1 |>.trans (wipe_twice _ σ4), ?_⟩
                  have ezj' : ((g d1).nx.bind fun o => (compM (es.drop (j + 1)) g).bind fun ys => .ok (optC o ys)) = .ok zj := ezj
                  rw [eg] at ezj'
                  cases mt1 with
                  | ex c => cases ezj'
                  | st => cases ezj'
                  | ok k1 =>
                    intro qt1
                    refine dts_run (ht1 qt1) I5 fun F9 H9 s9 => ?_
                    have o9 := s9.ownAt o8
                    have nf9 : ¬ F9 D0 := s9.notF nf8 o8.tr
                    cases k1 with
                    | false =>
                      rw [if_neg Bool.false_ne_true]
                      obtain ⟨acc9, h9, r9⟩ := o9
                      have ez2 : ((compM (es.drop (j + 1)) g).bind fun ys => R.ok (optC none ys)) = .ok zj := ezj'
                      cases er2 : compM (es.drop (j + 1)) g with
                      | ex c => rw [er2] at ez2; cases ez2
                      | st => rw [er2] at ez2; cases ez2
                      | ok zs2 =>
                        rw [er2] at ez2
                        cases ez2
                        exact ⟨F9, acc9, ys7, zs2, (s17.trans s8).trans s9, (s67.trans s8.grow).trans s9.grow, h9, nf9, r9, rfl, ey7⟩
                    | true =>
                      rw [if_pos rfl]
                      intro qe1
                      refine he1 qe1 F9 σ5 H9 _ (I5.stp s9) ?_
                      cases me1 with
                      | ex c => cases ezj'
                      | st => cases ezj'
                      | ok y =>
                        intro F10 v10 H10 s10 r10
                        have ez2 : ((compM (es.drop (j + 1)) g).bind fun ys => R.ok (y :: ys)) = .ok zj := ezj'
                        cases er2 : compM (es.drop (j + 1)) g with
                        | ex c => rw [er2] at ez2; cases ez2
                        | st => rw [er2] at ez2; cases ez2
                        | ok zs2 =>
                          rw [er2] at ez2
                          cases ez2
                          have o10 := s10.ownAt o9
                          obtain ⟨acc10, h10, ra10⟩ := id o10
                          have nf10 : ¬ F10 D0 := s10.notF nf9 o9.tr
                          have s1' := ((s17.trans s8).trans s9).trans s10
                          have s6' := ((s67.trans s8.grow).trans s9.grow).trans s10.grow
                          have gg : Grow F10 H10 F10 (upd H10 D0 (.lst (acc10 ++ [v10]))) := upd_rep nf10 o10.kind
                          refine ⟨acc10, h10, ?_, F10, acc10 ++ [v10], ys7 ++ [y], zs2, s1'.wr b0 nf10 (fun _ z => by cases z) o10, s6'.trans gg, upd_same, nf10, (ra10.append (.cons r10 .nil)).mono gg, rfl, by rw [← ey7]; simp⟩
                          · rw [ra10.length]
                            have : all.length = ys7.length + (zs2.length + 1 + zr.length) := by rw [← ey7]; simp; omega
                            omega
              · have e : j = es.length := by omega
                subst e
                refine .inl ⟨gstop1 F7 H7 g7, ?_⟩
                rw [List.drop_length] at ezj
                cases ezj
                exact ⟨F7, acc7, ys7, zr, s17, hD7, nf7, r7, rfl, ey7⟩
    · have e : i = ds.length := by omega
      subst e
      refine .inl ⟨gstop F2 H2 g2, ?_⟩
      rw [List.drop_length] at ez
      cases ez
      rw [List.append_nil] at ey
      subst ey
      exact q1 F2 (.ref D0) H2 s2 ⟨D0, rfl, nd_none b0, nf2, acc, hD2, r2⟩
theorem lc2_pe {scope : Scope} {ifs ifs1 : List Expr} {own : List (Str × Nat)} {vs1 : List Nat} (hc : X.calm = true) (hN : X.N.Nodup) (ok : BlkOk X.N X.env.scope scope own) (hv : ∀ i ∈ vs1, i ∈ own.map (·.2)) (hs : ∀ x, foldedSetIterable iter X.env x = pure x) (hs1 : ∀ (env : Env) x, foldedSetIterable iter1 env x = pure x) :
    PE X (.ListComp elt [⟨tg, iter, ifs, 0⟩, ⟨tg1, iter1, ifs1, 0⟩] scope pos) (tLc2 (wpI X tg iter) (gStar X scope tg) (tStar X scope ifs) (iStar X scope tg1 iter1) (gStar X scope tg1) (tStar X scope ifs1) (eStar X scope elt) (own.map (·.2)) vs1) :=
  pe_lc2 (pos := pos) hc hN pi_wp ok hv (fun s H C cl fp => ⟨fun pins s' σ H' v u Q I r h => pg_wp.run pins s' σ H' v u Q I r (h (s, H, C, cl, fp))⟩) (fun s H C cl fp => ⟨fun pins s' σ H' Q I h => h (s, H, C, cl, fp) pins s' I⟩) (fun s H C cl fp => ⟨fun pins s' σ H' R I h => pi_wp.run pins s' σ H' R I (h (s, H, C, cl, fp))⟩)
    (fun s H C cl fp => ⟨fun pins s' σ H' v u Q I r h => pg_wp.run pins s' σ H' v u Q I r (h (s, H, C, cl, fp))⟩) (fun s H C cl fp => ⟨fun pins s' σ H' Q I h => h (s, H, C, cl, fp) pins s' I⟩) (fun s H C cl fp => ⟨fun pins s' σ H' Q I h => pe_wp.run pins s' σ H' Q I (h (s, H, C, cl, fp))⟩) hs hs1
/-- [elt for tg in iter if .. for tg1 in iter1 if ..] -/
theorem de_lc2 {mi : R (List D)} {pt : Pat} {scope : Scope} {ifs ifs1 : List Expr} (own : List (Str × Nat)) (vs1 : List Nat) {f : D → R (List D)} (hi : DI md X T W env tg iter mi) (hg : ∀ q : Blk, GT (blkOf X scope q) tg pt)
    (hb : ∀ d, CB2 X T scope vs1 (pt.bind d (wipeE env (own.map (·.2)))) ifs tg1 iter1 ifs1 elt (f d)) (hc : X.calm = true) (hN : X.N.Nodup) (ok : BlkOk X.N X.env.scope scope own) (hix : ∀ i ∈ pt.ixs, i ∈ own.map (·.2) := by decide) (hv : ∀ i ∈ vs1, i ∈ own.map (·.2) := by decide) (hs : ∀ x, foldedSetIterable iter X.env x = pure x := by intro _; kernel_rfl) (hs1 : ∀ (env : Env) x, foldedSetIterable iter1 env x = pure x := by intro _ _; kernel_rfl) :
    DE .O X T W env (.ListComp elt [⟨tg, iter, ifs, 0⟩, ⟨tg1, iter1, ifs1, 0⟩] scope pos) (mi.bind fun ds => (compM2 ds f).bind lstB) := fun F σ H Q I q =>
  (lc2_pe (pos := pos) hc hN ok hv hs hs1).wp (lc2_run hi hg hix hb I q)
/-- name = [.. two ..] on one line -/
theorem dss_setLc2 {i : Nat} {y : Str} {py spos : Pos} {mi : R (List D)} {pt : Pat} {scope : Scope} {ifs ifs1 : List Expr} (own : List (Str × Nat)) (vs1 : List Nat) {g : D → R (List D)} {f : D → O τ ρ} (hi : DI md X T W env tg iter mi) (hg : ∀ q : Blk, GT (blkOf X scope q) tg pt)
    (hb : ∀ d, CB2 X T scope vs1 (pt.bind d (wipeE env (own.map (·.2)))) ifs tg1 iter1 ifs1 elt (g d)) (hr : ∀ d, DS X T W ip rm inj injL envX (env.set i (.ow d)) ss (f d)) (wx : True) (hc : X.calm = true) (hN : X.N.Nodup) (ok : BlkOk X.N X.env.scope scope own)
    (hsw : swapsWith (.ListComp elt [⟨tg, iter, ifs, 0⟩, ⟨tg1, iter1, ifs1, 0⟩] scope pos) (some (.Name y py)) spos.line X.env = pure true) (hy : X.N[i]? = some y := by kernel_rfl) (hyl : X.env.scope.names.lookup y = some .local := by kernel_rfl) (hip : i ∉ ip := by decide) (hix : ∀ i ∈ pt.ixs, i ∈ own.map (·.2) := by decide) (hv : ∀ i ∈ vs1, i ∈ own.map (·.2) := by decide) (hs : ∀ x, foldedSetIterable iter X.env x = pure x := by intro _; kernel_rfl) (hs1 : ∀ (env : Env) x, foldedSetIterable iter1 env x = pure x := by intro _ _; kernel_rfl) :
    DS X T W ip rm inj injL envX env (.Assign [.Name y py] (.ListComp elt [⟨tg, iter, ifs, 0⟩, ⟨tg1, iter1, ifs1, 0⟩] scope pos) spos :: ss) (O.ofR (mi.bind fun ds => (compM2 ds g).bind lstB) f) := fun G F σ H D I h => by
  refine wpS_cons (L2.ps_setLc2 (spos := spos) (pos := pos) (py := py) (vs1 := vs1) (g := gStar X scope tg) (tt := tStar X scope ifs) (wi1 := iStar X scope tg1 iter1) (g1 := gStar X scope tg1) (tt1 := tStar X scope ifs1) (te := eStar X scope elt) hc hN hy hyl hsw pi_wp ok hv (fun s H C cl fp => ⟨fun pins s' σ H' v u Q I r h => pg_wp.run pins s' σ H' v u Q I r (h (s, H, C, cl, fp))⟩) (fun s H C cl fp => ⟨fun pins s' σ H' Q I h => h (s, H, C, cl, fp) pins s' I⟩) (fun s H C cl fp => ⟨fun pins s' σ H' R I h => pi_wp.run pins s' σ H' R I (h (s, H, C, cl, fp))⟩)
    (fun s H C cl fp => ⟨fun pins s' σ H' v u Q I r h => pg_wp.run pins s' σ H' v u Q I r (h (s, H, C, cl, fp))⟩) (fun s H C cl fp => ⟨fun pins s' σ H' Q I h => h (s, H, C, cl, fp) pins s' I⟩) (fun s H C cl fp => ⟨fun pins s' σ H' Q I h => pe_wp.run pins s' σ H' Q I (h (s, H, C, cl, fp))⟩) hs hs1) ?_
  show tLc2 (wpI X tg iter) (gStar X scope tg) (tStar X scope ifs) (iStar X scope tg1 iter1) (gStar X scope tg1) (tStar X scope ifs1) (eStar X scope elt) (own.map (·.2)) vs1 σ H _
  refine lc2_run hi hg hix hb I.er ?_
  revert h
  generalize (mi.bind fun ds => (compM2 ds g).bind lstB) = mm
  cases mm with
  | ex c => exact fun h F' C dd H' s hm => h F' C dd σ H' (I.stp s).nos hm
  | st => exact fun h => h
  | ok d =>
    intro h F1 v H1 s1 r
    obtain ⟨a, rfl, h0, nf, o⟩ := r
    have I1 := I.stp s1
    refine hr d G F1 _ H1 D (I1.set_ow o nf (fun j hj => ?_) (I.back h0) hip) (PostS.grow s1.grow h)
    obtain ⟨d', _, o'⟩ := I.er.own hj
    exact h0 o'.tr
theorem cb2_mk {scope : Scope} {vs1 : List Nat} {ifs ifs1 : List Expr} {mi1 : R (List D)} {pt1 : Pat} {g : D → R (Option D)} (ht : ∀ q : Blk, DTs (blkOf X scope q) T W0 env2 ifs mt) (hi : ∀ q : Blk, DI .S (blkOf X scope q) T W0 env2 tg1 iter1 mi1) (hg : ∀ q : Blk, GT (blkOf X scope q) tg1 pt1) (hb : ∀ e, CB X T scope (pt1.bind e (wipeE env2 vs1)) ifs1 elt (g e)) (hix : ∀ i ∈ pt1.ixs, i ∈ vs1 := by decide) :
    CB2 X T scope vs1 (some env2) ifs tg1 iter1 ifs1 elt (mt.bind fun k => if k = true then mi1.bind fun es => compM es g else .ok []) := ⟨mt, mi1, pt1, g, rfl, ht, hi, hg, hix, hb⟩
theorem cb2_nm {scope : Scope} {vs1 : List Nat} {ifs ifs1 : List Expr} {i : Nat} {d : D} {m : R (List D)} (h : CB2 X T scope vs1 (some (env.set i (.sh d))) ifs tg1 iter1 ifs1 elt m) : CB2 X T scope vs1 ((Pat.nm i).bind d env) ifs tg1 iter1 ifs1 elt m := h
theorem cb2_2 {scope : Scope} {vs1 : List Nat} {ifs ifs1 : List Expr} {p q : Pat} {d : D} {m : D → D → R (List D)} (h : ∀ a b, CB2 X T scope vs1 ((p.bind a env).bind (q.bind b)) ifs tg1 iter1 ifs1 elt (m a b)) : CB2 X T scope vs1 ((Pat.tp [p, q]).bind d env) ifs tg1 iter1 ifs1 elt (tup2 .st d m) := by
  cases d with
  | tup xs =>
    match xs with
    | [a, b] => show CB2 _ _ _ _ (Pat.binds [p, q] [a, b] env) _ _ _ _ _ _; rw [binds2_some]; exact h a b
    | [] => show CB2 _ _ _ _ (Pat.binds [p, q] [] env) _ _ _ _ _ _; rw [binds2_none (by intros; simp)]; exact rfl
    | [a] => show CB2 _ _ _ _ (Pat.binds [p, q] [a] env) _ _ _ _ _ _; rw [binds2_none (by intros; simp)]; exact rfl
    | a :: b :: c :: r => show CB2 _ _ _ _ (Pat.binds [p, q] (a :: b :: c :: r) env) _ _ _ _ _ _; rw [binds2_none (by intros; simp)]; exact rfl
  | _ => exact rfl
end
end DL

-- DLS
set_option Elab.async false
set_option linter.all false
set_option maxRecDepth 100000
set_option maxHeartbeats 4000000
namespace DL
open PySem PySem.Spec PyProof.Rows L2
def ddStep (acc : List Key) (k : Key) : List Key := if acc.any (fun x => decide (x = k)) = true then acc else acc ++ [k]
def dd (ks : List Key) : List Key := ks.foldl ddStep []
theorem dd_succ {ks : List Key} {i : Nat} {k : Key} (h : ks[i]? = some k) : dd (ks.take (i + 1)) = ddStep (dd (ks.take i)) k := by
  have hi : i < ks.length := (List.getElem?_eq_some_iff.mp h).1
  rw [List.take_succ_eq_append_getElem hi, (List.getElem?_eq_some_iff.mp h).2]
  unfold dd
  rw [List.foldl_append]; rfl
theorem ddStep_len (acc : List Key) (k : Key) : (ddStep acc k).length ≤ acc.length + 1 := by
  unfold ddStep; split
  · omega
  · simp
theorem dd_len (ks : List Key) : (dd ks).length ≤ ks.length := by
  unfold dd
  have : ∀ (ks acc : List Key), (ks.foldl ddStep acc).length ≤ acc.length + ks.length := by
    intro ks
    induction ks with
    | nil => intro acc; simp
    | cons k ks ih =>
      intro acc
      rw [List.foldl_cons, List.length_cons]
      have := ih (ddStep acc k)
      have := ddStep_len acc k
      omega
  simpa using this ks []
theorem set_loopK {P : Program} {w : World} {A : Around} {R : Result → Shared → Prop} {I : Addr} {fp wr : List Addr} {G : Array GenState → Array GenState → Prop} {n : Nat} {Pv : Nat → Value → Prop} {St : Nat → Shared → Prop} (W : WalksS P w A.in1 I fp wr G n Pv St) (S : Addr) (hS : S ∉ fp) (ks : List Key) (hn : n = ks.length)
    (hv : ∀ i v, Pv i v → ∃ k, ks[i]? = some k ∧ keyIs k v = true ∧ v.scannable = true) (hb : n + 1 < scanBound) : ∀ (k i : Nat) (s : Shared), n - i = k → i ≤ n → St i s →
    Heap.SetOf (mixKind P w) s.heap S (fun k' => (dd (ks.take i)).any fun x => decide (x = k')) (dd (ks.take i)).length →
    (∀ s', Moved (S :: wr) G s s' → Heap.SetOf (mixKind P w) s'.heap S (fun k' => (dd ks).any fun x => decide (x = k')) (dd ks).length → R (.ok (.ret .none)) s') →
    codeAny (model P w) A (.builtin "set.update.loop" ⟨[.ref S, .ref I], []⟩) R s := by
  intro k
  induction k with
  | zero =>
    intro i s hk hi hst hset q
    have e : i = n := by omega
    subst e
    refine codeAny_builtin F.entry_set_update_loop ?_
    rw [Around.under_plainId F.plain_set_update_loop]
    unfold Builtin.«set.update.loop»
    refine wpAny_bind ?_
    refine W.done s _ _ hst fun s' mv => ?_
    refine wpAny_pure ?_
    refine q s' ?_ ?_
    · exact mv.mono (fun b hb => List.mem_cons_of_mem _ hb)
    · have hw : S ∉ wr := fun z => hS (W.sub S z)
      have := setOf_at hset fun o ho => mv.heap S o hw ho
      rw [List.take_of_length_le (by omega)] at this
      exact this
  | succ k ih =>
    intro i s hk hi hst hset q
    have hlt : i < n := by omega
    refine codeAny_builtin F.entry_set_update_loop ?_
    rw [Around.under_plainId F.plain_set_update_loop]
    unfold Builtin.«set.update.loop»
    refine wpAny_bind ?_
    refine W.item i s _ _ hlt hst fun v s1 pv st1 mv => ?_
    obtain ⟨ky, hky, his, hsc⟩ := hv i v pv
    have hw : S ∉ wr := fun z => hS (W.sub S z)
    have hset1 := setOf_at hset fun o ho => mv.heap S o hw ho
    refine wpAny_bind ?_
    refine wpAny_holding ?_
    unfold setAdd
    refine wpAny_holding ?_
    refine wpAny_bind ?_
    refine (mixKind P w).pyHash (k := ky) his ?_
    have hlen : (dd (ks.take i)).length + 1 < scanBound := by
      have := dd_len (ks.take i)
      rw [List.length_take] at this
      omega
    refine wpAny_setAddHashed_of (knd := mixKind P w) (k := ky) his hsc hset1 hlen fun h' same hset2 => ?_
    refine wpAny_pure ?_
    refine ⟨plainId_quiet F.plain_set_update_loop _, ?_⟩
    have hS' : ∀ b, b ∈ fp → ∀ o, s1.heap.get? b = some o → h'.get? b = some o := fun b hb o ho => by
      rw [same.2 b (fun z => hS (z ▸ hb))]; exact ho
    have st2 := W.frame (i + 1) { s1 with toks := s1.toks + 1 } h' (s1.toks + 1) (W.frame (i + 1) s1 s1.heap (s1.toks + 1) st1 (Nat.le_succ _) fun b _ o ho => ho) (Nat.le_refl _) hS'
    refine ih (i + 1) _ (by omega) hlt st2 ?_ fun s' mv' hs' => q s' ?_ hs'
    · rw [dd_succ hky]
      have e1 : (fun k' => (dd (ks.take i)).any (fun x => decide (x = k')) || decide (k' = ky)) = fun k' => (ddStep (dd (ks.take i)) ky).any fun x => decide (x = k') := by
        funext k'
        unfold ddStep
        split
        · rename_i h
          by_cases e : k' = ky
          · subst e
            simp only [h, Bool.true_or]
          · rw [decide_eq_false e, Bool.or_false]
        · rw [List.any_append]
          simp only [List.any_cons, List.any_nil, Bool.or_false]
          by_cases e : k' = ky
          · subst e; simp
          · rw [decide_eq_false e, decide_eq_false (fun z => e z.symm)]
      have e2 : (if (dd (ks.take i)).any (fun x => decide (x = ky)) = true then (dd (ks.take i)).length else (dd (ks.take i)).length + 1) = (ddStep (dd (ks.take i)) ky).length := by
        unfold ddStep
        split
        · rfl
        · simp
      rw [e1, e2] at hset2
      exact hset2
    · refine Moved.trans W.gtrans ?_ mv'
      refine (mv.mono (fun b hb => List.mem_cons_of_mem _ hb)).then_heap (Nat.le_succ _) fun b o hb ho => ?_
      rw [same.2 b (fun z => hb (by rw [z]; exact List.mem_cons_self))]; exact ho
end DL

-- DLT
set_option Elab.async false
set_option linter.all false
set_option maxRecDepth 100000
set_option maxHeartbeats 4000000
namespace DL
open PySem PySem.Spec PyProof.Rows L2
/-- set(v), v walked -/
theorem call_set_walk {P : Program} {w : World} {A : Around} {E : Value → Shared → Prop} {s : Shared} {v : Value} {T : String} {Q : Value → Shared → Prop} {n : Nat} {Pv : Nat → Value → Prop} (ks : List Key) (hn : n = ks.length) (hb : n + 1 < scanBound)
    (hv : ∀ i u, Pv i u → ∃ k, ks[i]? = some k ∧ keyIs k u = true ∧ u.scannable = true)
    (ty : ∀ s' : Shared, (∀ b o, s.heap.get? b = some o → s'.heap.get? b = some o) → s'.TypeIs v T) (h1 : isSubtype (.type T) (.type "set") = pure false) (h2 : isSubtype (.type T) (.type "frozenset") = pure false) (h3 : (Value.type T == .type "dict") = false)
    (it : ∀ (s' : Shared) (B : Around) (Q' : Value → Shared → Prop), (∀ b o, s.heap.get? b = some o → s'.heap.get? b = some o) → s'.os = s.os → s'.gens = s.gens → s'.drawn = s.drawn → s.heap.objs.size < s'.heap.objs.size →
      (∀ (I : Addr) (s2 : Shared) (fp wr : List Addr) (St : Nat → Shared → Prop), WalksS P w A.in1.in1.in1 I fp wr (fun a b => b = a) n Pv St → (s.heap.objs.size ∉ fp) → (∀ b ∈ wr, s.heap.objs.size < b) → St 0 s2 → (∀ b o, s'.heap.get? b = some o → s2.heap.get? b = some o) → s2.os = s.os → s2.gens = s.gens → s2.drawn = s.drawn → Q' (.ref I) s2) → wpAny (model P w) A.in1.in1 (pyIter v) Q' E s')
    (q : ∀ (h' : Heap) (tk : Nat), Heap.SetOf (mixKind P w) h' s.heap.objs.size (fun k' => (dd ks).any fun x => decide (x = k')) (dd ks).length → (∀ b o, s.heap.get? b = some o → h'.get? b = some o) → Q (.ref s.heap.objs.size) ⟨h', s.gens, s.drawn, tk, s.os⟩) :
    wpAny (model P w) A (call (.type "set") [v]) Q E s := by
  have FC := F.called_set
  obtain ⟨mc, mtl, hmro⟩ := FC.mro
  refine wpAny_call (codeAny_of_tree ?_)
  refine wpAny_pure (a := Fin.again (.builtin "type.__call__" ⟨[.type "set", v], []⟩)) ?_
  refine ⟨Code.quiet_builtin _ (by decide +kernel), codeAny_builtin F.entry_type_call ?_⟩
  rw [Around.under_plain (weight_type_call_type "set" [v] []) rfl]
  unfold Builtin.«type.__call__»
  refine wpAny_ite_false FC.notType ?_
  refine wpAny_ite_false (by rw [FC.canCreate]; rfl) ?_
  refine wpAny_bind ?_
  refine wpAny_of_eq (F.typeCall_set_1 v) ?_
  refine wpAny_bind ?_
  refine wpAny_of_eq hmro ?_
  refine wpAny_ite_false rfl ?_
  refine wpAny_bind ?_
  refine wpAny_of_eq FC.made ?_
  refine wpAny_bind ?_
  refine wpAny_pure ?_
  refine wpAny_bind ?_
  refine wpAny_holding ?_
  refine wpAny_call ?_
  refine codeAny_mono (code_set_new_1 v (E := fun e s' => E e s') (Q₁ := fun u s1 => ∃ led, u = .ref s.heap.objs.size ∧ s1 = { heap := s.heap.push { cls := .type "set", data := .set #[] 0 (SetTable.fresh 0 0 led) }, gens := s.gens, drawn := s.drawn, toks := s.toks, os := s.os }) fun led => ⟨led, rfl, rfl⟩) fun r s1 hr => ?_
  match r, hr with
  | .error e, hr => exact hr
  | .ok (.ret u), ⟨led, e1, e2⟩ =>
  subst e1 e2
  refine wpAny_bind ?_
  refine wpAny_isInstance (T := "set") ⟨_, Heap.get?_push_size _ rfl, rfl⟩ FC.sub ?_
  refine wpAny_ite_false rfl ?_
  refine wpAny_bind ?_
  refine wpAny_holding ?_
  refine wpAny_callSpecial?_slot (T := "set") ⟨_, Heap.get?_push_size _ rfl, rfl⟩ FC.init ?_
  refine wpAny_call ?_
  refine codeAny_call_builtin FC.init.plain F.entry_set_init ?_
  refine check_set_init_1 ⟨_, Heap.get?_push_size _ rfl, rfl⟩ ?_
  unfold Builtin.«set.__init__»
  refine wpAny_bind ?_
  refine wpAny_of_eq (a := ()) rfl ?_
  refine wpAny_bind ?_
  unfold typeNameOfCut
  refine wpAny_bind ?_
  unfold shownTypeOf
  refine wpAny_bind ?_
  refine wpAny_typeOf (T := "set") ⟨_, Heap.get?_push_size _ rfl, rfl⟩ ?_
  refine wpAny_ite_false rfl ?_
  refine wpAny_pure ?_
  refine wpAny_of_eq (a := "set") rfl ?_
  refine wpAny_bind ?_
  refine wpAny_of_eq (a := ()) rfl ?_
  refine wpAny_bind ?_
  refine wpAny_of_eq (a := s.heap.objs.size) rfl ?_
  refine wpAny_bind ?_
  unfold setUsed setState
  refine wpAny_bind ?_
  refine wpAny_bind ?_
  refine wpAny_load' (Heap.get?_push_size _ rfl) ?_
  refine wpAny_ite_false rfl ?_
  refine wpAny_pure ?_
  refine wpAny_of_eq (a := false) rfl ?_
  refine wpAny_ite_false rfl ?_
  have hold : ∀ b o, s.heap.get? b = some o → (s.heap.push { cls := .type "set", data := .set #[] 0 (SetTable.fresh 0 0 led) }).get? b = some o := fun b o e => Heap.get?_push_of_some _ e
  refine wpAny_bind ?_
  unfold Builtin.Frozenset.updateFrom
  refine wpAny_bind ?_
  unfold Builtin.Frozenset.isAnySet
  unfold orM
  refine wpAny_bind ?_
  refine wpAny_isInstance (ty _ hold) h1 ?_
  refine wpAny_isInstance (ty _ hold) h2 ?_
  refine wpAny_ite_false rfl ?_
  refine wpAny_bind ?_
  refine wpAny_typeOf (ty _ hold) ?_
  refine wpAny_ite_false (by rw [h3]; rfl) ?_
  refine wpAny_bind ?_
  refine it _ A.in1.in1 _ hold rfl rfl rfl (by simp [Heap.size_push]) fun I s2 fp wr St W hS hwr st0 hk ho2 hg2 hd2 => ?_
  refine wpAny_bind ?_
  refine wpAny_runValue ?_
  have hset0 : Heap.SetOf (mixKind P w) s2.heap s.heap.objs.size (fun k' => (dd (ks.take 0)).any fun x => decide (x = k')) (dd (ks.take 0)).length := by
    letI : BEq Key := instBEqOfDecidableEq
    haveI : LawfulBEq Key := inferInstance
    have f0 := (setObjOf_fresh (knd := mixKind P w) led).setOf (h := s.heap.push { cls := .type "set", data := .set #[] 0 (SetTable.fresh 0 0 led) }) (a := s.heap.objs.size) (Heap.get?_push_size _ rfl) (by decide)
    exact setOf_at f0 fun o ho => hk _ o ho
  refine set_loopK W _ hS ks hn hv hb (n - 0) 0 s2 rfl (Nat.zero_le _) st0 hset0 fun s3 mv hs3 => ?_
  refine wpAny_pure ?_
  refine wpAny_pure ?_
  refine wpAny_ite_false rfl ?_
  refine wpAny_pure ?_
  have e : s3 = ⟨s3.heap, s.gens, s.drawn, s3.toks, s.os⟩ := by
    have h1 := mv.gens
    have h2 := mv.drawn
    have h3 := mv.os
    cases s3
    simp only [] at h1 h2 h3 ⊢
    rw [h1, h2, h3, hg2, hd2, ho2]
  rw [e]
  refine q s3.heap s3.toks hs3 fun b o hb' => ?_
  have hlt : b < s.heap.objs.size := Heap.lt_size hb'
  refine mv.heap b o (fun z => ?_) (hk b o (hold b o hb'))
  rcases List.mem_cons.mp z with z | z
  · exact absurd (z ▸ hlt) (Nat.lt_irrefl _)
  · exact absurd (hwr b z) (Nat.lt_asymm hlt)
end DL

-- DL21
set_option Elab.async false
set_option linter.all false
set_option maxRecDepth 100000
set_option maxHeartbeats 4000000
/-! The data layer: sets of texts. -/
namespace DL
open PySem PySem.Spec PyProof.Rows L2
theorem keyIs_of {k : Key} {u : Value} (h : L2.RelV (kV k) u) : keyIs k u = true := by
  cases k with
  | inl i =>
    obtain ⟨t, rfl⟩ := h
    simp [keyIs, Value.isInt]
  | inr x =>
    obtain ⟨t, rfl⟩ := h
    simp [keyIs, Value.isStrOf]
theorem vals_at {ks : List Key} : ∀ {us : List Value}, Vals (ks.map kV) us → us.length = ks.length ∧ ∀ (i : Nat) (u : Value), us[i]? = some u → ∃ k, ks[i]? = some k ∧ keyIs k u = true ∧ u.scannable = true := by
  induction ks with
  | nil => intro us h; cases h; exact ⟨rfl, fun i u h => by simp at h⟩
  | cons k ks ih =>
    intro us h
    cases h with
    | cons h1 h2 =>
      obtain ⟨hl, ha⟩ := ih h2
      refine ⟨by simp [hl], fun i u h => ?_⟩
      cases i with
      | zero => simp at h; subst h; exact ⟨k, rfl, keyIs_of h1, key_scan h1⟩
      | succ i => simpa using ha i u (by simpa using h)
/-- set(list or tuple of keys) -/
theorem cr_setK {X : Cx} (hh : X.A.handled = none) : CallR X (.type "set") (fun xs H Q => ∃ (l : Addr) (ks : List Key), xs = [V.ref l] ∧ (SqL X.K H l (ks.map kV) ∨ SqT X.K H l (ks.map kV)) ∧ ks.length + 1 < scanBound ∧ ∀ p, H p = none → Q (.ref p) (upd H p (SetK X.prog X.w p (fun k' => (dd ks).any fun x => decide (x = k')) (dd ks).length))) := by
  rintro pins s σ H xs us Q I rv ⟨l, ks, rfl, hq, hb, q⟩
  cases rv with
  | cons r1 r2 =>
  cases r2
  cases r1
  have fin : ∀ (h' : Heap) (tk : Nat), Heap.SetOf (mixKind X.prog X.w) h' s.heap.objs.size (fun k' => (dd ks).any fun x => decide (x = k')) (dd ks).length → (∀ b o, s.heap.get? b = some o → h'.get? b = some o) → EP X pins σ Q (.ref s.heap.objs.size) ⟨h', s.gens, s.drawn, tk, s.os⟩ := fun h' tk hs hold =>
    ⟨.ref s.heap.objs.size, _, I.un (Un.laid hold (Nat.le_refl _) I.fresh) (I.hok.laid hold (Nat.le_refl _) (setK_new hs)), rfl, q _ I.fresh⟩
  rcases hq with hq | hq
  · obtain ⟨its, rv, pl, hz⟩ := I.list hq
    obtain ⟨hl, ha⟩ := vals_at rv
    have hil := pl.isList
    have hll : l < s.heap.objs.size := by obtain ⟨o, ho, _⟩ := hil; exact Heap.lt_size ho
    refine call_set_walk (T := "list") (n := its.toArray.size) (Pv := fun i v => its.toArray[i]? = some v) ks (by simpa using hl) (by simpa [hl] using hb) (fun i u h => ha i u (by simpa using h)) (fun s' hold => by obtain ⟨o, ho, hc, _⟩ := hil; exact ⟨o, hold _ _ ho, hc⟩) F.sub_list_set F.sub_list_frozenset rfl (fun s' B Q' hold e1 e2 e3 hsz k => ?_) fin
    have hil' : s'.heap.IsList l its.toArray := by obtain ⟨o, ho, hc⟩ := hil; exact ⟨o, hold _ _ ho, hc⟩
    refine wpAny_pyIter_list hil' ?_
    have hne : l ≠ s'.heap.objs.size := Nat.ne_of_lt (Nat.lt_trans hll hsz)
    refine k s'.heap.objs.size _ [s'.heap.objs.size, l] [s'.heap.objs.size] _ (Walks.list (by exact hh) s'.heap.objs.size l hne its.toArray).toS ?_ ?_ ⟨⟨_, Heap.get?_push_size _ rfl, rfl, rfl⟩, ?_⟩ (fun b o e => Heap.get?_push_of_some _ e) e1 e2 e3
    · intro z
      rcases List.mem_cons.mp z with z | z
      · exact Nat.ne_of_lt hsz z
      · exact Nat.ne_of_gt hll (List.mem_singleton.mp z)
    · intro b hb'
      rw [List.mem_singleton.mp hb']; exact hsz
    · obtain ⟨o, ho, hc⟩ := hil'; exact ⟨o, Heap.get?_push_of_some _ ho, hc⟩
  · obtain ⟨its, rv, pl, hz⟩ := I.tuple hq
    obtain ⟨hl, ha⟩ := vals_at rv
    have hil : s.heap.IsTuple l its.toArray := pl
    have hll : l < s.heap.objs.size := by obtain ⟨o, ho, _⟩ := hil; exact Heap.lt_size ho
    refine call_set_walk (T := "tuple") (n := its.toArray.size) (Pv := fun i v => its.toArray[i]? = some v) ks (by simpa using hl) (by simpa [hl] using hb) (fun i u h => ha i u (by simpa using h)) (fun s' hold => by obtain ⟨o, ho, hc, _⟩ := hil; exact ⟨o, hold _ _ ho, hc⟩) F.sub_tuple_set F.sub_tuple_frozenset rfl (fun s' B Q' hold e1 e2 e3 hsz k => ?_) fin
    have hil' : s'.heap.IsTuple l its.toArray := by obtain ⟨o, ho, hc⟩ := hil; exact ⟨o, hold _ _ ho, hc⟩
    refine wpAny_pyIter_tuple hil' ?_
    have hne : l ≠ s'.heap.objs.size := Nat.ne_of_lt (Nat.lt_trans hll hsz)
    refine k s'.heap.objs.size _ [s'.heap.objs.size, l] [s'.heap.objs.size] _ (Walks.tuple (by exact hh) s'.heap.objs.size l hne its.toArray).toS ?_ ?_ ⟨⟨_, Heap.get?_push_size _ rfl, rfl, rfl⟩, ?_⟩ (fun b o e => Heap.get?_push_of_some _ e) e1 e2 e3
    · intro z
      rcases List.mem_cons.mp z with z | z
      · exact Nat.ne_of_lt hsz z
      · exact Nat.ne_of_gt hll (List.mem_singleton.mp z)
    · intro b hb'
      rw [List.mem_singleton.mp hb']; exact hsz
    · obtain ⟨o, ho, hc⟩ := hil'; exact ⟨o, Heap.get?_push_of_some _ ho, hc⟩
theorem cr_lenK {X : Cx} : CallR X (.builtin "len") (fun xs H Q => ∃ (a : Addr) (S : Key → Bool) (n : Nat), xs = [V.ref a] ∧ H a = some (SetK X.prog X.w a S n) ∧ Q (.int n) H) := by
  rintro pins s σ H xs us Q I rv ⟨a, S, n, rfl, ha, q⟩
  cases rv with
  | cons r1 r2 =>
  cases r2
  cases r1
  obtain ⟨o, es, ep, t, ho, hex, hd, hel, hmem, hlt, hf, hn⟩ := setK_get I ha
  have h1 : scanBound < 2 ^ 62 := by decide
  have h2 : es.size < 2 ^ 63 := by omega
  refine call_len_set ho hex hd hf (by exact_mod_cast h2) ?_
  exact ⟨.int n, H, I.tok _, ⟨_, by rw [hn]⟩, q⟩
/-! ### len(set(e)) -/
/-- texts as keys -/
def keyS (s : List Nat) : Key := .inr (SS s)
def ddS (l : List (List Nat)) : List (List Nat) := l.foldl (fun acc k => if acc.contains k = true then acc else acc ++ [k]) []
theorem dd_keyS (l : List (List Nat)) : dd (l.map keyS) = (ddS l).map keyS := by
  unfold dd ddS
  have : ∀ (l acc : List (List Nat)), (l.map keyS).foldl ddStep (acc.map keyS) = (l.foldl (fun acc k => if acc.contains k = true then acc else acc ++ [k]) acc).map keyS := by
    intro l
    induction l with
    | nil => intro acc; rfl
    | cons x l ih =>
      intro acc
      rw [List.map_cons, List.foldl_cons, List.foldl_cons, ← ih]
      congr 1
      unfold ddStep
      have e : ((acc.map keyS).any fun y => decide (y = keyS x)) = acc.contains x := by
        rw [List.any_map]
        induction acc with
        | nil => rfl
        | cons a acc iha =>
          rw [List.any_cons, List.contains_cons, iha]
          congr 1
          simp only [Function.comp]
          by_cases h : a = x
          · subst h; simp
          · have h2 : keyS a ≠ keyS x := fun z => h (SS_inj (Sum.inr.inj z))
            rw [decide_eq_false h2]
            simp [Ne.symm h]
      rw [e]
      split
      · rfl
      · simp
  simpa using this l []
noncomputable def lenSetD (d : D) : Option D := ((seqOf d).bind strsOf).bind fun ys => if ys.length + 1 < scanBound then some (.int (ddS ys).length) else none
section
variable {X : Cx} {T : Tb} {W : WX} {env : List Sl} {a e : Expr} {ma : R D} {pos p p2 q : Pos}
theorem de_lenset {k : Nat} (hr : Room k X.A) (ha : DE .B X T W env a ma) (hm : X.mg "len" = none) (hm2 : X.mg "set" = none) (hg : Gl X "len" := by exact gl_of (by kernel_rfl)) (hg2 : Gl X "set" := by exact gl_of (by kernel_rfl))
    (he : starEach [.Call (.Name "set" p2) [a] [] q] X.env = (false, eval (.Call (.Name "set" p2) [a] [] q) X.env) :: starEach [] X.env := by kernel_rfl) (hpl : (backTo pos (starEach [] X.env)).any (·.1) = false := by kernel_rfl) (he2 : starEach [a] X.env = (false, eval a X.env) :: starEach [] X.env := by kernel_rfl) (hpl2 : (backTo q (starEach [] X.env)).any (·.1) = false := by kernel_rfl) :
    DE .S X T W env (.Call (.Name "len" p) [.Call (.Name "set" p2) [a] [] q] [] pos) (ma.bind fun d => R.lift (lenSetD d)) := fun F σ H Q I q0 => by
  refine (pe_callB (pos := pos) (p := p) cr_lenK hg hm (by decide +kernel) (pa_cons (pe_callTy (pos := q) (p := p2) (cr_setK hr.hd) hg2 hm2 (by decide +kernel) (pa_cons pe_wp pa_nil he2) (by decide +kernel) (by rfl) he2 hpl2) pa_nil he) (by decide +kernel) (by rfl) he hpl).wp ?_
  refine runEE ha I q0 fun d F1 v H1 s1 r q1 => ?_
  have fin : ∀ (l : Addr) (vs : List V) (xs : List D), v = .ref l → (SqL X.K H1 l vs ∨ SqT X.K H1 l vs) → Reps X.K F1 H1 vs xs → PostE X T W F1 σ H1 .S (R.lift ((strsOf xs).bind fun ys => if ys.length + 1 < scanBound then some (.int (ddS ys).length) else none)) Q → ∃ (l : Addr) (ks : List Key), [v] = [V.ref l] ∧ (SqL X.K H1 l (ks.map kV) ∨ SqT X.K H1 l (ks.map kV)) ∧ ks.length + 1 < scanBound ∧ ∀ p, H1 p = none → ∃ (a : Addr) (S : Key → Bool) (n : Nat), [V.ref p] = [V.ref a] ∧ (upd H1 p (SetK X.prog X.w p (fun k' => (dd ks).any fun x => decide (x = k')) (dd ks).length)) a = some (SetK X.prog X.w a S n) ∧ Q (.int n) (upd H1 p (SetK X.prog X.w p (fun k' => (dd ks).any fun x => decide (x = k')) (dd ks).length)) := fun l vs xs ev hq rr q2 => by
    cases es : strsOf xs with
    | none => rw [es] at q2; exact q2.elim
    | some ys =>
      rw [es] at q2
      have ex : xs = ys.map D.str := strsOf_eq es
      subst ex
      have evs : vs = (ys.map keyS).map kV := by rw [rr.strs]; simp [keyS, kV]
      by_cases hl : ys.length + 1 < scanBound
      · simp only [Option.bind_some, if_pos hl] at q2
        refine ⟨l, ys.map keyS, by rw [ev], by rw [← evs]; exact hq, by simpa using hl, fun p hp => ⟨p, _, _, rfl, upd_same, ?_⟩⟩
        rw [dd_keyS, List.length_map]
        exact q2 F1 (.int _) _ (Stp.new1 hp) (.int _)
      · simp only [Option.bind_some, if_neg hl] at q2
        exact q2.elim
  have top : Top X.K F1 H1 v d := RepM.toB r
  cases d <;> try exact q1.elim
  · obtain ⟨l, vs, e1, h1, r1⟩ := top_tup top
    exact fin l vs _ e1 (.inr h1) r1 q1
  · obtain ⟨l, vs, e1, h1, r1⟩ := top_lst top
    exact fin l vs _ e1 (.inl (.inl h1)) r1 q1
end
end DL

-- DL22
set_option Elab.async false
set_option linter.all false
set_option maxRecDepth 100000
set_option maxHeartbeats 4000000
/-! The data layer: {'a': 'b', 'c': 'd'}[e]. -/
namespace DL
open PySem PySem.Spec PyProof.Rows L2
def look2 (k1 v1 k2 v2 : List Nat) (d : D) : Option D := match d with
  | .str s => if s = k1 then some (.str v1) else if s = k2 then some (.str v2) else none
  | _ => none
section
variable {X : Cx} {T : Tb} {W : WX} {env : List Sl} {e : Expr} {me : R D} {pos dp p1 p2 p3 p4 : Pos}
theorem de_dlit2 {x1 y1 x2 y2 : Str} {k1 v1 k2 v2 : List Nat} {j1 j2 j3 j4 : Nat} (hu : X.A.units + 1 < cLine) (he : DE .S X T W env e me) (e1 : x1 = SS k1 := by kernel_rfl) (e2 : y1 = SS v1 := by kernel_rfl) (e3 : x2 = SS k2 := by kernel_rfl) (e4 : y2 = SS v2 := by kernel_rfl) (o2 : okcB v1 = true := by kernel_rfl) (o4 : okcB v2 = true := by kernel_rfl) (hne : k1 ≠ k2 := by decide) (hs : NoSl e := by intro _ _; kernel_rfl) :
    DE .S X T W env (.Subscript (.Dict [some (.Constant (.str x1) j1 p1), some (.Constant (.str x2) j2 p2)] [.Constant (.str y1) j3 p3, .Constant (.str y2) j4 p4] dp) e pos) (me.bind fun x => R.lift (look2 k1 v1 k2 v2 x)) := fun F σ H Q I q => by
  subst e1 e2 e3 e4
  refine (pe_dget (pos := pos) hu (pe_disp (pos := dp) (pps_cons pe_str pe_str (pps_cons pe_str pe_str pps_nil)) rfl rfl (by simp) (show 2 ≤ 15 by decide)) pe_wp hs).wp ?_
  intro p hp
  have st := Stp.new1 (T := T) (F := F) (o := .dK [(.inr (SS k1), .str (SS v1)), (.inr (SS k2), .str (SS v2))]) hp
  refine ⟨upd_same, [(.inr (SS k1), .str (SS v1)), (.inr (SS k2), .str (SS v2))], rfl, (show 2 ≤ 15 by decide), ?_⟩
  have em : mergeK [] [((.inr (SS k1) : Key), V.str (SS v1)), (.inr (SS k2), .str (SS v2))] = [(.inr (SS k1), .str (SS v1)), (.inr (SS k2), .str (SS v2))] := by
    have : (Sum.inr (SS k1) : Key) ≠ .inr (SS k2) := fun z => hne (SS_inj (Sum.inr.inj z))
    simp [mergeK, putK, this]
  rw [em]
  have eu : upd (upd H p (HO.dK [])) p (HO.dK [(Sum.inr (SS k1), V.str (SS v1)), (Sum.inr (SS k2), V.str (SS v2))]) = upd H p (HO.dK [(Sum.inr (SS k1), V.str (SS v1)), (Sum.inr (SS k2), V.str (SS v2))]) := by
    funext b
    by_cases hb : b = p
    · subst hb; rw [upd_same, upd_same]
    · rw [upd_ne hb, upd_ne hb, upd_ne hb]
  rw [eu]
  have nt : NoTbl (HO.dK [(Sum.inr (SS k1), V.str (SS v1)), (Sum.inr (SS k2), V.str (SS v2))]) := by
    refine ⟨fun _ z => (by cases z), fun ⟨kvs, z, h⟩ => ?_⟩
    cases z
    have := congrArg List.length h
    simp [tapeKs] at this
  refine runEE he (I.stp st) (PostE.stp st q) fun d F1 v H1 s1 r q1 => ?_
  cases d <;> try exact q1.elim
  rename_i s
  have q2 : PostE X T W F1 σ H1 .S (R.lift (if s = k1 then some (.str v1) else if s = k2 then some (.str v2) else none)) Q := q1
  cases (show Rep X.K F1 H1 v (.str s) from r)
  have okc : ∀ {l : List Nat}, okcB l = true → Okc l := fun {l} h c hc => by
    unfold okcB at h
    rw [List.all_eq_true] at h
    simpa using h c hc
  by_cases h1 : s = k1
  · rw [if_pos h1] at q2
    subst h1
    exact ⟨p, .str (SS v1), rfl, .inl ⟨_, .inr (SS s), .inl (s1.keep p _ upd_same nt), rfl, by simp [valV]⟩, q2 F1 _ H1 .refl (.str _ (okc o2))⟩
  · rw [if_neg h1] at q2
    by_cases h2 : s = k2
    · rw [if_pos h2] at q2
      subst h2
      have hk : (Sum.inr (SS k1) : Key) ≠ .inr (SS s) := fun z => hne (SS_inj (Sum.inr.inj z))
      exact ⟨p, .str (SS v2), rfl, .inl ⟨_, .inr (SS s), .inl (s1.keep p _ upd_same nt), rfl, by simp [valV, hk]⟩, q2 F1 _ H1 .refl (.str _ (okc o4))⟩
    · rw [if_neg h2] at q2
      exact q2.elim
end
end DL

-- K23M
set_option Elab.async false
set_option linter.all false
set_option maxRecDepth 100000
set_option maxHeartbeats 0
namespace K23
open DL PySem PySem.Spec L2

def G_MOST_BITS : D := .int 100000

def G_MOST_SIZE : D := .int 12

/-- which class takes which -/
def subT : SubT := fun c h =>
  if c = ("InvalidBits" : Str) ∧ h = ("InvalidBits" : Str) then some true else
  if c = ("InvalidBits" : Str) ∧ h = ("InvalidCode" : Str) then some false else
  if c = ("InvalidCode" : Str) ∧ h = ("InvalidBits" : Str) then some false else
  if c = ("InvalidCode" : Str) ∧ h = ("InvalidCode" : Str) then some true else
  if c = ("InvalidNumber" : Str) ∧ h = ("InvalidBits" : Str) then some false else
  if c = ("InvalidNumber" : Str) ∧ h = ("InvalidCode" : Str) then some false else none

def ans__law_code (m : R D) : R D := tryC subT m [("InvalidBits", .str [98, 105, 116, 115]), ("InvalidCode", .str [99, 111, 100, 101])] (fun _ => .str [])

noncomputable def B__law_tape (a0 : D) : O Unit Unit :=
  O.ofR (((R.ok (a0)).bind fun x16 => R.lift (iterD x16)).bind fun ds => (compM ds (fun d17 => itM (R.ok true) (((R.ok (d17)).bind fun x18 => R.lift (intD x18)).bind fun x19 => R.lift (absD x19)))).bind fun ys => .ok (.lst ys)) fun v1 => O.ofR (R.ok (.int 7)) fun v2 => (O.ofR ((R.ok (v1)).bind fun x5 => R.lift (iterD x5)) fun ds => (forO ds (v2) fun d6 (s4 : D) => O.ofR (((((R.ok (s4)).bind fun x8 => (R.ok (.int 31)).bind fun x9 => R.lift (mulM x8 x9)).bind fun x10 => (R.ok (d6)).bind fun x11 => R.lift (addD x10 x11)).bind fun x12 => R.lift (intD x12)).bind fun x13 => (R.ok (.int 2147483647)).bind fun x14 => R.lift (modD x13 x14)) fun v7 => .nx (v7) : O (D) _)).seq fun s15 => O.ofR (tapeLit (v1) (s15)) fun d => .rt d []

noncomputable def M__law_tape (ds : List D) : R D := match ds with
  | [a0] => (B__law_tape a0).toR
  | _ => .st

noncomputable def B__law_take (a1 : D) : N (O Unit Unit) :=
  N.ofR (N.bind (anyI) fun x1 => N.bind (N.l (R.ok (.int 0))) fun x2 => N.l (R.lift (gtD x1 x2))) fun k => if k = true then N.seq (N.ofR (N.bind (N.bind (anyI) fun x6 => N.l (R.lift (intD x6))) fun x7 => N.bind (N.l (R.ok (a1))) fun x8 => N.l (R.lift (modD x7 x8))) fun v3 => N.ofR (N.bind (anyI) fun x4 => N.bind (N.l (R.ok (a1))) fun x5 => N.l (R.lift (fdivD x4 x5))) fun d => N.ofR (N.l (isInt d)) fun _ => N.ofR (N.l (R.ok (v3))) fun d => N.l (.rt d [])) fE else N.ofR (N.bind (anyI) fun x9 => N.bind (N.l (R.ok (.int 1))) fun x10 => N.l (R.lift (addD x9 x10))) fun d => N.ofR (N.l (isInt d)) fun _ => N.ofR (N.bind (N.bind (N.bind (N.bind (anyI) fun x27 => N.bind (N.l (R.ok (.int 48271))) fun x28 => N.l (R.lift (mulM x27 x28))) fun x31 => N.bind (N.bind (anyI) fun x29 => N.bind (N.l (R.ok (.int 69621))) fun x30 => N.l (R.lift (mulM x29 x30))) fun x32 => N.l (R.lift (addD x31 x32))) fun x33 => N.l (R.lift (intD x33))) fun x34 => N.bind (N.l (R.ok (.int 2147483647))) fun x35 => N.l (R.lift (modD x34 x35))) fun v11 => N.ofR (N.bind (N.bind (N.bind (N.bind (N.l ((R.ok (v11)).bind fun x16 => (R.ok (v11)).bind fun x17 => R.lift (mulM x16 x17))) fun x20 => N.bind (N.bind (anyI) fun x18 => N.bind (N.l (R.ok (.int 40692))) fun x19 => N.l (R.lift (mulM x18 x19))) fun x21 => N.l (R.lift (addD x20 x21))) fun x22 => N.bind (N.l (R.ok (.int 12345))) fun x23 => N.l (R.lift (addD x22 x23))) fun x24 => N.l (R.lift (intD x24))) fun x25 => N.bind (N.l (R.ok (.int 2147483399))) fun x26 => N.l (R.lift (modD x25 x26))) fun v12 => N.ofR (N.l (((R.ok (v12)).bind fun x13 => R.lift (intD x13)).bind fun x14 => (R.ok (a1)).bind fun x15 => R.lift (modD x14 x15))) fun d => N.l (.rt d [])

noncomputable def M__law_take (ds : List D) : N (R D) := match ds with
  | [.tape, a1] => fun P => B__law_take a1 fun o => P o.toR
  | _ => N.l .st

noncomputable def B__law_bits (a0 a1 : D) : N (O Unit Unit) :=
  N.ofR (N.bind (N.l (R.ok (.str []))) fun x14 => N.bind (N.l (strR x14 .ok)) fun x15 => N.bind (N.bind (N.bind (N.bind (N.l ((R.ok (a0)).bind fun x5 => (((R.ok (a1)).bind fun x1 => (R.ok (.int 1)).bind fun x2 => R.lift (addD x1 x2)).bind fun x3 => (R.ok []).bind fun xs4 => .ok (x3 :: xs4)).bind fun xs6 => .ok (x5 :: xs6))) M__law_take) fun x7 => N.l (R.lift (rng1 x7))) fun ds => N.bind (compN ds (fun d8 => itN (N.l (R.ok true)) (N.bind (N.bind (N.l ((R.ok (a0)).bind fun x11 => ((R.ok (.int 2)).bind fun x9 => (R.ok []).bind fun xs10 => .ok (x9 :: xs10)).bind fun xs12 => .ok (x11 :: xs12))) M__law_take) fun x13 => N.l (R.lift (strD x13))))) fun ys => N.l (.ok (.lst ys))) fun x16 => N.l (R.lift (joinD x15 x16))) fun d => N.l (.rt d [])

noncomputable def M__law_bits (ds : List D) : N (R D) := match ds with
  | [a0, a1] => fun P => B__law_bits a0 a1 fun o => P o.toR
  | _ => N.l .st

noncomputable def B_is_bits (a0 : D) : O Unit Unit :=
  O.ofR ((((R.ok (a0)).bind fun x1 => R.lift (iterD x1)).bind fun ds => (compM ds (fun d2 => itM (R.ok true) ((R.ok (d2)).bind fun x3 => (R.ok (.str [48, 49])).bind fun x4 => R.lift ((inD x3 x4).map D.bl)))).bind fun ys => .ok (.lst ys)).bind fun x5 => R.lift (allD x5)) fun d => .rt d []

noncomputable def M_is_bits (ds : List D) : R D := match ds with
  | [a0] => (B_is_bits a0).toR
  | _ => .st

noncomputable def B_check_bits (a0 : D) : O Unit Unit :=
  O.ofR ((((R.ok (a0)).bind fun x1 => R.lift (lenD x1)).bind fun x2 => (R.ok G_MOST_BITS).bind fun x3 => R.lift (gtD x2 x3)).bind fun k => if k = true then .ok true else ((((R.ok (a0)).bind fun x4 => (R.ok []).bind fun xs5 => .ok (x4 :: xs5)).bind M_is_bits).bind fun x6 => R.lift (truD x6)).bind fun k => .ok (!k)) fun k => if k = true then (.xc "InvalidBits" : O Empty _).seq fE else .nx ()

noncomputable def M_check_bits (ds : List D) : R D := match ds with
  | [a0] => (B_check_bits a0).toR
  | _ => .st

noncomputable def B_check_divisor (a0 : D) : O Unit Unit :=
  O.ofR (((R.ok (a0)).bind fun x1 => (R.ok []).bind fun xs2 => .ok (x1 :: xs2)).bind M_check_bits) fun _ => O.ofR ((((R.ok (.int 2)).bind fun x4 => ((R.ok (a0)).bind fun x3 => R.lift (lenD x3)).bind fun x5 => (R.lift (leD x4 x5)).bind fun k => if k = true then (R.ok (.int 17)).bind fun x6 => R.lift (leD x5 x6) else .ok false).bind fun k => .ok (!k)).bind fun k => if k = true then .ok true else (((R.ok (a0)).bind fun x7 => (R.ok (.int 0)).bind fun x8 => R.lift (idxD x7 x8)).bind fun x9 => (R.ok (.str [49])).bind fun x10 => R.lift (neD x9 x10)).bind fun k => if k = true then .ok true else ((R.ok (a0)).bind fun x11 => ((R.ok (.int 1)).bind fun x12 => R.lift (negD x12)).bind fun x13 => R.lift (idxD x11 x13)).bind fun x14 => (R.ok (.str [49])).bind fun x15 => R.lift (neD x14 x15)) fun k => if k = true then (.xc "InvalidBits" : O Empty _).seq fE else .nx ()

noncomputable def M_check_divisor (ds : List D) : R D := match ds with
  | [a0] => (B_check_divisor a0).toR
  | _ => .st

noncomputable def B_number_of (a0 : D) : O Unit Unit :=
  O.ofR (((R.ok (a0)).bind fun x1 => (R.ok []).bind fun xs2 => .ok (x1 :: xs2)).bind M_check_bits) fun _ => O.ofR (R.ok (.int 0)) fun v3 => (O.ofR ((R.ok (a0)).bind fun x6 => R.lift (iterD x6)) fun ds => (forO ds (v3) fun d7 (s5 : D) => O.ofR (((R.ok (.int 2)).bind fun x9 => (R.ok (s5)).bind fun x10 => R.lift (mulM x9 x10)).bind fun x12 => ((R.ok (d7)).bind fun x11 => R.lift (intD x11)).bind fun x13 => R.lift (addD x12 x13)) fun v8 => .nx (v8) : O (D) _)).seq fun s14 => O.ofR (R.ok (s14)) fun d => .rt d []

noncomputable def M_number_of (ds : List D) : R D := match ds with
  | [a0] => (B_number_of a0).toR
  | _ => .st

noncomputable def B_first_turn_of (a0 : D) : O Unit Unit :=
  O.ofR (((R.ok (a0)).bind fun x1 => (R.ok []).bind fun xs2 => .ok (x1 :: xs2)).bind M_check_divisor) fun _ => O.ofR (((R.ok (a0)).bind fun x36 => R.lift (lenD x36)).bind fun x37 => (R.ok (.int 1)).bind fun x38 => R.lift (subD x37 x38)) fun v3 => O.ofR (((R.ok (.int 1)).bind fun x4 => (R.ok (v3)).bind fun x5 => R.lift (shlD x4 x5)).bind fun x10 => ((((R.ok (a0)).bind fun x6 => (R.ok []).bind fun xs7 => .ok (x6 :: xs7)).bind M_number_of).bind fun x8 => (R.ok []).bind fun xs9 => .ok (x8 :: xs9)).bind fun xs11 => .ok (x10 :: xs11)) fun ds35 => lst2 .st ds35 fun v12 v13 => O.ofR (R.ok (.int 1)) fun v14 => O.ofR (R.ok (.int 0)) fun v15 => (whileO (szDs [a0, v3, v12, v13, v14, v15] + 1000) ((v15), (v14)) (fun (s17 : D × D) => (R.ok (.bl true)).bind fun x18 => R.lift (truD x18)) fun s17 => O.ofR ((R.ok (.int 2)).bind fun x32 => (R.ok (s17.2)).bind fun x33 => R.lift (mulM x32 x33)) fun v19 => O.ofR ((R.ok (.int 1)).bind fun x21 => R.lift (iaddD (s17.1) x21)) fun v20 => (O.ofR (((R.ok (v19)).bind fun x22 => (R.ok (v12)).bind fun x23 => R.lift (andD x22 x23)).bind fun x24 => R.lift (truD x24)) fun k => if k = true then O.ofR ((R.ok (v19)).bind fun x26 => (R.ok (v13)).bind fun x27 => R.lift (xorD x26 x27)) fun v25 => .nx (v25) else (.nx (v19) : O (D) _)).seq fun s28 => O.ofR ((R.ok (s28)).bind fun x29 => (R.ok (.int 1)).bind fun x30 => R.lift (eqD x29 x30)) fun k => if k = true then (O.ofR (R.ok (v20)) fun d => .rt d [] : O Empty _).seq fE else .nx ((v20), (s28)) : O (D × D) _).seq fun s34 => .nx ()

noncomputable def M_first_turn_of (ds : List D) : R D := match ds with
  | [a0] => (B_first_turn_of a0).toR
  | _ => .st

noncomputable def B__law_turn (a0 a1 : D) : O Unit Unit :=
  O.ofR ((((R.ok (a0)).bind fun x1 => (R.ok none).bind fun l2 => ((R.ok (a1)).bind intP).bind fun h3 => R.lift (slcD x1 l2 h3)).bind fun x7 => (((R.ok (a0)).bind fun x4 => (R.ok (a1)).bind fun x5 => R.lift (idxD x4 x5)).bind fun x6 => R.lift (look2 [48] [49] [49] [48] x6)).bind fun x8 => R.lift (addD x7 x8)).bind fun x14 => ((R.ok (a0)).bind fun x9 => (((R.ok (a1)).bind fun x10 => (R.ok (.int 1)).bind fun x11 => R.lift (addD x10 x11)).bind intP).bind fun l12 => (R.ok none).bind fun h13 => R.lift (slcD x9 l12 h13)).bind fun x15 => R.lift (addD x14 x15)) fun d => .rt d []

noncomputable def M__law_turn (ds : List D) : R D := match ds with
  | [a0, a1] => (B__law_turn a0 a1).toR
  | _ => .st

noncomputable def B__law_far (a0 a1 : D) : O Unit Unit :=
  O.ofR (((((R.ok (a0)).bind fun x1 => R.lift (lenD x1)).bind fun x2 => R.lift (rng1 x2)).bind fun ds => (compM ds (fun d3 => itM (((R.ok (a0)).bind fun x4 => (R.ok (d3)).bind fun x5 => R.lift (idxD x4 x5)).bind fun x8 => ((R.ok (a1)).bind fun x6 => (R.ok (d3)).bind fun x7 => R.lift (idxD x6 x7)).bind fun x9 => R.lift (neD x8 x9)) (R.ok (d3)))).bind fun ys => .ok (.lst ys)).bind fun x10 => R.lift (lenD x10)) fun d => .rt d []

noncomputable def M__law_far (ds : List D) : R D := match ds with
  | [a0, a1] => (B__law_far a0 a1).toR
  | _ => .st

noncomputable def B__law_distances (a0 : D) : O Unit Unit :=
  O.ofR ((R.ok []).bind fun xs21 => .ok (.lst xs21)) fun v1 => (O.ofR (((R.ok (a0)).bind fun x4 => R.lift (lenD x4)).bind fun x5 => R.lift (rng1 x5)) fun ds => (forO ds (v1) fun d6 (s3 : D) => O.ofR ((R.ok (s3)).bind fun x18 => (((R.ok (d6)).bind fun x8 => R.lift (rng1 x8)).bind fun ds => (compM ds (fun d9 => itM (R.ok true) ((((R.ok (a0)).bind fun x10 => (R.ok (d6)).bind fun x11 => R.lift (idxD x10 x11)).bind fun x16 => (((R.ok (a0)).bind fun x12 => (R.ok (d9)).bind fun x13 => R.lift (idxD x12 x13)).bind fun x14 => (R.ok []).bind fun xs15 => .ok (x14 :: xs15)).bind fun xs17 => .ok (x16 :: xs17)).bind M__law_far))).bind fun ys => .ok (.lst ys)).bind fun x19 => R.lift (addD x18 x19)) fun v7 => .nx (v7) : O (D) _)).seq fun s20 => O.ofR (R.ok (s20)) fun d => .rt d []

noncomputable def M__law_distances (ds : List D) : R D := match ds with
  | [a0] => (B__law_distances a0).toR
  | _ => .st

noncomputable def B__law_rest (a0 a1 : D) : O Unit Unit :=
  O.ofR (((R.ok (a1)).bind fun x53 => R.lift (lenD x53)).bind fun x54 => (R.ok (.int 1)).bind fun x55 => R.lift (subD x54 x55)) fun v1 => O.ofR ((((R.ok (a0)).bind fun x48 => ((R.ok (.str [48])).bind fun x46 => (R.ok (v1)).bind fun x47 => R.lift (mulM x46 x47)).bind fun x49 => R.lift (addD x48 x49)).bind fun x50 => R.lift (iterD x50)).bind fun ds => (compM ds (fun d51 => itM (R.ok true) ((R.ok (d51)).bind fun x52 => R.lift (intD x52)))).bind fun ys => .ok (.lst ys)) fun d45 => lstK .st d45 fun v2 => (O.ofR (((R.ok (a0)).bind fun x5 => R.lift (lenD x5)).bind fun x6 => R.lift (rng1 x6)) fun ds => (forO ds (v2) fun d7 (s4 : List D) => (O.ofR (((R.ok (.lst (s4))).bind fun x8 => (R.ok (d7)).bind fun x9 => R.lift (idxD x8 x9)).bind fun x10 => (R.ok (.int 1)).bind fun x11 => R.lift (eqD x10 x11)) fun k => if k = true then (O.ofR (((R.ok (a1)).bind fun x14 => R.lift (lenD x14)).bind fun x15 => R.lift (rng1 x15)) fun ds => (forO ds (s4) fun d16 (s13 : List D) => O.ofR ((((R.ok (.lst (s13))).bind fun x17 => ((R.ok (d7)).bind fun x18 => (R.ok (d16)).bind fun x19 => R.lift (addD x18 x19)).bind fun x20 => R.lift (idxD x17 x20)).bind fun x24 => (((R.ok (a1)).bind fun x21 => (R.ok (d16)).bind fun x22 => R.lift (idxD x21 x22)).bind fun x23 => R.lift (intD x23)).bind fun x25 => R.lift (xorD x24 x25)).bind fun x29 => ((R.ok (d7)).bind fun x26 => (R.ok (d16)).bind fun x27 => R.lift (addD x26 x27)).bind fun x30 => R.lift (setL (s13) x30 x29)) fun v28 => .nx (v28) : O (List D) _)).seq fun s31 => .nx (s31) else (.nx (s4) : O (List D) _)).seq fun s32 => .nx (s32) : O (List D) _)).seq fun s34 => O.ofR ((R.ok (.str [])).bind fun x42 => strR x42 fun x43 => ((((R.ok (.lst (s34))).bind fun x35 => (((R.ok (a0)).bind fun x36 => R.lift (lenD x36)).bind intP).bind fun l37 => (R.ok none).bind fun h38 => R.lift (slcD x35 l37 h38)).bind fun x39 => R.lift (iterD x39)).bind fun ds => (compM ds (fun d40 => itM (R.ok true) ((R.ok (d40)).bind fun x41 => R.lift (strD x41)))).bind fun ys => .ok (.lst ys)).bind fun x44 => R.lift (joinD x43 x44)) fun d => .rt d []

noncomputable def M__law_rest (ds : List D) : R D := match ds with
  | [a0, a1] => (B__law_rest a0 a1).toR
  | _ => .st

noncomputable def B_check_words (a0 : D) : O Unit Unit :=
  O.ofR ((((R.ok (.int 1)).bind fun x2 => ((R.ok (a0)).bind fun x1 => R.lift (lenD x1)).bind fun x3 => (R.lift (leD x2 x3)).bind fun k => if k = true then (R.ok (.int 64)).bind fun x4 => R.lift (leD x3 x4) else .ok false).bind fun k => .ok (!k)).bind fun k => if k = true then .ok true else (((((R.ok (a0)).bind fun x5 => R.lift (iterD x5)).bind fun ds => (compM ds (fun d6 => itM (R.ok true) ((((R.ok (d6)).bind fun x7 => R.lift (lenD x7)).bind fun x11 => (((R.ok (a0)).bind fun x8 => (R.ok (.int 0)).bind fun x9 => R.lift (idxD x8 x9)).bind fun x10 => R.lift (lenD x10)).bind fun x12 => R.lift ((eqD x11 x12).map D.bl)).bind fun x16 => (R.lift (truD x16)).bind fun k => if k = true then ((R.ok (d6)).bind fun x13 => R.lift (lenD x13)).bind fun x14 => (R.ok G_MOST_SIZE).bind fun x15 => R.lift ((leD x14 x15).map D.bl) else .ok x16))).bind fun ys => .ok (.lst ys)).bind fun x17 => R.lift (allD x17)).bind fun x18 => R.lift (truD x18)).bind fun k => .ok (!k)) fun k => if k = true then (.xc "InvalidCode" : O Empty _).seq fE else (O.ofR ((R.ok (a0)).bind fun x21 => R.lift (iterD x21)) fun ds => (forO ds () fun d22 (s20 : Unit) => O.ofR (((R.ok (d22)).bind fun x23 => (R.ok []).bind fun xs24 => .ok (x23 :: xs24)).bind M_check_bits) fun _ => .nx () : O (Unit) _)).seq fun s25 => O.ofR (((R.ok (a0)).bind fun x26 => R.lift (lenSetD x26)).bind fun x28 => ((R.ok (a0)).bind fun x27 => R.lift (lenD x27)).bind fun x29 => R.lift (neD x28 x29)) fun k => if k = true then (.xc "InvalidCode" : O Empty _).seq fE else .nx ()

noncomputable def M_check_words (ds : List D) : R D := match ds with
  | [a0] => (B_check_words a0).toR
  | _ => .st

noncomputable def B_distance (a0 a1 : D) : O Unit Unit :=
  O.ofR (((R.ok (a0)).bind fun x1 => R.lift (lenD x1)).bind fun x3 => ((R.ok (a1)).bind fun x2 => R.lift (lenD x2)).bind fun x4 => R.lift (neD x3 x4)) fun k => if k = true then (.xc "InvalidBits" : O Empty _).seq fE else O.ofR ((((R.ok (a0)).bind fun x5 => (R.ok (a1)).bind fun x6 => R.lift (zipD x5 x6)).bind fun ds => (compM ds (fun d7 => tup2 .st d7 fun p8 p9 => itM ((R.ok (p8)).bind fun x10 => (R.ok (p9)).bind fun x11 => R.lift (neD x10 x11)) (R.ok (.int 1)))).bind fun ys => .ok (.lst ys)).bind fun x12 => R.lift (lenD x12)) fun d => .rt d []

noncomputable def M_distance (ds : List D) : R D := match ds with
  | [a0, a1] => (B_distance a0 a1).toR
  | _ => .st

noncomputable def B_nearest (a0 a1 : D) : O Unit Unit :=
  O.ofR (((R.ok (a0)).bind fun x1 => (R.ok []).bind fun xs2 => .ok (x1 :: xs2)).bind M_check_words) fun _ => O.ofR (((R.ok (a0)).bind fun x13 => R.lift (iterD x13)).bind fun ds => (compM ds (fun d14 => itM (R.ok true) (((R.ok (d14)).bind fun x17 => ((R.ok (a1)).bind fun x15 => (R.ok []).bind fun xs16 => .ok (x15 :: xs16)).bind fun xs18 => .ok (x17 :: xs18)).bind M_distance))).bind fun ys => .ok (.lst ys)) fun v3 => O.ofR ((((R.ok (a0)).bind fun x4 => (R.ok (v3)).bind fun x5 => R.lift (zipD x4 x5)).bind fun ds => (compM ds (fun d6 => tup2 .st d6 fun p7 p8 => itM ((R.ok (p8)).bind fun x10 => ((R.ok (v3)).bind fun x9 => R.lift (minD x9)).bind fun x11 => R.lift (eqD x10 x11)) (R.ok (p7)))).bind fun ys => .ok (.lst ys)).bind fun x12 => R.lift (tupD x12)) fun d => .rt d []

noncomputable def M_nearest (ds : List D) : R D := match ds with
  | [a0, a1] => (B_nearest a0 a1).toR
  | _ => .st

noncomputable def B_surely (a0 a1 : D) : O Unit Unit :=
  O.ofR (((R.ok (a0)).bind fun x1 => (R.ok []).bind fun xs2 => .ok (x1 :: xs2)).bind M_check_words) fun _ => O.ofR ((((R.ok (a1)).bind fun x3 => R.lift (lenD x3)).bind fun x7 => (((R.ok (a0)).bind fun x4 => (R.ok (.int 0)).bind fun x5 => R.lift (idxD x4 x5)).bind fun x6 => R.lift (lenD x6)).bind fun x8 => R.lift (neD x7 x8)).bind fun k => if k = true then .ok true else (((((R.ok (a1)).bind fun x9 => R.lift (iterD x9)).bind fun ds => (compM ds (fun d10 => itM (R.ok true) ((R.ok (d10)).bind fun x11 => (R.ok (.str [48, 49, 63])).bind fun x12 => R.lift ((inD x11 x12).map D.bl)))).bind fun ys => .ok (.lst ys)).bind fun x13 => R.lift (allD x13)).bind fun x14 => R.lift (truD x14)).bind fun k => .ok (!k)) fun k => if k = true then (.xc "InvalidBits" : O Empty _).seq fE else O.ofR (((R.ok (a0)).bind fun x21 => R.lift (iterD x21)).bind fun ds => (compM ds (fun d22 => itM (((((R.ok (a1)).bind fun x23 => (R.ok (d22)).bind fun x24 => R.lift (zipD x23 x24)).bind fun ds => (compM ds (fun d25 => tup2 .st d25 fun p26 p27 => itM (R.ok true) ((R.ok (p26)).bind fun x33 => (((R.ok (p27)).bind fun x30 => ((R.ok (.str [63])).bind fun x28 => (R.ok []).bind fun xs29 => .ok (x28 :: xs29)).bind fun xs31 => .ok (x30 :: xs31)).bind fun xs32 => .ok (.tup xs32)).bind fun x34 => R.lift ((inD x33 x34).map D.bl)))).bind fun ys => .ok (.lst ys)).bind fun x35 => R.lift (allD x35)).bind fun x36 => R.lift (truD x36)) (R.ok (d22)))).bind fun ys => .ok (.lst ys)) fun v15 => O.ofR ((((R.ok (v15)).bind fun x16 => R.lift (lenD x16)).bind fun x17 => (R.ok (.int 1)).bind fun x18 => R.lift (eqD x17 x18)).bind fun k => if k = true then (R.ok (v15)).bind fun x19 => (R.ok (.int 0)).bind fun x20 => R.lift (idxD x19 x20) else R.ok .non) fun d => .rt d []

noncomputable def M_surely (ds : List D) : R D := match ds with
  | [a0, a1] => (B_surely a0 a1).toR
  | _ => .st

noncomputable def B_bits_of (a0 a1 : D) : O Unit Unit :=
  O.ofR (((R.ok (a0)).bind fun x1 => (R.ok (.int 0)).bind fun x2 => R.lift (ltD x1 x2)).bind fun k => if k = true then .ok true else ((R.ok (a1)).bind fun x3 => (R.ok (.int 0)).bind fun x4 => R.lift (ltD x3 x4)).bind fun k => if k = true then .ok true else ((R.ok (a0)).bind fun x5 => (R.ok (a1)).bind fun x6 => R.lift (shrD x5 x6)).bind fun x7 => (R.ok (.int 0)).bind fun x8 => R.lift (gtD x7 x8)) fun k => if k = true then (.xc "InvalidNumber" : O Empty _).seq fE else O.ofR ((R.ok (.str [])).bind fun x22 => strR x22 fun x23 => ((((R.ok (a1)).bind fun x9 => (R.ok (.int 1)).bind fun x10 => R.lift (subD x9 x10)).bind fun x13 => ((R.ok (.int 1)).bind fun x11 => R.lift (negD x11)).bind fun x14 => ((R.ok (.int 1)).bind fun x12 => R.lift (negD x12)).bind fun x15 => R.lift (rng3 x13 x14 x15)).bind fun ds => (compM ds (fun d16 => itM (R.ok true) (((((R.ok (a0)).bind fun x17 => (R.ok (d16)).bind fun x18 => R.lift (shrD x17 x18)).bind fun x19 => (R.ok (.int 1)).bind fun x20 => R.lift (andD x19 x20)).bind fun x21 => R.lift (truD x21)).bind fun k => if k = true then R.ok (.str [49]) else R.ok (.str [48])))).bind fun ys => .ok (.lst ys)).bind fun x24 => R.lift (joinD x23 x24)) fun d => .rt d []

noncomputable def M_bits_of (ds : List D) : R D := match ds with
  | [a0, a1] => (B_bits_of a0 a1).toR
  | _ => .st

noncomputable def B_rest_of (a0 a1 : D) : O Unit Unit :=
  O.ofR (((R.ok (a0)).bind fun x1 => (R.ok []).bind fun xs2 => .ok (x1 :: xs2)).bind M_check_bits) fun _ => O.ofR (((R.ok (a1)).bind fun x3 => (R.ok []).bind fun xs4 => .ok (x3 :: xs4)).bind M_check_divisor) fun _ => O.ofR (((R.ok (a1)).bind fun x45 => R.lift (lenD x45)).bind fun x46 => (R.ok (.int 1)).bind fun x47 => R.lift (subD x46 x47)) fun v5 => O.ofR (R.ok (.int 0)) fun v6 => O.ofR (((R.ok (.int 1)).bind fun x7 => (R.ok (v5)).bind fun x8 => R.lift (shlD x7 x8)).bind fun x13 => ((((R.ok (a1)).bind fun x9 => (R.ok []).bind fun xs10 => .ok (x9 :: xs10)).bind M_number_of).bind fun x11 => (R.ok []).bind fun xs12 => .ok (x11 :: xs12)).bind fun xs14 => .ok (x13 :: xs14)) fun ds44 => lst2 .st ds44 fun v15 v16 => (O.ofR (((R.ok (a0)).bind fun x21 => ((R.ok (.str [48])).bind fun x19 => (R.ok (v5)).bind fun x20 => R.lift (mulM x19 x20)).bind fun x22 => R.lift (addD x21 x22)).bind fun x23 => R.lift (iterD x23)) fun ds => (forO ds (v6) fun d24 (s18 : D) => O.ofR (((R.ok (.int 2)).bind fun x34 => (R.ok (s18)).bind fun x35 => R.lift (mulM x34 x35)).bind fun x37 => ((R.ok (d24)).bind fun x36 => R.lift (intD x36)).bind fun x38 => R.lift (addD x37 x38)) fun v25 => (O.ofR (((R.ok (v25)).bind fun x26 => (R.ok (v15)).bind fun x27 => R.lift (andD x26 x27)).bind fun x28 => R.lift (truD x28)) fun k => if k = true then O.ofR ((R.ok (v25)).bind fun x30 => (R.ok (v16)).bind fun x31 => R.lift (xorD x30 x31)) fun v29 => .nx (v29) else (.nx (v25) : O (D) _)).seq fun s32 => .nx (s32) : O (D) _)).seq fun s39 => O.ofR (((R.ok (s39)).bind fun x42 => ((R.ok (v5)).bind fun x40 => (R.ok []).bind fun xs41 => .ok (x40 :: xs41)).bind fun xs43 => .ok (x42 :: xs43)).bind M_bits_of) fun d => .rt d []

noncomputable def M_rest_of (ds : List D) : R D := match ds with
  | [a0, a1] => (B_rest_of a0 a1).toR
  | _ => .st

noncomputable def B_guarded (a0 a1 : D) : O Unit Unit :=
  O.ofR ((R.ok (a0)).bind fun x5 => (((R.ok (a0)).bind fun x3 => ((R.ok (a1)).bind fun x1 => (R.ok []).bind fun xs2 => .ok (x1 :: xs2)).bind fun xs4 => .ok (x3 :: xs4)).bind M_rest_of).bind fun x6 => R.lift (addD x5 x6)) fun d => .rt d []

noncomputable def M_guarded (ds : List D) : R D := match ds with
  | [a0, a1] => (B_guarded a0 a1).toR
  | _ => .st

noncomputable def B_is_whole (a0 a1 : D) : O Unit Unit :=
  O.ofR (((R.ok (a1)).bind fun x18 => R.lift (lenD x18)).bind fun x19 => (R.ok (.int 1)).bind fun x20 => R.lift (subD x19 x20)) fun v1 => O.ofR ((((R.ok (a0)).bind fun x2 => R.lift (lenD x2)).bind fun x3 => (R.ok (v1)).bind fun x4 => R.lift ((geD x3 x4).map D.bl)).bind fun x17 => (R.lift (truD x17)).bind fun k => if k = true then ((((R.ok (a0)).bind fun x5 => (R.ok none).bind fun l9 => ((((R.ok (a0)).bind fun x6 => R.lift (lenD x6)).bind fun x7 => (R.ok (v1)).bind fun x8 => R.lift (subD x7 x8)).bind intP).bind fun h10 => R.lift (slcD x5 l9 h10)).bind fun x13 => ((R.ok (a1)).bind fun x11 => (R.ok []).bind fun xs12 => .ok (x11 :: xs12)).bind fun xs14 => .ok (x13 :: xs14)).bind M_guarded).bind fun x15 => (R.ok (a0)).bind fun x16 => R.lift ((eqD x15 x16).map D.bl) else .ok x17) fun d => .rt d []

noncomputable def M_is_whole (ds : List D) : R D := match ds with
  | [a0, a1] => (B_is_whole a0 a1).toR
  | _ => .st

noncomputable def B_unguarded (a0 a1 : D) : O Unit Unit :=
  O.ofR (((((R.ok (a0)).bind fun x3 => ((R.ok (a1)).bind fun x1 => (R.ok []).bind fun xs2 => .ok (x1 :: xs2)).bind fun xs4 => .ok (x3 :: xs4)).bind M_is_whole).bind fun x5 => R.lift (truD x5)).bind fun k => .ok (!k)) fun k => if k = true then (.xc "InvalidBits" : O Empty _).seq fE else O.ofR ((R.ok (a0)).bind fun x6 => (R.ok none).bind fun l13 => (((((R.ok (a0)).bind fun x7 => R.lift (lenD x7)).bind fun x9 => ((R.ok (a1)).bind fun x8 => R.lift (lenD x8)).bind fun x10 => R.lift (subD x9 x10)).bind fun x11 => (R.ok (.int 1)).bind fun x12 => R.lift (addD x11 x12)).bind intP).bind fun h14 => R.lift (slcD x6 l13 h14)) fun d => .rt d []

noncomputable def M_unguarded (ds : List D) : R D := match ds with
  | [a0, a1] => (B_unguarded a0 a1).toR
  | _ => .st

noncomputable def B_least_distance (a0 : D) : O Unit Unit :=
  O.ofR (((R.ok (a0)).bind fun x1 => (R.ok []).bind fun xs2 => .ok (x1 :: xs2)).bind M_check_words) fun _ => O.ofR (((R.ok (a0)).bind fun x6 => R.lift (enumD x6)).bind fun ds => (compM2 ds (fun d7 => tup2 .st d7 fun p9 p10 => (R.ok true).bind fun k => if k = true then (((R.ok (a0)).bind fun x11 => (R.ok none).bind fun l12 => ((R.ok (p9)).bind intP).bind fun h13 => R.lift (slcD x11 l12 h13)).bind fun x14 => R.lift (iterD x14)).bind fun es => compM es (fun e8 => itM (R.ok true) (((R.ok (p10)).bind fun x17 => ((R.ok (e8)).bind fun x15 => (R.ok []).bind fun xs16 => .ok (x15 :: xs16)).bind fun xs18 => .ok (x17 :: xs18)).bind M_distance)) else .ok [])).bind lstB) fun v3 => O.ofR (((R.ok (v3)).bind fun x4 => R.lift (truD x4)).bind fun k => if k = true then (R.ok (v3)).bind fun x5 => R.lift (minD x5) else R.ok .non) fun d => .rt d []

noncomputable def M_least_distance (ds : List D) : R D := match ds with
  | [a0] => (B_least_distance a0).toR
  | _ => .st

noncomputable def B_mended_by (a0 : D) : O Unit Unit :=
  O.ofR (((R.ok (a0)).bind fun x24 => (R.ok []).bind fun xs25 => .ok (x24 :: xs25)).bind M_least_distance) fun v1 => O.ofR (((R.ok (a0)).bind fun x21 => (R.ok (.int 0)).bind fun x22 => R.lift (idxD x21 x22)).bind fun x23 => R.lift (lenD x23)) fun v2 => O.ofR (((R.ok (v1)).bind fun x3 => (R.ok .non).bind fun x4 => R.lift (isD x3 x4)).bind fun k => if k = true then ((R.ok (v2)).bind fun x7 => ((R.ok (v2)).bind fun x5 => (R.ok []).bind fun xs6 => .ok (x5 :: xs6)).bind fun xs8 => .ok (x7 :: xs8)).bind fun xs9 => .ok (.tup xs9) else ((((R.ok (v1)).bind fun x10 => (R.ok (.int 1)).bind fun x11 => R.lift (subD x10 x11)).bind fun x12 => (R.ok (.int 2)).bind fun x13 => R.lift (fdivD x12 x13)).bind fun x18 => (((R.ok (v1)).bind fun x14 => (R.ok (.int 1)).bind fun x15 => R.lift (subD x14 x15)).bind fun x16 => (R.ok []).bind fun xs17 => .ok (x16 :: xs17)).bind fun xs19 => .ok (x18 :: xs19)).bind fun xs20 => .ok (.tup xs20)) fun d => .rt d []

noncomputable def M_mended_by (ds : List D) : R D := match ds with
  | [a0] => (B_mended_by a0).toR
  | _ => .st

noncomputable def B_law (a0 : D) : N (O Unit Unit) :=
  N.ofR (N.l (((R.ok (a0)).bind fun x450 => (R.ok []).bind fun xs451 => .ok (x450 :: xs451)).bind M__law_tape)) fun v1 => N.seq (τ := Unit) (N.ofR (N.l ((R.ok (.int 3)).bind fun x4 => R.lift (rng1 x4))) fun ds => forN ds () fun d5 (s3 : Unit) => N.ofR (N.bind (N.bind (N.l (R.ok (.str [49]))) fun x378 => N.bind (N.bind (N.l (R.ok (.str []))) fun x375 => N.bind (N.l (strR x375 .ok)) fun x376 => N.bind (N.bind (N.bind (N.bind (N.l ((R.ok (v1)).bind fun x366 => ((R.ok (.int 6)).bind fun x364 => (R.ok []).bind fun xs365 => .ok (x364 :: xs365)).bind fun xs367 => .ok (x366 :: xs367))) M__law_take) fun x368 => N.l (R.lift (rng1 x368))) fun ds => N.bind (compN ds (fun d369 => itN (N.l (R.ok true)) (N.bind (N.bind (N.l ((R.ok (v1)).bind fun x372 => ((R.ok (.int 2)).bind fun x370 => (R.ok []).bind fun xs371 => .ok (x370 :: xs371)).bind fun xs373 => .ok (x372 :: xs373))) M__law_take) fun x374 => N.l (R.lift (strD x374))))) fun ys => N.l (.ok (.lst ys))) fun x377 => N.l (R.lift (joinD x376 x377))) fun x379 => N.l (R.lift (addD x378 x379))) fun x380 => N.bind (N.l (R.ok (.str [49]))) fun x381 => N.l (R.lift (addD x380 x381))) fun v6 => N.ofR (N.bind (N.l ((R.ok (v1)).bind fun x362 => ((R.ok (.int 20)).bind fun x360 => (R.ok []).bind fun xs361 => .ok (x360 :: xs361)).bind fun xs363 => .ok (x362 :: xs363))) M__law_bits) fun v7 => N.ofR (N.l ((R.ok (v7)).bind fun x358 => (((R.ok (v7)).bind fun x356 => ((R.ok (v6)).bind fun x354 => (R.ok []).bind fun xs355 => .ok (x354 :: xs355)).bind fun xs357 => .ok (x356 :: xs357)).bind M__law_rest).bind fun x359 => R.lift (addD x358 x359))) fun v8 => N.ofR (N.l (((((R.ok (v7)).bind fun x11 => ((R.ok (v6)).bind fun x9 => (R.ok []).bind fun xs10 => .ok (x9 :: xs10)).bind fun xs12 => .ok (x11 :: xs12)).bind M_rest_of).bind fun x17 => (((R.ok (v7)).bind fun x15 => ((R.ok (v6)).bind fun x13 => (R.ok []).bind fun xs14 => .ok (x13 :: xs14)).bind fun xs16 => .ok (x15 :: xs16)).bind M__law_rest).bind fun x18 => R.lift (neD x17 x18)).bind fun k => if k = true then .ok true else ((((R.ok (v7)).bind fun x21 => ((R.ok (v6)).bind fun x19 => (R.ok []).bind fun xs20 => .ok (x19 :: xs20)).bind fun xs22 => .ok (x21 :: xs22)).bind M_guarded).bind fun x23 => (R.ok (v8)).bind fun x24 => R.lift (neD x23 x24)).bind fun k => if k = true then .ok true else ((((R.ok (v8)).bind fun x27 => ((R.ok (v6)).bind fun x25 => (R.ok []).bind fun xs26 => .ok (x25 :: xs26)).bind fun xs28 => .ok (x27 :: xs28)).bind M_is_whole).bind fun x29 => (R.ok (.bl true)).bind fun x30 => R.lift (isNotD x29 x30)).bind fun k => if k = true then .ok true else (((R.ok (v8)).bind fun x33 => ((R.ok (v6)).bind fun x31 => (R.ok []).bind fun xs32 => .ok (x31 :: xs32)).bind fun xs34 => .ok (x33 :: xs34)).bind M_unguarded).bind fun x35 => (R.ok (v7)).bind fun x36 => R.lift (neD x35 x36))) fun k => if k = true then N.seq (N.ofR (N.l (R.ok (.bl false))) fun d => N.l (.rt d [])) fE else N.ofR (N.l (((R.ok (v6)).bind fun x352 => (R.ok []).bind fun xs353 => .ok (x352 :: xs353)).bind M_first_turn_of)) fun v37 => N.seq (τ := Unit) (N.ofR (N.l ((R.ok (.int 1)).bind fun x42 => ((R.ok (v37)).bind fun x40 => (R.ok (.int 1)).bind fun x41 => R.lift (addD x40 x41)).bind fun x43 => R.lift (rng2 x42 x43))) fun ds => forN ds () fun d44 (s39 : Unit) => N.ofR (N.l (((R.ok (.str [49])).bind fun x70 => ((R.ok (.str [48])).bind fun x68 => ((R.ok (d44)).bind fun x66 => (R.ok (.int 1)).bind fun x67 => R.lift (subD x66 x67)).bind fun x69 => R.lift (mulM x68 x69)).bind fun x71 => R.lift (addD x70 x71)).bind fun x72 => (R.ok (.str [49])).bind fun x73 => R.lift (addD x72 x73))) fun v45 => N.ofR (N.l ((((R.ok (v45)).bind fun x57 => ((R.ok (v6)).bind fun x55 => (R.ok []).bind fun xs56 => .ok (x55 :: xs56)).bind fun xs58 => .ok (x57 :: xs58)).bind M__law_rest).bind fun x64 => ((R.ok (.str [48])).bind fun x62 => (((R.ok (v6)).bind fun x59 => R.lift (lenD x59)).bind fun x60 => (R.ok (.int 1)).bind fun x61 => R.lift (subD x60 x61)).bind fun x63 => R.lift (mulM x62 x63)).bind fun x65 => R.lift ((eqD x64 x65).map D.bl))) fun v46 => N.ofR (N.l ((((R.ok (v46)).bind fun x47 => R.lift (truD x47)).bind fun k => if k = true then (R.ok (d44)).bind fun x48 => (R.ok (v37)).bind fun x49 => R.lift (ltD x48 x49) else .ok false).bind fun k => if k = true then .ok true else ((R.ok (d44)).bind fun x50 => (R.ok (v37)).bind fun x51 => R.lift (eqD x50 x51)).bind fun k => if k = true then ((R.ok (v46)).bind fun x52 => R.lift (truD x52)).bind fun k => .ok (!k) else .ok false)) fun k => if k = true then N.seq (N.ofR (N.l (R.ok (.bl false))) fun d => N.l (.rt d [])) fE else N.ofR (N.l ((R.ok (d44)).bind fun x53 => (R.ok (.int 40)).bind fun x54 => R.lift (gtD x53 x54))) fun k => if k = true then N.seq (N.l (.bk ())) fE else N.l (.nx ())) fun s74 => N.ofR (N.bind (N.l ((R.ok (v1)).bind fun x350 => (((R.ok (v8)).bind fun x347 => R.lift (lenD x347)).bind fun x348 => (R.ok []).bind fun xs349 => .ok (x348 :: xs349)).bind fun xs351 => .ok (x350 :: xs351))) M__law_take) fun v75 => N.ofR (N.l (((R.ok (v8)).bind fun x345 => ((R.ok (v75)).bind fun x343 => (R.ok []).bind fun xs344 => .ok (x343 :: xs344)).bind fun xs346 => .ok (x345 :: xs346)).bind M__law_turn)) fun v76 => N.ofR (N.l (((((R.ok (v76)).bind fun x79 => ((R.ok (v6)).bind fun x77 => (R.ok []).bind fun xs78 => .ok (x77 :: xs78)).bind fun xs80 => .ok (x79 :: xs80)).bind M_is_whole).bind fun x81 => (R.ok (.bl false)).bind fun x82 => R.lift (isNotD x81 x82)).bind fun k => if k = true then .ok true else (ans__law_code (((R.ok (v76)).bind fun x85 => ((R.ok (v6)).bind fun x83 => (R.ok []).bind fun xs84 => .ok (x83 :: xs84)).bind fun xs86 => .ok (x85 :: xs86)).bind M_unguarded)).bind fun x87 => (R.ok (.str [98, 105, 116, 115])).bind fun x88 => R.lift (neD x87 x88))) fun k => if k = true then N.seq (N.ofR (N.l (R.ok (.bl false))) fun d => N.l (.rt d [])) fE else N.seq (τ := Unit) (N.ofR (N.l (((R.ok (v8)).bind fun x89 => R.lift (lenD x89)).bind fun x90 => (R.ok (.int 1)).bind fun x91 => R.lift (gtD x90 x91))) fun k => if k = true then N.ofR (N.bind (N.l (R.ok (.int 1))) fun x129 => N.bind (N.bind (N.l ((R.ok (v1)).bind fun x127 => ((((R.ok (v8)).bind fun x122 => R.lift (lenD x122)).bind fun x123 => (R.ok (.int 1)).bind fun x124 => R.lift (subD x123 x124)).bind fun x125 => (R.ok []).bind fun xs126 => .ok (x125 :: xs126)).bind fun xs128 => .ok (x127 :: xs128))) M__law_take) fun x130 => N.l (R.lift (addD x129 x130))) fun v92 => N.ofR (N.bind (N.l ((R.ok (v1)).bind fun x120 => ((((R.ok (v8)).bind fun x115 => R.lift (lenD x115)).bind fun x116 => (R.ok (v92)).bind fun x117 => R.lift (subD x116 x117)).bind fun x118 => (R.ok []).bind fun xs119 => .ok (x118 :: xs119)).bind fun xs121 => .ok (x120 :: xs121))) M__law_take) fun v93 => N.ofR (N.l ((((((((R.ok (v8)).bind fun x96 => ((R.ok (v93)).bind fun x94 => (R.ok []).bind fun xs95 => .ok (x94 :: xs95)).bind fun xs97 => .ok (x96 :: xs97)).bind M__law_turn).bind fun x102 => (((R.ok (v93)).bind fun x98 => (R.ok (v92)).bind fun x99 => R.lift (addD x98 x99)).bind fun x100 => (R.ok []).bind fun xs101 => .ok (x100 :: xs101)).bind fun xs103 => .ok (x102 :: xs103)).bind M__law_turn).bind fun x106 => ((R.ok (v6)).bind fun x104 => (R.ok []).bind fun xs105 => .ok (x104 :: xs105)).bind fun xs107 => .ok (x106 :: xs107)).bind M_is_whole).bind fun x113 => ((((R.ok (v92)).bind fun x108 => R.lift (intD x108)).bind fun x109 => (R.ok (v37)).bind fun x110 => R.lift (modD x109 x110)).bind fun x111 => (R.ok (.int 0)).bind fun x112 => R.lift ((eqD x111 x112).map D.bl)).bind fun x114 => R.lift (neD x113 x114))) fun k => if k = true then N.seq (N.ofR (N.l (R.ok (.bl false))) fun d => N.l (.rt d [])) fE else N.l (.nx ()) else N.l (.nx ())) fun s131 => N.ofR (N.bind (N.l (R.ok (.int 1))) fun x340 => N.bind (N.bind (N.l ((R.ok (v1)).bind fun x338 => ((R.ok (.int 7)).bind fun x336 => (R.ok []).bind fun xs337 => .ok (x336 :: xs337)).bind fun xs339 => .ok (x338 :: xs339))) M__law_take) fun x341 => N.l (R.lift (addD x340 x341))) fun v132 => N.ofR (N.l ((R.ok []).bind fun xs335 => .ok (.lst xs335))) fun v133 => N.seq (τ := D) (N.ofR (N.bind (N.bind (N.l (R.ok (.int 1))) fun x140 => N.bind (N.bind (N.l ((R.ok (v1)).bind fun x138 => ((R.ok (.int 6)).bind fun x136 => (R.ok []).bind fun xs137 => .ok (x136 :: xs137)).bind fun xs139 => .ok (x138 :: xs139))) M__law_take) fun x141 => N.l (R.lift (addD x140 x141))) fun x142 => N.l (R.lift (rng1 x142))) fun ds => forN ds (v133) fun d143 (s135 : D) => N.ofR (N.bind (N.l (R.ok (.str []))) fun x161 => N.bind (N.l (strR x161 .ok)) fun x162 => N.bind (N.bind (N.l ((R.ok (v132)).bind fun x154 => R.lift (rng1 x154))) fun ds => N.bind (compN ds (fun d155 => itN (N.l (R.ok true)) (N.bind (N.bind (N.l ((R.ok (v1)).bind fun x158 => ((R.ok (.int 2)).bind fun x156 => (R.ok []).bind fun xs157 => .ok (x156 :: xs157)).bind fun xs159 => .ok (x158 :: xs159))) M__law_take) fun x160 => N.l (R.lift (strD x160))))) fun ys => N.l (.ok (.lst ys))) fun x163 => N.l (R.lift (joinD x162 x163))) fun v144 => N.ofR (N.l ((R.ok (s135)).bind fun x152 => (((R.ok (v144)).bind fun x146 => (R.ok (s135)).bind fun x147 => R.lift (notInD x146 x147)).bind fun k => if k = true then ((R.ok (v144)).bind fun x148 => (R.ok []).bind fun xs149 => .ok (x148 :: xs149)).bind fun xs150 => .ok (.lst xs150) else (R.ok []).bind fun xs151 => .ok (.lst xs151)).bind fun x153 => R.lift (addD x152 x153))) fun v145 => N.l (.nx (v145))) fun s164 => N.ofR (N.l (((R.ok (s164)).bind fun x333 => (R.ok []).bind fun xs334 => .ok (x333 :: xs334)).bind M__law_distances)) fun v165 => N.ofR (N.l ((((R.ok (v165)).bind fun x329 => R.lift (lenD x329)).bind fun x330 => (R.ok (.int 0)).bind fun x331 => R.lift (gtD x330 x331)).bind fun k => if k = true then (R.ok (v165)).bind fun x332 => R.lift (minD x332) else R.ok .non)) fun v166 => N.ofR (N.l (((((R.ok (s164)).bind fun x167 => (R.ok []).bind fun xs168 => .ok (x167 :: xs168)).bind M_least_distance).bind fun x169 => (R.ok (v166)).bind fun x170 => R.lift (neD x169 x170)).bind fun k => if k = true then .ok true else (((R.ok (s164)).bind fun x171 => (R.ok []).bind fun xs172 => .ok (x171 :: xs172)).bind M_mended_by).bind fun x191 => (((R.ok (v166)).bind fun x173 => (R.ok .non).bind fun x174 => R.lift (isNotD x173 x174)).bind fun k => if k = true then ((((R.ok (v166)).bind fun x175 => (R.ok (.int 1)).bind fun x176 => R.lift (subD x175 x176)).bind fun x177 => (R.ok (.int 2)).bind fun x178 => R.lift (fdivD x177 x178)).bind fun x183 => (((R.ok (v166)).bind fun x179 => (R.ok (.int 1)).bind fun x180 => R.lift (subD x179 x180)).bind fun x181 => (R.ok []).bind fun xs182 => .ok (x181 :: xs182)).bind fun xs184 => .ok (x183 :: xs184)).bind fun xs185 => .ok (.tup xs185) else ((R.ok (v132)).bind fun x188 => ((R.ok (v132)).bind fun x186 => (R.ok []).bind fun xs187 => .ok (x186 :: xs187)).bind fun xs189 => .ok (x188 :: xs189)).bind fun xs190 => .ok (.tup xs190)).bind fun x192 => R.lift (neD x191 x192))) fun k => if k = true then N.seq (N.ofR (N.l (R.ok (.bl false))) fun d => N.l (.rt d [])) fE else N.ofR (N.bind (N.l (R.ok (s164))) fun x322 => N.bind (N.bind (N.l ((R.ok (v1)).bind fun x326 => (((R.ok (s164)).bind fun x323 => R.lift (lenD x323)).bind fun x324 => (R.ok []).bind fun xs325 => .ok (x324 :: xs325)).bind fun xs327 => .ok (x326 :: xs327))) M__law_take) fun x328 => N.l (R.lift (idxD x322 x328))) fun v193 => N.ofR (N.bind (N.l (R.ok (.str []))) fun x319 => N.bind (N.l (strR x319 .ok)) fun x320 => N.bind (N.bind (N.l ((R.ok (v132)).bind fun x312 => R.lift (rng1 x312))) fun ds => N.bind (compN ds (fun d313 => itN (N.l (R.ok true)) (N.bind (N.bind (N.l ((R.ok (v1)).bind fun x316 => ((R.ok (.int 2)).bind fun x314 => (R.ok []).bind fun xs315 => .ok (x314 :: xs315)).bind fun xs317 => .ok (x316 :: xs317))) M__law_take) fun x318 => N.l (R.lift (strD x318))))) fun ys => N.l (.ok (.lst ys))) fun x321 => N.l (R.lift (joinD x320 x321))) fun v194 => N.ofR (N.l (((R.ok (s164)).bind fun x306 => R.lift (iterD x306)).bind fun ds => (compM ds (fun d307 => itM (R.ok true) (((R.ok (d307)).bind fun x310 => ((R.ok (v194)).bind fun x308 => (R.ok []).bind fun xs309 => .ok (x308 :: xs309)).bind fun xs311 => .ok (x310 :: xs311)).bind M__law_far))).bind fun ys => .ok (.lst ys))) fun v195 => N.ofR (N.l ((((R.ok (s164)).bind fun x198 => ((R.ok (v194)).bind fun x196 => (R.ok []).bind fun xs197 => .ok (x196 :: xs197)).bind fun xs199 => .ok (x198 :: xs199)).bind M_nearest).bind fun x211 => (((((R.ok (s164)).bind fun x200 => R.lift (lenD x200)).bind fun x201 => R.lift (rng1 x201)).bind fun ds => (compM ds (fun d202 => itM (((R.ok (v195)).bind fun x203 => (R.ok (d202)).bind fun x204 => R.lift (idxD x203 x204)).bind fun x206 => ((R.ok (v195)).bind fun x205 => R.lift (minD x205)).bind fun x207 => R.lift (eqD x206 x207)) ((R.ok (s164)).bind fun x208 => (R.ok (d202)).bind fun x209 => R.lift (idxD x208 x209)))).bind fun ys => .ok (.lst ys)).bind fun x210 => R.lift (tupD x210)).bind fun x212 => R.lift (neD x211 x212))) fun k => if k = true then N.seq (N.ofR (N.l (R.ok (.bl false))) fun d => N.l (.rt d [])) fE else N.ofR (N.bind (N.l (R.ok (.str []))) fun x303 => N.bind (N.l (strR x303 .ok)) fun x304 => N.bind (N.bind (N.l ((R.ok (v132)).bind fun x293 => R.lift (rng1 x293))) fun ds => N.bind (compN ds (fun d294 => itN (N.l (R.ok true)) (N.bind (N.bind (N.bind (N.l ((R.ok (v1)).bind fun x297 => ((R.ok (.int 3)).bind fun x295 => (R.ok []).bind fun xs296 => .ok (x295 :: xs296)).bind fun xs298 => .ok (x297 :: xs298))) M__law_take) fun x299 => N.bind (N.l (R.ok (.int 0))) fun x300 => N.l (R.lift (eqD x299 x300))) fun k => if k = true then N.l (R.ok (.str [63])) else N.l ((R.ok (v193)).bind fun x301 => (R.ok (d294)).bind fun x302 => R.lift (idxD x301 x302))))) fun ys => N.l (.ok (.lst ys))) fun x305 => N.l (R.lift (joinD x304 x305))) fun v213 => N.ofR (N.l (((R.ok (s164)).bind fun x276 => R.lift (iterD x276)).bind fun ds => (compM ds (fun d277 => itM (((((R.ok (v132)).bind fun x278 => R.lift (rng1 x278)).bind fun ds => (compM ds (fun d279 => itM (R.ok true) (((R.ok (v213)).bind fun x280 => (R.ok (d279)).bind fun x281 => R.lift (idxD x280 x281)).bind fun x289 => (((R.ok (.str [63])).bind fun x286 => (((R.ok (d277)).bind fun x282 => (R.ok (d279)).bind fun x283 => R.lift (idxD x282 x283)).bind fun x284 => (R.ok []).bind fun xs285 => .ok (x284 :: xs285)).bind fun xs287 => .ok (x286 :: xs287)).bind fun xs288 => .ok (.tup xs288)).bind fun x290 => R.lift ((inD x289 x290).map D.bl)))).bind fun ys => .ok (.lst ys)).bind fun x291 => R.lift (allD x291)).bind fun x292 => R.lift (truD x292)) (R.ok (d277)))).bind fun ys => .ok (.lst ys))) fun v214 => N.ofR (N.l ((((R.ok (s164)).bind fun x217 => ((R.ok (v213)).bind fun x215 => (R.ok []).bind fun xs216 => .ok (x215 :: xs216)).bind fun xs218 => .ok (x217 :: xs218)).bind M_surely).bind fun x224 => ((((R.ok (v214)).bind fun x219 => R.lift (lenD x219)).bind fun x220 => (R.ok (.int 1)).bind fun x221 => R.lift (eqD x220 x221)).bind fun k => if k = true then (R.ok (v214)).bind fun x222 => (R.ok (.int 0)).bind fun x223 => R.lift (idxD x222 x223) else R.ok .non).bind fun x225 => R.lift (neD x224 x225))) fun k => if k = true then N.seq (N.ofR (N.l (R.ok (.bl false))) fun d => N.l (.rt d [])) fE else N.ofR (N.l (((R.ok (v166)).bind fun x226 => (R.ok .non).bind fun x227 => R.lift (isNotD x226 x227)).bind fun k => if k = true then (((((R.ok (v213)).bind fun x228 => R.lift (iterD x228)).bind fun ds => (compM ds (fun d229 => itM ((R.ok (d229)).bind fun x230 => (R.ok (.str [63])).bind fun x231 => R.lift (eqD x230 x231)) (R.ok (d229)))).bind fun ys => .ok (.lst ys)).bind fun x232 => R.lift (lenD x232)).bind fun x233 => (R.ok (v166)).bind fun x234 => R.lift (ltD x233 x234)).bind fun k => if k = true then (((R.ok (s164)).bind fun x237 => ((R.ok (v213)).bind fun x235 => (R.ok []).bind fun xs236 => .ok (x235 :: xs236)).bind fun xs238 => .ok (x237 :: xs238)).bind M_surely).bind fun x239 => (R.ok (v193)).bind fun x240 => R.lift (neD x239 x240) else .ok false else .ok false)) fun k => if k = true then N.seq (N.ofR (N.l (R.ok (.bl false))) fun d => N.l (.rt d [])) fE else N.ofR (N.l (R.ok (v193))) fun v241 => N.seq (τ := D) (N.ofR (N.l (((((R.ok (s164)).bind fun x244 => (R.ok []).bind fun xs245 => .ok (x244 :: xs245)).bind M_mended_by).bind fun x246 => (R.ok (.int 0)).bind fun x247 => R.lift (idxD x246 x247)).bind fun x248 => R.lift (rng1 x248))) fun ds => forN ds (v241) fun d249 (s243 : D) => N.ofR (N.bind (N.l ((R.ok (v1)).bind fun x264 => ((R.ok (v132)).bind fun x262 => (R.ok []).bind fun xs263 => .ok (x262 :: xs263)).bind fun xs265 => .ok (x264 :: xs265))) M__law_take) fun v250 => N.ofR (N.l ((((R.ok (s243)).bind fun x252 => (R.ok (v250)).bind fun x253 => R.lift (idxD x252 x253)).bind fun x256 => ((R.ok (v193)).bind fun x254 => (R.ok (v250)).bind fun x255 => R.lift (idxD x254 x255)).bind fun x257 => R.lift (eqD x256 x257)).bind fun k => if k = true then ((R.ok (s243)).bind fun x260 => ((R.ok (v250)).bind fun x258 => (R.ok []).bind fun xs259 => .ok (x258 :: xs259)).bind fun xs261 => .ok (x260 :: xs261)).bind M__law_turn else R.ok (s243))) fun v251 => N.l (.nx (v251))) fun s266 => N.ofR (N.l ((((R.ok (s164)).bind fun x269 => ((R.ok (s266)).bind fun x267 => (R.ok []).bind fun xs268 => .ok (x267 :: xs268)).bind fun xs270 => .ok (x269 :: xs270)).bind M_nearest).bind fun x274 => (((R.ok (v193)).bind fun x271 => (R.ok []).bind fun xs272 => .ok (x271 :: xs272)).bind fun xs273 => .ok (.tup xs273)).bind fun x275 => R.lift (neD x274 x275))) fun k => if k = true then N.seq (N.ofR (N.l (R.ok (.bl false))) fun d => N.l (.rt d [])) fE else N.l (.nx ())) fun s382 => N.seq (τ := Unit) (N.ofR (N.l ((((R.ok (.str [49])).bind fun x395 => ((R.ok (.str [48, 49])).bind fun x393 => ((R.ok (.str [49, 48])).bind fun x391 => ((R.ok (.str [])).bind fun x389 => (((R.ok (.str [49])).bind fun x385 => (R.ok (.int 18)).bind fun x386 => R.lift (mulM x385 x386)).bind fun x387 => (R.ok []).bind fun xs388 => .ok (x387 :: xs388)).bind fun xs390 => .ok (x389 :: xs390)).bind fun xs392 => .ok (x391 :: xs392)).bind fun xs394 => .ok (x393 :: xs394)).bind fun xs396 => .ok (x395 :: xs396)).bind fun xs397 => .ok (.tup xs397)).bind fun x398 => R.lift (iterD x398))) fun ds => forN ds () fun d399 (s384 : Unit) => N.ofR (N.l ((ans__law_code (((R.ok (.str [49])).bind fun x402 => ((R.ok (d399)).bind fun x400 => (R.ok []).bind fun xs401 => .ok (x400 :: xs401)).bind fun xs403 => .ok (x402 :: xs403)).bind M_rest_of)).bind fun x404 => (R.ok (.str [98, 105, 116, 115])).bind fun x405 => R.lift (neD x404 x405))) fun k => if k = true then N.seq (N.ofR (N.l (R.ok (.bl false))) fun d => N.l (.rt d [])) fE else N.l (.nx ())) fun s406 => N.seq (τ := Unit) (N.ofR (N.l (((((R.ok []).bind fun xs409 => .ok (.tup xs409)).bind fun x431 => ((((R.ok (.str [48])).bind fun x412 => ((R.ok (.str [48, 48])).bind fun x410 => (R.ok []).bind fun xs411 => .ok (x410 :: xs411)).bind fun xs413 => .ok (x412 :: xs413)).bind fun xs414 => .ok (.tup xs414)).bind fun x429 => ((((R.ok (.str [48])).bind fun x417 => ((R.ok (.str [48])).bind fun x415 => (R.ok []).bind fun xs416 => .ok (x415 :: xs416)).bind fun xs418 => .ok (x417 :: xs418)).bind fun xs419 => .ok (.tup xs419)).bind fun x427 => (((((R.ok (.str [48])).bind fun x420 => (R.ok (.int 13)).bind fun x421 => R.lift (mulM x420 x421)).bind fun x422 => (R.ok []).bind fun xs423 => .ok (x422 :: xs423)).bind fun xs424 => .ok (.tup xs424)).bind fun x425 => (R.ok []).bind fun xs426 => .ok (x425 :: xs426)).bind fun xs428 => .ok (x427 :: xs428)).bind fun xs430 => .ok (x429 :: xs430)).bind fun xs432 => .ok (x431 :: xs432)).bind fun xs433 => .ok (.tup xs433)).bind fun x434 => R.lift (iterD x434))) fun ds => forN ds () fun d435 (s408 : Unit) => N.ofR (N.l ((ans__law_code (((R.ok (d435)).bind fun x436 => (R.ok []).bind fun xs437 => .ok (x436 :: xs437)).bind M_least_distance)).bind fun x438 => (R.ok (.str [99, 111, 100, 101])).bind fun x439 => R.lift (neD x438 x439))) fun k => if k = true then N.seq (N.ofR (N.l (R.ok (.bl false))) fun d => N.l (.rt d [])) fE else N.l (.nx ())) fun s440 => N.ofR (N.l ((ans__law_code (((((R.ok (.str [48, 49])).bind fun x441 => (R.ok []).bind fun xs442 => .ok (x441 :: xs442)).bind fun xs443 => .ok (.tup xs443)).bind fun x446 => ((R.ok (.str [48, 120])).bind fun x444 => (R.ok []).bind fun xs445 => .ok (x444 :: xs445)).bind fun xs447 => .ok (x446 :: xs447)).bind M_surely)).bind fun x448 => (R.ok (.str [98, 105, 116, 115])).bind fun x449 => R.lift ((eqD x448 x449).map D.bl))) fun d => N.l (.rt d [])

noncomputable def M_law (ds : List D) : N (R D) := match ds with
  | [a0] => fun P => B_law a0 fun o => P o.toR
  | _ => N.l .st

end K23

-- K23H
set_option Elab.async false
set_option linter.all false
set_option maxRecDepth 100000
set_option maxHeartbeats 0
namespace K23
open DL PySem PySem.Spec PyProof.Rows L2

def topS (i : Nat) : Stmt := PySem.Challenge.pw_fewestbits_k23_whole_guarded_bits.main.body.getD i (.Pass ⟨0, 0, 0, 0⟩)

theorem bt_abs : bootBuiltins "abs" = some (.builtin "abs") := by decide +kernel

theorem bt_all : bootBuiltins "all" = some (.builtin "all") := by decide +kernel

theorem bt_enumerate : bootBuiltins "enumerate" = some (.type "enumerate") := by decide +kernel

theorem bt_int : bootBuiltins "int" = some (.type "int") := by decide +kernel

theorem bt_len : bootBuiltins "len" = some (.builtin "len") := by decide +kernel

theorem bt_min : bootBuiltins "min" = some (.builtin "min") := by decide +kernel

theorem bt_range : bootBuiltins "range" = some (.type "range") := by decide +kernel

theorem bt_set : bootBuiltins "set" = some (.type "set") := by decide +kernel

theorem bt_str : bootBuiltins "str" = some (.type "str") := by decide +kernel

theorem bt_tuple : bootBuiltins "tuple" = some (.type "tuple") := by decide +kernel

theorem bt_zip : bootBuiltins "zip" = some (.type "zip") := by decide +kernel

abbrev t__law_tape : Stmt := topS 26

abbrev t__law_take : Stmt := topS 27

abbrev t__law_bits : Stmt := topS 28

abbrev t_is_bits : Stmt := topS 7

abbrev t_check_bits : Stmt := topS 8

abbrev t_check_divisor : Stmt := topS 13

abbrev t_number_of : Stmt := topS 10

abbrev t_first_turn_of : Stmt := topS 18

abbrev t__law_turn : Stmt := topS 31

abbrev t__law_far : Stmt := topS 32

abbrev t__law_distances : Stmt := topS 33

abbrev t__law_rest : Stmt := topS 30

abbrev t_check_words : Stmt := topS 20

abbrev t_distance : Stmt := topS 19

abbrev t_nearest : Stmt := topS 22

abbrev t_surely : Stmt := topS 23

abbrev t_bits_of : Stmt := topS 9

abbrev t_rest_of : Stmt := topS 14

abbrev t_guarded : Stmt := topS 15

abbrev t_is_whole : Stmt := topS 16

abbrev t_unguarded : Stmt := topS 17

abbrev t_least_distance : Stmt := topS 21

abbrev t_mended_by : Stmt := topS 24

abbrev t_law : Stmt := topS 34

abbrev t__law_code : Stmt := topS 29

theorem sc__law_tape : FnScope ["script", "cells", "cell", "seed"] ["script"] (defScope t__law_tape) := ⟨rfl, rfl, rfl, by decide +kernel, rfl, by decide +kernel, by decide +kernel⟩

theorem sc__law_take : FnScope ["tape", "many", "drawn", "mixed"] ["tape", "many"] (defScope t__law_take) := ⟨rfl, rfl, rfl, by decide +kernel, rfl, by decide +kernel, by decide +kernel⟩

theorem sc__law_bits : FnScope ["tape", "most", "k"] ["tape", "most"] (defScope t__law_bits) := ⟨rfl, rfl, rfl, by decide +kernel, rfl, by decide +kernel, by decide +kernel⟩

theorem sc_is_bits : FnScope ["text", "sign"] ["text"] (defScope t_is_bits) := ⟨rfl, rfl, rfl, by decide +kernel, rfl, by decide +kernel, by decide +kernel⟩

theorem sc_check_bits : FnScope ["text"] ["text"] (defScope t_check_bits) := ⟨rfl, rfl, rfl, by decide +kernel, rfl, by decide +kernel, by decide +kernel⟩

theorem sc_check_divisor : FnScope ["divisor"] ["divisor"] (defScope t_check_divisor) := ⟨rfl, rfl, rfl, by decide +kernel, rfl, by decide +kernel, by decide +kernel⟩

theorem sc_number_of : FnScope ["bits", "number", "bit"] ["bits"] (defScope t_number_of) := ⟨rfl, rfl, rfl, by decide +kernel, rfl, by decide +kernel, by decide +kernel⟩

theorem sc_first_turn_of : FnScope ["divisor", "size", "high", "whole", "state", "many"] ["divisor"] (defScope t_first_turn_of) := ⟨rfl, rfl, rfl, by decide +kernel, rfl, by decide +kernel, by decide +kernel⟩

theorem sc__law_turn : FnScope ["bits", "at"] ["bits", "at"] (defScope t__law_turn) := ⟨rfl, rfl, rfl, by decide +kernel, rfl, by decide +kernel, by decide +kernel⟩

theorem sc__law_far : FnScope ["one", "other", "k"] ["one", "other"] (defScope t__law_far) := ⟨rfl, rfl, rfl, by decide +kernel, rfl, by decide +kernel, by decide +kernel⟩

theorem sc__law_distances : FnScope ["words", "found", "i", "j"] ["words"] (defScope t__law_distances) := ⟨rfl, rfl, rfl, by decide +kernel, rfl, by decide +kernel, by decide +kernel⟩

theorem sc__law_rest : FnScope ["bits", "divisor", "size", "row", "bit", "k", "j"] ["bits", "divisor"] (defScope t__law_rest) := ⟨rfl, rfl, rfl, by decide +kernel, rfl, by decide +kernel, by decide +kernel⟩

theorem sc_check_words : FnScope ["words", "word"] ["words"] (defScope t_check_words) := ⟨rfl, rfl, rfl, by decide +kernel, rfl, by decide +kernel, by decide +kernel⟩

theorem sc_distance : FnScope ["one", "other", "a", "b"] ["one", "other"] (defScope t_distance) := ⟨rfl, rfl, rfl, by decide +kernel, rfl, by decide +kernel, by decide +kernel⟩

theorem sc_nearest : FnScope ["words", "bits", "rows", "word", "far"] ["words", "bits"] (defScope t_nearest) := ⟨rfl, rfl, rfl, by decide +kernel, rfl, by decide +kernel, by decide +kernel⟩

theorem sc_surely : FnScope ["words", "bits", "sign", "fits", "word", "a", "b"] ["words", "bits"] (defScope t_surely) := ⟨rfl, rfl, rfl, by decide +kernel, rfl, by decide +kernel, by decide +kernel⟩

theorem sc_bits_of : FnScope ["number", "width", "k"] ["number", "width"] (defScope t_bits_of) := ⟨rfl, rfl, rfl, by decide +kernel, rfl, by decide +kernel, by decide +kernel⟩

theorem sc_rest_of : FnScope ["bits", "divisor", "size", "state", "high", "whole", "bit"] ["bits", "divisor"] (defScope t_rest_of) := ⟨rfl, rfl, rfl, by decide +kernel, rfl, by decide +kernel, by decide +kernel⟩

theorem sc_guarded : FnScope ["bits", "divisor"] ["bits", "divisor"] (defScope t_guarded) := ⟨rfl, rfl, rfl, by decide +kernel, rfl, by decide +kernel, by decide +kernel⟩

theorem sc_is_whole : FnScope ["bits", "divisor", "size"] ["bits", "divisor"] (defScope t_is_whole) := ⟨rfl, rfl, rfl, by decide +kernel, rfl, by decide +kernel, by decide +kernel⟩

theorem sc_unguarded : FnScope ["bits", "divisor"] ["bits", "divisor"] (defScope t_unguarded) := ⟨rfl, rfl, rfl, by decide +kernel, rfl, by decide +kernel, by decide +kernel⟩

theorem sc_least_distance : FnScope ["words", "rows", "k", "one", "other"] ["words"] (defScope t_least_distance) := ⟨rfl, rfl, rfl, by decide +kernel, rfl, by decide +kernel, by decide +kernel⟩

theorem sc_mended_by : FnScope ["words", "least", "size"] ["words"] (defScope t_mended_by) := ⟨rfl, rfl, rfl, by decide +kernel, rfl, by decide +kernel, by decide +kernel⟩

theorem sc_law : FnScope ["script", "tape", "turn", "divisor", "k", "bits", "whole", "period", "n", "unit", "shows", "at", "other", "far", "size", "words", "word", "j", "rows", "least", "sent", "got", "fars", "gaps", "fits", "sign", "wrong", "place", "bad"] ["script"] (defScope t_law) := ⟨rfl, rfl, rfl, by decide +kernel, rfl, by decide +kernel, by decide +kernel⟩

theorem sc__law_code : FnScope ["call"] ["call"] (defScope t__law_code) := ⟨rfl, rfl, rfl, by decide +kernel, rfl, by decide +kernel, by decide +kernel⟩

theorem io0 {env : List Sl} : ioUs env [] [] := ⟨rfl, fun k i h => by simp at h⟩

/-- what the top has written -/
structure TX (P : Program) (w : World) (K : PySem.W.Frag) (mg : Str → Option Value) (base : Heap) (T : Tb) : Prop where
  d__law_tape : ∃ (f : Addr) (fd : FuncData), mg "_law_tape" = some (.ref f) ∧ Fun K "_law_tape" "_law_tape" t__law_tape f fd ∧ Binds K fd ["script"] []
  d__law_take : ∃ (f : Addr) (fd : FuncData), mg "_law_take" = some (.ref f) ∧ Fun K "_law_take" "_law_take" t__law_take f fd ∧ Binds K fd ["tape", "many"] []
  d__law_bits : ∃ (f : Addr) (fd : FuncData), mg "_law_bits" = some (.ref f) ∧ Fun K "_law_bits" "_law_bits" t__law_bits f fd ∧ Binds K fd ["tape", "most"] []
  d_is_bits : ∃ (f : Addr) (fd : FuncData), mg "is_bits" = some (.ref f) ∧ Fun K "is_bits" "is_bits" t_is_bits f fd ∧ Binds K fd ["text"] []
  d_check_bits : ∃ (f : Addr) (fd : FuncData), mg "check_bits" = some (.ref f) ∧ Fun K "check_bits" "check_bits" t_check_bits f fd ∧ Binds K fd ["text"] []
  d_check_divisor : ∃ (f : Addr) (fd : FuncData), mg "check_divisor" = some (.ref f) ∧ Fun K "check_divisor" "check_divisor" t_check_divisor f fd ∧ Binds K fd ["divisor"] []
  d_number_of : ∃ (f : Addr) (fd : FuncData), mg "number_of" = some (.ref f) ∧ Fun K "number_of" "number_of" t_number_of f fd ∧ Binds K fd ["bits"] []
  d_first_turn_of : ∃ (f : Addr) (fd : FuncData), mg "first_turn_of" = some (.ref f) ∧ Fun K "first_turn_of" "first_turn_of" t_first_turn_of f fd ∧ Binds K fd ["divisor"] []
  d__law_turn : ∃ (f : Addr) (fd : FuncData), mg "_law_turn" = some (.ref f) ∧ Fun K "_law_turn" "_law_turn" t__law_turn f fd ∧ Binds K fd ["bits", "at"] []
  d__law_far : ∃ (f : Addr) (fd : FuncData), mg "_law_far" = some (.ref f) ∧ Fun K "_law_far" "_law_far" t__law_far f fd ∧ Binds K fd ["one", "other"] []
  d__law_distances : ∃ (f : Addr) (fd : FuncData), mg "_law_distances" = some (.ref f) ∧ Fun K "_law_distances" "_law_distances" t__law_distances f fd ∧ Binds K fd ["words"] []
  d__law_rest : ∃ (f : Addr) (fd : FuncData), mg "_law_rest" = some (.ref f) ∧ Fun K "_law_rest" "_law_rest" t__law_rest f fd ∧ Binds K fd ["bits", "divisor"] []
  d_check_words : ∃ (f : Addr) (fd : FuncData), mg "check_words" = some (.ref f) ∧ Fun K "check_words" "check_words" t_check_words f fd ∧ Binds K fd ["words"] []
  d_distance : ∃ (f : Addr) (fd : FuncData), mg "distance" = some (.ref f) ∧ Fun K "distance" "distance" t_distance f fd ∧ Binds K fd ["one", "other"] []
  d_nearest : ∃ (f : Addr) (fd : FuncData), mg "nearest" = some (.ref f) ∧ Fun K "nearest" "nearest" t_nearest f fd ∧ Binds K fd ["words", "bits"] []
  d_surely : ∃ (f : Addr) (fd : FuncData), mg "surely" = some (.ref f) ∧ Fun K "surely" "surely" t_surely f fd ∧ Binds K fd ["words", "bits"] []
  d_bits_of : ∃ (f : Addr) (fd : FuncData), mg "bits_of" = some (.ref f) ∧ Fun K "bits_of" "bits_of" t_bits_of f fd ∧ Binds K fd ["number", "width"] []
  d_rest_of : ∃ (f : Addr) (fd : FuncData), mg "rest_of" = some (.ref f) ∧ Fun K "rest_of" "rest_of" t_rest_of f fd ∧ Binds K fd ["bits", "divisor"] []
  d_guarded : ∃ (f : Addr) (fd : FuncData), mg "guarded" = some (.ref f) ∧ Fun K "guarded" "guarded" t_guarded f fd ∧ Binds K fd ["bits", "divisor"] []
  d_is_whole : ∃ (f : Addr) (fd : FuncData), mg "is_whole" = some (.ref f) ∧ Fun K "is_whole" "is_whole" t_is_whole f fd ∧ Binds K fd ["bits", "divisor"] []
  d_unguarded : ∃ (f : Addr) (fd : FuncData), mg "unguarded" = some (.ref f) ∧ Fun K "unguarded" "unguarded" t_unguarded f fd ∧ Binds K fd ["bits", "divisor"] []
  d_least_distance : ∃ (f : Addr) (fd : FuncData), mg "least_distance" = some (.ref f) ∧ Fun K "least_distance" "least_distance" t_least_distance f fd ∧ Binds K fd ["words"] []
  d_mended_by : ∃ (f : Addr) (fd : FuncData), mg "mended_by" = some (.ref f) ∧ Fun K "mended_by" "mended_by" t_mended_by f fd ∧ Binds K fd ["words"] []
  d__law_code : ∃ (f : Addr) (fd : FuncData), mg "_law_code" = some (.ref f) ∧ Fun K "_law_code" "_law_code" t__law_code f fd ∧ Binds K fd ["call"] []
  b_abs : mg "abs" = none
  b_all : mg "all" = none
  b_enumerate : mg "enumerate" = none
  b_int : mg "int" = none
  b_len : mg "len" = none
  b_min : mg "min" = none
  b_range : mg "range" = none
  b_set : mg "set" = none
  b_str : mg "str" = none
  b_tuple : mg "tuple" = none
  b_zip : mg "zip" = none
  g_MOST_BITS : ∃ (u : Value) (v : V), mg "MOST_BITS" = some u ∧ RelV v u ∧ KRep K v G_MOST_BITS
  g_MOST_SIZE : ∃ (u : Value) (v : V), mg "MOST_SIZE" = some u ∧ RelV v u ∧ KRep K v G_MOST_SIZE
  x_InvalidBits : ∃ C : Addr, PySem.W.excIn K C [.type "ValueError", .type "Exception", .type "BaseException", .type "object"] "ValueError.__new__" = true ∧ mg "InvalidBits" = some (.ref C) ∧ PySem.W.keepIn K (.ref C) = true ∧ PySem.W.subIn K (.ref C) (.type "BaseException") = some true ∧ PySem.W.typeIn K (.ref C) = some (.type "type")
  x_InvalidCode : ∃ C : Addr, PySem.W.excIn K C [.type "ValueError", .type "Exception", .type "BaseException", .type "object"] "ValueError.__new__" = true ∧ mg "InvalidCode" = some (.ref C) ∧ PySem.W.keepIn K (.ref C) = true ∧ PySem.W.subIn K (.ref C) (.type "BaseException") = some true ∧ PySem.W.typeIn K (.ref C) = some (.type "type")
  x_InvalidNumber : ∃ C : Addr, PySem.W.excIn K C [.type "ValueError", .type "Exception", .type "BaseException", .type "object"] "ValueError.__new__" = true ∧ mg "InvalidNumber" = some (.ref C) ∧ PySem.W.keepIn K (.ref C) = true ∧ PySem.W.subIn K (.ref C) (.type "BaseException") = some true ∧ PySem.W.typeIn K (.ref C) = some (.type "type")
  sub : SubOk K mg subT

end K23

-- K23Fis_bits
set_option Elab.async false
set_option linter.all false
set_option maxRecDepth 100000
set_option maxHeartbeats 0
namespace K23
open DL PySem PySem.Spec PyProof.Rows L2
section
variable {P : Program} {w : World} {K : PySem.W.Frag} {mg : Str → Option Value} {base : Heap} {T : Tb}
theorem fn_is_bits (Fx : TX P w K mg base T) : FnD P w K mg base T 1 "is_bits" 1 .S M_is_bits := by
  obtain ⟨f, fd, hm, Fn, b⟩ := Fx.d_is_bits
  have hb_all := Fx.b_all
  refine fnD_of Fn hm sc_is_bits b fun cdv A outer s H E ds hl hr => ?_
  have nd := sc_is_bits.nd
  have tk := takes_cx (P := P) (w := w) (K := K) (mg := mg) (base := base) (N := ["text", "sign"]) (q := "is_bits") (scope := defScope t_is_bits) (f := f) (cd := cdv) (A := A) (outer := outer) (s := s) (H := H) (E := E)
  have hu1 := hr.u1
  have hu64 := hr.u64
  have hu65 := hr.u65
  match ds, hl with
  | [a0], _ => exact ⟨B_is_bits a0, (by exact ds_env (e' := [.sh (a0), .no]) rfl (dss_ret (us := []) (de_c1B (c_all rfl) bt_all hb_all (DE.toB (de_lc [("sign", 1)] (di_any (DE.toB (de_v (i := 0) rfl (by kernel_rfl) (by exact vis_of (by kernel_rfl)) (by kernel_rfl) (by kernel_rfl))) (.inr rfl)) (fun q => (gt_nm (i := 1) nd (by kernel_rfl) (by exact loc_of (by kernel_rfl)) (by first | exact .inl rfl | exact .inr rfl))) (fun d2 => cb_nm (cb_mk (env2 := [.sh (a0), .sh (d2)]) (fun q => .nil) (fun q => de_cmp (o_in hu65) (DE.toB (de_v (i := 1) rfl (by kernel_rfl) (by exact vis_of (by kernel_rfl)) (by kernel_rfl) (by kernel_rfl))) (DE.toB (de_str (s := [48, 49]) (by kernel_rfl) (by kernel_rfl))) (by first | exact nomark _ | rfl)))) rfl nd (blkOk_by (by kernel_rfl)) (by decide) (by intro _; kernel_rfl))) (by exact gl_of (by kernel_rfl)) (by exact ne_name (by kernel_rfl)) (by kernel_rfl) (by kernel_rfl) (by kernel_rfl)) trivial io0)), rfl, nofun⟩
end
end K23

-- K23Fcheck_bits
set_option Elab.async false
set_option linter.all false
set_option maxRecDepth 100000
set_option maxHeartbeats 0
namespace K23
open DL PySem PySem.Spec PyProof.Rows L2
section
variable {P : Program} {w : World} {K : PySem.W.Frag} {mg : Str → Option Value} {base : Heap} {T : Tb}
theorem fn_check_bits (Fx : TX P w K mg base T) : FnD P w K mg base T 2 "check_bits" 1 .S M_check_bits := by
  obtain ⟨f, fd, hm, Fn, b⟩ := Fx.d_check_bits
  have hb_len := Fx.b_len
  obtain ⟨_, _, hg_MOST_BITS⟩ := Fx.g_MOST_BITS
  obtain ⟨_, hx_InvalidBits⟩ := Fx.x_InvalidBits
  refine fnD_of Fn hm sc_check_bits b fun cdv A outer s H E ds hl hr => ?_
  have nd := sc_check_bits.nd
  have tk := takes_cx (P := P) (w := w) (K := K) (mg := mg) (base := base) (N := ["text"]) (q := "check_bits") (scope := defScope t_check_bits) (f := f) (cd := cdv) (A := A) (outer := outer) (s := s) (H := H) (E := E)
  have hu1 := hr.u1
  have hu64 := hr.u64
  have hu65 := hr.u65
  match ds, hl with
  | [a0], _ => exact ⟨B_check_bits a0, (by exact ds_env (e' := [.sh (a0)]) rfl (dss_ifR (dt_w (dw_or (dt_cmp o_gt (DE.toB (de_c1B c_len bt_len hb_len (DE.toB (de_v (i := 0) rfl (by kernel_rfl) (by exact vis_of (by kernel_rfl)) (by kernel_rfl) (by kernel_rfl))) (by exact gl_of (by kernel_rfl)) (by exact ne_name (by kernel_rfl)) (by kernel_rfl) (by kernel_rfl) (by kernel_rfl))) (DE.toB (de_glob hg_MOST_BITS.1 hg_MOST_BITS.2.1 hg_MOST_BITS.2.2 (by exact gl_of (by kernel_rfl)) (by kernel_rfl))) (by first | exact nomark _ | rfl)) (dw_or1 (dt_not (dt_tru (DE.toB (de_call (fn_is_bits Fx) hr tk (da_cons (de_v (i := 0) rfl (by kernel_rfl) (by exact vis_of (by kernel_rfl)) (by kernel_rfl) (by kernel_rfl)) (da_nil) (by kernel_rfl)) (by omega) (by kernel_rfl) (by exact gl_of (by kernel_rfl)) (by kernel_rfl) (by kernel_rfl) (by kernel_rfl))) (by intro _; kernel_rfl)))))) (by exact ds_env (e' := [.sh (a0)]) rfl (dss_raise tk trivial rfl PySem.F.excBase_ValueError hx_InvalidBits.1 hx_InvalidBits.2.1 hx_InvalidBits.2.2.1 (raises_own hx_InvalidBits.2.2.2.1 hx_InvalidBits.2.2.2.2) (by exact gl_of (by kernel_rfl)) (by kernel_rfl))) (by exact ds_env (e' := [.sh (a0)]) rfl (dss_nil (s := ()) (.no .nil))) trivial)), rfl, nofun⟩
end
end K23

-- K23Fcheck_divisor
set_option Elab.async false
set_option linter.all false
set_option maxRecDepth 100000
set_option maxHeartbeats 0
namespace K23
open DL PySem PySem.Spec PyProof.Rows L2
section
variable {P : Program} {w : World} {K : PySem.W.Frag} {mg : Str → Option Value} {base : Heap} {T : Tb}
theorem fn_check_divisor (Fx : TX P w K mg base T) : FnD P w K mg base T 3 "check_divisor" 1 .S M_check_divisor := by
  obtain ⟨f, fd, hm, Fn, b⟩ := Fx.d_check_divisor
  have hb_len := Fx.b_len
  obtain ⟨_, hx_InvalidBits⟩ := Fx.x_InvalidBits
  refine fnD_of Fn hm sc_check_divisor b fun cdv A outer s H E ds hl hr => ?_
  have nd := sc_check_divisor.nd
  have tk := takes_cx (P := P) (w := w) (K := K) (mg := mg) (base := base) (N := ["divisor"]) (q := "check_divisor") (scope := defScope t_check_divisor) (f := f) (cd := cdv) (A := A) (outer := outer) (s := s) (H := H) (E := E)
  have hu1 := hr.u1
  have hu64 := hr.u64
  have hu65 := hr.u65
  match ds, hl with
  | [a0], _ => exact ⟨B_check_divisor a0, (by exact ds_env (e' := [.sh (a0)]) rfl (dss_expr (de_call (fn_check_bits Fx) hr tk (da_cons (de_v (i := 0) rfl (by kernel_rfl) (by exact vis_of (by kernel_rfl)) (by kernel_rfl) (by kernel_rfl)) (da_nil) (by kernel_rfl)) (by omega) (by kernel_rfl) (by exact gl_of (by kernel_rfl)) (by kernel_rfl) (by kernel_rfl) (by kernel_rfl)) (by exact ds_env (e' := [.sh (a0)]) rfl (dss_ifR (dt_w (dw_or (dt_not (dt_chain o_le o_le (DE.toB (de_int)) (DE.toB (de_c1B c_len bt_len hb_len (DE.toB (de_v (i := 0) rfl (by kernel_rfl) (by exact vis_of (by kernel_rfl)) (by kernel_rfl) (by kernel_rfl))) (by exact gl_of (by kernel_rfl)) (by exact ne_name (by kernel_rfl)) (by kernel_rfl) (by kernel_rfl) (by kernel_rfl))) (DE.toB (de_int)) (by exact pt_chain op_wp op_wp pe_wp pe_wp pe_wp))) (dw_or (dt_cmp (o_ne hu64) (DE.toB (de_ix (DE.toB (de_v (i := 0) rfl (by kernel_rfl) (by exact vis_of (by kernel_rfl)) (by kernel_rfl) (by kernel_rfl))) (DE.toB (de_int)) (by intro _ _; kernel_rfl))) (DE.toB (de_str (s := [49]) (by kernel_rfl) (by kernel_rfl))) (by first | exact nomark _ | rfl)) (dw_or1 (dt_cmp (o_ne hu64) (DE.toB (de_ix (DE.toB (de_v (i := 0) rfl (by kernel_rfl) (by exact vis_of (by kernel_rfl)) (by kernel_rfl) (by kernel_rfl))) (DE.toB (de_neg (de_int))) (by intro _ _; kernel_rfl))) (DE.toB (de_str (s := [49]) (by kernel_rfl) (by kernel_rfl))) (by first | exact nomark _ | rfl)))))) (by exact ds_env (e' := [.sh (a0)]) rfl (dss_raise tk trivial rfl PySem.F.excBase_ValueError hx_InvalidBits.1 hx_InvalidBits.2.1 hx_InvalidBits.2.2.1 (raises_own hx_InvalidBits.2.2.2.1 hx_InvalidBits.2.2.2.2) (by exact gl_of (by kernel_rfl)) (by kernel_rfl))) (by exact ds_env (e' := [.sh (a0)]) rfl (dss_nil (s := ()) (.no .nil))) trivial)) trivial (by kernel_rfl))), rfl, nofun⟩
end
end K23

-- K23Fnumber_of
set_option Elab.async false
set_option linter.all false
set_option maxRecDepth 100000
set_option maxHeartbeats 0
namespace K23
open DL PySem PySem.Spec PyProof.Rows L2
section
variable {P : Program} {w : World} {K : PySem.W.Frag} {mg : Str → Option Value} {base : Heap} {T : Tb}
theorem fn_number_of (Fx : TX P w K mg base T) : FnD P w K mg base T 3 "number_of" 1 .S M_number_of := by
  obtain ⟨f, fd, hm, Fn, b⟩ := Fx.d_number_of
  have hb_int := Fx.b_int
  refine fnD_of Fn hm sc_number_of b fun cdv A outer s H E ds hl hr => ?_
  have nd := sc_number_of.nd
  have tk := takes_cx (P := P) (w := w) (K := K) (mg := mg) (base := base) (N := ["bits", "number", "bit"]) (q := "number_of") (scope := defScope t_number_of) (f := f) (cd := cdv) (A := A) (outer := outer) (s := s) (H := H) (E := E)
  have hu1 := hr.u1
  have hu64 := hr.u64
  have hu65 := hr.u65
  match ds, hl with
  | [a0], _ => exact ⟨B_number_of a0, (by exact ds_env (e' := [.sh (a0), .no, .no]) rfl (dss_expr (de_call (fn_check_bits Fx) hr tk (da_cons (de_v (i := 0) rfl (by kernel_rfl) (by exact vis_of (by kernel_rfl)) (by kernel_rfl) (by kernel_rfl)) (da_nil) (by kernel_rfl)) (by omega) (by kernel_rfl) (by exact gl_of (by kernel_rfl)) (by kernel_rfl) (by kernel_rfl) (by kernel_rfl)) (by exact ds_env (e' := [.sh (a0), .no, .no]) rfl (dss_set (i := 1) (de_int) (fun v3 => by exact ds_env (e' := [.sh (a0), .sh (v3), .no]) rfl (dss_for (pt := (Pat.nm 2)) (injb := (fun (s4 : D) => [.sh (a0), .sh (s4), .no])) (s0 := (v3)) (di_any (de_v (i := 0) rfl (by kernel_rfl) (by exact vis_of (by kernel_rfl)) (by kernel_rfl) (by kernel_rfl)) (.inl rfl)) (gt_nm (i := 2) nd (by kernel_rfl) (by exact loc_of (by kernel_rfl)) (by first | exact .inl rfl | exact .inr rfl)) (fun d7 s5 => dso_nm (by exact ds_env (e' := [.sh (a0), .sh (s5), .sh (d7)]) rfl (dss_set (i := 1) (de_op o_add (DE.toB (de_op o_mul (DE.toB (de_int)) (DE.toB (de_v (i := 1) rfl (by kernel_rfl) (by exact vis_of (by kernel_rfl)) (by kernel_rfl) (by kernel_rfl))))) (DE.toB (de_c1T c_int bt_int hb_int (DE.toB (de_v (i := 2) rfl (by kernel_rfl) (by exact vis_of (by kernel_rfl)) (by kernel_rfl) (by kernel_rfl))) (by exact gl_of (by kernel_rfl)) (by exact ne_name (by kernel_rfl)) (by kernel_rfl) (by kernel_rfl) (by kernel_rfl)))) (fun v8 => by exact ds_env (e' := [.sh (a0), .sh (v8), .sh (d7)]) rfl (dss_nil (s := (v8)) (.eq (.eq (.no .nil))))) trivial nd (by kernel_rfl) (by exact loc_of (by kernel_rfl)) (by decide) (by kernel_rfl) (by first | exact .inl rfl | exact .inr rfl)))) (fun s14 => by exact ds_env (e' := [.sh (a0), .sh (s14), .no]) rfl (dss_ret (us := []) (de_v (i := 1) rfl (by kernel_rfl) (by exact vis_of (by kernel_rfl)) (by kernel_rfl) (by kernel_rfl)) trivial io0)) (.eq (.eq (.no .nil))) trivial owns_cx rfl (by decide) (by intro _; kernel_rfl))) trivial nd (by kernel_rfl) (by exact loc_of (by kernel_rfl)) (by decide) (by kernel_rfl) (by first | exact .inl rfl | exact .inr rfl))) trivial (by kernel_rfl))), rfl, nofun⟩
end
end K23

-- K23Ffirst_turn_of
set_option Elab.async false
set_option linter.all false
set_option maxRecDepth 100000
set_option maxHeartbeats 0
namespace K23
open DL PySem PySem.Spec PyProof.Rows L2
section
variable {P : Program} {w : World} {K : PySem.W.Frag} {mg : Str → Option Value} {base : Heap} {T : Tb}
theorem fn_first_turn_of (Fx : TX P w K mg base T) : FnD P w K mg base T 4 "first_turn_of" 1 .S M_first_turn_of := by
  obtain ⟨f, fd, hm, Fn, b⟩ := Fx.d_first_turn_of
  have hb_len := Fx.b_len
  refine fnD_of Fn hm sc_first_turn_of b fun cdv A outer s H E ds hl hr => ?_
  have nd := sc_first_turn_of.nd
  have tk := takes_cx (P := P) (w := w) (K := K) (mg := mg) (base := base) (N := ["divisor", "size", "high", "whole", "state", "many"]) (q := "first_turn_of") (scope := defScope t_first_turn_of) (f := f) (cd := cdv) (A := A) (outer := outer) (s := s) (H := H) (E := E)
  have hu1 := hr.u1
  have hu64 := hr.u64
  have hu65 := hr.u65
  match ds, hl with
  | [a0], _ => exact ⟨B_first_turn_of a0, (by exact ds_env (e' := [.sh (a0), .no, .no, .no, .no, .no]) rfl (dss_expr (de_call (fn_check_divisor Fx) hr tk (da_cons (de_v (i := 0) rfl (by kernel_rfl) (by exact vis_of (by kernel_rfl)) (by kernel_rfl) (by kernel_rfl)) (da_nil) (by kernel_rfl)) (by omega) (by kernel_rfl) (by exact gl_of (by kernel_rfl)) (by kernel_rfl) (by kernel_rfl) (by kernel_rfl)) (by exact ds_env (e' := [.sh (a0), .no, .no, .no, .no, .no]) rfl (dss_set (i := 1) (de_op o_sub (DE.toB (de_c1B c_len bt_len hb_len (DE.toB (de_v (i := 0) rfl (by kernel_rfl) (by exact vis_of (by kernel_rfl)) (by kernel_rfl) (by kernel_rfl))) (by exact gl_of (by kernel_rfl)) (by exact ne_name (by kernel_rfl)) (by kernel_rfl) (by kernel_rfl) (by kernel_rfl))) (DE.toB (de_int))) (fun v3 => by exact ds_env (e' := [.sh (a0), .sh (v3), .no, .no, .no, .no]) rfl (dss_parL (i := 2) (j := 3) (da_cons (de_op o_shl (DE.toB (de_int)) (DE.toB (de_v (i := 1) rfl (by kernel_rfl) (by exact vis_of (by kernel_rfl)) (by kernel_rfl) (by kernel_rfl)))) (da_cons (de_call (fn_number_of Fx) hr tk (da_cons (de_v (i := 0) rfl (by kernel_rfl) (by exact vis_of (by kernel_rfl)) (by kernel_rfl) (by kernel_rfl)) (da_nil) (by kernel_rfl)) (by omega) (by kernel_rfl) (by exact gl_of (by kernel_rfl)) (by kernel_rfl) (by kernel_rfl) (by kernel_rfl)) (da_nil) (by kernel_rfl)) (by kernel_rfl)) (fun v12 v13 => by exact ds_env (e' := [.sh (a0), .sh (v3), .sh (v12), .sh (v13), .no, .no]) rfl (dss_set (i := 4) (de_int) (fun v14 => by exact ds_env (e' := [.sh (a0), .sh (v3), .sh (v12), .sh (v13), .sh (v14), .no]) rfl (dss_set (i := 5) (de_int) (fun v15 => by exact ds_env (e' := [.sh (a0), .sh (v3), .sh (v12), .sh (v13), .sh (v14), .sh (v15)]) rfl (dss_while (injb := (fun (s16 : D × D) => [.sh (a0), .sh (v3), .sh (v12), .sh (v13), .sh (s16.2), .sh (s16.1)])) (s0 := ((v15), (v14))) (n := szDs [a0, v3, v12, v13, v14, v15] + 1000) (fun s17 => dt_tru (DE.toB (de_bl)) (by intro _; kernel_rfl)) (fun s17 => by exact ds_env (e' := [.sh (a0), .sh (v3), .sh (v12), .sh (v13), .sh (s17.2), .sh (s17.1)]) rfl (dss_set (i := 4) (de_op o_mul (DE.toB (de_int)) (DE.toB (de_v (i := 4) rfl (by kernel_rfl) (by exact vis_of (by kernel_rfl)) (by kernel_rfl) (by kernel_rfl)))) (fun v19 => by exact ds_env (e' := [.sh (a0), .sh (v3), .sh (v12), .sh (v13), .sh (v19), .sh (s17.1)]) rfl (dss_aug (i := 5) (d0 := s17.1) rfl ip_add (de_int) (fun v20 => by exact ds_env (e' := [.sh (a0), .sh (v3), .sh (v12), .sh (v13), .sh (v19), .sh (v20)]) rfl (dss_if (inj1 := (fun (s31 : D) => [.sh (a0), .sh (v3), .sh (v12), .sh (v13), .sh (s31), .sh (v20)])) (dt_tru (DE.toB (de_op o_and (DE.toB (de_v (i := 4) rfl (by kernel_rfl) (by exact vis_of (by kernel_rfl)) (by kernel_rfl) (by kernel_rfl))) (DE.toB (de_v (i := 2) rfl (by kernel_rfl) (by exact vis_of (by kernel_rfl)) (by kernel_rfl) (by kernel_rfl))))) (by intro _; kernel_rfl)) (by exact ds_env (e' := [.sh (a0), .sh (v3), .sh (v12), .sh (v13), .sh (v19), .sh (v20)]) rfl (dss_set (i := 4) (de_op o_xor (DE.toB (de_v (i := 4) rfl (by kernel_rfl) (by exact vis_of (by kernel_rfl)) (by kernel_rfl) (by kernel_rfl))) (DE.toB (de_v (i := 3) rfl (by kernel_rfl) (by exact vis_of (by kernel_rfl)) (by kernel_rfl) (by kernel_rfl)))) (fun v25 => by exact ds_env (e' := [.sh (a0), .sh (v3), .sh (v12), .sh (v13), .sh (v25), .sh (v20)]) rfl (dss_nil (s := (v25)) (.eq (.eq (.eq (.eq (.eq (.eq .nil)))))))) trivial nd (by kernel_rfl) (by exact loc_of (by kernel_rfl)) (by decide) (by kernel_rfl) (by first | exact .inl rfl | exact .inr rfl))) (by exact ds_env (e' := [.sh (a0), .sh (v3), .sh (v12), .sh (v13), .sh (v19), .sh (v20)]) rfl (dss_nil (s := (v19)) (.eq (.eq (.eq (.eq (.eq (.eq .nil)))))))) (fun s28 => by exact ds_env (e' := [.sh (a0), .sh (v3), .sh (v12), .sh (v13), .sh (s28), .sh (v20)]) rfl (dss_ifR (dt_cmp (o_eq hu64) (DE.toB (de_v (i := 4) rfl (by kernel_rfl) (by exact vis_of (by kernel_rfl)) (by kernel_rfl) (by kernel_rfl))) (DE.toB (de_int)) (by first | exact nomark _ | rfl)) (by exact ds_env (e' := [.sh (a0), .sh (v3), .sh (v12), .sh (v13), .sh (s28), .sh (v20)]) rfl (dss_ret (us := []) (de_v (i := 5) rfl (by kernel_rfl) (by exact vis_of (by kernel_rfl)) (by kernel_rfl) (by kernel_rfl)) trivial io0)) (by exact ds_env (e' := [.sh (a0), .sh (v3), .sh (v12), .sh (v13), .sh (s28), .sh (v20)]) rfl (dss_nil (s := ((v20), (s28))) (.eq (.eq (.eq (.eq (.eq (.eq .nil)))))))) trivial)) trivial)) trivial nd (by kernel_rfl) (by exact loc_of (by kernel_rfl)) (by decide) (by first | exact .inl rfl | exact .inr rfl))) trivial nd (by kernel_rfl) (by exact loc_of (by kernel_rfl)) (by decide) (by kernel_rfl) (by first | exact .inl rfl | exact .inr rfl))) (fun s34 => by exact ds_env (e' := [.sh (a0), .sh (v3), .sh (v12), .sh (v13), .sh (s34.2), .sh (s34.1)]) rfl (dss_nil (s := ()) (.no (.no (.no (.no (.no (.no .nil)))))))) (.eq (.eq (.eq (.eq (.eq (.eq .nil)))))) trivial owns_cx)) trivial nd (by kernel_rfl) (by exact loc_of (by kernel_rfl)) (by decide) (by kernel_rfl) (by first | exact .inl rfl | exact .inr rfl))) trivial nd (by kernel_rfl) (by exact loc_of (by kernel_rfl)) (by decide) (by kernel_rfl) (by first | exact .inl rfl | exact .inr rfl))) trivial rfl nd (by kernel_rfl) (by kernel_rfl) (by decide) (by kernel_rfl) (by kernel_rfl) (by decide) (by decide) (by kernel_rfl) (by kernel_rfl))) trivial nd (by kernel_rfl) (by exact loc_of (by kernel_rfl)) (by decide) (by kernel_rfl) (by first | exact .inl rfl | exact .inr rfl))) trivial (by kernel_rfl))), rfl, nofun⟩
end
end K23

-- K23Fbits_of
set_option Elab.async false
set_option linter.all false
set_option maxRecDepth 100000
set_option maxHeartbeats 0
namespace K23
open DL PySem PySem.Spec PyProof.Rows L2
section
variable {P : Program} {w : World} {K : PySem.W.Frag} {mg : Str → Option Value} {base : Heap} {T : Tb}
theorem fn_bits_of (Fx : TX P w K mg base T) : FnD P w K mg base T 1 "bits_of" 2 .S M_bits_of := by
  obtain ⟨f, fd, hm, Fn, b⟩ := Fx.d_bits_of
  have hb_range := Fx.b_range
  obtain ⟨_, hx_InvalidNumber⟩ := Fx.x_InvalidNumber
  refine fnD_of Fn hm sc_bits_of b fun cdv A outer s H E ds hl hr => ?_
  have nd := sc_bits_of.nd
  have tk := takes_cx (P := P) (w := w) (K := K) (mg := mg) (base := base) (N := ["number", "width", "k"]) (q := "bits_of") (scope := defScope t_bits_of) (f := f) (cd := cdv) (A := A) (outer := outer) (s := s) (H := H) (E := E)
  have hu1 := hr.u1
  have hu64 := hr.u64
  have hu65 := hr.u65
  match ds, hl with
  | [a0, a1], _ => exact ⟨B_bits_of a0 a1, (by exact ds_env (e' := [.sh (a0), .sh (a1), .no]) rfl (dss_ifR (dt_w (dw_or (dt_cmp o_lt (DE.toB (de_v (i := 0) rfl (by kernel_rfl) (by exact vis_of (by kernel_rfl)) (by kernel_rfl) (by kernel_rfl))) (DE.toB (de_int)) (by first | exact nomark _ | rfl)) (dw_or (dt_cmp o_lt (DE.toB (de_v (i := 1) rfl (by kernel_rfl) (by exact vis_of (by kernel_rfl)) (by kernel_rfl) (by kernel_rfl))) (DE.toB (de_int)) (by first | exact nomark _ | rfl)) (dw_or1 (dt_cmp o_gt (DE.toB (de_op o_shr (DE.toB (de_v (i := 0) rfl (by kernel_rfl) (by exact vis_of (by kernel_rfl)) (by kernel_rfl) (by kernel_rfl))) (DE.toB (de_v (i := 1) rfl (by kernel_rfl) (by exact vis_of (by kernel_rfl)) (by kernel_rfl) (by kernel_rfl))))) (DE.toB (de_int)) (by first | exact nomark _ | rfl)))))) (by exact ds_env (e' := [.sh (a0), .sh (a1), .no]) rfl (dss_raise tk trivial rfl PySem.F.excBase_ValueError hx_InvalidNumber.1 hx_InvalidNumber.2.1 hx_InvalidNumber.2.2.1 (raises_own hx_InvalidNumber.2.2.2.1 hx_InvalidNumber.2.2.2.2) (by exact gl_of (by kernel_rfl)) (by kernel_rfl))) (by exact ds_env (e' := [.sh (a0), .sh (a1), .no]) rfl (dss_ret (us := []) (de_join (DE.toB (de_str (s := []) (by kernel_rfl) (by kernel_rfl))) (DE.toB (de_lc [("k", 2)] (di_r3 (md := .B) (de_op o_sub (DE.toB (de_v (i := 1) rfl (by kernel_rfl) (by exact vis_of (by kernel_rfl)) (by kernel_rfl) (by kernel_rfl))) (DE.toB (de_int))) (de_neg (de_int)) (de_neg (de_int)) hb_range (by exact gl_of (by kernel_rfl)) (by kernel_rfl) (by kernel_rfl) (by kernel_rfl) (by kernel_rfl)) (fun q => (gt_nm (i := 2) nd (by kernel_rfl) (by exact loc_of (by kernel_rfl)) (by first | exact .inl rfl | exact .inr rfl))) (fun d16 => cb_nm (cb_mk (env2 := [.sh (a0), .sh (a1), .sh (d16)]) (fun q => .nil) (fun q => de_if (dt_tru (DE.toB (de_op o_and (DE.toB (de_op o_shr (DE.toB (de_v (i := 0) rfl (by kernel_rfl) (by exact vis_of (by kernel_rfl)) (by kernel_rfl) (by kernel_rfl))) (DE.toB (de_v (i := 2) rfl (by kernel_rfl) (by exact vis_of (by kernel_rfl)) (by kernel_rfl) (by kernel_rfl))))) (DE.toB (de_int)))) (by intro _; kernel_rfl)) (de_str (s := [49]) (by kernel_rfl) (by kernel_rfl)) (de_str (s := [48]) (by kernel_rfl) (by kernel_rfl))))) rfl nd (blkOk_by (by kernel_rfl)) (by decide) (by intro _; kernel_rfl))) (by kernel_rfl) (by kernel_rfl) (by kernel_rfl)) trivial io0)) trivial)), rfl, nofun⟩
end
end K23

-- K23Frest_of
set_option Elab.async false
set_option linter.all false
set_option maxRecDepth 100000
set_option maxHeartbeats 0
namespace K23
open DL PySem PySem.Spec PyProof.Rows L2
section
variable {P : Program} {w : World} {K : PySem.W.Frag} {mg : Str → Option Value} {base : Heap} {T : Tb}
theorem fn_rest_of (Fx : TX P w K mg base T) : FnD P w K mg base T 4 "rest_of" 2 .S M_rest_of := by
  obtain ⟨f, fd, hm, Fn, b⟩ := Fx.d_rest_of
  have hb_int := Fx.b_int
  have hb_len := Fx.b_len
  refine fnD_of Fn hm sc_rest_of b fun cdv A outer s H E ds hl hr => ?_
  have nd := sc_rest_of.nd
  have tk := takes_cx (P := P) (w := w) (K := K) (mg := mg) (base := base) (N := ["bits", "divisor", "size", "state", "high", "whole", "bit"]) (q := "rest_of") (scope := defScope t_rest_of) (f := f) (cd := cdv) (A := A) (outer := outer) (s := s) (H := H) (E := E)
  have hu1 := hr.u1
  have hu64 := hr.u64
  have hu65 := hr.u65
  match ds, hl with
  | [a0, a1], _ => exact ⟨B_rest_of a0 a1, (by exact ds_env (e' := [.sh (a0), .sh (a1), .no, .no, .no, .no, .no]) rfl (dss_expr (de_call (fn_check_bits Fx) hr tk (da_cons (de_v (i := 0) rfl (by kernel_rfl) (by exact vis_of (by kernel_rfl)) (by kernel_rfl) (by kernel_rfl)) (da_nil) (by kernel_rfl)) (by omega) (by kernel_rfl) (by exact gl_of (by kernel_rfl)) (by kernel_rfl) (by kernel_rfl) (by kernel_rfl)) (by exact ds_env (e' := [.sh (a0), .sh (a1), .no, .no, .no, .no, .no]) rfl (dss_expr (de_call (fn_check_divisor Fx) hr tk (da_cons (de_v (i := 1) rfl (by kernel_rfl) (by exact vis_of (by kernel_rfl)) (by kernel_rfl) (by kernel_rfl)) (da_nil) (by kernel_rfl)) (by omega) (by kernel_rfl) (by exact gl_of (by kernel_rfl)) (by kernel_rfl) (by kernel_rfl) (by kernel_rfl)) (by exact ds_env (e' := [.sh (a0), .sh (a1), .no, .no, .no, .no, .no]) rfl (dss_set (i := 2) (de_op o_sub (DE.toB (de_c1B c_len bt_len hb_len (DE.toB (de_v (i := 1) rfl (by kernel_rfl) (by exact vis_of (by kernel_rfl)) (by kernel_rfl) (by kernel_rfl))) (by exact gl_of (by kernel_rfl)) (by exact ne_name (by kernel_rfl)) (by kernel_rfl) (by kernel_rfl) (by kernel_rfl))) (DE.toB (de_int))) (fun v5 => by exact ds_env (e' := [.sh (a0), .sh (a1), .sh (v5), .no, .no, .no, .no]) rfl (dss_set (i := 3) (de_int) (fun v6 => by exact ds_env (e' := [.sh (a0), .sh (a1), .sh (v5), .sh (v6), .no, .no, .no]) rfl (dss_parL (i := 4) (j := 5) (da_cons (de_op o_shl (DE.toB (de_int)) (DE.toB (de_v (i := 2) rfl (by kernel_rfl) (by exact vis_of (by kernel_rfl)) (by kernel_rfl) (by kernel_rfl)))) (da_cons (de_call (fn_number_of Fx) hr tk (da_cons (de_v (i := 1) rfl (by kernel_rfl) (by exact vis_of (by kernel_rfl)) (by kernel_rfl) (by kernel_rfl)) (da_nil) (by kernel_rfl)) (by omega) (by kernel_rfl) (by exact gl_of (by kernel_rfl)) (by kernel_rfl) (by kernel_rfl) (by kernel_rfl)) (da_nil) (by kernel_rfl)) (by kernel_rfl)) (fun v15 v16 => by exact ds_env (e' := [.sh (a0), .sh (a1), .sh (v5), .sh (v6), .sh (v15), .sh (v16), .no]) rfl (dss_for (pt := (Pat.nm 6)) (injb := (fun (s17 : D) => [.sh (a0), .sh (a1), .sh (v5), .sh (s17), .sh (v15), .sh (v16), .no])) (s0 := (v6)) (di_any (de_op o_add (DE.toB (de_v (i := 0) rfl (by kernel_rfl) (by exact vis_of (by kernel_rfl)) (by kernel_rfl) (by kernel_rfl))) (DE.toB (de_op o_mul (DE.toB (de_str (s := [48]) (by kernel_rfl) (by kernel_rfl))) (DE.toB (de_v (i := 2) rfl (by kernel_rfl) (by exact vis_of (by kernel_rfl)) (by kernel_rfl) (by kernel_rfl)))))) (.inl rfl)) (gt_nm (i := 6) nd (by kernel_rfl) (by exact loc_of (by kernel_rfl)) (by first | exact .inl rfl | exact .inr rfl)) (fun d24 s18 => dso_nm (by exact ds_env (e' := [.sh (a0), .sh (a1), .sh (v5), .sh (s18), .sh (v15), .sh (v16), .sh (d24)]) rfl (dss_set (i := 3) (de_op o_add (DE.toB (de_op o_mul (DE.toB (de_int)) (DE.toB (de_v (i := 3) rfl (by kernel_rfl) (by exact vis_of (by kernel_rfl)) (by kernel_rfl) (by kernel_rfl))))) (DE.toB (de_c1T c_int bt_int hb_int (DE.toB (de_v (i := 6) rfl (by kernel_rfl) (by exact vis_of (by kernel_rfl)) (by kernel_rfl) (by kernel_rfl))) (by exact gl_of (by kernel_rfl)) (by exact ne_name (by kernel_rfl)) (by kernel_rfl) (by kernel_rfl) (by kernel_rfl)))) (fun v25 => by exact ds_env (e' := [.sh (a0), .sh (a1), .sh (v5), .sh (v25), .sh (v15), .sh (v16), .sh (d24)]) rfl (dss_if (inj1 := (fun (s33 : D) => [.sh (a0), .sh (a1), .sh (v5), .sh (s33), .sh (v15), .sh (v16), .sh (d24)])) (dt_tru (DE.toB (de_op o_and (DE.toB (de_v (i := 3) rfl (by kernel_rfl) (by exact vis_of (by kernel_rfl)) (by kernel_rfl) (by kernel_rfl))) (DE.toB (de_v (i := 4) rfl (by kernel_rfl) (by exact vis_of (by kernel_rfl)) (by kernel_rfl) (by kernel_rfl))))) (by intro _; kernel_rfl)) (by exact ds_env (e' := [.sh (a0), .sh (a1), .sh (v5), .sh (v25), .sh (v15), .sh (v16), .sh (d24)]) rfl (dss_set (i := 3) (de_op o_xor (DE.toB (de_v (i := 3) rfl (by kernel_rfl) (by exact vis_of (by kernel_rfl)) (by kernel_rfl) (by kernel_rfl))) (DE.toB (de_v (i := 5) rfl (by kernel_rfl) (by exact vis_of (by kernel_rfl)) (by kernel_rfl) (by kernel_rfl)))) (fun v29 => by exact ds_env (e' := [.sh (a0), .sh (a1), .sh (v5), .sh (v29), .sh (v15), .sh (v16), .sh (d24)]) rfl (dss_nil (s := (v29)) (.eq (.eq (.eq (.eq (.eq (.eq (.eq .nil))))))))) trivial nd (by kernel_rfl) (by exact loc_of (by kernel_rfl)) (by decide) (by kernel_rfl) (by first | exact .inl rfl | exact .inr rfl))) (by exact ds_env (e' := [.sh (a0), .sh (a1), .sh (v5), .sh (v25), .sh (v15), .sh (v16), .sh (d24)]) rfl (dss_nil (s := (v25)) (.eq (.eq (.eq (.eq (.eq (.eq (.eq .nil))))))))) (fun s32 => by exact ds_env (e' := [.sh (a0), .sh (a1), .sh (v5), .sh (s32), .sh (v15), .sh (v16), .sh (d24)]) rfl (dss_nil (s := (s32)) (.eq (.eq (.eq (.eq (.eq (.eq (.no .nil))))))))) trivial)) trivial nd (by kernel_rfl) (by exact loc_of (by kernel_rfl)) (by decide) (by kernel_rfl) (by first | exact .inl rfl | exact .inr rfl)))) (fun s39 => by exact ds_env (e' := [.sh (a0), .sh (a1), .sh (v5), .sh (s39), .sh (v15), .sh (v16), .no]) rfl (dss_ret (us := []) (de_call (fn_bits_of Fx) hr tk (da_cons (de_v (i := 3) rfl (by kernel_rfl) (by exact vis_of (by kernel_rfl)) (by kernel_rfl) (by kernel_rfl)) (da_cons (de_v (i := 2) rfl (by kernel_rfl) (by exact vis_of (by kernel_rfl)) (by kernel_rfl) (by kernel_rfl)) (da_nil) (by kernel_rfl)) (by kernel_rfl)) (by omega) (by kernel_rfl) (by exact gl_of (by kernel_rfl)) (by kernel_rfl) (by kernel_rfl) (by kernel_rfl)) trivial io0)) (.eq (.eq (.eq (.eq (.eq (.eq (.no .nil))))))) trivial owns_cx rfl (by decide) (by intro _; kernel_rfl))) trivial rfl nd (by kernel_rfl) (by kernel_rfl) (by decide) (by kernel_rfl) (by kernel_rfl) (by decide) (by decide) (by kernel_rfl) (by kernel_rfl))) trivial nd (by kernel_rfl) (by exact loc_of (by kernel_rfl)) (by decide) (by kernel_rfl) (by first | exact .inl rfl | exact .inr rfl))) trivial nd (by kernel_rfl) (by exact loc_of (by kernel_rfl)) (by decide) (by kernel_rfl) (by first | exact .inl rfl | exact .inr rfl))) trivial (by kernel_rfl))) trivial (by kernel_rfl))), rfl, nofun⟩
end
end K23

-- K23Fguarded
set_option Elab.async false
set_option linter.all false
set_option maxRecDepth 100000
set_option maxHeartbeats 0
namespace K23
open DL PySem PySem.Spec PyProof.Rows L2
section
variable {P : Program} {w : World} {K : PySem.W.Frag} {mg : Str → Option Value} {base : Heap} {T : Tb}
theorem fn_guarded (Fx : TX P w K mg base T) : FnD P w K mg base T 5 "guarded" 2 .S M_guarded := by
  obtain ⟨f, fd, hm, Fn, b⟩ := Fx.d_guarded
  refine fnD_of Fn hm sc_guarded b fun cdv A outer s H E ds hl hr => ?_
  have nd := sc_guarded.nd
  have tk := takes_cx (P := P) (w := w) (K := K) (mg := mg) (base := base) (N := ["bits", "divisor"]) (q := "guarded") (scope := defScope t_guarded) (f := f) (cd := cdv) (A := A) (outer := outer) (s := s) (H := H) (E := E)
  have hu1 := hr.u1
  have hu64 := hr.u64
  have hu65 := hr.u65
  match ds, hl with
  | [a0, a1], _ => exact ⟨B_guarded a0 a1, (by exact ds_env (e' := [.sh (a0), .sh (a1)]) rfl (dss_ret (us := []) (de_op o_add (DE.toB (de_v (i := 0) rfl (by kernel_rfl) (by exact vis_of (by kernel_rfl)) (by kernel_rfl) (by kernel_rfl))) (DE.toB (de_call (fn_rest_of Fx) hr tk (da_cons (de_v (i := 0) rfl (by kernel_rfl) (by exact vis_of (by kernel_rfl)) (by kernel_rfl) (by kernel_rfl)) (da_cons (de_v (i := 1) rfl (by kernel_rfl) (by exact vis_of (by kernel_rfl)) (by kernel_rfl) (by kernel_rfl)) (da_nil) (by kernel_rfl)) (by kernel_rfl)) (by omega) (by kernel_rfl) (by exact gl_of (by kernel_rfl)) (by kernel_rfl) (by kernel_rfl) (by kernel_rfl)))) trivial io0)), rfl, nofun⟩
end
end K23

-- K23Fis_whole
set_option Elab.async false
set_option linter.all false
set_option maxRecDepth 100000
set_option maxHeartbeats 0
namespace K23
open DL PySem PySem.Spec PyProof.Rows L2
section
variable {P : Program} {w : World} {K : PySem.W.Frag} {mg : Str → Option Value} {base : Heap} {T : Tb}
theorem fn_is_whole (Fx : TX P w K mg base T) : FnD P w K mg base T 6 "is_whole" 2 .S M_is_whole := by
  obtain ⟨f, fd, hm, Fn, b⟩ := Fx.d_is_whole
  have hb_len := Fx.b_len
  refine fnD_of Fn hm sc_is_whole b fun cdv A outer s H E ds hl hr => ?_
  have nd := sc_is_whole.nd
  have tk := takes_cx (P := P) (w := w) (K := K) (mg := mg) (base := base) (N := ["bits", "divisor", "size"]) (q := "is_whole") (scope := defScope t_is_whole) (f := f) (cd := cdv) (A := A) (outer := outer) (s := s) (H := H) (E := E)
  have hu1 := hr.u1
  have hu64 := hr.u64
  have hu65 := hr.u65
  match ds, hl with
  | [a0, a1], _ => exact ⟨B_is_whole a0 a1, (by exact ds_env (e' := [.sh (a0), .sh (a1), .no]) rfl (dss_set (i := 2) (de_op o_sub (DE.toB (de_c1B c_len bt_len hb_len (DE.toB (de_v (i := 1) rfl (by kernel_rfl) (by exact vis_of (by kernel_rfl)) (by kernel_rfl) (by kernel_rfl))) (by exact gl_of (by kernel_rfl)) (by exact ne_name (by kernel_rfl)) (by kernel_rfl) (by kernel_rfl) (by kernel_rfl))) (DE.toB (de_int))) (fun v1 => by exact ds_env (e' := [.sh (a0), .sh (a1), .sh (v1)]) rfl (dss_ret (us := []) (de_andV (de_cmp o_ge (DE.toB (de_c1B c_len bt_len hb_len (DE.toB (de_v (i := 0) rfl (by kernel_rfl) (by exact vis_of (by kernel_rfl)) (by kernel_rfl) (by kernel_rfl))) (by exact gl_of (by kernel_rfl)) (by exact ne_name (by kernel_rfl)) (by kernel_rfl) (by kernel_rfl) (by kernel_rfl))) (DE.toB (de_v (i := 2) rfl (by kernel_rfl) (by exact vis_of (by kernel_rfl)) (by kernel_rfl) (by kernel_rfl))) (by first | exact nomark _ | rfl)) (de_one (de_cmp (o_eq hu64) (DE.toB (de_call (fn_guarded Fx) hr tk (da_cons (de_slc (DE.toB (de_v (i := 0) rfl (by kernel_rfl) (by exact vis_of (by kernel_rfl)) (by kernel_rfl) (by kernel_rfl))) (dp_none) (dp_some (de_op o_sub (DE.toB (de_c1B c_len bt_len hb_len (DE.toB (de_v (i := 0) rfl (by kernel_rfl) (by exact vis_of (by kernel_rfl)) (by kernel_rfl) (by kernel_rfl))) (by exact gl_of (by kernel_rfl)) (by exact ne_name (by kernel_rfl)) (by kernel_rfl) (by kernel_rfl) (by kernel_rfl))) (DE.toB (de_v (i := 2) rfl (by kernel_rfl) (by exact vis_of (by kernel_rfl)) (by kernel_rfl) (by kernel_rfl)))))) (da_cons (de_v (i := 1) rfl (by kernel_rfl) (by exact vis_of (by kernel_rfl)) (by kernel_rfl) (by kernel_rfl)) (da_nil) (by kernel_rfl)) (by kernel_rfl)) (by omega) (by kernel_rfl) (by exact gl_of (by kernel_rfl)) (by kernel_rfl) (by kernel_rfl) (by kernel_rfl))) (DE.toB (de_v (i := 0) rfl (by kernel_rfl) (by exact vis_of (by kernel_rfl)) (by kernel_rfl) (by kernel_rfl))) (by first | exact nomark _ | rfl)))) trivial io0)) trivial nd (by kernel_rfl) (by exact loc_of (by kernel_rfl)) (by decide) (by kernel_rfl) (by first | exact .inl rfl | exact .inr rfl))), rfl, nofun⟩
end
end K23

-- K23Flaw_take
set_option Elab.async false
set_option linter.all false
set_option maxRecDepth 100000
set_option maxHeartbeats 0
namespace K23
open DL PySem PySem.Spec PyProof.Rows L2
section
variable {P : Program} {w : World} {K : PySem.W.Frag} {mg : Str → Option Value} {base : Heap} {T : Tb}
theorem fn__law_take (Fx : TX P w K mg base T) : FnN P w K mg base T 1 "_law_take" 2 .S M__law_take := by
  obtain ⟨f, fd, hm, Fn, b⟩ := Fx.d__law_take
  have hb_int := Fx.b_int
  have hb_len := Fx.b_len
  refine fnN_of Fn hm sc__law_take b fun cdv A outer s H E ds hl hr => ?_
  have nd := sc__law_take.nd
  have tk := takes_cx (P := P) (w := w) (K := K) (mg := mg) (base := base) (N := ["tape", "many", "drawn", "mixed"]) (q := "_law_take") (scope := defScope t__law_take) (f := f) (cd := cdv) (A := A) (outer := outer) (s := s) (H := H) (E := E)
  have hu1 := hr.u1
  have hu64 := hr.u64
  have hu65 := hr.u65
  match ds, hl with
  | [a0, a1], _ =>
    cases a0 with
    | tape => exact ⟨B__law_take a1, (by exact sn_env (e' := [.sh (.tape), .sh (a1), .no, .no]) rfl (sn_tapeif (i := 0) rfl hu1 hb_len (by exact sn_env (e' := [.sh (.tape), .sh (a1), .no, .no]) rfl (sn_ifR (tn_cmp o_gt (EN.toB (en_tget (i := 0) rfl .left hu1 (by kernel_rfl) (by exact vis_of (by kernel_rfl)) (by kernel_rfl) (by kernel_rfl))) (en_of (DE.toB (de_int))) (by first | exact nomark _ | rfl)) (by exact sn_env (e' := [.sh (.tape), .sh (a1), .no, .no]) rfl (sn_set (i := 2) (en_op o_mod (EN.toB (en_c1T c_int bt_int hb_int (EN.toB (en_tget (i := 0) rfl .left hu1 (by kernel_rfl) (by exact vis_of (by kernel_rfl)) (by kernel_rfl) (by kernel_rfl))) (by exact gl_of (by kernel_rfl)) (by exact ne_name (by kernel_rfl)) (by kernel_rfl) (by kernel_rfl) (by kernel_rfl))) (fun _ => en_of (DE.toB (de_v (i := 1) rfl (by kernel_rfl) (by exact vis_of (by kernel_rfl)) (by kernel_rfl) (by kernel_rfl))))) (fun v3 => by exact sn_env (e' := [.sh (.tape), .sh (a1), .sh (v3), .no]) rfl (sn_tset (i := 0) rfl .left hu1 (en_op o_fdiv (EN.toB (en_tget (i := 0) rfl .left hu1 (by kernel_rfl) (by exact vis_of (by kernel_rfl)) (by kernel_rfl) (by kernel_rfl))) (fun _ => en_of (DE.toB (de_v (i := 1) rfl (by kernel_rfl) (by exact vis_of (by kernel_rfl)) (by kernel_rfl) (by kernel_rfl))))) (by exact sn_env (e' := [.sh (.tape), .sh (a1), .sh (v3), .no]) rfl (sn_ret (us := []) (en_of (de_v (i := 2) rfl (by kernel_rfl) (by exact vis_of (by kernel_rfl)) (by kernel_rfl) (by kernel_rfl))) trivial io0)) trivial (by kernel_rfl) (by exact vis_of (by kernel_rfl)) (by kernel_rfl) (by kernel_rfl) (by kernel_rfl))) trivial nd (by kernel_rfl) (by exact loc_of (by kernel_rfl)) (by decide) (by kernel_rfl) (by first | exact .inl rfl | exact .inr rfl))) (by exact sn_env (e' := [.sh (.tape), .sh (a1), .no, .no]) rfl (sn_tset (i := 0) rfl .salt hu1 (en_op o_add (EN.toB (en_tget (i := 0) rfl .salt hu1 (by kernel_rfl) (by exact vis_of (by kernel_rfl)) (by kernel_rfl) (by kernel_rfl))) (fun _ => en_of (DE.toB (de_int)))) (by exact sn_env (e' := [.sh (.tape), .sh (a1), .no, .no]) rfl (sn_set (i := 3) (en_op o_mod (EN.toB (en_c1T c_int bt_int hb_int (EN.toB (en_op o_add (EN.toB (en_op o_mul (EN.toB (en_tget (i := 0) rfl .seed hu1 (by kernel_rfl) (by exact vis_of (by kernel_rfl)) (by kernel_rfl) (by kernel_rfl))) (fun _ => en_of (DE.toB (de_int))))) (fun _ => EN.toB (en_op o_mul (EN.toB (en_tget (i := 0) rfl .salt hu1 (by kernel_rfl) (by exact vis_of (by kernel_rfl)) (by kernel_rfl) (by kernel_rfl))) (fun _ => en_of (DE.toB (de_int))))))) (by exact gl_of (by kernel_rfl)) (by exact ne_name (by kernel_rfl)) (by kernel_rfl) (by kernel_rfl) (by kernel_rfl))) (fun _ => en_of (DE.toB (de_int)))) (fun v11 => by exact sn_env (e' := [.sh (.tape), .sh (a1), .no, .sh (v11)]) rfl (sn_set (i := 3) (en_op o_mod (EN.toB (en_c1T c_int bt_int hb_int (EN.toB (en_op o_add (EN.toB (en_op o_add (en_of (DE.toB (de_op o_mul (DE.toB (de_v (i := 3) rfl (by kernel_rfl) (by exact vis_of (by kernel_rfl)) (by kernel_rfl) (by kernel_rfl))) (DE.toB (de_v (i := 3) rfl (by kernel_rfl) (by exact vis_of (by kernel_rfl)) (by kernel_rfl) (by kernel_rfl)))))) (fun _ => EN.toB (en_op o_mul (EN.toB (en_tget (i := 0) rfl .salt hu1 (by kernel_rfl) (by exact vis_of (by kernel_rfl)) (by kernel_rfl) (by kernel_rfl))) (fun _ => en_of (DE.toB (de_int))))))) (fun _ => en_of (DE.toB (de_int))))) (by exact gl_of (by kernel_rfl)) (by exact ne_name (by kernel_rfl)) (by kernel_rfl) (by kernel_rfl) (by kernel_rfl))) (fun _ => en_of (DE.toB (de_int)))) (fun v12 => by exact sn_env (e' := [.sh (.tape), .sh (a1), .no, .sh (v12)]) rfl (sn_ret (us := []) (en_of (de_op o_mod (DE.toB (de_c1T c_int bt_int hb_int (DE.toB (de_v (i := 3) rfl (by kernel_rfl) (by exact vis_of (by kernel_rfl)) (by kernel_rfl) (by kernel_rfl))) (by exact gl_of (by kernel_rfl)) (by exact ne_name (by kernel_rfl)) (by kernel_rfl) (by kernel_rfl) (by kernel_rfl))) (DE.toB (de_v (i := 1) rfl (by kernel_rfl) (by exact vis_of (by kernel_rfl)) (by kernel_rfl) (by kernel_rfl))))) trivial io0)) trivial nd (by kernel_rfl) (by exact loc_of (by kernel_rfl)) (by decide) (by kernel_rfl) (by first | exact .inl rfl | exact .inr rfl))) trivial nd (by kernel_rfl) (by exact loc_of (by kernel_rfl)) (by decide) (by kernel_rfl) (by first | exact .inl rfl | exact .inr rfl))) trivial (by kernel_rfl) (by exact vis_of (by kernel_rfl)) (by kernel_rfl) (by kernel_rfl) (by kernel_rfl))) trivial)) (by exact gl_of (by kernel_rfl)) (by kernel_rfl) (by exact vis_of (by kernel_rfl)) (by kernel_rfl) (by kernel_rfl) (by kernel_rfl) (by kernel_rfl))), fun _ h => h, nofun⟩
    | _ => exact ⟨N.l .st, sn_st, fun _ h => h, nofun⟩
end
end K23

-- K23Flaw_bits
set_option Elab.async false
set_option linter.all false
set_option maxRecDepth 100000
set_option maxHeartbeats 0
namespace K23
open DL PySem PySem.Spec PyProof.Rows L2
section
variable {P : Program} {w : World} {K : PySem.W.Frag} {mg : Str → Option Value} {base : Heap} {T : Tb}
theorem fn__law_bits (Fx : TX P w K mg base T) : FnN P w K mg base T 2 "_law_bits" 2 .S M__law_bits := by
  obtain ⟨f, fd, hm, Fn, b⟩ := Fx.d__law_bits
  have hb_range := Fx.b_range
  have hb_str := Fx.b_str
  refine fnN_of Fn hm sc__law_bits b fun cdv A outer s H E ds hl hr => ?_
  have nd := sc__law_bits.nd
  have tk := takes_cx (P := P) (w := w) (K := K) (mg := mg) (base := base) (N := ["tape", "most", "k"]) (q := "_law_bits") (scope := defScope t__law_bits) (f := f) (cd := cdv) (A := A) (outer := outer) (s := s) (H := H) (E := E)
  have hu1 := hr.u1
  have hu64 := hr.u64
  have hu65 := hr.u65
  match ds, hl with
  | [a0, a1], _ => exact ⟨B__law_bits a0 a1, (by exact sn_env (e' := [.sh (a0), .sh (a1), .no]) rfl (sn_ret (us := []) (en_join (en_of (DE.toB (de_str (s := []) (by kernel_rfl) (by kernel_rfl)))) (EN.toB (en_lc [("k", 2)] (in_r1 (md := .B) (en_call (fn__law_take Fx) hr tk (an_of (da_cons (de_v (i := 0) rfl (by kernel_rfl) (by exact vis_of (by kernel_rfl)) (by kernel_rfl) (by kernel_rfl)) (da_cons (de_op o_add (DE.toB (de_v (i := 1) rfl (by kernel_rfl) (by exact vis_of (by kernel_rfl)) (by kernel_rfl) (by kernel_rfl))) (DE.toB (de_int))) (da_nil) (by kernel_rfl)) (by kernel_rfl))) (by omega) (by kernel_rfl) (by exact gl_of (by kernel_rfl)) (by kernel_rfl) (by kernel_rfl) (by kernel_rfl)) hb_range (by exact gl_of (by kernel_rfl)) (by kernel_rfl)) (fun q => (gt_nm (i := 2) nd (by kernel_rfl) (by exact loc_of (by kernel_rfl)) (by first | exact .inl rfl | exact .inr rfl))) (fun d8 => cn_nm (cn_mk (env2 := [.sh (a0), .sh (a1), .sh (d8)]) (fun q => .nil) (fun q => en_c1T c_str bt_str hb_str (EN.toB (en_call (fn__law_take Fx) hr takes_none5 (an_of (da_cons (de_v (i := 0) rfl (by kernel_rfl) (by exact vis_of (by kernel_rfl)) (by kernel_rfl) (by kernel_rfl)) (da_cons (de_int) (da_nil) (by kernel_rfl)) (by kernel_rfl))) (by omega) (by kernel_rfl) (by exact gl_of (by kernel_rfl)) (by kernel_rfl) (by kernel_rfl) (by kernel_rfl))) (by exact gl_of (by kernel_rfl)) (by exact ne_name (by kernel_rfl)) (by kernel_rfl) (by kernel_rfl) (by kernel_rfl)))) rfl nd (blkOk_by (by kernel_rfl)) (by decide) (by intro _; kernel_rfl))) (by kernel_rfl) (by kernel_rfl) (by kernel_rfl)) trivial io0)), fun _ h => h, nofun⟩
end
end K23

-- K23Flaw_code
set_option Elab.async false
set_option linter.all false
set_option maxRecDepth 100000
set_option maxHeartbeats 0
namespace K23
open DL PySem PySem.Spec PyProof.Rows L2
section
variable {P : Program} {w : World} {K : PySem.W.Frag} {mg : Str → Option Value} {base : Heap} {T : Tb}
theorem lf__law_code (Fx : TX P w K mg base T) {X : Cx} (hK : X.K = K) (hmg : X.mg = mg) : LamFn X T "_law_code" ans__law_code := by
  subst hK hmg
  obtain ⟨g, fd, hm, Fn, b⟩ := Fx.d__law_code
  obtain ⟨⟨oc, od, kV, doc, pm, an, cdv, ct, osl, rfl, lk, hcd⟩, kp⟩ := Fn
  have hx_InvalidBits : ∃ C : Addr, X.mg "InvalidBits" = some (.ref C) := by first | exact Fx.x_InvalidBits | exact ⟨_, Fx.x_InvalidBits.choose_spec.2.1⟩
  obtain ⟨C_InvalidBits, hc_InvalidBits⟩ := hx_InvalidBits
  have hx_InvalidCode : ∃ C : Addr, X.mg "InvalidCode" = some (.ref C) := by first | exact Fx.x_InvalidCode | exact ⟨_, Fx.x_InvalidCode.choose_spec.2.1⟩
  obtain ⟨C_InvalidCode, hc_InvalidCode⟩ := hx_InvalidCode
  exact ⟨g, "call", _, _, _, _, _, _, _, _, _, _, _, _, _, ["call"], _, hm, kp, lk, hcd, b, sc__law_code, rfl, .inl rfl, by decide, by decide, many_gives (.cons (e := "InvalidBits") (CS := C_InvalidBits) rfl hc_InvalidBits rfl kon_str (.cons (e := "InvalidCode") (CS := C_InvalidCode) rfl hc_InvalidCode rfl kon_str .nil)) kon_str (fun _ => rfl) (fun _ => rfl), how_m Fx.sub (.cons hc_InvalidBits rfl (.cons hc_InvalidCode rfl .nil)) rfl⟩
end
end K23

-- K23Flaw_far
set_option Elab.async false
set_option linter.all false
set_option maxRecDepth 100000
set_option maxHeartbeats 0
namespace K23
open DL PySem PySem.Spec PyProof.Rows L2
section
variable {P : Program} {w : World} {K : PySem.W.Frag} {mg : Str → Option Value} {base : Heap} {T : Tb}
theorem fn__law_far (Fx : TX P w K mg base T) : FnD P w K mg base T 1 "_law_far" 2 .S M__law_far := by
  obtain ⟨f, fd, hm, Fn, b⟩ := Fx.d__law_far
  have hb_len := Fx.b_len
  have hb_range := Fx.b_range
  refine fnD_of Fn hm sc__law_far b fun cdv A outer s H E ds hl hr => ?_
  have nd := sc__law_far.nd
  have tk := takes_cx (P := P) (w := w) (K := K) (mg := mg) (base := base) (N := ["one", "other", "k"]) (q := "_law_far") (scope := defScope t__law_far) (f := f) (cd := cdv) (A := A) (outer := outer) (s := s) (H := H) (E := E)
  have hu1 := hr.u1
  have hu64 := hr.u64
  have hu65 := hr.u65
  match ds, hl with
  | [a0, a1], _ => exact ⟨B__law_far a0 a1, (by exact ds_env (e' := [.sh (a0), .sh (a1), .no]) rfl (dss_ret (us := []) (de_c1B c_len bt_len hb_len (DE.toB (de_lc [("k", 2)] (di_r1 (md := .B) (de_c1B c_len bt_len hb_len (DE.toB (de_v (i := 0) rfl (by kernel_rfl) (by exact vis_of (by kernel_rfl)) (by kernel_rfl) (by kernel_rfl))) (by exact gl_of (by kernel_rfl)) (by exact ne_name (by kernel_rfl)) (by kernel_rfl) (by kernel_rfl) (by kernel_rfl)) hb_range (by exact gl_of (by kernel_rfl)) (by kernel_rfl)) (fun q => (gt_nm (i := 2) nd (by kernel_rfl) (by exact loc_of (by kernel_rfl)) (by first | exact .inl rfl | exact .inr rfl))) (fun d3 => cb_nm (cb_mk (env2 := [.sh (a0), .sh (a1), .sh (d3)]) (fun q => .one (dt_cmp (o_ne hu64) (DE.toB (de_ix (DE.toB (de_v (i := 0) rfl (by kernel_rfl) (by exact vis_of (by kernel_rfl)) (by kernel_rfl) (by kernel_rfl))) (DE.toB (de_v (i := 2) rfl (by kernel_rfl) (by exact vis_of (by kernel_rfl)) (by kernel_rfl) (by kernel_rfl))) (by intro _ _; kernel_rfl))) (DE.toB (de_ix (DE.toB (de_v (i := 1) rfl (by kernel_rfl) (by exact vis_of (by kernel_rfl)) (by kernel_rfl) (by kernel_rfl))) (DE.toB (de_v (i := 2) rfl (by kernel_rfl) (by exact vis_of (by kernel_rfl)) (by kernel_rfl) (by kernel_rfl))) (by intro _ _; kernel_rfl))) (by first | exact nomark _ | rfl))) (fun q => de_v (i := 2) rfl (by kernel_rfl) (by exact vis_of (by kernel_rfl)) (by kernel_rfl) (by kernel_rfl)))) rfl nd (blkOk_by (by kernel_rfl)) (by decide) (by intro _; kernel_rfl))) (by exact gl_of (by kernel_rfl)) (by exact ne_name (by kernel_rfl)) (by kernel_rfl) (by kernel_rfl) (by kernel_rfl)) trivial io0)), rfl, nofun⟩
end
end K23

-- K23Flaw_distances
set_option Elab.async false
set_option linter.all false
set_option maxRecDepth 100000
set_option maxHeartbeats 0
namespace K23
open DL PySem PySem.Spec PyProof.Rows L2
section
variable {P : Program} {w : World} {K : PySem.W.Frag} {mg : Str → Option Value} {base : Heap} {T : Tb}
theorem fn__law_distances (Fx : TX P w K mg base T) : FnD P w K mg base T 2 "_law_distances" 1 .S M__law_distances := by
  obtain ⟨f, fd, hm, Fn, b⟩ := Fx.d__law_distances
  have hb_len := Fx.b_len
  have hb_range := Fx.b_range
  refine fnD_of Fn hm sc__law_distances b fun cdv A outer s H E ds hl hr => ?_
  have nd := sc__law_distances.nd
  have tk := takes_cx (P := P) (w := w) (K := K) (mg := mg) (base := base) (N := ["words", "found", "i", "j"]) (q := "_law_distances") (scope := defScope t__law_distances) (f := f) (cd := cdv) (A := A) (outer := outer) (s := s) (H := H) (E := E)
  have hu1 := hr.u1
  have hu64 := hr.u64
  have hu65 := hr.u65
  match ds, hl with
  | [a0], _ => exact ⟨B__law_distances a0, (by exact ds_env (e' := [.sh (a0), .no, .no, .no]) rfl (dss_set (i := 1) (DE.ofO (de_lst (da_nil) (by decide))) (fun v1 => by exact ds_env (e' := [.sh (a0), .sh (v1), .no, .no]) rfl (dss_for (pt := (Pat.nm 2)) (injb := (fun (s2 : D) => [.sh (a0), .sh (s2), .no, .no])) (s0 := (v1)) (di_r1 (md := .S) (de_c1B c_len bt_len hb_len (DE.toB (de_v (i := 0) rfl (by kernel_rfl) (by exact vis_of (by kernel_rfl)) (by kernel_rfl) (by kernel_rfl))) (by exact gl_of (by kernel_rfl)) (by exact ne_name (by kernel_rfl)) (by kernel_rfl) (by kernel_rfl) (by kernel_rfl)) hb_range (by exact gl_of (by kernel_rfl)) (by kernel_rfl)) (gt_nm (i := 2) nd (by kernel_rfl) (by exact loc_of (by kernel_rfl)) (by first | exact .inl rfl | exact .inr rfl)) (fun d6 s3 => dso_nm (by exact ds_env (e' := [.sh (a0), .sh (s3), .sh (d6), .no]) rfl (dss_set (i := 1) (de_op o_add (DE.toB (de_v (i := 1) rfl (by kernel_rfl) (by exact vis_of (by kernel_rfl)) (by kernel_rfl) (by kernel_rfl))) (DE.toB (de_lc [("j", 3)] (di_r1 (md := .B) (de_v (i := 2) rfl (by kernel_rfl) (by exact vis_of (by kernel_rfl)) (by kernel_rfl) (by kernel_rfl)) hb_range (by exact gl_of (by kernel_rfl)) (by kernel_rfl)) (fun q => (gt_nm (i := 3) nd (by kernel_rfl) (by exact loc_of (by kernel_rfl)) (by first | exact .inl rfl | exact .inr rfl))) (fun d9 => cb_nm (cb_mk (env2 := [.sh (a0), .sh (s3), .sh (d6), .sh (d9)]) (fun q => .nil) (fun q => de_call (fn__law_far Fx) hr takes_none5 (da_cons (de_ix (DE.toB (de_v (i := 0) rfl (by kernel_rfl) (by exact vis_of (by kernel_rfl)) (by kernel_rfl) (by kernel_rfl))) (DE.toB (de_v (i := 2) rfl (by kernel_rfl) (by exact vis_of (by kernel_rfl)) (by kernel_rfl) (by kernel_rfl))) (by intro _ _; kernel_rfl)) (da_cons (de_ix (DE.toB (de_v (i := 0) rfl (by kernel_rfl) (by exact vis_of (by kernel_rfl)) (by kernel_rfl) (by kernel_rfl))) (DE.toB (de_v (i := 3) rfl (by kernel_rfl) (by exact vis_of (by kernel_rfl)) (by kernel_rfl) (by kernel_rfl))) (by intro _ _; kernel_rfl)) (da_nil) (by kernel_rfl)) (by kernel_rfl)) (by omega) (by kernel_rfl) (by exact gl_of (by kernel_rfl)) (by kernel_rfl) (by kernel_rfl) (by kernel_rfl)))) rfl nd (blkOk_by (by kernel_rfl)) (by decide) (by intro _; kernel_rfl)))) (fun v7 => by exact ds_env (e' := [.sh (a0), .sh (v7), .sh (d6), .no]) rfl (dss_nil (s := (v7)) (.eq (.eq (.no (.no .nil)))))) trivial nd (by kernel_rfl) (by exact loc_of (by kernel_rfl)) (by decide) (by kernel_rfl) (by first | exact .inl rfl | exact .inr rfl)))) (fun s20 => by exact ds_env (e' := [.sh (a0), .sh (s20), .no, .no]) rfl (dss_ret (us := []) (de_v (i := 1) rfl (by kernel_rfl) (by exact vis_of (by kernel_rfl)) (by kernel_rfl) (by kernel_rfl)) trivial io0)) (.eq (.eq (.no (.no .nil)))) trivial owns_cx rfl (by decide) (by intro _; kernel_rfl))) trivial nd (by kernel_rfl) (by exact loc_of (by kernel_rfl)) (by decide) (by kernel_rfl) (by first | exact .inl rfl | exact .inr rfl))), rfl, nofun⟩
end
end K23

-- K23Flaw_rest
set_option Elab.async false
set_option linter.all false
set_option maxRecDepth 100000
set_option maxHeartbeats 0
namespace K23
open DL PySem PySem.Spec PyProof.Rows L2
section
variable {P : Program} {w : World} {K : PySem.W.Frag} {mg : Str → Option Value} {base : Heap} {T : Tb}
theorem fn__law_rest (Fx : TX P w K mg base T) : FnD P w K mg base T 1 "_law_rest" 2 .S M__law_rest := by
  obtain ⟨f, fd, hm, Fn, b⟩ := Fx.d__law_rest
  have hb_int := Fx.b_int
  have hb_len := Fx.b_len
  have hb_range := Fx.b_range
  have hb_str := Fx.b_str
  refine fnD_of Fn hm sc__law_rest b fun cdv A outer s H E ds hl hr => ?_
  have nd := sc__law_rest.nd
  have tk := takes_cx (P := P) (w := w) (K := K) (mg := mg) (base := base) (N := ["bits", "divisor", "size", "row", "bit", "k", "j"]) (q := "_law_rest") (scope := defScope t__law_rest) (f := f) (cd := cdv) (A := A) (outer := outer) (s := s) (H := H) (E := E)
  have hu1 := hr.u1
  have hu64 := hr.u64
  have hu65 := hr.u65
  match ds, hl with
  | [a0, a1], _ => exact ⟨B__law_rest a0 a1, (by exact ds_env (e' := [.sh (a0), .sh (a1), .no, .no, .no, .no, .no]) rfl (dss_set (i := 2) (de_op o_sub (DE.toB (de_c1B c_len bt_len hb_len (DE.toB (de_v (i := 1) rfl (by kernel_rfl) (by exact vis_of (by kernel_rfl)) (by kernel_rfl) (by kernel_rfl))) (by exact gl_of (by kernel_rfl)) (by exact ne_name (by kernel_rfl)) (by kernel_rfl) (by kernel_rfl) (by kernel_rfl))) (DE.toB (de_int))) (fun v1 => by exact ds_env (e' := [.sh (a0), .sh (a1), .sh (v1), .no, .no, .no, .no]) rfl (dss_setLc (i := 3) [("bit", 4)] (di_any (DE.toB (de_op o_add (DE.toB (de_v (i := 0) rfl (by kernel_rfl) (by exact vis_of (by kernel_rfl)) (by kernel_rfl) (by kernel_rfl))) (DE.toB (de_op o_mul (DE.toB (de_str (s := [48]) (by kernel_rfl) (by kernel_rfl))) (DE.toB (de_v (i := 2) rfl (by kernel_rfl) (by exact vis_of (by kernel_rfl)) (by kernel_rfl) (by kernel_rfl))))))) (.inr rfl)) (fun q => (gt_nm (i := 4) nd (by kernel_rfl) (by exact loc_of (by kernel_rfl)) (by first | exact .inl rfl | exact .inr rfl))) (fun d51 => cb_nm (cb_mk (env2 := [.sh (a0), .sh (a1), .sh (v1), .no, .sh (d51), .no, .no]) (fun q => .nil) (fun q => de_c1T c_int bt_int hb_int (DE.toB (de_v (i := 4) rfl (by kernel_rfl) (by exact vis_of (by kernel_rfl)) (by kernel_rfl) (by kernel_rfl))) (by exact gl_of (by kernel_rfl)) (by exact ne_name (by kernel_rfl)) (by kernel_rfl) (by kernel_rfl) (by kernel_rfl)))) (lstK_ds fun v2 => by exact ds_env (e' := [.sh (a0), .sh (a1), .sh (v1), .ow (.lst (v2)), .no, .no, .no]) rfl (dss_for (pt := (Pat.nm 5)) (injb := (fun (s3 : List D) => [.sh (a0), .sh (a1), .sh (v1), .ow (.lst (s3)), .no, .no, .no])) (s0 := (v2)) (di_r1 (md := .S) (de_c1B c_len bt_len hb_len (DE.toB (de_v (i := 0) rfl (by kernel_rfl) (by exact vis_of (by kernel_rfl)) (by kernel_rfl) (by kernel_rfl))) (by exact gl_of (by kernel_rfl)) (by exact ne_name (by kernel_rfl)) (by kernel_rfl) (by kernel_rfl) (by kernel_rfl)) hb_range (by exact gl_of (by kernel_rfl)) (by kernel_rfl)) (gt_nm (i := 5) nd (by kernel_rfl) (by exact loc_of (by kernel_rfl)) (by first | exact .inl rfl | exact .inr rfl)) (fun d7 s4 => dso_nm (by exact ds_env (e' := [.sh (a0), .sh (a1), .sh (v1), .ow (.lst (s4)), .no, .sh (d7), .no]) rfl (dss_if (inj1 := (fun (s33 : List D) => [.sh (a0), .sh (a1), .sh (v1), .ow (.lst (s33)), .no, .sh (d7), .no])) (dt_cmp (o_eq hu64) (DE.toB (de_ix (de_vo (i := 3) rfl (by kernel_rfl) (by exact vis_of (by kernel_rfl)) (by kernel_rfl) (by kernel_rfl)) (DE.toB (de_v (i := 5) rfl (by kernel_rfl) (by exact vis_of (by kernel_rfl)) (by kernel_rfl) (by kernel_rfl))) (by intro _ _; kernel_rfl))) (DE.toB (de_int)) (by first | exact nomark _ | rfl)) (by exact ds_env (e' := [.sh (a0), .sh (a1), .sh (v1), .ow (.lst (s4)), .no, .sh (d7), .no]) rfl (dss_for (pt := (Pat.nm 6)) (injb := (fun (s12 : List D) => [.sh (a0), .sh (a1), .sh (v1), .ow (.lst (s12)), .no, .sh (d7), .no])) (s0 := (s4)) (di_r1 (md := .S) (de_c1B c_len bt_len hb_len (DE.toB (de_v (i := 1) rfl (by kernel_rfl) (by exact vis_of (by kernel_rfl)) (by kernel_rfl) (by kernel_rfl))) (by exact gl_of (by kernel_rfl)) (by exact ne_name (by kernel_rfl)) (by kernel_rfl) (by kernel_rfl) (by kernel_rfl)) hb_range (by exact gl_of (by kernel_rfl)) (by kernel_rfl)) (gt_nm (i := 6) nd (by kernel_rfl) (by exact loc_of (by kernel_rfl)) (by first | exact .inl rfl | exact .inr rfl)) (fun d16 s13 => dso_nm (by exact ds_env (e' := [.sh (a0), .sh (a1), .sh (v1), .ow (.lst (s13)), .no, .sh (d7), .sh (d16)]) rfl (dss_setitem (i := 3) (xs := s13) rfl (de_op o_xor (DE.toB (de_ix (de_vo (i := 3) rfl (by kernel_rfl) (by exact vis_of (by kernel_rfl)) (by kernel_rfl) (by kernel_rfl)) (DE.toB (de_op o_add (DE.toB (de_v (i := 5) rfl (by kernel_rfl) (by exact vis_of (by kernel_rfl)) (by kernel_rfl) (by kernel_rfl))) (DE.toB (de_v (i := 6) rfl (by kernel_rfl) (by exact vis_of (by kernel_rfl)) (by kernel_rfl) (by kernel_rfl))))) (by intro _ _; kernel_rfl))) (DE.toB (de_c1T c_int bt_int hb_int (DE.toB (de_ix (DE.toB (de_v (i := 1) rfl (by kernel_rfl) (by exact vis_of (by kernel_rfl)) (by kernel_rfl) (by kernel_rfl))) (DE.toB (de_v (i := 6) rfl (by kernel_rfl) (by exact vis_of (by kernel_rfl)) (by kernel_rfl) (by kernel_rfl))) (by intro _ _; kernel_rfl))) (by exact gl_of (by kernel_rfl)) (by exact ne_name (by kernel_rfl)) (by kernel_rfl) (by kernel_rfl) (by kernel_rfl)))) (de_op o_add (DE.toB (de_v (i := 5) rfl (by kernel_rfl) (by exact vis_of (by kernel_rfl)) (by kernel_rfl) (by kernel_rfl))) (DE.toB (de_v (i := 6) rfl (by kernel_rfl) (by exact vis_of (by kernel_rfl)) (by kernel_rfl) (by kernel_rfl)))) (fun v28 => by exact ds_env (e' := [.sh (a0), .sh (a1), .sh (v1), .ow (.lst (v28)), .no, .sh (d7), .sh (d16)]) rfl (dss_nil (s := (v28)) (.eq (.eq (.eq (.eq (.no (.eq (.no .nil))))))))) trivial (by kernel_rfl) (by exact vis_of (by kernel_rfl)) (by kernel_rfl) (by kernel_rfl) (by intro _; kernel_rfl) (by kernel_rfl) (by kernel_rfl) (by kernel_rfl)))) (fun s31 => by exact ds_env (e' := [.sh (a0), .sh (a1), .sh (v1), .ow (.lst (s31)), .no, .sh (d7), .no]) rfl (dss_nil (s := (s31)) (.eq (.eq (.eq (.eq (.no (.eq (.no .nil))))))))) (.eq (.eq (.eq (.eq (.no (.eq (.no .nil))))))) trivial owns_cx rfl (by decide) (by intro _; kernel_rfl))) (by exact ds_env (e' := [.sh (a0), .sh (a1), .sh (v1), .ow (.lst (s4)), .no, .sh (d7), .no]) rfl (dss_nil (s := (s4)) (.eq (.eq (.eq (.eq (.no (.eq (.no .nil))))))))) (fun s32 => by exact ds_env (e' := [.sh (a0), .sh (a1), .sh (v1), .ow (.lst (s32)), .no, .sh (d7), .no]) rfl (dss_nil (s := (s32)) (.eq (.eq (.eq (.eq (.no (.no (.no .nil))))))))) trivial))) (fun s34 => by exact ds_env (e' := [.sh (a0), .sh (a1), .sh (v1), .ow (.lst (s34)), .no, .no, .no]) rfl (dss_ret (us := []) (de_join (DE.toB (de_str (s := []) (by kernel_rfl) (by kernel_rfl))) (DE.toB (de_lc [("bit", 4)] (di_any (DE.toB (de_slc (de_vo (i := 3) rfl (by kernel_rfl) (by exact vis_of (by kernel_rfl)) (by kernel_rfl) (by kernel_rfl)) (dp_some (de_c1B c_len bt_len hb_len (DE.toB (de_v (i := 0) rfl (by kernel_rfl) (by exact vis_of (by kernel_rfl)) (by kernel_rfl) (by kernel_rfl))) (by exact gl_of (by kernel_rfl)) (by exact ne_name (by kernel_rfl)) (by kernel_rfl) (by kernel_rfl) (by kernel_rfl))) (dp_none))) (.inr rfl)) (fun q => (gt_nm (i := 4) nd (by kernel_rfl) (by exact loc_of (by kernel_rfl)) (by first | exact .inl rfl | exact .inr rfl))) (fun d40 => cb_nm (cb_mk (env2 := [.sh (a0), .sh (a1), .sh (v1), .ow (.lst (s34)), .sh (d40), .no, .no]) (fun q => .nil) (fun q => de_c1T c_str bt_str hb_str (DE.toB (de_v (i := 4) rfl (by kernel_rfl) (by exact vis_of (by kernel_rfl)) (by kernel_rfl) (by kernel_rfl))) (by exact gl_of (by kernel_rfl)) (by exact ne_name (by kernel_rfl)) (by kernel_rfl) (by kernel_rfl) (by kernel_rfl)))) rfl nd (blkOk_by (by kernel_rfl)) (by decide) (by intro _; kernel_rfl))) (by kernel_rfl) (by kernel_rfl) (by kernel_rfl)) trivial io0)) (.eq (.eq (.eq (.eq (.no (.no (.no .nil))))))) trivial owns_cx rfl (by decide) (by intro _; kernel_rfl))) trivial rfl nd (blkOk_by (by kernel_rfl)) (by kernel_rfl) (by kernel_rfl) (by kernel_rfl) (by decide) (by decide) (by intro _; kernel_rfl))) trivial nd (by kernel_rfl) (by exact loc_of (by kernel_rfl)) (by decide) (by kernel_rfl) (by first | exact .inl rfl | exact .inr rfl))), rfl, nofun⟩
end
end K23

-- K23Flaw_tape
set_option Elab.async false
set_option linter.all false
set_option maxRecDepth 100000
set_option maxHeartbeats 0
namespace K23
open DL PySem PySem.Spec PyProof.Rows L2
section
variable {P : Program} {w : World} {K : PySem.W.Frag} {mg : Str → Option Value} {base : Heap} {T : Tb}
theorem fn__law_tape (Fx : TX P w K mg base T) : FnD P w K mg base T 1 "_law_tape" 1 .S M__law_tape := by
  obtain ⟨f, fd, hm, Fn, b⟩ := Fx.d__law_tape
  have hb_abs := Fx.b_abs
  have hb_int := Fx.b_int
  refine fnD_of Fn hm sc__law_tape b fun cdv A outer s H E ds hl hr => ?_
  have nd := sc__law_tape.nd
  have tk := takes_cx (P := P) (w := w) (K := K) (mg := mg) (base := base) (N := ["script", "cells", "cell", "seed"]) (q := "_law_tape") (scope := defScope t__law_tape) (f := f) (cd := cdv) (A := A) (outer := outer) (s := s) (H := H) (E := E)
  have hu1 := hr.u1
  have hu64 := hr.u64
  have hu65 := hr.u65
  match ds, hl with
  | [a0], _ => exact ⟨B__law_tape a0, (by exact ds_env (e' := [.sh (a0), .no, .no, .no]) rfl (dss_setLc (i := 1) [("cell", 2)] (di_any (DE.toB (de_v (i := 0) rfl (by kernel_rfl) (by exact vis_of (by kernel_rfl)) (by kernel_rfl) (by kernel_rfl))) (.inr rfl)) (fun q => (gt_nm (i := 2) nd (by kernel_rfl) (by exact loc_of (by kernel_rfl)) (by first | exact .inl rfl | exact .inr rfl))) (fun d17 => cb_nm (cb_mk (env2 := [.sh (a0), .no, .sh (d17), .no]) (fun q => .nil) (fun q => de_c1B c_abs bt_abs hb_abs (DE.toB (de_c1T c_int bt_int hb_int (DE.toB (de_v (i := 2) rfl (by kernel_rfl) (by exact vis_of (by kernel_rfl)) (by kernel_rfl) (by kernel_rfl))) (by exact gl_of (by kernel_rfl)) (by exact ne_name (by kernel_rfl)) (by kernel_rfl) (by kernel_rfl) (by kernel_rfl))) (by exact gl_of (by kernel_rfl)) (by exact ne_name (by kernel_rfl)) (by kernel_rfl) (by kernel_rfl) (by kernel_rfl)))) (dss_setF (fun v1 => by exact ds_env (e' := [.sh (a0), .sh (v1), .no, .no]) rfl (dss_set (i := 3) (de_int) (fun v2 => by exact ds_env (e' := [.sh (a0), .sh (v1), .no, .sh (v2)]) rfl (dss_for (pt := (Pat.nm 2)) (injb := (fun (s3 : D) => [.sh (a0), .sh (v1), .no, .sh (s3)])) (s0 := (v2)) (di_any (de_v (i := 1) rfl (by kernel_rfl) (by exact vis_of (by kernel_rfl)) (by kernel_rfl) (by kernel_rfl)) (.inl rfl)) (gt_nm (i := 2) nd (by kernel_rfl) (by exact loc_of (by kernel_rfl)) (by first | exact .inl rfl | exact .inr rfl)) (fun d6 s4 => dso_nm (by exact ds_env (e' := [.sh (a0), .sh (v1), .sh (d6), .sh (s4)]) rfl (dss_set (i := 3) (de_op o_mod (DE.toB (de_c1T c_int bt_int hb_int (DE.toB (de_op o_add (DE.toB (de_op o_mul (DE.toB (de_v (i := 3) rfl (by kernel_rfl) (by exact vis_of (by kernel_rfl)) (by kernel_rfl) (by kernel_rfl))) (DE.toB (de_int)))) (DE.toB (de_v (i := 2) rfl (by kernel_rfl) (by exact vis_of (by kernel_rfl)) (by kernel_rfl) (by kernel_rfl))))) (by exact gl_of (by kernel_rfl)) (by exact ne_name (by kernel_rfl)) (by kernel_rfl) (by kernel_rfl) (by kernel_rfl))) (DE.toB (de_int))) (fun v7 => by exact ds_env (e' := [.sh (a0), .sh (v1), .sh (d6), .sh (v7)]) rfl (dss_nil (s := (v7)) (.eq (.eq (.no (.eq .nil)))))) trivial nd (by kernel_rfl) (by exact loc_of (by kernel_rfl)) (by decide) (by kernel_rfl) (by first | exact .inl rfl | exact .inr rfl)))) (fun s15 => by exact ds_env (e' := [.sh (a0), .sh (v1), .no, .sh (s15)]) rfl (dss_ret (us := []) (de_tapelit (i := 1) (k := 3) rfl rfl (by kernel_rfl) (by exact vis_of (by kernel_rfl)) (by kernel_rfl) (by kernel_rfl) (by kernel_rfl) (by exact vis_of (by kernel_rfl)) (by kernel_rfl) (by kernel_rfl)) trivial io0)) (.eq (.eq (.no (.eq .nil)))) trivial owns_cx rfl (by decide) (by intro _; kernel_rfl))) trivial nd (by kernel_rfl) (by exact loc_of (by kernel_rfl)) (by decide) (by kernel_rfl) (by first | exact .inl rfl | exact .inr rfl))) (Nat.le_of_ble_eq_true rfl)) trivial rfl nd (blkOk_by (by kernel_rfl)) (by kernel_rfl) (by kernel_rfl) (by kernel_rfl) (by decide) (by decide) (by intro _; kernel_rfl))), rfl, nofun⟩
end
end K23

-- K23Flaw_turn
set_option Elab.async false
set_option linter.all false
set_option maxRecDepth 100000
set_option maxHeartbeats 0
namespace K23
open DL PySem PySem.Spec PyProof.Rows L2
section
variable {P : Program} {w : World} {K : PySem.W.Frag} {mg : Str → Option Value} {base : Heap} {T : Tb}
theorem fn__law_turn (Fx : TX P w K mg base T) : FnD P w K mg base T 1 "_law_turn" 2 .S M__law_turn := by
  obtain ⟨f, fd, hm, Fn, b⟩ := Fx.d__law_turn
  refine fnD_of Fn hm sc__law_turn b fun cdv A outer s H E ds hl hr => ?_
  have nd := sc__law_turn.nd
  have tk := takes_cx (P := P) (w := w) (K := K) (mg := mg) (base := base) (N := ["bits", "at"]) (q := "_law_turn") (scope := defScope t__law_turn) (f := f) (cd := cdv) (A := A) (outer := outer) (s := s) (H := H) (E := E)
  have hu1 := hr.u1
  have hu64 := hr.u64
  have hu65 := hr.u65
  match ds, hl with
  | [a0, a1], _ => exact ⟨B__law_turn a0 a1, (by exact ds_env (e' := [.sh (a0), .sh (a1)]) rfl (dss_ret (us := []) (de_op o_add (DE.toB (de_op o_add (DE.toB (de_slc (DE.toB (de_v (i := 0) rfl (by kernel_rfl) (by exact vis_of (by kernel_rfl)) (by kernel_rfl) (by kernel_rfl))) (dp_none) (dp_some (de_v (i := 1) rfl (by kernel_rfl) (by exact vis_of (by kernel_rfl)) (by kernel_rfl) (by kernel_rfl))))) (DE.toB (de_dlit2 (k1 := [48]) (v1 := [49]) (k2 := [49]) (v2 := [48]) hu1 (de_ix (DE.toB (de_v (i := 0) rfl (by kernel_rfl) (by exact vis_of (by kernel_rfl)) (by kernel_rfl) (by kernel_rfl))) (DE.toB (de_v (i := 1) rfl (by kernel_rfl) (by exact vis_of (by kernel_rfl)) (by kernel_rfl) (by kernel_rfl))) (by intro _ _; kernel_rfl)) (by kernel_rfl) (by kernel_rfl) (by kernel_rfl) (by kernel_rfl) (by kernel_rfl) (by kernel_rfl) (by decide) (by intro _ _; kernel_rfl))))) (DE.toB (de_slc (DE.toB (de_v (i := 0) rfl (by kernel_rfl) (by exact vis_of (by kernel_rfl)) (by kernel_rfl) (by kernel_rfl))) (dp_some (de_op o_add (DE.toB (de_v (i := 1) rfl (by kernel_rfl) (by exact vis_of (by kernel_rfl)) (by kernel_rfl) (by kernel_rfl))) (DE.toB (de_int)))) (dp_none)))) trivial io0)), rfl, nofun⟩
end
end K23

-- K23Fcheck_words
set_option Elab.async false
set_option linter.all false
set_option maxRecDepth 100000
set_option maxHeartbeats 0
namespace K23
open DL PySem PySem.Spec PyProof.Rows L2
section
variable {P : Program} {w : World} {K : PySem.W.Frag} {mg : Str → Option Value} {base : Heap} {T : Tb}
theorem fn_check_words (Fx : TX P w K mg base T) : FnD P w K mg base T 3 "check_words" 1 .S M_check_words := by
  obtain ⟨f, fd, hm, Fn, b⟩ := Fx.d_check_words
  have hb_all := Fx.b_all
  have hb_len := Fx.b_len
  have hb_set := Fx.b_set
  obtain ⟨_, _, hg_MOST_SIZE⟩ := Fx.g_MOST_SIZE
  obtain ⟨_, hx_InvalidCode⟩ := Fx.x_InvalidCode
  refine fnD_of Fn hm sc_check_words b fun cdv A outer s H E ds hl hr => ?_
  have nd := sc_check_words.nd
  have tk := takes_cx (P := P) (w := w) (K := K) (mg := mg) (base := base) (N := ["words", "word"]) (q := "check_words") (scope := defScope t_check_words) (f := f) (cd := cdv) (A := A) (outer := outer) (s := s) (H := H) (E := E)
  have hu1 := hr.u1
  have hu64 := hr.u64
  have hu65 := hr.u65
  match ds, hl with
  | [a0], _ => exact ⟨B_check_words a0, (by exact ds_env (e' := [.sh (a0), .no]) rfl (dss_ifR (dt_w (dw_or (dt_not (dt_chain o_le o_le (DE.toB (de_int)) (DE.toB (de_c1B c_len bt_len hb_len (DE.toB (de_v (i := 0) rfl (by kernel_rfl) (by exact vis_of (by kernel_rfl)) (by kernel_rfl) (by kernel_rfl))) (by exact gl_of (by kernel_rfl)) (by exact ne_name (by kernel_rfl)) (by kernel_rfl) (by kernel_rfl) (by kernel_rfl))) (DE.toB (de_int)) (by exact pt_chain op_wp op_wp pe_wp pe_wp pe_wp))) (dw_or1 (dt_not (dt_tru (DE.toB (de_c1B (c_all rfl) bt_all hb_all (DE.toB (de_lc [("word", 1)] (di_any (DE.toB (de_v (i := 0) rfl (by kernel_rfl) (by exact vis_of (by kernel_rfl)) (by kernel_rfl) (by kernel_rfl))) (.inr rfl)) (fun q => (gt_nm (i := 1) nd (by kernel_rfl) (by exact loc_of (by kernel_rfl)) (by first | exact .inl rfl | exact .inr rfl))) (fun d6 => cb_nm (cb_mk (env2 := [.sh (a0), .sh (d6)]) (fun q => .nil) (fun q => de_andV (de_cmp (o_eq hu64) (DE.toB (de_c1B c_len bt_len hb_len (DE.toB (de_v (i := 1) rfl (by kernel_rfl) (by exact vis_of (by kernel_rfl)) (by kernel_rfl) (by kernel_rfl))) (by exact gl_of (by kernel_rfl)) (by exact ne_name (by kernel_rfl)) (by kernel_rfl) (by kernel_rfl) (by kernel_rfl))) (DE.toB (de_c1B c_len bt_len hb_len (DE.toB (de_ix (DE.toB (de_v (i := 0) rfl (by kernel_rfl) (by exact vis_of (by kernel_rfl)) (by kernel_rfl) (by kernel_rfl))) (DE.toB (de_int)) (by intro _ _; kernel_rfl))) (by exact gl_of (by kernel_rfl)) (by exact ne_name (by kernel_rfl)) (by kernel_rfl) (by kernel_rfl) (by kernel_rfl))) (by first | exact nomark _ | rfl)) (de_one (de_cmp o_le (DE.toB (de_c1B c_len bt_len hb_len (DE.toB (de_v (i := 1) rfl (by kernel_rfl) (by exact vis_of (by kernel_rfl)) (by kernel_rfl) (by kernel_rfl))) (by exact gl_of (by kernel_rfl)) (by exact ne_name (by kernel_rfl)) (by kernel_rfl) (by kernel_rfl) (by kernel_rfl))) (DE.toB (de_glob hg_MOST_SIZE.1 hg_MOST_SIZE.2.1 hg_MOST_SIZE.2.2 (by exact gl_of (by kernel_rfl)) (by kernel_rfl))) (by first | exact nomark _ | rfl)))))) rfl nd (blkOk_by (by kernel_rfl)) (by decide) (by intro _; kernel_rfl))) (by exact gl_of (by kernel_rfl)) (by exact ne_name (by kernel_rfl)) (by kernel_rfl) (by kernel_rfl) (by kernel_rfl))) (by intro _; kernel_rfl)))))) (by exact ds_env (e' := [.sh (a0), .no]) rfl (dss_raise tk trivial rfl PySem.F.excBase_ValueError hx_InvalidCode.1 hx_InvalidCode.2.1 hx_InvalidCode.2.2.1 (raises_own hx_InvalidCode.2.2.2.1 hx_InvalidCode.2.2.2.2) (by exact gl_of (by kernel_rfl)) (by kernel_rfl))) (by exact ds_env (e' := [.sh (a0), .no]) rfl (dss_for (pt := (Pat.nm 1)) (injb := (fun (s19 : Unit) => [.sh (a0), .no])) (s0 := ()) (di_any (de_v (i := 0) rfl (by kernel_rfl) (by exact vis_of (by kernel_rfl)) (by kernel_rfl) (by kernel_rfl)) (.inl rfl)) (gt_nm (i := 1) nd (by kernel_rfl) (by exact loc_of (by kernel_rfl)) (by first | exact .inl rfl | exact .inr rfl)) (fun d22 s20 => dso_nm (by exact ds_env (e' := [.sh (a0), .sh (d22)]) rfl (dss_expr (de_call (fn_check_bits Fx) hr tk (da_cons (de_v (i := 1) rfl (by kernel_rfl) (by exact vis_of (by kernel_rfl)) (by kernel_rfl) (by kernel_rfl)) (da_nil) (by kernel_rfl)) (by omega) (by kernel_rfl) (by exact gl_of (by kernel_rfl)) (by kernel_rfl) (by kernel_rfl) (by kernel_rfl)) (by exact ds_env (e' := [.sh (a0), .sh (d22)]) rfl (dss_nil (s := ()) (.eq (.no .nil)))) trivial (by kernel_rfl)))) (fun s25 => by exact ds_env (e' := [.sh (a0), .no]) rfl (dss_ifR (dt_cmp (o_ne hu64) (DE.toB (de_lenset hr (DE.toB (de_v (i := 0) rfl (by kernel_rfl) (by exact vis_of (by kernel_rfl)) (by kernel_rfl) (by kernel_rfl))) hb_len hb_set (by exact gl_of (by kernel_rfl)) (by exact gl_of (by kernel_rfl)) (by kernel_rfl) (by kernel_rfl) (by kernel_rfl) (by kernel_rfl))) (DE.toB (de_c1B c_len bt_len hb_len (DE.toB (de_v (i := 0) rfl (by kernel_rfl) (by exact vis_of (by kernel_rfl)) (by kernel_rfl) (by kernel_rfl))) (by exact gl_of (by kernel_rfl)) (by exact ne_name (by kernel_rfl)) (by kernel_rfl) (by kernel_rfl) (by kernel_rfl))) (by first | exact nomark _ | rfl)) (by exact ds_env (e' := [.sh (a0), .no]) rfl (dss_raise tk trivial rfl PySem.F.excBase_ValueError hx_InvalidCode.1 hx_InvalidCode.2.1 hx_InvalidCode.2.2.1 (raises_own hx_InvalidCode.2.2.2.1 hx_InvalidCode.2.2.2.2) (by exact gl_of (by kernel_rfl)) (by kernel_rfl))) (by exact ds_env (e' := [.sh (a0), .no]) rfl (dss_nil (s := ()) (.no (.no .nil)))) trivial)) (.eq (.no .nil)) trivial owns_cx rfl (by decide) (by intro _; kernel_rfl))) trivial)), rfl, nofun⟩
end
end K23

-- K23Fdistance
set_option Elab.async false
set_option linter.all false
set_option maxRecDepth 100000
set_option maxHeartbeats 0
namespace K23
open DL PySem PySem.Spec PyProof.Rows L2
section
variable {P : Program} {w : World} {K : PySem.W.Frag} {mg : Str → Option Value} {base : Heap} {T : Tb}
theorem fn_distance (Fx : TX P w K mg base T) : FnD P w K mg base T 1 "distance" 2 .S M_distance := by
  obtain ⟨f, fd, hm, Fn, b⟩ := Fx.d_distance
  have hb_len := Fx.b_len
  have hb_zip := Fx.b_zip
  obtain ⟨_, hx_InvalidBits⟩ := Fx.x_InvalidBits
  refine fnD_of Fn hm sc_distance b fun cdv A outer s H E ds hl hr => ?_
  have nd := sc_distance.nd
  have tk := takes_cx (P := P) (w := w) (K := K) (mg := mg) (base := base) (N := ["one", "other", "a", "b"]) (q := "distance") (scope := defScope t_distance) (f := f) (cd := cdv) (A := A) (outer := outer) (s := s) (H := H) (E := E)
  have hu1 := hr.u1
  have hu64 := hr.u64
  have hu65 := hr.u65
  match ds, hl with
  | [a0, a1], _ => exact ⟨B_distance a0 a1, (by exact ds_env (e' := [.sh (a0), .sh (a1), .no, .no]) rfl (dss_ifR (dt_cmp (o_ne hu64) (DE.toB (de_c1B c_len bt_len hb_len (DE.toB (de_v (i := 0) rfl (by kernel_rfl) (by exact vis_of (by kernel_rfl)) (by kernel_rfl) (by kernel_rfl))) (by exact gl_of (by kernel_rfl)) (by exact ne_name (by kernel_rfl)) (by kernel_rfl) (by kernel_rfl) (by kernel_rfl))) (DE.toB (de_c1B c_len bt_len hb_len (DE.toB (de_v (i := 1) rfl (by kernel_rfl) (by exact vis_of (by kernel_rfl)) (by kernel_rfl) (by kernel_rfl))) (by exact gl_of (by kernel_rfl)) (by exact ne_name (by kernel_rfl)) (by kernel_rfl) (by kernel_rfl) (by kernel_rfl))) (by first | exact nomark _ | rfl)) (by exact ds_env (e' := [.sh (a0), .sh (a1), .no, .no]) rfl (dss_raise tk trivial rfl PySem.F.excBase_ValueError hx_InvalidBits.1 hx_InvalidBits.2.1 hx_InvalidBits.2.2.1 (raises_own hx_InvalidBits.2.2.2.1 hx_InvalidBits.2.2.2.2) (by exact gl_of (by kernel_rfl)) (by kernel_rfl))) (by exact ds_env (e' := [.sh (a0), .sh (a1), .no, .no]) rfl (dss_ret (us := []) (de_c1B c_len bt_len hb_len (DE.toB (de_lc [("a", 2), ("b", 3)] (di_zip (DE.toB (de_v (i := 0) rfl (by kernel_rfl) (by exact vis_of (by kernel_rfl)) (by kernel_rfl) (by kernel_rfl))) (DE.toB (de_v (i := 1) rfl (by kernel_rfl) (by exact vis_of (by kernel_rfl)) (by kernel_rfl) (by kernel_rfl))) (.inr rfl) hb_zip (by exact gl_of (by kernel_rfl)) (by kernel_rfl) (by kernel_rfl) (by kernel_rfl)) (fun q => (gt_tup (gts_cons (gt_nm (i := 2) nd (by kernel_rfl) (by exact loc_of (by kernel_rfl)) (by first | exact .inl rfl | exact .inr rfl)) (gts_cons (gt_nm (i := 3) nd (by kernel_rfl) (by exact loc_of (by kernel_rfl)) (by first | exact .inl rfl | exact .inr rfl)) gts_nil (by kernel_rfl)) (by kernel_rfl)) rfl (by kernel_rfl) (by kernel_rfl))) (fun d7 => cb_2 fun p8 p9 => cb_mk (env2 := [.sh (a0), .sh (a1), .sh (p8), .sh (p9)]) (fun q => .one (dt_cmp (o_ne hu64) (DE.toB (de_v (i := 2) rfl (by kernel_rfl) (by exact vis_of (by kernel_rfl)) (by kernel_rfl) (by kernel_rfl))) (DE.toB (de_v (i := 3) rfl (by kernel_rfl) (by exact vis_of (by kernel_rfl)) (by kernel_rfl) (by kernel_rfl))) (by first | exact nomark _ | rfl))) (fun q => de_int)) rfl nd (blkOk_by (by kernel_rfl)) (by decide) (by intro _; kernel_rfl))) (by exact gl_of (by kernel_rfl)) (by exact ne_name (by kernel_rfl)) (by kernel_rfl) (by kernel_rfl) (by kernel_rfl)) trivial io0)) trivial)), rfl, nofun⟩
end
end K23

-- K23Fleast_distance
set_option Elab.async false
set_option linter.all false
set_option maxRecDepth 100000
set_option maxHeartbeats 0
namespace K23
open DL PySem PySem.Spec PyProof.Rows L2
section
variable {P : Program} {w : World} {K : PySem.W.Frag} {mg : Str → Option Value} {base : Heap} {T : Tb}
theorem fn_least_distance (Fx : TX P w K mg base T) : FnD P w K mg base T 4 "least_distance" 1 .S M_least_distance := by
  obtain ⟨f, fd, hm, Fn, b⟩ := Fx.d_least_distance
  have hb_enumerate := Fx.b_enumerate
  have hb_min := Fx.b_min
  refine fnD_of Fn hm sc_least_distance b fun cdv A outer s H E ds hl hr => ?_
  have nd := sc_least_distance.nd
  have tk := takes_cx (P := P) (w := w) (K := K) (mg := mg) (base := base) (N := ["words", "rows", "k", "one", "other"]) (q := "least_distance") (scope := defScope t_least_distance) (f := f) (cd := cdv) (A := A) (outer := outer) (s := s) (H := H) (E := E)
  have hu1 := hr.u1
  have hu64 := hr.u64
  have hu65 := hr.u65
  match ds, hl with
  | [a0], _ => exact ⟨B_least_distance a0, (by exact ds_env (e' := [.sh (a0), .no, .no, .no, .no]) rfl (dss_expr (de_call (fn_check_words Fx) hr tk (da_cons (de_v (i := 0) rfl (by kernel_rfl) (by exact vis_of (by kernel_rfl)) (by kernel_rfl) (by kernel_rfl)) (da_nil) (by kernel_rfl)) (by omega) (by kernel_rfl) (by exact gl_of (by kernel_rfl)) (by kernel_rfl) (by kernel_rfl) (by kernel_rfl)) (by exact ds_env (e' := [.sh (a0), .no, .no, .no, .no]) rfl (dss_setLc2 (i := 1) [("k", 2), ("one", 3), ("other", 4)] [4] (di_enum (DE.toB (de_v (i := 0) rfl (by kernel_rfl) (by exact vis_of (by kernel_rfl)) (by kernel_rfl) (by kernel_rfl))) (.inr rfl) hb_enumerate (by exact gl_of (by kernel_rfl)) (by kernel_rfl)) (fun q => (gt_tup (gts_cons (gt_nm (i := 2) nd (by kernel_rfl) (by exact loc_of (by kernel_rfl)) (by first | exact .inl rfl | exact .inr rfl)) (gts_cons (gt_nm (i := 3) nd (by kernel_rfl) (by exact loc_of (by kernel_rfl)) (by first | exact .inl rfl | exact .inr rfl)) gts_nil (by kernel_rfl)) (by kernel_rfl)) rfl (by kernel_rfl) (by kernel_rfl))) (fun d7 => cb2_2 fun p9 p10 => cb2_mk (env2 := [.sh (a0), .no, .sh (p9), .sh (p10), .no]) (fun q => .nil) (fun q => di_any (de_slc (DE.toB (de_v (i := 0) rfl (by kernel_rfl) (by exact vis_of (by kernel_rfl)) (by kernel_rfl) (by kernel_rfl))) (dp_none) (dp_some (de_v (i := 2) rfl (by kernel_rfl) (by exact vis_of (by kernel_rfl)) (by kernel_rfl) (by kernel_rfl)))) (.inl rfl)) (fun q => (gt_nm (i := 4) nd (by kernel_rfl) (by exact loc_of (by kernel_rfl)) (by first | exact .inl rfl | exact .inr rfl))) (fun e8 => cb_nm (cb_mk (env2 := [.sh (a0), .no, .sh (p9), .sh (p10), .sh (e8)]) (fun q => .nil) (fun q => de_call (fn_distance Fx) hr takes_none5 (da_cons (de_v (i := 3) rfl (by kernel_rfl) (by exact vis_of (by kernel_rfl)) (by kernel_rfl) (by kernel_rfl)) (da_cons (de_v (i := 4) rfl (by kernel_rfl) (by exact vis_of (by kernel_rfl)) (by kernel_rfl) (by kernel_rfl)) (da_nil) (by kernel_rfl)) (by kernel_rfl)) (by omega) (by kernel_rfl) (by exact gl_of (by kernel_rfl)) (by kernel_rfl) (by kernel_rfl) (by kernel_rfl)))) (by decide)) (dss_setF (fun v3 => by exact ds_env (e' := [.sh (a0), .sh (v3), .no, .no, .no]) rfl (dss_ret (us := []) (de_if (dt_tru (DE.toB (de_v (i := 1) rfl (by kernel_rfl) (by exact vis_of (by kernel_rfl)) (by kernel_rfl) (by kernel_rfl))) (by intro _; kernel_rfl)) (de_c1B (c_min rfl) bt_min hb_min (DE.toB (de_v (i := 1) rfl (by kernel_rfl) (by exact vis_of (by kernel_rfl)) (by kernel_rfl) (by kernel_rfl))) (by exact gl_of (by kernel_rfl)) (by exact ne_name (by kernel_rfl)) (by kernel_rfl) (by kernel_rfl) (by kernel_rfl)) (de_non)) trivial io0)) (Nat.le_of_ble_eq_true rfl)) trivial rfl nd (blkOk_by (by kernel_rfl)) (by kernel_rfl) (by kernel_rfl) (by kernel_rfl) (by decide) (by decide) (by decide) (by intro _; kernel_rfl) (by intro _ _; kernel_rfl))) trivial (by kernel_rfl))), rfl, nofun⟩
end
end K23

-- K23Fmended_by
set_option Elab.async false
set_option linter.all false
set_option maxRecDepth 100000
set_option maxHeartbeats 0
namespace K23
open DL PySem PySem.Spec PyProof.Rows L2
section
variable {P : Program} {w : World} {K : PySem.W.Frag} {mg : Str → Option Value} {base : Heap} {T : Tb}
theorem fn_mended_by (Fx : TX P w K mg base T) : FnD P w K mg base T 5 "mended_by" 1 .S M_mended_by := by
  obtain ⟨f, fd, hm, Fn, b⟩ := Fx.d_mended_by
  have hb_len := Fx.b_len
  refine fnD_of Fn hm sc_mended_by b fun cdv A outer s H E ds hl hr => ?_
  have nd := sc_mended_by.nd
  have tk := takes_cx (P := P) (w := w) (K := K) (mg := mg) (base := base) (N := ["words", "least", "size"]) (q := "mended_by") (scope := defScope t_mended_by) (f := f) (cd := cdv) (A := A) (outer := outer) (s := s) (H := H) (E := E)
  have hu1 := hr.u1
  have hu64 := hr.u64
  have hu65 := hr.u65
  match ds, hl with
  | [a0], _ => exact ⟨B_mended_by a0, (by exact ds_env (e' := [.sh (a0), .no, .no]) rfl (dss_set (i := 1) (de_call (fn_least_distance Fx) hr tk (da_cons (de_v (i := 0) rfl (by kernel_rfl) (by exact vis_of (by kernel_rfl)) (by kernel_rfl) (by kernel_rfl)) (da_nil) (by kernel_rfl)) (by omega) (by kernel_rfl) (by exact gl_of (by kernel_rfl)) (by kernel_rfl) (by kernel_rfl) (by kernel_rfl)) (fun v1 => by exact ds_env (e' := [.sh (a0), .sh (v1), .no]) rfl (dss_set (i := 2) (de_c1B c_len bt_len hb_len (DE.toB (de_ix (DE.toB (de_v (i := 0) rfl (by kernel_rfl) (by exact vis_of (by kernel_rfl)) (by kernel_rfl) (by kernel_rfl))) (DE.toB (de_int)) (by intro _ _; kernel_rfl))) (by exact gl_of (by kernel_rfl)) (by exact ne_name (by kernel_rfl)) (by kernel_rfl) (by kernel_rfl) (by kernel_rfl)) (fun v2 => by exact ds_env (e' := [.sh (a0), .sh (v1), .sh (v2)]) rfl (dss_ret (us := []) (de_if (dt_cmp o_is (DE.toB (de_v (i := 1) rfl (by kernel_rfl) (by exact vis_of (by kernel_rfl)) (by kernel_rfl) (by kernel_rfl))) (DE.toB (de_non)) (by first | exact nomark _ | rfl)) (de_tup (da_cons (de_v (i := 2) rfl (by kernel_rfl) (by exact vis_of (by kernel_rfl)) (by kernel_rfl) (by kernel_rfl)) (da_cons (de_v (i := 2) rfl (by kernel_rfl) (by exact vis_of (by kernel_rfl)) (by kernel_rfl) (by kernel_rfl)) (da_nil) (by kernel_rfl)) (by kernel_rfl)) (by decide)) (de_tup (da_cons (de_op o_fdiv (DE.toB (de_op o_sub (DE.toB (de_v (i := 1) rfl (by kernel_rfl) (by exact vis_of (by kernel_rfl)) (by kernel_rfl) (by kernel_rfl))) (DE.toB (de_int)))) (DE.toB (de_int))) (da_cons (de_op o_sub (DE.toB (de_v (i := 1) rfl (by kernel_rfl) (by exact vis_of (by kernel_rfl)) (by kernel_rfl) (by kernel_rfl))) (DE.toB (de_int))) (da_nil) (by kernel_rfl)) (by kernel_rfl)) (by decide))) trivial io0)) trivial nd (by kernel_rfl) (by exact loc_of (by kernel_rfl)) (by decide) (by kernel_rfl) (by first | exact .inl rfl | exact .inr rfl))) trivial nd (by kernel_rfl) (by exact loc_of (by kernel_rfl)) (by decide) (by kernel_rfl) (by first | exact .inl rfl | exact .inr rfl))), rfl, nofun⟩
end
end K23

-- K23Fnearest
set_option Elab.async false
set_option linter.all false
set_option maxRecDepth 100000
set_option maxHeartbeats 0
namespace K23
open DL PySem PySem.Spec PyProof.Rows L2
section
variable {P : Program} {w : World} {K : PySem.W.Frag} {mg : Str → Option Value} {base : Heap} {T : Tb}
theorem fn_nearest (Fx : TX P w K mg base T) : FnD P w K mg base T 4 "nearest" 2 .S M_nearest := by
  obtain ⟨f, fd, hm, Fn, b⟩ := Fx.d_nearest
  have hb_min := Fx.b_min
  have hb_tuple := Fx.b_tuple
  have hb_zip := Fx.b_zip
  refine fnD_of Fn hm sc_nearest b fun cdv A outer s H E ds hl hr => ?_
  have nd := sc_nearest.nd
  have tk := takes_cx (P := P) (w := w) (K := K) (mg := mg) (base := base) (N := ["words", "bits", "rows", "word", "far"]) (q := "nearest") (scope := defScope t_nearest) (f := f) (cd := cdv) (A := A) (outer := outer) (s := s) (H := H) (E := E)
  have hu1 := hr.u1
  have hu64 := hr.u64
  have hu65 := hr.u65
  match ds, hl with
  | [a0, a1], _ => exact ⟨B_nearest a0 a1, (by exact ds_env (e' := [.sh (a0), .sh (a1), .no, .no, .no]) rfl (dss_expr (de_call (fn_check_words Fx) hr tk (da_cons (de_v (i := 0) rfl (by kernel_rfl) (by exact vis_of (by kernel_rfl)) (by kernel_rfl) (by kernel_rfl)) (da_nil) (by kernel_rfl)) (by omega) (by kernel_rfl) (by exact gl_of (by kernel_rfl)) (by kernel_rfl) (by kernel_rfl) (by kernel_rfl)) (by exact ds_env (e' := [.sh (a0), .sh (a1), .no, .no, .no]) rfl (dss_set (i := 2) (DE.ofO (de_lc [("word", 3)] (di_any (DE.toB (de_v (i := 0) rfl (by kernel_rfl) (by exact vis_of (by kernel_rfl)) (by kernel_rfl) (by kernel_rfl))) (.inr rfl)) (fun q => (gt_nm (i := 3) nd (by kernel_rfl) (by exact loc_of (by kernel_rfl)) (by first | exact .inl rfl | exact .inr rfl))) (fun d14 => cb_nm (cb_mk (env2 := [.sh (a0), .sh (a1), .no, .sh (d14), .no]) (fun q => .nil) (fun q => de_call (fn_distance Fx) hr takes_none5 (da_cons (de_v (i := 3) rfl (by kernel_rfl) (by exact vis_of (by kernel_rfl)) (by kernel_rfl) (by kernel_rfl)) (da_cons (de_v (i := 1) rfl (by kernel_rfl) (by exact vis_of (by kernel_rfl)) (by kernel_rfl) (by kernel_rfl)) (da_nil) (by kernel_rfl)) (by kernel_rfl)) (by omega) (by kernel_rfl) (by exact gl_of (by kernel_rfl)) (by kernel_rfl) (by kernel_rfl) (by kernel_rfl)))) rfl nd (blkOk_by (by kernel_rfl)) (by decide) (by intro _; kernel_rfl))) (fun v3 => by exact ds_env (e' := [.sh (a0), .sh (a1), .sh (v3), .no, .no]) rfl (dss_ret (us := []) (de_c1T c_tuple bt_tuple hb_tuple (DE.toB (de_lc [("word", 3), ("far", 4)] (di_zip (DE.toB (de_v (i := 0) rfl (by kernel_rfl) (by exact vis_of (by kernel_rfl)) (by kernel_rfl) (by kernel_rfl))) (DE.toB (de_v (i := 2) rfl (by kernel_rfl) (by exact vis_of (by kernel_rfl)) (by kernel_rfl) (by kernel_rfl))) (.inr rfl) hb_zip (by exact gl_of (by kernel_rfl)) (by kernel_rfl) (by kernel_rfl) (by kernel_rfl)) (fun q => (gt_tup (gts_cons (gt_nm (i := 3) nd (by kernel_rfl) (by exact loc_of (by kernel_rfl)) (by first | exact .inl rfl | exact .inr rfl)) (gts_cons (gt_nm (i := 4) nd (by kernel_rfl) (by exact loc_of (by kernel_rfl)) (by first | exact .inl rfl | exact .inr rfl)) gts_nil (by kernel_rfl)) (by kernel_rfl)) rfl (by kernel_rfl) (by kernel_rfl))) (fun d6 => cb_2 fun p7 p8 => cb_mk (env2 := [.sh (a0), .sh (a1), .sh (v3), .sh (p7), .sh (p8)]) (fun q => .one (dt_cmp (o_eq hu64) (DE.toB (de_v (i := 4) rfl (by kernel_rfl) (by exact vis_of (by kernel_rfl)) (by kernel_rfl) (by kernel_rfl))) (DE.toB (de_c1B (c_min rfl) bt_min hb_min (DE.toB (de_v (i := 2) rfl (by kernel_rfl) (by exact vis_of (by kernel_rfl)) (by kernel_rfl) (by kernel_rfl))) (by exact gl_of (by kernel_rfl)) (by exact ne_name (by kernel_rfl)) (by kernel_rfl) (by kernel_rfl) (by kernel_rfl))) (by first | exact nomark _ | rfl))) (fun q => de_v (i := 3) rfl (by kernel_rfl) (by exact vis_of (by kernel_rfl)) (by kernel_rfl) (by kernel_rfl))) rfl nd (blkOk_by (by kernel_rfl)) (by decide) (by intro _; kernel_rfl))) (by exact gl_of (by kernel_rfl)) (by exact ne_name (by kernel_rfl)) (by kernel_rfl) (by kernel_rfl) (by kernel_rfl)) trivial io0)) trivial nd (by kernel_rfl) (by exact loc_of (by kernel_rfl)) (by decide) (by kernel_rfl) (by first | exact .inl rfl | exact .inr rfl))) trivial (by kernel_rfl))), rfl, nofun⟩
end
end K23

-- K23Fsurely
set_option Elab.async false
set_option linter.all false
set_option maxRecDepth 100000
set_option maxHeartbeats 0
namespace K23
open DL PySem PySem.Spec PyProof.Rows L2
section
variable {P : Program} {w : World} {K : PySem.W.Frag} {mg : Str → Option Value} {base : Heap} {T : Tb}
theorem fn_surely (Fx : TX P w K mg base T) : FnD P w K mg base T 4 "surely" 2 .S M_surely := by
  obtain ⟨f, fd, hm, Fn, b⟩ := Fx.d_surely
  have hb_all := Fx.b_all
  have hb_len := Fx.b_len
  have hb_zip := Fx.b_zip
  obtain ⟨_, hx_InvalidBits⟩ := Fx.x_InvalidBits
  refine fnD_of Fn hm sc_surely b fun cdv A outer s H E ds hl hr => ?_
  have nd := sc_surely.nd
  have tk := takes_cx (P := P) (w := w) (K := K) (mg := mg) (base := base) (N := ["words", "bits", "sign", "fits", "word", "a", "b"]) (q := "surely") (scope := defScope t_surely) (f := f) (cd := cdv) (A := A) (outer := outer) (s := s) (H := H) (E := E)
  have hu1 := hr.u1
  have hu64 := hr.u64
  have hu65 := hr.u65
  match ds, hl with
  | [a0, a1], _ => exact ⟨B_surely a0 a1, (by exact ds_env (e' := [.sh (a0), .sh (a1), .no, .no, .no, .no, .no]) rfl (dss_expr (de_call (fn_check_words Fx) hr tk (da_cons (de_v (i := 0) rfl (by kernel_rfl) (by exact vis_of (by kernel_rfl)) (by kernel_rfl) (by kernel_rfl)) (da_nil) (by kernel_rfl)) (by omega) (by kernel_rfl) (by exact gl_of (by kernel_rfl)) (by kernel_rfl) (by kernel_rfl) (by kernel_rfl)) (by exact ds_env (e' := [.sh (a0), .sh (a1), .no, .no, .no, .no, .no]) rfl (dss_ifR (dt_w (dw_or (dt_cmp (o_ne hu64) (DE.toB (de_c1B c_len bt_len hb_len (DE.toB (de_v (i := 1) rfl (by kernel_rfl) (by exact vis_of (by kernel_rfl)) (by kernel_rfl) (by kernel_rfl))) (by exact gl_of (by kernel_rfl)) (by exact ne_name (by kernel_rfl)) (by kernel_rfl) (by kernel_rfl) (by kernel_rfl))) (DE.toB (de_c1B c_len bt_len hb_len (DE.toB (de_ix (DE.toB (de_v (i := 0) rfl (by kernel_rfl) (by exact vis_of (by kernel_rfl)) (by kernel_rfl) (by kernel_rfl))) (DE.toB (de_int)) (by intro _ _; kernel_rfl))) (by exact gl_of (by kernel_rfl)) (by exact ne_name (by kernel_rfl)) (by kernel_rfl) (by kernel_rfl) (by kernel_rfl))) (by first | exact nomark _ | rfl)) (dw_or1 (dt_not (dt_tru (DE.toB (de_c1B (c_all rfl) bt_all hb_all (DE.toB (de_lc [("sign", 2)] (di_any (DE.toB (de_v (i := 1) rfl (by kernel_rfl) (by exact vis_of (by kernel_rfl)) (by kernel_rfl) (by kernel_rfl))) (.inr rfl)) (fun q => (gt_nm (i := 2) nd (by kernel_rfl) (by exact loc_of (by kernel_rfl)) (by first | exact .inl rfl | exact .inr rfl))) (fun d10 => cb_nm (cb_mk (env2 := [.sh (a0), .sh (a1), .sh (d10), .no, .no, .no, .no]) (fun q => .nil) (fun q => de_cmp (o_in hu65) (DE.toB (de_v (i := 2) rfl (by kernel_rfl) (by exact vis_of (by kernel_rfl)) (by kernel_rfl) (by kernel_rfl))) (DE.toB (de_str (s := [48, 49, 63]) (by kernel_rfl) (by kernel_rfl))) (by first | exact nomark _ | rfl)))) rfl nd (blkOk_by (by kernel_rfl)) (by decide) (by intro _; kernel_rfl))) (by exact gl_of (by kernel_rfl)) (by exact ne_name (by kernel_rfl)) (by kernel_rfl) (by kernel_rfl) (by kernel_rfl))) (by intro _; kernel_rfl)))))) (by exact ds_env (e' := [.sh (a0), .sh (a1), .no, .no, .no, .no, .no]) rfl (dss_raise tk trivial rfl PySem.F.excBase_ValueError hx_InvalidBits.1 hx_InvalidBits.2.1 hx_InvalidBits.2.2.1 (raises_own hx_InvalidBits.2.2.2.1 hx_InvalidBits.2.2.2.2) (by exact gl_of (by kernel_rfl)) (by kernel_rfl))) (by exact ds_env (e' := [.sh (a0), .sh (a1), .no, .no, .no, .no, .no]) rfl (dss_setLc (i := 3) [("word", 4)] (di_any (DE.toB (de_v (i := 0) rfl (by kernel_rfl) (by exact vis_of (by kernel_rfl)) (by kernel_rfl) (by kernel_rfl))) (.inr rfl)) (fun q => (gt_nm (i := 4) nd (by kernel_rfl) (by exact loc_of (by kernel_rfl)) (by first | exact .inl rfl | exact .inr rfl))) (fun d22 => cb_nm (cb_mk (env2 := [.sh (a0), .sh (a1), .no, .no, .sh (d22), .no, .no]) (fun q => .one (dt_tru (DE.toB (de_c1B (c_all rfl) bt_all hb_all (DE.toB (de_lc [("a", 5), ("b", 6)] (di_zip (DE.toB (de_v (i := 1) rfl (by kernel_rfl) (by exact vis_of (by kernel_rfl)) (by kernel_rfl) (by kernel_rfl))) (DE.toB (de_v (i := 4) rfl (by kernel_rfl) (by exact vis_of (by kernel_rfl)) (by kernel_rfl) (by kernel_rfl))) (.inr rfl) hb_zip (by exact gl_of (by kernel_rfl)) (by kernel_rfl) (by kernel_rfl) (by kernel_rfl)) (fun q => (gt_tup (gts_cons (gt_nm (i := 5) nd (by kernel_rfl) (by exact loc_of (by kernel_rfl)) (by first | exact .inl rfl | exact .inr rfl)) (gts_cons (gt_nm (i := 6) nd (by kernel_rfl) (by exact loc_of (by kernel_rfl)) (by first | exact .inl rfl | exact .inr rfl)) gts_nil (by kernel_rfl)) (by kernel_rfl)) rfl (by kernel_rfl) (by kernel_rfl))) (fun d25 => cb_2 fun p26 p27 => cb_mk (env2 := [.sh (a0), .sh (a1), .no, .no, .sh (d22), .sh (p26), .sh (p27)]) (fun q => .nil) (fun q => de_cmp (o_in hu65) (DE.toB (de_v (i := 5) rfl (by kernel_rfl) (by exact vis_of (by kernel_rfl)) (by kernel_rfl) (by kernel_rfl))) (DE.toB (de_tup (da_cons (de_v (i := 6) rfl (by kernel_rfl) (by exact vis_of (by kernel_rfl)) (by kernel_rfl) (by kernel_rfl)) (da_cons (de_str (s := [63]) (by kernel_rfl) (by kernel_rfl)) (da_nil) (by kernel_rfl)) (by kernel_rfl)) (by decide))) (by first | exact nomark _ | rfl))) rfl nd (blkOk_by (by kernel_rfl)) (by decide) (by intro _; kernel_rfl))) (by exact gl_of (by kernel_rfl)) (by exact ne_name (by kernel_rfl)) (by kernel_rfl) (by kernel_rfl) (by kernel_rfl))) (by intro _; kernel_rfl))) (fun q => de_v (i := 4) rfl (by kernel_rfl) (by exact vis_of (by kernel_rfl)) (by kernel_rfl) (by kernel_rfl)))) (dss_setF (fun v15 => by exact ds_env (e' := [.sh (a0), .sh (a1), .no, .sh (v15), .no, .no, .no]) rfl (dss_ret (us := []) (de_if (dt_cmp (o_eq hu64) (DE.toB (de_c1B c_len bt_len hb_len (DE.toB (de_v (i := 3) rfl (by kernel_rfl) (by exact vis_of (by kernel_rfl)) (by kernel_rfl) (by kernel_rfl))) (by exact gl_of (by kernel_rfl)) (by exact ne_name (by kernel_rfl)) (by kernel_rfl) (by kernel_rfl) (by kernel_rfl))) (DE.toB (de_int)) (by first | exact nomark _ | rfl)) (de_ix (DE.toB (de_v (i := 3) rfl (by kernel_rfl) (by exact vis_of (by kernel_rfl)) (by kernel_rfl) (by kernel_rfl))) (DE.toB (de_int)) (by intro _ _; kernel_rfl)) (de_non)) trivial io0)) (Nat.le_of_ble_eq_true rfl)) trivial rfl nd (blkOk_by (by kernel_rfl)) (by kernel_rfl) (by kernel_rfl) (by kernel_rfl) (by decide) (by decide) (by intro _; kernel_rfl))) trivial)) trivial (by kernel_rfl))), rfl, nofun⟩
end
end K23

-- K23Funguarded
set_option Elab.async false
set_option linter.all false
set_option maxRecDepth 100000
set_option maxHeartbeats 0
namespace K23
open DL PySem PySem.Spec PyProof.Rows L2
section
variable {P : Program} {w : World} {K : PySem.W.Frag} {mg : Str → Option Value} {base : Heap} {T : Tb}
theorem fn_unguarded (Fx : TX P w K mg base T) : FnD P w K mg base T 7 "unguarded" 2 .S M_unguarded := by
  obtain ⟨f, fd, hm, Fn, b⟩ := Fx.d_unguarded
  have hb_len := Fx.b_len
  obtain ⟨_, hx_InvalidBits⟩ := Fx.x_InvalidBits
  refine fnD_of Fn hm sc_unguarded b fun cdv A outer s H E ds hl hr => ?_
  have nd := sc_unguarded.nd
  have tk := takes_cx (P := P) (w := w) (K := K) (mg := mg) (base := base) (N := ["bits", "divisor"]) (q := "unguarded") (scope := defScope t_unguarded) (f := f) (cd := cdv) (A := A) (outer := outer) (s := s) (H := H) (E := E)
  have hu1 := hr.u1
  have hu64 := hr.u64
  have hu65 := hr.u65
  match ds, hl with
  | [a0, a1], _ => exact ⟨B_unguarded a0 a1, (by exact ds_env (e' := [.sh (a0), .sh (a1)]) rfl (dss_ifR (dt_not (dt_tru (DE.toB (de_call (fn_is_whole Fx) hr tk (da_cons (de_v (i := 0) rfl (by kernel_rfl) (by exact vis_of (by kernel_rfl)) (by kernel_rfl) (by kernel_rfl)) (da_cons (de_v (i := 1) rfl (by kernel_rfl) (by exact vis_of (by kernel_rfl)) (by kernel_rfl) (by kernel_rfl)) (da_nil) (by kernel_rfl)) (by kernel_rfl)) (by omega) (by kernel_rfl) (by exact gl_of (by kernel_rfl)) (by kernel_rfl) (by kernel_rfl) (by kernel_rfl))) (by intro _; kernel_rfl))) (by exact ds_env (e' := [.sh (a0), .sh (a1)]) rfl (dss_raise tk trivial rfl PySem.F.excBase_ValueError hx_InvalidBits.1 hx_InvalidBits.2.1 hx_InvalidBits.2.2.1 (raises_own hx_InvalidBits.2.2.2.1 hx_InvalidBits.2.2.2.2) (by exact gl_of (by kernel_rfl)) (by kernel_rfl))) (by exact ds_env (e' := [.sh (a0), .sh (a1)]) rfl (dss_ret (us := []) (de_slc (DE.toB (de_v (i := 0) rfl (by kernel_rfl) (by exact vis_of (by kernel_rfl)) (by kernel_rfl) (by kernel_rfl))) (dp_none) (dp_some (de_op o_add (DE.toB (de_op o_sub (DE.toB (de_c1B c_len bt_len hb_len (DE.toB (de_v (i := 0) rfl (by kernel_rfl) (by exact vis_of (by kernel_rfl)) (by kernel_rfl) (by kernel_rfl))) (by exact gl_of (by kernel_rfl)) (by exact ne_name (by kernel_rfl)) (by kernel_rfl) (by kernel_rfl) (by kernel_rfl))) (DE.toB (de_c1B c_len bt_len hb_len (DE.toB (de_v (i := 1) rfl (by kernel_rfl) (by exact vis_of (by kernel_rfl)) (by kernel_rfl) (by kernel_rfl))) (by exact gl_of (by kernel_rfl)) (by exact ne_name (by kernel_rfl)) (by kernel_rfl) (by kernel_rfl) (by kernel_rfl))))) (DE.toB (de_int))))) trivial io0)) trivial)), rfl, nofun⟩
end
end K23

-- K23Flaw
set_option Elab.async false
set_option linter.all false
set_option maxRecDepth 100000
set_option maxHeartbeats 0
namespace K23
open DL PySem PySem.Spec PyProof.Rows L2
section
variable {P : Program} {w : World} {K : PySem.W.Frag} {mg : Str → Option Value} {base : Heap} {T : Tb}
theorem ok_law (Fx : TX P w K mg base T) {f : Addr} {fd : FuncData} {c0 Pt : Addr} (Fn : FunC K "law" t_law f fd (fun cdv => cdv = .ref c0)) (b : Binds K fd ["script"] []) (TB : LamX.TabB base mg c0 Pt) (hmT : (Pt, ("law.<locals>.<lambda>" : Str)) ∈ T) (huT : ∀ p ∈ T, p.1 = Pt → p.2 = ("law.<locals>.<lambda>" : Str)) : FnOk P w K mg base (L2.CX P w) 10 f fd ["script"] (spN K T mg .S 1 M_law) := by
  have hb_all := Fx.b_all
  have hb_int := Fx.b_int
  have hb_len := Fx.b_len
  have hb_min := Fx.b_min
  have hb_range := Fx.b_range
  have hb_str := Fx.b_str
  have hb_tuple := Fx.b_tuple
  refine fnOk_ofC Fn sc_law b fun cdv hC A outer s H E ds hl hr => ?_
  subst hC
  have nd := sc_law.nd
  have tk := takes_cx (P := P) (w := w) (K := K) (mg := mg) (base := base) (N := ["script", "tape", "turn", "divisor", "k", "bits", "whole", "period", "n", "unit", "shows", "at", "other", "far", "size", "words", "word", "j", "rows", "least", "sent", "got", "fars", "gaps", "fits", "sign", "wrong", "place", "bad"]) (q := "law") (scope := defScope t_law) (f := f) (cd := .ref c0) (A := A) (outer := outer) (s := s) (H := H) (E := E)
  have hu1 := hr.u1
  have hu64 := hr.u64
  have hu65 := hr.u65
  match ds, hl with
  | [a0], _ => exact ⟨B_law a0, (by exact sn_env (e' := [.sh (a0), .no, .no, .no, .no, .no, .no, .no, .no, .no, .no, .no, .no, .no, .no, .no, .no, .no, .no, .no, .no, .no, .no, .no, .no, .no, .no, .no, .no]) rfl (sn_set (i := 1) (en_of (de_call (fn__law_tape Fx) hr tk (da_cons (de_v (i := 0) rfl (by kernel_rfl) (by exact vis_of (by kernel_rfl)) (by kernel_rfl) (by kernel_rfl)) (da_nil) (by kernel_rfl)) (by omega) (by kernel_rfl) (by exact gl_of (by kernel_rfl)) (by kernel_rfl) (by kernel_rfl) (by kernel_rfl))) (fun v1 => by exact sn_env (e' := [.sh (a0), .sh (v1), .no, .no, .no, .no, .no, .no, .no, .no, .no, .no, .no, .no, .no, .no, .no, .no, .no, .no, .no, .no, .no, .no, .no, .no, .no, .no, .no]) rfl (sn_for (pt := (Pat.nm 2)) (injb := (fun (s2 : Unit) => [.sh (a0), .sh (v1), .no, .no, .no, .no, .no, .no, .no, .no, .no, .no, .no, .no, .no, .no, .no, .no, .no, .no, .no, .no, .no, .no, .no, .no, .no, .no, .no])) (s0 := ()) (in_of (di_r1 (md := .S) (de_int) hb_range (by exact gl_of (by kernel_rfl)) (by kernel_rfl))) (gt_nm (i := 2) nd (by kernel_rfl) (by exact loc_of (by kernel_rfl)) (by first | exact .inl rfl | exact .inr rfl)) (fun d5 s3 => sno_nm (by exact sn_env (e' := [.sh (a0), .sh (v1), .sh (d5), .no, .no, .no, .no, .no, .no, .no, .no, .no, .no, .no, .no, .no, .no, .no, .no, .no, .no, .no, .no, .no, .no, .no, .no, .no, .no]) rfl (sn_set (i := 3) (en_op o_add (EN.toB (en_op o_add (en_of (DE.toB (de_str (s := [49]) (by kernel_rfl) (by kernel_rfl)))) (fun _ => EN.toB (en_join (en_of (DE.toB (de_str (s := []) (by kernel_rfl) (by kernel_rfl)))) (EN.toB (en_lc [("k", 4)] (in_r1 (md := .B) (en_call (fn__law_take Fx) hr tk (an_of (da_cons (de_v (i := 1) rfl (by kernel_rfl) (by exact vis_of (by kernel_rfl)) (by kernel_rfl) (by kernel_rfl)) (da_cons (de_int) (da_nil) (by kernel_rfl)) (by kernel_rfl))) (by omega) (by kernel_rfl) (by exact gl_of (by kernel_rfl)) (by kernel_rfl) (by kernel_rfl) (by kernel_rfl)) hb_range (by exact gl_of (by kernel_rfl)) (by kernel_rfl)) (fun q => (gt_nm (i := 4) nd (by kernel_rfl) (by exact loc_of (by kernel_rfl)) (by first | exact .inl rfl | exact .inr rfl))) (fun d369 => cn_nm (cn_mk (env2 := [.sh (a0), .sh (v1), .sh (d5), .no, .sh (d369), .no, .no, .no, .no, .no, .no, .no, .no, .no, .no, .no, .no, .no, .no, .no, .no, .no, .no, .no, .no, .no, .no, .no, .no]) (fun q => .nil) (fun q => en_c1T c_str bt_str hb_str (EN.toB (en_call (fn__law_take Fx) hr takes_none5 (an_of (da_cons (de_v (i := 1) rfl (by kernel_rfl) (by exact vis_of (by kernel_rfl)) (by kernel_rfl) (by kernel_rfl)) (da_cons (de_int) (da_nil) (by kernel_rfl)) (by kernel_rfl))) (by omega) (by kernel_rfl) (by exact gl_of (by kernel_rfl)) (by kernel_rfl) (by kernel_rfl) (by kernel_rfl))) (by exact gl_of (by kernel_rfl)) (by exact ne_name (by kernel_rfl)) (by kernel_rfl) (by kernel_rfl) (by kernel_rfl)))) rfl nd (blkOk_by (by kernel_rfl)) (by decide) (by intro _; kernel_rfl))) (by kernel_rfl) (by kernel_rfl) (by kernel_rfl))))) (fun _ => en_of (DE.toB (de_str (s := [49]) (by kernel_rfl) (by kernel_rfl))))) (fun v6 => by exact sn_env (e' := [.sh (a0), .sh (v1), .sh (d5), .sh (v6), .no, .no, .no, .no, .no, .no, .no, .no, .no, .no, .no, .no, .no, .no, .no, .no, .no, .no, .no, .no, .no, .no, .no, .no, .no]) rfl (sn_set (i := 5) (en_call (fn__law_bits Fx) hr tk (an_of (da_cons (de_v (i := 1) rfl (by kernel_rfl) (by exact vis_of (by kernel_rfl)) (by kernel_rfl) (by kernel_rfl)) (da_cons (de_int) (da_nil) (by kernel_rfl)) (by kernel_rfl))) (by omega) (by kernel_rfl) (by exact gl_of (by kernel_rfl)) (by kernel_rfl) (by kernel_rfl) (by kernel_rfl)) (fun v7 => by exact sn_env (e' := [.sh (a0), .sh (v1), .sh (d5), .sh (v6), .no, .sh (v7), .no, .no, .no, .no, .no, .no, .no, .no, .no, .no, .no, .no, .no, .no, .no, .no, .no, .no, .no, .no, .no, .no, .no]) rfl (sn_set (i := 6) (en_of (de_op o_add (DE.toB (de_v (i := 5) rfl (by kernel_rfl) (by exact vis_of (by kernel_rfl)) (by kernel_rfl) (by kernel_rfl))) (DE.toB (de_call (fn__law_rest Fx) hr tk (da_cons (de_v (i := 5) rfl (by kernel_rfl) (by exact vis_of (by kernel_rfl)) (by kernel_rfl) (by kernel_rfl)) (da_cons (de_v (i := 3) rfl (by kernel_rfl) (by exact vis_of (by kernel_rfl)) (by kernel_rfl) (by kernel_rfl)) (da_nil) (by kernel_rfl)) (by kernel_rfl)) (by omega) (by kernel_rfl) (by exact gl_of (by kernel_rfl)) (by kernel_rfl) (by kernel_rfl) (by kernel_rfl))))) (fun v8 => by exact sn_env (e' := [.sh (a0), .sh (v1), .sh (d5), .sh (v6), .no, .sh (v7), .sh (v8), .no, .no, .no, .no, .no, .no, .no, .no, .no, .no, .no, .no, .no, .no, .no, .no, .no, .no, .no, .no, .no, .no]) rfl (sn_ifR (tn_of (dt_w (dw_or (dt_cmp (o_ne hu64) (DE.toB (de_call (fn_rest_of Fx) hr tk (da_cons (de_v (i := 5) rfl (by kernel_rfl) (by exact vis_of (by kernel_rfl)) (by kernel_rfl) (by kernel_rfl)) (da_cons (de_v (i := 3) rfl (by kernel_rfl) (by exact vis_of (by kernel_rfl)) (by kernel_rfl) (by kernel_rfl)) (da_nil) (by kernel_rfl)) (by kernel_rfl)) (by omega) (by kernel_rfl) (by exact gl_of (by kernel_rfl)) (by kernel_rfl) (by kernel_rfl) (by kernel_rfl))) (DE.toB (de_call (fn__law_rest Fx) hr tk (da_cons (de_v (i := 5) rfl (by kernel_rfl) (by exact vis_of (by kernel_rfl)) (by kernel_rfl) (by kernel_rfl)) (da_cons (de_v (i := 3) rfl (by kernel_rfl) (by exact vis_of (by kernel_rfl)) (by kernel_rfl) (by kernel_rfl)) (da_nil) (by kernel_rfl)) (by kernel_rfl)) (by omega) (by kernel_rfl) (by exact gl_of (by kernel_rfl)) (by kernel_rfl) (by kernel_rfl) (by kernel_rfl))) (by first | exact nomark _ | rfl)) (dw_or (dt_cmp (o_ne hu64) (DE.toB (de_call (fn_guarded Fx) hr tk (da_cons (de_v (i := 5) rfl (by kernel_rfl) (by exact vis_of (by kernel_rfl)) (by kernel_rfl) (by kernel_rfl)) (da_cons (de_v (i := 3) rfl (by kernel_rfl) (by exact vis_of (by kernel_rfl)) (by kernel_rfl) (by kernel_rfl)) (da_nil) (by kernel_rfl)) (by kernel_rfl)) (by omega) (by kernel_rfl) (by exact gl_of (by kernel_rfl)) (by kernel_rfl) (by kernel_rfl) (by kernel_rfl))) (DE.toB (de_v (i := 6) rfl (by kernel_rfl) (by exact vis_of (by kernel_rfl)) (by kernel_rfl) (by kernel_rfl))) (by first | exact nomark _ | rfl)) (dw_or (dt_cmp o_isnot (DE.toB (de_call (fn_is_whole Fx) hr tk (da_cons (de_v (i := 6) rfl (by kernel_rfl) (by exact vis_of (by kernel_rfl)) (by kernel_rfl) (by kernel_rfl)) (da_cons (de_v (i := 3) rfl (by kernel_rfl) (by exact vis_of (by kernel_rfl)) (by kernel_rfl) (by kernel_rfl)) (da_nil) (by kernel_rfl)) (by kernel_rfl)) (by omega) (by kernel_rfl) (by exact gl_of (by kernel_rfl)) (by kernel_rfl) (by kernel_rfl) (by kernel_rfl))) (DE.toB (de_bl)) (by first | exact nomark _ | rfl)) (dw_or1 (dt_cmp (o_ne hu64) (DE.toB (de_call (fn_unguarded Fx) hr tk (da_cons (de_v (i := 6) rfl (by kernel_rfl) (by exact vis_of (by kernel_rfl)) (by kernel_rfl) (by kernel_rfl)) (da_cons (de_v (i := 3) rfl (by kernel_rfl) (by exact vis_of (by kernel_rfl)) (by kernel_rfl) (by kernel_rfl)) (da_nil) (by kernel_rfl)) (by kernel_rfl)) (by omega) (by kernel_rfl) (by exact gl_of (by kernel_rfl)) (by kernel_rfl) (by kernel_rfl) (by kernel_rfl))) (DE.toB (de_v (i := 5) rfl (by kernel_rfl) (by exact vis_of (by kernel_rfl)) (by kernel_rfl) (by kernel_rfl))) (by first | exact nomark _ | rfl)))))))) (by exact sn_env (e' := [.sh (a0), .sh (v1), .sh (d5), .sh (v6), .no, .sh (v7), .sh (v8), .no, .no, .no, .no, .no, .no, .no, .no, .no, .no, .no, .no, .no, .no, .no, .no, .no, .no, .no, .no, .no, .no]) rfl (sn_ret (us := []) (en_of (de_bl)) trivial io0)) (by exact sn_env (e' := [.sh (a0), .sh (v1), .sh (d5), .sh (v6), .no, .sh (v7), .sh (v8), .no, .no, .no, .no, .no, .no, .no, .no, .no, .no, .no, .no, .no, .no, .no, .no, .no, .no, .no, .no, .no, .no]) rfl (sn_set (i := 7) (en_of (de_call (fn_first_turn_of Fx) hr tk (da_cons (de_v (i := 3) rfl (by kernel_rfl) (by exact vis_of (by kernel_rfl)) (by kernel_rfl) (by kernel_rfl)) (da_nil) (by kernel_rfl)) (by omega) (by kernel_rfl) (by exact gl_of (by kernel_rfl)) (by kernel_rfl) (by kernel_rfl) (by kernel_rfl))) (fun v37 => by exact sn_env (e' := [.sh (a0), .sh (v1), .sh (d5), .sh (v6), .no, .sh (v7), .sh (v8), .sh (v37), .no, .no, .no, .no, .no, .no, .no, .no, .no, .no, .no, .no, .no, .no, .no, .no, .no, .no, .no, .no, .no]) rfl (sn_for (pt := (Pat.nm 8)) (injb := (fun (s38 : Unit) => [.sh (a0), .sh (v1), .sh (d5), .sh (v6), .no, .sh (v7), .sh (v8), .sh (v37), .no, .no, .no, .no, .no, .no, .no, .no, .no, .no, .no, .no, .no, .no, .no, .no, .no, .no, .no, .no, .no])) (s0 := ()) (in_of (di_r2 (md := .S) (de_int) (de_op o_add (DE.toB (de_v (i := 7) rfl (by kernel_rfl) (by exact vis_of (by kernel_rfl)) (by kernel_rfl) (by kernel_rfl))) (DE.toB (de_int))) hb_range (by exact gl_of (by kernel_rfl)) (by kernel_rfl) (by kernel_rfl))) (gt_nm (i := 8) nd (by kernel_rfl) (by exact loc_of (by kernel_rfl)) (by first | exact .inl rfl | exact .inr rfl)) (fun d44 s39 => sno_nm (by exact sn_env (e' := [.sh (a0), .sh (v1), .sh (d5), .sh (v6), .no, .sh (v7), .sh (v8), .sh (v37), .sh (d44), .no, .no, .no, .no, .no, .no, .no, .no, .no, .no, .no, .no, .no, .no, .no, .no, .no, .no, .no, .no]) rfl (sn_set (i := 9) (en_of (de_op o_add (DE.toB (de_op o_add (DE.toB (de_str (s := [49]) (by kernel_rfl) (by kernel_rfl))) (DE.toB (de_op o_mul (DE.toB (de_str (s := [48]) (by kernel_rfl) (by kernel_rfl))) (DE.toB (de_op o_sub (DE.toB (de_v (i := 8) rfl (by kernel_rfl) (by exact vis_of (by kernel_rfl)) (by kernel_rfl) (by kernel_rfl))) (DE.toB (de_int)))))))) (DE.toB (de_str (s := [49]) (by kernel_rfl) (by kernel_rfl))))) (fun v45 => by exact sn_env (e' := [.sh (a0), .sh (v1), .sh (d5), .sh (v6), .no, .sh (v7), .sh (v8), .sh (v37), .sh (d44), .sh (v45), .no, .no, .no, .no, .no, .no, .no, .no, .no, .no, .no, .no, .no, .no, .no, .no, .no, .no, .no]) rfl (sn_set (i := 10) (en_of (de_cmp (o_eq hu64) (DE.toB (de_call (fn__law_rest Fx) hr tk (da_cons (de_v (i := 9) rfl (by kernel_rfl) (by exact vis_of (by kernel_rfl)) (by kernel_rfl) (by kernel_rfl)) (da_cons (de_v (i := 3) rfl (by kernel_rfl) (by exact vis_of (by kernel_rfl)) (by kernel_rfl) (by kernel_rfl)) (da_nil) (by kernel_rfl)) (by kernel_rfl)) (by omega) (by kernel_rfl) (by exact gl_of (by kernel_rfl)) (by kernel_rfl) (by kernel_rfl) (by kernel_rfl))) (DE.toB (de_op o_mul (DE.toB (de_str (s := [48]) (by kernel_rfl) (by kernel_rfl))) (DE.toB (de_op o_sub (DE.toB (de_c1B c_len bt_len hb_len (DE.toB (de_v (i := 3) rfl (by kernel_rfl) (by exact vis_of (by kernel_rfl)) (by kernel_rfl) (by kernel_rfl))) (by exact gl_of (by kernel_rfl)) (by exact ne_name (by kernel_rfl)) (by kernel_rfl) (by kernel_rfl) (by kernel_rfl))) (DE.toB (de_int)))))) (by first | exact nomark _ | rfl))) (fun v46 => by exact sn_env (e' := [.sh (a0), .sh (v1), .sh (d5), .sh (v6), .no, .sh (v7), .sh (v8), .sh (v37), .sh (d44), .sh (v45), .sh (v46), .no, .no, .no, .no, .no, .no, .no, .no, .no, .no, .no, .no, .no, .no, .no, .no, .no, .no]) rfl (sn_ifR (tn_of (dt_w (dw_or (dt_w (dw_and (dt_tru (DE.toB (de_v (i := 10) rfl (by kernel_rfl) (by exact vis_of (by kernel_rfl)) (by kernel_rfl) (by kernel_rfl))) (by intro _; kernel_rfl)) (dw_and1 (dt_cmp o_lt (DE.toB (de_v (i := 8) rfl (by kernel_rfl) (by exact vis_of (by kernel_rfl)) (by kernel_rfl) (by kernel_rfl))) (DE.toB (de_v (i := 7) rfl (by kernel_rfl) (by exact vis_of (by kernel_rfl)) (by kernel_rfl) (by kernel_rfl))) (by first | exact nomark _ | rfl))))) (dw_or1 (dt_w (dw_and (dt_cmp (o_eq hu64) (DE.toB (de_v (i := 8) rfl (by kernel_rfl) (by exact vis_of (by kernel_rfl)) (by kernel_rfl) (by kernel_rfl))) (DE.toB (de_v (i := 7) rfl (by kernel_rfl) (by exact vis_of (by kernel_rfl)) (by kernel_rfl) (by kernel_rfl))) (by first | exact nomark _ | rfl)) (dw_and1 (dt_not (dt_tru (DE.toB (de_v (i := 10) rfl (by kernel_rfl) (by exact vis_of (by kernel_rfl)) (by kernel_rfl) (by kernel_rfl))) (by intro _; kernel_rfl)))))))))) (by exact sn_env (e' := [.sh (a0), .sh (v1), .sh (d5), .sh (v6), .no, .sh (v7), .sh (v8), .sh (v37), .sh (d44), .sh (v45), .sh (v46), .no, .no, .no, .no, .no, .no, .no, .no, .no, .no, .no, .no, .no, .no, .no, .no, .no, .no]) rfl (sn_ret (us := []) (en_of (de_bl)) trivial io0)) (by exact sn_env (e' := [.sh (a0), .sh (v1), .sh (d5), .sh (v6), .no, .sh (v7), .sh (v8), .sh (v37), .sh (d44), .sh (v45), .sh (v46), .no, .no, .no, .no, .no, .no, .no, .no, .no, .no, .no, .no, .no, .no, .no, .no, .no, .no]) rfl (sn_ifR (tn_of (dt_cmp o_gt (DE.toB (de_v (i := 8) rfl (by kernel_rfl) (by exact vis_of (by kernel_rfl)) (by kernel_rfl) (by kernel_rfl))) (DE.toB (de_int)) (by first | exact nomark _ | rfl))) (by exact sn_env (e' := [.sh (a0), .sh (v1), .sh (d5), .sh (v6), .no, .sh (v7), .sh (v8), .sh (v37), .sh (d44), .sh (v45), .sh (v46), .no, .no, .no, .no, .no, .no, .no, .no, .no, .no, .no, .no, .no, .no, .no, .no, .no, .no]) rfl (sn_break (s := ()) (.eq (.eq (.eq (.eq (.no (.eq (.eq (.eq (.no (.no (.no (.no (.no (.no (.no (.no (.no (.no (.no (.no (.no (.no (.no (.no (.no (.no (.no (.no (.no .nil))))))))))))))))))))))))))))))) (by exact sn_env (e' := [.sh (a0), .sh (v1), .sh (d5), .sh (v6), .no, .sh (v7), .sh (v8), .sh (v37), .sh (d44), .sh (v45), .sh (v46), .no, .no, .no, .no, .no, .no, .no, .no, .no, .no, .no, .no, .no, .no, .no, .no, .no, .no]) rfl (sn_nil (s := ()) (.eq (.eq (.eq (.eq (.no (.eq (.eq (.eq (.no (.no (.no (.no (.no (.no (.no (.no (.no (.no (.no (.no (.no (.no (.no (.no (.no (.no (.no (.no (.no .nil))))))))))))))))))))))))))))))) trivial)) trivial)) trivial nd (by kernel_rfl) (by exact loc_of (by kernel_rfl)) (by decide) (by kernel_rfl) (by first | exact .inl rfl | exact .inr rfl))) trivial nd (by kernel_rfl) (by exact loc_of (by kernel_rfl)) (by decide) (by kernel_rfl) (by first | exact .inl rfl | exact .inr rfl)))) (fun s74 => by exact sn_env (e' := [.sh (a0), .sh (v1), .sh (d5), .sh (v6), .no, .sh (v7), .sh (v8), .sh (v37), .no, .no, .no, .no, .no, .no, .no, .no, .no, .no, .no, .no, .no, .no, .no, .no, .no, .no, .no, .no, .no]) rfl (sn_set (i := 11) (en_call (fn__law_take Fx) hr tk (an_of (da_cons (de_v (i := 1) rfl (by kernel_rfl) (by exact vis_of (by kernel_rfl)) (by kernel_rfl) (by kernel_rfl)) (da_cons (de_c1B c_len bt_len hb_len (DE.toB (de_v (i := 6) rfl (by kernel_rfl) (by exact vis_of (by kernel_rfl)) (by kernel_rfl) (by kernel_rfl))) (by exact gl_of (by kernel_rfl)) (by exact ne_name (by kernel_rfl)) (by kernel_rfl) (by kernel_rfl) (by kernel_rfl)) (da_nil) (by kernel_rfl)) (by kernel_rfl))) (by omega) (by kernel_rfl) (by exact gl_of (by kernel_rfl)) (by kernel_rfl) (by kernel_rfl) (by kernel_rfl)) (fun v75 => by exact sn_env (e' := [.sh (a0), .sh (v1), .sh (d5), .sh (v6), .no, .sh (v7), .sh (v8), .sh (v37), .no, .no, .no, .sh (v75), .no, .no, .no, .no, .no, .no, .no, .no, .no, .no, .no, .no, .no, .no, .no, .no, .no]) rfl (sn_set (i := 12) (en_of (de_call (fn__law_turn Fx) hr tk (da_cons (de_v (i := 6) rfl (by kernel_rfl) (by exact vis_of (by kernel_rfl)) (by kernel_rfl) (by kernel_rfl)) (da_cons (de_v (i := 11) rfl (by kernel_rfl) (by exact vis_of (by kernel_rfl)) (by kernel_rfl) (by kernel_rfl)) (da_nil) (by kernel_rfl)) (by kernel_rfl)) (by omega) (by kernel_rfl) (by exact gl_of (by kernel_rfl)) (by kernel_rfl) (by kernel_rfl) (by kernel_rfl))) (fun v76 => by exact sn_env (e' := [.sh (a0), .sh (v1), .sh (d5), .sh (v6), .no, .sh (v7), .sh (v8), .sh (v37), .no, .no, .no, .sh (v75), .sh (v76), .no, .no, .no, .no, .no, .no, .no, .no, .no, .no, .no, .no, .no, .no, .no, .no]) rfl (sn_ifR (tn_of (dt_w (dw_or (dt_cmp o_isnot (DE.toB (de_call (fn_is_whole Fx) hr tk (da_cons (de_v (i := 12) rfl (by kernel_rfl) (by exact vis_of (by kernel_rfl)) (by kernel_rfl) (by kernel_rfl)) (da_cons (de_v (i := 3) rfl (by kernel_rfl) (by exact vis_of (by kernel_rfl)) (by kernel_rfl) (by kernel_rfl)) (da_nil) (by kernel_rfl)) (by kernel_rfl)) (by omega) (by kernel_rfl) (by exact gl_of (by kernel_rfl)) (by kernel_rfl) (by kernel_rfl) (by kernel_rfl))) (DE.toB (de_bl)) (by first | exact nomark _ | rfl)) (dw_or1 (dt_cmp (o_ne hu64) (DE.toB (de_lam (k := 7) (lf__law_code Fx rfl rfl) (gl_of (by kernel_rfl)) TB rfl hmT huT (hr.mono (by omega)) (LamX.lamS_by (by kernel_rfl)) (by kernel_rfl) (fun _ _ _ _ _ => by kernel_rfl) (fun A outer s H E f c hr => de_call (fn_unguarded Fx) hr takes_lam (da_cons (de_v (i := 12) rfl (by kernel_rfl) (by exact vis_of (by kernel_rfl)) (by kernel_rfl) (by kernel_rfl)) (da_cons (de_v (i := 3) rfl (by kernel_rfl) (by exact vis_of (by kernel_rfl)) (by kernel_rfl) (by kernel_rfl)) (da_nil) (by kernel_rfl)) (by kernel_rfl)) (by omega) (by kernel_rfl) (by exact gl_of (by kernel_rfl)) (by kernel_rfl) (by kernel_rfl) (by kernel_rfl)) (by kernel_rfl))) (DE.toB (de_str (s := [98, 105, 116, 115]) (by kernel_rfl) (by kernel_rfl))) (by first | exact nomark _ | rfl)))))) (by exact sn_env (e' := [.sh (a0), .sh (v1), .sh (d5), .sh (v6), .no, .sh (v7), .sh (v8), .sh (v37), .no, .no, .no, .sh (v75), .sh (v76), .no, .no, .no, .no, .no, .no, .no, .no, .no, .no, .no, .no, .no, .no, .no, .no]) rfl (sn_ret (us := []) (en_of (de_bl)) trivial io0)) (by exact sn_env (e' := [.sh (a0), .sh (v1), .sh (d5), .sh (v6), .no, .sh (v7), .sh (v8), .sh (v37), .no, .no, .no, .sh (v75), .sh (v76), .no, .no, .no, .no, .no, .no, .no, .no, .no, .no, .no, .no, .no, .no, .no, .no]) rfl (sn_if (inj1 := (fun (s342 : Unit) => [.sh (a0), .sh (v1), .sh (d5), .sh (v6), .no, .sh (v7), .sh (v8), .sh (v37), .no, .no, .no, .no, .sh (v76), .no, .no, .no, .no, .no, .no, .no, .no, .no, .no, .no, .no, .no, .no, .no, .no])) (tn_of (dt_cmp o_gt (DE.toB (de_c1B c_len bt_len hb_len (DE.toB (de_v (i := 6) rfl (by kernel_rfl) (by exact vis_of (by kernel_rfl)) (by kernel_rfl) (by kernel_rfl))) (by exact gl_of (by kernel_rfl)) (by exact ne_name (by kernel_rfl)) (by kernel_rfl) (by kernel_rfl) (by kernel_rfl))) (DE.toB (de_int)) (by first | exact nomark _ | rfl))) (by exact sn_env (e' := [.sh (a0), .sh (v1), .sh (d5), .sh (v6), .no, .sh (v7), .sh (v8), .sh (v37), .no, .no, .no, .sh (v75), .sh (v76), .no, .no, .no, .no, .no, .no, .no, .no, .no, .no, .no, .no, .no, .no, .no, .no]) rfl (sn_set (i := 13) (en_op o_add (en_of (DE.toB (de_int))) (fun _ => EN.toB (en_call (fn__law_take Fx) hr tk (an_of (da_cons (de_v (i := 1) rfl (by kernel_rfl) (by exact vis_of (by kernel_rfl)) (by kernel_rfl) (by kernel_rfl)) (da_cons (de_op o_sub (DE.toB (de_c1B c_len bt_len hb_len (DE.toB (de_v (i := 6) rfl (by kernel_rfl) (by exact vis_of (by kernel_rfl)) (by kernel_rfl) (by kernel_rfl))) (by exact gl_of (by kernel_rfl)) (by exact ne_name (by kernel_rfl)) (by kernel_rfl) (by kernel_rfl) (by kernel_rfl))) (DE.toB (de_int))) (da_nil) (by kernel_rfl)) (by kernel_rfl))) (by omega) (by kernel_rfl) (by exact gl_of (by kernel_rfl)) (by kernel_rfl) (by kernel_rfl) (by kernel_rfl)))) (fun v92 => by exact sn_env (e' := [.sh (a0), .sh (v1), .sh (d5), .sh (v6), .no, .sh (v7), .sh (v8), .sh (v37), .no, .no, .no, .sh (v75), .sh (v76), .sh (v92), .no, .no, .no, .no, .no, .no, .no, .no, .no, .no, .no, .no, .no, .no, .no]) rfl (sn_set (i := 11) (en_call (fn__law_take Fx) hr tk (an_of (da_cons (de_v (i := 1) rfl (by kernel_rfl) (by exact vis_of (by kernel_rfl)) (by kernel_rfl) (by kernel_rfl)) (da_cons (de_op o_sub (DE.toB (de_c1B c_len bt_len hb_len (DE.toB (de_v (i := 6) rfl (by kernel_rfl) (by exact vis_of (by kernel_rfl)) (by kernel_rfl) (by kernel_rfl))) (by exact gl_of (by kernel_rfl)) (by exact ne_name (by kernel_rfl)) (by kernel_rfl) (by kernel_rfl) (by kernel_rfl))) (DE.toB (de_v (i := 13) rfl (by kernel_rfl) (by exact vis_of (by kernel_rfl)) (by kernel_rfl) (by kernel_rfl)))) (da_nil) (by kernel_rfl)) (by kernel_rfl))) (by omega) (by kernel_rfl) (by exact gl_of (by kernel_rfl)) (by kernel_rfl) (by kernel_rfl) (by kernel_rfl)) (fun v93 => by exact sn_env (e' := [.sh (a0), .sh (v1), .sh (d5), .sh (v6), .no, .sh (v7), .sh (v8), .sh (v37), .no, .no, .no, .sh (v93), .sh (v76), .sh (v92), .no, .no, .no, .no, .no, .no, .no, .no, .no, .no, .no, .no, .no, .no, .no]) rfl (sn_ifR (tn_of (dt_cmp (o_ne hu64) (DE.toB (de_call (fn_is_whole Fx) hr tk (da_cons (de_call (fn__law_turn Fx) hr tk (da_cons (de_call (fn__law_turn Fx) hr tk (da_cons (de_v (i := 6) rfl (by kernel_rfl) (by exact vis_of (by kernel_rfl)) (by kernel_rfl) (by kernel_rfl)) (da_cons (de_v (i := 11) rfl (by kernel_rfl) (by exact vis_of (by kernel_rfl)) (by kernel_rfl) (by kernel_rfl)) (da_nil) (by kernel_rfl)) (by kernel_rfl)) (by omega) (by kernel_rfl) (by exact gl_of (by kernel_rfl)) (by kernel_rfl) (by kernel_rfl) (by kernel_rfl)) (da_cons (de_op o_add (DE.toB (de_v (i := 11) rfl (by kernel_rfl) (by exact vis_of (by kernel_rfl)) (by kernel_rfl) (by kernel_rfl))) (DE.toB (de_v (i := 13) rfl (by kernel_rfl) (by exact vis_of (by kernel_rfl)) (by kernel_rfl) (by kernel_rfl)))) (da_nil) (by kernel_rfl)) (by kernel_rfl)) (by omega) (by kernel_rfl) (by exact gl_of (by kernel_rfl)) (by kernel_rfl) (by kernel_rfl) (by kernel_rfl)) (da_cons (de_v (i := 3) rfl (by kernel_rfl) (by exact vis_of (by kernel_rfl)) (by kernel_rfl) (by kernel_rfl)) (da_nil) (by kernel_rfl)) (by kernel_rfl)) (by omega) (by kernel_rfl) (by exact gl_of (by kernel_rfl)) (by kernel_rfl) (by kernel_rfl) (by kernel_rfl))) (DE.toB (de_cmp (o_eq hu64) (DE.toB (de_op o_mod (DE.toB (de_c1T c_int bt_int hb_int (DE.toB (de_v (i := 13) rfl (by kernel_rfl) (by exact vis_of (by kernel_rfl)) (by kernel_rfl) (by kernel_rfl))) (by exact gl_of (by kernel_rfl)) (by exact ne_name (by kernel_rfl)) (by kernel_rfl) (by kernel_rfl) (by kernel_rfl))) (DE.toB (de_v (i := 7) rfl (by kernel_rfl) (by exact vis_of (by kernel_rfl)) (by kernel_rfl) (by kernel_rfl))))) (DE.toB (de_int)) (by first | exact nomark _ | rfl))) (by first | exact nomark _ | rfl))) (by exact sn_env (e' := [.sh (a0), .sh (v1), .sh (d5), .sh (v6), .no, .sh (v7), .sh (v8), .sh (v37), .no, .no, .no, .sh (v93), .sh (v76), .sh (v92), .no, .no, .no, .no, .no, .no, .no, .no, .no, .no, .no, .no, .no, .no, .no]) rfl (sn_ret (us := []) (en_of (de_bl)) trivial io0)) (by exact sn_env (e' := [.sh (a0), .sh (v1), .sh (d5), .sh (v6), .no, .sh (v7), .sh (v8), .sh (v37), .no, .no, .no, .sh (v93), .sh (v76), .sh (v92), .no, .no, .no, .no, .no, .no, .no, .no, .no, .no, .no, .no, .no, .no, .no]) rfl (sn_nil (s := ()) (.eq (.eq (.eq (.eq (.no (.eq (.eq (.eq (.no (.no (.no (.no (.eq (.no (.no (.no (.no (.no (.no (.no (.no (.no (.no (.no (.no (.no (.no (.no (.no .nil))))))))))))))))))))))))))))))) trivial)) trivial nd (by kernel_rfl) (by exact loc_of (by kernel_rfl)) (by decide) (by kernel_rfl) (by first | exact .inl rfl | exact .inr rfl))) trivial nd (by kernel_rfl) (by exact loc_of (by kernel_rfl)) (by decide) (by kernel_rfl) (by first | exact .inl rfl | exact .inr rfl))) (by exact sn_env (e' := [.sh (a0), .sh (v1), .sh (d5), .sh (v6), .no, .sh (v7), .sh (v8), .sh (v37), .no, .no, .no, .sh (v75), .sh (v76), .no, .no, .no, .no, .no, .no, .no, .no, .no, .no, .no, .no, .no, .no, .no, .no]) rfl (sn_nil (s := ()) (.eq (.eq (.eq (.eq (.no (.eq (.eq (.eq (.no (.no (.no (.no (.eq (.no (.no (.no (.no (.no (.no (.no (.no (.no (.no (.no (.no (.no (.no (.no (.no .nil))))))))))))))))))))))))))))))) (fun s131 => by exact sn_env (e' := [.sh (a0), .sh (v1), .sh (d5), .sh (v6), .no, .sh (v7), .sh (v8), .sh (v37), .no, .no, .no, .no, .sh (v76), .no, .no, .no, .no, .no, .no, .no, .no, .no, .no, .no, .no, .no, .no, .no, .no]) rfl (sn_set (i := 14) (en_op o_add (en_of (DE.toB (de_int))) (fun _ => EN.toB (en_call (fn__law_take Fx) hr tk (an_of (da_cons (de_v (i := 1) rfl (by kernel_rfl) (by exact vis_of (by kernel_rfl)) (by kernel_rfl) (by kernel_rfl)) (da_cons (de_int) (da_nil) (by kernel_rfl)) (by kernel_rfl))) (by omega) (by kernel_rfl) (by exact gl_of (by kernel_rfl)) (by kernel_rfl) (by kernel_rfl) (by kernel_rfl)))) (fun v132 => by exact sn_env (e' := [.sh (a0), .sh (v1), .sh (d5), .sh (v6), .no, .sh (v7), .sh (v8), .sh (v37), .no, .no, .no, .no, .sh (v76), .no, .sh (v132), .no, .no, .no, .no, .no, .no, .no, .no, .no, .no, .no, .no, .no, .no]) rfl (sn_set (i := 15) (en_of (DE.ofO (de_lst (da_nil) (by decide)))) (fun v133 => by exact sn_env (e' := [.sh (a0), .sh (v1), .sh (d5), .sh (v6), .no, .sh (v7), .sh (v8), .sh (v37), .no, .no, .no, .no, .sh (v76), .no, .sh (v132), .sh (v133), .no, .no, .no, .no, .no, .no, .no, .no, .no, .no, .no, .no, .no]) rfl (sn_for (pt := (Pat.nm 4)) (injb := (fun (s134 : D) => [.sh (a0), .sh (v1), .sh (d5), .sh (v6), .no, .sh (v7), .sh (v8), .sh (v37), .no, .no, .no, .no, .sh (v76), .no, .sh (v132), .sh (s134), .no, .no, .no, .no, .no, .no, .no, .no, .no, .no, .no, .no, .no])) (s0 := (v133)) (in_r1 (md := .S) (en_op o_add (en_of (DE.toB (de_int))) (fun _ => EN.toB (en_call (fn__law_take Fx) hr tk (an_of (da_cons (de_v (i := 1) rfl (by kernel_rfl) (by exact vis_of (by kernel_rfl)) (by kernel_rfl) (by kernel_rfl)) (da_cons (de_int) (da_nil) (by kernel_rfl)) (by kernel_rfl))) (by omega) (by kernel_rfl) (by exact gl_of (by kernel_rfl)) (by kernel_rfl) (by kernel_rfl) (by kernel_rfl)))) hb_range (by exact gl_of (by kernel_rfl)) (by kernel_rfl)) (gt_nm (i := 4) nd (by kernel_rfl) (by exact loc_of (by kernel_rfl)) (by first | exact .inl rfl | exact .inr rfl)) (fun d143 s135 => sno_nm (by exact sn_env (e' := [.sh (a0), .sh (v1), .sh (d5), .sh (v6), .sh (d143), .sh (v7), .sh (v8), .sh (v37), .no, .no, .no, .no, .sh (v76), .no, .sh (v132), .sh (s135), .no, .no, .no, .no, .no, .no, .no, .no, .no, .no, .no, .no, .no]) rfl (sn_set (i := 16) (en_join (en_of (DE.toB (de_str (s := []) (by kernel_rfl) (by kernel_rfl)))) (EN.toB (en_lc [("j", 17)] (in_of (di_r1 (md := .B) (de_v (i := 14) rfl (by kernel_rfl) (by exact vis_of (by kernel_rfl)) (by kernel_rfl) (by kernel_rfl)) hb_range (by exact gl_of (by kernel_rfl)) (by kernel_rfl))) (fun q => (gt_nm (i := 17) nd (by kernel_rfl) (by exact loc_of (by kernel_rfl)) (by first | exact .inl rfl | exact .inr rfl))) (fun d155 => cn_nm (cn_mk (env2 := [.sh (a0), .sh (v1), .sh (d5), .sh (v6), .sh (d143), .sh (v7), .sh (v8), .sh (v37), .no, .no, .no, .no, .sh (v76), .no, .sh (v132), .sh (s135), .no, .sh (d155), .no, .no, .no, .no, .no, .no, .no, .no, .no, .no, .no]) (fun q => .nil) (fun q => en_c1T c_str bt_str hb_str (EN.toB (en_call (fn__law_take Fx) hr takes_none5 (an_of (da_cons (de_v (i := 1) rfl (by kernel_rfl) (by exact vis_of (by kernel_rfl)) (by kernel_rfl) (by kernel_rfl)) (da_cons (de_int) (da_nil) (by kernel_rfl)) (by kernel_rfl))) (by omega) (by kernel_rfl) (by exact gl_of (by kernel_rfl)) (by kernel_rfl) (by kernel_rfl) (by kernel_rfl))) (by exact gl_of (by kernel_rfl)) (by exact ne_name (by kernel_rfl)) (by kernel_rfl) (by kernel_rfl) (by kernel_rfl)))) rfl nd (blkOk_by (by kernel_rfl)) (by decide) (by intro _; kernel_rfl))) (by kernel_rfl) (by kernel_rfl) (by kernel_rfl)) (fun v144 => by exact sn_env (e' := [.sh (a0), .sh (v1), .sh (d5), .sh (v6), .sh (d143), .sh (v7), .sh (v8), .sh (v37), .no, .no, .no, .no, .sh (v76), .no, .sh (v132), .sh (s135), .sh (v144), .no, .no, .no, .no, .no, .no, .no, .no, .no, .no, .no, .no]) rfl (sn_set (i := 15) (en_of (de_op o_add (DE.toB (de_v (i := 15) rfl (by kernel_rfl) (by exact vis_of (by kernel_rfl)) (by kernel_rfl) (by kernel_rfl))) (DE.toB (de_if (dt_cmp (o_notin hu65) (DE.toB (de_v (i := 16) rfl (by kernel_rfl) (by exact vis_of (by kernel_rfl)) (by kernel_rfl) (by kernel_rfl))) (DE.toB (de_v (i := 15) rfl (by kernel_rfl) (by exact vis_of (by kernel_rfl)) (by kernel_rfl) (by kernel_rfl))) (by first | exact nomark _ | rfl)) (DE.ofO (de_lst (da_cons (de_v (i := 16) rfl (by kernel_rfl) (by exact vis_of (by kernel_rfl)) (by kernel_rfl) (by kernel_rfl)) (da_nil) (by kernel_rfl)) (by decide))) (DE.ofO (de_lst (da_nil) (by decide))))))) (fun v145 => by exact sn_env (e' := [.sh (a0), .sh (v1), .sh (d5), .sh (v6), .sh (d143), .sh (v7), .sh (v8), .sh (v37), .no, .no, .no, .no, .sh (v76), .no, .sh (v132), .sh (v145), .sh (v144), .no, .no, .no, .no, .no, .no, .no, .no, .no, .no, .no, .no]) rfl (sn_nil (s := (v145)) (.eq (.eq (.eq (.eq (.no (.eq (.eq (.eq (.no (.no (.no (.no (.eq (.no (.eq (.eq (.no (.no (.no (.no (.no (.no (.no (.no (.no (.no (.no (.no (.no .nil))))))))))))))))))))))))))))))) trivial nd (by kernel_rfl) (by exact loc_of (by kernel_rfl)) (by decide) (by kernel_rfl) (by first | exact .inl rfl | exact .inr rfl))) trivial nd (by kernel_rfl) (by exact loc_of (by kernel_rfl)) (by decide) (by kernel_rfl) (by first | exact .inl rfl | exact .inr rfl)))) (fun s164 => by exact sn_env (e' := [.sh (a0), .sh (v1), .sh (d5), .sh (v6), .no, .sh (v7), .sh (v8), .sh (v37), .no, .no, .no, .no, .sh (v76), .no, .sh (v132), .sh (s164), .no, .no, .no, .no, .no, .no, .no, .no, .no, .no, .no, .no, .no]) rfl (sn_set (i := 18) (en_of (de_call (fn__law_distances Fx) hr tk (da_cons (de_v (i := 15) rfl (by kernel_rfl) (by exact vis_of (by kernel_rfl)) (by kernel_rfl) (by kernel_rfl)) (da_nil) (by kernel_rfl)) (by omega) (by kernel_rfl) (by exact gl_of (by kernel_rfl)) (by kernel_rfl) (by kernel_rfl) (by kernel_rfl))) (fun v165 => by exact sn_env (e' := [.sh (a0), .sh (v1), .sh (d5), .sh (v6), .no, .sh (v7), .sh (v8), .sh (v37), .no, .no, .no, .no, .sh (v76), .no, .sh (v132), .sh (s164), .no, .no, .sh (v165), .no, .no, .no, .no, .no, .no, .no, .no, .no, .no]) rfl (sn_set (i := 19) (en_of (de_if (dt_cmp o_gt (DE.toB (de_c1B c_len bt_len hb_len (DE.toB (de_v (i := 18) rfl (by kernel_rfl) (by exact vis_of (by kernel_rfl)) (by kernel_rfl) (by kernel_rfl))) (by exact gl_of (by kernel_rfl)) (by exact ne_name (by kernel_rfl)) (by kernel_rfl) (by kernel_rfl) (by kernel_rfl))) (DE.toB (de_int)) (by first | exact nomark _ | rfl)) (de_c1B (c_min rfl) bt_min hb_min (DE.toB (de_v (i := 18) rfl (by kernel_rfl) (by exact vis_of (by kernel_rfl)) (by kernel_rfl) (by kernel_rfl))) (by exact gl_of (by kernel_rfl)) (by exact ne_name (by kernel_rfl)) (by kernel_rfl) (by kernel_rfl) (by kernel_rfl)) (de_non))) (fun v166 => by exact sn_env (e' := [.sh (a0), .sh (v1), .sh (d5), .sh (v6), .no, .sh (v7), .sh (v8), .sh (v37), .no, .no, .no, .no, .sh (v76), .no, .sh (v132), .sh (s164), .no, .no, .sh (v165), .sh (v166), .no, .no, .no, .no, .no, .no, .no, .no, .no]) rfl (sn_ifR (tn_of (dt_w (dw_or (dt_cmp (o_ne hu64) (DE.toB (de_call (fn_least_distance Fx) hr tk (da_cons (de_v (i := 15) rfl (by kernel_rfl) (by exact vis_of (by kernel_rfl)) (by kernel_rfl) (by kernel_rfl)) (da_nil) (by kernel_rfl)) (by omega) (by kernel_rfl) (by exact gl_of (by kernel_rfl)) (by kernel_rfl) (by kernel_rfl) (by kernel_rfl))) (DE.toB (de_v (i := 19) rfl (by kernel_rfl) (by exact vis_of (by kernel_rfl)) (by kernel_rfl) (by kernel_rfl))) (by first | exact nomark _ | rfl)) (dw_or1 (dt_cmp (o_ne hu64) (DE.toB (de_call (fn_mended_by Fx) hr tk (da_cons (de_v (i := 15) rfl (by kernel_rfl) (by exact vis_of (by kernel_rfl)) (by kernel_rfl) (by kernel_rfl)) (da_nil) (by kernel_rfl)) (by omega) (by kernel_rfl) (by exact gl_of (by kernel_rfl)) (by kernel_rfl) (by kernel_rfl) (by kernel_rfl))) (DE.toB (de_if (dt_cmp o_isnot (DE.toB (de_v (i := 19) rfl (by kernel_rfl) (by exact vis_of (by kernel_rfl)) (by kernel_rfl) (by kernel_rfl))) (DE.toB (de_non)) (by first | exact nomark _ | rfl)) (de_tup (da_cons (de_op o_fdiv (DE.toB (de_op o_sub (DE.toB (de_v (i := 19) rfl (by kernel_rfl) (by exact vis_of (by kernel_rfl)) (by kernel_rfl) (by kernel_rfl))) (DE.toB (de_int)))) (DE.toB (de_int))) (da_cons (de_op o_sub (DE.toB (de_v (i := 19) rfl (by kernel_rfl) (by exact vis_of (by kernel_rfl)) (by kernel_rfl) (by kernel_rfl))) (DE.toB (de_int))) (da_nil) (by kernel_rfl)) (by kernel_rfl)) (by decide)) (de_tup (da_cons (de_v (i := 14) rfl (by kernel_rfl) (by exact vis_of (by kernel_rfl)) (by kernel_rfl) (by kernel_rfl)) (da_cons (de_v (i := 14) rfl (by kernel_rfl) (by exact vis_of (by kernel_rfl)) (by kernel_rfl) (by kernel_rfl)) (da_nil) (by kernel_rfl)) (by kernel_rfl)) (by decide)))) (by first | exact nomark _ | rfl)))))) (by exact sn_env (e' := [.sh (a0), .sh (v1), .sh (d5), .sh (v6), .no, .sh (v7), .sh (v8), .sh (v37), .no, .no, .no, .no, .sh (v76), .no, .sh (v132), .sh (s164), .no, .no, .sh (v165), .sh (v166), .no, .no, .no, .no, .no, .no, .no, .no, .no]) rfl (sn_ret (us := []) (en_of (de_bl)) trivial io0)) (by exact sn_env (e' := [.sh (a0), .sh (v1), .sh (d5), .sh (v6), .no, .sh (v7), .sh (v8), .sh (v37), .no, .no, .no, .no, .sh (v76), .no, .sh (v132), .sh (s164), .no, .no, .sh (v165), .sh (v166), .no, .no, .no, .no, .no, .no, .no, .no, .no]) rfl (sn_set (i := 20) (en_ix (en_of (DE.toB (de_v (i := 15) rfl (by kernel_rfl) (by exact vis_of (by kernel_rfl)) (by kernel_rfl) (by kernel_rfl)))) (EN.toB (en_call (fn__law_take Fx) hr tk (an_of (da_cons (de_v (i := 1) rfl (by kernel_rfl) (by exact vis_of (by kernel_rfl)) (by kernel_rfl) (by kernel_rfl)) (da_cons (de_c1B c_len bt_len hb_len (DE.toB (de_v (i := 15) rfl (by kernel_rfl) (by exact vis_of (by kernel_rfl)) (by kernel_rfl) (by kernel_rfl))) (by exact gl_of (by kernel_rfl)) (by exact ne_name (by kernel_rfl)) (by kernel_rfl) (by kernel_rfl) (by kernel_rfl)) (da_nil) (by kernel_rfl)) (by kernel_rfl))) (by omega) (by kernel_rfl) (by exact gl_of (by kernel_rfl)) (by kernel_rfl) (by kernel_rfl) (by kernel_rfl))) (by intro _ _; kernel_rfl)) (fun v193 => by exact sn_env (e' := [.sh (a0), .sh (v1), .sh (d5), .sh (v6), .no, .sh (v7), .sh (v8), .sh (v37), .no, .no, .no, .no, .sh (v76), .no, .sh (v132), .sh (s164), .no, .no, .sh (v165), .sh (v166), .sh (v193), .no, .no, .no, .no, .no, .no, .no, .no]) rfl (sn_set (i := 21) (en_join (en_of (DE.toB (de_str (s := []) (by kernel_rfl) (by kernel_rfl)))) (EN.toB (en_lc [("j", 17)] (in_of (di_r1 (md := .B) (de_v (i := 14) rfl (by kernel_rfl) (by exact vis_of (by kernel_rfl)) (by kernel_rfl) (by kernel_rfl)) hb_range (by exact gl_of (by kernel_rfl)) (by kernel_rfl))) (fun q => (gt_nm (i := 17) nd (by kernel_rfl) (by exact loc_of (by kernel_rfl)) (by first | exact .inl rfl | exact .inr rfl))) (fun d313 => cn_nm (cn_mk (env2 := [.sh (a0), .sh (v1), .sh (d5), .sh (v6), .no, .sh (v7), .sh (v8), .sh (v37), .no, .no, .no, .no, .sh (v76), .no, .sh (v132), .sh (s164), .no, .sh (d313), .sh (v165), .sh (v166), .sh (v193), .no, .no, .no, .no, .no, .no, .no, .no]) (fun q => .nil) (fun q => en_c1T c_str bt_str hb_str (EN.toB (en_call (fn__law_take Fx) hr takes_none5 (an_of (da_cons (de_v (i := 1) rfl (by kernel_rfl) (by exact vis_of (by kernel_rfl)) (by kernel_rfl) (by kernel_rfl)) (da_cons (de_int) (da_nil) (by kernel_rfl)) (by kernel_rfl))) (by omega) (by kernel_rfl) (by exact gl_of (by kernel_rfl)) (by kernel_rfl) (by kernel_rfl) (by kernel_rfl))) (by exact gl_of (by kernel_rfl)) (by exact ne_name (by kernel_rfl)) (by kernel_rfl) (by kernel_rfl) (by kernel_rfl)))) rfl nd (blkOk_by (by kernel_rfl)) (by decide) (by intro _; kernel_rfl))) (by kernel_rfl) (by kernel_rfl) (by kernel_rfl)) (fun v194 => by exact sn_env (e' := [.sh (a0), .sh (v1), .sh (d5), .sh (v6), .no, .sh (v7), .sh (v8), .sh (v37), .no, .no, .no, .no, .sh (v76), .no, .sh (v132), .sh (s164), .no, .no, .sh (v165), .sh (v166), .sh (v193), .sh (v194), .no, .no, .no, .no, .no, .no, .no]) rfl (sn_set (i := 22) (en_of (DE.ofO (de_lc [("word", 16)] (di_any (DE.toB (de_v (i := 15) rfl (by kernel_rfl) (by exact vis_of (by kernel_rfl)) (by kernel_rfl) (by kernel_rfl))) (.inr rfl)) (fun q => (gt_nm (i := 16) nd (by kernel_rfl) (by exact loc_of (by kernel_rfl)) (by first | exact .inl rfl | exact .inr rfl))) (fun d307 => cb_nm (cb_mk (env2 := [.sh (a0), .sh (v1), .sh (d5), .sh (v6), .no, .sh (v7), .sh (v8), .sh (v37), .no, .no, .no, .no, .sh (v76), .no, .sh (v132), .sh (s164), .sh (d307), .no, .sh (v165), .sh (v166), .sh (v193), .sh (v194), .no, .no, .no, .no, .no, .no, .no]) (fun q => .nil) (fun q => de_call (fn__law_far Fx) hr takes_none5 (da_cons (de_v (i := 16) rfl (by kernel_rfl) (by exact vis_of (by kernel_rfl)) (by kernel_rfl) (by kernel_rfl)) (da_cons (de_v (i := 21) rfl (by kernel_rfl) (by exact vis_of (by kernel_rfl)) (by kernel_rfl) (by kernel_rfl)) (da_nil) (by kernel_rfl)) (by kernel_rfl)) (by omega) (by kernel_rfl) (by exact gl_of (by kernel_rfl)) (by kernel_rfl) (by kernel_rfl) (by kernel_rfl)))) rfl nd (blkOk_by (by kernel_rfl)) (by decide) (by intro _; kernel_rfl)))) (fun v195 => by exact sn_env (e' := [.sh (a0), .sh (v1), .sh (d5), .sh (v6), .no, .sh (v7), .sh (v8), .sh (v37), .no, .no, .no, .no, .sh (v76), .no, .sh (v132), .sh (s164), .no, .no, .sh (v165), .sh (v166), .sh (v193), .sh (v194), .sh (v195), .no, .no, .no, .no, .no, .no]) rfl (sn_ifR (tn_of (dt_cmp (o_ne hu64) (DE.toB (de_call (fn_nearest Fx) hr tk (da_cons (de_v (i := 15) rfl (by kernel_rfl) (by exact vis_of (by kernel_rfl)) (by kernel_rfl) (by kernel_rfl)) (da_cons (de_v (i := 21) rfl (by kernel_rfl) (by exact vis_of (by kernel_rfl)) (by kernel_rfl) (by kernel_rfl)) (da_nil) (by kernel_rfl)) (by kernel_rfl)) (by omega) (by kernel_rfl) (by exact gl_of (by kernel_rfl)) (by kernel_rfl) (by kernel_rfl) (by kernel_rfl))) (DE.toB (de_c1T c_tuple bt_tuple hb_tuple (DE.toB (de_lc [("k", 4)] (di_r1 (md := .B) (de_c1B c_len bt_len hb_len (DE.toB (de_v (i := 15) rfl (by kernel_rfl) (by exact vis_of (by kernel_rfl)) (by kernel_rfl) (by kernel_rfl))) (by exact gl_of (by kernel_rfl)) (by exact ne_name (by kernel_rfl)) (by kernel_rfl) (by kernel_rfl) (by kernel_rfl)) hb_range (by exact gl_of (by kernel_rfl)) (by kernel_rfl)) (fun q => (gt_nm (i := 4) nd (by kernel_rfl) (by exact loc_of (by kernel_rfl)) (by first | exact .inl rfl | exact .inr rfl))) (fun d202 => cb_nm (cb_mk (env2 := [.sh (a0), .sh (v1), .sh (d5), .sh (v6), .sh (d202), .sh (v7), .sh (v8), .sh (v37), .no, .no, .no, .no, .sh (v76), .no, .sh (v132), .sh (s164), .no, .no, .sh (v165), .sh (v166), .sh (v193), .sh (v194), .sh (v195), .no, .no, .no, .no, .no, .no]) (fun q => .one (dt_cmp (o_eq hu64) (DE.toB (de_ix (DE.toB (de_v (i := 22) rfl (by kernel_rfl) (by exact vis_of (by kernel_rfl)) (by kernel_rfl) (by kernel_rfl))) (DE.toB (de_v (i := 4) rfl (by kernel_rfl) (by exact vis_of (by kernel_rfl)) (by kernel_rfl) (by kernel_rfl))) (by intro _ _; kernel_rfl))) (DE.toB (de_c1B (c_min rfl) bt_min hb_min (DE.toB (de_v (i := 22) rfl (by kernel_rfl) (by exact vis_of (by kernel_rfl)) (by kernel_rfl) (by kernel_rfl))) (by exact gl_of (by kernel_rfl)) (by exact ne_name (by kernel_rfl)) (by kernel_rfl) (by kernel_rfl) (by kernel_rfl))) (by first | exact nomark _ | rfl))) (fun q => de_ix (DE.toB (de_v (i := 15) rfl (by kernel_rfl) (by exact vis_of (by kernel_rfl)) (by kernel_rfl) (by kernel_rfl))) (DE.toB (de_v (i := 4) rfl (by kernel_rfl) (by exact vis_of (by kernel_rfl)) (by kernel_rfl) (by kernel_rfl))) (by intro _ _; kernel_rfl)))) rfl nd (blkOk_by (by kernel_rfl)) (by decide) (by intro _; kernel_rfl))) (by exact gl_of (by kernel_rfl)) (by exact ne_name (by kernel_rfl)) (by kernel_rfl) (by kernel_rfl) (by kernel_rfl))) (by first | exact nomark _ | rfl))) (by exact sn_env (e' := [.sh (a0), .sh (v1), .sh (d5), .sh (v6), .no, .sh (v7), .sh (v8), .sh (v37), .no, .no, .no, .no, .sh (v76), .no, .sh (v132), .sh (s164), .no, .no, .sh (v165), .sh (v166), .sh (v193), .sh (v194), .sh (v195), .no, .no, .no, .no, .no, .no]) rfl (sn_ret (us := []) (en_of (de_bl)) trivial io0)) (by exact sn_env (e' := [.sh (a0), .sh (v1), .sh (d5), .sh (v6), .no, .sh (v7), .sh (v8), .sh (v37), .no, .no, .no, .no, .sh (v76), .no, .sh (v132), .sh (s164), .no, .no, .sh (v165), .sh (v166), .sh (v193), .sh (v194), .sh (v195), .no, .no, .no, .no, .no, .no]) rfl (sn_set (i := 23) (en_join (en_of (DE.toB (de_str (s := []) (by kernel_rfl) (by kernel_rfl)))) (EN.toB (en_lc [("j", 17)] (in_of (di_r1 (md := .B) (de_v (i := 14) rfl (by kernel_rfl) (by exact vis_of (by kernel_rfl)) (by kernel_rfl) (by kernel_rfl)) hb_range (by exact gl_of (by kernel_rfl)) (by kernel_rfl))) (fun q => (gt_nm (i := 17) nd (by kernel_rfl) (by exact loc_of (by kernel_rfl)) (by first | exact .inl rfl | exact .inr rfl))) (fun d294 => cn_nm (cn_mk (env2 := [.sh (a0), .sh (v1), .sh (d5), .sh (v6), .no, .sh (v7), .sh (v8), .sh (v37), .no, .no, .no, .no, .sh (v76), .no, .sh (v132), .sh (s164), .no, .sh (d294), .sh (v165), .sh (v166), .sh (v193), .sh (v194), .sh (v195), .no, .no, .no, .no, .no, .no]) (fun q => .nil) (fun q => en_if (tn_cmp (o_eq hu64) (EN.toB (en_call (fn__law_take Fx) hr takes_none5 (an_of (da_cons (de_v (i := 1) rfl (by kernel_rfl) (by exact vis_of (by kernel_rfl)) (by kernel_rfl) (by kernel_rfl)) (da_cons (de_int) (da_nil) (by kernel_rfl)) (by kernel_rfl))) (by omega) (by kernel_rfl) (by exact gl_of (by kernel_rfl)) (by kernel_rfl) (by kernel_rfl) (by kernel_rfl))) (en_of (DE.toB (de_int))) (by first | exact nomark _ | rfl)) (en_of (de_str (s := [63]) (by kernel_rfl) (by kernel_rfl))) (en_of (de_ix (DE.toB (de_v (i := 20) rfl (by kernel_rfl) (by exact vis_of (by kernel_rfl)) (by kernel_rfl) (by kernel_rfl))) (DE.toB (de_v (i := 17) rfl (by kernel_rfl) (by exact vis_of (by kernel_rfl)) (by kernel_rfl) (by kernel_rfl))) (by intro _ _; kernel_rfl)))))) rfl nd (blkOk_by (by kernel_rfl)) (by decide) (by intro _; kernel_rfl))) (by kernel_rfl) (by kernel_rfl) (by kernel_rfl)) (fun v213 => by exact sn_env (e' := [.sh (a0), .sh (v1), .sh (d5), .sh (v6), .no, .sh (v7), .sh (v8), .sh (v37), .no, .no, .no, .no, .sh (v76), .no, .sh (v132), .sh (s164), .no, .no, .sh (v165), .sh (v166), .sh (v193), .sh (v194), .sh (v195), .sh (v213), .no, .no, .no, .no, .no]) rfl (sn_setLcD (i := 24) [("word", 16)] (di_any (DE.toB (de_v (i := 15) rfl (by kernel_rfl) (by exact vis_of (by kernel_rfl)) (by kernel_rfl) (by kernel_rfl))) (.inr rfl)) (fun q => (gt_nm (i := 16) nd (by kernel_rfl) (by exact loc_of (by kernel_rfl)) (by first | exact .inl rfl | exact .inr rfl))) (fun d277 => cb_nm (cb_mk (env2 := [.sh (a0), .sh (v1), .sh (d5), .sh (v6), .no, .sh (v7), .sh (v8), .sh (v37), .no, .no, .no, .no, .sh (v76), .no, .sh (v132), .sh (s164), .sh (d277), .no, .sh (v165), .sh (v166), .sh (v193), .sh (v194), .sh (v195), .sh (v213), .no, .no, .no, .no, .no]) (fun q => .one (dt_tru (DE.toB (de_c1B (c_all rfl) bt_all hb_all (DE.toB (de_lc [("j", 17)] (di_r1 (md := .B) (de_v (i := 14) rfl (by kernel_rfl) (by exact vis_of (by kernel_rfl)) (by kernel_rfl) (by kernel_rfl)) hb_range (by exact gl_of (by kernel_rfl)) (by kernel_rfl)) (fun q => (gt_nm (i := 17) nd (by kernel_rfl) (by exact loc_of (by kernel_rfl)) (by first | exact .inl rfl | exact .inr rfl))) (fun d279 => cb_nm (cb_mk (env2 := [.sh (a0), .sh (v1), .sh (d5), .sh (v6), .no, .sh (v7), .sh (v8), .sh (v37), .no, .no, .no, .no, .sh (v76), .no, .sh (v132), .sh (s164), .sh (d277), .sh (d279), .sh (v165), .sh (v166), .sh (v193), .sh (v194), .sh (v195), .sh (v213), .no, .no, .no, .no, .no]) (fun q => .nil) (fun q => de_cmp (o_in hu65) (DE.toB (de_ix (DE.toB (de_v (i := 23) rfl (by kernel_rfl) (by exact vis_of (by kernel_rfl)) (by kernel_rfl) (by kernel_rfl))) (DE.toB (de_v (i := 17) rfl (by kernel_rfl) (by exact vis_of (by kernel_rfl)) (by kernel_rfl) (by kernel_rfl))) (by intro _ _; kernel_rfl))) (DE.toB (de_tup (da_cons (de_str (s := [63]) (by kernel_rfl) (by kernel_rfl)) (da_cons (de_ix (DE.toB (de_v (i := 16) rfl (by kernel_rfl) (by exact vis_of (by kernel_rfl)) (by kernel_rfl) (by kernel_rfl))) (DE.toB (de_v (i := 17) rfl (by kernel_rfl) (by exact vis_of (by kernel_rfl)) (by kernel_rfl) (by kernel_rfl))) (by intro _ _; kernel_rfl)) (da_nil) (by kernel_rfl)) (by kernel_rfl)) (by decide))) (by first | exact nomark _ | rfl)))) rfl nd (blkOk_by (by kernel_rfl)) (by decide) (by intro _; kernel_rfl))) (by exact gl_of (by kernel_rfl)) (by exact ne_name (by kernel_rfl)) (by kernel_rfl) (by kernel_rfl) (by kernel_rfl))) (by intro _; kernel_rfl))) (fun q => de_v (i := 16) rfl (by kernel_rfl) (by exact vis_of (by kernel_rfl)) (by kernel_rfl) (by kernel_rfl)))) (sn_setF (fun v214 => by exact sn_env (e' := [.sh (a0), .sh (v1), .sh (d5), .sh (v6), .no, .sh (v7), .sh (v8), .sh (v37), .no, .no, .no, .no, .sh (v76), .no, .sh (v132), .sh (s164), .no, .no, .sh (v165), .sh (v166), .sh (v193), .sh (v194), .sh (v195), .sh (v213), .sh (v214), .no, .no, .no, .no]) rfl (sn_ifR (tn_of (dt_cmp (o_ne hu64) (DE.toB (de_call (fn_surely Fx) hr tk (da_cons (de_v (i := 15) rfl (by kernel_rfl) (by exact vis_of (by kernel_rfl)) (by kernel_rfl) (by kernel_rfl)) (da_cons (de_v (i := 23) rfl (by kernel_rfl) (by exact vis_of (by kernel_rfl)) (by kernel_rfl) (by kernel_rfl)) (da_nil) (by kernel_rfl)) (by kernel_rfl)) (by omega) (by kernel_rfl) (by exact gl_of (by kernel_rfl)) (by kernel_rfl) (by kernel_rfl) (by kernel_rfl))) (DE.toB (de_if (dt_cmp (o_eq hu64) (DE.toB (de_c1B c_len bt_len hb_len (DE.toB (de_v (i := 24) rfl (by kernel_rfl) (by exact vis_of (by kernel_rfl)) (by kernel_rfl) (by kernel_rfl))) (by exact gl_of (by kernel_rfl)) (by exact ne_name (by kernel_rfl)) (by kernel_rfl) (by kernel_rfl) (by kernel_rfl))) (DE.toB (de_int)) (by first | exact nomark _ | rfl)) (de_ix (DE.toB (de_v (i := 24) rfl (by kernel_rfl) (by exact vis_of (by kernel_rfl)) (by kernel_rfl) (by kernel_rfl))) (DE.toB (de_int)) (by intro _ _; kernel_rfl)) (de_non))) (by first | exact nomark _ | rfl))) (by exact sn_env (e' := [.sh (a0), .sh (v1), .sh (d5), .sh (v6), .no, .sh (v7), .sh (v8), .sh (v37), .no, .no, .no, .no, .sh (v76), .no, .sh (v132), .sh (s164), .no, .no, .sh (v165), .sh (v166), .sh (v193), .sh (v194), .sh (v195), .sh (v213), .sh (v214), .no, .no, .no, .no]) rfl (sn_ret (us := []) (en_of (de_bl)) trivial io0)) (by exact sn_env (e' := [.sh (a0), .sh (v1), .sh (d5), .sh (v6), .no, .sh (v7), .sh (v8), .sh (v37), .no, .no, .no, .no, .sh (v76), .no, .sh (v132), .sh (s164), .no, .no, .sh (v165), .sh (v166), .sh (v193), .sh (v194), .sh (v195), .sh (v213), .sh (v214), .no, .no, .no, .no]) rfl (sn_ifR (tn_of (dt_w (dw_and (dt_cmp o_isnot (DE.toB (de_v (i := 19) rfl (by kernel_rfl) (by exact vis_of (by kernel_rfl)) (by kernel_rfl) (by kernel_rfl))) (DE.toB (de_non)) (by first | exact nomark _ | rfl)) (dw_and (dt_cmp o_lt (DE.toB (de_c1B c_len bt_len hb_len (DE.toB (de_lc [("sign", 25)] (di_any (DE.toB (de_v (i := 23) rfl (by kernel_rfl) (by exact vis_of (by kernel_rfl)) (by kernel_rfl) (by kernel_rfl))) (.inr rfl)) (fun q => (gt_nm (i := 25) nd (by kernel_rfl) (by exact loc_of (by kernel_rfl)) (by first | exact .inl rfl | exact .inr rfl))) (fun d229 => cb_nm (cb_mk (env2 := [.sh (a0), .sh (v1), .sh (d5), .sh (v6), .no, .sh (v7), .sh (v8), .sh (v37), .no, .no, .no, .no, .sh (v76), .no, .sh (v132), .sh (s164), .no, .no, .sh (v165), .sh (v166), .sh (v193), .sh (v194), .sh (v195), .sh (v213), .sh (v214), .sh (d229), .no, .no, .no]) (fun q => .one (dt_cmp (o_eq hu64) (DE.toB (de_v (i := 25) rfl (by kernel_rfl) (by exact vis_of (by kernel_rfl)) (by kernel_rfl) (by kernel_rfl))) (DE.toB (de_str (s := [63]) (by kernel_rfl) (by kernel_rfl))) (by first | exact nomark _ | rfl))) (fun q => de_v (i := 25) rfl (by kernel_rfl) (by exact vis_of (by kernel_rfl)) (by kernel_rfl) (by kernel_rfl)))) rfl nd (blkOk_by (by kernel_rfl)) (by decide) (by intro _; kernel_rfl))) (by exact gl_of (by kernel_rfl)) (by exact ne_name (by kernel_rfl)) (by kernel_rfl) (by kernel_rfl) (by kernel_rfl))) (DE.toB (de_v (i := 19) rfl (by kernel_rfl) (by exact vis_of (by kernel_rfl)) (by kernel_rfl) (by kernel_rfl))) (by first | exact nomark _ | rfl)) (dw_and1 (dt_cmp (o_ne hu64) (DE.toB (de_call (fn_surely Fx) hr tk (da_cons (de_v (i := 15) rfl (by kernel_rfl) (by exact vis_of (by kernel_rfl)) (by kernel_rfl) (by kernel_rfl)) (da_cons (de_v (i := 23) rfl (by kernel_rfl) (by exact vis_of (by kernel_rfl)) (by kernel_rfl) (by kernel_rfl)) (da_nil) (by kernel_rfl)) (by kernel_rfl)) (by omega) (by kernel_rfl) (by exact gl_of (by kernel_rfl)) (by kernel_rfl) (by kernel_rfl) (by kernel_rfl))) (DE.toB (de_v (i := 20) rfl (by kernel_rfl) (by exact vis_of (by kernel_rfl)) (by kernel_rfl) (by kernel_rfl))) (by first | exact nomark _ | rfl))))))) (by exact sn_env (e' := [.sh (a0), .sh (v1), .sh (d5), .sh (v6), .no, .sh (v7), .sh (v8), .sh (v37), .no, .no, .no, .no, .sh (v76), .no, .sh (v132), .sh (s164), .no, .no, .sh (v165), .sh (v166), .sh (v193), .sh (v194), .sh (v195), .sh (v213), .sh (v214), .no, .no, .no, .no]) rfl (sn_ret (us := []) (en_of (de_bl)) trivial io0)) (by exact sn_env (e' := [.sh (a0), .sh (v1), .sh (d5), .sh (v6), .no, .sh (v7), .sh (v8), .sh (v37), .no, .no, .no, .no, .sh (v76), .no, .sh (v132), .sh (s164), .no, .no, .sh (v165), .sh (v166), .sh (v193), .sh (v194), .sh (v195), .sh (v213), .sh (v214), .no, .no, .no, .no]) rfl (sn_set (i := 26) (en_of (de_v (i := 20) rfl (by kernel_rfl) (by exact vis_of (by kernel_rfl)) (by kernel_rfl) (by kernel_rfl))) (fun v241 => by exact sn_env (e' := [.sh (a0), .sh (v1), .sh (d5), .sh (v6), .no, .sh (v7), .sh (v8), .sh (v37), .no, .no, .no, .no, .sh (v76), .no, .sh (v132), .sh (s164), .no, .no, .sh (v165), .sh (v166), .sh (v193), .sh (v194), .sh (v195), .sh (v213), .sh (v214), .no, .sh (v241), .no, .no]) rfl (sn_for (pt := (Pat.nm 4)) (injb := (fun (s242 : D) => [.sh (a0), .sh (v1), .sh (d5), .sh (v6), .no, .sh (v7), .sh (v8), .sh (v37), .no, .no, .no, .no, .sh (v76), .no, .sh (v132), .sh (s164), .no, .no, .sh (v165), .sh (v166), .sh (v193), .sh (v194), .sh (v195), .sh (v213), .sh (v214), .no, .sh (s242), .no, .no])) (s0 := (v241)) (in_of (di_r1 (md := .S) (de_ix (DE.toB (de_call (fn_mended_by Fx) hr tk (da_cons (de_v (i := 15) rfl (by kernel_rfl) (by exact vis_of (by kernel_rfl)) (by kernel_rfl) (by kernel_rfl)) (da_nil) (by kernel_rfl)) (by omega) (by kernel_rfl) (by exact gl_of (by kernel_rfl)) (by kernel_rfl) (by kernel_rfl) (by kernel_rfl))) (DE.toB (de_int)) (by intro _ _; kernel_rfl)) hb_range (by exact gl_of (by kernel_rfl)) (by kernel_rfl))) (gt_nm (i := 4) nd (by kernel_rfl) (by exact loc_of (by kernel_rfl)) (by first | exact .inl rfl | exact .inr rfl)) (fun d249 s243 => sno_nm (by exact sn_env (e' := [.sh (a0), .sh (v1), .sh (d5), .sh (v6), .sh (d249), .sh (v7), .sh (v8), .sh (v37), .no, .no, .no, .no, .sh (v76), .no, .sh (v132), .sh (s164), .no, .no, .sh (v165), .sh (v166), .sh (v193), .sh (v194), .sh (v195), .sh (v213), .sh (v214), .no, .sh (s243), .no, .no]) rfl (sn_set (i := 27) (en_call (fn__law_take Fx) hr tk (an_of (da_cons (de_v (i := 1) rfl (by kernel_rfl) (by exact vis_of (by kernel_rfl)) (by kernel_rfl) (by kernel_rfl)) (da_cons (de_v (i := 14) rfl (by kernel_rfl) (by exact vis_of (by kernel_rfl)) (by kernel_rfl) (by kernel_rfl)) (da_nil) (by kernel_rfl)) (by kernel_rfl))) (by omega) (by kernel_rfl) (by exact gl_of (by kernel_rfl)) (by kernel_rfl) (by kernel_rfl) (by kernel_rfl)) (fun v250 => by exact sn_env (e' := [.sh (a0), .sh (v1), .sh (d5), .sh (v6), .sh (d249), .sh (v7), .sh (v8), .sh (v37), .no, .no, .no, .no, .sh (v76), .no, .sh (v132), .sh (s164), .no, .no, .sh (v165), .sh (v166), .sh (v193), .sh (v194), .sh (v195), .sh (v213), .sh (v214), .no, .sh (s243), .sh (v250), .no]) rfl (sn_set (i := 26) (en_of (de_if (dt_cmp (o_eq hu64) (DE.toB (de_ix (DE.toB (de_v (i := 26) rfl (by kernel_rfl) (by exact vis_of (by kernel_rfl)) (by kernel_rfl) (by kernel_rfl))) (DE.toB (de_v (i := 27) rfl (by kernel_rfl) (by exact vis_of (by kernel_rfl)) (by kernel_rfl) (by kernel_rfl))) (by intro _ _; kernel_rfl))) (DE.toB (de_ix (DE.toB (de_v (i := 20) rfl (by kernel_rfl) (by exact vis_of (by kernel_rfl)) (by kernel_rfl) (by kernel_rfl))) (DE.toB (de_v (i := 27) rfl (by kernel_rfl) (by exact vis_of (by kernel_rfl)) (by kernel_rfl) (by kernel_rfl))) (by intro _ _; kernel_rfl))) (by first | exact nomark _ | rfl)) (de_call (fn__law_turn Fx) hr tk (da_cons (de_v (i := 26) rfl (by kernel_rfl) (by exact vis_of (by kernel_rfl)) (by kernel_rfl) (by kernel_rfl)) (da_cons (de_v (i := 27) rfl (by kernel_rfl) (by exact vis_of (by kernel_rfl)) (by kernel_rfl) (by kernel_rfl)) (da_nil) (by kernel_rfl)) (by kernel_rfl)) (by omega) (by kernel_rfl) (by exact gl_of (by kernel_rfl)) (by kernel_rfl) (by kernel_rfl) (by kernel_rfl)) (de_v (i := 26) rfl (by kernel_rfl) (by exact vis_of (by kernel_rfl)) (by kernel_rfl) (by kernel_rfl)))) (fun v251 => by exact sn_env (e' := [.sh (a0), .sh (v1), .sh (d5), .sh (v6), .sh (d249), .sh (v7), .sh (v8), .sh (v37), .no, .no, .no, .no, .sh (v76), .no, .sh (v132), .sh (s164), .no, .no, .sh (v165), .sh (v166), .sh (v193), .sh (v194), .sh (v195), .sh (v213), .sh (v214), .no, .sh (v251), .sh (v250), .no]) rfl (sn_nil (s := (v251)) (.eq (.eq (.eq (.eq (.no (.eq (.eq (.eq (.no (.no (.no (.no (.eq (.no (.eq (.eq (.no (.no (.eq (.eq (.eq (.eq (.eq (.eq (.eq (.no (.eq (.no (.no .nil))))))))))))))))))))))))))))))) trivial nd (by kernel_rfl) (by exact loc_of (by kernel_rfl)) (by decide) (by kernel_rfl) (by first | exact .inl rfl | exact .inr rfl))) trivial nd (by kernel_rfl) (by exact loc_of (by kernel_rfl)) (by decide) (by kernel_rfl) (by first | exact .inl rfl | exact .inr rfl)))) (fun s266 => by exact sn_env (e' := [.sh (a0), .sh (v1), .sh (d5), .sh (v6), .no, .sh (v7), .sh (v8), .sh (v37), .no, .no, .no, .no, .sh (v76), .no, .sh (v132), .sh (s164), .no, .no, .sh (v165), .sh (v166), .sh (v193), .sh (v194), .sh (v195), .sh (v213), .sh (v214), .no, .sh (s266), .no, .no]) rfl (sn_ifR (tn_of (dt_cmp (o_ne hu64) (DE.toB (de_call (fn_nearest Fx) hr tk (da_cons (de_v (i := 15) rfl (by kernel_rfl) (by exact vis_of (by kernel_rfl)) (by kernel_rfl) (by kernel_rfl)) (da_cons (de_v (i := 26) rfl (by kernel_rfl) (by exact vis_of (by kernel_rfl)) (by kernel_rfl) (by kernel_rfl)) (da_nil) (by kernel_rfl)) (by kernel_rfl)) (by omega) (by kernel_rfl) (by exact gl_of (by kernel_rfl)) (by kernel_rfl) (by kernel_rfl) (by kernel_rfl))) (DE.toB (de_tup (da_cons (de_v (i := 20) rfl (by kernel_rfl) (by exact vis_of (by kernel_rfl)) (by kernel_rfl) (by kernel_rfl)) (da_nil) (by kernel_rfl)) (by decide))) (by first | exact nomark _ | rfl))) (by exact sn_env (e' := [.sh (a0), .sh (v1), .sh (d5), .sh (v6), .no, .sh (v7), .sh (v8), .sh (v37), .no, .no, .no, .no, .sh (v76), .no, .sh (v132), .sh (s164), .no, .no, .sh (v165), .sh (v166), .sh (v193), .sh (v194), .sh (v195), .sh (v213), .sh (v214), .no, .sh (s266), .no, .no]) rfl (sn_ret (us := []) (en_of (de_bl)) trivial io0)) (by exact sn_env (e' := [.sh (a0), .sh (v1), .sh (d5), .sh (v6), .no, .sh (v7), .sh (v8), .sh (v37), .no, .no, .no, .no, .sh (v76), .no, .sh (v132), .sh (s164), .no, .no, .sh (v165), .sh (v166), .sh (v193), .sh (v194), .sh (v195), .sh (v213), .sh (v214), .no, .sh (s266), .no, .no]) rfl (sn_nil (s := ()) (.eq (.eq (.no (.no (.no (.no (.no (.no (.no (.no (.no (.no (.no (.no (.no (.no (.no (.no (.no (.no (.no (.no (.no (.no (.no (.no (.no (.no (.no .nil))))))))))))))))))))))))))))))) trivial)) (.eq (.eq (.eq (.eq (.no (.eq (.eq (.eq (.no (.no (.no (.no (.eq (.no (.eq (.eq (.no (.no (.eq (.eq (.eq (.eq (.eq (.eq (.eq (.no (.eq (.no (.no .nil))))))))))))))))))))))))))))) trivial owns_cx rfl (by decide) (by intro _; kernel_rfl))) trivial nd (by kernel_rfl) (by exact loc_of (by kernel_rfl)) (by decide) (by kernel_rfl) (by first | exact .inl rfl | exact .inr rfl))) trivial)) trivial)) (Nat.le_of_ble_eq_true rfl)) trivial rfl nd (blkOk_by (by kernel_rfl)) (by kernel_rfl) (by kernel_rfl) (by kernel_rfl) (by decide) (by decide) (by intro _; kernel_rfl))) trivial nd (by kernel_rfl) (by exact loc_of (by kernel_rfl)) (by decide) (by kernel_rfl) (by first | exact .inl rfl | exact .inr rfl))) trivial)) trivial nd (by kernel_rfl) (by exact loc_of (by kernel_rfl)) (by decide) (by kernel_rfl) (by first | exact .inl rfl | exact .inr rfl))) trivial nd (by kernel_rfl) (by exact loc_of (by kernel_rfl)) (by decide) (by kernel_rfl) (by first | exact .inl rfl | exact .inr rfl))) trivial nd (by kernel_rfl) (by exact loc_of (by kernel_rfl)) (by decide) (by kernel_rfl) (by first | exact .inl rfl | exact .inr rfl))) trivial)) trivial nd (by kernel_rfl) (by exact loc_of (by kernel_rfl)) (by decide) (by kernel_rfl) (by first | exact .inl rfl | exact .inr rfl))) trivial nd (by kernel_rfl) (by exact loc_of (by kernel_rfl)) (by decide) (by kernel_rfl) (by first | exact .inl rfl | exact .inr rfl))) (.eq (.eq (.eq (.eq (.no (.eq (.eq (.eq (.no (.no (.no (.no (.eq (.no (.eq (.eq (.no (.no (.no (.no (.no (.no (.no (.no (.no (.no (.no (.no (.no .nil))))))))))))))))))))))))))))) trivial owns_cx rfl (by decide) (by intro _; kernel_rfl))) trivial nd (by kernel_rfl) (by exact loc_of (by kernel_rfl)) (by decide) (by kernel_rfl) (by first | exact .inl rfl | exact .inr rfl))) trivial nd (by kernel_rfl) (by exact loc_of (by kernel_rfl)) (by decide) (by kernel_rfl) (by first | exact .inl rfl | exact .inr rfl))) trivial)) trivial)) trivial nd (by kernel_rfl) (by exact loc_of (by kernel_rfl)) (by decide) (by kernel_rfl) (by first | exact .inl rfl | exact .inr rfl))) trivial nd (by kernel_rfl) (by exact loc_of (by kernel_rfl)) (by decide) (by kernel_rfl) (by first | exact .inl rfl | exact .inr rfl))) (.eq (.eq (.eq (.eq (.no (.eq (.eq (.eq (.no (.no (.no (.no (.no (.no (.no (.no (.no (.no (.no (.no (.no (.no (.no (.no (.no (.no (.no (.no (.no .nil))))))))))))))))))))))))))))) trivial owns_cx rfl (by decide) (by intro _; kernel_rfl))) trivial nd (by kernel_rfl) (by exact loc_of (by kernel_rfl)) (by decide) (by kernel_rfl) (by first | exact .inl rfl | exact .inr rfl))) trivial)) trivial nd (by kernel_rfl) (by exact loc_of (by kernel_rfl)) (by decide) (by kernel_rfl) (by first | exact .inl rfl | exact .inr rfl))) trivial nd (by kernel_rfl) (by exact loc_of (by kernel_rfl)) (by decide) (by kernel_rfl) (by first | exact .inl rfl | exact .inr rfl))) trivial nd (by kernel_rfl) (by exact loc_of (by kernel_rfl)) (by decide) (by kernel_rfl) (by first | exact .inl rfl | exact .inr rfl)))) (fun s382 => by exact sn_env (e' := [.sh (a0), .sh (v1), .no, .no, .no, .no, .no, .no, .no, .no, .no, .no, .no, .no, .no, .no, .no, .no, .no, .no, .no, .no, .no, .no, .no, .no, .no, .no, .no]) rfl (sn_for (pt := (Pat.nm 28)) (injb := (fun (s383 : Unit) => [.sh (a0), .sh (v1), .no, .no, .no, .no, .no, .no, .no, .no, .no, .no, .no, .no, .no, .no, .no, .no, .no, .no, .no, .no, .no, .no, .no, .no, .no, .no, .no])) (s0 := ()) (in_of (di_any (de_tup (da_cons (de_str (s := [49]) (by kernel_rfl) (by kernel_rfl)) (da_cons (de_str (s := [48, 49]) (by kernel_rfl) (by kernel_rfl)) (da_cons (de_str (s := [49, 48]) (by kernel_rfl) (by kernel_rfl)) (da_cons (de_str (s := []) (by kernel_rfl) (by kernel_rfl)) (da_cons (de_op o_mul (DE.toB (de_str (s := [49]) (by kernel_rfl) (by kernel_rfl))) (DE.toB (de_int))) (da_nil) (by kernel_rfl)) (by kernel_rfl)) (by kernel_rfl)) (by kernel_rfl)) (by kernel_rfl)) (by decide)) (.inl rfl))) (gt_nm (i := 28) nd (by kernel_rfl) (by exact loc_of (by kernel_rfl)) (by first | exact .inl rfl | exact .inr rfl)) (fun d399 s384 => sno_nm (by exact sn_env (e' := [.sh (a0), .sh (v1), .no, .no, .no, .no, .no, .no, .no, .no, .no, .no, .no, .no, .no, .no, .no, .no, .no, .no, .no, .no, .no, .no, .no, .no, .no, .no, .sh (d399)]) rfl (sn_ifR (tn_of (dt_cmp (o_ne hu64) (DE.toB (de_lam (k := 7) (lf__law_code Fx rfl rfl) (gl_of (by kernel_rfl)) TB rfl hmT huT (hr.mono (by omega)) (LamX.lamS_by (by kernel_rfl)) (by kernel_rfl) (fun _ _ _ _ _ => by kernel_rfl) (fun A outer s H E f c hr => de_call (fn_rest_of Fx) hr takes_lam (da_cons (de_str (s := [49]) (by kernel_rfl) (by kernel_rfl)) (da_cons (de_v (i := 28) rfl (by kernel_rfl) (by exact vis_of (by kernel_rfl)) (by kernel_rfl) (by kernel_rfl)) (da_nil) (by kernel_rfl)) (by kernel_rfl)) (by omega) (by kernel_rfl) (by exact gl_of (by kernel_rfl)) (by kernel_rfl) (by kernel_rfl) (by kernel_rfl)) (by kernel_rfl))) (DE.toB (de_str (s := [98, 105, 116, 115]) (by kernel_rfl) (by kernel_rfl))) (by first | exact nomark _ | rfl))) (by exact sn_env (e' := [.sh (a0), .sh (v1), .no, .no, .no, .no, .no, .no, .no, .no, .no, .no, .no, .no, .no, .no, .no, .no, .no, .no, .no, .no, .no, .no, .no, .no, .no, .no, .sh (d399)]) rfl (sn_ret (us := []) (en_of (de_bl)) trivial io0)) (by exact sn_env (e' := [.sh (a0), .sh (v1), .no, .no, .no, .no, .no, .no, .no, .no, .no, .no, .no, .no, .no, .no, .no, .no, .no, .no, .no, .no, .no, .no, .no, .no, .no, .no, .sh (d399)]) rfl (sn_nil (s := ()) (.eq (.eq (.no (.no (.no (.no (.no (.no (.no (.no (.no (.no (.no (.no (.no (.no (.no (.no (.no (.no (.no (.no (.no (.no (.no (.no (.no (.no (.no .nil))))))))))))))))))))))))))))))) trivial))) (fun s406 => by exact sn_env (e' := [.sh (a0), .sh (v1), .no, .no, .no, .no, .no, .no, .no, .no, .no, .no, .no, .no, .no, .no, .no, .no, .no, .no, .no, .no, .no, .no, .no, .no, .no, .no, .no]) rfl (sn_for (pt := (Pat.nm 28)) (injb := (fun (s407 : Unit) => [.sh (a0), .sh (v1), .no, .no, .no, .no, .no, .no, .no, .no, .no, .no, .no, .no, .no, .no, .no, .no, .no, .no, .no, .no, .no, .no, .no, .no, .no, .no, .no])) (s0 := ()) (in_of (di_any (de_tup (da_cons (de_tup (da_nil) (by decide)) (da_cons (de_tup (da_cons (de_str (s := [48]) (by kernel_rfl) (by kernel_rfl)) (da_cons (de_str (s := [48, 48]) (by kernel_rfl) (by kernel_rfl)) (da_nil) (by kernel_rfl)) (by kernel_rfl)) (by decide)) (da_cons (de_tup (da_cons (de_str (s := [48]) (by kernel_rfl) (by kernel_rfl)) (da_cons (de_str (s := [48]) (by kernel_rfl) (by kernel_rfl)) (da_nil) (by kernel_rfl)) (by kernel_rfl)) (by decide)) (da_cons (de_tup (da_cons (de_op o_mul (DE.toB (de_str (s := [48]) (by kernel_rfl) (by kernel_rfl))) (DE.toB (de_int))) (da_nil) (by kernel_rfl)) (by decide)) (da_nil) (by kernel_rfl)) (by kernel_rfl)) (by kernel_rfl)) (by kernel_rfl)) (by decide)) (.inl rfl))) (gt_nm (i := 28) nd (by kernel_rfl) (by exact loc_of (by kernel_rfl)) (by first | exact .inl rfl | exact .inr rfl)) (fun d435 s408 => sno_nm (by exact sn_env (e' := [.sh (a0), .sh (v1), .no, .no, .no, .no, .no, .no, .no, .no, .no, .no, .no, .no, .no, .no, .no, .no, .no, .no, .no, .no, .no, .no, .no, .no, .no, .no, .sh (d435)]) rfl (sn_ifR (tn_of (dt_cmp (o_ne hu64) (DE.toB (de_lam (k := 7) (lf__law_code Fx rfl rfl) (gl_of (by kernel_rfl)) TB rfl hmT huT (hr.mono (by omega)) (LamX.lamS_by (by kernel_rfl)) (by kernel_rfl) (fun _ _ _ _ _ => by kernel_rfl) (fun A outer s H E f c hr => de_call (fn_least_distance Fx) hr takes_lam (da_cons (de_v (i := 28) rfl (by kernel_rfl) (by exact vis_of (by kernel_rfl)) (by kernel_rfl) (by kernel_rfl)) (da_nil) (by kernel_rfl)) (by omega) (by kernel_rfl) (by exact gl_of (by kernel_rfl)) (by kernel_rfl) (by kernel_rfl) (by kernel_rfl)) (by kernel_rfl))) (DE.toB (de_str (s := [99, 111, 100, 101]) (by kernel_rfl) (by kernel_rfl))) (by first | exact nomark _ | rfl))) (by exact sn_env (e' := [.sh (a0), .sh (v1), .no, .no, .no, .no, .no, .no, .no, .no, .no, .no, .no, .no, .no, .no, .no, .no, .no, .no, .no, .no, .no, .no, .no, .no, .no, .no, .sh (d435)]) rfl (sn_ret (us := []) (en_of (de_bl)) trivial io0)) (by exact sn_env (e' := [.sh (a0), .sh (v1), .no, .no, .no, .no, .no, .no, .no, .no, .no, .no, .no, .no, .no, .no, .no, .no, .no, .no, .no, .no, .no, .no, .no, .no, .no, .no, .sh (d435)]) rfl (sn_nil (s := ()) (.eq (.eq (.no (.no (.no (.no (.no (.no (.no (.no (.no (.no (.no (.no (.no (.no (.no (.no (.no (.no (.no (.no (.no (.no (.no (.no (.no (.no (.no .nil))))))))))))))))))))))))))))))) trivial))) (fun s440 => by exact sn_env (e' := [.sh (a0), .sh (v1), .no, .no, .no, .no, .no, .no, .no, .no, .no, .no, .no, .no, .no, .no, .no, .no, .no, .no, .no, .no, .no, .no, .no, .no, .no, .no, .no]) rfl (sn_ret (us := []) (en_of (de_cmp (o_eq hu64) (DE.toB (de_lam (k := 7) (lf__law_code Fx rfl rfl) (gl_of (by kernel_rfl)) TB rfl hmT huT (hr.mono (by omega)) (LamX.lamS_by (by kernel_rfl)) (by kernel_rfl) (fun _ _ _ _ _ => by kernel_rfl) (fun A outer s H E f c hr => de_call (fn_surely Fx) hr takes_lam (da_cons (de_tup (da_cons (de_str (s := [48, 49]) (by kernel_rfl) (by kernel_rfl)) (da_nil) (by kernel_rfl)) (by decide)) (da_cons (de_str (s := [48, 120]) (by kernel_rfl) (by kernel_rfl)) (da_nil) (by kernel_rfl)) (by kernel_rfl)) (by omega) (by kernel_rfl) (by exact gl_of (by kernel_rfl)) (by kernel_rfl) (by kernel_rfl) (by kernel_rfl)) (by kernel_rfl))) (DE.toB (de_str (s := [98, 105, 116, 115]) (by kernel_rfl) (by kernel_rfl))) (by first | exact nomark _ | rfl))) trivial io0)) (.eq (.eq (.no (.no (.no (.no (.no (.no (.no (.no (.no (.no (.no (.no (.no (.no (.no (.no (.no (.no (.no (.no (.no (.no (.no (.no (.no (.no (.no .nil))))))))))))))))))))))))))))) trivial owns_cx rfl (by decide) (by intro _; kernel_rfl))) (.eq (.eq (.no (.no (.no (.no (.no (.no (.no (.no (.no (.no (.no (.no (.no (.no (.no (.no (.no (.no (.no (.no (.no (.no (.no (.no (.no (.no (.no .nil))))))))))))))))))))))))))))) trivial owns_cx rfl (by decide) (by intro _; kernel_rfl))) (.eq (.eq (.no (.no (.no (.no (.no (.no (.no (.no (.no (.no (.no (.no (.no (.no (.no (.no (.no (.no (.no (.no (.no (.no (.no (.no (.no (.no (.no .nil))))))))))))))))))))))))))))) trivial owns_cx rfl (by decide) (by intro _; kernel_rfl))) trivial nd (by kernel_rfl) (by exact loc_of (by kernel_rfl)) (by decide) (by kernel_rfl) (by first | exact .inl rfl | exact .inr rfl))), fun _ h => h, nofun⟩
end
end K23

-- K23E
set_option Elab.async false
set_option linter.all false
set_option maxRecDepth 100000
set_option maxHeartbeats 0
namespace K23
open DL PySem PySem.Spec PyProof.Rows L2
theorem all_mk {l : PySem.W.OpenLaw} {w : World} {mg : Str → Option Value} {fa : Addr} {h : Heap} {K : PySem.W.Frag} (X : K.In h) (G : h.Ns mainGlobals mg) (hfa : mg "law" = some (.ref fa))
    (hM : ∀ ns : List Int, ns.length ≤ 63 → (∀ z ∈ ns, Builtin.Int.intBits z ≤ 1048576) → M_law [.lst (ns.map .int)] fun r => r = .ok (.bl true))
    {F__law_tape : Addr} {oc__law_tape : Value} {od__law_tape an__law_tape : Option Addr} {sl__law_tape : Array (Option Value)} {kV__law_tape dc__law_tape pm__law_tape cd__law_tape ct__law_tape : Value}
    (a__law_tape : PySem.W.nsIn K mainGlobals "_law_tape" = some (some (.ref F__law_tape)))
    (l__law_tape : List.lookup F__law_tape K = some ⟨oc__law_tape, od__law_tape, .func (PySem.W.fnOf "_law_tape" "_law_tape" (defArgs t__law_tape) (defBody t__law_tape) (defScope t__law_tape) .none kV__law_tape dc__law_tape pm__law_tape an__law_tape cd__law_tape ct__law_tape), sl__law_tape⟩)
    (c__law_tape : PySem.W.codeIn K cd__law_tape "_law_tape" = true)
    (k__law_tape : PySem.W.keepIn K (.ref F__law_tape) = true)
    {F__law_take : Addr} {oc__law_take : Value} {od__law_take an__law_take : Option Addr} {sl__law_take : Array (Option Value)} {kV__law_take dc__law_take pm__law_take cd__law_take ct__law_take : Value}
    (a__law_take : PySem.W.nsIn K mainGlobals "_law_take" = some (some (.ref F__law_take)))
    (l__law_take : List.lookup F__law_take K = some ⟨oc__law_take, od__law_take, .func (PySem.W.fnOf "_law_take" "_law_take" (defArgs t__law_take) (defBody t__law_take) (defScope t__law_take) .none kV__law_take dc__law_take pm__law_take an__law_take cd__law_take ct__law_take), sl__law_take⟩)
    (c__law_take : PySem.W.codeIn K cd__law_take "_law_take" = true)
    (k__law_take : PySem.W.keepIn K (.ref F__law_take) = true)
    {F__law_bits : Addr} {oc__law_bits : Value} {od__law_bits an__law_bits : Option Addr} {sl__law_bits : Array (Option Value)} {kV__law_bits dc__law_bits pm__law_bits cd__law_bits ct__law_bits : Value}
    (a__law_bits : PySem.W.nsIn K mainGlobals "_law_bits" = some (some (.ref F__law_bits)))
    (l__law_bits : List.lookup F__law_bits K = some ⟨oc__law_bits, od__law_bits, .func (PySem.W.fnOf "_law_bits" "_law_bits" (defArgs t__law_bits) (defBody t__law_bits) (defScope t__law_bits) .none kV__law_bits dc__law_bits pm__law_bits an__law_bits cd__law_bits ct__law_bits), sl__law_bits⟩)
    (c__law_bits : PySem.W.codeIn K cd__law_bits "_law_bits" = true)
    (k__law_bits : PySem.W.keepIn K (.ref F__law_bits) = true)
    {F_is_bits : Addr} {oc_is_bits : Value} {od_is_bits an_is_bits : Option Addr} {sl_is_bits : Array (Option Value)} {kV_is_bits dc_is_bits pm_is_bits cd_is_bits ct_is_bits : Value}
    (a_is_bits : PySem.W.nsIn K mainGlobals "is_bits" = some (some (.ref F_is_bits)))
    (l_is_bits : List.lookup F_is_bits K = some ⟨oc_is_bits, od_is_bits, .func (PySem.W.fnOf "is_bits" "is_bits" (defArgs t_is_bits) (defBody t_is_bits) (defScope t_is_bits) .none kV_is_bits dc_is_bits pm_is_bits an_is_bits cd_is_bits ct_is_bits), sl_is_bits⟩)
    (c_is_bits : PySem.W.codeIn K cd_is_bits "is_bits" = true)
    (k_is_bits : PySem.W.keepIn K (.ref F_is_bits) = true)
    {F_check_bits : Addr} {oc_check_bits : Value} {od_check_bits an_check_bits : Option Addr} {sl_check_bits : Array (Option Value)} {kV_check_bits dc_check_bits pm_check_bits cd_check_bits ct_check_bits : Value}
    (a_check_bits : PySem.W.nsIn K mainGlobals "check_bits" = some (some (.ref F_check_bits)))
    (l_check_bits : List.lookup F_check_bits K = some ⟨oc_check_bits, od_check_bits, .func (PySem.W.fnOf "check_bits" "check_bits" (defArgs t_check_bits) (defBody t_check_bits) (defScope t_check_bits) .none kV_check_bits dc_check_bits pm_check_bits an_check_bits cd_check_bits ct_check_bits), sl_check_bits⟩)
    (c_check_bits : PySem.W.codeIn K cd_check_bits "check_bits" = true)
    (k_check_bits : PySem.W.keepIn K (.ref F_check_bits) = true)
    {F_check_divisor : Addr} {oc_check_divisor : Value} {od_check_divisor an_check_divisor : Option Addr} {sl_check_divisor : Array (Option Value)} {kV_check_divisor dc_check_divisor pm_check_divisor cd_check_divisor ct_check_divisor : Value}
    (a_check_divisor : PySem.W.nsIn K mainGlobals "check_divisor" = some (some (.ref F_check_divisor)))
    (l_check_divisor : List.lookup F_check_divisor K = some ⟨oc_check_divisor, od_check_divisor, .func (PySem.W.fnOf "check_divisor" "check_divisor" (defArgs t_check_divisor) (defBody t_check_divisor) (defScope t_check_divisor) .none kV_check_divisor dc_check_divisor pm_check_divisor an_check_divisor cd_check_divisor ct_check_divisor), sl_check_divisor⟩)
    (c_check_divisor : PySem.W.codeIn K cd_check_divisor "check_divisor" = true)
    (k_check_divisor : PySem.W.keepIn K (.ref F_check_divisor) = true)
    {F_number_of : Addr} {oc_number_of : Value} {od_number_of an_number_of : Option Addr} {sl_number_of : Array (Option Value)} {kV_number_of dc_number_of pm_number_of cd_number_of ct_number_of : Value}
    (a_number_of : PySem.W.nsIn K mainGlobals "number_of" = some (some (.ref F_number_of)))
    (l_number_of : List.lookup F_number_of K = some ⟨oc_number_of, od_number_of, .func (PySem.W.fnOf "number_of" "number_of" (defArgs t_number_of) (defBody t_number_of) (defScope t_number_of) .none kV_number_of dc_number_of pm_number_of an_number_of cd_number_of ct_number_of), sl_number_of⟩)
    (c_number_of : PySem.W.codeIn K cd_number_of "number_of" = true)
    (k_number_of : PySem.W.keepIn K (.ref F_number_of) = true)
    {F_first_turn_of : Addr} {oc_first_turn_of : Value} {od_first_turn_of an_first_turn_of : Option Addr} {sl_first_turn_of : Array (Option Value)} {kV_first_turn_of dc_first_turn_of pm_first_turn_of cd_first_turn_of ct_first_turn_of : Value}
    (a_first_turn_of : PySem.W.nsIn K mainGlobals "first_turn_of" = some (some (.ref F_first_turn_of)))
    (l_first_turn_of : List.lookup F_first_turn_of K = some ⟨oc_first_turn_of, od_first_turn_of, .func (PySem.W.fnOf "first_turn_of" "first_turn_of" (defArgs t_first_turn_of) (defBody t_first_turn_of) (defScope t_first_turn_of) .none kV_first_turn_of dc_first_turn_of pm_first_turn_of an_first_turn_of cd_first_turn_of ct_first_turn_of), sl_first_turn_of⟩)
    (c_first_turn_of : PySem.W.codeIn K cd_first_turn_of "first_turn_of" = true)
    (k_first_turn_of : PySem.W.keepIn K (.ref F_first_turn_of) = true)
    {F__law_turn : Addr} {oc__law_turn : Value} {od__law_turn an__law_turn : Option Addr} {sl__law_turn : Array (Option Value)} {kV__law_turn dc__law_turn pm__law_turn cd__law_turn ct__law_turn : Value}
    (a__law_turn : PySem.W.nsIn K mainGlobals "_law_turn" = some (some (.ref F__law_turn)))
    (l__law_turn : List.lookup F__law_turn K = some ⟨oc__law_turn, od__law_turn, .func (PySem.W.fnOf "_law_turn" "_law_turn" (defArgs t__law_turn) (defBody t__law_turn) (defScope t__law_turn) .none kV__law_turn dc__law_turn pm__law_turn an__law_turn cd__law_turn ct__law_turn), sl__law_turn⟩)
    (c__law_turn : PySem.W.codeIn K cd__law_turn "_law_turn" = true)
    (k__law_turn : PySem.W.keepIn K (.ref F__law_turn) = true)
    {F__law_far : Addr} {oc__law_far : Value} {od__law_far an__law_far : Option Addr} {sl__law_far : Array (Option Value)} {kV__law_far dc__law_far pm__law_far cd__law_far ct__law_far : Value}
    (a__law_far : PySem.W.nsIn K mainGlobals "_law_far" = some (some (.ref F__law_far)))
    (l__law_far : List.lookup F__law_far K = some ⟨oc__law_far, od__law_far, .func (PySem.W.fnOf "_law_far" "_law_far" (defArgs t__law_far) (defBody t__law_far) (defScope t__law_far) .none kV__law_far dc__law_far pm__law_far an__law_far cd__law_far ct__law_far), sl__law_far⟩)
    (c__law_far : PySem.W.codeIn K cd__law_far "_law_far" = true)
    (k__law_far : PySem.W.keepIn K (.ref F__law_far) = true)
    {F__law_distances : Addr} {oc__law_distances : Value} {od__law_distances an__law_distances : Option Addr} {sl__law_distances : Array (Option Value)} {kV__law_distances dc__law_distances pm__law_distances cd__law_distances ct__law_distances : Value}
    (a__law_distances : PySem.W.nsIn K mainGlobals "_law_distances" = some (some (.ref F__law_distances)))
    (l__law_distances : List.lookup F__law_distances K = some ⟨oc__law_distances, od__law_distances, .func (PySem.W.fnOf "_law_distances" "_law_distances" (defArgs t__law_distances) (defBody t__law_distances) (defScope t__law_distances) .none kV__law_distances dc__law_distances pm__law_distances an__law_distances cd__law_distances ct__law_distances), sl__law_distances⟩)
    (c__law_distances : PySem.W.codeIn K cd__law_distances "_law_distances" = true)
    (k__law_distances : PySem.W.keepIn K (.ref F__law_distances) = true)
    {F__law_rest : Addr} {oc__law_rest : Value} {od__law_rest an__law_rest : Option Addr} {sl__law_rest : Array (Option Value)} {kV__law_rest dc__law_rest pm__law_rest cd__law_rest ct__law_rest : Value}
    (a__law_rest : PySem.W.nsIn K mainGlobals "_law_rest" = some (some (.ref F__law_rest)))
    (l__law_rest : List.lookup F__law_rest K = some ⟨oc__law_rest, od__law_rest, .func (PySem.W.fnOf "_law_rest" "_law_rest" (defArgs t__law_rest) (defBody t__law_rest) (defScope t__law_rest) .none kV__law_rest dc__law_rest pm__law_rest an__law_rest cd__law_rest ct__law_rest), sl__law_rest⟩)
    (c__law_rest : PySem.W.codeIn K cd__law_rest "_law_rest" = true)
    (k__law_rest : PySem.W.keepIn K (.ref F__law_rest) = true)
    {F_check_words : Addr} {oc_check_words : Value} {od_check_words an_check_words : Option Addr} {sl_check_words : Array (Option Value)} {kV_check_words dc_check_words pm_check_words cd_check_words ct_check_words : Value}
    (a_check_words : PySem.W.nsIn K mainGlobals "check_words" = some (some (.ref F_check_words)))
    (l_check_words : List.lookup F_check_words K = some ⟨oc_check_words, od_check_words, .func (PySem.W.fnOf "check_words" "check_words" (defArgs t_check_words) (defBody t_check_words) (defScope t_check_words) .none kV_check_words dc_check_words pm_check_words an_check_words cd_check_words ct_check_words), sl_check_words⟩)
    (c_check_words : PySem.W.codeIn K cd_check_words "check_words" = true)
    (k_check_words : PySem.W.keepIn K (.ref F_check_words) = true)
    {F_distance : Addr} {oc_distance : Value} {od_distance an_distance : Option Addr} {sl_distance : Array (Option Value)} {kV_distance dc_distance pm_distance cd_distance ct_distance : Value}
    (a_distance : PySem.W.nsIn K mainGlobals "distance" = some (some (.ref F_distance)))
    (l_distance : List.lookup F_distance K = some ⟨oc_distance, od_distance, .func (PySem.W.fnOf "distance" "distance" (defArgs t_distance) (defBody t_distance) (defScope t_distance) .none kV_distance dc_distance pm_distance an_distance cd_distance ct_distance), sl_distance⟩)
    (c_distance : PySem.W.codeIn K cd_distance "distance" = true)
    (k_distance : PySem.W.keepIn K (.ref F_distance) = true)
    {F_nearest : Addr} {oc_nearest : Value} {od_nearest an_nearest : Option Addr} {sl_nearest : Array (Option Value)} {kV_nearest dc_nearest pm_nearest cd_nearest ct_nearest : Value}
    (a_nearest : PySem.W.nsIn K mainGlobals "nearest" = some (some (.ref F_nearest)))
    (l_nearest : List.lookup F_nearest K = some ⟨oc_nearest, od_nearest, .func (PySem.W.fnOf "nearest" "nearest" (defArgs t_nearest) (defBody t_nearest) (defScope t_nearest) .none kV_nearest dc_nearest pm_nearest an_nearest cd_nearest ct_nearest), sl_nearest⟩)
    (c_nearest : PySem.W.codeIn K cd_nearest "nearest" = true)
    (k_nearest : PySem.W.keepIn K (.ref F_nearest) = true)
    {F_surely : Addr} {oc_surely : Value} {od_surely an_surely : Option Addr} {sl_surely : Array (Option Value)} {kV_surely dc_surely pm_surely cd_surely ct_surely : Value}
    (a_surely : PySem.W.nsIn K mainGlobals "surely" = some (some (.ref F_surely)))
    (l_surely : List.lookup F_surely K = some ⟨oc_surely, od_surely, .func (PySem.W.fnOf "surely" "surely" (defArgs t_surely) (defBody t_surely) (defScope t_surely) .none kV_surely dc_surely pm_surely an_surely cd_surely ct_surely), sl_surely⟩)
    (c_surely : PySem.W.codeIn K cd_surely "surely" = true)
    (k_surely : PySem.W.keepIn K (.ref F_surely) = true)
    {F_bits_of : Addr} {oc_bits_of : Value} {od_bits_of an_bits_of : Option Addr} {sl_bits_of : Array (Option Value)} {kV_bits_of dc_bits_of pm_bits_of cd_bits_of ct_bits_of : Value}
    (a_bits_of : PySem.W.nsIn K mainGlobals "bits_of" = some (some (.ref F_bits_of)))
    (l_bits_of : List.lookup F_bits_of K = some ⟨oc_bits_of, od_bits_of, .func (PySem.W.fnOf "bits_of" "bits_of" (defArgs t_bits_of) (defBody t_bits_of) (defScope t_bits_of) .none kV_bits_of dc_bits_of pm_bits_of an_bits_of cd_bits_of ct_bits_of), sl_bits_of⟩)
    (c_bits_of : PySem.W.codeIn K cd_bits_of "bits_of" = true)
    (k_bits_of : PySem.W.keepIn K (.ref F_bits_of) = true)
    {F_rest_of : Addr} {oc_rest_of : Value} {od_rest_of an_rest_of : Option Addr} {sl_rest_of : Array (Option Value)} {kV_rest_of dc_rest_of pm_rest_of cd_rest_of ct_rest_of : Value}
    (a_rest_of : PySem.W.nsIn K mainGlobals "rest_of" = some (some (.ref F_rest_of)))
    (l_rest_of : List.lookup F_rest_of K = some ⟨oc_rest_of, od_rest_of, .func (PySem.W.fnOf "rest_of" "rest_of" (defArgs t_rest_of) (defBody t_rest_of) (defScope t_rest_of) .none kV_rest_of dc_rest_of pm_rest_of an_rest_of cd_rest_of ct_rest_of), sl_rest_of⟩)
    (c_rest_of : PySem.W.codeIn K cd_rest_of "rest_of" = true)
    (k_rest_of : PySem.W.keepIn K (.ref F_rest_of) = true)
    {F_guarded : Addr} {oc_guarded : Value} {od_guarded an_guarded : Option Addr} {sl_guarded : Array (Option Value)} {kV_guarded dc_guarded pm_guarded cd_guarded ct_guarded : Value}
    (a_guarded : PySem.W.nsIn K mainGlobals "guarded" = some (some (.ref F_guarded)))
    (l_guarded : List.lookup F_guarded K = some ⟨oc_guarded, od_guarded, .func (PySem.W.fnOf "guarded" "guarded" (defArgs t_guarded) (defBody t_guarded) (defScope t_guarded) .none kV_guarded dc_guarded pm_guarded an_guarded cd_guarded ct_guarded), sl_guarded⟩)
    (c_guarded : PySem.W.codeIn K cd_guarded "guarded" = true)
    (k_guarded : PySem.W.keepIn K (.ref F_guarded) = true)
    {F_is_whole : Addr} {oc_is_whole : Value} {od_is_whole an_is_whole : Option Addr} {sl_is_whole : Array (Option Value)} {kV_is_whole dc_is_whole pm_is_whole cd_is_whole ct_is_whole : Value}
    (a_is_whole : PySem.W.nsIn K mainGlobals "is_whole" = some (some (.ref F_is_whole)))
    (l_is_whole : List.lookup F_is_whole K = some ⟨oc_is_whole, od_is_whole, .func (PySem.W.fnOf "is_whole" "is_whole" (defArgs t_is_whole) (defBody t_is_whole) (defScope t_is_whole) .none kV_is_whole dc_is_whole pm_is_whole an_is_whole cd_is_whole ct_is_whole), sl_is_whole⟩)
    (c_is_whole : PySem.W.codeIn K cd_is_whole "is_whole" = true)
    (k_is_whole : PySem.W.keepIn K (.ref F_is_whole) = true)
    {F_unguarded : Addr} {oc_unguarded : Value} {od_unguarded an_unguarded : Option Addr} {sl_unguarded : Array (Option Value)} {kV_unguarded dc_unguarded pm_unguarded cd_unguarded ct_unguarded : Value}
    (a_unguarded : PySem.W.nsIn K mainGlobals "unguarded" = some (some (.ref F_unguarded)))
    (l_unguarded : List.lookup F_unguarded K = some ⟨oc_unguarded, od_unguarded, .func (PySem.W.fnOf "unguarded" "unguarded" (defArgs t_unguarded) (defBody t_unguarded) (defScope t_unguarded) .none kV_unguarded dc_unguarded pm_unguarded an_unguarded cd_unguarded ct_unguarded), sl_unguarded⟩)
    (c_unguarded : PySem.W.codeIn K cd_unguarded "unguarded" = true)
    (k_unguarded : PySem.W.keepIn K (.ref F_unguarded) = true)
    {F_least_distance : Addr} {oc_least_distance : Value} {od_least_distance an_least_distance : Option Addr} {sl_least_distance : Array (Option Value)} {kV_least_distance dc_least_distance pm_least_distance cd_least_distance ct_least_distance : Value}
    (a_least_distance : PySem.W.nsIn K mainGlobals "least_distance" = some (some (.ref F_least_distance)))
    (l_least_distance : List.lookup F_least_distance K = some ⟨oc_least_distance, od_least_distance, .func (PySem.W.fnOf "least_distance" "least_distance" (defArgs t_least_distance) (defBody t_least_distance) (defScope t_least_distance) .none kV_least_distance dc_least_distance pm_least_distance an_least_distance cd_least_distance ct_least_distance), sl_least_distance⟩)
    (c_least_distance : PySem.W.codeIn K cd_least_distance "least_distance" = true)
    (k_least_distance : PySem.W.keepIn K (.ref F_least_distance) = true)
    {F_mended_by : Addr} {oc_mended_by : Value} {od_mended_by an_mended_by : Option Addr} {sl_mended_by : Array (Option Value)} {kV_mended_by dc_mended_by pm_mended_by cd_mended_by ct_mended_by : Value}
    (a_mended_by : PySem.W.nsIn K mainGlobals "mended_by" = some (some (.ref F_mended_by)))
    (l_mended_by : List.lookup F_mended_by K = some ⟨oc_mended_by, od_mended_by, .func (PySem.W.fnOf "mended_by" "mended_by" (defArgs t_mended_by) (defBody t_mended_by) (defScope t_mended_by) .none kV_mended_by dc_mended_by pm_mended_by an_mended_by cd_mended_by ct_mended_by), sl_mended_by⟩)
    (c_mended_by : PySem.W.codeIn K cd_mended_by "mended_by" = true)
    (k_mended_by : PySem.W.keepIn K (.ref F_mended_by) = true)
    {F__law_code : Addr} {oc__law_code : Value} {od__law_code an__law_code : Option Addr} {sl__law_code : Array (Option Value)} {kV__law_code dc__law_code pm__law_code cd__law_code ct__law_code : Value}
    (a__law_code : PySem.W.nsIn K mainGlobals "_law_code" = some (some (.ref F__law_code)))
    (l__law_code : List.lookup F__law_code K = some ⟨oc__law_code, od__law_code, .func (PySem.W.fnOf "_law_code" "_law_code" (defArgs t__law_code) (defBody t__law_code) (defScope t__law_code) .none kV__law_code dc__law_code pm__law_code an__law_code cd__law_code ct__law_code), sl__law_code⟩)
    (c__law_code : PySem.W.codeIn K cd__law_code "_law_code" = true)
    (k__law_code : PySem.W.keepIn K (.ref F__law_code) = true)
    {F_law : Addr} {oc_law : Value} {od_law an_law : Option Addr} {sl_law : Array (Option Value)} {kV_law dc_law pm_law cd_law ct_law : Value}
    (a_law : PySem.W.nsIn K mainGlobals "law" = some (some (.ref F_law)))
    (l_law : List.lookup F_law K = some ⟨oc_law, od_law, .func (PySem.W.fnOf "law" "law" (defArgs t_law) (defBody t_law) (defScope t_law) .none kV_law dc_law pm_law an_law cd_law ct_law), sl_law⟩)
    (c_law : PySem.W.codeIn K cd_law "law" = true)
    (k_law : PySem.W.keepIn K (.ref F_law) = true)
    {co_law P_law : Addr} {xd_law : Option Addr} {xs_law : Array (Option Value)} {xv_law : Array Value} {fi_law : Str} {tf_law tg_law tt_law : Tok} {fl_law te_law : Int} {in_law : Bool}
    (cd_law_e : cd_law = .ref co_law) (cl_law : List.lookup co_law K = some ⟨.type "code", xd_law, .fields xv_law, xs_law⟩) (e11_law : xv_law[11]? = some (.ref P_law)) (e18_law : xv_law.getD 18 .none = .str fi_law tf_law) (e7_law : xv_law.getD 7 .none = .int fl_law tg_law) (e9_law : xv_law.getD 9 .none = .bool in_law) (e10_law : xv_law.getD 10 .none = .int te_law tt_law) (ne_law : co_law ≠ P_law) (nk_law : List.lookup P_law K = none) (tb_law : h.get? P_law = some (PySem.W.tabObj #[]))
    (nol : noLst K = true)
    (b_abs : PySem.W.nsIn K mainGlobals "abs" = some none)
    (b_all : PySem.W.nsIn K mainGlobals "all" = some none)
    (b_enumerate : PySem.W.nsIn K mainGlobals "enumerate" = some none)
    (b_int : PySem.W.nsIn K mainGlobals "int" = some none)
    (b_len : PySem.W.nsIn K mainGlobals "len" = some none)
    (b_min : PySem.W.nsIn K mainGlobals "min" = some none)
    (b_range : PySem.W.nsIn K mainGlobals "range" = some none)
    (b_set : PySem.W.nsIn K mainGlobals "set" = some none)
    (b_str : PySem.W.nsIn K mainGlobals "str" = some none)
    (b_tuple : PySem.W.nsIn K mainGlobals "tuple" = some none)
    (b_zip : PySem.W.nsIn K mainGlobals "zip" = some none)
    {gv_MOST_BITS : Value} (g_MOST_BITS : PySem.W.nsIn K mainGlobals "MOST_BITS" = some (some gv_MOST_BITS)) (gk_MOST_BITS : kval K 9 gv_MOST_BITS G_MOST_BITS = true)
    {gv_MOST_SIZE : Value} (g_MOST_SIZE : PySem.W.nsIn K mainGlobals "MOST_SIZE" = some (some gv_MOST_SIZE)) (gk_MOST_SIZE : kval K 9 gv_MOST_SIZE G_MOST_SIZE = true)
    {X_InvalidBits : Addr} (x_InvalidBits : PySem.W.nsIn K mainGlobals "InvalidBits" = some (some (.ref X_InvalidBits))) (xe_InvalidBits : PySem.W.excIn K X_InvalidBits [.type "ValueError", .type "Exception", .type "BaseException", .type "object"] "ValueError.__new__" = true) (xk_InvalidBits : PySem.W.keepIn K (.ref X_InvalidBits) = true) (xs_InvalidBits : PySem.W.subIn K (.ref X_InvalidBits) (.type "BaseException") = some true) (xt_InvalidBits : PySem.W.typeIn K (.ref X_InvalidBits) = some (.type "type"))
    {X_InvalidCode : Addr} (x_InvalidCode : PySem.W.nsIn K mainGlobals "InvalidCode" = some (some (.ref X_InvalidCode))) (xe_InvalidCode : PySem.W.excIn K X_InvalidCode [.type "ValueError", .type "Exception", .type "BaseException", .type "object"] "ValueError.__new__" = true) (xk_InvalidCode : PySem.W.keepIn K (.ref X_InvalidCode) = true) (xs_InvalidCode : PySem.W.subIn K (.ref X_InvalidCode) (.type "BaseException") = some true) (xt_InvalidCode : PySem.W.typeIn K (.ref X_InvalidCode) = some (.type "type"))
    {X_InvalidNumber : Addr} (x_InvalidNumber : PySem.W.nsIn K mainGlobals "InvalidNumber" = some (some (.ref X_InvalidNumber))) (xe_InvalidNumber : PySem.W.excIn K X_InvalidNumber [.type "ValueError", .type "Exception", .type "BaseException", .type "object"] "ValueError.__new__" = true) (xk_InvalidNumber : PySem.W.keepIn K (.ref X_InvalidNumber) = true) (xs_InvalidNumber : PySem.W.subIn K (.ref X_InvalidNumber) (.type "BaseException") = some true) (xt_InvalidNumber : PySem.W.typeIn K (.ref X_InvalidNumber) = some (.type "type"))
    (p_0 : PySem.W.exmOne K (.ref X_InvalidBits) (.ref X_InvalidBits) = some true)
    (p_1 : PySem.W.exmOne K (.ref X_InvalidBits) (.ref X_InvalidCode) = some false)
    (p_2 : PySem.W.exmOne K (.ref X_InvalidCode) (.ref X_InvalidBits) = some false)
    (p_3 : PySem.W.exmOne K (.ref X_InvalidCode) (.ref X_InvalidCode) = some true)
    (p_4 : PySem.W.exmOne K (.ref X_InvalidNumber) (.ref X_InvalidBits) = some false)
    (p_5 : PySem.W.exmOne K (.ref X_InvalidNumber) (.ref X_InvalidCode) = some false) :
    LamX.LawAtS l w K (L2.CX l.prog w) 10 63 "script" mg fa h := by
  have e := hfa.symm.trans (PySem.W.mg_of X G a_law)
  cases e
  subst cd_law_e
  have F__law_tape_ := fun_mk (st := t__law_tape) l__law_tape c__law_tape k__law_tape
  have b__law_tape_ := F__law_tape_.binds (ps := ["script"]) fun _ _ _ _ _ _ us hl => match us, hl with | [_], _ => rfl
  have F__law_take_ := fun_mk (st := t__law_take) l__law_take c__law_take k__law_take
  have b__law_take_ := F__law_take_.binds (ps := ["tape", "many"]) fun _ _ _ _ _ _ us hl => match us, hl with | [_, _], _ => rfl
  have F__law_bits_ := fun_mk (st := t__law_bits) l__law_bits c__law_bits k__law_bits
  have b__law_bits_ := F__law_bits_.binds (ps := ["tape", "most"]) fun _ _ _ _ _ _ us hl => match us, hl with | [_, _], _ => rfl
  have F_is_bits_ := fun_mk (st := t_is_bits) l_is_bits c_is_bits k_is_bits
  have b_is_bits_ := F_is_bits_.binds (ps := ["text"]) fun _ _ _ _ _ _ us hl => match us, hl with | [_], _ => rfl
  have F_check_bits_ := fun_mk (st := t_check_bits) l_check_bits c_check_bits k_check_bits
  have b_check_bits_ := F_check_bits_.binds (ps := ["text"]) fun _ _ _ _ _ _ us hl => match us, hl with | [_], _ => rfl
  have F_check_divisor_ := fun_mk (st := t_check_divisor) l_check_divisor c_check_divisor k_check_divisor
  have b_check_divisor_ := F_check_divisor_.binds (ps := ["divisor"]) fun _ _ _ _ _ _ us hl => match us, hl with | [_], _ => rfl
  have F_number_of_ := fun_mk (st := t_number_of) l_number_of c_number_of k_number_of
  have b_number_of_ := F_number_of_.binds (ps := ["bits"]) fun _ _ _ _ _ _ us hl => match us, hl with | [_], _ => rfl
  have F_first_turn_of_ := fun_mk (st := t_first_turn_of) l_first_turn_of c_first_turn_of k_first_turn_of
  have b_first_turn_of_ := F_first_turn_of_.binds (ps := ["divisor"]) fun _ _ _ _ _ _ us hl => match us, hl with | [_], _ => rfl
  have F__law_turn_ := fun_mk (st := t__law_turn) l__law_turn c__law_turn k__law_turn
  have b__law_turn_ := F__law_turn_.binds (ps := ["bits", "at"]) fun _ _ _ _ _ _ us hl => match us, hl with | [_, _], _ => rfl
  have F__law_far_ := fun_mk (st := t__law_far) l__law_far c__law_far k__law_far
  have b__law_far_ := F__law_far_.binds (ps := ["one", "other"]) fun _ _ _ _ _ _ us hl => match us, hl with | [_, _], _ => rfl
  have F__law_distances_ := fun_mk (st := t__law_distances) l__law_distances c__law_distances k__law_distances
  have b__law_distances_ := F__law_distances_.binds (ps := ["words"]) fun _ _ _ _ _ _ us hl => match us, hl with | [_], _ => rfl
  have F__law_rest_ := fun_mk (st := t__law_rest) l__law_rest c__law_rest k__law_rest
  have b__law_rest_ := F__law_rest_.binds (ps := ["bits", "divisor"]) fun _ _ _ _ _ _ us hl => match us, hl with | [_, _], _ => rfl
  have F_check_words_ := fun_mk (st := t_check_words) l_check_words c_check_words k_check_words
  have b_check_words_ := F_check_words_.binds (ps := ["words"]) fun _ _ _ _ _ _ us hl => match us, hl with | [_], _ => rfl
  have F_distance_ := fun_mk (st := t_distance) l_distance c_distance k_distance
  have b_distance_ := F_distance_.binds (ps := ["one", "other"]) fun _ _ _ _ _ _ us hl => match us, hl with | [_, _], _ => rfl
  have F_nearest_ := fun_mk (st := t_nearest) l_nearest c_nearest k_nearest
  have b_nearest_ := F_nearest_.binds (ps := ["words", "bits"]) fun _ _ _ _ _ _ us hl => match us, hl with | [_, _], _ => rfl
  have F_surely_ := fun_mk (st := t_surely) l_surely c_surely k_surely
  have b_surely_ := F_surely_.binds (ps := ["words", "bits"]) fun _ _ _ _ _ _ us hl => match us, hl with | [_, _], _ => rfl
  have F_bits_of_ := fun_mk (st := t_bits_of) l_bits_of c_bits_of k_bits_of
  have b_bits_of_ := F_bits_of_.binds (ps := ["number", "width"]) fun _ _ _ _ _ _ us hl => match us, hl with | [_, _], _ => rfl
  have F_rest_of_ := fun_mk (st := t_rest_of) l_rest_of c_rest_of k_rest_of
  have b_rest_of_ := F_rest_of_.binds (ps := ["bits", "divisor"]) fun _ _ _ _ _ _ us hl => match us, hl with | [_, _], _ => rfl
  have F_guarded_ := fun_mk (st := t_guarded) l_guarded c_guarded k_guarded
  have b_guarded_ := F_guarded_.binds (ps := ["bits", "divisor"]) fun _ _ _ _ _ _ us hl => match us, hl with | [_, _], _ => rfl
  have F_is_whole_ := fun_mk (st := t_is_whole) l_is_whole c_is_whole k_is_whole
  have b_is_whole_ := F_is_whole_.binds (ps := ["bits", "divisor"]) fun _ _ _ _ _ _ us hl => match us, hl with | [_, _], _ => rfl
  have F_unguarded_ := fun_mk (st := t_unguarded) l_unguarded c_unguarded k_unguarded
  have b_unguarded_ := F_unguarded_.binds (ps := ["bits", "divisor"]) fun _ _ _ _ _ _ us hl => match us, hl with | [_, _], _ => rfl
  have F_least_distance_ := fun_mk (st := t_least_distance) l_least_distance c_least_distance k_least_distance
  have b_least_distance_ := F_least_distance_.binds (ps := ["words"]) fun _ _ _ _ _ _ us hl => match us, hl with | [_], _ => rfl
  have F_mended_by_ := fun_mk (st := t_mended_by) l_mended_by c_mended_by k_mended_by
  have b_mended_by_ := F_mended_by_.binds (ps := ["words"]) fun _ _ _ _ _ _ us hl => match us, hl with | [_], _ => rfl
  have F__law_code_ := fun_mk (st := t__law_code) l__law_code c__law_code k__law_code
  have b__law_code_ := F__law_code_.binds (ps := ["call"]) fun _ _ _ _ _ _ us hl => match us, hl with | [_], _ => rfl
  have F_law_ := funC_mk (st := t_law) (C := fun cdv => cdv = .ref co_law) l_law c_law k_law rfl
  have Fx : ∀ base : Heap, TX l.prog w K mg base [(P_law, ("law.<locals>.<lambda>" : Str))] := fun base => {
    d__law_tape := ⟨_, _, PySem.W.mg_of X G a__law_tape, F__law_tape_, b__law_tape_⟩
    d__law_take := ⟨_, _, PySem.W.mg_of X G a__law_take, F__law_take_, b__law_take_⟩
    d__law_bits := ⟨_, _, PySem.W.mg_of X G a__law_bits, F__law_bits_, b__law_bits_⟩
    d_is_bits := ⟨_, _, PySem.W.mg_of X G a_is_bits, F_is_bits_, b_is_bits_⟩
    d_check_bits := ⟨_, _, PySem.W.mg_of X G a_check_bits, F_check_bits_, b_check_bits_⟩
    d_check_divisor := ⟨_, _, PySem.W.mg_of X G a_check_divisor, F_check_divisor_, b_check_divisor_⟩
    d_number_of := ⟨_, _, PySem.W.mg_of X G a_number_of, F_number_of_, b_number_of_⟩
    d_first_turn_of := ⟨_, _, PySem.W.mg_of X G a_first_turn_of, F_first_turn_of_, b_first_turn_of_⟩
    d__law_turn := ⟨_, _, PySem.W.mg_of X G a__law_turn, F__law_turn_, b__law_turn_⟩
    d__law_far := ⟨_, _, PySem.W.mg_of X G a__law_far, F__law_far_, b__law_far_⟩
    d__law_distances := ⟨_, _, PySem.W.mg_of X G a__law_distances, F__law_distances_, b__law_distances_⟩
    d__law_rest := ⟨_, _, PySem.W.mg_of X G a__law_rest, F__law_rest_, b__law_rest_⟩
    d_check_words := ⟨_, _, PySem.W.mg_of X G a_check_words, F_check_words_, b_check_words_⟩
    d_distance := ⟨_, _, PySem.W.mg_of X G a_distance, F_distance_, b_distance_⟩
    d_nearest := ⟨_, _, PySem.W.mg_of X G a_nearest, F_nearest_, b_nearest_⟩
    d_surely := ⟨_, _, PySem.W.mg_of X G a_surely, F_surely_, b_surely_⟩
    d_bits_of := ⟨_, _, PySem.W.mg_of X G a_bits_of, F_bits_of_, b_bits_of_⟩
    d_rest_of := ⟨_, _, PySem.W.mg_of X G a_rest_of, F_rest_of_, b_rest_of_⟩
    d_guarded := ⟨_, _, PySem.W.mg_of X G a_guarded, F_guarded_, b_guarded_⟩
    d_is_whole := ⟨_, _, PySem.W.mg_of X G a_is_whole, F_is_whole_, b_is_whole_⟩
    d_unguarded := ⟨_, _, PySem.W.mg_of X G a_unguarded, F_unguarded_, b_unguarded_⟩
    d_least_distance := ⟨_, _, PySem.W.mg_of X G a_least_distance, F_least_distance_, b_least_distance_⟩
    d_mended_by := ⟨_, _, PySem.W.mg_of X G a_mended_by, F_mended_by_, b_mended_by_⟩
    d__law_code := ⟨_, _, PySem.W.mg_of X G a__law_code, F__law_code_, b__law_code_⟩
    b_abs := PySem.W.mg_none_of X G b_abs
    b_all := PySem.W.mg_none_of X G b_all
    b_enumerate := PySem.W.mg_none_of X G b_enumerate
    b_int := PySem.W.mg_none_of X G b_int
    b_len := PySem.W.mg_none_of X G b_len
    b_min := PySem.W.mg_none_of X G b_min
    b_range := PySem.W.mg_none_of X G b_range
    b_set := PySem.W.mg_none_of X G b_set
    b_str := PySem.W.mg_none_of X G b_str
    b_tuple := PySem.W.mg_none_of X G b_tuple
    b_zip := PySem.W.mg_none_of X G b_zip
    g_MOST_BITS := ⟨_, _, PySem.W.mg_of X G g_MOST_BITS, (kval_of gk_MOST_BITS).choose_spec.1, (kval_of gk_MOST_BITS).choose_spec.2⟩
    g_MOST_SIZE := ⟨_, _, PySem.W.mg_of X G g_MOST_SIZE, (kval_of gk_MOST_SIZE).choose_spec.1, (kval_of gk_MOST_SIZE).choose_spec.2⟩
    x_InvalidBits := ⟨_, xe_InvalidBits, PySem.W.mg_of X G x_InvalidBits, xk_InvalidBits, xs_InvalidBits, xt_InvalidBits⟩
    x_InvalidCode := ⟨_, xe_InvalidCode, PySem.W.mg_of X G x_InvalidCode, xk_InvalidCode, xs_InvalidCode, xt_InvalidCode⟩
    x_InvalidNumber := ⟨_, xe_InvalidNumber, PySem.W.mg_of X G x_InvalidNumber, xk_InvalidNumber, xs_InvalidNumber, xt_InvalidNumber⟩
    sub := fun c h b e C Ch m1 m2 => by
      unfold subT at e
      split at e
      · rename_i z; obtain ⟨rfl, rfl⟩ := z; cases e; cases m1.symm.trans (PySem.W.mg_of X G x_InvalidBits); cases m2.symm.trans (PySem.W.mg_of X G x_InvalidBits); exact p_0
      split at e
      · rename_i z; obtain ⟨rfl, rfl⟩ := z; cases e; cases m1.symm.trans (PySem.W.mg_of X G x_InvalidBits); cases m2.symm.trans (PySem.W.mg_of X G x_InvalidCode); exact p_1
      split at e
      · rename_i z; obtain ⟨rfl, rfl⟩ := z; cases e; cases m1.symm.trans (PySem.W.mg_of X G x_InvalidCode); cases m2.symm.trans (PySem.W.mg_of X G x_InvalidBits); exact p_2
      split at e
      · rename_i z; obtain ⟨rfl, rfl⟩ := z; cases e; cases m1.symm.trans (PySem.W.mg_of X G x_InvalidCode); cases m2.symm.trans (PySem.W.mg_of X G x_InvalidCode); exact p_3
      split at e
      · rename_i z; obtain ⟨rfl, rfl⟩ := z; cases e; cases m1.symm.trans (PySem.W.mg_of X G x_InvalidNumber); cases m2.symm.trans (PySem.W.mg_of X G x_InvalidBits); exact p_4
      split at e
      · rename_i z; obtain ⟨rfl, rfl⟩ := z; cases e; cases m1.symm.trans (PySem.W.mg_of X G x_InvalidNumber); cases m2.symm.trans (PySem.W.mg_of X G x_InvalidCode); exact p_5
      cases e }
  refine lawAt_of (fd := (PySem.W.fnOf "law" "law" (defArgs t_law) (defBody t_law) (defScope t_law) .none kV_law dc_law pm_law an_law (.ref co_law) ct_law)) (cs := [(co_law, P_law)]) (T := [(P_law, ("law.<locals>.<lambda>" : Str))]) (M := M_law) ?_ ?_ ?_ nol (fun s u => .of_eq rfl) ?_ hM fun base hB hN hTB => ?_
  · intro p hp; rw [List.mem_singleton.mp hp]; exact tb_law
  · intro p hp; rw [List.mem_singleton.mp hp]; exact nk_law
  · intro p hp; rw [List.mem_singleton.mp hp]; exact codeHd_mk X cl_law e11_law e18_law e7_law e9_law e10_law ne_law
  · intro p hp; rw [List.mem_singleton.mp hp]; exact ⟨_, List.mem_singleton.mpr rfl, rfl⟩
  · exact ok_law (Fx base) F_law_ (fun s us _ hl => match us, hl with | [_], _ => .of_eq rfl) (hTB _ (List.mem_singleton.mpr rfl)) (List.mem_singleton.mpr rfl) (fun p hp _ => by rw [List.mem_singleton.mp hp])
end K23

-- K23P
set_option Elab.async false
set_option linter.all false
/-! k23: rests of rows of bits, in plain Lean. -/
namespace K23
def b2n (b : Bool) : Nat := if b then 1 else 0
def stepN (n w s : Nat) (b : Bool) : Nat := if (2 * s + b2n b).testBit n then (2 * s + b2n b) ^^^ w else 2 * s + b2n b
def rem (n w : Nat) (s : Nat) (l : List Bool) : Nat := l.foldl (stepN n w) s
def val (l : List Bool) : Nat := l.foldl (fun s b => 2 * s + b2n b) 0
theorem b2n_lt (b : Bool) : b2n b < 2 := by cases b <;> decide
theorem b2n_xor (a b : Bool) : b2n (a ^^ b) = b2n a ^^^ b2n b := by cases a <;> cases b <;> rfl
theorem two_add (s : Nat) (b : Bool) (i : Nat) : (2 * s + b2n b).testBit i = if i = 0 then b else s.testBit (i - 1) := by
  cases i with
  | zero => cases b <;> simp [b2n, Nat.testBit_zero] <;> omega
  | succ i =>
    rw [Nat.testBit_succ, if_neg (by omega)]
    have : (2 * s + b2n b) / 2 = s := by have := b2n_lt b; omega
    rw [this]; rfl
theorem two_xor (s t : Nat) (a b : Bool) : (2 * s + b2n a) ^^^ (2 * t + b2n b) = 2 * (s ^^^ t) + b2n (a ^^ b) := by
  apply Nat.eq_of_testBit_eq
  intro i
  rw [Nat.testBit_xor, two_add, two_add, two_add]
  split
  · rfl
  · rw [Nat.testBit_xor]
theorem step_lin (n w s t : Nat) (a b : Bool) : stepN n w (s ^^^ t) (a ^^ b) = stepN n w s a ^^^ stepN n w t b := by
  unfold stepN
  rw [← two_xor, Nat.testBit_xor]
  cases h1 : (2 * s + b2n a).testBit n <;> cases h2 : (2 * t + b2n b).testBit n <;> simp
  · rw [Nat.xor_assoc]
  · rw [Nat.xor_assoc, Nat.xor_comm _ w, ← Nat.xor_assoc]
  · rw [Nat.xor_assoc, ← Nat.xor_assoc w, Nat.xor_comm w, Nat.xor_assoc, Nat.xor_self, Nat.xor_zero]
def zx (a b : List Bool) : List Bool := List.zipWith (· ^^ ·) a b
theorem rem_lin (n w : Nat) : ∀ (l k : List Bool) (s t : Nat), l.length = k.length → rem n w (s ^^^ t) (zx l k) = rem n w s l ^^^ rem n w t k
  | [], [], s, t, _ => rfl
  | a :: l, b :: k, s, t, h => by
    show rem n w (stepN n w (s ^^^ t) (a ^^ b)) (zx l k) = _
    rw [step_lin]
    exact rem_lin n w l k _ _ (by simpa using h)
  | [], _ :: _, _, _, h => by simp at h
  | _ :: _, [], _, _, h => by simp at h
theorem rem_app (n w s : Nat) (l k : List Bool) : rem n w s (l ++ k) = rem n w (rem n w s l) k := List.foldl_append
/-- a divisor of degree n -/
structure Dv (n w : Nat) : Prop where
  n1 : 1 ≤ n
  lo : 2 ^ n ≤ w
  hi : w < 2 ^ (n + 1)
  odd : w.testBit 0 = true
theorem Dv.top {n w : Nat} (h : Dv n w) : w.testBit n = true := by
  have : w = 2 ^ n + (w - 2 ^ n) := by have := h.lo; omega
  rw [this, Nat.testBit_two_pow_add_eq]
  have : w - 2 ^ n < 2 ^ n := by have := h.hi; rw [Nat.pow_succ] at this; omega
  rw [Nat.testBit_lt_two_pow this]; rfl
theorem lt_of_top {x n : Nat} (h : x < 2 ^ (n + 1)) (ht : x.testBit n = false) : x < 2 ^ n := by
  apply Nat.lt_pow_two_of_testBit
  intro i hi
  by_cases e : i = n
  · subst e; exact ht
  · exact Nat.testBit_lt_two_pow (Nat.lt_of_lt_of_le h (Nat.pow_le_pow_right (by decide) (by omega)))
theorem step_lt {n w s : Nat} {b : Bool} (h : Dv n w) (hs : s < 2 ^ n) : stepN n w s b < 2 ^ n := by
  have hb := b2n_lt b
  have h1 : 2 * s + b2n b < 2 ^ (n + 1) := by rw [Nat.pow_succ]; omega
  unfold stepN
  split
  · rename_i ht
    refine lt_of_top (Nat.xor_lt_two_pow h1 h.hi) ?_
    rw [Nat.testBit_xor, ht, h.top]; rfl
  · rename_i ht
    exact lt_of_top h1 (by simpa using ht)
theorem rem_lt {n w : Nat} (h : Dv n w) : ∀ (l : List Bool) (s : Nat), s < 2 ^ n → rem n w s l < 2 ^ n
  | [], s, hs => hs
  | b :: l, s, hs => rem_lt h l _ (step_lt h hs)
/-- a nought behind: nothing becomes 0 that is not 0 -/
theorem step_ne {n w s : Nat} (h : Dv n w) (hs : s ≠ 0) : stepN n w s false ≠ 0 := by
  unfold stepN
  have e : 2 * s + b2n false = 2 * s := rfl
  rw [e]
  split
  · intro z
    have : 2 * s = w := by
      have := congrArg (· ^^^ w) z
      simp only [Nat.xor_assoc, Nat.xor_self, Nat.xor_zero, Nat.zero_xor] at this
      exact this
    have h0 := h.odd
    rw [← this, Nat.testBit_zero] at h0
    simp at h0
  · omega
theorem step_zero {n w : Nat} (h : Dv n w) : stepN n w 0 false = 0 := by
  unfold stepN; simp [b2n]
def tw (n w : Nat) (j s : Nat) : Nat := rem n w s (List.replicate j false)
theorem tw_succ (n w j s : Nat) : tw n w (j + 1) s = tw n w j (stepN n w s false) := by
  unfold tw; rw [List.replicate_succ]; rfl
theorem tw_add (n w : Nat) (i j s : Nat) : tw n w (i + j) s = tw n w j (tw n w i s) := by
  unfold tw
  rw [← List.replicate_append_replicate, rem_app]
theorem tw_ne {n w : Nat} (h : Dv n w) : ∀ (j s : Nat), s ≠ 0 → tw n w j s ≠ 0
  | 0, s, hs => hs
  | j + 1, s, hs => by rw [tw_succ]; exact tw_ne h j _ (step_ne h hs)
theorem tw_zero {n w : Nat} (h : Dv n w) : ∀ j : Nat, tw n w j 0 = 0
  | 0 => rfl
  | j + 1 => by rw [tw_succ, step_zero h]; exact tw_zero h j
theorem zx_rep (j : Nat) : zx (List.replicate j false) (List.replicate j false) = List.replicate j false := by
  unfold zx
  induction j with
  | zero => rfl
  | succ j ih => rw [List.replicate_succ, List.zipWith_cons_cons, ih]; rfl
theorem tw_lin (n w j s t : Nat) : tw n w j (s ^^^ t) = tw n w j s ^^^ tw n w j t := by
  unfold tw
  have := rem_lin n w (List.replicate j false) (List.replicate j false) s t rfl
  rw [zx_rep] at this
  exact this
/-- what has not reached the height is the number itself -/
theorem rem_low {n w : Nat} : ∀ (l : List Bool) (s k : Nat), s < 2 ^ k → k + l.length ≤ n → rem n w s l = l.foldl (fun s b => 2 * s + b2n b) s
  | [], s, k, _, _ => rfl
  | b :: l, s, k, hs, hk => by
    have hb := b2n_lt b
    have h1 : 2 * s + b2n b < 2 ^ (k + 1) := by rw [Nat.pow_succ]; omega
    have h2 : stepN n w s b = 2 * s + b2n b := by
      unfold stepN
      rw [if_neg]
      rw [Nat.testBit_lt_two_pow (Nat.lt_of_lt_of_le h1 (Nat.pow_le_pow_right (by decide) (by rw [List.length_cons] at hk; omega)))]
      simp
    show rem n w (stepN n w s b) l = _
    rw [h2]
    exact rem_low l _ (k + 1) h1 (by rw [List.length_cons] at hk; omega)
theorem rem_val {n w : Nat} {l : List Bool} (h : l.length ≤ n) : rem n w 0 l = val l := rem_low l 0 0 (by decide) (by omega)
/-- a whole row: rest nought -/
theorem rem_tail {n w : Nat} (h : Dv n w) (p q : List Bool) (hq : q.length = n) : rem n w 0 (p ++ q) = rem n w 0 (p ++ List.replicate n false) ^^^ val q := by
  rw [rem_app, rem_app]
  have e : q = zx (List.replicate n false) q := by
    unfold zx
    rw [← hq]
    clear hq
    induction q with
    | nil => rfl
    | cons a q ih => rw [List.length_cons, List.replicate_succ, List.zipWith_cons_cons, ← ih]; simp
  have := rem_lin n w (List.replicate n false) q (rem n w 0 p) 0 (by simp [hq])
  rw [← e, Nat.xor_zero] at this
  rw [this, rem_val (l := q) (by omega)]
/-! ### long division -/
def xt (l d : List Bool) : List Bool := zx (l.take d.length) d ++ l.drop d.length
/-- one step: the head goes, the rest is changed where the head stands -/
def dstep (dt : List Bool) : List Bool → List Bool
  | [] => []
  | b :: l => if b then xt l dt else l
def ld (dt : List Bool) : Nat → List Bool → List Bool
  | 0, l => l
  | k + 1, l => ld dt k (dstep dt l)
theorem val_app (l : List Bool) (b : Bool) : val (l ++ [b]) = 2 * val l + b2n b := by unfold val; rw [List.foldl_append]; rfl
theorem fold_val : ∀ (l : List Bool) (s : Nat), l.foldl (fun s b => 2 * s + b2n b) s = s * 2 ^ l.length + val l
  | [], s => by simp [val]
  | b :: l, s => by
    rw [List.foldl_cons, fold_val l]
    have e : val (b :: l) = (b2n b) * 2 ^ l.length + val l := by
      show (b :: l).foldl _ 0 = _
      rw [List.foldl_cons, fold_val l]; simp
    rw [e, List.length_cons, Nat.pow_succ, Nat.add_mul]
    have : 2 * s * 2 ^ l.length = s * (2 ^ l.length * 2) := by rw [Nat.mul_comm 2 s, Nat.mul_assoc, Nat.mul_comm 2]
    omega
theorem val_cons (b : Bool) (l : List Bool) : val (b :: l) = (b2n b) * 2 ^ l.length + val l := by
  show (b :: l).foldl _ 0 = _
  rw [List.foldl_cons, fold_val l]; simp
theorem val_lt : ∀ l : List Bool, val l < 2 ^ l.length
  | [] => by decide
  | b :: l => by
    rw [val_cons, List.length_cons, Nat.pow_succ]
    have := val_lt l
    have hb := b2n_lt b
    have : b2n b * 2 ^ l.length ≤ 1 * 2 ^ l.length := Nat.mul_le_mul_right _ (by omega)
    omega
theorem val_zx : ∀ (l k : List Bool), l.length = k.length → val (zx l k) = val l ^^^ val k := by
  intro l k h
  have key : ∀ (l k : List Bool) (s t : Nat), l.length = k.length → (zx l k).foldl (fun s b => 2 * s + b2n b) (s ^^^ t) = l.foldl (fun s b => 2 * s + b2n b) s ^^^ k.foldl (fun s b => 2 * s + b2n b) t := by
    intro l
    induction l with
    | nil => intro k s t h; cases k with
      | nil => rfl
      | cons _ _ => simp at h
    | cons a l ih =>
      intro k s t h
      cases k with
      | nil => simp at h
      | cons b k =>
        show (zx l k).foldl _ (2 * (s ^^^ t) + b2n (a ^^ b)) = _
        rw [← two_xor, ih k _ _ (by simpa using h)]
        rfl
  exact key l k 0 0 h
theorem zx_len {l k : List Bool} (h : l.length = k.length) : (zx l k).length = l.length := by unfold zx; simp [h]
/-- the divisor: a 1 and its tail -/
theorem rem_ld {n w : Nat} {dt : List Bool} (h : Dv n w) (hd : dt.length = n) (hw : w = val (true :: dt)) : ∀ (r p : List Bool), p.length = n → rem n w (val p) r = val (ld dt r.length (p ++ r))
  | [], p, hp => by simp [rem, ld]
  | b :: r, p, hp => by
    have hn := h.n1
    cases p with
    | nil => simp at hp; omega
    | cons a p' =>
    have hp' : p'.length + 1 = n := by simpa using hp
    have e1 : 2 * val (a :: p') + b2n b = val ((a :: p') ++ [b]) := (val_app _ _).symm
    have e2 : (a :: p') ++ [b] = a :: (p' ++ [b]) := rfl
    have hl : (p' ++ [b]).length = n := by simp [hp']
    have hv := val_lt (p' ++ [b])
    rw [hl] at hv
    have ht : (val (a :: (p' ++ [b]))).testBit n = a := by
      rw [val_cons, hl]
      cases a
      · simp only [b2n, Bool.false_eq_true, if_false, Nat.zero_mul, Nat.zero_add]
        exact Nat.testBit_lt_two_pow hv
      · simp only [b2n, if_true, Nat.one_mul]
        rw [Nat.testBit_two_pow_add_eq, Nat.testBit_lt_two_pow hv]; rfl
    have hs : stepN n w (val (a :: p')) b = val (if a then zx (p' ++ [b]) dt else p' ++ [b]) := by
      unfold stepN
      rw [e1, e2, ht]
      cases a
      · simp only [Bool.false_eq_true, if_false]
        rw [val_cons]; simp [b2n]
      · simp only [if_true]
        rw [hw, ← val_zx _ _ (by simp [hl, hd])]
        show val (zx (true :: (p' ++ [b])) (true :: dt)) = _
        unfold zx
        rw [List.zipWith_cons_cons, val_cons]
        simp [b2n]
    show rem n w (stepN n w (val (a :: p')) b) r = val (ld dt (r.length + 1) (a :: p' ++ b :: r))
    have hq : (if a then zx (p' ++ [b]) dt else p' ++ [b]).length = n := by
      split
      · rw [zx_len (by simp [hl, hd]), hl]
      · exact hl
    rw [hs, rem_ld h hd hw r _ hq]
    congr 1
    show ld dt r.length _ = ld dt r.length (dstep dt (a :: (p' ++ b :: r)))
    congr 1
    have e3 : p' ++ b :: r = (p' ++ [b]) ++ r := by simp
    unfold dstep
    rw [e3]
    cases a
    · rfl
    · simp only [if_true]
      unfold xt
      rw [hd, List.take_left' hl, List.drop_left' hl]
/-- bits of a number -/
def bitsN (n s : Nat) : List Bool := (List.range n).map fun i => s.testBit (n - 1 - i)
theorem val_testBit : ∀ (l : List Bool) (i : Nat) (h : i < l.length), (val l).testBit (l.length - 1 - i) = l[i] := by
  intro l
  induction l with
  | nil => intro i h; simp at h
  | cons b l ih =>
    intro i h
    rw [val_cons]
    cases i with
    | zero =>
      rw [List.length_cons, show l.length + 1 - 1 - 0 = l.length by omega]
      have hv := val_lt l
      cases b
      · simp only [b2n, Bool.false_eq_true, if_false, Nat.zero_mul, Nat.zero_add]
        exact Nat.testBit_lt_two_pow hv
      · simp only [b2n, if_true, Nat.one_mul]
        rw [Nat.testBit_two_pow_add_eq, Nat.testBit_lt_two_pow hv]; rfl
    | succ i =>
      rw [List.length_cons] at h ⊢
      have hi : i < l.length := by omega
      rw [show l.length + 1 - 1 - (i + 1) = l.length - 1 - i by omega]
      rw [List.getElem_cons_succ, ← ih i hi]
      have hlt : l.length - 1 - i < l.length := by omega
      cases b
      · simp [b2n]
      · simp only [b2n, if_true, Nat.one_mul]
        rw [Nat.testBit_two_pow_add_gt hlt]
theorem bitsN_val (l : List Bool) : bitsN l.length (val l) = l := by
  refine List.ext_getElem (by simp [bitsN]) fun i h1 h2 => ?_
  simp only [bitsN, List.getElem_map, List.getElem_range]
  exact val_testBit l i (by simpa using h2)
theorem bitsN_len (n s : Nat) : (bitsN n s).length = n := by simp [bitsN]
theorem val_bitsN {n s : Nat} (h : s < 2 ^ n) : val (bitsN n s) = s := by
  apply Nat.eq_of_testBit_eq
  intro j
  by_cases hj : j < n
  · have hi : n - 1 - j < (bitsN n s).length := by rw [bitsN_len]; omega
    have := val_testBit (bitsN n s) (n - 1 - j) hi
    rw [show (bitsN n s).length - 1 - (n - 1 - j) = j by rw [bitsN_len]; omega] at this
    rw [this]
    simp only [bitsN, List.getElem_map, List.getElem_range]
    rw [show n - 1 - (n - 1 - j) = j by omega]
  · have h1 := val_lt (bitsN n s)
    rw [bitsN_len] at h1
    rw [Nat.testBit_lt_two_pow (Nat.lt_of_lt_of_le h1 (Nat.pow_le_pow_right (by decide) (by omega))), Nat.testBit_lt_two_pow (Nat.lt_of_lt_of_le h (Nat.pow_le_pow_right (by decide) (by omega)))]
def restB (n w : Nat) (p : List Bool) : List Bool := bitsN n (rem n w 0 (p ++ List.replicate n false))
theorem xor_eq_zero {a b : Nat} : a ^^^ b = 0 ↔ a = b := by
  constructor
  · intro h
    have := congrArg (· ^^^ b) h
    simpa [Nat.xor_assoc] using this
  · rintro rfl; exact Nat.xor_self _
theorem whole_iff {n w : Nat} (h : Dv n w) {l : List Bool} (hl : n ≤ l.length) : l.take (l.length - n) ++ restB n w (l.take (l.length - n)) = l ↔ rem n w 0 l = 0 := by
  have hq : (l.drop (l.length - n)).length = n := by rw [List.length_drop]; omega
  have e : l = l.take (l.length - n) ++ l.drop (l.length - n) := (List.take_append_drop _ _).symm
  have hR := rem_lt h (l.take (l.length - n) ++ List.replicate n false) 0 (Nat.pow_pos (by decide))
  have h1 : rem n w 0 l = rem n w 0 (l.take (l.length - n) ++ List.replicate n false) ^^^ val (l.drop (l.length - n)) := by
    conv => lhs; rw [e]
    exact rem_tail h _ _ hq
  rw [h1, xor_eq_zero]
  constructor
  · intro z
    have : restB n w (l.take (l.length - n)) = l.drop (l.length - n) := by
      have z2 := z.trans e
      exact List.append_cancel_left z2
    rw [← this]
    exact (val_bitsN hR).symm
  · intro z
    conv => rhs; rw [e]
    congr 1
    unfold restB
    rw [z]
    have := bitsN_val (l.drop (l.length - n))
    rw [hq] at this
    exact this
theorem rem_rep {n w : Nat} (h : Dv n w) (i : Nat) : rem n w 0 (List.replicate i false) = 0 := tw_zero h i
theorem step_one {n w : Nat} (h : Dv n w) : stepN n w 0 true = 1 := by
  unfold stepN
  have : (2 * 0 + b2n true).testBit n = false := Nat.testBit_lt_two_pow (by
    have : 2 ^ 1 ≤ 2 ^ n := Nat.pow_le_pow_right (by decide) h.n1
    have e : 2 * 0 + b2n true = 1 := rfl
    omega)
  rw [this]; rfl
/-- one turned -/
def turn (l : List Bool) (i : Nat) : List Bool := l.set i (!(l.getD i false))
theorem turn_len (l : List Bool) (i : Nat) : (turn l i).length = l.length := by simp [turn]
theorem turn_zx {l : List Bool} {i : Nat} (hi : i < l.length) : turn l i = zx l (List.replicate i false ++ true :: List.replicate (l.length - 1 - i) false) := by
  unfold turn zx
  refine List.ext_getElem ?_ fun k h1 h2 => ?_
  · simp; omega
  · rw [List.getElem_set, List.getElem_zipWith]
    have hk : k < l.length := by simpa using h1
    by_cases e : i = k
    · subst e
      rw [if_pos rfl, List.getElem_append_right (by simp)]
      simp [hi]
    · rw [if_neg e]
      have : (List.replicate i false ++ true :: List.replicate (l.length - 1 - i) false)[k]'(by simp; omega) = false := by
        by_cases hlt : k < i
        · rw [List.getElem_append_left (by simpa using hlt)]; simp
        · rw [List.getElem_append_right (by simp; omega)]
          simp only [List.length_replicate]
          obtain ⟨m, hm⟩ : ∃ m, k - i = m + 1 := ⟨k - i - 1, by omega⟩
          simp [hm]
      rw [this]; simp
theorem rem_turn {n w : Nat} (h : Dv n w) {l : List Bool} {i : Nat} (hi : i < l.length) : rem n w 0 (turn l i) = rem n w 0 l ^^^ tw n w (l.length - 1 - i) 1 := by
  rw [turn_zx hi]
  have := rem_lin n w l (List.replicate i false ++ true :: List.replicate (l.length - 1 - i) false) 0 0 (by simp; omega)
  rw [Nat.xor_zero] at this
  rw [this, rem_app, rem_rep h]
  congr 1
  show rem n w (stepN n w 0 true) _ = _
  rw [step_one h]; rfl
theorem turned_ne {n w : Nat} (h : Dv n w) {l : List Bool} {i : Nat} (hi : i < l.length) (h0 : rem n w 0 l = 0) : rem n w 0 (turn l i) ≠ 0 := by
  rw [rem_turn h hi, h0, Nat.zero_xor]
  exact tw_ne h _ 1 (by decide)
theorem pair_iff {n w : Nat} (h : Dv n w) {l : List Bool} {i far : Nat} (hf : 0 < far) (hi : i + far < l.length) (h0 : rem n w 0 l = 0) : rem n w 0 (turn (turn l i) (i + far)) = 0 ↔ tw n w far 1 = 1 := by
  rw [rem_turn h (by rw [turn_len]; exact hi), rem_turn h (by omega), h0, Nat.zero_xor, turn_len]
  have e : l.length - 1 - i = far + (l.length - 1 - (i + far)) := by omega
  rw [e, tw_add, ← tw_lin]
  constructor
  · intro z
    by_cases hz : tw n w far 1 ^^^ 1 = 0
    · exact xor_eq_zero.mp hz
    · exact absurd z (tw_ne h _ _ hz)
  · intro z
    rw [z, Nat.xor_self, tw_zero h]
/-- the first turn -/
structure Per (n w p : Nat) : Prop where
  pos : 1 ≤ p
  one : tw n w p 1 = 1
  min : ∀ m, 1 ≤ m → m < p → tw n w m 1 ≠ 1
theorem Per.iff {n w p : Nat} (h : Per n w p) (far : Nat) : tw n w far 1 = 1 ↔ far % p = 0 := by
  have hm : ∀ q : Nat, tw n w (p * q) 1 = 1 := by
    intro q
    induction q with
    | zero => rfl
    | succ q ih => rw [Nat.mul_succ, tw_add, ih, h.one]
  have e : far = p * (far / p) + far % p := (Nat.div_add_mod far p).symm
  have e2 : tw n w far 1 = tw n w (far % p) 1 := by
    conv => lhs; rw [e, tw_add, hm]
  rw [e2]
  constructor
  · intro z
    by_cases h0 : far % p = 0
    · exact h0
    · exact absurd z (h.min _ (by omega) (Nat.mod_lt _ h.pos))
  · intro z; rw [z]; rfl
theorem unit_iff {n w : Nat} (h : Dv n w) {m : Nat} (hm : 1 ≤ m) : restB n w (true :: List.replicate (m - 1) false ++ [true]) = List.replicate n false ↔ tw n w m 1 = 1 := by
  have e1 : rem n w 0 (true :: List.replicate (m - 1) false ++ [true]) = tw n w m 1 ^^^ 1 := by
    rw [rem_app]
    show stepN n w (rem n w (stepN n w 0 true) (List.replicate (m - 1) false)) true = _
    rw [step_one h]
    have := step_lin n w (tw n w (m - 1) 1) 0 false true
    rw [Nat.xor_zero, step_one h] at this
    have e : tw n w m 1 = stepN n w (tw n w (m - 1) 1) false := by
      conv => lhs; rw [show m = (m - 1) + 1 by omega, tw_add]
      rfl
    rw [e]
    exact this
  unfold restB
  rw [rem_app, e1]
  have hlt := rem_lt h (List.replicate n false) (tw n w m 1 ^^^ 1) (Nat.xor_lt_two_pow (rem_lt h _ 1 (by
    have : 2 ^ 1 ≤ 2 ^ n := Nat.pow_le_pow_right (by decide) h.n1
    omega)) (by
    have : 2 ^ 1 ≤ 2 ^ n := Nat.pow_le_pow_right (by decide) h.n1
    omega))
  have hz : val (List.replicate n false) = 0 := by
    have := rem_val (n := n) (w := w) (l := List.replicate n false) (by simp)
    rw [rem_rep h] at this
    exact this.symm
  constructor
  · intro z
    have := val_bitsN hlt
    rw [z, hz] at this
    by_cases hne : tw n w m 1 ^^^ 1 = 0
    · exact xor_eq_zero.mp hne
    · exact absurd this.symm (tw_ne h n _ hne)
  · intro z
    rw [z, Nat.xor_self]
    rw [show rem n w 0 (List.replicate n false) = 0 from rem_rep h n]
    have := bitsN_val (List.replicate n false)
    rw [List.length_replicate, hz] at this
    exact this
/-! ### places that differ -/
def hm : List Bool → List Bool → Nat
  | a :: l, b :: k => (if a != b then 1 else 0) + hm l k
  | _, _ => 0
theorem hm_self : ∀ l : List Bool, hm l l = 0
  | [] => rfl
  | a :: l => by simp [hm, hm_self l]
theorem hm_comm : ∀ l k : List Bool, hm l k = hm k l
  | [], [] => rfl
  | [], _ :: _ => rfl
  | _ :: _, [] => rfl
  | a :: l, b :: k => by simp only [hm, hm_comm l k, bne_comm]
theorem hm_zero : ∀ {l k : List Bool}, l.length = k.length → hm l k = 0 → l = k
  | [], [], _, _ => rfl
  | a :: l, b :: k, h, z => by
    simp only [hm] at z
    have h1 : (a != b) = false := by
      cases e : (a != b)
      · rfl
      · rw [e] at z; simp at z
    have h2 : hm l k = 0 := by rw [h1] at z; simpa using z
    rw [hm_zero (by simpa using h) h2]
    have : a = b := by simpa using h1
    rw [this]
  | [], _ :: _, h, _ => by simp at h
  | _ :: _, [], h, _ => by simp at h
theorem hm_tri : ∀ {a b c : List Bool}, a.length = b.length → b.length = c.length → hm a c ≤ hm a b + hm b c
  | [], [], [], _, _ => by simp [hm]
  | x :: a, y :: b, z :: c, h1, h2 => by
    have := hm_tri (a := a) (b := b) (c := c) (by simpa using h1) (by simpa using h2)
    simp only [hm]
    have : (if (x != z) = true then 1 else 0) ≤ (if (x != y) = true then 1 else 0) + (if (y != z) = true then 1 else 0) := by
      cases x <;> cases y <;> cases z <;> decide
    omega
  | [], [], _ :: _, _, h => by simp at h
  | [], _ :: _, _, h, _ => by simp at h
  | _ :: _, [], _, h, _ => by simp at h
  | _ :: _, _ :: _, [], _, h => by simp at h
end K23

-- DM
set_option Elab.async false
set_option linter.all false
set_option maxRecDepth 100000
/-! Mirrors: what they come to, in plain Lean. -/
namespace DL
open PySem PySem.Spec L2
/-! ### evaluation -/
theorem atI_nat {α : Type} {xs : List α} {k : Nat} : atI xs (k : Int) = xs[k]? := by
  unfold atI ixN
  by_cases h : k < xs.length
  · have h1 : (0 : Int) ≤ k ∧ (k : Int) < xs.length := ⟨by omega, by exact_mod_cast h⟩
    simp [h1]
  · rw [List.getElem?_eq_none (by omega)]
    have h1 : ¬ ((0 : Int) ≤ k ∧ (k : Int) < xs.length) := fun z => h (by exact_mod_cast z.2)
    have h2 : ¬ (-(xs.length : Int) ≤ k ∧ (k : Int) < 0) := fun z => by omega
    simp [h1, h2]; omega
@[simp] theorem idx_tup0 (a : D) (l : List D) : idxD (.tup (a :: l)) (.int 0) = some a := by
  show atI _ ((0 : Nat) : Int) = _
  rw [atI_nat]; rfl
@[simp] theorem idx_tup1 (a b : D) (l : List D) : idxD (.tup (a :: b :: l)) (.int 1) = some b := by
  show atI _ ((1 : Nat) : Int) = _
  rw [atI_nat]; rfl
@[simp] theorem idx_tup2 (a b c : D) (l : List D) : idxD (.tup (a :: b :: c :: l)) (.int 2) = some c := by
  show atI _ ((2 : Nat) : Int) = _
  rw [atI_nat]; rfl
theorem idx_tup {xs : List D} {k : Nat} {d : D} (h : xs[k]? = some d) : idxD (.tup xs) (.int k) = some d := by
  show atI _ _ = _
  rw [atI_nat, h]
theorem idx_lst {xs : List D} {k : Nat} {d : D} (h : xs[k]? = some d) : idxD (.lst xs) (.int k) = some d := by
  show atI _ _ = _
  rw [atI_nat, h]
theorem idx_str {xs : List Nat} {k : Nat} {d : Nat} (hl : xs.length ≤ sizeLine) (h : xs[k]? = some d) : idxD (.str xs) (.int k) = some (.str [d]) := by
  show (if xs.length ≤ sizeLine then _ else _) = _
  rw [if_pos hl, atI_nat, h]; rfl
@[simp] theorem mul_def {i j : Int} (h : MulOk i j) : mulM (.int i) (.int j) = some (.int (i * j)) := if_pos (chk_of h)
theorem mul_l {i j : Int} (h : -(2 ^ 64) < i) (h2 : i < 2 ^ 64) : mulM (.int i) (.int j) = some (.int (i * j)) := mul_def (.inl ⟨h, h2⟩)
theorem mul_r {i j : Int} (h : -(2 ^ 64) < j) (h2 : j < 2 ^ 64) : mulM (.int i) (.int j) = some (.int (i * j)) := mul_def (.inr (.inl ⟨h, h2⟩))
theorem mul_b {i j : Int} (h : i.natAbs < 2 ^ 60000000) (h2 : j.natAbs < 2 ^ 60000000) : mulM (.int i) (.int j) = some (.int (i * j)) := mul_def (.inr (.inr ⟨small_of _ h (Nat.le_refl _), small_of _ h2 (Nat.le_refl _)⟩))
@[simp] theorem add_int (i j : Int) : addD (.int i) (.int j) = some (.int (i + j)) := rfl
@[simp] theorem iadd_int (i j : Int) : iaddD (.int i) (.int j) = some (.int (i + j)) := rfl
@[simp] theorem sub_int (i j : Int) : subD (.int i) (.int j) = some (.int (i - j)) := rfl
@[simp] theorem neg_int (i : Int) : negD (.int i) = some (.int (-i)) := rfl
@[simp] theorem abs_int (i : Int) : absD (.int i) = some (.int (i.natAbs : Int)) := rfl
@[simp] theorem int_int (i : Int) : intD (.int i) = some (.int i) := rfl
theorem mod_int {i j : Int} (h : 0 < j) : modD (.int i) (.int j) = some (.int (i % j)) := if_pos h
theorem fdiv_int {i j : Int} (h : 0 < j) (h2 : j.natAbs < 2 ^ 9000) : fdivD (.int i) (.int j) = some (.int (i / j)) := if_pos (chk_of ⟨h, h2⟩)
@[simp] theorem lt_int (i j : Int) : ltD (.int i) (.int j) = some (decide (i < j)) := rfl
@[simp] theorem le_int (i j : Int) : leD (.int i) (.int j) = some (decide (i ≤ j)) := rfl
@[simp] theorem gt_int (i j : Int) : gtD (.int i) (.int j) = some (decide (j < i)) := rfl
@[simp] theorem ge_int (i j : Int) : geD (.int i) (.int j) = some (decide (j ≤ i)) := rfl
@[simp] theorem eq_int (i j : Int) : eqD (.int i) (.int j) = some (i == j) := rfl
@[simp] theorem ne_int (i j : Int) : neD (.int i) (.int j) = some (!(i == j)) := rfl
@[simp] theorem eq_str (a b : List Nat) : eqD (.str a) (.str b) = some (a == b) := rfl
@[simp] theorem ne_str (a b : List Nat) : neD (.str a) (.str b) = some (!(a == b)) := rfl
@[simp] theorem tru_bl (b : Bool) : truD (.bl b) = some b := rfl
@[simp] theorem len_lst (xs : List D) : lenD (.lst xs) = some (.int xs.length) := rfl
@[simp] theorem len_tup (xs : List D) : lenD (.tup xs) = some (.int xs.length) := rfl
theorem len_str {s : List Nat} (h : s.length ≤ sizeLine) : lenD (.str s) = some (.int s.length) := if_pos h
@[simp] theorem iter_lst (xs : List D) : iterD (.lst xs) = some xs := rfl
@[simp] theorem iter_tup (xs : List D) : iterD (.tup xs) = some xs := rfl
@[simp] theorem tup_lst (xs : List D) : tupD (.lst xs) = some (.tup xs) := rfl
@[simp] theorem tup_tup (xs : List D) : tupD (.tup xs) = some (.tup xs) := rfl
@[simp] theorem tup2_two {α : Type} (z : α) (a b : D) (k : D → D → α) : tup2 z (.tup [a, b]) k = k a b := rfl
@[simp] theorem tup3_three {α : Type} (z : α) (a b c : D) (k : D → D → D → α) : tup3 z (.tup [a, b, c]) k = k a b c := rfl
@[simp] theorem ofR_ok' {α τ ρ : Type} (a : α) (f : α → O τ ρ) : O.ofR (R.ok a) f = f a := rfl
@[simp] theorem ofR_ex' {α τ ρ : Type} (c : Str) (f : α → O τ ρ) : O.ofR (R.ex c) f = .xc c := rfl
@[simp] theorem seq_nx' {τ ρ τ' : Type} (s : τ) (f : τ → O τ' ρ) : O.seq (.nx s) f = f s := rfl
@[simp] theorem seq_rt' {τ ρ τ' : Type} (d : D) (us : List D) (f : τ → O τ' ρ) : O.seq (.rt d us : O τ ρ) f = .rt d us := rfl
@[simp] theorem seq_xc' {τ ρ τ' : Type} (c : Str) (f : τ → O τ' ρ) : O.seq (.xc c : O τ ρ) f = .xc c := rfl
@[simp] theorem toR_nx {τ ρ : Type} (s : τ) : (O.nx s : O τ ρ).toR = .ok .non := rfl
@[simp] theorem toR_rt {τ ρ : Type} (d : D) (us : List D) : (O.rt d us : O τ ρ).toR = .ok d := rfl
@[simp] theorem toR_xc {τ ρ : Type} (c : Str) : (O.xc c : O τ ρ).toR = .ex c := rfl
theorem rng1_nat {n : Nat} (h : n ≤ sizeLine) : rng1 (.int n) = some ((List.range n).map fun k => .int (k : Int)) := by
  have hs : sizeLine < 2 ^ 62 := by decide
  show (if chk _ then _ else _) = _
  rw [if_pos (chk_of ⟨⟨by omega, by omega⟩, by simpa using h⟩)]
  unfold rangeL
  simp
theorem rep_one {n : Nat} {z : D} (h : n ≤ sizeLine) : repL (.lst [z]) (.int n) = some (.lst (List.replicate n z)) := by
  have hs : sizeLine < 2 ^ 62 := by decide
  have h1 : -(2 ^ 63) ≤ (n : Int) := by omega
  have h2 : (n : Int) < 2 ^ 63 := by omega
  have h3 : [z].length * (n : Int).toNat ≤ sizeLine := by rw [List.length_singleton, Nat.one_mul, Int.toNat_natCast]; exact h
  have e : repL (.lst [z]) (.int n) = if -(2 ^ 63) ≤ (n : Int) ∧ (n : Int) < 2 ^ 63 ∧ [z].length * (n : Int).toNat ≤ sizeLine then some (.lst (List.replicate (n : Int).toNat [z]).flatten) else none := by unfold repL; rfl
  rw [e, if_pos ⟨h1, h2, h3⟩, Int.toNat_natCast, List.flatten_replicate_singleton]
/-! .. where the kernel must not compute: rewritten, not reduced -/
theorem bok {α β : Type} (a : α) (f : α → R β) : (R.ok a).bind f = f a := Eq.trans (congrArg (fun z => z.bind f) (Eq.refl (R.ok a))) (Eq.refl (f a))
theorem lok {α : Type} (a : α) : R.lift (some a) = .ok a := Eq.trans (congrArg R.lift (Eq.refl (some a))) (Eq.refl (R.ok a))
theorem ook {α τ ρ : Type} (a : α) (f : α → O τ ρ) : O.ofR (R.ok a) f = f a := Eq.trans (congrArg (fun z => O.ofR z f) (Eq.refl (R.ok a))) (Eq.refl (f a))
/-! ### loops -/
theorem forO_go {σ ρ : Type} (f : D → σ → O σ σ) : ∀ (ds : List D) (S : Nat → σ), (∀ k (h : k < ds.length), f ds[k] (S k) = .nx (S (k + 1))) → (forO ds (S 0) f : O σ ρ) = .nx (S ds.length)
  | [], S, _ => rfl
  | d :: ds, S, h => by
    unfold forO
    have h0 := h 0 (by simp)
    rw [show (d :: ds)[0] = d from rfl] at h0
    rw [h0]
    show forO ds (S 1) f = _
    have := forO_go (ρ := ρ) f ds (fun k => S (k + 1)) fun k hk => by
      have := h (k + 1) (by simpa using hk)
      simpa using this
    simpa using this
/-- a loop over a list's images: the state folds -/
theorem forO_map {σ ρ α : Type} (f : D → σ → O σ σ) (g : α → D) (F : σ → α → σ) : ∀ (l : List α) (s : σ), (∀ a ∈ l, ∀ s, f (g a) s = .nx (F s a)) → (forO (l.map g) s f : O σ ρ) = .nx (l.foldl F s)
  | [], s, _ => rfl
  | a :: l, s, h => by
    rw [List.map_cons]
    unfold forO
    rw [h a List.mem_cons_self s]
    exact forO_map f g F l _ fun b hb s => h b (List.mem_cons_of_mem _ hb) s
/-- .. with what stays true of the state, named by plain data -/
theorem forO_inv {σ ρ α β : Type} (f : D → σ → O σ σ) (g : α → D) (R : β → σ) (F : β → α → β) (I : Nat → β → Prop) (L : Nat) : ∀ (l : List α) (n : Nat) (b : β), n + l.length ≤ L → I n b → (∀ a ∈ l, ∀ n b, n < L → I n b → f (g a) (R b) = .nx (R (F b a)) ∧ I (n + 1) (F b a)) → (forO (l.map g) (R b) f : O σ ρ) = .nx (R (l.foldl F b)) ∧ I (n + l.length) (l.foldl F b)
  | [], n, b, _, h0, _ => ⟨rfl, h0⟩
  | a :: l, n, b, hL, h0, h => by
    rw [List.length_cons] at hL
    obtain ⟨h1, h2⟩ := h a List.mem_cons_self n b (by omega) h0
    rw [List.map_cons]
    unfold forO
    rw [h1]
    have := forO_inv (ρ := ρ) f g R F I L l (n + 1) (F b a) (by omega) h2 fun c hc => h c (List.mem_cons_of_mem _ hc)
    rw [List.length_cons, show n + (l.length + 1) = n + 1 + l.length by omega]
    exact this
theorem compM_map {α β : Type} (f : D → R (Option β)) (g : α → D) (F : α → β) : ∀ (l : List α), (∀ a ∈ l, f (g a) = .ok (some (F a))) → compM (l.map g) f = .ok (l.map F)
  | [], _ => rfl
  | a :: l, h => by
    rw [List.map_cons]
    unfold compM
    rw [h a List.mem_cons_self, compM_map f g F l fun b hb => h b (List.mem_cons_of_mem _ hb)]
    rfl
/-- .. with tests -/
theorem compM_filter {α β : Type} (f : D → R (Option β)) (g : α → D) (F : α → Option β) : ∀ (l : List α), (∀ a ∈ l, f (g a) = .ok (F a)) → compM (l.map g) f = .ok (l.filterMap F)
  | [], _ => rfl
  | a :: l, h => by
    rw [List.map_cons]
    unfold compM
    rw [h a List.mem_cons_self, compM_filter f g F l fun b hb => h b (List.mem_cons_of_mem _ hb)]
    simp only [R.nx_ok, R.bind_ok, List.filterMap_cons]
    cases F a <;> rfl
/-- a loop with a measure -/
theorem whileO_inv {σ ρ : Type} (c : σ → R Bool) (f : σ → O σ σ) (I : σ → Prop) (μ : σ → Nat) (Q : σ → Prop) (h : ∀ s, I s → (c s = .ok false ∧ Q s) ∨ (c s = .ok true ∧ ∃ s', f s = .nx s' ∧ I s' ∧ μ s' < μ s)) : ∀ (n : Nat) (s : σ), I s → μ s < n → ∃ s', (whileO n s c f : O σ ρ) = .nx s' ∧ Q s'
  | 0, s, _, hn => by omega
  | n + 1, s, hI, hn => by
    rcases h s hI with ⟨h1, h2⟩ | ⟨h1, s', h2, h3, h4⟩
    · exact ⟨s, by unfold whileO; rw [h1]; rfl, h2⟩
    · obtain ⟨t, h5, h6⟩ := whileO_inv (ρ := ρ) c f I μ Q h n s' h3 (by omega)
      exact ⟨t, by unfold whileO; rw [h1, h2]; exact h5, h6⟩
theorem while_toR {σ ρ τ' : Type} {c : σ → R Bool} {f : σ → O σ σ} {n : Nat} {s : σ} {g : σ → O τ' ρ} {r : R D} (I : σ → Prop) (μ : σ → Nat) (Q : σ → Prop) (hI : I s) (hn : μ s < n) (h : ∀ s, I s → (c s = .ok false ∧ Q s) ∨ (c s = .ok true ∧ ∃ s', f s = .nx s' ∧ I s' ∧ μ s' < μ s)) (hk : ∀ s, Q s → (g s).toR = r) : ((whileO n s c f : O σ ρ).seq g).toR = r := by
  obtain ⟨s', h1, h2⟩ := whileO_inv (ρ := ρ) c f I μ Q h n s hI hn
  rw [h1]; exact hk s' h2
theorem while_eq {σ ρ τ' : Type} {c : σ → R Bool} {f : σ → O σ σ} {n : Nat} {s : σ} {g : σ → O τ' ρ} {r : O τ' ρ} (I : σ → Prop) (μ : σ → Nat) (Q : σ → Prop) (hI : I s) (hn : μ s < n) (h : ∀ s, I s → (c s = .ok false ∧ Q s) ∨ (c s = .ok true ∧ ∃ s', f s = .nx s' ∧ I s' ∧ μ s' < μ s)) (hk : ∀ s, Q s → g s = r) : ((whileO n s c f : O σ ρ).seq g) = r := by
  obtain ⟨s', h1, h2⟩ := whileO_inv (ρ := ρ) c f I μ Q h n s hI hn
  rw [h1]; exact hk s' h2
theorem for_toR {σ ρ τ' α β : Type} {f : D → σ → O σ σ} {gd : α → D} {l : List α} {s : σ} {g : σ → O τ' ρ} {r : R D} (R : β → σ) (F : β → α → β) (I : Nat → β → Prop) (b : β) (hs : s = R b) (h0 : I 0 b) (h : ∀ a ∈ l, ∀ n b, n < l.length → I n b → f (gd a) (R b) = .nx (R (F b a)) ∧ I (n + 1) (F b a)) (hk : I l.length (l.foldl F b) → (g (R (l.foldl F b))).toR = r) : ((forO (l.map gd) s f : O σ ρ).seq g).toR = r := by
  obtain ⟨h1, h2⟩ := forO_inv (ρ := ρ) f gd R F I l.length l 0 b (by omega) h0 h
  rw [hs, h1]; exact hk (by simpa using h2)
theorem for_eq {σ ρ τ' α β : Type} {f : D → σ → O σ σ} {gd : α → D} {l : List α} {s : σ} {g : σ → O τ' ρ} {r : O τ' ρ} (R : β → σ) (F : β → α → β) (I : Nat → β → Prop) (b : β) (hs : s = R b) (h0 : I 0 b) (h : ∀ a ∈ l, ∀ n b, n < l.length → I n b → f (gd a) (R b) = .nx (R (F b a)) ∧ I (n + 1) (F b a)) (hk : I l.length (l.foldl F b) → g (R (l.foldl F b)) = r) : ((forO (l.map gd) s f : O σ ρ).seq g) = r := by
  obtain ⟨h1, h2⟩ := forO_inv (ρ := ρ) f gd R F I l.length l 0 b (by omega) h0 h
  rw [hs, h1]; exact hk (by simpa using h2)
/-- .. by places: the state before the k-th turn -/
theorem forR_toR {σ ρ τ' : Type} {f : D → σ → O σ σ} {ds : List D} {s : σ} {g : σ → O τ' ρ} {r : R D} (S : Nat → σ) (hs : s = S 0) (h : ∀ k (h : k < ds.length), f ds[k] (S k) = .nx (S (k + 1))) (hk : (g (S ds.length)).toR = r) : ((forO ds s f : O σ ρ).seq g).toR = r := by
  rw [hs, forO_go f ds S h]; exact hk
theorem forR_eq {σ ρ τ' : Type} {f : D → σ → O σ σ} {ds : List D} {s : σ} {g : σ → O τ' ρ} {r : O τ' ρ} (S : Nat → σ) (hs : s = S 0) (h : ∀ k (h : k < ds.length), f ds[k] (S k) = .nx (S (k + 1))) (hk : g (S ds.length) = r) : ((forO ds s f : O σ ρ).seq g) = r := by
  rw [hs, forO_go f ds S h]; exact hk
theorem zip_map {α : Type} (f g : α → D) (l : List α) : zipL (l.map f) (l.map g) = l.map fun a => .tup [f a, g a] := by
  induction l with
  | nil => rfl
  | cons a l ih => simp only [List.map_cons, zipL, ih]
theorem enum_eq : ∀ (xs : List D) (i : Nat), enumL i xs = (List.range xs.length).map fun k => .tup [.int ((i + k : Nat) : Int), xs.getD k .non]
  | [], i => rfl
  | x :: xs, i => by
    rw [enumL, enum_eq xs (i + 1), List.length_cons, List.range_succ_eq_map, List.map_cons, List.map_map]
    simp only [Function.comp_def, List.getD_cons_succ, List.getD_cons_zero, Nat.add_zero]
    refine congrArg _ (List.map_congr_left fun k _ => ?_)
    rw [show i + 1 + k = i + k.succ by omega]
theorem zip_map2 {α β : Type} (f : α → D) (g : β → D) : ∀ (l : List α) (k : List β), zipL (l.map f) (k.map g) = (l.zip k).map fun p => .tup [f p.1, g p.2]
  | [], _ => by simp [zipL]
  | _ :: _, [] => by simp [zipL]
  | a :: l, b :: k => by simp only [List.map_cons, zipL, List.zip_cons_cons, zip_map2 f g l k]
theorem iter_str {s : List Nat} (h : s.length ≤ sizeLine) : iterD (.str s) = some (s.map fun c => .str [c]) := by
  unfold iterD
  first | rw [if_pos h] | simp [h]
theorem zipD_some {x y : D} {xs ys : List D} (hx : iterD x = some xs) (hy : iterD y = some ys) (h : (zipL xs ys).length ≤ sizeLine) : zipD x y = some (zipL xs ys) := by
  unfold zipD lined
  rw [hx, hy]
  exact if_pos h
theorem enumD_some {x : D} {xs : List D} (hx : iterD x = some xs) (h : xs.length ≤ sizeLine) : enumD x = some (enumL 0 xs) := by
  unfold enumD lined
  rw [hx]
  have : (enumL 0 xs).length = xs.length := by rw [enum_eq]; simp
  exact if_pos (by rw [this]; exact h)
theorem enumL_get2 {xs : List D} {k : Nat} (h : k < (enumL 0 xs).length) (h2 : k < xs.length) : (enumL 0 xs)[k] = .tup [.int (k : Int), xs[k]] := by
  have e := enum_eq xs 0
  have : (enumL 0 xs)[k]? = some (.tup [.int (k : Int), xs[k]]) := by
    rw [e, List.getElem?_map, List.getElem?_range h2]
    simp [h2]
  rw [List.getElem?_eq_getElem h] at this
  exact Option.some.inj this
theorem enumL_len2 (xs : List D) : (enumL 0 xs).length = xs.length := by rw [enum_eq]; simp
theorem blsOf_map2 (l : List Bool) : blsOf (l.map D.bl) = some l := by
  induction l with
  | nil => rfl
  | cons x l ih => simp [blsOf, ih]
theorem all_map {α : Type} (l : List α) (f : α → Bool) : allD (.lst (l.map fun a => D.bl (f a))) = some (.bl (l.all f)) := by
  have : (l.map fun a => D.bl (f a)) = (l.map f).map D.bl := by simp
  rw [this]
  show ((some ((l.map f).map D.bl)).bind blsOf).map _ = _
  simp only [Option.bind_some, blsOf_map2, Option.map_some]
  simp
theorem eqvs_map {α : Type} (f : α → D) (g : α → D) (h : ∀ a, eqv (f a) (g a) = true) : ∀ l : List α, eqvs (l.map f) (l.map g) = true
  | [] => rfl
  | a :: l => by simp [eqvs, h a, eqvs_map f g h l]
mutual
theorem eqv_self : ∀ d : D, shal 60 d = true ∨ (∃ n, shal n d = true) → eqv d d = true
  | .non, _ => rfl
  | .bl b, _ => by simp [eqv]
  | .int i, _ => by simp [eqv]
  | .str s, _ => by simp [eqv]
  | .tup xs, h => by
    have : ∃ n, shals n xs = true := by
      rcases h with h | ⟨n, h⟩
      · exact ⟨59, h⟩
      · cases n with
        | zero => cases h
        | succ n => exact ⟨n, h⟩
    simp [eqv, eqvs_self xs this]
  | .lst xs, h => by
    have : ∃ n, shals n xs = true := by
      rcases h with h | ⟨n, h⟩
      · exact ⟨59, h⟩
      · cases n with
        | zero => cases h
        | succ n => exact ⟨n, h⟩
    simp [eqv, eqvs_self xs this]
  | .dic _, h => by rcases h with h | ⟨n, h⟩ <;> first | cases h | (cases n <;> cases h)
  | .ins _ _, h => by rcases h with h | ⟨n, h⟩ <;> first | cases h | (cases n <;> cases h)
  | .tape, h => by rcases h with h | ⟨n, h⟩ <;> first | cases h | (cases n <;> cases h)
theorem eqvs_self : ∀ xs : List D, (∃ n, shals n xs = true) → eqvs xs xs = true
  | [], _ => rfl
  | x :: xs, ⟨n, h⟩ => by
    have h' : shal n x = true ∧ shals n xs = true := by
      cases n <;> simpa [shals] using h
    simp [eqvs, eqv_self x (.inr ⟨n, h'.1⟩), eqvs_self xs ⟨n, h'.2⟩]
end
theorem ne_self {d : D} (h : shal 60 d = true) : neD d d = some false := by
  unfold neD eqD
  rw [h, eqv_self d (.inl h)]; rfl
theorem eq_self {d : D} (h : shal 60 d = true) : eqD d d = some true := by
  unfold eqD
  rw [h, eqv_self d (.inl h)]; rfl
theorem shals_map {α : Type} (n : Nat) (f : α → D) (h : ∀ a, shal n (f a) = true) : ∀ l : List α, shals n (l.map f) = true
  | [] => by cases n <;> rfl
  | a :: l => by
    have := shals_map n f h l
    cases n <;> simp [shals, h a, this]
/-! ### what draws -/
theorem bind_N {α β : Type} (m : N (R α)) (f : α → N (R β)) (P : R β → Prop) : N.bind m f P = m fun r => match r with | .ok a => f a P | .ex c => P (.ex c) | .st => False := rfl
theorem ofR_N {α τ ρ : Type} (m : N (R α)) (f : α → N (O τ ρ)) (P : O τ ρ → Prop) : N.ofR m f P = m fun r => match r with | .ok a => f a P | .ex c => P (.xc c) | .st => False := rfl
theorem seq_N {τ ρ τ' : Type} (m : N (O τ ρ)) (f : τ → N (O τ' ρ)) (P : O τ' ρ → Prop) : N.seq m f P = m (N.aftP P f) := rfl
@[simp] theorem aft_nx {τ ρ τ' : Type} (P : O τ' ρ → Prop) (f : τ → N (O τ' ρ)) (s : τ) : N.aftP P f (.nx s : O τ ρ) = f s P := rfl
@[simp] theorem aft_rt {τ ρ τ' : Type} (P : O τ' ρ → Prop) (f : τ → N (O τ' ρ)) (d : D) (us : List D) : N.aftP P f (.rt d us : O τ ρ) = P (.rt d us) := rfl
@[simp] theorem aft_xc {τ ρ τ' : Type} (P : O τ' ρ → Prop) (f : τ → N (O τ' ρ)) (c : Str) : N.aftP P f (.xc c : O τ ρ) = P (.xc c) := rfl
theorem nbind {α β : Type} (m : N (R α)) (f : α → N (R β)) (P : R β → Prop) : N.bind m f P = m fun r => match r with | .ok a => f a P | .ex c => P (.ex c) | .st => False := Eq.trans (congrArg (fun z => N.bind z f P) (Eq.refl m)) (Eq.refl _)
theorem nofr {α τ ρ : Type} (m : N (R α)) (f : α → N (O τ ρ)) (P : O τ ρ → Prop) : N.ofR m f P = m fun r => match r with | .ok a => f a P | .ex c => P (.xc c) | .st => False := Eq.trans (congrArg (fun z => N.ofR z f P) (Eq.refl m)) (Eq.refl _)
theorem nseq {τ ρ τ' : Type} (m : N (O τ ρ)) (f : τ → N (O τ' ρ)) (P : O τ' ρ → Prop) : N.seq m f P = m (N.aftP P f) := Eq.trans (congrArg (fun z => N.seq z f P) (Eq.refl m)) (Eq.refl _)
theorem nl {α : Type} (a : α) (P : α → Prop) : N.l a P = P a := Eq.trans (congrArg (fun z => N.l z P) (Eq.refl a)) (Eq.refl _)
theorem nbok {α β : Type} (a : α) (f : α → N (R β)) : N.bind (N.l (.ok a)) f = f a := Eq.trans (congrArg (fun z => N.bind (N.l (.ok z)) f) (Eq.refl a)) (Eq.refl _)
theorem nook {α τ ρ : Type} (a : α) (f : α → N (O τ ρ)) : N.ofR (N.l (.ok a)) f = f a := Eq.trans (congrArg (fun z => N.ofR (N.l (.ok z)) f) (Eq.refl a)) (Eq.refl _)
theorem naftnx {τ ρ τ' : Type} (P : O τ' ρ → Prop) (f : τ → N (O τ' ρ)) (s : τ) : N.aftP P f (.nx s : O τ ρ) = f s P := Eq.trans (congrArg (fun z => N.aftP P f (.nx z : O τ ρ)) (Eq.refl s)) (Eq.refl _)
theorem naftrt {τ ρ τ' : Type} (P : O τ' ρ → Prop) (f : τ → N (O τ' ρ)) (d : D) (us : List D) : N.aftP P f (.rt d us : O τ ρ) = P (.rt d us) := Eq.trans (congrArg (fun z => N.aftP P f (.rt z us : O τ ρ)) (Eq.refl d)) (Eq.refl _)
/-- a loop whose body only goes on -/
theorem forN_inv {σ ρ : Type} (f : D → σ → N (O σ σ)) (P : O σ ρ → Prop) (I : Nat → σ → Prop) (N' : Nat) : ∀ (ds : List D) (n : Nat) (s : σ), I n s → n + ds.length = N' → (∀ k (h : k < ds.length), ∀ s, I (n + k) s → ∀ P' : O σ σ → Prop, (∀ s', I (n + k + 1) s' → P' (.nx s')) → f ds[k] s P') → (∀ s, I N' s → P (.nx s)) → forN ds s f P
  | [], n, s, h0, hn, _, hP => hP s (by rw [show N' = n by simpa using hn.symm]; exact h0)
  | d :: ds, n, s, h0, hn, h, hP => by
    show f d s _
    refine h 0 (by simp) s h0 _ fun s' h1 => ?_
    refine forN_inv f P I N' ds (n + 1) s' h1 (by rw [← hn, List.length_cons]; omega) (fun k hk s hs P' hP' => ?_) hP
    have := h (k + 1) (by simpa using hk) s (by rw [show n + (k + 1) = n + 1 + k by omega]; exact hs) P' (by rw [show n + (k + 1) + 1 = n + 1 + k + 1 by omega]; exact hP')
    simpa using this
/-- .. that keeps no state -/
theorem forN_unit {ρ : Type} (f : D → Unit → N (O Unit Unit)) (P : O Unit ρ → Prop) (ds : List D) (h : ∀ d ∈ ds, ∀ P' : O Unit Unit → Prop, P' (.nx ()) → f d () P') (hP : P (.nx ())) : forN ds () f P :=
  forN_inv f P (fun _ _ => True) ds.length ds 0 () trivial (Nat.zero_add _) (fun k hk s _ P' hP' => h _ (List.getElem_mem hk) P' (hP' () trivial)) fun s _ => hP
/-- items that are drawn -/
theorem compN_all (f : D → N (R (Option D))) (Q : D → Prop) : ∀ (ds : List D) (P : R (List D) → Prop), (∀ d ∈ ds, ∀ P' : R (Option D) → Prop, (∀ y, Q y → P' (.ok (some y))) → f d P') → (∀ ys, ys.length = ds.length → (∀ y ∈ ys, Q y) → P (.ok ys)) → compN ds f P
  | [], P, _, hP => hP [] rfl (by simp)
  | d :: ds, P, h, hP => by
    show f d _
    refine h d List.mem_cons_self _ fun y hy => ?_
    show compN ds f _
    refine compN_all f Q ds _ (fun e he => h e (List.mem_cons_of_mem _ he)) fun ys hl hq => ?_
    refine hP (y :: ys) (by simp [hl]) fun z hz => ?_
    rcases List.mem_cons.mp hz with e | e
    · rw [e]; exact hy
    · exact hq z e
/-- .. as images of plain data -/
theorem compN_map {α : Type} (f : D → N (R (Option D))) (g : α → D) (Q : α → Prop) (ds : List D) (P : R (List D) → Prop) (h : ∀ d ∈ ds, ∀ P' : R (Option D) → Prop, (∀ a, Q a → P' (.ok (some (g a)))) → f d P') (hP : ∀ l : List α, l.length = ds.length → (∀ a ∈ l, Q a) → P (.ok (l.map g))) : compN ds f P := by
  refine compN_all f (fun y => ∃ a, Q a ∧ g a = y) ds P (fun d hd P' hP' => h d hd P' fun a ha => hP' _ ⟨a, ha, rfl⟩) fun ys hl hq => ?_
  have key : ∀ ys : List D, (∀ y ∈ ys, ∃ a, Q a ∧ g a = y) → ∃ l : List α, l.map g = ys ∧ ∀ a ∈ l, Q a := by
    intro ys
    induction ys with
    | nil => exact fun _ => ⟨[], rfl, by simp⟩
    | cons y ys ih =>
      intro h
      obtain ⟨a, ha, e⟩ := h y List.mem_cons_self
      obtain ⟨l, e2, hl⟩ := ih fun z hz => h z (List.mem_cons_of_mem _ hz)
      refine ⟨a :: l, by rw [List.map_cons, e, e2], fun b hb => ?_⟩
      rcases List.mem_cons.mp hb with z | z
      · rw [z]; exact ha
      · exact hl b z
  obtain ⟨l, e, h2⟩ := key ys hq
  subst e
  exact hP l (by simpa using hl) h2
end DL

-- K23A1
set_option Elab.async false
set_option linter.all false
set_option maxRecDepth 100000
set_option maxHeartbeats 4000000
namespace K23
open DL PySem L2
open PyProof.Rows (bitXor_and)
def bc (b : Bool) : Nat := if b then 49 else 48
def bsD (bits : List Bool) : D := .str (bits.map bc)
def b1 (b : Bool) : D := .str [bc b]
theorem szl {n : Nat} (h : n ≤ 1000) : n ≤ sizeLine := Nat.le_trans h (by decide)
theorem len_b {l : List Bool} (h : l.length ≤ 1000) : lenD (bsD l) = some (.int (l.length : Nat)) := by
  unfold bsD; rw [len_str (by rw [List.length_map]; exact szl h), List.length_map]
theorem iter_b {l : List Bool} (h : l.length ≤ 1000) : iterD (bsD l) = some (l.map b1) := by
  unfold bsD; rw [iter_str (by rw [List.length_map]; exact szl h), List.map_map]; rfl
theorem idx_b {l : List Bool} {k : Nat} {b : Bool} (h : l.length ≤ 1000) (hk : l[k]? = some b) : idxD (bsD l) (.int k) = some (b1 b) := by
  unfold bsD; exact idx_str (by rw [List.length_map]; exact szl h) (by rw [List.getElem?_map, hk]; rfl)
theorem add_b {a b : List Bool} (h : a.length + b.length ≤ 1000) : addD (bsD a) (bsD b) = some (bsD (a ++ b)) := by
  show (if (a.map bc).length + (b.map bc).length ≤ sizeLine then _ else _) = _
  rw [if_pos (by simp only [List.length_map]; exact szl h)]
  unfold bsD; rw [List.map_append]
theorem cut_to {α : Type} (l : List α) (k : Nat) : cutL l none (some (k : Int)) = l.take k := by
  unfold cutL
  rw [HT.sIx_none, HT.sIx_nat, List.drop_zero, Nat.sub_zero]
  by_cases h : k ≤ l.length
  · rw [Nat.min_eq_left h]
  · rw [Nat.min_eq_right (by omega), List.take_of_length_le (by omega), List.take_of_length_le (by omega)]
theorem cut_from {α : Type} (l : List α) (k : Nat) : cutL l (some (k : Int)) none = l.drop k := by
  unfold cutL
  rw [HT.sIx_none, HT.sIx_nat]
  by_cases h : k ≤ l.length
  · rw [Nat.min_eq_left h]
    exact List.take_of_length_le (by rw [List.length_drop]; exact Nat.le_refl _)
  · rw [Nat.min_eq_right (by omega), Nat.sub_self, List.take_zero, List.drop_of_length_le (by omega)]
theorem slc_to {l : List Bool} (k : Nat) (h : l.length ≤ 1000) : slcD (bsD l) none (some (k : Int)) = some (bsD (l.take k)) := by
  show (if (l.map bc).length ≤ sizeLine then _ else _) = _
  rw [if_pos (by rw [List.length_map]; exact szl h), cut_to]
  unfold bsD; rw [List.map_take]
theorem slc_from {l : List Bool} (k : Nat) (h : l.length ≤ 1000) : slcD (bsD l) (some (k : Int)) none = some (bsD (l.drop k)) := by
  show (if (l.map bc).length ≤ sizeLine then _ else _) = _
  rw [if_pos (by rw [List.length_map]; exact szl h), cut_from]
  unfold bsD; rw [List.map_drop]
theorem mul_c {b : Bool} {n : Nat} (h : n ≤ 1000) : mulM (b1 b) (.int n) = some (bsD (List.replicate n b)) := by
  have e : mulM (.str [bc b]) (.int n) = if -(2 ^ 63) ≤ (n : Int) ∧ (n : Int) < 2 ^ 63 ∧ [bc b].length * (n : Int).toNat ≤ sizeLine then some (.str (List.replicate (n : Int).toNat [bc b]).flatten) else none := by unfold mulM; rfl
  have h3 : [bc b].length * (n : Int).toNat ≤ sizeLine := by rw [List.length_singleton, Nat.one_mul, Int.toNat_natCast]; exact szl h
  have h1 : -(2 ^ 63) ≤ (n : Int) := by omega
  have h2 : (n : Int) < 2 ^ 63 := by omega
  unfold b1
  rw [e, if_pos ⟨h1, h2, h3⟩]
  unfold bsD
  rw [Int.toNat_natCast, List.flatten_replicate_singleton, List.map_replicate]
theorem int_b (b : Bool) : intD (b1 b) = some (.int (b2n b)) := by
  cases b
  · show (if [48].length ≤ 640 then (PySem.intText? (SS [48])).map D.int else none) = _
    rw [if_pos (by decide), show PySem.intText? (SS [48]) = some 0 by decide +kernel]; rfl
  · show (if [49].length ≤ 640 then (PySem.intText? (SS [49])).map D.int else none) = _
    rw [if_pos (by decide), show PySem.intText? (SS [49]) = some 1 by decide +kernel]; rfl
theorem str_int {r : Int} (h : r.natAbs < 2 ^ 10) : strD (.int r) = some (.str (strI r)) := if_pos (Nat.lt_of_lt_of_le h (Nat.pow_le_pow_right (by decide) (by decide)))
theorem str_b (b : Bool) : strD (.int (b2n b)) = some (b1 b) := by
  cases b
  · rw [str_int (by decide)]; rfl
  · rw [str_int (by decide)]; rfl
theorem strs_b (l : List Bool) : strsOf (l.map b1) = some (l.map fun b => [bc b]) := by
  induction l with
  | nil => rfl
  | cons b l ih => rw [List.map_cons]; show (strsOf (l.map b1)).map _ = _; rw [ih]; rfl
theorem joinL_one : ∀ l : List Bool, TL.joinL [] (l.map fun b => [bc b]) = l.map bc
  | [] => rfl
  | [b] => rfl
  | b :: c :: l => by
    have := joinL_one (c :: l)
    simp only [List.map_cons] at this ⊢
    show [bc b] ++ ([] ++ TL.joinL [] ([bc c] :: l.map fun b => [bc b])) = _
    rw [this]; rfl
theorem join_b {l : List Bool} (h : l.length ≤ 1000) : joinD [] (.lst (l.map b1)) = some (bsD l) := by
  unfold joinD
  rw [show seqOf (.lst (l.map b1)) = some (l.map b1) from rfl, Option.bind_some, strs_b, Option.bind_some, if_pos, joinL_one]
  · rfl
  · have : ((l.map fun b => [bc b]).map (·.length)).sum = l.length := by
      clear h
      induction l with
      | nil => rfl
      | cons b l ih => simp only [List.map_cons, List.sum_cons, List.length_cons, ih, List.length_nil]; omega
    rw [this]
    simp only [List.length_nil, Nat.mul_zero]
    omega
theorem bc_inj {a b : Bool} : bc a = bc b ↔ a = b := by cases a <;> cases b <;> decide
theorem map_inj {a b : List Bool} : a.map bc = b.map bc ↔ a = b := by
  constructor
  · intro h
    exact (List.map_inj_right (fun x y h => bc_inj.mp h)).mp h
  · rintro rfl; rfl
theorem beq_b (a b : List Bool) : (a.map bc == b.map bc) = (a == b) := by
  rw [Bool.eq_iff_iff, beq_iff_eq, beq_iff_eq]; exact map_inj
theorem eq_b (a b : List Bool) : eqD (bsD a) (bsD b) = some (a == b) := by unfold bsD; rw [eq_str, beq_b]
theorem ne_b (a b : List Bool) : neD (bsD a) (bsD b) = some (!(a == b)) := by unfold bsD; rw [ne_str, beq_b]
theorem eq_c (a b : Bool) : eqD (b1 a) (b1 b) = some (a == b) := by cases a <;> cases b <;> rfl
theorem ne_c (a b : Bool) : neD (b1 a) (b1 b) = some (a != b) := by cases a <;> cases b <;> rfl
theorem ne_nat (m n : Nat) : neD (.int m) (.int n) = some (m != n) := by
  rw [ne_int]
  congr 1
  rw [Bool.eq_iff_iff]; simp; omega
theorem eq_nat (m n : Nat) : eqD (.int m) (.int n) = some (m == n) := by
  rw [eq_int]
  congr 1
  rw [Bool.eq_iff_iff]; simp; omega
theorem shl_one {n : Nat} (h : n ≤ 1000) : shlD (.int 1) (.int n) = some (.int ((2 ^ n : Nat) : Int)) := by
  show (if chk (0 ≤ (n : Int) ∧ (n : Int) ≤ 1000000 ∧ Small 1) then _ else _) = _
  rw [if_pos (chk_of ⟨by omega, by omega, small_of 1 (by decide) (by decide)⟩), Int.toNat_natCast, Int.one_mul]
  norm_cast
theorem shr_nat (s n : Nat) : shrD (.int s) (.int n) = some (.int ((s / 2 ^ n : Nat) : Int)) := by
  have e : shrD (.int s) (.int n) = if 0 ≤ (n : Int) then some (.int ((s : Int) / 2 ^ (n : Int).toNat)) else none := rfl
  rw [e, if_pos (by omega), Int.toNat_natCast]
  norm_cast
theorem and_nat (a b : Nat) : andD (.int a) (.int b) = some (.int ((a &&& b : Nat) : Int)) := rfl
theorem add_xor : ∀ a b : Nat, a + b = (a ^^^ b) + 2 * (a &&& b) := by
  intro a
  induction a using Nat.strongRecOn with
  | _ a ih =>
    intro b
    by_cases h : a = 0
    · subst h; simp
    · have := ih (a / 2) (by omega) (b / 2)
      have e1 : (a ^^^ b) / 2 = (a / 2) ^^^ (b / 2) := Nat.xor_div_two
      have e2 : (a &&& b) / 2 = (a / 2) &&& (b / 2) := Nat.and_div_two
      have m1 := @Nat.xor_mod_two_eq_one a b
      have m2 := @Nat.and_mod_two_eq_one a b
      generalize hx : a ^^^ b = x at *
      generalize hy : a &&& b = y at *
      rw [← e1, ← e2] at this
      omega
theorem xor_nat (a b : Nat) : xorD (.int a) (.int b) = some (.int ((a ^^^ b : Nat) : Int)) := by
  show some (D.int (Builtin.bitXor a b)) = _
  rw [bitXor_and]
  have := add_xor a b
  have e : Builtin.bitAnd (a : Int) (b : Int) = ((a &&& b : Nat) : Int) := rfl
  rw [e]
  congr 2
  omega
theorem in_b (b : Bool) : inD (b1 b) (.str [48, 49]) = some true := by cases b <;> rfl
theorem M_isb {l : List Bool} (h : l.length ≤ 1000) : M_is_bits [bsD l] = .ok (.bl true) := by
  show (B_is_bits _).toR = _
  unfold B_is_bits
  simp only [nbind, nofr, nseq, nl, nbok, nook, naftnx, naftrt, bok, lok, ook, lstK_lst, lst2_two, tup2_two, Bool.false_eq_true, if_false, if_true, Bool.not_true, Bool.not_false, iter_b h]
  rw [compM_map (g := b1) (F := fun _ => D.bl true) _ _ fun b _ => by simp only [nbind, nofr, nseq, nl, nbok, nook, naftnx, naftrt, bok, lok, ook, lstK_lst, lst2_two, tup2_two, Bool.false_eq_true, if_false, if_true, Bool.not_true, Bool.not_false, in_b]; rfl]
  simp only [nbind, nofr, nseq, nl, nbok, nook, naftnx, naftrt, bok, lok, ook, lstK_lst, lst2_two, tup2_two, Bool.false_eq_true, if_false, if_true, Bool.not_true, Bool.not_false, all_map l fun _ => true]
  simp
theorem M_chk {l : List Bool} (h : l.length ≤ 1000) : M_check_bits [bsD l] = .ok .non := by
  show (B_check_bits _).toR = _
  unfold B_check_bits
  rw [show G_MOST_BITS = .int 100000 from rfl]
  simp only [nbind, nofr, nseq, nl, nbok, nook, naftnx, naftrt, bok, lok, ook, lstK_lst, lst2_two, tup2_two, Bool.false_eq_true, if_false, if_true, Bool.not_true, Bool.not_false, len_b h, gt_int, decide_eq_false (show ¬ (100000 : Int) < l.length by omega), M_isb h, tru_bl]
  rfl
/-- divisors -/
def dvL (t : List Bool) : List Bool := true :: (t ++ [true])
theorem dv_len (t : List Bool) : (dvL t).length = t.length + 2 := by simp [dvL]
theorem M_chkd {t : List Bool} (h : t.length ≤ 5) : M_check_divisor [bsD (dvL t)] = .ok .non := by
  have hl := dv_len t
  have e0 : (dvL t)[0]? = some true := rfl
  have hm : idxD (bsD (dvL t)) (.int (-1)) = some (b1 true) := by
    unfold bsD
    show (if ((dvL t).map bc).length ≤ sizeLine then _ else _) = _
    rw [if_pos (by rw [List.length_map]; exact szl (by omega))]
    unfold atI ixN
    rw [List.length_map, hl, if_neg (by omega), if_pos (by omega)]
    show ((((dvL t).map bc)[(((t.length + 2 : Nat) : Int) + -1).toNat]?).map fun c => D.str [c]) = _
    rw [show (((t.length + 2 : Nat) : Int) + -1).toNat = t.length + 1 by omega, List.getElem?_map]
    rw [show (dvL t)[t.length + 1]? = some true by simp [dvL]]
    rfl
  show (B_check_divisor _).toR = _
  unfold B_check_divisor
  rw [show (D.int 0) = .int ((0 : Nat) : Int) from rfl]
  simp only [nbind, nofr, nseq, nl, nbok, nook, naftnx, naftrt, bok, lok, ook, lstK_lst, lst2_two, tup2_two, Bool.false_eq_true, if_false, if_true, Bool.not_true, Bool.not_false, M_chk (show (dvL t).length ≤ 1000 by omega), len_b (show (dvL t).length ≤ 1000 by omega), le_int, hl, decide_eq_true (show (2 : Int) ≤ ((t.length + 2 : Nat) : Int) by omega), decide_eq_true (show ((t.length + 2 : Nat) : Int) ≤ 17 by omega), idx_b (show (dvL t).length ≤ 1000 by omega) e0, neg_int, hm]
  rw [show D.str [49] = b1 true from rfl]
  simp only [nbind, nofr, nseq, nl, nbok, nook, naftnx, naftrt, bok, lok, ook, lstK_lst, lst2_two, tup2_two, Bool.false_eq_true, if_false, if_true, Bool.not_true, Bool.not_false, ne_c]
  rfl
theorem M_num {l : List Bool} (h : l.length ≤ 1000) : M_number_of [bsD l] = .ok (.int (val l)) := by
  show (B_number_of _).toR = _
  unfold B_number_of
  simp only [nbind, nofr, nseq, nl, nbok, nook, naftnx, naftrt, bok, lok, ook, lstK_lst, lst2_two, tup2_two, Bool.false_eq_true, if_false, if_true, Bool.not_true, Bool.not_false, M_chk h, iter_b h]
  refine for_toR (fun n : Nat => D.int n) (fun s b => 2 * s + b2n b) (fun _ _ => True) 0 rfl trivial (fun b _ n s _ _ => ⟨?_, trivial⟩) fun _ => ?_
  · simp only [nbind, nofr, nseq, nl, nbok, nook, naftnx, naftrt, bok, lok, ook, lstK_lst, lst2_two, tup2_two, Bool.false_eq_true, if_false, if_true, Bool.not_true, Bool.not_false, mul_l (i := 2) (j := (s : Int)) (by decide) (by decide), int_b, add_int]
    norm_cast
  · rfl
theorem M_bits {n s : Nat} (hs : s < 2 ^ n) (hn : n ≤ 20) : M_bits_of [.int s, .int n] = .ok (bsD (bitsN n s)) := by
  have hr : rng3 (.int ((n : Int) - 1)) (.int (-1)) (.int (-1)) = some ((List.range n).map fun k => D.int ((n - 1 - k : Nat) : Int)) := by
    have hg := RgC.neg (i := (n : Int) - 1) (j := -1) (by omega) (by omega) (by omega) (by omega)
    have hz := hg.2.2.2
    rw [show ((n : Int) - 1 - -1).toNat = n by omega] at hg hz
    show (if chk (∃ m : Nat, RgC ((n : Int) - 1) (-1) (-1) m ∧ m ≤ sizeLine) then _ else _) = _
    rw [if_pos (chk_of ⟨n, hg, szl (by omega)⟩), hz, Int.toNat_natCast]
    unfold rangeL
    congr 1
    refine List.map_congr_left fun k hk => ?_
    have := List.mem_range.mp hk
    congr 1
    omega
  show (B_bits_of _ _).toR = _
  unfold B_bits_of
  have h0 : s / 2 ^ n = 0 := Nat.div_eq_of_lt hs
  simp only [nbind, nofr, nseq, nl, nbok, nook, naftnx, naftrt, bok, lok, ook, lstK_lst, lst2_two, tup2_two, Bool.false_eq_true, if_false, if_true, Bool.not_true, Bool.not_false, lt_int, gt_int, decide_eq_false (show ¬ (s : Int) < 0 by omega), decide_eq_false (show ¬ (n : Int) < 0 by omega), shr_nat, h0, sub_int, neg_int, hr, strR_str]
  rw [if_neg (by decide)]
  rw [compM_map (g := fun k => D.int ((n - 1 - k : Nat) : Int)) (F := fun k => b1 (s.testBit (n - 1 - k))) _ _ fun k hk => by
    have e : ((s / 2 ^ (n - 1 - k) : Nat) &&& 1) = b2n (s.testBit (n - 1 - k)) := by
      rw [Nat.testBit_eq_decide_div_mod_eq, Nat.and_one_is_mod]
      have : s / 2 ^ (n - 1 - k) % 2 = 0 ∨ s / 2 ^ (n - 1 - k) % 2 = 1 := by omega
      rcases this with h | h <;> rw [h] <;> rfl
    simp only [nbind, nofr, nseq, nl, nbok, nook, naftnx, naftrt, bok, lok, ook, lstK_lst, lst2_two, tup2_two, Bool.false_eq_true, if_false, if_true, Bool.not_true, Bool.not_false, shr_nat]
    rw [show (D.int 1) = .int ((1 : Nat) : Int) from rfl]
    simp only [nbind, nofr, nseq, nl, nbok, nook, naftnx, naftrt, bok, lok, ook, lstK_lst, lst2_two, tup2_two, Bool.false_eq_true, if_false, if_true, Bool.not_true, Bool.not_false, and_nat, e]
    cases s.testBit (n - 1 - k) <;> rfl]
  simp only [nbind, nofr, nseq, nl, nbok, nook, naftnx, naftrt, bok, lok, ook, lstK_lst, lst2_two, tup2_two, Bool.false_eq_true, if_false, if_true, Bool.not_true, Bool.not_false]
  have := join_b (l := bitsN n s) (by rw [bitsN_len]; omega)
  unfold bitsN at this
  rw [List.map_map] at this
  rw [show (b1 ∘ fun i => s.testBit (n - 1 - i)) = fun k => b1 (s.testBit (n - 1 - k)) from rfl] at this
  simp only [nbind, nofr, nseq, nl, nbok, nook, naftnx, naftrt, bok, lok, ook, lstK_lst, lst2_two, tup2_two, Bool.false_eq_true, if_false, if_true, Bool.not_true, Bool.not_false, this]
  rfl
theorem val_dv (t : List Bool) : Dv (t.length + 1) (val (dvL t)) := by
  have e : val (dvL t) = 2 ^ (t.length + 1) + val (t ++ [true]) := by
    unfold dvL
    rw [val_cons]; simp [b2n]
  have hlt := val_lt (t ++ [true])
  simp only [List.length_append, List.length_singleton] at hlt
  refine ⟨by omega, by omega, by rw [Nat.pow_succ]; omega, ?_⟩
  unfold dvL
  rw [show true :: (t ++ [true]) = (true :: t) ++ [true] from rfl, val_app, two_add]; simp
theorem and_pow (v n : Nat) (h : v < 2 ^ (n + 1)) : truD (.int ((v &&& 2 ^ n : Nat) : Int)) = some (v.testBit n) := by
  show some (((v &&& 2 ^ n : Nat) : Int) != 0) = _
  congr 1
  have e : v &&& 2 ^ n = if v.testBit n then 2 ^ n else 0 := by
    apply Nat.eq_of_testBit_eq
    intro i
    rw [Nat.testBit_and, Nat.testBit_two_pow]
    by_cases hi : n = i
    · subst hi; cases v.testBit n <;> simp
    · split <;> simp [hi, Nat.testBit_two_pow]
  rw [e]
  have := Nat.pow_pos (n := n) (show 0 < 2 by decide)
  cases v.testBit n
  · rfl
  · simp only [if_true]
    rw [bne_iff_ne]
    omega
theorem M_rest {l t : List Bool} (h : l.length ≤ 100) (ht : t.length ≤ 5) : M_rest_of [bsD l, bsD (dvL t)] = .ok (bsD (restB (t.length + 1) (val (dvL t)) l)) := by
  have hd := val_dv t
  have hl := dv_len t
  have hlt : ∀ k : List Bool, rem (t.length + 1) (val (dvL t)) 0 k < 2 ^ (t.length + 1) := fun k => rem_lt hd k 0 (Nat.pow_pos (by decide))
  show (B_rest_of _ _).toR = _
  unfold B_rest_of
  simp only [nbind, nofr, nseq, nl, nbok, nook, naftnx, naftrt, bok, lok, ook, lstK_lst, lst2_two, tup2_two, Bool.false_eq_true, if_false, if_true, Bool.not_true, Bool.not_false, M_chk (show l.length ≤ 1000 by omega), M_chkd ht, len_b (show (dvL t).length ≤ 1000 by omega), sub_int, hl]
  rw [show (((t.length + 2 : Nat) : Int) - 1) = ((t.length + 1 : Nat) : Int) by omega, show D.str [48] = b1 false from rfl]
  simp only [nbind, nofr, nseq, nl, nbok, nook, naftnx, naftrt, bok, lok, ook, lstK_lst, lst2_two, tup2_two, Bool.false_eq_true, if_false, if_true, Bool.not_true, Bool.not_false, shl_one (show t.length + 1 ≤ 1000 by omega), M_num (show (dvL t).length ≤ 1000 by omega), mul_c (show t.length + 1 ≤ 1000 by omega), add_b (show l.length + (List.replicate (t.length + 1) false).length ≤ 1000 by simp; omega), iter_b (show (l ++ List.replicate (t.length + 1) false).length ≤ 1000 by simp; omega)]
  refine for_toR (fun n : Nat => D.int n) (stepN (t.length + 1) (val (dvL t))) (fun _ s => s < 2 ^ (t.length + 1)) 0 rfl (Nat.pow_pos (by decide)) (fun b _ n s _ hs => ⟨?_, step_lt hd hs⟩) fun _ => ?_
  · simp only [nbind, nofr, nseq, nl, nbok, nook, naftnx, naftrt, bok, lok, ook, lstK_lst, lst2_two, tup2_two, Bool.false_eq_true, if_false, if_true, Bool.not_true, Bool.not_false, mul_l (i := 2) (j := (s : Int)) (by decide) (by decide), int_b, add_int]
    rw [show (2 * (s : Int) + (b2n b : Int)) = ((2 * s + b2n b : Nat) : Int) by norm_cast]
    have hb := b2n_lt b
    simp only [nbind, nofr, nseq, nl, nbok, nook, naftnx, naftrt, bok, lok, ook, lstK_lst, lst2_two, tup2_two, Bool.false_eq_true, if_false, if_true, Bool.not_true, Bool.not_false, and_nat, and_pow (2 * s + b2n b) (t.length + 1) (by rw [Nat.pow_succ]; omega), xor_nat]
    unfold stepN
    cases (2 * s + b2n b).testBit (t.length + 1) <;> rfl
  · have := M_bits (hlt (l ++ List.replicate (t.length + 1) false)) (show t.length + 1 ≤ 20 by omega)
    unfold rem at this
    refine Eq.trans (congrArg (fun z => (O.ofR z fun d => O.rt d []).toR) (?_ : _ = R.ok (bsD (bitsN (t.length + 1) (List.foldl (stepN (t.length + 1) (val (dvL t))) 0 (l ++ List.replicate (t.length + 1) false)))))) rfl
    exact this
end K23

-- K23A2
set_option Elab.async false
set_option linter.all false
set_option maxRecDepth 100000
set_option maxHeartbeats 4000000
namespace K23
open DL PySem L2
abbrev NN (t : List Bool) : Nat := t.length + 1
abbrev VV (t : List Bool) : Nat := val (dvL t)
abbrev rs (t l : List Bool) : List Bool := restB (NN t) (VV t) l
theorem rs_len (t l : List Bool) : (rs t l).length = NN t := bitsN_len _ _
theorem M_rst {l t : List Bool} (h : l.length ≤ 100) (ht : t.length ≤ 5) : M_rest_of [bsD l, bsD (dvL t)] = .ok (bsD (rs t l)) := M_rest h ht
theorem M_guard {l t : List Bool} (h : l.length ≤ 100) (ht : t.length ≤ 5) : M_guarded [bsD l, bsD (dvL t)] = .ok (bsD (l ++ rs t l)) := by
  show (B_guarded _ _).toR = _
  unfold B_guarded
  have := rs_len t l
  have hn : NN t = t.length + 1 := rfl
  simp only [nbind, nofr, nseq, nl, nbok, nook, naftnx, naftrt, bok, lok, ook, lstK_lst, lst2_two, tup2_two, Bool.false_eq_true, if_false, if_true, Bool.not_true, Bool.not_false, M_rst h ht, add_b (show l.length + (rs t l).length ≤ 1000 by omega)]
  rfl
def whole (t l : List Bool) : Bool := decide (NN t ≤ l.length) && decide (rem (NN t) (VV t) 0 l = 0)
theorem M_whole {l t : List Bool} (h : l.length ≤ 100) (ht : t.length ≤ 5) : M_is_whole [bsD l, bsD (dvL t)] = .ok (.bl (whole t l)) := by
  have hl := dv_len t
  show (B_is_whole _ _).toR = _
  unfold B_is_whole
  simp only [nbind, nofr, nseq, nl, nbok, nook, naftnx, naftrt, bok, lok, ook, lstK_lst, lst2_two, tup2_two, Bool.false_eq_true, if_false, if_true, Bool.not_true, Bool.not_false, len_b (show l.length ≤ 1000 by omega), len_b (show (dvL t).length ≤ 1000 by omega), sub_int, ge_int, hl, Option.map_some, tru_bl]
  unfold whole
  by_cases hc : NN t ≤ l.length
  · rw [decide_eq_true (show ((t.length + 2 : Nat) : Int) - 1 ≤ (l.length : Int) by have : t.length + 1 ≤ l.length := hc; omega), decide_eq_true hc]
    rw [show ((l.length : Int) - (((t.length + 2 : Nat) : Int) - 1)) = ((l.length - NN t : Nat) : Int) by have : t.length + 1 ≤ l.length := hc; show _ = ((l.length - (t.length + 1) : Nat) : Int); omega]
    simp only [nbind, nofr, nseq, nl, nbok, nook, naftnx, naftrt, bok, lok, ook, lstK_lst, lst2_two, tup2_two, Bool.false_eq_true, if_false, if_true, Bool.not_true, Bool.not_false, intP_int, slc_to (l.length - NN t) (show l.length ≤ 1000 by omega), M_guard (l := l.take (l.length - NN t)) (by rw [List.length_take]; omega) ht, eq_b, Option.map_some]
    rw [toR_rt, Bool.true_and]
    congr 2
    have := whole_iff (val_dv t) hc
    rw [Bool.eq_iff_iff, beq_iff_eq, decide_eq_true_iff]
    exact this
  · rw [decide_eq_false (show ¬ ((t.length + 2 : Nat) : Int) - 1 ≤ (l.length : Int) by have : ¬ t.length + 1 ≤ l.length := hc; omega), decide_eq_false hc]
    rfl
theorem M_unguard {l t : List Bool} (h : l.length ≤ 100) (ht : t.length ≤ 5) : M_unguarded [bsD l, bsD (dvL t)] = if whole t l then .ok (bsD (l.take (l.length - NN t))) else .ex "InvalidBits" := by
  have hl := dv_len t
  show (B_unguarded _ _).toR = _
  unfold B_unguarded
  simp only [nbind, nofr, nseq, nl, nbok, nook, naftnx, naftrt, bok, lok, ook, lstK_lst, lst2_two, tup2_two, Bool.false_eq_true, if_false, if_true, Bool.not_true, Bool.not_false, M_whole h ht, tru_bl]
  cases hw : whole t l
  · rfl
  · have hc : NN t ≤ l.length := by
      unfold whole at hw
      simp only [Bool.and_eq_true, decide_eq_true_iff] at hw
      exact hw.1
    simp only [nbind, nofr, nseq, nl, nbok, nook, naftnx, naftrt, bok, lok, ook, lstK_lst, lst2_two, tup2_two, Bool.false_eq_true, if_false, if_true, Bool.not_true, Bool.not_false, len_b (show l.length ≤ 1000 by omega), len_b (show (dvL t).length ≤ 1000 by omega), sub_int, add_int, hl]
    rw [show ((l.length : Int) - ((t.length + 2 : Nat) : Int) + 1) = ((l.length - NN t : Nat) : Int) by have : t.length + 1 ≤ l.length := hc; show _ = ((l.length - (t.length + 1) : Nat) : Int); omega]
    simp only [nbind, nofr, nseq, nl, nbok, nook, naftnx, naftrt, bok, lok, ook, lstK_lst, lst2_two, tup2_two, Bool.false_eq_true, if_false, if_true, Bool.not_true, Bool.not_false, intP_int, slc_to (l.length - NN t) (show l.length ≤ 1000 by omega)]
    rfl
/-! the first turn -/
def fd (n w : Nat) : Nat → Nat → Bool
  | 0, _ => false
  | k + 1, s => stepN n w s false == 1 || fd n w k (stepN n w s false)
theorem fd_ex {n w : Nat} : ∀ (k s : Nat), fd n w k s = true → ∃ p, 1 ≤ p ∧ p ≤ k ∧ tw n w p s = 1
  | 0, s, h => by cases h
  | k + 1, s, h => by
    unfold fd at h
    rw [Bool.or_eq_true, beq_iff_eq] at h
    rcases h with h | h
    · exact ⟨1, by omega, by omega, h⟩
    · obtain ⟨p, h1, h2, h3⟩ := fd_ex k _ h
      exact ⟨p + 1, by omega, by omega, by rw [tw_succ]; exact h3⟩
theorem fd_all : ∀ k < 6, ∀ v < 2 ^ k, fd (k + 1) (val (dvL (bitsN k v))) 64 1 = true := by decide +kernel
theorem per_ex {t : List Bool} (ht : t.length ≤ 5) : ∃ p, p ≤ 64 ∧ Per (NN t) (VV t) p := by
  have h := fd_all t.length (by omega) (val t) (val_lt t)
  rw [bitsN_val] at h
  obtain ⟨p, h1, h2, h3⟩ := fd_ex _ _ h
  have key : ∀ m, (∃ p, p ≤ m ∧ 1 ≤ p ∧ tw (NN t) (VV t) p 1 = 1) → ∃ p, p ≤ m ∧ Per (NN t) (VV t) p := by
    intro m
    induction m with
    | zero => rintro ⟨p, h1, h2, _⟩; omega
    | succ m ih =>
      rintro ⟨p, h1, h2, h3⟩
      by_cases hm : ∃ p, p ≤ m ∧ 1 ≤ p ∧ tw (NN t) (VV t) p 1 = 1
      · obtain ⟨q, h4, h5⟩ := ih hm
        exact ⟨q, by omega, h5⟩
      · have : p = m + 1 := by
          by_cases hp : p ≤ m
          · exact absurd ⟨p, hp, h2, h3⟩ hm
          · omega
        subst this
        exact ⟨m + 1, by omega, h2, h3, fun q h6 h7 h8 => hm ⟨q, by omega, h6, h8⟩⟩
  exact key 64 ⟨p, h2, h1, h3⟩
theorem whileO_rt {σ ρ : Type} (c : σ → R Bool) (f : σ → O σ σ) (S : Nat → σ) (p : Nat) (d : D) (us : List D) (hc : ∀ k, k ≤ p → c (S k) = .ok true) (hf : ∀ k, k < p → f (S k) = .nx (S (k + 1))) (he : f (S p) = .rt d us) : ∀ (n k : Nat), k ≤ p → p - k < n → (whileO n (S k) c f : O σ ρ) = .rt d us
  | 0, k, _, h => by omega
  | n + 1, k, hk, hn => by
    unfold whileO
    rw [hc k hk]
    by_cases e : k = p
    · subst e
      rw [ook, if_pos rfl, he]
    · rw [ook, if_pos rfl, hf k (by omega)]
      exact whileO_rt c f S p d us hc hf he n (k + 1) (by omega) (by omega)
theorem while_rt {σ τ' : Type} {c : σ → R Bool} {f : σ → O σ σ} {n : Nat} {s : σ} {g : σ → O τ' Unit} {d : D} (S : Nat → σ) (p : Nat) (hs : s = S 0) (hn : p < n) (hc : ∀ k, k ≤ p → c (S k) = .ok true) (hf : ∀ k, k < p → f (S k) = .nx (S (k + 1))) (he : f (S p) = .rt d []) : ((whileO n s c f : O σ Unit).seq g).toR = .ok d := by
  rw [hs, whileO_rt c f S p d [] hc hf he n 0 (by omega) (by omega)]; rfl
theorem tw_last (n w k : Nat) : tw n w (k + 1) 1 = stepN n w (tw n w k 1) false := by
  rw [tw_add]; rfl
theorem M_first {t : List Bool} {p : Nat} (ht : t.length ≤ 5) (hp : Per (NN t) (VV t) p) (hp2 : p ≤ 64) : M_first_turn_of [bsD (dvL t)] = .ok (.int p) := by
  have hd := val_dv t
  have hl := dv_len t
  show (B_first_turn_of _).toR = _
  unfold B_first_turn_of
  simp only [nbind, nofr, nseq, nl, nbok, nook, naftnx, naftrt, bok, lok, ook, lstK_lst, lst2_two, tup2_two, Bool.false_eq_true, if_false, if_true, Bool.not_true, Bool.not_false, M_chkd ht, len_b (show (dvL t).length ≤ 1000 by omega), sub_int, hl]
  rw [show (((t.length + 2 : Nat) : Int) - 1) = ((t.length + 1 : Nat) : Int) by omega]
  simp only [nbind, nofr, nseq, nl, nbok, nook, naftnx, naftrt, bok, lok, ook, lstK_lst, lst2_two, tup2_two, Bool.false_eq_true, if_false, if_true, Bool.not_true, Bool.not_false, shl_one (show t.length + 1 ≤ 1000 by omega), M_num (show (dvL t).length ≤ 1000 by omega)]
  have hpos := hp.pos
  have hstep : ∀ k, stepN (NN t) (VV t) (tw (NN t) (VV t) k 1) false = (if (2 * tw (NN t) (VV t) k 1).testBit (NN t) = true then 2 * tw (NN t) (VV t) k 1 ^^^ VV t else 2 * tw (NN t) (VV t) k 1) := fun k => rfl
  have hn : NN t = t.length + 1 := rfl
  have hN : 2 ^ 1 ≤ 2 ^ (NN t) := Nat.pow_le_pow_right (by decide) (by omega)
  have h1 : 1 < 2 ^ NN t := by omega
  have hlt : ∀ k, tw (NN t) (VV t) k 1 < 2 ^ (NN t) := fun k => rem_lt hd _ 1 h1
  refine while_rt (fun k : Nat => ((D.int k, D.int (tw (NN t) (VV t) k 1)) : D × D)) (p - 1) rfl (by omega) (fun _ _ => rfl) (fun k hk => ?_) ?_
  · have hlk := hlt k
    have hne : tw (NN t) (VV t) (k + 1) 1 ≠ 1 := hp.min (k + 1) (by omega) (by omega)
    rw [tw_last, hstep] at hne
    simp only [nbind, nofr, nseq, nl, nbok, nook, naftnx, naftrt, bok, lok, ook, lstK_lst, lst2_two, tup2_two, Bool.false_eq_true, if_false, if_true, Bool.not_true, Bool.not_false, mul_l (i := 2) (j := ((tw (NN t) (VV t) k 1 : Nat) : Int)) (by decide) (by decide), iadd_int]
    rw [show (2 * ((tw (NN t) (VV t) k 1 : Nat) : Int)) = ((2 * tw (NN t) (VV t) k 1 : Nat) : Int) by norm_cast, show ((k : Int) + 1) = ((k + 1 : Nat) : Int) by norm_cast]
    simp only [nbind, nofr, nseq, nl, nbok, nook, naftnx, naftrt, bok, lok, ook, lstK_lst, lst2_two, tup2_two, Bool.false_eq_true, if_false, if_true, Bool.not_true, Bool.not_false, and_nat, and_pow (2 * tw (NN t) (VV t) k 1) (NN t) (by rw [Nat.pow_succ]; omega), xor_nat]
    rw [tw_last, hstep]
    rw [show (D.int 1) = .int ((1 : Nat) : Int) from rfl]
    cases hb : (2 * tw (NN t) (VV t) k 1).testBit (NN t)
    · rw [hb] at hne
      simp only [nbind, nofr, nseq, nl, nbok, nook, naftnx, naftrt, bok, lok, ook, lstK_lst, lst2_two, tup2_two, Bool.false_eq_true, if_false, if_true, Bool.not_true, Bool.not_false, seq_nx', eq_nat]
      rw [if_neg (by rw [beq_iff_eq]; exact hne)]
    · rw [hb] at hne
      simp only [nbind, nofr, nseq, nl, nbok, nook, naftnx, naftrt, bok, lok, ook, lstK_lst, lst2_two, tup2_two, Bool.false_eq_true, if_false, if_true, Bool.not_true, Bool.not_false, seq_nx', eq_nat]
      rw [if_neg (by rw [beq_iff_eq]; exact hne)]
  · obtain ⟨k, rfl⟩ : ∃ k, p = k + 1 := ⟨p - 1, by omega⟩
    rw [Nat.add_sub_cancel]
    have hlk := hlt k
    have hne : tw (NN t) (VV t) (k + 1) 1 = 1 := hp.one
    rw [tw_last, hstep] at hne
    simp only [nbind, nofr, nseq, nl, nbok, nook, naftnx, naftrt, bok, lok, ook, lstK_lst, lst2_two, tup2_two, Bool.false_eq_true, if_false, if_true, Bool.not_true, Bool.not_false, mul_l (i := 2) (j := ((tw (NN t) (VV t) k 1 : Nat) : Int)) (by decide) (by decide), iadd_int]
    rw [show (2 * ((tw (NN t) (VV t) k 1 : Nat) : Int)) = ((2 * tw (NN t) (VV t) k 1 : Nat) : Int) by norm_cast, show ((k : Int) + 1) = ((k + 1 : Nat) : Int) by norm_cast]
    simp only [nbind, nofr, nseq, nl, nbok, nook, naftnx, naftrt, bok, lok, ook, lstK_lst, lst2_two, tup2_two, Bool.false_eq_true, if_false, if_true, Bool.not_true, Bool.not_false, and_nat, and_pow (2 * tw (NN t) (VV t) k 1) (NN t) (by rw [Nat.pow_succ]; omega), xor_nat]
    rw [show (D.int 1) = .int ((1 : Nat) : Int) from rfl]
    cases hb : (2 * tw (NN t) (VV t) k 1).testBit (NN t)
    · rw [hb] at hne
      simp only [nbind, nofr, nseq, nl, nbok, nook, naftnx, naftrt, bok, lok, ook, lstK_lst, lst2_two, tup2_two, Bool.false_eq_true, if_false, if_true, Bool.not_true, Bool.not_false, seq_nx', eq_nat]
      rw [if_pos (by rw [beq_iff_eq]; exact hne)]
      rfl
    · rw [hb] at hne
      simp only [nbind, nofr, nseq, nl, nbok, nook, naftnx, naftrt, bok, lok, ook, lstK_lst, lst2_two, tup2_two, Bool.false_eq_true, if_false, if_true, Bool.not_true, Bool.not_false, seq_nx', eq_nat]
      rw [if_pos (by rw [beq_iff_eq]; exact hne)]
      rfl
end K23

-- K23A3
set_option Elab.async false
set_option linter.all false
set_option maxRecDepth 100000
set_option maxHeartbeats 4000000
namespace K23
open DL PySem L2
/-! the law's own division -/
def bI (b : Bool) : D := .int (b2n b)
def xr (k j : Nat) (r d : List Bool) : List Bool := (List.range r.length).map fun i => (r.getD i false) ^^ (decide (k ≤ i) && decide (i < k + j) && d.getD (i - k) false)
theorem xr_len (k j : Nat) (r d : List Bool) : (xr k j r d).length = r.length := by simp [xr]
theorem xr_get (k j : Nat) (r d : List Bool) (i : Nat) (h : i < r.length) : (xr k j r d)[i]? = some ((r.getD i false) ^^ (decide (k ≤ i) && decide (i < k + j) && d.getD (i - k) false)) := by
  unfold xr
  rw [List.getElem?_map, List.getElem?_range h]; rfl
theorem xr_zero (k : Nat) (r d : List Bool) : xr k 0 r d = r := by
  refine List.ext_getElem? fun i => ?_
  by_cases h : i < r.length
  · rw [xr_get k 0 r d i h]
    have : (decide (k ≤ i) && decide (i < k + 0)) = false := by
      by_cases h1 : k ≤ i <;> simp [h1]
    rw [this]; simp [h]
  · rw [List.getElem?_eq_none (by rw [xr_len]; omega), List.getElem?_eq_none (by omega)]
theorem xr_succ {k j : Nat} {r d : List Bool} (hk : k + j < r.length) : (xr k j r d).set (k + j) ((r.getD (k + j) false) ^^ d.getD j false) = xr k (j + 1) r d := by
  refine List.ext_getElem? fun i => ?_
  by_cases h : i < r.length
  · rw [xr_get k (j + 1) r d i h]
    by_cases e : k + j = i
    · subst e
      rw [List.getElem?_set_self (by rw [xr_len]; exact h)]
      have h1 : k ≤ k + j := by omega
      have h2 : k + j < k + (j + 1) := by omega
      rw [decide_eq_true h1, decide_eq_true h2, Nat.add_sub_cancel_left]; rfl
    · rw [List.getElem?_set_ne e, xr_get k j r d i h]
      have : decide (i < k + j) = decide (i < k + (j + 1)) := by
        by_cases h1 : i < k + j
        · rw [decide_eq_true h1, decide_eq_true (by omega)]
        · rw [decide_eq_false h1, decide_eq_false (by omega)]
      rw [this]
  · rw [List.getElem?_eq_none (by rw [List.length_set, xr_len]; omega), List.getElem?_eq_none (by rw [xr_len]; omega)]
theorem xr_drop {k : Nat} {r d : List Bool} (hk : k + d.length ≤ r.length) : (xr k d.length r d).drop k = xt (r.drop k) d := by
  refine List.ext_getElem? fun i => ?_
  rw [List.getElem?_drop]
  unfold xt zx
  by_cases h : k + i < r.length
  · rw [xr_get k d.length r d (k + i) h, decide_eq_true (show k ≤ k + i by omega), Nat.add_sub_cancel_left, Bool.true_and]
    by_cases h2 : i < d.length
    · rw [decide_eq_true (show k + i < k + d.length by omega), Bool.true_and, List.getElem?_append_left (by simp; omega)]
      rw [List.getElem?_zipWith]
      rw [List.getElem?_take_of_lt h2, List.getElem?_drop, List.getElem?_eq_getElem h, List.getElem?_eq_getElem h2]
      simp [h, h2]
    · rw [decide_eq_false (show ¬ k + i < k + d.length by omega), Bool.false_and, Bool.xor_false]
      rw [List.getElem?_append_right (by simp; omega)]
      simp only [List.length_zipWith, List.length_take, List.length_drop]
      rw [List.getElem?_drop, List.getElem?_drop, show k + (d.length + (i - min (min d.length (r.length - k)) d.length)) = k + i by omega]
      simp [h]
  · rw [List.getElem?_eq_none (by rw [xr_len]; omega), List.getElem?_eq_none]
    simp; omega
/-- the rows -/
def rw' (d : List Bool) : Nat → List Bool → List Bool
  | 0, r => r
  | k + 1, r => if (rw' d k r).getD k false then xr k d.length (rw' d k r) d else rw' d k r
theorem rw_len (d : List Bool) : ∀ (k : Nat) (r : List Bool), (rw' d k r).length = r.length
  | 0, r => rfl
  | k + 1, r => by
    unfold rw'
    split
    · rw [xr_len, rw_len d k r]
    · exact rw_len d k r
theorem ld_last (dt : List Bool) : ∀ (k : Nat) (l : List Bool), ld dt (k + 1) l = dstep dt (ld dt k l)
  | 0, l => rfl
  | k + 1, l => by
    show ld dt (k + 1) (dstep dt l) = _
    rw [ld_last dt k (dstep dt l)]; rfl
theorem rw_ld (dt : List Bool) : ∀ (k : Nat) (r : List Bool), k + dt.length + 1 ≤ r.length + 1 → (rw' (true :: dt) k r).drop k = ld dt k r
  | 0, r, _ => rfl
  | k + 1, r, h => by
    have ih := rw_ld dt k r (by omega)
    have hl := rw_len (true :: dt) k r
    rw [ld_last, ← ih]
    generalize hR : rw' (true :: dt) k r = R at *
    have hk : k < R.length := by omega
    have e : R.drop k = R[k] :: R.drop (k + 1) := List.drop_eq_getElem_cons hk
    have eg : R.getD k false = R[k] := by simp [hk]
    unfold rw'
    rw [hR, eg, e]
    unfold dstep
    cases hb : R[k]
    · rfl
    · simp only [if_true]
      have h2 := xr_drop (k := k) (r := R) (d := true :: dt) (by simp; omega)
      have h3 : (xr k (true :: dt).length R (true :: dt)).drop (k + 1) = ((xr k (true :: dt).length R (true :: dt)).drop k).drop 1 := by rw [List.drop_drop]
      rw [h3, h2, e]
      unfold xt zx
      rw [List.length_cons, List.take_succ_cons, List.zipWith_cons_cons, List.drop_succ_cons, List.cons_append, List.drop_succ_cons, List.drop_zero]
theorem bI_beq (b : Bool) : eqD (bI b) (.int 1) = some b := by cases b <;> rfl
theorem M_lrest {l t : List Bool} (h : l.length ≤ 100) (ht : t.length ≤ 5) : M__law_rest [bsD l, bsD (dvL t)] = .ok (bsD (rs t l)) := by
  have hd := val_dv t
  have hl := dv_len t
  have hn : NN t = t.length + 1 := rfl
  have h0 : (l ++ List.replicate (t.length + 1) false).length ≤ 1000 := by simp; omega
  have hL : (l ++ List.replicate (t.length + 1) false).length = l.length + (t.length + 1) := by simp
  show (B__law_rest _ _).toR = _
  unfold B__law_rest
  simp only [nbind, nofr, nseq, nl, nbok, nook, naftnx, naftrt, bok, lok, ook, lstK_lst, lst2_two, tup2_two, Bool.false_eq_true, if_false, if_true, Bool.not_true, Bool.not_false, len_b (show (dvL t).length ≤ 1000 by omega), sub_int, hl, len_b (show l.length ≤ 1000 by omega), rng1_nat (szl (show l.length ≤ 1000 by omega))]
  rw [show (((t.length + 2 : Nat) : Int) - 1) = ((t.length + 1 : Nat) : Int) by omega, show D.str [48] = b1 false from rfl]
  simp only [nbind, nofr, nseq, nl, nbok, nook, naftnx, naftrt, bok, lok, ook, lstK_lst, lst2_two, tup2_two, Bool.false_eq_true, if_false, if_true, Bool.not_true, Bool.not_false, mul_c (show t.length + 1 ≤ 1000 by omega), add_b (show l.length + (List.replicate (t.length + 1) false).length ≤ 1000 by simp; omega), iter_b h0]
  rw [compM_map (g := b1) (F := bI) _ _ fun b _ => by simp only [nbind, nofr, nseq, nl, nbok, nook, naftnx, naftrt, bok, lok, ook, lstK_lst, lst2_two, tup2_two, Bool.false_eq_true, if_false, if_true, Bool.not_true, Bool.not_false, int_b]; rfl]
  simp only [nbind, nofr, nseq, nl, nbok, nook, naftnx, naftrt, bok, lok, ook, lstK_lst, lst2_two, tup2_two, Bool.false_eq_true, if_false, if_true, Bool.not_true, Bool.not_false]
  refine forR_toR (fun k => (rw' (dvL t) k (l ++ List.replicate (t.length + 1) false)).map bI) rfl (fun k hk => ?_) ?_
  · rw [List.length_map, List.length_range] at hk
    rw [List.getElem_map, List.getElem_range]
    have hrl := rw_len (dvL t) k (l ++ List.replicate (t.length + 1) false)
    show _ = O.nx (((if (rw' (dvL t) k (l ++ List.replicate (t.length + 1) false)).getD k false then xr k (dvL t).length (rw' (dvL t) k (l ++ List.replicate (t.length + 1) false)) (dvL t) else rw' (dvL t) k (l ++ List.replicate (t.length + 1) false))).map bI)
    generalize rw' (dvL t) k (l ++ List.replicate (t.length + 1) false) = R at *
    have hkR : k < R.length := by omega
    have hg : (R.map bI)[k]? = some (bI (R.getD k false)) := by simp [hkR]
    simp only [nbind, nofr, nseq, nl, nbok, nook, naftnx, naftrt, bok, lok, ook, lstK_lst, lst2_two, tup2_two, Bool.false_eq_true, if_false, if_true, Bool.not_true, Bool.not_false, idx_lst hg, bI_beq]
    cases R.getD k false
    · rfl
    · simp only [if_true]
      simp only [nbind, nofr, nseq, nl, nbok, nook, naftnx, naftrt, bok, lok, ook, lstK_lst, lst2_two, tup2_two, Bool.false_eq_true, if_false, if_true, Bool.not_true, Bool.not_false, rng1_nat (szl (show t.length + 2 ≤ 1000 by omega))]
      rw [forR_eq (fun j => (xr k j R (dvL t)).map bI) (r := O.nx ((xr k (dvL t).length R (dvL t)).map bI)) (by rw [xr_zero]) ?_ ?_]
      · rw [seq_nx']
      · intro j hj
        rw [List.length_map, List.length_range] at hj
        rw [List.getElem_map, List.getElem_range]
        have hkj : k + j < R.length := by omega
        have h1 : ((xr k j R (dvL t)).map bI)[k + j]? = some (bI (R.getD (k + j) false)) := by
          rw [List.getElem?_map, xr_get k j R (dvL t) (k + j) hkj, decide_eq_false (show ¬ k + j < k + j by omega)]
          simp
        have h2 : (dvL t)[j]? = some ((dvL t).getD j false) := by simp [show j < (dvL t).length by omega]
        have hx : ∀ a b : Bool, xorD (bI a) (.int (b2n b)) = some (bI (a ^^ b)) := fun a b => by
          unfold bI; rw [xor_nat, b2n_xor]
        have hs : ∀ z : D, setL ((xr k j R (dvL t)).map bI) (.int ((k + j : Nat) : Int)) z = some (((xr k j R (dvL t)).map bI).set (k + j) z) := fun z => by
          show (ixN _ _).map _ = _
          have : ixN ((xr k j R (dvL t)).map bI).length ((k + j : Nat) : Int) = some (k + j) := by
            unfold ixN
            rw [List.length_map, xr_len, if_pos (show (0 : Int) ≤ ((k + j : Nat) : Int) by omega), if_pos (show ((k + j : Nat) : Int) < (R.length : Int) by omega), Int.toNat_natCast]
          rw [this]; rfl
        simp only [nbind, nofr, nseq, nl, nbok, nook, naftnx, naftrt, bok, lok, ook, lstK_lst, lst2_two, tup2_two, Bool.false_eq_true, if_false, if_true, Bool.not_true, Bool.not_false, add_int]
        rw [show ((k : Int) + (j : Int)) = ((k + j : Nat) : Int) by norm_cast]
        simp only [nbind, nofr, nseq, nl, nbok, nook, naftnx, naftrt, bok, lok, ook, lstK_lst, lst2_two, tup2_two, Bool.false_eq_true, if_false, if_true, Bool.not_true, Bool.not_false, idx_lst h1, idx_b (show (dvL t).length ≤ 1000 by omega) h2, int_b, hx, hs]
        congr 1
        rw [← List.map_set, xr_succ hkj]
      · rw [List.length_map, List.length_range]
        rw [hl]
  · rw [List.length_map, List.length_range]
    have e1 := rw_ld (t ++ [true]) l.length (l ++ List.replicate (t.length + 1) false) (by simp)
    have e2 : restB (t.length + 1) (val (dvL t)) l = ld (t ++ [true]) l.length (l ++ List.replicate (t.length + 1) false) := by
      have hp : ((l ++ List.replicate (t.length + 1) false).take (t.length + 1)).length = t.length + 1 := by rw [List.length_take]; omega
      have hq : ((l ++ List.replicate (t.length + 1) false).drop (t.length + 1)).length = l.length := by rw [List.length_drop]; omega
      have := rem_ld (dt := t ++ [true]) hd (by simp) rfl ((l ++ List.replicate (t.length + 1) false).drop (t.length + 1)) ((l ++ List.replicate (t.length + 1) false).take (t.length + 1)) hp
      rw [List.take_append_drop, hq, ← rem_val (n := t.length + 1) (w := val (dvL t)) (l := (l ++ List.replicate (t.length + 1) false).take (t.length + 1)) (by omega), ← rem_app, List.take_append_drop] at this
      unfold restB
      rw [this]
      have e3 : (ld (t ++ [true]) l.length (l ++ List.replicate (t.length + 1) false)).length = t.length + 1 := by
        rw [← e1, List.length_drop, rw_len, hL]; omega
      have := bitsN_val (ld (t ++ [true]) l.length (l ++ List.replicate (t.length + 1) false))
      rw [e3] at this
      exact this
    have e4 : rw' (dvL t) l.length (l ++ List.replicate (t.length + 1) false) = rw' (true :: (t ++ [true])) l.length (l ++ List.replicate (t.length + 1) false) := rfl
    have e5 : slcD (.lst ((rw' (dvL t) l.length (l ++ List.replicate (t.length + 1) false)).map bI)) (some (l.length : Int)) none = some (.lst ((rs t l).map bI)) := by
      show some (D.lst (cutL _ _ _)) = _
      rw [cut_from, ← List.map_drop, e4, e1, ← e2]
    simp only [nbind, nofr, nseq, nl, nbok, nook, naftnx, naftrt, bok, lok, ook, lstK_lst, lst2_two, tup2_two, Bool.false_eq_true, if_false, if_true, Bool.not_true, Bool.not_false, intP_int, e5, iter_lst, strR_str]
    rw [compM_map (g := bI) (F := b1) _ _ fun b _ => by unfold bI; simp only [nbind, nofr, nseq, nl, nbok, nook, naftnx, naftrt, bok, lok, ook, lstK_lst, lst2_two, tup2_two, Bool.false_eq_true, if_false, if_true, Bool.not_true, Bool.not_false, str_b]; rfl]
    have := rs_len t l
    simp only [nbind, nofr, nseq, nl, nbok, nook, naftnx, naftrt, bok, lok, ook, lstK_lst, lst2_two, tup2_two, Bool.false_eq_true, if_false, if_true, Bool.not_true, Bool.not_false, join_b (l := rs t l) (by omega)]
    rfl
theorem M_lturn {l : List Bool} {i : Nat} (h : l.length ≤ 1000) (hi : i < l.length) : M__law_turn [bsD l, .int i] = .ok (bsD (turn l i)) := by
  show (B__law_turn _ _).toR = _
  unfold B__law_turn
  have hg : l[i]? = some l[i] := List.getElem?_eq_getElem hi
  have hk : ∀ b : Bool, look2 [48] [49] [49] [48] (b1 b) = some (bsD [!b]) := fun b => by cases b <;> rfl
  rw [show (D.int 1) = .int ((1 : Nat) : Int) from rfl]
  simp only [nbind, nofr, nseq, nl, nbok, nook, naftnx, naftrt, bok, lok, ook, lstK_lst, lst2_two, tup2_two, Bool.false_eq_true, if_false, if_true, Bool.not_true, Bool.not_false, intP_int, slc_to i h, idx_b h hg, hk, add_int]
  rw [show ((i : Int) + ((1 : Nat) : Int)) = ((i + 1 : Nat) : Int) by norm_cast]
  simp only [nbind, nofr, nseq, nl, nbok, nook, naftnx, naftrt, bok, lok, ook, lstK_lst, lst2_two, tup2_two, Bool.false_eq_true, if_false, if_true, Bool.not_true, Bool.not_false, intP_int, slc_from (i + 1) h, add_b (a := l.take i) (b := [!l[i]]) (by simp; omega), add_b (a := l.take i ++ [!l[i]]) (b := l.drop (i + 1)) (by simp; omega)]
  rw [toR_rt]
  congr 2
  unfold turn
  rw [List.set_eq_take_append_cons_drop, if_pos hi]
  simp [hi]
theorem far_len : ∀ (a b : List Bool), a.length = b.length → (((List.range a.length).filterMap fun k => if (a.getD k false != b.getD k false) = true then some (D.int k) else none)).length = hm a b
  | [], [], _ => rfl
  | x :: a, y :: b, h => by
    have ih := far_len a b (by simpa using h)
    rw [List.length_cons, List.range_succ_eq_map, List.filterMap_cons, List.filterMap_map]
    have e : ((List.range a.length).filterMap ((fun k => if ((x :: a).getD k false != (y :: b).getD k false) = true then some (D.int (k : Nat)) else none) ∘ Nat.succ)).length = hm a b := by
      rw [← ih]
      have : ∀ l : List Nat, (l.filterMap ((fun k => if ((x :: a).getD k false != (y :: b).getD k false) = true then some (D.int (k : Nat)) else none) ∘ Nat.succ)).length = (l.filterMap fun k => if (a.getD k false != b.getD k false) = true then some (D.int (k : Nat)) else none).length := by
        intro l
        induction l with
        | nil => rfl
        | cons k l ihl =>
          simp only [List.filterMap_cons, Function.comp, List.getD_cons_succ]
          split <;> split <;> simp_all
      exact this _
    simp only [List.getD_cons_zero]
    unfold hm
    cases hx : (x != y)
    · simp only [Bool.false_eq_true, if_false]
      omega
    · simp only [if_true, List.length_cons]
      omega
  | [], _ :: _, h => by simp at h
  | _ :: _, [], h => by simp at h
theorem M_lfar {a b : List Bool} (h : a.length ≤ 1000) (hb : a.length = b.length) : M__law_far [bsD a, bsD b] = .ok (.int (hm a b)) := by
  show (B__law_far _ _).toR = _
  unfold B__law_far
  simp only [nbind, nofr, nseq, nl, nbok, nook, naftnx, naftrt, bok, lok, ook, lstK_lst, lst2_two, tup2_two, Bool.false_eq_true, if_false, if_true, Bool.not_true, Bool.not_false, len_b h, rng1_nat (szl h)]
  rw [compM_filter (g := fun k : Nat => D.int k) (F := fun k => if (a.getD k false != b.getD k false) = true then some (D.int k) else none) _ _ fun k hk => by
    have hk := List.mem_range.mp hk
    have e1 : a[k]? = some (a.getD k false) := by simp [hk]
    have e2 : b[k]? = some (b.getD k false) := by simp [show k < b.length by omega]
    simp only [nbind, nofr, nseq, nl, nbok, nook, naftnx, naftrt, bok, lok, ook, lstK_lst, lst2_two, tup2_two, Bool.false_eq_true, if_false, if_true, Bool.not_true, Bool.not_false, idx_b h e1, idx_b (show b.length ≤ 1000 by omega) e2, ne_c]
    unfold itM
    simp only [nbind, nofr, nseq, nl, nbok, nook, naftnx, naftrt, bok, lok, ook, lstK_lst, lst2_two, tup2_two, Bool.false_eq_true, if_false, if_true, Bool.not_true, Bool.not_false]
    cases (a.getD k false != b.getD k false) <;> rfl]
  simp only [nbind, nofr, nseq, nl, nbok, nook, naftnx, naftrt, bok, lok, ook, lstK_lst, lst2_two, tup2_two, Bool.false_eq_true, if_false, if_true, Bool.not_true, Bool.not_false, len_lst, far_len a b hb]
  rfl
end K23

-- K23A4
set_option Elab.async false
set_option linter.all false
set_option maxRecDepth 100000
set_option maxHeartbeats 4000000
namespace K23
open DL PySem L2
def wsD (ws : List (List Bool)) : D := .lst (ws.map bsD)
structure Ws (ws : List (List Bool)) (size : Nat) : Prop where
  ne : ws ≠ []
  len : ws.length ≤ 64
  sz : ∀ w ∈ ws, w.length = size
  s1 : 1 ≤ size
  s2 : size ≤ 12
  nd : ws.Nodup
theorem Ws.le {ws : List (List Bool)} {size : Nat} (h : Ws ws size) {w : List Bool} (hw : w ∈ ws) : w.length ≤ 1000 := by have := h.sz w hw; have := h.s2; omega
theorem Ws.pos {ws : List (List Bool)} {size : Nat} (h : Ws ws size) : 0 < ws.length := List.length_pos_iff.mpr h.ne
theorem len_w (ws : List (List Bool)) : lenD (wsD ws) = some (.int ws.length) := by unfold wsD; rw [len_lst, List.length_map]
theorem idx_w {ws : List (List Bool)} {k : Nat} {w : List Bool} (h : ws[k]? = some w) : idxD (wsD ws) (.int k) = some (bsD w) := by unfold wsD; exact idx_lst (by rw [List.getElem?_map, h]; rfl)
theorem iter_w (ws : List (List Bool)) : iterD (wsD ws) = some (ws.map bsD) := rfl
theorem strs_w (ws : List (List Bool)) : strsOf (ws.map bsD) = some (ws.map fun w => w.map bc) := by
  induction ws with
  | nil => rfl
  | cons b l ih => rw [List.map_cons]; show (strsOf (l.map bsD)).map _ = _; rw [ih]; rfl
theorem dd_nodup (l : List (List Nat)) (h : l.Nodup) : ddS l = l := by
  have key : ∀ (l acc : List (List Nat)), (acc ++ l).Nodup → l.foldl (fun acc k => if acc.contains k = true then acc else acc ++ [k]) acc = acc ++ l := by
    intro l
    induction l with
    | nil => intro acc _; simp
    | cons k l ih =>
      intro acc h
      rw [List.foldl_cons]
      have hk : ¬ acc.contains k = true := by
        rw [List.contains_iff_mem]
        intro hm
        have := List.nodup_append.mp h
        exact this.2.2 k hm k List.mem_cons_self rfl
      rw [if_neg hk, ih (acc ++ [k]) (by simpa using h)]
      simp
  have := key l [] (by simpa using h)
  simpa [ddS] using this
theorem lenset_w {ws : List (List Bool)} {size : Nat} (h : Ws ws size) : lenSetD (wsD ws) = some (.int ws.length) := by
  unfold lenSetD
  rw [show seqOf (wsD ws) = some (ws.map bsD) from rfl, Option.bind_some, strs_w, Option.bind_some]
  have hl := h.len
  rw [if_pos (by rw [List.length_map]; exact Nat.lt_of_lt_of_le (show ws.length + 1 < 100 by omega) (by decide)), dd_nodup, List.length_map]
  exact List.Pairwise.map _ (fun a b hab z => hab (map_inj.mp z)) h.nd
theorem M_chkw {ws : List (List Bool)} {size : Nat} (h : Ws ws size) : M_check_words [wsD ws] = .ok .non := by
  have hl := h.len
  have hp := h.pos
  have hs := h.s2
  obtain ⟨w0, h0⟩ : ∃ w, ws[0]? = some w := ⟨ws[0], by simp [hp]⟩
  have hw0 : w0 ∈ ws := List.mem_of_getElem? h0
  show (B_check_words _).toR = _
  unfold B_check_words
  rw [show G_MOST_SIZE = .int 12 from rfl, show D.int 0 = .int ((0 : Nat) : Int) from rfl]
  simp only [nbind, nofr, nseq, nl, nbok, nook, naftnx, naftrt, bok, lok, ook, lstK_lst, lst2_two, tup2_two, Bool.false_eq_true, if_false, if_true, Bool.not_true, Bool.not_false, len_w, le_int, decide_eq_true (show (1 : Int) ≤ (ws.length : Int) by omega), decide_eq_true (show (ws.length : Int) ≤ 64 by omega), iter_w, idx_w h0]
  rw [compM_map (g := bsD) (F := fun _ => D.bl true) _ _ fun w hw => by
    have e1 := h.sz w hw
    have e0 := h.sz w0 hw0
    simp only [nbind, nofr, nseq, nl, nbok, nook, naftnx, naftrt, bok, lok, ook, lstK_lst, lst2_two, tup2_two, Bool.false_eq_true, if_false, if_true, Bool.not_true, Bool.not_false, len_b (h.le hw), len_b (h.le hw0), e1, e0, eq_nat, Option.map_some, tru_bl, le_int, decide_eq_true (show (size : Int) ≤ 12 by omega)]
    unfold itM
    simp only [nbind, nofr, nseq, nl, nbok, nook, naftnx, naftrt, bok, lok, ook, lstK_lst, lst2_two, tup2_two, Bool.false_eq_true, if_false, if_true, Bool.not_true, Bool.not_false]
    simp]
  simp only [nbind, nofr, nseq, nl, nbok, nook, naftnx, naftrt, bok, lok, ook, lstK_lst, lst2_two, tup2_two, Bool.false_eq_true, if_false, if_true, Bool.not_true, Bool.not_false, all_map ws fun _ => true, tru_bl]
  rw [show (!ws.all fun _ => true) = false by simp]
  simp only [nbind, nofr, nseq, nl, nbok, nook, naftnx, naftrt, bok, lok, ook, lstK_lst, lst2_two, tup2_two, Bool.false_eq_true, if_false, if_true, Bool.not_true, Bool.not_false]
  rw [forR_eq (fun _ => ()) (r := _) rfl (fun k hk => ?_) rfl]
  · simp only [nbind, nofr, nseq, nl, nbok, nook, naftnx, naftrt, bok, lok, ook, lstK_lst, lst2_two, tup2_two, Bool.false_eq_true, if_false, if_true, Bool.not_true, Bool.not_false, lenset_w h, ne_nat]
    simp
  · rw [List.length_map] at hk
    rw [List.getElem_map]
    simp only [nbind, nofr, nseq, nl, nbok, nook, naftnx, naftrt, bok, lok, ook, lstK_lst, lst2_two, tup2_two, Bool.false_eq_true, if_false, if_true, Bool.not_true, Bool.not_false, M_chk (h.le (List.getElem_mem hk))]
theorem zip_len : ∀ (a b : List Bool), a.length = b.length → ((a.zip b).filterMap fun p => if (p.1 != p.2) = true then some (D.int 1) else none).length = hm a b
  | [], [], _ => rfl
  | x :: a, y :: b, h => by
    have ih := zip_len a b (by simpa using h)
    rw [List.zip_cons_cons, List.filterMap_cons]
    unfold hm
    cases hx : (x != y)
    · simp only [hx, Bool.false_eq_true, if_false]; omega
    · simp only [hx, if_true, List.length_cons]; omega
  | [], _ :: _, h => by simp at h
  | _ :: _, [], h => by simp at h
theorem M_dist {a b : List Bool} (h : a.length ≤ 1000) (hb : a.length = b.length) : M_distance [bsD a, bsD b] = .ok (.int (hm a b)) := by
  have hz : zipD (bsD a) (bsD b) = some ((a.zip b).map fun p => .tup [b1 p.1, b1 p.2]) := by
    rw [zipD_some (iter_b h) (iter_b (show b.length ≤ 1000 by omega)) (by rw [zip_map2, List.length_map, List.length_zip]; exact szl (by omega)), zip_map2]
  show (B_distance _ _).toR = _
  unfold B_distance
  simp only [nbind, nofr, nseq, nl, nbok, nook, naftnx, naftrt, bok, lok, ook, lstK_lst, lst2_two, tup2_two, Bool.false_eq_true, if_false, if_true, Bool.not_true, Bool.not_false, len_b h, len_b (show b.length ≤ 1000 by omega), hb, ne_nat, bne_self_eq_false, hz]
  rw [compM_filter (g := fun p : Bool × Bool => .tup [b1 p.1, b1 p.2]) (F := fun p => if (p.1 != p.2) = true then some (D.int 1) else none) _ _ fun p _ => by
    simp only [nbind, nofr, nseq, nl, nbok, nook, naftnx, naftrt, bok, lok, ook, lstK_lst, lst2_two, tup2_two, Bool.false_eq_true, if_false, if_true, Bool.not_true, Bool.not_false, ne_c]
    unfold itM
    simp only [nbind, nofr, nseq, nl, nbok, nook, naftnx, naftrt, bok, lok, ook, lstK_lst, lst2_two, tup2_two, Bool.false_eq_true, if_false, if_true, Bool.not_true, Bool.not_false]
    cases (p.1 != p.2) <;> rfl]
  simp only [nbind, nofr, nseq, nl, nbok, nook, naftnx, naftrt, bok, lok, ook, lstK_lst, lst2_two, tup2_two, Bool.false_eq_true, if_false, if_true, Bool.not_true, Bool.not_false, len_lst, zip_len a b hb]
  rfl
theorem min_ex : ∀ l : List Nat, l ≠ [] → ∃ m ∈ l, ∀ y ∈ l, m ≤ y
  | [], h => absurd rfl h
  | [a], _ => ⟨a, by simp, by simp⟩
  | a :: b :: l, _ => by
    obtain ⟨m, h1, h2⟩ := min_ex (b :: l) (by simp)
    by_cases h : a ≤ m
    · exact ⟨a, by simp, fun y hy => by
        rcases List.mem_cons.mp hy with e | e
        · omega
        · have := h2 y e; omega⟩
    · exact ⟨m, List.mem_cons_of_mem _ h1, fun y hy => by
        rcases List.mem_cons.mp hy with e | e
        · omega
        · exact h2 y e⟩
structure IsMin (l : List Nat) (m : Nat) : Prop where
  mem : m ∈ l
  le : ∀ y ∈ l, m ≤ y
theorem min_int {l : List Nat} {m : Nat} (h : IsMin l m) : minD (.lst (l.map fun n => D.int (n : Nat))) = some (.int m) := by
  unfold minD
  have e : intsOf (l.map fun n => D.int (n : Nat)) = some (l.map fun n : Nat => (n : Int)) := by
    clear h
    induction l with
    | nil => rfl
    | cons a l ih => rw [List.map_cons]; show (intsOf _).map _ = _; rw [ih]; rfl
  rw [show lstOf (.lst (l.map fun n => D.int (n : Nat))) = some (l.map fun n => D.int (n : Nat)) from rfl, Option.bind_some, e, Option.bind_some, minL_of (m := (m : Int)) (List.mem_map.mpr ⟨m, h.mem, rfl⟩)]
  · rfl
  · intro y hy
    obtain ⟨n, hn, rfl⟩ := List.mem_map.mp hy
    have := h.le n hn
    omega
/-- rows of distances -/
def far1 (ws : List (List Bool)) (k : Nat) : List Nat := (List.range k).map fun j => hm (ws.getD k []) (ws.getD j [])
def fars (ws : List (List Bool)) (n : Nat) : List Nat := (List.range n).flatMap (far1 ws)
theorem fars_succ (ws : List (List Bool)) (n : Nat) : fars ws (n + 1) = fars ws n ++ far1 ws n := by
  unfold fars; rw [List.range_succ, List.flatMap_append]; simp
theorem fars_len (ws : List (List Bool)) : ∀ n, n ≤ 64 → (fars ws n).length ≤ 64 * n
  | 0, _ => by simp [fars]
  | n + 1, h => by
    rw [fars_succ, List.length_append]
    have := fars_len ws n (by omega)
    have : (far1 ws n).length = n := by simp [far1]
    omega
theorem get_w {ws : List (List Bool)} {k : Nat} (h : k < ws.length) : ws[k]? = some (ws.getD k []) := by simp [h]
theorem mem_w {ws : List (List Bool)} {k : Nat} (h : k < ws.length) : ws.getD k [] ∈ ws := List.mem_of_getElem? (get_w h)
theorem M_ldist {ws : List (List Bool)} {size : Nat} (h : Ws ws size) : M__law_distances [wsD ws] = .ok (.lst ((fars ws ws.length).map fun n => D.int (n : Nat))) := by
  have hl := h.len
  show (B__law_distances _).toR = _
  unfold B__law_distances
  simp only [nbind, nofr, nseq, nl, nbok, nook, naftnx, naftrt, bok, lok, ook, lstK_lst, lst2_two, tup2_two, Bool.false_eq_true, if_false, if_true, Bool.not_true, Bool.not_false, len_w, rng1_nat (szl (show ws.length ≤ 1000 by omega))]
  refine forR_toR (fun k => .lst ((fars ws k).map fun n => D.int (n : Nat))) rfl (fun k hk => ?_) ?_
  · rw [List.length_map, List.length_range] at hk
    rw [List.getElem_map, List.getElem_range]
    simp only [nbind, nofr, nseq, nl, nbok, nook, naftnx, naftrt, bok, lok, ook, lstK_lst, lst2_two, tup2_two, Bool.false_eq_true, if_false, if_true, Bool.not_true, Bool.not_false, rng1_nat (szl (show k ≤ 1000 by omega)), idx_w (get_w hk)]
    rw [compM_map (g := fun j : Nat => D.int j) (F := fun j => D.int (hm (ws.getD k []) (ws.getD j []) : Nat)) _ _ fun j hj => by
      have hj := List.mem_range.mp hj
      simp only [nbind, nofr, nseq, nl, nbok, nook, naftnx, naftrt, bok, lok, ook, lstK_lst, lst2_two, tup2_two, Bool.false_eq_true, if_false, if_true, Bool.not_true, Bool.not_false, idx_w (get_w (show j < ws.length by omega)), M_lfar (a := ws.getD k []) (b := ws.getD j []) (h.le (mem_w hk)) (by rw [h.sz _ (mem_w hk), h.sz _ (mem_w (show j < ws.length by omega))])]
      rfl]
    simp only [nbind, nofr, nseq, nl, nbok, nook, naftnx, naftrt, bok, lok, ook, lstK_lst, lst2_two, tup2_two, Bool.false_eq_true, if_false, if_true, Bool.not_true, Bool.not_false]
    have e : addD (.lst ((fars ws k).map fun n => D.int (n : Nat))) (.lst ((List.range k).map fun j => D.int (hm (ws.getD k []) (ws.getD j []) : Nat))) = some (.lst ((fars ws (k + 1)).map fun n => D.int (n : Nat))) := by
      have := fars_len ws k (by omega)
      show (if _ + _ ≤ sizeLine then _ else _) = _
      rw [if_pos, fars_succ, List.map_append]
      · unfold far1; rw [List.map_map]; rfl
      · rw [List.length_map, List.length_map, List.length_range]
        exact Nat.le_trans (show _ ≤ 5000 by omega) (by decide)
    simp only [nbind, nofr, nseq, nl, nbok, nook, naftnx, naftrt, bok, lok, ook, lstK_lst, lst2_two, tup2_two, Bool.false_eq_true, if_false, if_true, Bool.not_true, Bool.not_false, e]
  · rw [List.length_map, List.length_range]
    rfl
theorem compM2_map {α : Type} (f : D → R (List D)) (g : α → D) (F : α → List D) : ∀ (l : List α), (∀ a ∈ l, f (g a) = .ok (F a)) → compM2 (l.map g) f = .ok (l.flatMap F)
  | [], _ => rfl
  | a :: l, h => by
    rw [List.map_cons]
    unfold compM2
    rw [h a List.mem_cons_self, compM2_map f g F l fun b hb => h b (List.mem_cons_of_mem _ hb)]
    rfl
def leastD (l : List Nat) (d : D) : Prop := (l = [] ∧ d = .non) ∨ ∃ m, IsMin l m ∧ d = .int m
theorem M_least {ws : List (List Bool)} {size : Nat} (h : Ws ws size) : ∃ d, leastD (fars ws ws.length) d ∧ M_least_distance [wsD ws] = .ok d := by
  have hl := h.len
  have he : enumD (wsD ws) = some ((List.range ws.length).map fun k => .tup [.int (k : Nat), bsD (ws.getD k [])]) := by
    rw [enumD_some (iter_w ws) (by rw [List.length_map]; exact szl (by omega)), enum_eq, List.length_map]
    congr 1
    refine List.map_congr_left fun k hk => ?_
    have hk := List.mem_range.mp hk
    rw [Nat.zero_add]
    have : (ws.map bsD).getD k .non = bsD (ws.getD k []) := by simp [hk]
    rw [this]
  have hm : M_least_distance [wsD ws] = (O.ofR (((R.ok (.lst ((fars ws ws.length).map fun n => D.int (n : Nat)))).bind fun x4 => R.lift (truD x4)).bind fun k => if k = true then (R.lift (minD (.lst ((fars ws ws.length).map fun n => D.int (n : Nat))))) else R.ok .non) fun d => (.rt d [] : O Unit Unit)).toR := by
    show (B_least_distance _).toR = _
    unfold B_least_distance
    simp only [nbind, nofr, nseq, nl, nbok, nook, naftnx, naftrt, bok, lok, ook, lstK_lst, lst2_two, tup2_two, Bool.false_eq_true, if_false, if_true, Bool.not_true, Bool.not_false, M_chkw h, he]
    rw [compM2_map (g := fun k : Nat => .tup [.int (k : Nat), bsD (ws.getD k [])]) (F := fun k => (far1 ws k).map fun n => D.int (n : Nat)) _ _ fun k hk => by
      have hk := List.mem_range.mp hk
      have es : slcD (wsD ws) none (some (k : Int)) = some (.lst ((List.range k).map fun j => bsD (ws.getD j []))) := by
        show some (D.lst (cutL _ _ _)) = _
        rw [cut_to]
        congr 2
        refine List.ext_getElem (by simp; omega) fun i h1 h2 => ?_
        simp only [List.length_map, List.length_range] at h2
        simp [show i < ws.length by omega]
      simp only [nbind, nofr, nseq, nl, nbok, nook, naftnx, naftrt, bok, lok, ook, lstK_lst, lst2_two, tup2_two, Bool.false_eq_true, if_false, if_true, Bool.not_true, Bool.not_false, intP_int, es, iter_lst]
      rw [compM_map (g := fun j : Nat => bsD (ws.getD j [])) (F := fun j => D.int (hm (ws.getD k []) (ws.getD j []) : Nat)) _ _ fun j hj => by
        have hj := List.mem_range.mp hj
        simp only [nbind, nofr, nseq, nl, nbok, nook, naftnx, naftrt, bok, lok, ook, lstK_lst, lst2_two, tup2_two, Bool.false_eq_true, if_false, if_true, Bool.not_true, Bool.not_false, M_dist (a := ws.getD k []) (b := ws.getD j []) (h.le (mem_w hk)) (by rw [h.sz _ (mem_w hk), h.sz _ (mem_w (show j < ws.length by omega))])]
        rfl]
      unfold far1
      rw [List.map_map]; rfl]
    rw [show ((List.range ws.length).flatMap fun k => (far1 ws k).map fun n => D.int (n : Nat)) = (fars ws ws.length).map fun n => D.int (n : Nat) by unfold fars; rw [List.map_flatMap]]
    have : lstB ((fars ws ws.length).map fun n => D.int (n : Nat)) = .ok (.lst ((fars ws ws.length).map fun n => D.int (n : Nat))) := by
      have := fars_len ws ws.length (by omega)
      exact if_pos (by rw [List.length_map]; exact Nat.le_trans (show _ ≤ 5000 by omega) (by decide))
    simp only [nbind, nofr, nseq, nl, nbok, nook, naftnx, naftrt, bok, lok, ook, lstK_lst, lst2_two, tup2_two, Bool.false_eq_true, if_false, if_true, Bool.not_true, Bool.not_false, this]
  rw [hm]
  by_cases e : fars ws ws.length = []
  · exact ⟨.non, .inl ⟨e, rfl⟩, by rw [e]; rfl⟩
  · obtain ⟨m, h1, h2⟩ := min_ex _ e
    refine ⟨.int m, .inr ⟨m, ⟨h1, h2⟩, rfl⟩, ?_⟩
    have ht : truD (.lst ((fars ws ws.length).map fun n => D.int (n : Nat))) = some true := by
      show some (!((fars ws ws.length).map fun n => D.int (n : Nat)).isEmpty) = _
      cases hz : fars ws ws.length
      · exact absurd hz e
      · rfl
    simp only [nbind, nofr, nseq, nl, nbok, nook, naftnx, naftrt, bok, lok, ook, lstK_lst, lst2_two, tup2_two, Bool.false_eq_true, if_false, if_true, Bool.not_true, Bool.not_false, ht, min_int ⟨h1, h2⟩]
    rfl
/-- the nearest -/
def near (ws : List (List Bool)) (got : List Bool) (m : Nat) : List (List Bool) := ws.filter fun w => hm w got == m
theorem M_near {ws : List (List Bool)} {size : Nat} (h : Ws ws size) {got : List Bool} (hg : got.length = size) {m : Nat} (hm' : IsMin (ws.map fun w => hm w got) m) : M_nearest [wsD ws, bsD got] = .ok (.tup ((near ws got m).map bsD)) := by
  have hl := h.len
  show (B_nearest _ _).toR = _
  unfold B_nearest
  simp only [nbind, nofr, nseq, nl, nbok, nook, naftnx, naftrt, bok, lok, ook, lstK_lst, lst2_two, tup2_two, Bool.false_eq_true, if_false, if_true, Bool.not_true, Bool.not_false, M_chkw h, iter_w]
  rw [compM_map (g := bsD) (F := fun w => D.int (hm w got : Nat)) _ _ fun w hw => by
    simp only [nbind, nofr, nseq, nl, nbok, nook, naftnx, naftrt, bok, lok, ook, lstK_lst, lst2_two, tup2_two, Bool.false_eq_true, if_false, if_true, Bool.not_true, Bool.not_false, M_dist (a := w) (b := got) (h.le hw) (by rw [h.sz w hw, hg])]
    rfl]
  simp only [nbind, nofr, nseq, nl, nbok, nook, naftnx, naftrt, bok, lok, ook, lstK_lst, lst2_two, tup2_two, Bool.false_eq_true, if_false, if_true, Bool.not_true, Bool.not_false]
  have e1 : (ws.map fun w => D.int (hm w got : Nat)) = (ws.map fun w => hm w got).map fun n => D.int (n : Nat) := by rw [List.map_map]; rfl
  have hz : zipD (wsD ws) (.lst (ws.map fun w => D.int (hm w got : Nat))) = some (ws.map fun w => .tup [bsD w, .int (hm w got : Nat)]) := by
    rw [zipD_some (iter_w ws) (iter_lst _) (by rw [zip_map, List.length_map]; exact szl (by omega)), zip_map]
  simp only [nbind, nofr, nseq, nl, nbok, nook, naftnx, naftrt, bok, lok, ook, lstK_lst, lst2_two, tup2_two, Bool.false_eq_true, if_false, if_true, Bool.not_true, Bool.not_false, hz]
  rw [e1]
  simp only [nbind, nofr, nseq, nl, nbok, nook, naftnx, naftrt, bok, lok, ook, lstK_lst, lst2_two, tup2_two, Bool.false_eq_true, if_false, if_true, Bool.not_true, Bool.not_false, min_int hm']
  rw [compM_filter (g := fun w => .tup [bsD w, .int (hm w got : Nat)]) (F := fun w => if (hm w got == m) = true then some (bsD w) else none) _ _ fun w _ => by
    simp only [nbind, nofr, nseq, nl, nbok, nook, naftnx, naftrt, bok, lok, ook, lstK_lst, lst2_two, tup2_two, Bool.false_eq_true, if_false, if_true, Bool.not_true, Bool.not_false, eq_nat]
    unfold itM
    simp only [nbind, nofr, nseq, nl, nbok, nook, naftnx, naftrt, bok, lok, ook, lstK_lst, lst2_two, tup2_two, Bool.false_eq_true, if_false, if_true, Bool.not_true, Bool.not_false]
    cases (hm w got == m) <;> rfl]
  simp only [nbind, nofr, nseq, nl, nbok, nook, naftnx, naftrt, bok, lok, ook, lstK_lst, lst2_two, tup2_two, Bool.false_eq_true, if_false, if_true, Bool.not_true, Bool.not_false, tup_lst]
  rw [toR_rt]
  congr 2
  unfold near
  clear hm' e1 hz h hl
  induction ws with
  | nil => rfl
  | cons w ws ih =>
    rw [List.filterMap_cons, List.filter_cons]
    cases (hm w got == m)
    · simpa using ih
    · simpa using ih
/-- gaps -/
def gc : Option Bool → Nat
  | none => 63
  | some b => bc b
def gD (g : List (Option Bool)) : D := .str (g.map gc)
def g1 (g : Option Bool) : D := .str [gc g]
def fit (g : List (Option Bool)) (w : List Bool) : Bool := (g.zip w).all fun p => p.1 == none || p.1 == some p.2
theorem M_sure {ws : List (List Bool)} {size : Nat} (h : Ws ws size) {g : List (Option Bool)} (hg : g.length = size) : M_surely [wsD ws, gD g] = .ok (match ws.filter (fit g) with | [w] => bsD w | _ => .non) := by
  have hl := h.len
  have hp := h.pos
  have hs := h.s2
  have hlg : lenD (gD g) = some (.int (g.length : Nat)) := by unfold gD; rw [len_str (by rw [List.length_map]; exact szl (by omega)), List.length_map]
  have hit : iterD (gD g) = some (g.map g1) := by unfold gD; rw [iter_str (by rw [List.length_map]; exact szl (by omega)), List.map_map]; rfl
  show (B_surely _ _).toR = _
  unfold B_surely
  rw [show D.int 0 = .int ((0 : Nat) : Int) from rfl]
  simp only [nbind, nofr, nseq, nl, nbok, nook, naftnx, naftrt, bok, lok, ook, lstK_lst, lst2_two, tup2_two, Bool.false_eq_true, if_false, if_true, Bool.not_true, Bool.not_false, M_chkw h, hlg, idx_w (get_w hp), len_b (h.le (mem_w hp)), h.sz _ (mem_w hp), hg, ne_nat, bne_self_eq_false, hit]
  rw [compM_map (g := g1) (F := fun _ => D.bl true) _ _ fun b _ => by
    rcases b with _ | b
    · rfl
    · cases b <;> rfl]
  simp only [nbind, nofr, nseq, nl, nbok, nook, naftnx, naftrt, bok, lok, ook, lstK_lst, lst2_two, tup2_two, Bool.false_eq_true, if_false, if_true, Bool.not_true, Bool.not_false, all_map g fun _ => true, tru_bl]
  rw [show (!g.all fun _ => true) = false by simp]
  simp only [nbind, nofr, nseq, nl, nbok, nook, naftnx, naftrt, bok, lok, ook, lstK_lst, lst2_two, tup2_two, Bool.false_eq_true, if_false, if_true, Bool.not_true, Bool.not_false, iter_w]
  rw [compM_filter (g := bsD) (F := fun w => if fit g w = true then some (bsD w) else none) _ _ fun w hw => by
    have hz : zipD (gD g) (bsD w) = some ((g.zip w).map fun p => .tup [g1 p.1, b1 p.2]) := by
      rw [zipD_some hit (iter_b (h.le hw)) (by rw [zip_map2, List.length_map, List.length_zip]; exact szl (by omega)), zip_map2]
    simp only [nbind, nofr, nseq, nl, nbok, nook, naftnx, naftrt, bok, lok, ook, lstK_lst, lst2_two, tup2_two, Bool.false_eq_true, if_false, if_true, Bool.not_true, Bool.not_false, hz]
    rw [compM_map (g := fun p : Option Bool × Bool => .tup [g1 p.1, b1 p.2]) (F := fun p => D.bl (p.1 == none || p.1 == some p.2)) _ _ fun p _ => by
      rcases p with ⟨a, b⟩
      rcases a with _ | a
      · cases b <;> rfl
      · cases a <;> cases b <;> rfl]
    simp only [nbind, nofr, nseq, nl, nbok, nook, naftnx, naftrt, bok, lok, ook, lstK_lst, lst2_two, tup2_two, Bool.false_eq_true, if_false, if_true, Bool.not_true, Bool.not_false, all_map (g.zip w) fun p => p.1 == none || p.1 == some p.2, tru_bl]
    unfold itM fit
    simp only [nbind, nofr, nseq, nl, nbok, nook, naftnx, naftrt, bok, lok, ook, lstK_lst, lst2_two, tup2_two, Bool.false_eq_true, if_false, if_true, Bool.not_true, Bool.not_false]
    cases ((g.zip w).all fun p => p.1 == none || p.1 == some p.2) <;> rfl]
  have e : (ws.filterMap fun w => if fit g w = true then some (bsD w) else none) = (ws.filter (fit g)).map bsD := by
    clear h hl hp hs
    induction ws with
    | nil => rfl
    | cons w ws ih =>
      rw [List.filterMap_cons, List.filter_cons]
      cases fit g w
      · simpa using ih
      · simpa using ih
  rw [e]
  simp only [nbind, nofr, nseq, nl, nbok, nook, naftnx, naftrt, bok, lok, ook, lstK_lst, lst2_two, tup2_two, Bool.false_eq_true, if_false, if_true, Bool.not_true, Bool.not_false, len_lst, List.length_map]
  rcases hf : ws.filter (fit g) with _ | ⟨w, _ | ⟨w2, r⟩⟩
  · rfl
  · simp only [nbind, nofr, nseq, nl, nbok, nook, naftnx, naftrt, bok, lok, ook, lstK_lst, lst2_two, tup2_two, Bool.false_eq_true, if_false, if_true, Bool.not_true, Bool.not_false, show eqD (.int (([w] : List (List Bool)).length : Nat)) (.int 1) = some true from rfl, show idxD (.lst ([w].map bsD)) (.int ((0 : Nat) : Int)) = some (bsD w) from idx_lst rfl]
    rfl
  · have : eqD (.int ((w :: w2 :: r).length : Nat)) (.int 1) = some false := by
      rw [show (D.int 1) = .int ((1 : Nat) : Int) from rfl, eq_nat]
      congr 1
    simp only [nbind, nofr, nseq, nl, nbok, nook, naftnx, naftrt, bok, lok, ook, lstK_lst, lst2_two, tup2_two, Bool.false_eq_true, if_false, if_true, Bool.not_true, Bool.not_false, this]
    rfl
def mdD (size : Nat) (d : D) : D := match d with | .int m => .tup [.int ((m - 1) / 2), .int (m - 1)] | _ => .tup [.int size, .int size]
theorem M_mend {ws : List (List Bool)} {size : Nat} (h : Ws ws size) {d : D} (hd : leastD (fars ws ws.length) d) (hM : M_least_distance [wsD ws] = .ok d) : M_mended_by [wsD ws] = .ok (mdD size d) := by
  have hp := h.pos
  show (B_mended_by _).toR = _
  unfold B_mended_by
  rw [show D.int 0 = .int ((0 : Nat) : Int) from rfl]
  simp only [nbind, nofr, nseq, nl, nbok, nook, naftnx, naftrt, bok, lok, ook, lstK_lst, lst2_two, tup2_two, Bool.false_eq_true, if_false, if_true, Bool.not_true, Bool.not_false, hM, idx_w (get_w hp), len_b (h.le (mem_w hp)), h.sz _ (mem_w hp)]
  rcases hd with ⟨_, rfl⟩ | ⟨m, _, rfl⟩
  · rfl
  · simp only [nbind, nofr, nseq, nl, nbok, nook, naftnx, naftrt, bok, lok, ook, lstK_lst, lst2_two, tup2_two, Bool.false_eq_true, if_false, if_true, Bool.not_true, Bool.not_false, show isD (.int (m : Nat)) .non = some false from rfl, sub_int, fdiv_int (i := (m : Int) - 1) (j := 2) (by decide) (Nat.lt_of_lt_of_le (show (2 : Int).natAbs < 2 ^ 2 by decide) (Nat.pow_le_pow_right (by decide) (by decide)))]
    rfl
end K23

-- K23T
set_option Elab.async false
set_option linter.all false
set_option maxRecDepth 100000
set_option maxHeartbeats 4000000
namespace K23
open DL PySem L2
/-! the tape -/
theorem intsOf_map (l : List Int) : intsOf (l.map D.int) = some l := by
  induction l with
  | nil => rfl
  | cons x l ih => simp [intsOf, ih]
theorem M_tape (ns : List Int) : M__law_tape [.lst (ns.map .int)] = .ok .tape := by
  show (B__law_tape _).toR = _
  unfold B__law_tape
  simp only [R.bind_ok, iter_lst, R.lift_some]
  rw [compM_map (g := D.int) (F := fun z : Int => D.int (z.natAbs : Int))]
  · simp only [R.bind_ok, ofR_ok', iter_lst, R.lift_some]
    obtain ⟨h, -⟩ := forO_inv (ρ := Unit) (fun d6 (s4 : D) => O.ofR (((((R.ok (s4)).bind fun x8 => (R.ok (.int 31)).bind fun x9 => R.lift (mulM x8 x9)).bind fun x10 => (R.ok (d6)).bind fun x11 => R.lift (addD x10 x11)).bind fun x12 => R.lift (intD x12)).bind fun x13 => (R.ok (.int 2147483647)).bind fun x14 => R.lift (modD x13 x14)) fun v7 => .nx (v7)) (fun z : Int => D.int (z.natAbs : Int)) D.int (fun b z => (b * 31 + z.natAbs) % 2147483647) (fun _ _ => True) ns.length ns 0 7 (by omega) trivial fun z _ n b _ _ => ⟨by
      simp only [R.bind_ok, mul_r (i := b) (j := 31) (by decide) (by decide), R.lift_some, add_int, int_int, mod_int (j := 2147483647) (by decide), ofR_ok'], trivial⟩
    simp only [R.bind_ok] at h
    rw [h]
    simp only [seq_nx']
    have e := intsOf_map (ns.map fun z => (z.natAbs : Int))
    rw [List.map_map] at e
    simp only [Function.comp_def] at e
    unfold tapeLit
    simp only [e, ofR_ok', toR_rt]
  · intro a _
    rfl
theorem M_take {m : Int} (h : 0 < m) (h2 : m.natAbs < 2 ^ 9000) (P : R D → Prop) (hP : ∀ r : Int, 0 ≤ r → r < m → P (.ok (.int r))) : M__law_take [.tape, .int m] P := by
  show B__law_take (.int m) _
  unfold B__law_take
  try simp only [ofR_N, bind_N, seq_N, N.l_app, N.bind_ok, N.ofR_ok, R.bind_ok, R.lift_some, gt_int, int_int, add_int, isInt]
  intro i
  have hm := fun z : Int => hP (z % m) (Int.emod_nonneg _ (by omega)) (Int.emod_lt_of_pos _ h)
  try simp only [ofR_N, bind_N, seq_N, N.l_app, N.bind_ok, N.ofR_ok, R.bind_ok, R.lift_some, gt_int, int_int, add_int, isInt]
  by_cases hi : 0 < i
  · simp only [hi, decide_true, if_true]
    try simp only [ofR_N, bind_N, seq_N, N.l_app, N.bind_ok, N.ofR_ok, R.bind_ok, R.lift_some, gt_int, int_int, add_int, isInt]
    intro j
    try simp only [ofR_N, bind_N, seq_N, N.l_app, N.bind_ok, N.ofR_ok, R.bind_ok, R.lift_some, gt_int, int_int, add_int, isInt]
    simp only [mod_int h, R.lift_some]
    try simp only [ofR_N, bind_N, seq_N, N.l_app, N.bind_ok, N.ofR_ok, R.bind_ok, R.lift_some, gt_int, int_int, add_int, isInt]
    intro k
    simp only [fdiv_int h h2, R.lift_some]
    try simp only [ofR_N, bind_N, seq_N, N.l_app, N.bind_ok, N.ofR_ok, R.bind_ok, R.lift_some, gt_int, int_int, add_int, isInt]
    exact hm j
  · simp only [hi, decide_false, Bool.false_eq_true, if_false]
    try simp only [ofR_N, bind_N, seq_N, N.l_app, N.bind_ok, N.ofR_ok, R.bind_ok, R.lift_some, gt_int, int_int, add_int, isInt]
    intro j
    try simp only [ofR_N, bind_N, seq_N, N.l_app, N.bind_ok, N.ofR_ok, R.bind_ok, R.lift_some, gt_int, int_int, add_int, isInt]
    intro k
    simp only [mul_r (i := k) (j := 48271) (by decide) (by decide), R.lift_some]
    try simp only [ofR_N, bind_N, seq_N, N.l_app, N.bind_ok, N.ofR_ok, R.bind_ok, R.lift_some, gt_int, int_int, add_int, isInt]
    intro k2
    simp only [mul_r (i := k2) (j := 69621) (by decide) (by decide), R.lift_some]
    try simp only [ofR_N, bind_N, seq_N, N.l_app, N.bind_ok, N.ofR_ok, R.bind_ok, R.lift_some, gt_int, int_int, add_int, isInt]
    simp only [mod_int (j := 2147483647) (by decide), R.lift_some]
    try simp only [ofR_N, bind_N, seq_N, N.l_app, N.bind_ok, N.ofR_ok, R.bind_ok, R.lift_some, gt_int, int_int, add_int, isInt]
    have hb1 := Int.emod_nonneg (k * 48271 + k2 * 69621) (show (2147483647 : Int) ≠ 0 by decide)
    have hb2 := Int.emod_lt_of_pos (k * 48271 + k2 * 69621) (show (0 : Int) < 2147483647 by decide)
    simp only [mul_l (i := (k * 48271 + k2 * 69621) % 2147483647) (j := (k * 48271 + k2 * 69621) % 2147483647) (by omega) (by omega), R.lift_some]
    try simp only [ofR_N, bind_N, seq_N, N.l_app, N.bind_ok, N.ofR_ok, R.bind_ok, R.lift_some, gt_int, int_int, add_int, isInt]
    intro k3
    simp only [mul_r (i := k3) (j := 40692) (by decide) (by decide), R.lift_some]
    try simp only [ofR_N, bind_N, seq_N, N.l_app, N.bind_ok, N.ofR_ok, R.bind_ok, R.lift_some, gt_int, int_int, add_int, isInt]
    simp only [mod_int (j := 2147483399) (by decide), R.lift_some]
    try simp only [ofR_N, bind_N, seq_N, N.l_app, N.bind_ok, N.ofR_ok, R.bind_ok, R.lift_some, gt_int, int_int, add_int, isInt]
    simp only [mod_int h, R.lift_some]
    try simp only [ofR_N, bind_N, seq_N, N.l_app, N.bind_ok, N.ofR_ok, R.bind_ok, R.lift_some, gt_int, int_int, add_int, isInt]
    exact hm _
theorem lt9000 {n : Nat} (h : n < 2 ^ 10) : n < 2 ^ 9000 := Nat.lt_of_lt_of_le h (Nat.pow_le_pow_right (by decide) (by decide))
theorem take_nat {m : Nat} (h : 0 < m) (h2 : m < 2 ^ 10) (P : R D → Prop) (hP : ∀ r : Nat, r < m → P (.ok (.int r))) : M__law_take [.tape, .int m] P :=
  M_take (by omega) (by simpa using lt9000 h2) P fun r h0 h1 => by
    obtain ⟨n, rfl⟩ := Int.eq_ofNat_of_zero_le h0
    exact hP n (by omega)
end K23

-- K23A5
set_option Elab.async false
set_option linter.all false
set_option maxRecDepth 100000
set_option maxHeartbeats 4000000
namespace K23
open DL PySem L2
theorem bit_of {r : Nat} (h : r < 2) : ∃ b : Bool, strD (.int r) = some (b1 b) := by
  have : r = 0 ∨ r = 1 := by omega
  rcases this with rfl | rfl
  · exact ⟨false, str_b false⟩
  · exact ⟨true, str_b true⟩
/-- a row of bits that is drawn -/
theorem draw_bits {ds : List D} {f : D → N (R (Option D))} {P : R (List D) → Prop} (hf : ∀ d, f d = itN (N.l (R.ok true)) (N.bind (N.bind (N.l (R.ok [.tape, .int 2])) M__law_take) fun x => N.l (R.lift (strD x)))) (hP : ∀ l : List Bool, l.length = ds.length → P (.ok (l.map b1))) : compN ds f P := by
  refine compN_map _ b1 (fun _ => True) ds P (fun d _ P2 hP2 => ?_) fun l hl _ => hP l hl
  rw [hf]
  unfold itN
  try simp only [nbind, nofr, nseq, nl, nbok, nook, naftnx, naftrt, bok, lok, ook, lstK_lst, lst2_two, tup2_two]
  simp only [if_true]
  try simp only [nbind, nofr, nseq, nl, nbok, nook, naftnx, naftrt, bok, lok, ook, lstK_lst, lst2_two, tup2_two]
  refine take_nat (m := 2) (by decide) (by decide) _ fun r hr => ?_
  obtain ⟨b, hb⟩ := bit_of hr
  simp only [hb]
  try simp only [nbind, nofr, nseq, nl, nbok, nook, naftnx, naftrt, bok, lok, ook, lstK_lst, lst2_two, tup2_two]
  exact hP2 b trivial
theorem M_lbits {m : Nat} (h : m ≤ 20) (P : R D → Prop) (hP : ∀ l : List Bool, l.length ≤ m → P (.ok (bsD l))) : M__law_bits [.tape, .int m] P := by
  show B__law_bits _ _ _
  unfold B__law_bits
  try simp only [nbind, nofr, nseq, nl, nbok, nook, naftnx, naftrt, bok, lok, ook, lstK_lst, lst2_two, tup2_two]
  simp only [add_int]
  try simp only [nbind, nofr, nseq, nl, nbok, nook, naftnx, naftrt, bok, lok, ook, lstK_lst, lst2_two, tup2_two]
  rw [show ((m : Int) + 1) = ((m + 1 : Nat) : Int) by norm_cast]
  refine take_nat (m := m + 1) (by omega) (by omega) _ fun n hn => ?_
  simp only [rng1_nat (szl (show n ≤ 1000 by omega)), strR_str]
  try simp only [nbind, nofr, nseq, nl, nbok, nook, naftnx, naftrt, bok, lok, ook, lstK_lst, lst2_two, tup2_two]
  refine draw_bits (fun _ => rfl) fun l hl => ?_
  simp only [List.length_map, List.length_range] at hl
  simp only [join_b (show l.length ≤ 1000 by omega)]
  try simp only [nbind, nofr, nseq, nl, nbok, nook, naftnx, naftrt, bok, lok, ook, lstK_lst, lst2_two, tup2_two]
  exact hP l (by omega)
/-! what is refused -/
theorem bad_rest {l : List Bool} (h : l.length ≤ 100) (hb : ¬ (2 ≤ l.length ∧ l.length ≤ 17) ∨ l.head? ≠ some true ∨ l.getLast? ≠ some true) : ans__law_code (M_rest_of [.str [49], bsD l]) = .ok (.str [98, 105, 116, 115]) := by
  have hc : M_check_divisor [bsD l] = .ex "InvalidBits" := by
    show (B_check_divisor _).toR = _
    unfold B_check_divisor
    rw [show (D.int 0) = .int ((0 : Nat) : Int) from rfl]
    simp only [nbind, nofr, nseq, nl, nbok, nook, naftnx, naftrt, bok, lok, ook, lstK_lst, lst2_two, tup2_two, Bool.false_eq_true, if_false, if_true, Bool.not_true, Bool.not_false, M_chk (show l.length ≤ 1000 by omega), len_b (show l.length ≤ 1000 by omega), le_int]
    by_cases h2 : 2 ≤ l.length
    · simp only [nbind, nofr, nseq, nl, nbok, nook, naftnx, naftrt, bok, lok, ook, lstK_lst, lst2_two, tup2_two, Bool.false_eq_true, if_false, if_true, Bool.not_true, Bool.not_false, decide_eq_true (show (2 : Int) ≤ (l.length : Int) by omega)]
      by_cases h3 : l.length ≤ 17
      · simp only [nbind, nofr, nseq, nl, nbok, nook, naftnx, naftrt, bok, lok, ook, lstK_lst, lst2_two, tup2_two, Bool.false_eq_true, if_false, if_true, Bool.not_true, Bool.not_false, decide_eq_true (show (l.length : Int) ≤ 17 by omega)]
        obtain ⟨x, r, rfl⟩ : ∃ x r, l = x :: r := by
          cases l with
          | nil => simp at h2
          | cons x r => exact ⟨x, r, rfl⟩
        simp only [nbind, nofr, nseq, nl, nbok, nook, naftnx, naftrt, bok, lok, ook, lstK_lst, lst2_two, tup2_two, Bool.false_eq_true, if_false, if_true, Bool.not_true, Bool.not_false, idx_b (k := 0) (b := x) (show (x :: r).length ≤ 1000 by omega) rfl]
        rw [show D.str [49] = b1 true from rfl]
        simp only [nbind, nofr, nseq, nl, nbok, nook, naftnx, naftrt, bok, lok, ook, lstK_lst, lst2_two, tup2_two, Bool.false_eq_true, if_false, if_true, Bool.not_true, Bool.not_false, ne_c]
        cases hx : (x != true)
        · simp only [nbind, nofr, nseq, nl, nbok, nook, naftnx, naftrt, bok, lok, ook, lstK_lst, lst2_two, tup2_two, Bool.false_eq_true, if_false, if_true, Bool.not_true, Bool.not_false, neg_int]
          have hx' : x = true := by simpa using hx
          obtain ⟨y, hy⟩ : ∃ y, (x :: r).getLast? = some y := ⟨(x :: r).getLast (by simp), by rw [List.getLast?_eq_some_getLast]⟩
          have hm : idxD (bsD (x :: r)) (.int (-1)) = some (b1 y) := by
            unfold bsD
            show (if ((x :: r).map bc).length ≤ sizeLine then _ else _) = _
            rw [if_pos (by rw [List.length_map]; exact szl (by omega))]
            have : atI ((x :: r).map bc) (-1) = some (bc y) := by
              unfold atI ixN
              rw [List.length_map, if_neg (by omega), if_pos (by omega)]
              show ((x :: r).map bc)[_]? = _
              rw [List.getLast?_eq_getElem?] at hy
              rw [List.getElem?_map, show (-1 + (((x :: r).length : Nat) : Int)).toNat = (x :: r).length - 1 by omega, hy]
              rfl
            rw [this]; rfl
          simp only [nbind, nofr, nseq, nl, nbok, nook, naftnx, naftrt, bok, lok, ook, lstK_lst, lst2_two, tup2_two, Bool.false_eq_true, if_false, if_true, Bool.not_true, Bool.not_false, hm, ne_c]
          have hy' : y ≠ true := by
            rcases hb with hb | hb | hb
            · exact absurd ⟨h2, h3⟩ hb
            · exact absurd (by rw [hx']; rfl) hb
            · intro z; subst z; exact hb hy
          have : (y != true) = true := by simpa using hy'
          simp only [nbind, nofr, nseq, nl, nbok, nook, naftnx, naftrt, bok, lok, ook, lstK_lst, lst2_two, tup2_two, Bool.false_eq_true, if_false, if_true, Bool.not_true, Bool.not_false, this]
          rfl
        · rfl
      · simp only [nbind, nofr, nseq, nl, nbok, nook, naftnx, naftrt, bok, lok, ook, lstK_lst, lst2_two, tup2_two, Bool.false_eq_true, if_false, if_true, Bool.not_true, Bool.not_false, decide_eq_false (show ¬ (l.length : Int) ≤ 17 by omega)]
        rfl
    · simp only [nbind, nofr, nseq, nl, nbok, nook, naftnx, naftrt, bok, lok, ook, lstK_lst, lst2_two, tup2_two, Bool.false_eq_true, if_false, if_true, Bool.not_true, Bool.not_false, decide_eq_false (show ¬ (2 : Int) ≤ (l.length : Int) by omega)]
      rfl
  have : M_rest_of [.str [49], bsD l] = .ex "InvalidBits" := by
    show (B_rest_of _ _).toR = _
    unfold B_rest_of
    have := M_chk (l := [true]) (by decide)
    rw [show bsD [true] = .str [49] from rfl] at this
    simp only [nbind, nofr, nseq, nl, nbok, nook, naftnx, naftrt, bok, lok, ook, lstK_lst, lst2_two, tup2_two, Bool.false_eq_true, if_false, if_true, Bool.not_true, Bool.not_false, this, hc]
    rfl
  rw [this]; rfl
theorem mulnine : mulM (.str [49]) (.int 18) = some (bsD (List.replicate 18 true)) := mul_c (b := true) (n := 18) (by decide)
theorem mulnine2 : mulM (.str [48]) (.int 13) = some (bsD (List.replicate 13 false)) := mul_c (b := false) (n := 13) (by decide)
theorem ex_least (d : D) (h : M_check_words [d] = .ex "InvalidCode") : ans__law_code (M_least_distance [d]) = .ok (.str [99, 111, 100, 101]) := by
  have : M_least_distance [d] = .ex "InvalidCode" := by
    show (B_least_distance _).toR = _
    unfold B_least_distance
    simp only [nbind, nofr, nseq, nl, nbok, nook, naftnx, naftrt, bok, lok, ook, lstK_lst, lst2_two, tup2_two, Bool.false_eq_true, if_false, if_true, Bool.not_true, Bool.not_false, h]
    rfl
  rw [this]; rfl
theorem cw_eq (d : D) : M_check_words [d] = (B_check_words d).toR := rfl
theorem sw_eq (d e : D) : M_surely [d, e] = (B_surely d e).toR := rfl
theorem bad_w1 : M_check_words [.tup []] = .ex "InvalidCode" := by
  rw [cw_eq]; rfl
theorem bad_w2 : M_check_words [.tup [.str [48], .str [48, 48]]] = .ex "InvalidCode" := by
  rw [cw_eq]; unfold B_check_words; rfl
theorem bad_w3 : M_check_words [.tup [.str [48], .str [48]]] = .ex "InvalidCode" := by
  rw [cw_eq]; unfold B_check_words; rfl
theorem bad_w4 : M_check_words [.tup [bsD (List.replicate 13 false)]] = .ex "InvalidCode" := by
  rw [cw_eq]; unfold B_check_words; rfl
theorem bad_sure : ans__law_code (M_surely [.tup [.str [48, 49]], .str [48, 120]]) = .ok (.str [98, 105, 116, 115]) := by
  rw [sw_eq]; unfold B_surely; rfl
end K23

-- K23A6
set_option Elab.async false
set_option linter.all false
set_option maxRecDepth 100000
set_option maxHeartbeats 4000000
namespace K23
open DL PySem L2
theorem aft_cut {ρ ρ' τ : Type} {m : N (O τ ρ)} {s : τ} {P : O ρ' ρ → Prop} {K : τ → N (O ρ' ρ)} (h : ∀ Q : O τ ρ → Prop, Q (.nx s) → m Q) (hk : K s P) : m (N.aftP P K) := h _ hk
theorem bc_shal (w : List Bool) : shal 60 (bsD w) = true := rfl
theorem ws_shal (ws : List (List Bool)) : shal 60 (wsD ws) = true := by
  show shals 59 (ws.map bsD) = true
  exact shals_map 59 bsD (fun _ => rfl) ws
theorem notin_w (w : List Bool) (ws : List (List Bool)) : notInD (bsD w) (wsD ws) = some (!(ws.contains w)) := by
  have h : inD (bsD w) (wsD ws) = some (ws.contains w) := by
    have e : inD (bsD w) (wsD ws) = if shal 60 (bsD w) && shal 60 (wsD ws) then some ((ws.map bsD).any fun z => eqv z (bsD w)) else none := by unfold inD bsD wsD; rfl
    rw [e, bc_shal, ws_shal]
    simp only [Bool.true_and, if_true]
    congr 1
    clear e
    rw [List.any_map]
    induction ws with
    | nil => rfl
    | cons x ws ih =>
      rw [List.any_cons, ih, List.contains_cons]
      congr 1
      show (x.map bc == w.map bc) = (w == x)
      rw [beq_b, Bool.eq_iff_iff, beq_iff_eq, beq_iff_eq]
      exact ⟨Eq.symm, Eq.symm⟩
  unfold notInD
  rw [h]; rfl
theorem add_w {a b : List (List Bool)} (h : a.length + b.length ≤ 1000) : addD (wsD a) (wsD b) = some (wsD (a ++ b)) := by
  show (if (a.map bsD).length + (b.map bsD).length ≤ sizeLine then _ else _) = _
  rw [if_pos (by simp only [List.length_map]; exact szl h)]
  unfold wsD; rw [List.map_append]
/-- drawn, with their places -/
theorem compN_at {α : Type} (f : D → N (R (Option D))) (g : α → D) : ∀ (ds : List D) (Q : Nat → α → Prop) (P : R (List D) → Prop), (∀ k (h : k < ds.length), ∀ P' : R (Option D) → Prop, (∀ a, Q k a → P' (.ok (some (g a)))) → f ds[k] P') → (∀ l : List α, l.length = ds.length → (∀ k (h : k < l.length), Q k l[k]) → P (.ok (l.map g))) → compN ds f P
  | [], Q, P, _, hP => hP [] rfl (by simp)
  | d :: ds, Q, P, h, hP => by
    show f d _
    refine h 0 (by simp) _ fun y hy => ?_
    show compN ds f _
    refine compN_at f g ds (fun k => Q (k + 1)) _ (fun k hk P' hP' => h (k + 1) (by simpa using hk) P' hP') fun ys hl hq => ?_
    refine hP (y :: ys) (by simp [hl]) fun k hk => ?_
    cases k with
    | zero => exact hy
    | succ k => exact hq k (by simpa using hk)
theorem strs_f {α : Type} (f : α → Nat) (l : List α) : strsOf (l.map fun a => D.str [f a]) = some (l.map fun b => [f b]) := by
  induction l with
  | nil => rfl
  | cons b l ih => rw [List.map_cons]; show (strsOf (l.map fun a => D.str [f a])).map _ = _; rw [ih]; rfl
theorem joinL_f {α : Type} (f : α → Nat) : ∀ l : List α, TL.joinL [] (l.map fun b => [f b]) = l.map f
  | [] => rfl
  | [b] => rfl
  | b :: c :: l => by
    have := joinL_f f (c :: l)
    simp only [List.map_cons] at this ⊢
    show [f b] ++ ([] ++ TL.joinL [] ([f c] :: l.map fun b => [f b])) = _
    rw [this]; rfl
theorem join_f {α : Type} (f : α → Nat) {l : List α} (h : l.length ≤ 1000) : joinD [] (.lst (l.map fun a => D.str [f a])) = some (.str (l.map f)) := by
  unfold joinD
  rw [show seqOf (.lst (l.map fun a => D.str [f a])) = some (l.map fun a => D.str [f a]) from rfl, Option.bind_some, strs_f, Option.bind_some, if_pos, joinL_f]
  have : ((l.map fun b => [f b]).map (·.length)).sum = l.length := by
    clear h
    induction l with
    | nil => rfl
    | cons b l ih => simp only [List.map_cons, List.sum_cons, List.length_cons, ih, List.length_nil]; omega
  rw [this]
  simp only [List.length_nil, Nat.mul_zero]
  omega
theorem range_fm {α β : Type} (l : List α) (z : α) (F : α → Option β) : ((List.range l.length).filterMap fun k => F (l.getD k z)) = l.filterMap F := by
  have e : l = (List.range l.length).map fun k => l.getD k z := by
    refine List.ext_getElem (by simp) fun k h1 h2 => ?_
    simp [h1]
  conv => rhs; rw [e, List.filterMap_map]
  rfl
theorem range_all {α β : Type} : ∀ (a : List α) (b : List β) (x : α) (y : β) (F : α → β → Bool), a.length = b.length → ((List.range a.length).all fun k => F (a.getD k x) (b.getD k y)) = (a.zip b).all fun p => F p.1 p.2
  | [], [], _, _, _, _ => rfl
  | c :: a, d :: b, x, y, F, h => by
    have ih := range_all a b x y F (by simpa using h)
    rw [List.length_cons, List.range_succ_eq_map, List.all_cons, List.all_map, List.zip_cons_cons, List.all_cons, ← ih]
    rfl
  | [], _ :: _, _, _, _, h => by simp at h
  | _ :: _, [], _, _, _, h => by simp at h
theorem hm_turn : ∀ (l : List Bool) (i : Nat), hm l (turn l i) ≤ 1
  | [], i => by simp [hm]
  | b :: l, 0 => by
    show hm (b :: l) ((!b) :: l) ≤ 1
    simp only [hm, hm_self]
    split <;> omega
  | b :: l, i + 1 => by
    have := hm_turn l i
    have e : turn (b :: l) (i + 1) = b :: turn l i := by simp [turn]
    rw [e]
    simp only [hm, bne_self_eq_false]
    simpa using this
/-- the distance of two different words -/
theorem far_le {ws : List (List Bool)} {m : Nat} (hm' : IsMin (fars ws ws.length) m) {w v : List Bool} (hw : w ∈ ws) (hv : v ∈ ws) (hne : w ≠ v) : m ≤ hm w v := by
  have key : ∀ i j, i < ws.length → j < i → m ≤ hm (ws.getD i []) (ws.getD j []) := fun i j hi hj => by
    refine hm'.le _ ?_
    unfold fars far1
    rw [List.mem_flatMap]
    exact ⟨i, List.mem_range.mpr hi, List.mem_map.mpr ⟨j, List.mem_range.mpr hj, rfl⟩⟩
  obtain ⟨i, hi, ei⟩ := List.mem_iff_getElem.mp hw
  obtain ⟨j, hj, ej⟩ := List.mem_iff_getElem.mp hv
  have gi : ws.getD i [] = w := by simp [hi, ei]
  have gj : ws.getD j [] = v := by simp [hj, ej]
  by_cases h : j < i
  · have := key i j hi h; rw [gi, gj] at this; exact this
  · by_cases h2 : i < j
    · have := key j i hj h2; rw [gi, gj, hm_comm] at this; exact this
    · have : i = j := by omega
      subst this
      exact absurd (ei.symm.trans ej) hne
theorem one_word {ws : List (List Bool)} (h : fars ws ws.length = []) {w v : List Bool} (hw : w ∈ ws) (hv : v ∈ ws) : w = v := by
  obtain ⟨i, hi, ei⟩ := List.mem_iff_getElem.mp hw
  obtain ⟨j, hj, ej⟩ := List.mem_iff_getElem.mp hv
  have : ws.length ≤ 1 := by
    by_cases h2 : ws.length ≤ 1
    · exact h2
    · exfalso
      have : hm (ws.getD 1 []) (ws.getD 0 []) ∈ fars ws ws.length := by
        unfold fars far1
        rw [List.mem_flatMap]
        exact ⟨1, List.mem_range.mpr (by omega), List.mem_map.mpr ⟨0, List.mem_range.mpr (by omega), rfl⟩⟩
      rw [h] at this
      cases this
  have e1 : i = 0 := by omega
  have e2 : j = 0 := by omega
  subst e1; subst e2
  exact ei.symm.trans ej
theorem filter_one {ws : List (List Bool)} (hn : ws.Nodup) {p : List Bool → Bool} {s : List Bool} (hs : s ∈ ws) (hp : p s = true) (ho : ∀ w ∈ ws, p w = true → w = s) : ws.filter p = [s] := by
  induction ws with
  | nil => cases hs
  | cons w ws ih =>
    rw [List.nodup_cons] at hn
    rw [List.filter_cons]
    rcases List.mem_cons.mp hs with e | e
    · subst e
      rw [if_pos hp]
      congr 1
      rw [List.filter_eq_nil_iff]
      intro x hx hpx
      have := ho x (List.mem_cons_of_mem _ hx) hpx
      subst this
      exact hn.1 hx
    · have hw : ¬ p w = true := fun z => by
        have := ho w List.mem_cons_self z
        subst this
        exact hn.1 e
      rw [if_neg hw]
      exact ih hn.2 e fun x hx => ho x (List.mem_cons_of_mem _ hx)
/-- gaps taken from a word -/
def GapOf (g : List (Option Bool)) (s : List Bool) : Prop := g.length = s.length ∧ ∀ k (h : k < g.length), g[k] = none ∨ g[k] = some (s.getD k false)
def holes (g : List (Option Bool)) : Nat := (g.filter fun a => a == none).length
theorem gap_fit : ∀ {g : List (Option Bool)} {s : List Bool}, GapOf g s → fit g s = true
  | [], s, h => by simp [fit]
  | a :: g, [], h => by have := h.1; simp at this
  | a :: g, b :: s, h => by
    have ih : fit g s = true := gap_fit ⟨by simpa using h.1, fun k hk => by have := h.2 (k + 1) (by simpa using hk); simpa using this⟩
    have h0 := h.2 0 (by simp)
    unfold fit at ih ⊢
    rw [List.zip_cons_cons, List.all_cons, ih, Bool.and_true]
    rcases h0 with e | e
    · simp at e; simp [e]
    · simp at e; simp [e]
theorem gap_far : ∀ {g : List (Option Bool)} {s w : List Bool}, GapOf g s → w.length = s.length → fit g w = true → hm w s ≤ holes g
  | [], s, w, h, hl, _ => by
    have := h.1
    cases s with
    | nil => cases w with
      | nil => simp [hm]
      | cons _ _ => simp at hl
    | cons _ _ => simp at this
  | a :: g, [], w, h, hl, _ => by have := h.1; simp at this
  | a :: g, b :: s, [], h, hl, _ => by simp at hl
  | a :: g, b :: s, c :: w, h, hl, hf => by
    unfold fit at hf
    rw [List.zip_cons_cons, List.all_cons, Bool.and_eq_true] at hf
    have ih : hm w s ≤ holes g := gap_far ⟨by simpa using h.1, fun k hk => by have := h.2 (k + 1) (by simpa using hk); simpa using this⟩ (by simpa using hl) hf.2
    have h0 := h.2 0 (by simp)
    have h1 := hf.1
    unfold holes at ih ⊢
    rw [List.filter_cons]
    simp only [hm]
    rcases h0 with e | e
    · simp at e; subst e
      simp only [beq_self_eq_true, if_true, List.length_cons]
      split <;> omega
    · simp at e; subst e
      simp at h1
      subst h1
      have hz : ∀ a : Bool, (some a == (none : Option Bool)) = false := fun _ => rfl
      rw [hz, bne_self_eq_false]
      simp only [Bool.false_eq_true, if_false, Nat.zero_add]
      exact ih
theorem filt_map (p : List Bool → Bool) (ws : List (List Bool)) : (ws.filterMap fun w => if p w = true then some (bsD w) else none) = (ws.filter p).map bsD := by
  induction ws with
  | nil => rfl
  | cons w ws ih =>
    rw [List.filterMap_cons, List.filter_cons]
    cases p w
    · simpa using ih
    · simpa using ih
theorem mcut {r : R Bool} {f : Bool → Prop} {g : Str → Prop} (h : r = .ok false) (hk : f false) : (match (generalizing := false) r with | .ok a => f a | .ex c => g c | .st => False) := by
  rw [h]; exact hk
theorem hm_le : ∀ a b : List Bool, hm a b ≤ a.length
  | [], _ => by simp [hm]
  | x :: a, [] => by simp [hm]
  | x :: a, y :: b => by
    have := hm_le a b
    simp only [hm, List.length_cons]
    split <;> omega
theorem mend_q {ws : List (List Bool)} {size : Nat} (h : Ws ws size) {d : D} (hd : leastD (fars ws ws.length) d) {sent : List Bool} (hs : sent ∈ ws) : ∃ q : Nat, idxD (mdD size d) (.int 0) = some (.int q) ∧ q ≤ 12 ∧ ∀ w ∈ ws, w ≠ sent → 2 * q < hm w sent := by
  rcases hd with ⟨e, rfl⟩ | ⟨m, e, rfl⟩
  · exact ⟨size, idx_tup0 _ _, h.s2, fun w hw hne => absurd (one_word e hw hs) hne⟩
  · have hm1 : 1 ≤ m ∧ m ≤ 12 := by
      have := e.mem
      unfold fars far1 at this
      rw [List.mem_flatMap] at this
      obtain ⟨i, hi, hm⟩ := this
      obtain ⟨j, hj, ej⟩ := List.mem_map.mp hm
      have hi := List.mem_range.mp hi
      have hj := List.mem_range.mp hj
      have l1 := h.sz _ (mem_w hi)
      have l2 := h.sz _ (mem_w (show j < ws.length by omega))
      have := h.s2
      have hle := hm_le (ws.getD i []) (ws.getD j [])
      refine ⟨?_, by omega⟩
      by_cases h0 : m = 0
      · exfalso
        have := hm_zero (show (ws.getD i []).length = (ws.getD j []).length by omega) (by omega)
        have e1 : ws.getD i [] = ws[i] := by simp [hi]
        have e2 : ws.getD j [] = ws[j] := by simp [show j < ws.length by omega]
        rw [e1, e2] at this
        have hnd := List.pairwise_iff_getElem.mp h.nd j i (by omega) hi hj
        exact hnd this.symm
      · omega
    refine ⟨(m - 1) / 2, ?_, by omega, fun w hw hne => ?_⟩
    · show idxD (.tup [.int (((m : Int) - 1) / 2), .int ((m : Int) - 1)]) (.int 0) = _
      rw [idx_tup0]
      congr 2
      omega
    · have := far_le e hw hs hne
      omega
theorem near_one {ws : List (List Bool)} {size : Nat} (h : Ws ws size) {sent wr : List Bool} (hs : sent ∈ ws) (hl : wr.length = size) {q : Nat} (hq : ∀ w ∈ ws, w ≠ sent → 2 * q < hm w sent) (hw : hm sent wr ≤ q) : IsMin (ws.map fun w => hm w wr) (hm sent wr) ∧ near ws wr (hm sent wr) = [sent] := by
  have key : ∀ w ∈ ws, w ≠ sent → hm sent wr < hm w wr := fun w hw2 hne => by
    have h1 := hq w hw2 hne
    have h2 := hm_tri (a := w) (b := wr) (c := sent) (by rw [h.sz w hw2, hl]) (by rw [hl, h.sz sent hs])
    rw [hm_comm wr sent] at h2
    omega
  refine ⟨⟨List.mem_map.mpr ⟨sent, hs, rfl⟩, fun y hy => ?_⟩, ?_⟩
  · obtain ⟨w, hw2, rfl⟩ := List.mem_map.mp hy
    by_cases e : w = sent
    · rw [e]; exact Nat.le_refl _
    · exact Nat.le_of_lt (key w hw2 e)
  · unfold near
    refine filter_one h.nd hs (by simp) fun w hw2 hp => ?_
    by_cases e : w = sent
    · exact e
    · have := key w hw2 e
      simp at hp
      omega
end K23

-- K23A
set_option Elab.async false
set_option linter.all false
set_option maxRecDepth 100000
set_option maxHeartbeats 4000000
namespace K23
open DL PySem L2
theorem is_tt : isNotD (.bl true) (.bl true) = some false := rfl
theorem is_ff : isNotD (.bl false) (.bl false) = some false := rfl
theorem whole_t {t l : List Bool} : whole t (l ++ rs t l) = true := by
  have hr := rs_len t l
  have hn : NN t = t.length + 1 := rfl
  have hle : NN t ≤ (l ++ rs t l).length := by rw [List.length_append]; omega
  unfold whole
  rw [decide_eq_true hle, Bool.true_and, decide_eq_true_iff]
  refine (whole_iff (val_dv t) hle).mp ?_
  have e : (l ++ rs t l).length - NN t = l.length := by rw [List.length_append]; omega
  show (l ++ rs t l).take ((l ++ rs t l).length - NN t) ++ restB (NN t) (VV t) ((l ++ rs t l).take ((l ++ rs t l).length - NN t)) = _
  rw [e, List.take_left' rfl]
theorem whole_rem {t l : List Bool} : rem (NN t) (VV t) 0 (l ++ rs t l) = 0 := by
  have := whole_t (t := t) (l := l)
  unfold whole at this
  simp only [Bool.and_eq_true, decide_eq_true_iff] at this
  exact this.2
theorem rng2_p {p : Nat} (h : p ≤ 100) : rng2 (.int 1) (.int ((p : Int) + 1)) = some ((List.range p).map fun k => D.int ((k + 1 : Nat) : Int)) := by
  have h1 : int62 1 ∧ int62 ((p : Int) + 1) := ⟨⟨by decide, by decide⟩, ⟨by omega, by omega⟩⟩
  show (if chk ((int62 1 ∧ int62 ((p : Int) + 1)) ∧ ((p : Int) + 1 - 1).toNat ≤ sizeLine) then _ else _) = _
  rw [if_pos (chk_of ⟨h1, by rw [show ((p : Int) + 1 - 1).toNat = p by omega]; exact szl (by omega)⟩), show ((p : Int) + 1 - 1).toNat = p by omega]
  unfold rangeL
  congr 1
  refine List.map_congr_left fun k _ => ?_
  congr 1
  omega
/-- a loop that may break off -/
theorem forN_brk {ρ : Type} (f : D → Unit → N (O Unit Unit)) (P : O Unit ρ → Prop) : ∀ (ds : List D), (∀ d ∈ ds, ∀ P' : O Unit Unit → Prop, P' (.nx ()) → P' (.bk ()) → f d () P') → P (.nx ()) → forN ds () f P
  | [], _, hP => hP
  | d :: ds, h, hP => by
    show f d () _
    exact h d List.mem_cons_self _ (forN_brk f P ds (fun e he => h e (List.mem_cons_of_mem _ he)) hP) hP
theorem holds_M : ∀ ns : List Int, ns.length ≤ 63 → (∀ z ∈ ns, Builtin.Int.intBits z ≤ 1048576) → M_law [.lst (ns.map .int)] fun r => r = .ok (.bl true) := by
  intro ns _ _
  show B_law (.lst (ns.map .int)) _
  unfold B_law
  simp only [bok, M_tape]
  try simp only [nbind, nofr, nseq, nl, nbok, nook, naftnx, naftrt, bok, lok, ook, lstK_lst, lst2_two, tup2_two]
  rw [show rng1 (.int 3) = some [.int 0, .int 1, .int 2] from rng1_nat (n := 3) (by decide)]
  try simp only [nbind, nofr, nseq, nl, nbok, nook, naftnx, naftrt, bok, lok, ook, lstK_lst, lst2_two, tup2_two]
  refine forN_unit _ _ _ (fun d hd P' hP' => ?_) ?_
  · try simp only [nbind, nofr, nseq, nl, nbok, nook, naftnx, naftrt, bok, lok, ook, lstK_lst, lst2_two, tup2_two]
    refine take_nat (m := 6) (by decide) (by decide) _ fun n hn => ?_
    simp only [rng1_nat (szl (show n ≤ 1000 by omega)), strR_str]
    try simp only [nbind, nofr, nseq, nl, nbok, nook, naftnx, naftrt, bok, lok, ook, lstK_lst, lst2_two, tup2_two]
    refine draw_bits (fun _ => rfl) fun t htl => ?_
    simp only [List.length_map, List.length_range] at htl
    have ht : t.length ≤ 5 := by omega
    have hN : NN t = t.length + 1 := rfl
    have hd := val_dv t
    simp only [join_b (show t.length ≤ 1000 by omega)]
    try simp only [nbind, nofr, nseq, nl, nbok, nook, naftnx, naftrt, bok, lok, ook, lstK_lst, lst2_two, tup2_two]
    have ed : addD (bsD [true]) (bsD t) = some (bsD (true :: t)) := add_b (a := [true]) (b := t) (by simp; omega)
    have ed2 : addD (bsD (true :: t)) (bsD [true]) = some (bsD (dvL t)) := add_b (a := true :: t) (b := [true]) (by simp; omega)
    rw [show D.str [49] = bsD [true] from rfl, show D.str [48] = b1 false from rfl]
    simp only [ed]
    try simp only [nbind, nofr, nseq, nl, nbok, nook, naftnx, naftrt, bok, lok, ook, lstK_lst, lst2_two, tup2_two]
    simp only [ed2]
    try simp only [nbind, nofr, nseq, nl, nbok, nook, naftnx, naftrt, bok, lok, ook, lstK_lst, lst2_two, tup2_two]
    refine M_lbits (m := 20) (by decide) _ fun l hl => ?_
    have hr := rs_len t l
    simp only [nbind, nofr, nseq, nl, nbok, nook, naftnx, naftrt, bok, lok, ook, lstK_lst, lst2_two, tup2_two, Bool.false_eq_true, if_false, if_true, Bool.not_true, Bool.not_false, M_lrest (show l.length ≤ 100 by omega) ht, add_b (show l.length + (rs t l).length ≤ 1000 by omega), M_rst (show l.length ≤ 100 by omega) ht, M_guard (show l.length ≤ 100 by omega) ht]
    have hw := whole_t (t := t) (l := l)
    have hw0 := whole_rem (t := t) (l := l)
    have hwl : (l ++ rs t l).length = l.length + (t.length + 1) := by rw [List.length_append, hr]
    generalize hW : l ++ rs t l = W at *
    have hW1 : W.length ≤ 100 := by omega
    have et : W.take (W.length - NN t) = l := by rw [← hW, List.take_append_of_le_length (by rw [hW]; omega), List.take_of_length_le (by rw [hW]; omega)]
    simp only [nbind, nofr, nseq, nl, nbok, nook, naftnx, naftrt, bok, lok, ook, lstK_lst, lst2_two, tup2_two, Bool.false_eq_true, if_false, if_true, Bool.not_true, Bool.not_false, M_whole hW1 ht, hw, is_tt, M_unguard hW1 ht, et, ne_b, beq_self_eq_true]
    obtain ⟨p, hp64, hp⟩ := per_ex ht
    have hp1 := hp.pos
    simp only [nbind, nofr, nseq, nl, nbok, nook, naftnx, naftrt, bok, lok, ook, lstK_lst, lst2_two, tup2_two, Bool.false_eq_true, if_false, if_true, Bool.not_true, Bool.not_false, M_first ht hp hp64, add_int, rng2_p (show p ≤ 100 by omega)]
    refine forN_brk _ _ _ (fun d hd' P2 hn hb => ?_) ?_
    · obtain ⟨k, hk, rfl⟩ := List.mem_map.mp hd'
      have hk := List.mem_range.mp hk
      have e1 : mulM (b1 false) (.int k) = some (bsD (List.replicate k false)) := mul_c (show k ≤ 1000 by omega)
      have e2 : addD (bsD [true]) (bsD (List.replicate k false)) = some (bsD (true :: List.replicate k false)) := add_b (a := [true]) (b := List.replicate k false) (by simp; omega)
      have e3 : addD (bsD (true :: List.replicate k false)) (bsD [true]) = some (bsD (true :: List.replicate k false ++ [true])) := add_b (a := true :: List.replicate k false) (b := [true]) (by simp; omega)
      simp only [nbind, nofr, nseq, nl, nbok, nook, naftnx, naftrt, bok, lok, ook, lstK_lst, lst2_two, tup2_two, Bool.false_eq_true, if_false, if_true, Bool.not_true, Bool.not_false, sub_int]
      rw [show (((k + 1 : Nat) : Int) - 1) = (k : Int) by omega]
      simp only [nbind, nofr, nseq, nl, nbok, nook, naftnx, naftrt, bok, lok, ook, lstK_lst, lst2_two, tup2_two, Bool.false_eq_true, if_false, if_true, Bool.not_true, Bool.not_false, e1, e2, e3, M_lrest (l := true :: List.replicate k false ++ [true]) (by simp; omega) ht, len_b (show (dvL t).length ≤ 1000 by rw [dv_len]; omega), dv_len, sub_int]
      rw [show (((t.length + 2 : Nat) : Int) - 1) = ((NN t : Nat) : Int) by omega]
      simp only [nbind, nofr, nseq, nl, nbok, nook, naftnx, naftrt, bok, lok, ook, lstK_lst, lst2_two, tup2_two, Bool.false_eq_true, if_false, if_true, Bool.not_true, Bool.not_false, mul_c (b := false) (show NN t ≤ 1000 by omega), eq_b, Option.map_some, tru_bl]
      have hu := unit_iff hd (m := k + 1) (by omega)
      have hs : (rs t (true :: List.replicate k false ++ [true]) == List.replicate (NN t) false) = decide (k + 1 = p) := by
        rw [Bool.eq_iff_iff, beq_iff_eq, decide_eq_true_iff]
        refine hu.trans ((hp.iff (k + 1)).trans ?_)
        constructor
        · intro z
          by_cases e : k + 1 = p
          · exact e
          · rw [Nat.mod_eq_of_lt (by omega)] at z; omega
        · intro z; rw [z, Nat.mod_self]
      rw [hs]
      by_cases e : k + 1 = p
      · rw [decide_eq_true e]
        subst e
        simp only [nbind, nofr, nseq, nl, nbok, nook, naftnx, naftrt, bok, lok, ook, lstK_lst, lst2_two, tup2_two, Bool.false_eq_true, if_false, if_true, Bool.not_true, Bool.not_false, lt_int, eq_nat, gt_int, decide_eq_false (show ¬ ((k + 1 : Nat) : Int) < ((k + 1 : Nat) : Int) by omega), beq_self_eq_true]
        by_cases h4 : (40 : Int) < ((k + 1 : Nat) : Int)
        · simp only [nbind, nofr, nseq, nl, nbok, nook, naftnx, naftrt, bok, lok, ook, lstK_lst, lst2_two, tup2_two, Bool.false_eq_true, if_false, if_true, Bool.not_true, Bool.not_false, decide_eq_true h4]
          exact hb
        · simp only [nbind, nofr, nseq, nl, nbok, nook, naftnx, naftrt, bok, lok, ook, lstK_lst, lst2_two, tup2_two, Bool.false_eq_true, if_false, if_true, Bool.not_true, Bool.not_false, decide_eq_false h4]
          exact hn
      · rw [decide_eq_false e]
        simp only [nbind, nofr, nseq, nl, nbok, nook, naftnx, naftrt, bok, lok, ook, lstK_lst, lst2_two, tup2_two, Bool.false_eq_true, if_false, if_true, Bool.not_true, Bool.not_false, eq_nat, gt_int, show (k + 1 == p) = false by simpa using e]
        by_cases h4 : (40 : Int) < ((k + 1 : Nat) : Int)
        · simp only [nbind, nofr, nseq, nl, nbok, nook, naftnx, naftrt, bok, lok, ook, lstK_lst, lst2_two, tup2_two, Bool.false_eq_true, if_false, if_true, Bool.not_true, Bool.not_false, decide_eq_true h4]
          exact hb
        · simp only [nbind, nofr, nseq, nl, nbok, nook, naftnx, naftrt, bok, lok, ook, lstK_lst, lst2_two, tup2_two, Bool.false_eq_true, if_false, if_true, Bool.not_true, Bool.not_false, decide_eq_false h4]
          exact hn
    · simp only [nbind, nofr, nseq, nl, nbok, nook, naftnx, naftrt, bok, lok, ook, lstK_lst, lst2_two, tup2_two, Bool.false_eq_true, if_false, if_true, Bool.not_true, Bool.not_false, len_b (show W.length ≤ 1000 by omega)]
      refine take_nat (m := W.length) (by omega) (by omega) _ fun a ha => ?_
      have hf : whole t (turn W a) = false := by
        have := turned_ne hd ha hw0
        unfold whole
        rw [decide_eq_false (p := rem (NN t) (VV t) 0 (turn W a) = 0) this, Bool.and_false]
      have htl2 := turn_len W a
      simp only [nbind, nofr, nseq, nl, nbok, nook, naftnx, naftrt, bok, lok, ook, lstK_lst, lst2_two, tup2_two, Bool.false_eq_true, if_false, if_true, Bool.not_true, Bool.not_false, M_lturn (show W.length ≤ 1000 by omega) ha, M_whole (l := turn W a) (by omega) ht, hf, is_ff, M_unguard (l := turn W a) (by omega) ht]
      simp only [nbind, nofr, nseq, nl, nbok, nook, naftnx, naftrt, bok, lok, ook, lstK_lst, lst2_two, tup2_two, Bool.false_eq_true, if_false, if_true, Bool.not_true, Bool.not_false, show ans__law_code (.ex "InvalidBits") = .ok (.str [98, 105, 116, 115]) from rfl, ne_str, beq_self_eq_true, gt_int]
      refine aft_cut (s := ()) (fun Q hQ => ?_) ?_
      · by_cases h1 : 1 < W.length
        · simp only [nbind, nofr, nseq, nl, nbok, nook, naftnx, naftrt, bok, lok, ook, lstK_lst, lst2_two, tup2_two, Bool.false_eq_true, if_false, if_true, Bool.not_true, Bool.not_false, decide_eq_true (show (1 : Int) < (W.length : Int) by omega), sub_int]
          rw [show ((W.length : Int) - 1) = ((W.length - 1 : Nat) : Int) by omega]
          refine take_nat (m := W.length - 1) (by omega) (by omega) _ fun f hf1 => ?_
          simp only [nbind, nofr, nseq, nl, nbok, nook, naftnx, naftrt, bok, lok, ook, lstK_lst, lst2_two, tup2_two, Bool.false_eq_true, if_false, if_true, Bool.not_true, Bool.not_false, add_int]
          rw [show ((1 : Int) + (f : Int)) = ((f + 1 : Nat) : Int) by omega]
          simp only [nbind, nofr, nseq, nl, nbok, nook, naftnx, naftrt, bok, lok, ook, lstK_lst, lst2_two, tup2_two, Bool.false_eq_true, if_false, if_true, Bool.not_true, Bool.not_false, sub_int]
          rw [show ((W.length : Int) - ((f + 1 : Nat) : Int)) = ((W.length - (f + 1) : Nat) : Int) by omega]
          refine take_nat (m := W.length - (f + 1)) (by omega) (by omega) _ fun i hi => ?_
          simp only [nbind, nofr, nseq, nl, nbok, nook, naftnx, naftrt, bok, lok, ook, lstK_lst, lst2_two, tup2_two, Bool.false_eq_true, if_false, if_true, Bool.not_true, Bool.not_false, M_lturn (l := W) (i := i) (by omega) (by omega), add_int]
          rw [show ((i : Int) + ((f + 1 : Nat) : Int)) = ((i + (f + 1) : Nat) : Int) by omega]
          have htl3 := turn_len W i
          have htl4 := turn_len (turn W i) (i + (f + 1))
          simp only [nbind, nofr, nseq, nl, nbok, nook, naftnx, naftrt, bok, lok, ook, lstK_lst, lst2_two, tup2_two, Bool.false_eq_true, if_false, if_true, Bool.not_true, Bool.not_false, M_lturn (l := turn W i) (i := i + (f + 1)) (by omega) (by omega), M_whole (l := turn (turn W i) (i + (f + 1))) (by omega) ht, int_int, mod_int (i := ((f + 1 : Nat) : Int)) (j := (p : Int)) (by omega)]
          rw [show (((f + 1 : Nat) : Int) % (p : Int)) = (((f + 1) % p : Nat) : Int) by norm_cast, show (D.int 0) = .int ((0 : Nat) : Int) from rfl]
          simp only [nbind, nofr, nseq, nl, nbok, nook, naftnx, naftrt, bok, lok, ook, lstK_lst, lst2_two, tup2_two, Bool.false_eq_true, if_false, if_true, Bool.not_true, Bool.not_false, eq_nat, Option.map_some]
          have hwh : whole t (turn (turn W i) (i + (f + 1))) = ((f + 1) % p == 0) := by
            have h5 := pair_iff hd (l := W) (i := i) (far := f + 1) (by omega) (by omega) hw0
            have h6 := hp.iff (f + 1)
            unfold whole
            rw [decide_eq_true (show NN t ≤ (turn (turn W i) (i + (f + 1))).length by omega), Bool.true_and, Bool.eq_iff_iff, decide_eq_true_iff, beq_iff_eq]
            exact h5.trans h6
          rw [hwh]
          simp only [nbind, nofr, nseq, nl, nbok, nook, naftnx, naftrt, bok, lok, ook, lstK_lst, lst2_two, tup2_two, Bool.false_eq_true, if_false, if_true, Bool.not_true, Bool.not_false, show ∀ b : Bool, neD (.bl b) (.bl b) = some false from fun b => by cases b <;> rfl]
          exact hQ
        · simp only [nbind, nofr, nseq, nl, nbok, nook, naftnx, naftrt, bok, lok, ook, lstK_lst, lst2_two, tup2_two, Bool.false_eq_true, if_false, if_true, Bool.not_true, Bool.not_false, decide_eq_false (show ¬ (1 : Int) < (W.length : Int) by omega)]
          exact hQ
      · clear hW hw hw0 hwl hW1 et htl2 hf hp hp1 hp64 hd hN ed ed2
        try simp only [nbind, nofr, nseq, nl, nbok, nook, naftnx, naftrt, bok, lok, ook, lstK_lst, lst2_two, tup2_two]
        refine take_nat (m := 7) (by decide) (by decide) _ fun s0 hs0 => ?_
        obtain ⟨size, hsz⟩ : ∃ size, size = s0 + 1 := ⟨_, rfl⟩
        simp only [nbind, nofr, nseq, nl, nbok, nook, naftnx, naftrt, bok, lok, ook, lstK_lst, lst2_two, tup2_two, Bool.false_eq_true, if_false, if_true, Bool.not_true, Bool.not_false, add_int]
        rw [show ((1 : Int) + (s0 : Int)) = (size : Int) by omega]
        refine take_nat (m := 6) (by decide) (by decide) _ fun w0 hw0 => ?_
        simp only [nbind, nofr, nseq, nl, nbok, nook, naftnx, naftrt, bok, lok, ook, lstK_lst, lst2_two, tup2_two, Bool.false_eq_true, if_false, if_true, Bool.not_true, Bool.not_false, add_int]
        rw [show ((1 : Int) + (w0 : Int)) = ((w0 + 1 : Nat) : Int) by omega]
        simp only [nbind, nofr, nseq, nl, nbok, nook, naftnx, naftrt, bok, lok, ook, lstK_lst, lst2_two, tup2_two, Bool.false_eq_true, if_false, if_true, Bool.not_true, Bool.not_false, rng1_nat (szl (show w0 + 1 ≤ 1000 by omega))]
        refine forN_inv _ _ (fun n (s : D) => ∃ ws, s = wsD ws ∧ ws.Nodup ∧ (∀ w ∈ ws, w.length = size) ∧ ws.length ≤ n ∧ (1 ≤ n → ws ≠ [])) (w0 + 1) _ 0 _ ⟨[], rfl, List.nodup_nil, by simp, by simp, by simp⟩ (by simp) (fun k hk s hs P3 hP3 => ?_) fun s hs => ?_
        · obtain ⟨ws, rfl, h1, h2, h3, h4⟩ := hs
          rw [List.length_map, List.length_range] at hk
          simp only [nbind, nofr, nseq, nl, nbok, nook, naftnx, naftrt, bok, lok, ook, lstK_lst, lst2_two, tup2_two, Bool.false_eq_true, if_false, if_true, Bool.not_true, Bool.not_false, rng1_nat (szl (show size ≤ 1000 by omega))]
          refine draw_bits (fun _ => rfl) fun w hwl => ?_
          simp only [List.length_map, List.length_range] at hwl
          simp only [nbind, nofr, nseq, nl, nbok, nook, naftnx, naftrt, bok, lok, ook, lstK_lst, lst2_two, tup2_two, Bool.false_eq_true, if_false, if_true, Bool.not_true, Bool.not_false, join_b (show w.length ≤ 1000 by omega), notin_w]
          by_cases hc : ws.contains w = true
          · rw [hc]
            simp only [nbind, nofr, nseq, nl, nbok, nook, naftnx, naftrt, bok, lok, ook, lstK_lst, lst2_two, tup2_two, Bool.false_eq_true, if_false, if_true, Bool.not_true, Bool.not_false]
            rw [show D.lst [] = wsD [] from rfl]
            simp only [nbind, nofr, nseq, nl, nbok, nook, naftnx, naftrt, bok, lok, ook, lstK_lst, lst2_two, tup2_two, Bool.false_eq_true, if_false, if_true, Bool.not_true, Bool.not_false, add_w (a := ws) (b := []) (by simp; omega)]
            rw [List.append_nil]
            refine hP3 _ ⟨ws, rfl, h1, h2, by omega, fun _ z => ?_⟩
            rw [z] at hc; simp at hc
          · have hc' : ws.contains w = false := by simpa using hc
            rw [hc']
            simp only [nbind, nofr, nseq, nl, nbok, nook, naftnx, naftrt, bok, lok, ook, lstK_lst, lst2_two, tup2_two, Bool.false_eq_true, if_false, if_true, Bool.not_true, Bool.not_false]
            rw [show D.lst [bsD w] = wsD [w] from rfl]
            simp only [nbind, nofr, nseq, nl, nbok, nook, naftnx, naftrt, bok, lok, ook, lstK_lst, lst2_two, tup2_two, Bool.false_eq_true, if_false, if_true, Bool.not_true, Bool.not_false, add_w (a := ws) (b := [w]) (by simp; omega)]
            refine hP3 _ ⟨ws ++ [w], rfl, ?_, ?_, by simp; omega, by simp⟩
            · rw [List.nodup_append]
              refine ⟨h1, by simp, fun a ha b hb => ?_⟩
              rw [List.mem_singleton.mp hb]
              intro z; subst z
              exact hc (by simpa using ha)
            · intro x hx
              rcases List.mem_append.mp hx with e | e
              · exact h2 x e
              · rw [List.mem_singleton.mp e]; exact hwl
        · obtain ⟨ws, rfl, h1, h2, h3, h4⟩ := hs
          have hws : Ws ws size := ⟨h4 (by omega), by omega, h2, by omega, by omega, h1⟩
          obtain ⟨d, hd1, hM⟩ := M_least hws
          have hls : shal 60 d = true := by rcases hd1 with ⟨_, rfl⟩ | ⟨m, _, rfl⟩ <;> rfl
          have hv : (((R.lift (lenD (.lst ((fars ws ws.length).map fun n => D.int (n : Nat))))).bind fun x330 => R.lift (gtD x330 (D.int 0))).bind fun k => if k = true then R.lift (minD (.lst ((fars ws ws.length).map fun n => D.int (n : Nat)))) else R.ok D.non) = .ok d := by
            rcases hd1 with ⟨e, rfl⟩ | ⟨m, e, rfl⟩
            · rw [e]; rfl
            · have hne : 0 < (fars ws ws.length).length := List.length_pos_of_mem e.mem
              simp only [nbind, nofr, nseq, nl, nbok, nook, naftnx, naftrt, bok, lok, ook, lstK_lst, lst2_two, tup2_two, Bool.false_eq_true, if_false, if_true, Bool.not_true, Bool.not_false, len_lst, List.length_map, gt_int, decide_eq_true (show (0 : Int) < ((fars ws ws.length).length : Int) by omega), min_int e]
          have hmd := M_mend hws hd1 hM
          have hme : (((R.lift (isNotD d D.non)).bind fun k => if k = true then (((R.lift (subD d (D.int 1))).bind fun x177 => R.lift (fdivD x177 (D.int 2))).bind fun x183 => ((R.lift (subD d (D.int 1))).bind fun x450 => R.ok [x450]).bind fun xs184 => R.ok (x183 :: xs184)).bind fun xs185 => R.ok (D.tup xs185) else R.ok (D.tup [D.int size, D.int size]))) = M_mended_by [wsD ws] := by
            rw [hmd]
            rcases hd1 with ⟨e, rfl⟩ | ⟨m, e, rfl⟩
            · rfl
            · simp only [nbind, nofr, nseq, nl, nbok, nook, naftnx, naftrt, bok, lok, ook, lstK_lst, lst2_two, tup2_two, Bool.false_eq_true, if_false, if_true, Bool.not_true, Bool.not_false, show isNotD (.int (m : Nat)) .non = some true from rfl, sub_int, fdiv_int (i := (m : Int) - 1) (j := 2) (by decide) (Nat.lt_of_lt_of_le (show (2 : Int).natAbs < 2 ^ 2 by decide) (Nat.pow_le_pow_right (by decide) (by decide)))]
              rfl
          have hsm : ∀ x, M_mended_by [wsD ws] = .ok x → neD x x = some false := fun x hx => by
            rw [hmd] at hx
            refine ne_self ?_
            cases hx
            rcases hd1 with ⟨e, rfl⟩ | ⟨m, e, rfl⟩ <;> rfl
          simp only [nbind, nofr, nseq, nl, nbok, nook, naftnx, naftrt, bok, lok, ook, lstK_lst, lst2_two, tup2_two, Bool.false_eq_true, if_false, if_true, Bool.not_true, Bool.not_false, M_ldist hws]
          rw [hv]
          simp only [nbind, nofr, nseq, nl, nbok, nook, naftnx, naftrt, bok, lok, ook, lstK_lst, lst2_two, tup2_two, Bool.false_eq_true, if_false, if_true, Bool.not_true, Bool.not_false, hM, ne_self hls]
          rw [hme]
          obtain ⟨md, hmd2⟩ : ∃ md, M_mended_by [wsD ws] = .ok md := ⟨_, hmd⟩
          simp only [nbind, nofr, nseq, nl, nbok, nook, naftnx, naftrt, bok, lok, ook, lstK_lst, lst2_two, tup2_two, Bool.false_eq_true, if_false, if_true, Bool.not_true, Bool.not_false, hmd2, hsm md hmd2, len_w]
          have hp := hws.pos
          have hle := hws.len
          refine take_nat (m := ws.length) hp (by omega) _ fun si hsi => ?_
          simp only [nbind, nofr, nseq, nl, nbok, nook, naftnx, naftrt, bok, lok, ook, lstK_lst, lst2_two, tup2_two, Bool.false_eq_true, if_false, if_true, Bool.not_true, Bool.not_false, idx_w (get_w hsi)]
          have hsent := mem_w hsi
          generalize hse : ws.getD si [] = sent at *
          have hsl : sent.length = size := hws.sz _ hsent
          simp only [nbind, nofr, nseq, nl, nbok, nook, naftnx, naftrt, bok, lok, ook, lstK_lst, lst2_two, tup2_two, Bool.false_eq_true, if_false, if_true, Bool.not_true, Bool.not_false, rng1_nat (szl (show size ≤ 1000 by omega))]
          refine draw_bits (fun _ => rfl) fun got hgl => ?_
          simp only [List.length_map, List.length_range] at hgl
          simp only [nbind, nofr, nseq, nl, nbok, nook, naftnx, naftrt, bok, lok, ook, lstK_lst, lst2_two, tup2_two, Bool.false_eq_true, if_false, if_true, Bool.not_true, Bool.not_false, join_b (show got.length ≤ 1000 by omega), iter_w]
          rw [compM_map (g := bsD) (F := fun w => D.int (hm w got : Nat)) _ _ fun w hw => by
            simp only [nbind, nofr, nseq, nl, nbok, nook, naftnx, naftrt, bok, lok, ook, lstK_lst, lst2_two, tup2_two, Bool.false_eq_true, if_false, if_true, Bool.not_true, Bool.not_false, M_lfar (a := w) (b := got) (hws.le hw) (by rw [hws.sz w hw, hgl])]
            rfl]
          obtain ⟨m, hmin⟩ : ∃ m, IsMin (ws.map fun w => hm w got) m := by
            obtain ⟨m, h5, h6⟩ := min_ex (ws.map fun w => hm w got) (by simp [hws.ne])
            exact ⟨m, h5, h6⟩
          have e1 : (ws.map fun w => D.int (hm w got : Nat)) = (ws.map fun w => hm w got).map fun n => D.int (n : Nat) := by rw [List.map_map]; rfl
          simp only [nbind, nofr, nseq, nl, nbok, nook, naftnx, naftrt, bok, lok, ook, lstK_lst, lst2_two, tup2_two, Bool.false_eq_true, if_false, if_true, Bool.not_true, Bool.not_false, M_near hws hgl hmin, len_w, rng1_nat (szl (show ws.length ≤ 1000 by omega))]
          rw [compM_filter (g := fun k : Nat => D.int k) (F := fun k => if (hm (ws.getD k []) got == m) = true then some (bsD (ws.getD k [])) else none) _ _ fun k hk => by
            have hk := List.mem_range.mp hk
            have h5 : (ws.map fun w => D.int (hm w got : Nat))[k]? = some (.int (hm (ws.getD k []) got : Nat)) := by rw [List.getElem?_map, get_w hk]; rfl
            simp only [nbind, nofr, nseq, nl, nbok, nook, naftnx, naftrt, bok, lok, ook, lstK_lst, lst2_two, tup2_two, Bool.false_eq_true, if_false, if_true, Bool.not_true, Bool.not_false, idx_lst h5, idx_w (get_w hk)]
            rw [e1]
            simp only [nbind, nofr, nseq, nl, nbok, nook, naftnx, naftrt, bok, lok, ook, lstK_lst, lst2_two, tup2_two, Bool.false_eq_true, if_false, if_true, Bool.not_true, Bool.not_false, min_int hmin, eq_nat]
            unfold itM
            simp only [nbind, nofr, nseq, nl, nbok, nook, naftnx, naftrt, bok, lok, ook, lstK_lst, lst2_two, tup2_two, Bool.false_eq_true, if_false, if_true, Bool.not_true, Bool.not_false]
            cases (hm (ws.getD k []) got == m) <;> rfl]
          rw [range_fm ws [] fun w => if (hm w got == m) = true then some (bsD w) else none]
          have e2 : (ws.filterMap fun w => if (hm w got == m) = true then some (bsD w) else none) = (near ws got m).map bsD := by
            exact filt_map (fun w => hm w got == m) ws
          rw [e2]
          simp only [nbind, nofr, nseq, nl, nbok, nook, naftnx, naftrt, bok, lok, ook, lstK_lst, lst2_two, tup2_two, Bool.false_eq_true, if_false, if_true, Bool.not_true, Bool.not_false, tup_lst, ne_self (d := .tup ((near ws got m).map bsD)) (shals_map 59 bsD (fun _ => rfl) _)]
          refine compN_at _ g1 _ (fun k a => a = none ∨ a = some (sent.getD k false)) _ (fun k hk P4 hP4 => ?_) fun g hgl2 hg => ?_
          · rw [List.length_map, List.length_range] at hk
            rw [List.getElem_map, List.getElem_range]
            unfold itN
            try simp only [nbind, nofr, nseq, nl, nbok, nook, naftnx, naftrt, bok, lok, ook, lstK_lst, lst2_two, tup2_two]
            simp only [if_true]
            try simp only [nbind, nofr, nseq, nl, nbok, nook, naftnx, naftrt, bok, lok, ook, lstK_lst, lst2_two, tup2_two]
            refine take_nat (m := 3) (by decide) (by decide) _ fun r hr => ?_
            rw [show (D.int 0) = .int ((0 : Nat) : Int) from rfl]
            simp only [nbind, nofr, nseq, nl, nbok, nook, naftnx, naftrt, bok, lok, ook, lstK_lst, lst2_two, tup2_two, Bool.false_eq_true, if_false, if_true, Bool.not_true, Bool.not_false, eq_nat]
            cases (r == 0)
            · have h5 : sent[k]? = some (sent.getD k false) := by simp [show k < sent.length by omega]
              simp only [nbind, nofr, nseq, nl, nbok, nook, naftnx, naftrt, bok, lok, ook, lstK_lst, lst2_two, tup2_two, Bool.false_eq_true, if_false, if_true, Bool.not_true, Bool.not_false, idx_b (show sent.length ≤ 1000 by omega) h5]
              exact hP4 (some (sent.getD k false)) (.inr rfl)
            · simp only [nbind, nofr, nseq, nl, nbok, nook, naftnx, naftrt, bok, lok, ook, lstK_lst, lst2_two, tup2_two, Bool.false_eq_true, if_false, if_true, Bool.not_true, Bool.not_false]
              exact hP4 none (.inl rfl)
          · rw [List.length_map, List.length_range] at hgl2
            have hgo : GapOf g sent := ⟨by omega, hg⟩
            have ej : joinD [] (.lst (g.map g1)) = some (gD g) := join_f gc (by omega)
            have hlg : ∀ k, k < size → idxD (gD g) (.int k) = some (g1 (g.getD k none)) := fun k hk => by
              unfold gD
              exact idx_str (by rw [List.length_map]; exact szl (by omega)) (by rw [List.getElem?_map]; simp [show k < g.length by omega])
            simp only [nbind, nofr, nseq, nl, nbok, nook, naftnx, naftrt, bok, lok, ook, lstK_lst, lst2_two, tup2_two, Bool.false_eq_true, if_false, if_true, Bool.not_true, Bool.not_false, ej]
            rw [compM_filter (g := bsD) (F := fun w => if fit g w = true then some (bsD w) else none) _ _ fun w hw => by
              have hwz := hws.sz w hw
              rw [compM_map (g := fun k : Nat => D.int k) (F := fun k => D.bl ((fun (a : Option Bool) (b : Bool) => a == none || a == some b) (g.getD k none) (w.getD k false))) _ _ fun k hk => by
                have hk := List.mem_range.mp hk
                have h5 : w[k]? = some (w.getD k false) := by simp [show k < w.length by omega]
                simp only [nbind, nofr, nseq, nl, nbok, nook, naftnx, naftrt, bok, lok, ook, lstK_lst, lst2_two, tup2_two, Bool.false_eq_true, if_false, if_true, Bool.not_true, Bool.not_false, hlg k hk, idx_b (show w.length ≤ 1000 by omega) h5]
                generalize g.getD k none = a
                generalize w.getD k false = b
                rcases a with _ | a
                · cases b <;> rfl
                · cases a <;> cases b <;> rfl]
              simp only [nbind, nofr, nseq, nl, nbok, nook, naftnx, naftrt, bok, lok, ook, lstK_lst, lst2_two, tup2_two, Bool.false_eq_true, if_false, if_true, Bool.not_true, Bool.not_false, all_map (List.range size) fun k => (fun (a : Option Bool) (b : Bool) => a == none || a == some b) (g.getD k none) (w.getD k false), tru_bl]
              have h6 := range_all g w none false (fun (a : Option Bool) (b : Bool) => a == none || a == some b) (by omega)
              rw [show g.length = size by omega] at h6
              rw [h6]
              unfold itM fit
              simp only [nbind, nofr, nseq, nl, nbok, nook, naftnx, naftrt, bok, lok, ook, lstK_lst, lst2_two, tup2_two, Bool.false_eq_true, if_false, if_true, Bool.not_true, Bool.not_false]
              cases ((g.zip w).all fun p => p.1 == none || p.1 == some p.2) <;> rfl]
            have e3 : (ws.filterMap fun w => if fit g w = true then some (bsD w) else none) = (ws.filter (fit g)).map bsD := filt_map (fit g) ws
            rw [e3]
            have hsu := M_sure hws (g := g) (by omega)
            have hfi : (((R.lift (lenD (.lst ((ws.filter (fit g)).map bsD)))).bind fun x220 => R.lift (eqD x220 (D.int 1))).bind fun k => if k = true then R.lift (idxD (.lst ((ws.filter (fit g)).map bsD)) (D.int 0)) else R.ok D.non) = M_surely [wsD ws, gD g] := by
              rw [hsu]
              simp only [nbind, nofr, nseq, nl, nbok, nook, naftnx, naftrt, bok, lok, ook, lstK_lst, lst2_two, tup2_two, Bool.false_eq_true, if_false, if_true, Bool.not_true, Bool.not_false, len_lst, List.length_map]
              rcases hf : ws.filter (fit g) with _ | ⟨w, _ | ⟨w2, r⟩⟩
              · rfl
              · rfl
              · have : eqD (.int ((w :: w2 :: r).length : Nat)) (.int 1) = some false := by
                  rw [show (D.int 1) = .int ((1 : Nat) : Int) from rfl, eq_nat]
                  congr 1
                simp only [nbind, nofr, nseq, nl, nbok, nook, naftnx, naftrt, bok, lok, ook, lstK_lst, lst2_two, tup2_two, Bool.false_eq_true, if_false, if_true, Bool.not_true, Bool.not_false, this]
            obtain ⟨sv, hsv1, hsv2⟩ : ∃ sv, M_surely [wsD ws, gD g] = .ok sv ∧ shal 60 sv = true := ⟨_, hsu, by split <;> rfl⟩
            simp only [nbind, nofr, nseq, nl, nbok, nook, naftnx, naftrt, bok, lok, ook, lstK_lst, lst2_two, tup2_two, Bool.false_eq_true, if_false, if_true, Bool.not_true, Bool.not_false]
            rw [hfi]
            simp only [nbind, nofr, nseq, nl, nbok, nook, naftnx, naftrt, bok, lok, ook, lstK_lst, lst2_two, tup2_two, Bool.false_eq_true, if_false, if_true, Bool.not_true, Bool.not_false, hsv1, ne_self hsv2]
            have hz : ((R.lift (isNotD d D.non)).bind fun k => if k = true then ((((R.lift (iterD (gD g))).bind fun ds => (compM ds fun d229 => itM (R.lift (eqD d229 (D.str [63]))) (R.ok d229)).bind fun xs335 => R.ok (D.lst xs335)).bind fun x59 => R.lift (lenD x59)).bind fun x233 => R.lift (ltD x233 d)).bind fun k => if k = true then R.lift (neD sv (bsD sent)) else R.ok false else R.ok false) = .ok false := by
              rcases hd1 with ⟨e, rfl⟩ | ⟨m, e, rfl⟩
              · rfl
              · have hit : iterD (gD g) = some (g.map g1) := by unfold gD; rw [iter_str (by rw [List.length_map]; exact szl (by omega)), List.map_map]; rfl
                simp only [nbind, nofr, nseq, nl, nbok, nook, naftnx, naftrt, bok, lok, ook, lstK_lst, lst2_two, tup2_two, Bool.false_eq_true, if_false, if_true, Bool.not_true, Bool.not_false, show isNotD (.int (m : Nat)) .non = some true from rfl, hit]
                rw [compM_filter (g := g1) (F := fun a => if (a == none) = true then some (g1 a) else none) _ _ fun a _ => by
                  rcases a with _ | a
                  · rfl
                  · cases a <;> rfl]
                have h7 : (g.filterMap fun a => if (a == none) = true then some (g1 a) else none).length = holes g := by
                  unfold holes
                  have : ∀ g : List (Option Bool), (g.filterMap fun a => if (a == none) = true then some (g1 a) else none).length = (g.filter fun a => a == none).length := by
                    intro g
                    induction g with
                    | nil => rfl
                    | cons a g ih =>
                      rw [List.filterMap_cons, List.filter_cons]
                      cases (a == none)
                      · simpa using ih
                      · simpa using ih
                  exact this g
                simp only [nbind, nofr, nseq, nl, nbok, nook, naftnx, naftrt, bok, lok, ook, lstK_lst, lst2_two, tup2_two, Bool.false_eq_true, if_false, if_true, Bool.not_true, Bool.not_false, len_lst, h7, lt_int]
                by_cases hh : holes g < m
                · rw [decide_eq_true (show (holes g : Int) < (m : Int) by omega)]
                  have hf1 : ws.filter (fit g) = [sent] := filter_one hws.nd hsent (gap_fit hgo) fun w hw hfw => by
                    by_cases e9 : w = sent
                    · exact e9
                    · have h8 := far_le e hw hsent e9
                      have h9 := gap_far hgo (by rw [hws.sz w hw, hsl]) hfw
                      omega
                  rw [hf1] at hsu
                  have : sv = bsD sent := by
                    have h9 := hsv1.symm.trans hsu
                    cases h9
                    rfl
                  subst this
                  simp only [nbind, nofr, nseq, nl, nbok, nook, naftnx, naftrt, bok, lok, ook, lstK_lst, lst2_two, tup2_two, Bool.false_eq_true, if_false, if_true, Bool.not_true, Bool.not_false, ne_b, beq_self_eq_true]
                · rw [decide_eq_false (show ¬ (holes g : Int) < (m : Int) by omega)]
                  simp only [nbind, nofr, nseq, nl, nbok, nook, naftnx, naftrt, bok, lok, ook, lstK_lst, lst2_two, tup2_two, Bool.false_eq_true, if_false, if_true, Bool.not_true, Bool.not_false]
            rw [hz]
            · simp only [nbind, nofr, nseq, nl, nbok, nook, naftnx, naftrt, bok, lok, ook, lstK_lst, lst2_two, tup2_two, Bool.false_eq_true, if_false, if_true, Bool.not_true, Bool.not_false]
              obtain ⟨q, hq1, hq2, hq3⟩ := mend_q hws hd1 hsent
              have hmdq : md = _ := R.ok.inj (hmd2.symm.trans hmd)
              rw [hmdq]
              simp only [nbind, nofr, nseq, nl, nbok, nook, naftnx, naftrt, bok, lok, ook, lstK_lst, lst2_two, tup2_two, Bool.false_eq_true, if_false, if_true, Bool.not_true, Bool.not_false, hq1, rng1_nat (szl (show q ≤ 1000 by omega))]
              refine forN_inv _ _ (fun n (s : D) => ∃ wr, s = bsD wr ∧ wr.length = size ∧ hm sent wr ≤ n) q _ 0 _ ⟨sent, rfl, hsl, by rw [hm_self]; exact Nat.le_refl _⟩ (by simp) (fun k hk s hs P5 hP5 => ?_) fun s hs => ?_
              · obtain ⟨wr, rfl, h5, h6⟩ := hs
                try simp only [nbind, nofr, nseq, nl, nbok, nook, naftnx, naftrt, bok, lok, ook, lstK_lst, lst2_two, tup2_two]
                refine take_nat (m := size) (by omega) (by omega) _ fun pl hpl => ?_
                have h7 : wr[pl]? = some (wr.getD pl false) := by simp [show pl < wr.length by omega]
                have h8 : sent[pl]? = some (sent.getD pl false) := by simp [show pl < sent.length by omega]
                simp only [nbind, nofr, nseq, nl, nbok, nook, naftnx, naftrt, bok, lok, ook, lstK_lst, lst2_two, tup2_two, Bool.false_eq_true, if_false, if_true, Bool.not_true, Bool.not_false, idx_b (show wr.length ≤ 1000 by omega) h7, idx_b (show sent.length ≤ 1000 by omega) h8, eq_c]
                cases (wr.getD pl false == sent.getD pl false)
                · simp only [nbind, nofr, nseq, nl, nbok, nook, naftnx, naftrt, bok, lok, ook, lstK_lst, lst2_two, tup2_two, Bool.false_eq_true, if_false, if_true, Bool.not_true, Bool.not_false]
                  exact hP5 _ ⟨wr, rfl, h5, by omega⟩
                · simp only [nbind, nofr, nseq, nl, nbok, nook, naftnx, naftrt, bok, lok, ook, lstK_lst, lst2_two, tup2_two, Bool.false_eq_true, if_false, if_true, Bool.not_true, Bool.not_false, M_lturn (show wr.length ≤ 1000 by omega) (show pl < wr.length by omega)]
                  have h9 := hm_turn wr pl
                  have h10 := turn_len wr pl
                  have h11 := hm_tri (a := sent) (b := wr) (c := turn wr pl) (by omega) (by omega)
                  exact hP5 _ ⟨turn wr pl, rfl, by omega, by omega⟩
              · obtain ⟨wr, rfl, h5, h6⟩ := hs
                obtain ⟨h7, h8⟩ := near_one hws hsent h5 hq3 h6
                try simp only [nbind, nofr, nseq, nl, nbok, nook, naftnx, naftrt, bok, lok, ook, lstK_lst, lst2_two, tup2_two]
                simp only [nbind, nofr, nseq, nl, nbok, nook, naftnx, naftrt, bok, lok, ook, lstK_lst, lst2_two, tup2_two, Bool.false_eq_true, if_false, if_true, Bool.not_true, Bool.not_false, M_near hws h5 h7, h8]
                rw [show ([sent].map bsD) = [bsD sent] from rfl]
                simp only [nbind, nofr, nseq, nl, nbok, nook, naftnx, naftrt, bok, lok, ook, lstK_lst, lst2_two, tup2_two, Bool.false_eq_true, if_false, if_true, Bool.not_true, Bool.not_false, ne_self (d := .tup [bsD sent]) rfl]
                exact hP'
  · try simp only [nbind, nofr, nseq, nl, nbok, nook, naftnx, naftrt, bok, lok, ook, lstK_lst, lst2_two, tup2_two]
    simp only [nbind, nofr, nseq, nl, nbok, nook, naftnx, naftrt, bok, lok, ook, lstK_lst, lst2_two, tup2_two, Bool.false_eq_true, if_false, if_true, Bool.not_true, Bool.not_false, mulnine, iter_tup]
    refine forN_unit _ _ _ (fun d hd P2 hP2 => ?_) ?_
    · have key : ans__law_code (M_rest_of [.str [49], d]) = .ok (.str [98, 105, 116, 115]) := by
        simp only [List.mem_cons, List.mem_nil_iff, or_false] at hd
        rcases hd with rfl | rfl | rfl | rfl | rfl
        · exact bad_rest (l := [true]) (by decide) (by decide)
        · exact bad_rest (l := [false, true]) (by decide) (by decide)
        · exact bad_rest (l := [true, false]) (by decide) (by decide)
        · exact bad_rest (l := []) (by decide) (by decide)
        · exact bad_rest (l := List.replicate 18 true) (by decide) (by decide)
      simp only [nbind, nofr, nseq, nl, nbok, nook, naftnx, naftrt, bok, lok, ook, lstK_lst, lst2_two, tup2_two, Bool.false_eq_true, if_false, if_true, Bool.not_true, Bool.not_false, key, ne_str, beq_self_eq_true]
      exact hP2
    · try simp only [nbind, nofr, nseq, nl, nbok, nook, naftnx, naftrt, bok, lok, ook, lstK_lst, lst2_two, tup2_two]
      simp only [nbind, nofr, nseq, nl, nbok, nook, naftnx, naftrt, bok, lok, ook, lstK_lst, lst2_two, tup2_two, Bool.false_eq_true, if_false, if_true, Bool.not_true, Bool.not_false, mulnine2, iter_tup]
      refine forN_unit _ _ _ (fun d hd P2 hP2 => ?_) ?_
      · have key : ans__law_code (M_least_distance [d]) = .ok (.str [99, 111, 100, 101]) := by
          simp only [List.mem_cons, List.mem_nil_iff, or_false] at hd
          rcases hd with rfl | rfl | rfl | rfl
          · exact ex_least _ bad_w1
          · exact ex_least _ bad_w2
          · exact ex_least _ bad_w3
          · exact ex_least _ bad_w4
        simp only [nbind, nofr, nseq, nl, nbok, nook, naftnx, naftrt, bok, lok, ook, lstK_lst, lst2_two, tup2_two, Bool.false_eq_true, if_false, if_true, Bool.not_true, Bool.not_false, key, ne_str, beq_self_eq_true]
        exact hP2
      · try simp only [nbind, nofr, nseq, nl, nbok, nook, naftnx, naftrt, bok, lok, ook, lstK_lst, lst2_two, tup2_two]
        simp only [nbind, nofr, nseq, nl, nbok, nook, naftnx, naftrt, bok, lok, ook, lstK_lst, lst2_two, tup2_two, Bool.false_eq_true, if_false, if_true, Bool.not_true, Bool.not_false, bad_sure, eq_str, beq_self_eq_true, Option.map_some]
        rfl
end K23

-- K23Z
set_option Elab.async false
set_option linter.all false
set_option maxRecDepth 100000
set_option maxHeartbeats 0
open PySem PySem.W PyProof.Rows in
set_option maxRecDepth 100000 in
set_option maxHeartbeats 0 in
theorem PySem.Challenge.cw_fewestbits_k23_whole_guarded_bits_holds : PySem.Challenge.rw_fewestbits_k23_whole_guarded_bits.Holds := by
  w_on; o_law; k_head; (case hw => w_witness2)
  k_fill
  refine LamX.walk_ofTs (l := PySem.Challenge.rw_fewestbits_k23_whole_guarded_bits) (n := 63) (k := 10) (x := "script") (CX := fun w => L2.CX PySem.Challenge.rw_fewestbits_k23_whole_guarded_bits.prog w) (by decide +kernel) (by decide) rfl ⟨rfl, by decide, by decide⟩ (fun w h Y => by first | exact PySem.W.km_in_of Y | exact PySem.W.kIn_of Y) ?F (fun w H s e s2 z => DL.cx_no z)
  case F =>
    intro w mg fa h Y KX G hmg
    refine' K23.all_mk (l := PySem.Challenge.rw_fewestbits_k23_whole_guarded_bits) KX G hmg K23.holds_M ?a__law_tape ?l__law_tape ?c__law_tape ?k__law_tape ?a__law_take ?l__law_take ?c__law_take ?k__law_take ?a__law_bits ?l__law_bits ?c__law_bits ?k__law_bits ?a_is_bits ?l_is_bits ?c_is_bits ?k_is_bits ?a_check_bits ?l_check_bits ?c_check_bits ?k_check_bits ?a_check_divisor ?l_check_divisor ?c_check_divisor ?k_check_divisor ?a_number_of ?l_number_of ?c_number_of ?k_number_of ?a_first_turn_of ?l_first_turn_of ?c_first_turn_of ?k_first_turn_of ?a__law_turn ?l__law_turn ?c__law_turn ?k__law_turn ?a__law_far ?l__law_far ?c__law_far ?k__law_far ?a__law_distances ?l__law_distances ?c__law_distances ?k__law_distances ?a__law_rest ?l__law_rest ?c__law_rest ?k__law_rest ?a_check_words ?l_check_words ?c_check_words ?k_check_words ?a_distance ?l_distance ?c_distance ?k_distance ?a_nearest ?l_nearest ?c_nearest ?k_nearest ?a_surely ?l_surely ?c_surely ?k_surely ?a_bits_of ?l_bits_of ?c_bits_of ?k_bits_of ?a_rest_of ?l_rest_of ?c_rest_of ?k_rest_of ?a_guarded ?l_guarded ?c_guarded ?k_guarded ?a_is_whole ?l_is_whole ?c_is_whole ?k_is_whole ?a_unguarded ?l_unguarded ?c_unguarded ?k_unguarded ?a_least_distance ?l_least_distance ?c_least_distance ?k_least_distance ?a_mended_by ?l_mended_by ?c_mended_by ?k_mended_by ?a__law_code ?l__law_code ?c__law_code ?k__law_code ?a_law ?l_law ?c_law ?k_law ?cd_law_e ?cl_law ?e11_law ?e18_law ?e7_law ?e9_law ?e10_law ?ne_law ?nk_law ?tb_law ?nol ?b_abs ?b_all ?b_enumerate ?b_int ?b_len ?b_min ?b_range ?b_set ?b_str ?b_tuple ?b_zip ?g_MOST_BITS ?gk_MOST_BITS ?g_MOST_SIZE ?gk_MOST_SIZE ?x_InvalidBits ?xe_InvalidBits ?xk_InvalidBits ?xs_InvalidBits ?xt_InvalidBits ?x_InvalidCode ?xe_InvalidCode ?xk_InvalidCode ?xs_InvalidCode ?xt_InvalidCode ?x_InvalidNumber ?xe_InvalidNumber ?xk_InvalidNumber ?xs_InvalidNumber ?xt_InvalidNumber ?p_0 ?p_1 ?p_2 ?p_3 ?p_4 ?p_5
    (case a__law_tape => k_is)
    (case l__law_tape => k_is)
    (case c__law_tape => k_is)
    (case k__law_tape => k_is)
    (case a__law_take => k_is)
    (case l__law_take => k_is)
    (case c__law_take => k_is)
    (case k__law_take => k_is)
    (case a__law_bits => k_is)
    (case l__law_bits => k_is)
    (case c__law_bits => k_is)
    (case k__law_bits => k_is)
    (case a_is_bits => k_is)
    (case l_is_bits => k_is)
    (case c_is_bits => k_is)
    (case k_is_bits => k_is)
    (case a_check_bits => k_is)
    (case l_check_bits => k_is)
    (case c_check_bits => k_is)
    (case k_check_bits => k_is)
    (case a_check_divisor => k_is)
    (case l_check_divisor => k_is)
    (case c_check_divisor => k_is)
    (case k_check_divisor => k_is)
    (case a_number_of => k_is)
    (case l_number_of => k_is)
    (case c_number_of => k_is)
    (case k_number_of => k_is)
    (case a_first_turn_of => k_is)
    (case l_first_turn_of => k_is)
    (case c_first_turn_of => k_is)
    (case k_first_turn_of => k_is)
    (case a__law_turn => k_is)
    (case l__law_turn => k_is)
    (case c__law_turn => k_is)
    (case k__law_turn => k_is)
    (case a__law_far => k_is)
    (case l__law_far => k_is)
    (case c__law_far => k_is)
    (case k__law_far => k_is)
    (case a__law_distances => k_is)
    (case l__law_distances => k_is)
    (case c__law_distances => k_is)
    (case k__law_distances => k_is)
    (case a__law_rest => k_is)
    (case l__law_rest => k_is)
    (case c__law_rest => k_is)
    (case k__law_rest => k_is)
    (case a_check_words => k_is)
    (case l_check_words => k_is)
    (case c_check_words => k_is)
    (case k_check_words => k_is)
    (case a_distance => k_is)
    (case l_distance => k_is)
    (case c_distance => k_is)
    (case k_distance => k_is)
    (case a_nearest => k_is)
    (case l_nearest => k_is)
    (case c_nearest => k_is)
    (case k_nearest => k_is)
    (case a_surely => k_is)
    (case l_surely => k_is)
    (case c_surely => k_is)
    (case k_surely => k_is)
    (case a_bits_of => k_is)
    (case l_bits_of => k_is)
    (case c_bits_of => k_is)
    (case k_bits_of => k_is)
    (case a_rest_of => k_is)
    (case l_rest_of => k_is)
    (case c_rest_of => k_is)
    (case k_rest_of => k_is)
    (case a_guarded => k_is)
    (case l_guarded => k_is)
    (case c_guarded => k_is)
    (case k_guarded => k_is)
    (case a_is_whole => k_is)
    (case l_is_whole => k_is)
    (case c_is_whole => k_is)
    (case k_is_whole => k_is)
    (case a_unguarded => k_is)
    (case l_unguarded => k_is)
    (case c_unguarded => k_is)
    (case k_unguarded => k_is)
    (case a_least_distance => k_is)
    (case l_least_distance => k_is)
    (case c_least_distance => k_is)
    (case k_least_distance => k_is)
    (case a_mended_by => k_is)
    (case l_mended_by => k_is)
    (case c_mended_by => k_is)
    (case k_mended_by => k_is)
    (case a__law_code => k_is)
    (case l__law_code => k_is)
    (case c__law_code => k_is)
    (case k__law_code => k_is)
    (case a_law => k_is)
    (case l_law => k_is)
    (case c_law => k_is)
    (case k_law => k_is)
    (case cd_law_e => rfl)
    (case cl_law => k_is)
    (case e11_law => rfl)
    (case e18_law => rfl)
    (case e7_law => rfl)
    (case e9_law => rfl)
    (case e10_law => rfl)
    (case ne_law => decide)
    (case nk_law => first | k_is | rfl | kernel_rfl)
    (case tb_law => exact PySem.W.km_tabs_of Y _ (by decide))
    (case nol => first | kernel_rfl | rfl)
    (case b_abs => k_is)
    (case b_all => k_is)
    (case b_enumerate => k_is)
    (case b_int => k_is)
    (case b_len => k_is)
    (case b_min => k_is)
    (case b_range => k_is)
    (case b_set => k_is)
    (case b_str => k_is)
    (case b_tuple => k_is)
    (case b_zip => k_is)
    (case g_MOST_BITS => k_is)
    (case gk_MOST_BITS => first | kernel_rfl | rfl)
    (case g_MOST_SIZE => k_is)
    (case gk_MOST_SIZE => first | kernel_rfl | rfl)
    (case x_InvalidBits => k_is)
    (case xe_InvalidBits => k_exc)
    (case xk_InvalidBits => k_is)
    (case xs_InvalidBits => k_is)
    (case xt_InvalidBits => k_is)
    (case x_InvalidCode => k_is)
    (case xe_InvalidCode => k_exc)
    (case xk_InvalidCode => k_is)
    (case xs_InvalidCode => k_is)
    (case xt_InvalidCode => k_is)
    (case x_InvalidNumber => k_is)
    (case xe_InvalidNumber => k_exc)
    (case xk_InvalidNumber => k_is)
    (case xs_InvalidNumber => k_is)
    (case xt_InvalidNumber => k_is)
    (case p_0 => first | k_is | rfl)
    (case p_1 => first | k_is | rfl)
    (case p_2 => first | k_is | rfl)
    (case p_3 => first | k_is | rfl)
    (case p_4 => first | k_is | rfl)
    (case p_5 => first | k_is | rfl)
