import PyProof.Rows.All
import Wide.All
import OpenK.AllK
import Wide.FinOn
import HandS.ForMost
import HandS.ForExc
import HandS.Wide
import HandS.Flow
import HandS.IsInst
import HandS.Property
import HandS.Deep
import HandS.Conv
import HandS.EndBits
import HandS.TupAny
import HandS.SortInts
import HandS.RaiseMore
import KE.GoesMore
import HandS.CallSlots
import HandS.Style
import HandS.Defaults
import KE.KStateDown
import HandS.Head0
import HandS.Head1
import HandS.Head2
import HandS.HeadEnd
import HandS.HeadHook1
import HandS.HeadHook2
import PySem.Challenge.RW_slitstairs_k52_boxes_and_what_rests
set_option Elab.async false
set_option linter.all false
section
set_option maxRecDepth 100007
/-! A functional reading of a part of Python: values as trees, one owner for each list that changes. -/
namespace Z
open PySem L2

/-- a value that does not change any more, as a tree -/
inductive D where
  | non | bl (b : Bool) | int (i : Int) | str (x : List Nat)
  | tup (ds : List D) | lst (ds : List D) | obj (c : Nat) (fs : List (Nat × D)) | dct (t : Bool) (kvs : List (D × D)) | set (ds : List D)
  | scr (ns : List Int)
deriving Inhabited

/-- what a slot may own -/
inductive O where
  | val (d : D) | lst (ds : List D) | obj (c : Nat) (fs : List (Nat × D)) | dct (t : Bool) (kvs : List (D × D)) | set (ds : List D)
deriving Inhabited

@[simp] def O.pk : O → D
  | .val d => d
  | .lst ds => .lst ds
  | .obj c fs => .obj c fs
  | .dct t kvs => .dct t kvs
  | .set ds => .set ds

abbrev Zs := List (Option O)
@[simp] def rd (z : Zs) (i : Nat) : Option O := (z[i]?).join

inductive R (α : Type) where
  | ok (a : α) (z : Zs) | exc (c : Nat) (fs : List (Nat × D)) (z : Zs) | bad
def R.bind {α β : Type} (r : R α) (f : α → Zs → R β) : R β :=
  match r with
  | .ok a z => f a z
  | .exc c fs z => .exc c fs z
  | .bad => .bad

/-- where an operand is: made just now, or in a slot -/
inductive Hd where
  | tmp (o : O) | slot (i : Nat)

@[simp] def peek (h : Hd) (z : Zs) : Option D :=
  match h with
  | .tmp o => some o.pk
  | .slot i => (rd z i).map O.pk
/-- its value for good: a slot's own thing is shared from now on -/
@[simp] def take (h : Hd) (z : Zs) : Option (O × Zs) :=
  match h with
  | .tmp o => some (o, z)
  | .slot i => match rd z i with
    | some (.val d) => some (.val d, z)
    | some o => some (.val o.pk, z.set i (some (.val o.pk)))
    | none => none
@[simp] def takeD (h : Hd) (z : Zs) : Option (D × Zs) := (take h z).map fun p => (p.1.pk, p.2)

inductive Bop where | add | sub | mul | fdiv | mod | pow | shl | shr | band | bor | bxor
deriving DecidableEq
inductive Cop where | eq | ne | lt | le | gt | ge | is | isnot | inn | notin
deriving DecidableEq

/-! ### == of trees -/
mutual
def eqD : D → D → Bool
  | .non, .non => true
  | .bl a, .bl b => a == b
  | .bl a, .int b => (if a then 1 else 0) == b
  | .int a, .bl b => a == (if b then 1 else 0)
  | .int a, .int b => a == b
  | .str a, .str b => a == b
  | .tup xs, .tup ys => eqDs xs ys
  | .lst xs, .lst ys => eqDs xs ys
  | _, _ => false
def eqDs : List D → List D → Bool
  | [], [] => true
  | x :: xs, y :: ys => eqD x y && eqDs xs ys
  | _, _ => false
end
mutual
/-- plain data: == on it is eqD -/
def plain : D → Bool
  | .non => true | .bl _ => true | .int _ => true | .str _ => true
  | .tup xs => plains xs
  | .lst xs => plains xs
  | _ => false
def plains : List D → Bool
  | [] => true
  | x :: xs => plain x && plains xs
end
end Z
end

section
set_option maxRecDepth 100007
/-! What a value stands for in the abstract heap. -/
namespace Z
open PySem L2

/-- the written part, the names by number, the classes by number -/
structure Gx where
  K : PySem.W.Frag
  nm : List Str
  cls : Nat → Addr

def Gx.name (G : Gx) (i : Nat) : Str := G.nm.getD i Str.empty

abbrev Fz := Addr → Prop
def KLst (K : PySem.W.Frag) (a : Addr) (xs : List V) : Prop :=
  ∃ (o : Obj) (its : Array Value) (n : Nat), K.lookup a = some o ∧ o.cls = .type "list" ∧ o.dict = none ∧ o.data = .seq its n ∧ its.size ≤ sizeLine ∧ Vals xs its.toList
def KTup (K : PySem.W.Frag) (a : Addr) (xs : List V) : Prop :=
  ∃ (o : Obj) (its : Array Value) (n : Nat), K.lookup a = some o ∧ o.cls = .type "tuple" ∧ o.data = .seq its n ∧ its.size ≤ sizeLine ∧ Vals xs its.toList
def TupAt (K : PySem.W.Frag) (H : Hp) (F : Fz) (a : Addr) (xs : List V) : Prop := (F a ∧ H a = some (.tup xs)) ∨ (xs = [] ∧ KTup K a xs)

theorem TupAt.own {K : PySem.W.Frag} {H : Hp} {F : Fz} {a : Addr} {xs : List V} (h : TupAt K H F a xs) (n : xs ≠ []) : H a = some (.tup xs) := h.elim (fun h => h.2) fun h => (n h.1).elim

/-- the signs of a text -/
def txtOk (x : List Nat) : Bool := x.all (· < 0x110000)
/-- a dict's key as a tree -/
def keyD : Key → D
  | .inl i => .int i
  | .inr x => .str x.cps.toList
def DK (x : Key) (d : D) : Prop := d = keyD x

mutual
inductive RepD (G : Gx) (H : Hp) (F : Fz) : V → D → Prop
  | non : RepD G H F .non .non
  | bl (b : Bool) : RepD G H F (.bl b) (.bl b)
  | int (i : Int) : RepD G H F (.int i) (.int i)
  | str {x : List Nat} : txtOk x = true → RepD G H F (.str ⟨x.toArray⟩) (.str x)
  | tup {a : Addr} {vs : List V} {ds : List D} : TupAt G.K H F a vs → RepDs G H F vs ds → RepD G H F (.ref a) (.tup ds)
  | lst {a : Addr} {vs : List V} {ds : List D} : F a → H a = some (.lst vs) → RepDs G H F vs ds → RepD G H F (.ref a) (.lst ds)
  | obj {a dx : Addr} {c : Nat} {fvs : List (Str × V)} {fs : List (Nat × D)} : F a → H a = some (.ins (G.cls c) dx fvs) → RepFs G H F fvs fs → RepD G H F (.ref a) (.obj c fs)
  | dct {a : Addr} {kvs : List (Key × V)} {ds : List (D × D)} : F a → H a = some (.dK kvs) → RepKs G H F kvs ds → RepD G H F (.ref a) (.dct false ds)
  | dctT {a : Addr} {kvs : List (List Key × V)} {ds : List (D × D)} : F a → H a = some (.dT kvs) → RepTs G H F kvs ds → RepD G H F (.ref a) (.dct true ds)
  | scr {a : Addr} {ns : List Int} : (F a ∧ Rd H a (.lst (ns.map V.int))) ∨ KLst G.K a (ns.map V.int) → RepD G H F (.ref a) (.scr ns)
inductive RepDs (G : Gx) (H : Hp) (F : Fz) : List V → List D → Prop
  | nil : RepDs G H F [] []
  | cons {v : V} {d : D} {vs : List V} {ds : List D} : RepD G H F v d → RepDs G H F vs ds → RepDs G H F (v :: vs) (d :: ds)
inductive RepFs (G : Gx) (H : Hp) (F : Fz) : List (Str × V) → List (Nat × D) → Prop
  | nil : RepFs G H F [] []
  | cons {x : Str} {n : Nat} {v : V} {d : D} {vs : List (Str × V)} {ds : List (Nat × D)} : n < G.nm.length → x = G.name n → RepD G H F v d → RepFs G H F vs ds → RepFs G H F ((x, v) :: vs) ((n, d) :: ds)
inductive RepKs (G : Gx) (H : Hp) (F : Fz) : List (Key × V) → List (D × D) → Prop
  | nil : RepKs G H F [] []
  | cons {k : Key} {v : V} {e d : D} {vs : List (Key × V)} {ds : List (D × D)} : e = keyD k → RepD G H F v d → RepKs G H F vs ds → RepKs G H F ((k, v) :: vs) ((e, d) :: ds)
inductive RepTs (G : Gx) (H : Hp) (F : Fz) : List (List Key × V) → List (D × D) → Prop
  | nil : RepTs G H F [] []
  | cons {k : List Key} {v : V} {e d : D} {vs : List (List Key × V)} {ds : List (D × D)} : e = .tup (k.map keyD) → RepD G H F v d → RepTs G H F vs ds → RepTs G H F ((k, v) :: vs) ((e, d) :: ds)
end

/-- a later heap: what is shared stays -/
def Lat (H : Hp) (F : Fz) (H' : Hp) (F' : Fz) : Prop := (∀ a, F a → F' a) ∧ ∀ a o, F a → H a = some o → H' a = some o
theorem Lat.refl {H : Hp} {F : Fz} : Lat H F H F := ⟨fun _ h => h, fun _ _ _ h => h⟩
theorem Lat.trans {H H1 H2 : Hp} {F F1 F2 : Fz} (a : Lat H F H1 F1) (b : Lat H1 F1 H2 F2) : Lat H F H2 F2 :=
  ⟨fun x h => b.1 x (a.1 x h), fun x o f h => b.2 x o (a.1 x f) (a.2 x o f h)⟩

theorem TupAt.lat {K : PySem.W.Frag} {H H' : Hp} {F F' : Fz} {a : Addr} {xs : List V} (l : Lat H F H' F') (h : TupAt K H F a xs) : TupAt K H' F' a xs := h.elim (fun h => .inl ⟨l.1 a h.1, l.2 a _ h.1 h.2⟩) .inr
theorem TupAt.sq {K : PySem.W.Frag} {H : Hp} {F : Fz} {a : Addr} {xs : List V} (h : TupAt K H F a xs) : SqT K H a xs := h.elim (fun h => .inl (.inl h.2)) fun h => .inr h.2

section
variable {G : Gx} {H H' : Hp} {F F' : Fz}
mutual
theorem RepD.lat (l : Lat H F H' F') : ∀ {v : V} {d : D}, RepD G H F v d → RepD G H' F' v d
  | _, _, .non => .non
  | _, _, .bl b => .bl b
  | _, _, .int i => .int i
  | _, _, .str h => .str h
  | _, _, .tup h r => .tup (h.lat l) (RepDs.lat l r)
  | _, _, .lst f h r => .lst (l.1 _ f) (l.2 _ _ f h) (RepDs.lat l r)
  | _, _, .obj f h r => .obj (l.1 _ f) (l.2 _ _ f h) (RepFs.lat l r)
  | _, _, .dct f h r => .dct (l.1 _ f) (l.2 _ _ f h) (RepKs.lat l r)
  | _, _, .dctT f h r => .dctT (l.1 _ f) (l.2 _ _ f h) (RepTs.lat l r)
  | _, _, .scr h => .scr (by
      rcases h with ⟨f, h | ⟨o, h⟩⟩ | h
      · exact .inl ⟨l.1 _ f, .inl (l.2 _ _ f h)⟩
      · exact .inl ⟨l.1 _ f, .inr ⟨o, l.2 _ _ f h⟩⟩
      · exact .inr h)
theorem RepDs.lat (l : Lat H F H' F') : ∀ {vs : List V} {ds : List D}, RepDs G H F vs ds → RepDs G H' F' vs ds
  | _, _, .nil => .nil
  | _, _, .cons h r => .cons (RepD.lat l h) (RepDs.lat l r)
theorem RepFs.lat (l : Lat H F H' F') : ∀ {vs : List (Str × V)} {ds : List (Nat × D)}, RepFs G H F vs ds → RepFs G H' F' vs ds
  | _, _, .nil => .nil
  | _, _, .cons a b h r => .cons a b (RepD.lat l h) (RepFs.lat l r)
theorem RepKs.lat (l : Lat H F H' F') : ∀ {vs : List (Key × V)} {ds : List (D × D)}, RepKs G H F vs ds → RepKs G H' F' vs ds
  | _, _, .nil => .nil
  | _, _, .cons b h r => .cons b (RepD.lat l h) (RepKs.lat l r)
theorem RepTs.lat (l : Lat H F H' F') : ∀ {vs : List (List Key × V)} {ds : List (D × D)}, RepTs G H F vs ds → RepTs G H' F' vs ds
  | _, _, .nil => .nil
  | _, _, .cons b h r => .cons b (RepD.lat l h) (RepTs.lat l r)
end
end

/-- what a slot owns, and the objects that are its own -/
inductive RepO (G : Gx) (H : Hp) (F : Fz) : V → O → List Addr → Prop
  | val {v : V} {d : D} : RepD G H F v d → RepO G H F v (.val d) []
  | lst {a : Addr} {vs : List V} {ds : List D} : H a = some (.lst vs) → RepDs G H F vs ds → RepO G H F (.ref a) (.lst ds) [a]
  | obj {a dx : Addr} {c : Nat} {fvs : List (Str × V)} {fs : List (Nat × D)} : H a = some (.ins (G.cls c) dx fvs) → RepFs G H F fvs fs → RepO G H F (.ref a) (.obj c fs) [a]
  | dct {a : Addr} {kvs : List (Key × V)} {ds : List (D × D)} : H a = some (.dK kvs) → RepKs G H F kvs ds → RepO G H F (.ref a) (.dct false ds) [a]
  | dctT {a : Addr} {kvs : List (List Key × V)} {ds : List (D × D)} : H a = some (.dT kvs) → RepTs G H F kvs ds → RepO G H F (.ref a) (.dct true ds) [a]

/-- a heap in which the objects not at fp stay -/
def Stay (fp : List Addr) (H H' : Hp) : Prop := ∀ a o, a ∉ fp → H a = some o → H' a = some o
theorem Stay.refl {fp : List Addr} {H : Hp} : Stay fp H H := fun _ _ _ h => h
theorem Stay.trans {fp fp' : List Addr} {H H1 H2 : Hp} (x : Stay fp H H1) (y : Stay fp' H1 H2) (hs : ∀ a o, a ∉ fp → H a = some o → a ∉ fp') : Stay fp H H2 :=
  fun a o h e => y a o (hs a o h e) (x a o h e)

theorem RepO.there {G : Gx} {H : Hp} {F : Fz} {v : V} {o : O} {f : List Addr} (r : RepO G H F v o f) : ∀ a ∈ f, ∃ u, H a = some u := by
  cases r with
  | val _ => intro a h; cases h
  | lst h _ => intro b hb; rw [List.mem_singleton.mp hb]; exact ⟨_, h⟩
  | obj h _ => intro b hb; rw [List.mem_singleton.mp hb]; exact ⟨_, h⟩
  | dct h _ => intro b hb; rw [List.mem_singleton.mp hb]; exact ⟨_, h⟩
  | dctT h _ => intro b hb; rw [List.mem_singleton.mp hb]; exact ⟨_, h⟩
/-- it stays what it is while its own objects stay -/
theorem RepO.stay {G : Gx} {H H' : Hp} {F F' : Fz} {v : V} {o : O} {f fp : List Addr} (r : RepO G H F v o f) (l : Lat H F H' F') (st : Stay fp H H') (dj : ∀ a ∈ f, a ∉ fp) : RepO G H' F' v o f := by
  cases r with
  | val h => exact .val (h.lat l)
  | lst h r => exact .lst (st _ _ (dj _ (by simp)) h) (r.lat l)
  | obj h r => exact .obj (st _ _ (dj _ (by simp)) h) (r.lat l)
  | dct h r => exact .dct (st _ _ (dj _ (by simp)) h) (r.lat l)
  | dctT h r => exact .dctT (st _ _ (dj _ (by simp)) h) (r.lat l)
end Z
end

section
set_option maxRecDepth 100007
/-! States, steps, and the readings of expressions. -/
namespace Z
open PySem L2

abbrev Ows := Nat → List Addr
def Own (ow : Ows) : Addr → Prop := fun a => ∃ i, a ∈ ow i

/-- the slots σ over H stand for z -/
structure SRep (G : Gx) (H : Hp) (F : Fz) (σ : L2.St) (z : Zs) (ow : Ows) : Prop where
  len : z.length = σ.length
  rep : ∀ i o, rd z i = some o → ∃ v, σ[i]? = some (some v) ∧ RepO G H F v o (ow i)
  emp : ∀ i, rd z i = none → ow i = []
  dj : ∀ i j a, a ∈ ow i → a ∈ ow j → i = j
  nf : ∀ i a, a ∈ ow i → ¬ F a
  ft : ∀ a, F a → ∃ o, H a = some o

def StayP (P : Addr → Prop) (H H' : Hp) : Prop := ∀ a o, ¬ P a → H a = some o → H' a = some o
/-- from (H, F), where P may change, to (H', F'), where P' is owned -/
structure Stp (H : Hp) (F : Fz) (P : Addr → Prop) (H' : Hp) (F' : Fz) (P' : Addr → Prop) : Prop where
  lat : Lat H F H' F'
  there : ∀ a o, H a = some o → ∃ o', H' a = some o'
  stay : StayP P H H'
  fr : ∀ a, F' a → F a ∨ P a ∨ H a = none
  fp : ∀ a, P' a → P a ∨ H a = none
  nf : ∀ a, P' a → ¬ F' a
  tr : ∀ a, P' a → ∃ o, H' a = some o
  ft : ∀ a, F' a → ∃ o, H' a = some o

section
variable {G : Gx} {H H1 H2 H' : Hp} {F F1 F2 F' : Fz} {P P1 P2 P' f1 : Addr → Prop}
theorem none_of {a : Addr} (h : ∀ o, H a = some o → False) : H a = none := by
  cases e : H a with
  | none => rfl
  | some o => exact (h o e).elim
theorem Stp.back (s : Stp H F P H1 F1 P1) {a : Addr} (h : H1 a = none) : H a = none := none_of fun o e => by
  obtain ⟨o', e'⟩ := s.there a o e
  rw [h] at e'; cases e'
theorem Stp.refl (nf : ∀ a, P a → ¬ F a) (tr : ∀ a, P a → ∃ o, H a = some o) (ft : ∀ a, F a → ∃ o, H a = some o) : Stp H F P H F P :=
  ⟨Lat.refl, fun a o e => ⟨o, e⟩, fun _ _ _ e => e, fun _ h => .inl h, fun _ h => .inl h, nf, tr, ft⟩
theorem Stp.weak (s : Stp H F P H1 F1 P1) (h : ∀ a, P2 a → P1 a) : Stp H F P H1 F1 P2 :=
  ⟨s.lat, s.there, s.stay, s.fr, fun a p => s.fp a (h a p), fun a p => s.nf a (h a p), fun a p => s.tr a (h a p), s.ft⟩
/-- the frame: what was made on the way (f1) is left alone by the second step -/
theorem Stp.frame (s1 : Stp H F P H1 F1 (fun a => P1 a ∨ f1 a)) (dj : ∀ a, f1 a → ¬ P1 a) (s2 : Stp H1 F1 P1 H2 F2 P2) : Stp H F P H2 F2 (fun a => P2 a ∨ f1 a) ∧ ∀ a, f1 a → ¬ P2 a := by
  refine ⟨⟨s1.lat.trans s2.lat, fun a o e => ?_, fun a o np e => ?_, fun a h => ?_, fun a h => ?_, fun a h => ?_, fun a h => ?_, s2.ft⟩, fun a h p => ?_⟩
  · obtain ⟨o1, e1⟩ := s1.there a o e
    exact s2.there a o1 e1
  · refine s2.stay a o (fun p => ?_) (s1.stay a o np e)
    rcases s1.fp a (.inl p) with q | q
    · exact np q
    · rw [e] at q; cases q
  · rcases s2.fr a h with q | q | q
    · exact s1.fr a q
    · rcases s1.fp a (.inl q) with r | r
      · exact .inr (.inl r)
      · exact .inr (.inr r)
    · exact .inr (.inr (s1.back q))
  · rcases h with h | h
    · rcases s2.fp a h with q | q
      · exact s1.fp a (.inl q)
      · exact .inr (s1.back q)
    · exact s1.fp a (.inr h)
  · rcases h with h | h
    · exact s2.nf a h
    · intro q
      rcases s2.fr a q with r | r | r
      · exact s1.nf a (.inr h) r
      · exact dj a h r
      · obtain ⟨o, e⟩ := s1.tr a (.inr h)
        rw [r] at e; cases e
  · rcases h with h | h
    · exact s2.tr a h
    · obtain ⟨o, e⟩ := s1.tr a (.inr h)
      exact s2.there a o e
  · rcases s2.fp a p with r | r
    · exact dj a h r
    · obtain ⟨o, e⟩ := s1.tr a (.inr h)
      rw [r] at e; cases e
theorem Stp.trans (s1 : Stp H F P H1 F1 P1) (s2 : Stp H1 F1 P1 H2 F2 P2) : Stp H F P H2 F2 P2 :=
  ((s1.weak (P2 := fun a => P1 a ∨ False) fun a h => h.elim id False.elim).frame (fun _ h => h.elim) s2).1.weak fun a h => .inl h
theorem RepO.stp {v : V} {o : O} {f : List Addr} (r : RepO G H F v o f) (s : Stp H F P H' F' P') (dj : ∀ a ∈ f, ¬ P a) : RepO G H' F' v o f := by
  cases r with
  | val h => exact .val (h.lat s.lat)
  | lst h r => exact .lst (s.stay _ _ (dj _ (by simp)) h) (r.lat s.lat)
  | obj h r => exact .obj (s.stay _ _ (dj _ (by simp)) h) (r.lat s.lat)
  | dct h r => exact .dct (s.stay _ _ (dj _ (by simp)) h) (r.lat s.lat)
  | dctT h r => exact .dctT (s.stay _ _ (dj _ (by simp)) h) (r.lat s.lat)
theorem SRep.own {σ : L2.St} {z : Zs} {ow : Ows} (s : SRep G H F σ z ow) : ∀ a, Own ow a → ∃ o, H a = some o := fun a ⟨i, h⟩ => by
  cases e : rd z i with
  | none => rw [s.emp i e] at h; cases h
  | some o =>
    obtain ⟨v, _, r⟩ := s.rep i o e
    exact r.there a h
theorem SRep.nfo {σ : L2.St} {z : Zs} {ow : Ows} (s : SRep G H F σ z ow) : ∀ a, Own ow a → ¬ F a := fun a ⟨i, h⟩ => s.nf i a h
theorem SRep.refl {σ : L2.St} {z : Zs} {ow : Ows} (s : SRep G H F σ z ow) : Stp H F (Own ow) H F (Own ow) := Stp.refl s.nfo s.own s.ft
/-- a step that leaves the slots' own things alone -/
theorem SRep.stp {σ : L2.St} {z : Zs} {ow : Ows} (s : SRep G H F σ z ow) (st : Stp H F P H' F' P') (dj : ∀ a, Own ow a → ¬ P a) : SRep G H' F' σ z ow := by
  refine ⟨s.len, fun i o e => ?_, s.emp, s.dj, fun i a h q => ?_, st.ft⟩
  · obtain ⟨v, e1, r⟩ := s.rep i o e
    exact ⟨v, e1, r.stp st fun a h => dj a ⟨i, h⟩⟩
  · rcases st.fr a q with x | x | x
    · exact s.nf i a h x
    · exact dj a ⟨i, h⟩ x
    · obtain ⟨o, e⟩ := s.own a ⟨i, h⟩
      rw [x] at e; cases e
end

/-! ### slots taken out and put back -/
theorem rd_set_ne {z : Zs} {i j : Nat} {x : Option O} (h : i ≠ j) : rd (z.set i x) j = rd z j := by
  unfold rd; rw [List.getElem?_set_ne h]
theorem rd_set_self {z : Zs} {i : Nat} {x : Option O} (h : i < z.length) : rd (z.set i x) i = x := by
  unfold rd; rw [List.getElem?_set_self h]; rfl
theorem rd_lt {z : Zs} {i : Nat} {o : O} (h : rd z i = some o) : i < z.length := by
  unfold rd at h
  cases e : z[i]? with
  | none => rw [e] at h; cases h
  | some x => exact (List.getElem?_eq_some_iff.mp e).1
theorem rd_ge {z : Zs} {i : Nat} (h : z.length ≤ i) : rd z i = none := by
  unfold rd; rw [List.getElem?_eq_none h]; rfl
def ow0 (ow : Ows) (i : Nat) : Ows := fun j => if j = i then [] else ow j
def ow1 (ow : Ows) (i : Nat) (f : List Addr) : Ows := fun j => if j = i then f else ow j
section
variable {G : Gx} {H : Hp} {F : Fz} {σ : L2.St} {z : Zs} {ow : Ows}
theorem SRep.lend (s : SRep G H F σ z ow) (i : Nat) : SRep G H F σ (z.set i none) (ow0 ow i) := by
  refine ⟨by rw [List.length_set]; exact s.len, fun j o e => ?_, fun j e => ?_, fun j k a h1 h2 => ?_, fun j a h => ?_, s.ft⟩
  · by_cases hj : j = i
    · subst hj
      by_cases hl : j < z.length
      · rw [rd_set_self hl] at e; cases e
      · rw [rd_ge (by rw [List.length_set]; omega)] at e; cases e
    · rw [rd_set_ne (Ne.symm hj)] at e
      obtain ⟨v, e1, r⟩ := s.rep j o e
      exact ⟨v, e1, by unfold ow0; rw [if_neg hj]; exact r⟩
  · by_cases hj : j = i
    · unfold ow0; rw [if_pos hj]
    · rw [rd_set_ne (Ne.symm hj)] at e
      unfold ow0; rw [if_neg hj]; exact s.emp j e
  · unfold ow0 at h1 h2
    split at h1
    · cases h1
    · split at h2
      · cases h2
      · exact s.dj j k a h1 h2
  · unfold ow0 at h
    split at h
    · cases h
    · exact s.nf j a h
/-- slot i given a thing whose own objects are apart -/
theorem SRep.give {i : Nat} {v : V} {o : O} {f : List Addr} (s : SRep G H F σ z ow) (hi : σ[i]? = some (some v)) (r : RepO G H F v o f) (dj : ∀ a ∈ f, ¬ Own (ow0 ow i) a) (nf : ∀ a ∈ f, ¬ F a) : SRep G H F σ (z.set i (some o)) (ow1 ow i f) := by
  have hl : i < z.length := by
    rw [s.len]; exact (List.getElem?_eq_some_iff.mp hi).1
  refine ⟨by rw [List.length_set]; exact s.len, fun j o' e => ?_, fun j e => ?_, fun j k a h1 h2 => ?_, fun j a h => ?_, s.ft⟩
  · by_cases hj : j = i
    · subst hj
      rw [rd_set_self hl] at e
      cases e
      exact ⟨v, hi, by unfold ow1; rw [if_pos rfl]; exact r⟩
    · rw [rd_set_ne (Ne.symm hj)] at e
      obtain ⟨v', e1, r'⟩ := s.rep j o' e
      exact ⟨v', e1, by unfold ow1; rw [if_neg hj]; exact r'⟩
  · by_cases hj : j = i
    · subst hj
      rw [rd_set_self hl] at e; cases e
    · rw [rd_set_ne (Ne.symm hj)] at e
      unfold ow1; rw [if_neg hj]; exact s.emp j e
  · unfold ow1 at h1 h2
    split at h1
    · rename_i hj
      split at h2
      · rename_i hk; rw [hj, hk]
      · rename_i hk
        exact (dj a h1 ⟨k, by unfold ow0; rw [if_neg hk]; exact h2⟩).elim
    · rename_i hj
      split at h2
      · exact (dj a h2 ⟨j, by unfold ow0; rw [if_neg hj]; exact h1⟩).elim
      · exact s.dj j k a h1 h2
  · unfold ow1 at h
    split at h
    · exact nf a h
    · exact s.nf j a h
theorem own_ow0 {i : Nat} {a : Addr} (h : Own (ow0 ow i) a) : Own ow a := by
  obtain ⟨j, h⟩ := h
  unfold ow0 at h
  split at h
  · cases h
  · exact ⟨j, h⟩
theorem own_ow1 {i : Nat} {f : List Addr} {a : Addr} (h : Own (ow1 ow i f) a) : Own (ow0 ow i) a ∨ a ∈ f := by
  obtain ⟨j, h⟩ := h
  unfold ow1 at h
  split at h
  · exact .inr h
  · rename_i hj
    exact .inl ⟨j, by unfold ow0; rw [if_neg hj]; exact h⟩
/-- a slot of the frame gets a new value -/
theorem SRep.store {i : Nat} {v : V} {o : O} {f : List Addr} (s : SRep G H F σ z ow) (hi : i < σ.length) (r : RepO G H F v o f) (dj : ∀ a ∈ f, ¬ Own (ow0 ow i) a) (nf : ∀ a ∈ f, ¬ F a) : SRep G H F (σ.set i (some v)) (z.set i (some o)) (ow1 ow i f) := by
  have s' : SRep G H F (σ.set i (some v)) (z.set i none) (ow0 ow i) := by
    have l := s.lend i
    refine ⟨by rw [List.length_set, List.length_set]; exact s.len, fun j o' e => ?_, l.emp, l.dj, l.nf, s.ft⟩
    obtain ⟨v', e1, r'⟩ := l.rep j o' e
    have hj : i ≠ j := by
      intro h
      subst h
      rw [rd_set_self (by rw [s.len]; exact hi)] at e; cases e
    exact ⟨v', by rw [List.getElem?_set_ne hj]; exact e1, r'⟩
  have g := s'.give (i := i) (v := v) (o := o) (f := f) (by rw [List.getElem?_set_self hi]) r (fun a h q => dj a h (by
    obtain ⟨j, h2⟩ := q
    unfold ow0 at h2
    split at h2
    · cases h2
    · rename_i hj
      exact ⟨j, by unfold ow0; rw [if_neg hj]; exact h2⟩)) nf
  rw [List.set_set] at g
  have e : ow1 (ow0 ow i) i f = ow1 ow i f := by
    funext j; unfold ow1 ow0; split <;> rfl
  rw [e] at g
  exact g
/-- a slot forgotten -/
theorem SRep.drop (s : SRep G H F σ z ow) (i : Nat) (x : Option V) : SRep G H F (σ.set i x) (z.set i none) (ow0 ow i) := by
  have l := s.lend i
  refine ⟨by rw [List.length_set, List.length_set]; exact s.len, fun j o' e => ?_, l.emp, l.dj, l.nf, s.ft⟩
  obtain ⟨v', e1, r'⟩ := l.rep j o' e
  have hj : i ≠ j := by
    intro h
    subst h
    by_cases hl : i < z.length
    · rw [rd_set_self hl] at e; cases e
    · rw [rd_ge (by rw [List.length_set]; omega)] at e; cases e
  exact ⟨v', by rw [List.getElem?_set_ne hj]; exact e1, r'⟩
end
end Z
end

section
set_option maxRecDepth 100007
/-! Operands, what they are read as, sharing. -/
namespace Z
open PySem L2
section
variable {G : Gx} {H H1 H2 H' : Hp} {F F1 F2 F' : Fz} {P P1 P2 P' : Addr → Prop} {σ : L2.St} {z z' : Zs} {ow : Ows} {v : V} {o : O} {f g : List Addr}

/-- read as a tree: the root may be owned -/
inductive RepR (G : Gx) (H : Hp) (F : Fz) : V → D → Prop
  | of {v : V} {d : D} : RepD G H F v d → RepR G H F v d
  | lst {a : Addr} {vs : List V} {ds : List D} : H a = some (.lst vs) → RepDs G H F vs ds → RepR G H F (.ref a) (.lst ds)
  | obj {a dx : Addr} {c : Nat} {fvs : List (Str × V)} {fs : List (Nat × D)} : H a = some (.ins (G.cls c) dx fvs) → RepFs G H F fvs fs → RepR G H F (.ref a) (.obj c fs)
  | dct {a : Addr} {kvs : List (Key × V)} {ds : List (D × D)} : H a = some (.dK kvs) → RepKs G H F kvs ds → RepR G H F (.ref a) (.dct false ds)
  | dctT {a : Addr} {kvs : List (List Key × V)} {ds : List (D × D)} : H a = some (.dT kvs) → RepTs G H F kvs ds → RepR G H F (.ref a) (.dct true ds)
theorem RepO.r (h : RepO G H F v o f) : RepR G H F v o.pk := by
  cases h with
  | val h => exact .of h
  | lst h r => exact .lst h r
  | obj h r => exact .obj h r
  | dct h r => exact .dct h r
  | dctT h r => exact .dctT h r

/-! ### sharing -/
def plus (F : Fz) (f : List Addr) : Fz := fun a => F a ∨ a ∈ f
theorem lat_plus : Lat H F H (plus F f) := ⟨fun _ h => .inl h, fun _ _ _ h => h⟩
theorem RepO.freeze (h : RepO G H F v o f) : RepD G H (plus F f) v o.pk := by
  cases h with
  | val h => exact h.lat lat_plus
  | lst h r => exact .lst (.inr (by simp)) h (r.lat lat_plus)
  | obj h r => exact .obj (.inr (by simp)) h (r.lat lat_plus)
  | dct h r => exact .dct (.inr (by simp)) h (r.lat lat_plus)
  | dctT h r => exact .dctT (.inr (by simp)) h (r.lat lat_plus)
/-- f leaves what is owned and is shared -/
theorem Stp.share (s : Stp H F P H1 F1 (fun a => P1 a ∨ a ∈ f)) (dj : ∀ a ∈ f, ¬ P1 a) : Stp H F P H1 (plus F1 f) P1 := by
  refine ⟨s.lat.trans lat_plus, s.there, s.stay, fun a h => ?_, fun a h => s.fp a (.inl h), fun a h q => ?_, fun a h => s.tr a (.inl h), fun a h => h.elim (s.ft a) fun h => s.tr a (.inr h)⟩
  · rcases h with h | h
    · exact s.fr a h
    · rcases s.fp a (.inr h) with q | q
      · exact .inr (.inl q)
      · exact .inr (.inr q)
  · rcases q with q | q
    · exact s.nf a (.inl h) q
    · exact dj a q h
theorem RepO.plus {f' : List Addr} (r : RepO G H F v o f) : RepO G H (plus F f') v o f := by
  cases r with
  | val h => exact .val (h.lat lat_plus)
  | lst h r => exact .lst h (r.lat lat_plus)
  | obj h r => exact .obj h (r.lat lat_plus)
  | dct h r => exact .dct h (r.lat lat_plus)
  | dctT h r => exact .dctT h (r.lat lat_plus)
theorem SRep.plus (s : SRep G H F σ z ow) (dj : ∀ a ∈ f, ¬ Own ow a) (tr : ∀ a ∈ f, ∃ u, H a = some u) : SRep G H (plus F f) σ z ow := by
  refine ⟨s.len, fun i o e => ?_, s.emp, s.dj, fun i a h q => ?_, fun a h => h.elim (s.ft a) (tr a)⟩
  · obtain ⟨v, e1, r⟩ := s.rep i o e
    exact ⟨v, e1, r.plus⟩
  · rcases q with q | q
    · exact s.nf i a h q
    · exact dj a q ⟨i, h⟩
/-- a slot's own thing is shared -/
theorem SRep.share {i : Nat} (s : SRep G H F σ z ow) (e : rd z i = some o) : ∃ v, σ[i]? = some (some v) ∧ RepD G H (Z.plus F (ow i)) v o.pk ∧ SRep G H (Z.plus F (ow i)) σ (z.set i (some (.val o.pk))) (ow0 ow i) := by
  obtain ⟨v, e1, r⟩ := s.rep i o e
  have d := r.freeze
  have dj : ∀ a ∈ ow i, ¬ Own (ow0 ow i) a := fun a h ⟨j, h2⟩ => by
    unfold ow0 at h2
    split at h2
    · cases h2
    · rename_i hj
      exact hj (s.dj j i a h2 h)
  have s2 : SRep G H (Z.plus F (ow i)) σ (z.set i none) (ow0 ow i) := (s.lend i).plus dj r.there
  have s3 := s2.give (i := i) e1 (.val d) (f := []) (fun a h => by cases h) (fun a h => by cases h)
  rw [List.set_set] at s3
  have : ow1 (ow0 ow i) i [] = ow0 ow i := by
    funext j; unfold ow1 ow0; split <;> rfl
  rw [this] at s3
  exact ⟨v, e1, d, s3⟩
theorem own_split {i : Nat} {a : Addr} (h : Own ow a) : Own (ow0 ow i) a ∨ a ∈ ow i := by
  obtain ⟨j, h⟩ := h
  by_cases hj : j = i
  · subst hj; exact .inr h
  · exact .inl ⟨j, by unfold ow0; rw [if_neg hj]; exact h⟩
theorem ow0_dj (s : SRep G H F σ z ow) {i : Nat} : ∀ a ∈ ow i, ¬ Own (ow0 ow i) a := fun a h ⟨j, h2⟩ => by
  unfold ow0 at h2
  split at h2
  · cases h2
  · rename_i hj
    exact hj (s.dj j i a h2 h)

/-! ### operands -/
def HRep (G : Gx) (H : Hp) (F : Fz) (σ : L2.St) (v : V) (h : Hd) (f : List Addr) : Prop :=
  match h with
  | .tmp o => RepO G H F v o f
  | .slot i => f = [] ∧ σ[i]? = some (some v)
inductive HReps (G : Gx) (H : Hp) (F : Fz) (σ : L2.St) : List V → List Hd → List Addr → Prop
  | nil : HReps G H F σ [] [] []
  | cons {v : V} {h : Hd} {vs : List V} {hs : List Hd} {f g : List Addr} : HRep G H F σ v h f → HReps G H F σ vs hs g → (∀ a ∈ f, a ∉ g) → HReps G H F σ (v :: vs) (h :: hs) (f ++ g)
theorem HRep.stp {h : Hd} (r : HRep G H F σ v h f) (s : Stp H F P H' F' P') (dj : ∀ a ∈ f, ¬ P a) : HRep G H' F' σ v h f := by
  cases h with
  | tmp o => exact RepO.stp r s dj
  | slot i => exact r
theorem HReps.stp {vs : List V} {hs : List Hd} (r : HReps G H F σ vs hs f) (s : Stp H F P H' F' P') (dj : ∀ a ∈ f, ¬ P a) : HReps G H' F' σ vs hs f := by
  induction r with
  | nil => exact .nil
  | cons h _ d ih => exact .cons (h.stp s fun a x => dj a (by simp [x])) (ih fun a x => dj a (by simp [x])) d
theorem HRep.peek {h : Hd} {d : D} (r : HRep G H F σ v h f) (s : SRep G H F σ z ow) (e : peek h z = some d) : RepR G H F v d := by
  cases h with
  | tmp o => cases e; exact RepO.r r
  | slot i =>
    obtain ⟨_, e1⟩ := r
    unfold Z.peek at e
    cases q : rd z i with
    | none => simp only [q] at e; cases e
    | some o =>
      simp only [q, Option.map_some, Option.some.injEq] at e
      obtain ⟨v', e2, r⟩ := s.rep i o q
      rw [e1] at e2
      cases e2
      rw [← e]
      exact r.r
theorem RepO.val_inv {d : D} (r : RepO G H F v (.val d) f) : f = [] ∧ RepD G H F v d := by
  cases r with
  | val h => exact ⟨rfl, h⟩
theorem take_slot {i : Nat} : take (.slot i) z = match rd z i with
    | some (.val d) => some (.val d, z)
    | some o => some (.val o.pk, z.set i (some (.val o.pk)))
    | none => none := rfl
/-- taken for good -/
theorem HRep.take {h : Hd} (r : HRep G H F σ v h f) (s : SRep G H F σ z ow) (dj : ∀ a ∈ f, ¬ Own ow a) (nf : ∀ a ∈ f, ¬ F a) (tr : ∀ a ∈ f, ∃ u, H a = some u) (e : take h z = some (o, z')) :
    ∃ F' ow' f', SRep G H F' σ z' ow' ∧ RepO G H F' v o f' ∧ Stp H F (fun a => Own ow a ∨ a ∈ f) H F' (fun a => Own ow' a ∨ a ∈ f') ∧ ∀ a ∈ f', ¬ Own ow' a := by
  have st0 : Stp H F (fun a => Own ow a ∨ a ∈ f) H F (fun a => Own ow a ∨ a ∈ f) := Stp.refl (fun a h => h.elim (s.nfo a) (nf a)) (fun a h => h.elim (s.own a) (tr a)) s.ft
  cases h with
  | tmp o' =>
    cases e
    exact ⟨F, ow, f, s, r, st0, dj⟩
  | slot i =>
    obtain ⟨rfl, e1⟩ := r
    rw [take_slot] at e
    cases q : rd z i with
    | none => simp only [q] at e; cases e
    | some o' =>
      simp only [q] at e
      obtain ⟨v', e2, ro⟩ := s.rep i o' q
      rw [e1] at e2
      cases e2
      cases o' with
      | val d =>
        cases e
        exact ⟨F, ow, [], s, .val ro.val_inv.2, st0, fun a h => by cases h⟩
      | _ =>
        cases e
        obtain ⟨v2, e3, rd', s'⟩ := s.share q
        rw [e1] at e3
        cases e3
        refine ⟨_, ow0 ow i, [], s', .val rd', ?_, fun a h => by cases h⟩
        refine (Stp.share (P1 := Own (ow0 ow i)) (f := ow i) (st0.weak fun a h => ?_) (ow0_dj s)).weak fun a h => ?_
        · rcases h with h | h
          · exact .inl (own_ow0 h)
          · exact .inl ⟨i, h⟩
        · rcases h with h | h
          · exact h
          · cases h
end
end Z
end

section
set_option maxRecDepth 100007
/-! Readings: what an expression's run gives, over the abstract heap. -/
namespace Z
open PySem L2

abbrev Rel (α β : Type) := Hp → Fz → β → α → List Addr → Prop
/-- from (H, F, ow): every way out is as r says -/
def RunG {α β : Type} (G : Gx) (W : WX) (σ : L2.St) (rel : Rel α β) (H : Hp) (F : Fz) (ow : Ows) (r : R α) (Q : β → Hp → Prop) : Prop :=
  match r with
  | .ok a z' => ∀ v H' F' ow' f, Stp H F (Own ow) H' F' (fun x => Own ow' x ∨ x ∈ f) → SRep G H' F' σ z' ow' → rel H' F' v a f → (∀ x ∈ f, ¬ Own ow' x) → Q v H'
  | .exc c fs z' => ∀ d H' F' ow' fvs, Stp H F (Own ow) H' F' (Own ow') → SRep G H' F' σ z' ow' → H' d = some (.xd fvs) → RepFs G H' F' fvs fs → W (.ref (G.cls c)) (some d) σ H'
  | .bad => False
def tG {α β : Type} (G : Gx) (W : WX) (rel : L2.St → Rel α β) (m : Zs → R α) : L2.St → Hp → (β → Hp → Prop) → Prop := fun σ H Q => ∃ z ow F, SRep G H F σ z ow ∧ RunG G W σ (rel σ) H F ow (m z) Q
def relE (G : Gx) (σ : L2.St) : Rel Hd V := fun H F v h f => HRep G H F σ v h f
def relA (G : Gx) (σ : L2.St) : Rel (List Hd) (List V) := fun H F vs hs f => HReps G H F σ vs hs f
def relT (σ : L2.St) : Rel Bool Bool := fun _ _ b a f => b = a ∧ f = []
def tZ (G : Gx) (W : WX) (m : Zs → R Hd) : TE := tG G W (relE G) m
def tZA (G : Gx) (W : WX) (m : Zs → R (List Hd)) : TA := tG G W (relA G) m
def tZT (G : Gx) (W : WX) (m : Zs → R Bool) : TT := tG G W relT m

theorem PE.imp {X : Cx} {e : Expr} {t t' : TE} (h : PE X e t) (k : ∀ σ H Q, t' σ H Q → t σ H Q) : PE X e t' := ⟨fun pins s σ H Q I q => h.run pins s σ H Q I (k σ H Q q)⟩
theorem PT.imp {X : Cx} {e : Expr} {t t' : TT} (h : PT X e t) (k : ∀ σ H Q, t' σ H Q → t σ H Q) : PT X e t' := ⟨fun pins s σ H Q I q => h.run pins s σ H Q I (k σ H Q q)⟩
theorem PA.imp {X : Cx} {e : List Expr} {t t' : TA} (h : PA X e t) (k : ∀ σ H Q, t' σ H Q → t σ H Q) : PA X e t' := ⟨fun pos pins s σ H Q I q => h.run pos pins s σ H Q I (k σ H Q q)⟩
theorem PS.imp {X : Cx} {st : Stmt} {t t' : TS} (h : PS X st t) (k : ∀ D σ H, t' D σ H → t D σ H) : PS X st t' := ⟨fun pins s σ H D I q => h.run pins s σ H D I (k D σ H q)⟩
theorem PSs.imp {X : Cx} {st : List Stmt} {t t' : TS} (h : PSs X st t) (k : ∀ D σ H, t' D σ H → t D σ H) : PSs X st t' := ⟨fun pins s σ H D I q => h.run pins s σ H D I (k D σ H q)⟩

section
variable {G : Gx} {W : WX} {σ : L2.St} {H H1 H2 H' : Hp} {F F1 F2 F' : Fz} {P P1 P2 P' fP : Addr → Prop} {z z' : Zs} {ow ow1 ow2 : Ows} {v : V} {o : O} {f g : List Addr}

/-- a first part, run behind a step from the start, with fP made on the way; then the rest -/
theorem RunG.bind {α β γ δ : Type} {rel1 : Rel α β} {rel2 : Rel γ δ} {r : R α} {k : α → Zs → R γ} {Q : δ → Hp → Prop} {Q1 : β → Hp → Prop}
    (s1 : Stp H F (Own ow) H1 F1 (fun x => Own ow1 x ∨ fP x)) (dj : ∀ x, fP x → ¬ Own ow1 x) (h : RunG G W σ rel2 H F ow (r.bind k) Q)
    (hk : ∀ a z2 v H2 F2 ow2 g, r = .ok a z2 → Stp H1 F1 (Own ow1) H2 F2 (fun x => Own ow2 x ∨ x ∈ g) → SRep G H2 F2 σ z2 ow2 → rel1 H2 F2 v a g → (∀ x ∈ g, ¬ Own ow2 x) →
      Stp H F (Own ow) H2 F2 (fun x => Own ow2 x ∨ x ∈ g ∨ fP x) → (∀ x, fP x → ¬ Own ow2 x ∧ x ∉ g) → RunG G W σ rel2 H F ow (k a z2) Q → Q1 v H2) : RunG G W σ rel1 H1 F1 ow1 r Q1 := by
  cases r with
  | ok a z2 =>
    intro v H2 F2 ow2 g st s2 r2 d2
    obtain ⟨st2, dj2⟩ := s1.frame dj st
    exact hk a z2 v H2 F2 ow2 g rfl st s2 r2 d2 (st2.weak fun x h => by
      rcases h with h | h | h
      · exact .inl (.inl h)
      · exact .inl (.inr h)
      · exact .inr h) (fun x hx => ⟨fun q => dj2 x hx (.inl q), fun q => dj2 x hx (.inr q)⟩) h
  | exc c fs z' =>
    intro d H2 F2 ow2 fvs st s2 e r2
    exact h d H2 F2 ow2 fvs ((s1.frame dj st).1.weak fun x h => .inl h) s2 e r2
  | bad => exact h
theorem SRep.refl0 (s : SRep G H F σ z ow) : Stp H F (Own ow) H F (fun x => Own ow x ∨ False) := s.refl.weak fun x h => h.elim id False.elim
/-- the first part of all -/
theorem RunG.first {α β γ δ : Type} {rel1 : Rel α β} {rel2 : Rel γ δ} {r : R α} {k : α → Zs → R γ} {Q : δ → Hp → Prop} {Q1 : β → Hp → Prop} (s : SRep G H F σ z ow) (h : RunG G W σ rel2 H F ow (r.bind k) Q)
    (hk : ∀ a z2 v H2 F2 ow2 g, r = .ok a z2 → Stp H F (Own ow) H2 F2 (fun x => Own ow2 x ∨ x ∈ g) → SRep G H2 F2 σ z2 ow2 → rel1 H2 F2 v a g → (∀ x ∈ g, ¬ Own ow2 x) → RunG G W σ rel2 H F ow (k a z2) Q → Q1 v H2) : RunG G W σ rel1 H F ow r Q1 :=
  RunG.bind s.refl0 (fun _ h => h.elim) h fun a z2 v H2 F2 ow2 g e st s2 r2 d2 _ _ h2 => hk a z2 v H2 F2 ow2 g e st s2 r2 d2 h2
/-- something new beside what is owned -/
theorem Stp.alloc (s : Stp H F P H1 F1 P1) (t : Stp H1 F1 (fun _ => False) H2 F2 P2) : Stp H F P H2 F2 (fun x => P2 x ∨ P1 x) ∧ ∀ x, P1 x → ¬ P2 x :=
  Stp.frame (s.weak (P2 := fun x => False ∨ P1 x) fun x h => h.elim False.elim id) (fun _ _ h => h) t
/-- the end of a run by an operation that only makes things -/
theorem RunG.fin {rel : Rel Hd V} {Q : V → Hp → Prop} {h : Hd} (run : RunG G W σ rel H F ow (.ok h z) Q) (st : Stp H F (Own ow) H1 F1 (Own ow1)) (s : SRep G H1 F1 σ z ow1) (t : Stp H1 F1 (fun _ => False) H2 F2 (fun x => x ∈ g)) (r : rel H2 F2 v h g) : Q v H2 := by
  obtain ⟨a1, a2⟩ := st.alloc t
  exact run v H2 F2 ow1 g (a1.weak fun x h => h.symm) (s.stp t fun _ _ h => h) r fun x hx ho => a2 x ho hx

/-! ### operations on values -/
@[simp] def ap1 (f : D → Option O) (x : Hd) (z : Zs) : R Hd := match peek x z with
  | some d => match f d with
    | some o => .ok (.tmp o) z
    | none => .bad
  | none => .bad
@[simp] def ap2 (f : D → D → Option O) (x y : Hd) (z : Zs) : R Hd := match peek x z, peek y z with
  | some d, some e => match f d e with
    | some o => .ok (.tmp o) z
    | none => .bad
  | _, _ => .bad
@[simp] def peeks : List Hd → Zs → Option (List D)
  | [], _ => some []
  | h :: hs, z => match peek h z, peeks hs z with
    | some d, some ds => some (d :: ds)
    | _, _ => none
@[simp] def apN (f : List D → Option O) (xs : List Hd) (z : Zs) : R Hd := match peeks xs z with
  | some ds => match f ds with
    | some o => .ok (.tmp o) z
    | none => .bad
  | none => .bad
inductive RepRs (G : Gx) (H : Hp) (F : Fz) : List V → List D → Prop
  | nil : RepRs G H F [] []
  | cons {v : V} {d : D} {vs : List V} {ds : List D} : RepR G H F v d → RepRs G H F vs ds → RepRs G H F (v :: vs) (d :: ds)
theorem HReps.peeks : ∀ {vs : List V} {hs : List Hd} {ds : List D} {f : List Addr}, HReps G H F σ vs hs f → SRep G H F σ z ow → peeks hs z = some ds → RepRs G H F vs ds
  | _, _, ds, _, .nil, _, e => by
    cases e; exact .nil
  | _, _, ds, _, .cons (h := h) (hs := hs) r rs _, s, e => by
    unfold Z.peeks at e
    cases e1 : peek h z with
    | none => rw [e1] at e; cases e
    | some d =>
      cases e2 : Z.peeks hs z with
      | none => rw [e1, e2] at e; cases e
      | some ds' =>
        rw [e1, e2] at e
        cases e
        exact .cons (r.peek s e1) (HReps.peeks rs s e2)
/-- what is shared is tracked -/
def FT (H : Hp) (F : Fz) : Prop := ∀ a, F a → ∃ o, H a = some o
/-- what an operation makes of values -/
def Makes (G : Gx) (H : Hp) (F : Fz) (o : O) (Q : VK) : Prop := ∀ v H' F' g, Stp H F (fun _ => False) H' F' (fun x => x ∈ g) → RepO G H' F' v o g → Q v H'
def rV1 (G : Gx) (f : D → Option O) : V → Hp → VK → Prop := fun x H Q => ∃ F d o, FT H F ∧ RepR G H F x d ∧ f d = some o ∧ Makes G H F o Q
def rV2 (G : Gx) (f : D → D → Option O) : R2 := fun x y H Q => ∃ F d e o, FT H F ∧ RepR G H F x d ∧ RepR G H F y e ∧ f d e = some o ∧ Makes G H F o Q
def rVN (G : Gx) (f : List D → Option O) : List V → Hp → VK → Prop := fun xs H Q => ∃ F ds o, FT H F ∧ RepRs G H F xs ds ∧ f ds = some o ∧ Makes G H F o Q

theorem RunG.ap1 {Q : VK} {f1 : D → Option O} {h : Hd} (run : RunG G W σ (relE G σ) H F ow (Z.ap1 f1 h z) Q) (st : Stp H F (Own ow) H1 F1 (fun x => Own ow1 x ∨ fP x)) (s : SRep G H1 F1 σ z ow1) (r : HRep G H1 F1 σ v h f) : rV1 G f1 v H1 Q := by
  unfold Z.ap1 at run
  cases e1 : peek h z with
  | none => rw [e1] at run; exact run.elim
  | some d =>
    simp only [e1] at run
    cases e2 : f1 d with
    | none => simp only [e2] at run; exact run.elim
    | some o =>
      simp only [e2] at run
      exact ⟨F1, d, o, s.ft, r.peek s e1, e2, fun v3 H3 F3 g t r3 => RunG.fin run (st.weak fun x h => .inl h) s t r3⟩
theorem RunG.ap2 {Q : VK} {f2 : D → D → Option O} {h h' : Hd} {v' : V} (run : RunG G W σ (relE G σ) H F ow (Z.ap2 f2 h h' z) Q) (st : Stp H F (Own ow) H1 F1 (fun x => Own ow1 x ∨ fP x)) (s : SRep G H1 F1 σ z ow1) (r : HRep G H1 F1 σ v h f) (r' : HRep G H1 F1 σ v' h' g) : rV2 G f2 v v' H1 Q := by
  unfold Z.ap2 at run
  cases e1 : peek h z with
  | none => rw [e1] at run; exact run.elim
  | some d =>
    cases e2 : peek h' z with
    | none => rw [e1, e2] at run; exact run.elim
    | some d' =>
      simp only [e1, e2] at run
      cases e3 : f2 d d' with
      | none => simp only [e3] at run; exact run.elim
      | some o =>
        simp only [e3] at run
        exact ⟨F1, d, d', o, s.ft, r.peek s e1, r'.peek s e2, e3, fun v3 H3 F3 g t r3 => RunG.fin run (st.weak fun x h => .inl h) s t r3⟩
theorem RunG.apN {Q : VK} {fN : List D → Option O} {hs : List Hd} {vs : List V} (run : RunG G W σ (relE G σ) H F ow (Z.apN fN hs z) Q) (st : Stp H F (Own ow) H1 F1 (fun x => Own ow1 x ∨ fP x)) (s : SRep G H1 F1 σ z ow1) (r : HReps G H1 F1 σ vs hs f) : rVN G fN vs H1 Q := by
  unfold Z.apN at run
  cases e1 : Z.peeks hs z with
  | none => rw [e1] at run; exact run.elim
  | some ds =>
    simp only [e1] at run
    cases e2 : fN ds with
    | none => simp only [e2] at run; exact run.elim
    | some o =>
      simp only [e2] at run
      exact ⟨F1, ds, o, s.ft, r.peeks s e1, e2, fun v3 H3 F3 g t r3 => RunG.fin run (st.weak fun x h => .inl h) s t r3⟩

/-- two operands, then an operation -/
theorem op2_read {m1 m2 : Zs → R Hd} {f2 : D → D → Option O} {Q : VK} (h : tZ G W (fun z => (m1 z).bind fun x z1 => (m2 z1).bind fun y z2 => Z.ap2 f2 x y z2) σ H Q) : tOp (rV2 G f2) (tZ G W m1) (tZ G W m2) σ H Q := by
  obtain ⟨z, ow, F, s, run⟩ := h
  refine ⟨z, ow, F, s, RunG.first s run fun x z1 v1 H1 F1 ow1 f1 _ st1 s1 r1 d1 run1 => ?_⟩
  refine ⟨z1, ow1, F1, s1, RunG.bind st1 d1 run1 fun y z2 v2 H2 F2 ow2 f2 _ st2 s2 r2 d2 st d run2 => ?_⟩
  exact RunG.ap2 run2 st s2 (HRep.stp r1 st2 d1) r2
theorem op1_read {m1 : Zs → R Hd} {f1 : D → Option O} {Q : VK} (h : tZ G W (fun z => (m1 z).bind fun x z1 => Z.ap1 f1 x z1) σ H Q) : tUn (rV1 G f1) (tZ G W m1) σ H Q := by
  obtain ⟨z, ow, F, s, run⟩ := h
  exact ⟨z, ow, F, s, RunG.first s run fun x z1 v1 H1 F1 ow1 f1 _ st1 s1 r1 d1 run1 => RunG.ap1 run1 st1 s1 r1⟩
theorem opN_read {mA : Zs → R (List Hd)} {fN : List D → Option O} {Q : VK} (h : tZ G W (fun z => (mA z).bind fun x z1 => Z.apN fN x z1) σ H Q) : tCB (rVN G fN) (tZA G W mA) σ H Q := by
  obtain ⟨z, ow, F, s, run⟩ := h
  exact ⟨z, ow, F, s, RunG.first s run fun x z1 v1 H1 F1 ow1 f1 _ st1 s1 r1 d1 run1 => RunG.apN run1 st1 s1 r1⟩
end
end Z
end

section
set_option maxRecDepth 100007
/-! Expressions: names, constants, operators, displays. -/
namespace Z
open PySem L2
section
variable {G : Gx} {W : WX} {σ : L2.St} {H H1 H2 H' : Hp} {F F1 F2 F' : Fz} {P P1 P2 P' fP : Addr → Prop} {z z' : Zs} {ow ow1 ow2 : Ows} {v : V} {o : O} {f g : List Addr}

theorem takeD_eq {h : Hd} {d : D} (e : takeD h z = some (d, z')) : ∃ o, take h z = some (o, z') ∧ d = o.pk := by
  unfold takeD at e
  cases q : take h z with
  | none => rw [q] at e; cases e
  | some p =>
    rw [q] at e
    simp only [Option.map_some, Option.some.injEq, Prod.mk.injEq] at e
    obtain ⟨rfl, rfl⟩ := e
    exact ⟨p.1, rfl, rfl⟩
theorem HRep.takeD {h : Hd} {d : D} (r : HRep G H F σ v h f) (s : SRep G H F σ z ow) (dj : ∀ a ∈ f, ¬ Own ow a) (nf : ∀ a ∈ f, ¬ F a) (tr : ∀ a ∈ f, ∃ u, H a = some u) (e : takeD h z = some (d, z')) :
    ∃ F' ow', SRep G H F' σ z' ow' ∧ RepD G H F' v d ∧ Stp H F (fun a => Own ow a ∨ a ∈ f) H F' (Own ow') := by
  obtain ⟨o, e2, rfl⟩ := takeD_eq e
  obtain ⟨F1, ow1, f1, s1, r1, st, dj1⟩ := r.take s dj nf tr e2
  exact ⟨Z.plus F1 f1, ow1, s1.plus dj1 r1.there, r1.freeze, st.share dj1⟩
@[simp] def takeDs : List Hd → Zs → Option (List D × Zs)
  | [], z => some ([], z)
  | h :: hs, z => match takeD h z with
    | some (d, z1) => match takeDs hs z1 with
      | some (ds, z2) => some (d :: ds, z2)
      | none => none
    | none => none
theorem HReps.takeDs : ∀ {vs : List V} {hs : List Hd} {F : Fz} {z z' : Zs} {ow : Ows} {f : List Addr} {ds : List D}, HReps G H F σ vs hs f → SRep G H F σ z ow → (∀ a ∈ f, ¬ Own ow a) → (∀ a ∈ f, ¬ F a) → (∀ a ∈ f, ∃ u, H a = some u) → Z.takeDs hs z = some (ds, z') →
    ∃ F' ow', SRep G H F' σ z' ow' ∧ RepDs G H F' vs ds ∧ Stp H F (fun a => Own ow a ∨ a ∈ f) H F' (Own ow')
  | _, _, F, z, z', ow, _, ds, .nil, s, dj, nf, tr, e => by
    cases e
    exact ⟨F, ow, s, .nil, (Stp.refl (P := fun a => Own ow a ∨ a ∈ []) (fun a h => h.elim (s.nfo a) (nf a)) (fun a h => h.elim (s.own a) (tr a)) s.ft).weak fun a h => .inl h⟩
  | _, _, F, z, z', ow, _, ds, .cons (h := h) (hs := hs) (v := v) (vs := vs) (f := f) (g := g) r rs d, s, dj, nf, tr, e => by
    unfold Z.takeDs at e
    cases e1 : Z.takeD h z with
    | none => rw [e1] at e; cases e
    | some p =>
      obtain ⟨d1, z1⟩ := p
      cases e2 : Z.takeDs hs z1 with
      | none => simp only [e1, e2] at e; cases e
      | some q =>
        obtain ⟨ds2, z2⟩ := q
        simp only [e1, e2] at e
        cases e
        obtain ⟨F1, ow1, s1, rd1, st1⟩ := r.takeD s (fun a h => dj a (by simp [h])) (fun a h => nf a (by simp [h])) (fun a h => tr a (by simp [h])) e1
        -- the rest is apart
        have dg : ∀ a ∈ g, ¬ (Own ow a ∨ a ∈ f) := fun a h q => q.elim (dj a (by simp [h])) fun q => d a q h
        have dj1 : ∀ a ∈ g, ¬ Own ow1 a := fun a h q => by
          rcases st1.fp a q with x | x
          · exact dg a h x
          · obtain ⟨u, e⟩ := tr a (by simp [h])
            rw [x] at e; cases e
        have nf1 : ∀ a ∈ g, ¬ F1 a := fun a h q => by
          rcases st1.fr a q with x | x | x
          · exact nf a (by simp [h]) x
          · exact dg a h x
          · obtain ⟨u, e⟩ := tr a (by simp [h])
            rw [x] at e; cases e
        obtain ⟨F2, ow2, s2, rds, st2⟩ := HReps.takeDs (rs.stp st1 dg) s1 dj1 nf1 (fun a h => tr a (by simp [h])) e2
        refine ⟨F2, ow2, s2, .cons (rd1.lat st2.lat) rds, ?_⟩
        have t1 : Stp H F (fun a => Own ow a ∨ a ∈ f ++ g) H F1 (fun a => Own ow1 a ∨ a ∈ g) := by
          refine ⟨st1.lat, st1.there, fun a o np e => st1.stay a o (fun q => np (q.elim .inl fun q => .inr (by simp [q]))) e, fun a h => ?_, fun a h => ?_, fun a h => h.elim (st1.nf a) (nf1 a), fun a h => h.elim (st1.tr a) fun h => tr a (by simp [h]), st1.ft⟩
          · rcases st1.fr a h with x | x | x
            · exact .inl x
            · exact .inr (.inl (x.elim .inl fun x => .inr (by simp [x])))
            · exact .inr (.inr x)
          · rcases h with h | h
            · rcases st1.fp a h with x | x
              · exact .inl (x.elim .inl fun x => .inr (by simp [x]))
              · exact .inr x
            · exact .inl (.inr (by simp [h]))
        exact t1.trans st2
end

/-! ### arguments, names, constants -/
section
variable {G : Gx} {W : WX} {X : Cx} {a b e : Expr} {es : List Expr} {pos : Pos} {m1 m2 m3 : Zs → R Hd} {mA mB : Zs → R (List Hd)}
@[simp] def evNil : Zs → R (List Hd) := fun z => .ok [] z
@[simp] def evCons (m1 : Zs → R Hd) (mA : Zs → R (List Hd)) : Zs → R (List Hd) := fun z => (m1 z).bind fun x z1 => (mA z1).bind fun xs z2 => .ok (x :: xs) z2
theorem za_nil : PA X [] (tZA G W evNil) := PA.imp pa_nil fun σ H Q h => by
  obtain ⟨z, ow, F, s, run⟩ := h
  exact run [] H F ow [] (s.refl.weak fun x h => h.elim id fun h => by cases h) s .nil fun x h => by cases h
theorem za_cons (ha : PE X e (tZ G W m1)) (hr : PA X es (tZA G W mA)) (hs : starEach (e :: es) X.env = (false, eval e X.env) :: starEach es X.env) : PA X (e :: es) (tZA G W (evCons m1 mA)) := PA.imp (pa_cons ha hr hs) fun σ H Q h => by
  obtain ⟨z, ow, F, s, run⟩ := h
  refine ⟨z, ow, F, s, RunG.first s run fun x z1 v1 H1 F1 ow1 f1 _ st1 s1 r1 d1 run1 => ?_⟩
  refine ⟨z1, ow1, F1, s1, RunG.bind st1 d1 run1 fun y z2 v2 H2 F2 ow2 f2 _ st2 s2 r2 d2 st d run2 => ?_⟩
  refine run2 (v1 :: v2) H2 F2 ow2 (f1 ++ f2) (st.weak fun x h => ?_) s2 (.cons (HRep.stp r1 st2 d1) r2 fun x h => (d x h).2) fun x h => ?_
  · rcases h with h | h
    · exact .inl h
    · rcases List.mem_append.mp h with h | h
      · exact .inr (.inr h)
      · exact .inr (.inl h)
  · rcases List.mem_append.mp h with h | h
    · exact (d x h).1
    · exact d2 x h
@[simp] def evSlot (i : Nat) : Zs → R Hd := fun z => match rd z i with
  | some _ => .ok (.slot i) z
  | none => .bad
theorem z_name {i : Nat} {x : Str} (hN : X.N[i]? = some x) (hv : Vis X.env.scope x) (hd : (x == ("__debug__" : Str)) = false) (hcd : (x == ("__classdict__" : Str)) = false) : PE X (.Name x pos) (tZ G W (evSlot i)) := PE.imp (pe_var hN hv hd hcd) fun σ H Q h => by
  obtain ⟨z, ow, F, s, run⟩ := h
  unfold evSlot at run
  cases e : rd z i with
  | none => simp only [e] at run; exact run.elim
  | some o =>
    simp only [e] at run
    obtain ⟨v, e1, _⟩ := s.rep i o e
    exact ⟨v, e1, run v H F ow [] (s.refl.weak fun x h => h.elim id fun h => by cases h) s ⟨rfl, e1⟩ fun x h => by cases h⟩
@[simp] def evD (d : D) : Zs → R Hd := fun z => .ok (.tmp (.val d)) z
/-- a constant -/
theorem z_const {v : V} {d : D} (he : PE X e (tC v)) (hr : ∀ H F, RepD G H F v d) : PE X e (tZ G W (evD d)) := PE.imp he fun σ H Q h => by
  obtain ⟨z, ow, F, s, run⟩ := h
  exact run v H F ow [] (s.refl.weak fun x h => h.elim id fun h => by cases h) s (RepO.val (hr H F)) fun x h => by cases h
theorem z_int {i j} : PE X (.Constant (.int i) j pos) (tZ G W (evD (.int i))) := z_const pe_int fun _ _ => .int i
theorem z_bool {i j} : PE X (.Constant (.bool i) j pos) (tZ G W (evD (.bl i))) := z_const pe_bl fun _ _ => .bl i
theorem z_none {j} : PE X (.Constant .none j pos) (tZ G W (evD .non)) := z_const pe_non fun _ _ => .non
theorem z_str {x : List Nat} {j} (h : txtOk x = true) : PE X (.Constant (.str ⟨x.toArray⟩) j pos) (tZ G W (evD (.str x))) := z_const pe_str fun _ _ => .str h
/-! ### operators -/
@[simp] def evOp2 (f : D → D → Option O) (m1 m2 : Zs → R Hd) : Zs → R Hd := fun z => (m1 z).bind fun x z1 => (m2 z1).bind fun y z2 => ap2 f x y z2
@[simp] def evOp1 (f : D → Option O) (m1 : Zs → R Hd) : Zs → R Hd := fun z => (m1 z).bind fun x z1 => ap1 f x z1
@[simp] def evOpN (f : List D → Option O) (mA : Zs → R (List Hd)) : Zs → R Hd := fun z => (mA z).bind fun x z1 => apN f x z1
theorem z_bin {op : Operator} {f2 : D → D → Option O} (ho : OpR X (binaryOp op) (rV2 G f2)) (ha : PE X a (tZ G W m1)) (hb : PE X b (tZ G W m2)) : PE X (.BinOp a op b pos) (tZ G W (evOp2 f2 m1 m2)) := PE.imp (pe_op ho ha hb) fun _ _ _ h => op2_read h
theorem z_un {op : UnaryOp} {f1 : D → Option O} (ho : UnR X (unaryOp op) (rV1 G f1)) (ha : PE X a (tZ G W m1)) : PE X (.UnaryOp op a pos) (tZ G W (evOp1 f1 m1)) := PE.imp (pe_un ho ha) fun _ _ _ h => op1_read h
theorem z_cmp {op : CmpOp} {f2 : D → D → Option O} (ho : OpR X (compareOp op) (rV2 G f2)) (ha : PE X a (tZ G W m1)) (hb : PE X b (tZ G W m2)) (hm : behindInMarks op b = false) : PE X (.Compare a [op] [b] pos) (tZ G W (evOp2 f2 m1 m2)) := PE.imp (pe_cmpR ho ha hb hm) fun _ _ _ h => op2_read h
theorem z_callB {id : String} {x : Str} {p : Pos} {fN : List D → Option O} (hc : CallR X (.builtin id) (rVN G fN)) (hg : Gl X x) (hm : X.mg x = none) (hv : bootBuiltins x = some (.builtin id)) (ha : PA X (e :: es) (tZA G W mA)) (hn : x ≠ "__name__") (hdb : (x == ("__debug__" : Str)) = false)
    (he : starEach (e :: es) X.env = (false, eval e X.env) :: starEach es X.env) (hpl : (backTo pos (starEach es X.env)).any (·.1) = false) : PE X (.Call (.Name x p) (e :: es) [] pos) (tZ G W (evOpN fN mA)) :=
  PE.imp (pe_callB hc hg hm hv ha hn hdb he hpl) fun _ _ _ h => opN_read h
theorem z_callTy {T : String} {x : Str} {p : Pos} {fN : List D → Option O} (hc : CallR X (.type T) (rVN G fN)) (hg : Gl X x) (hm : X.mg x = none) (hv : bootBuiltins x = some (.type T)) (ha : PA X (e :: es) (tZA G W mA)) (hn : x ≠ "__name__") (hdb : (x == ("__debug__" : Str)) = false)
    (he : starEach (e :: es) X.env = (false, eval e X.env) :: starEach es X.env) (hpl : (backTo pos (starEach es X.env)).any (·.1) = false) : PE X (.Call (.Name x p) (e :: es) [] pos) (tZ G W (evOpN fN mA)) :=
  PE.imp (pe_callTy hc hg hm hv ha hn hdb he hpl) fun _ _ _ h => opN_read h
end
end Z
end

section
set_option maxRecDepth 100007
/-! Operations on values: what they make, and that the machine does so. -/
namespace Z
open PySem L2 PyProof.Rows
/-! ### data -/
mutual
def toP : D → PyData
  | .non => .none | .bl b => .bool b | .int i => .int i | .str x => .str ⟨x.toArray⟩
  | .tup ds => .tuple (toPs ds)
  | .lst ds => .list (toPs ds)
  | _ => .none
def toPs : List D → List PyData
  | [] => []
  | d :: ds => toP d :: toPs ds
end
/-- plain data of depth at most n -/
def flat : D → Bool
  | .non => true | .bl _ => true | .int _ => true | .str _ => true
  | _ => false
def plainN : Nat → D → Bool
  | 0, d => flat d
  | n + 1, d => match d with
    | .tup ds => ds.all (plainN n)
    | .lst ds => ds.all (plainN n)
    | d => flat d
theorem plainN_nest {n : Nat} {d : D} (h : plainN n d = true) : flat d = true ∨ (∃ m ds, n = m + 1 ∧ (d = .tup ds ∨ d = .lst ds) ∧ ds.all (plainN m) = true) := by
  cases n with
  | zero => exact .inl h
  | succ n =>
    cases d with
    | tup ds => exact .inr ⟨n, ds, rfl, .inl rfl, h⟩
    | lst ds => exact .inr ⟨n, ds, rfl, .inr rfl, h⟩
    | _ => exact .inl h
theorem str_beq (a b : List Nat) : ((⟨a.toArray⟩ : Str) == ⟨b.toArray⟩) = (a == b) := by
  by_cases h : a = b
  · subst h; simp
  · have : ¬ (⟨a.toArray⟩ : Str) = ⟨b.toArray⟩ := fun e => h (by
      have := congrArg (fun s : Str => s.cps.toList) e
      simpa using this)
    rw [beq_eq_false_iff_ne.mpr this, beq_eq_false_iff_ne.mpr h]
mutual
theorem eqv_toP : ∀ (n m : Nat) (d e : D), plainN n d = true → plainN m e = true → PyData.eqv (toP d) (toP e) = eqD d e
  | n, m, d, e, hd, he => by
    rcases plainN_nest hd with fd | ⟨n', ds, rfl, hd' | hd', ad⟩
    · rcases plainN_nest he with fe | ⟨m', es, rfl, he' | he', ae⟩
      · cases d <;> simp only [flat, Bool.false_eq_true] at fd <;> cases e <;> simp only [flat, Bool.false_eq_true] at fe <;> simp only [toP, PyData.eqv, eqD]
        exact str_beq _ _
      · subst he'; cases d <;> simp only [flat, Bool.false_eq_true] at fd <;> simp only [toP, PyData.eqv, eqD]
      · subst he'; cases d <;> simp only [flat, Bool.false_eq_true] at fd <;> simp only [toP, PyData.eqv, eqD]
    · subst hd'
      rcases plainN_nest he with fe | ⟨m', es, rfl, he' | he', ae⟩
      · cases e <;> simp only [flat, Bool.false_eq_true] at fe <;> simp only [toP, PyData.eqv, eqD]
      · subst he'
        simp only [toP, PyData.eqv, eqD]
        exact eqvAll_toPs n' m' ds es ad ae
      · subst he'; simp only [toP, PyData.eqv, eqD]
    · subst hd'
      rcases plainN_nest he with fe | ⟨m', es, rfl, he' | he', ae⟩
      · cases e <;> simp only [flat, Bool.false_eq_true] at fe <;> simp only [toP, PyData.eqv, eqD]
      · subst he'; simp only [toP, PyData.eqv, eqD]
      · subst he'
        simp only [toP, PyData.eqv, eqD]
        exact eqvAll_toPs n' m' ds es ad ae
  termination_by n _ _ _ => (n, 0)
theorem eqvAll_toPs : ∀ (n m : Nat) (ds es : List D), ds.all (plainN n) = true → es.all (plainN m) = true → PyData.eqvAll (toPs ds) (toPs es) = eqDs ds es
  | n, m, [], [], _, _ => by simp only [toPs, PyData.eqvAll, eqDs]
  | n, m, [], _ :: _, _, _ => by simp only [toPs, PyData.eqvAll, eqDs]
  | n, m, _ :: _, [], _, _ => by simp only [toPs, PyData.eqvAll, eqDs]
  | n, m, d :: ds, e :: es, hd, he => by
    rw [List.all_cons, Bool.and_eq_true] at hd he
    simp only [toPs, PyData.eqvAll, eqDs]
    rw [eqv_toP n m d e hd.1 he.1, eqvAll_toPs n m ds es hd.2 he.2]
  termination_by n _ ds _ => (n, ds.length + 1)
end
theorem strOk_eq (x : List Nat) : PyData.strOk (⟨x.toArray⟩ : Str) = txtOk x := by
  unfold PyData.strOk txtOk
  simp
section
variable {G : Gx} {H H1 H2 H' : Hp} {F F1 F2 F' : Fz} {v : V} {d : D}
mutual
theorem dp_of : ∀ (n : Nat) {v : V} {d : D}, RepD G H F v d → plainN n d = true → Dp G.K H v (toP d) ∧ (toP d).canLay0 = true ∧ (toP d).depth ≤ n
  | n, _, _, .non, _ => ⟨by simp only [toP]; exact .non, by simp only [toP, PyData.canLay0], by simp only [toP, PyData.depth]; omega⟩
  | n, _, _, .bl b, _ => ⟨by simp only [toP]; exact .bl b, by simp only [toP, PyData.canLay0], by simp only [toP, PyData.depth]; omega⟩
  | n, _, _, .int i, _ => ⟨by simp only [toP]; exact .int i, by simp only [toP, PyData.canLay0], by simp only [toP, PyData.depth]; omega⟩
  | n, _, _, .str (x := x) h, _ => ⟨by simp only [toP]; exact .str _, by simp only [toP, PyData.canLay0]; rw [strOk_eq]; exact h, by simp only [toP, PyData.depth]; omega⟩
  | n, _, _, .tup h r, p => by
    cases n with
    | zero => cases p
    | succ n =>
      obtain ⟨a, b, c⟩ := dp_ofs n r p
      exact ⟨by simp only [toP]; exact .tup h.sq a, by simp only [toP, PyData.canLay0]; exact b, by simp only [toP, PyData.depth]; omega⟩
  | n, _, _, .lst f h r, p => by
    cases n with
    | zero => cases p
    | succ n =>
      obtain ⟨a, b, c⟩ := dp_ofs n r p
      exact ⟨by simp only [toP]; exact .lst (SqL.of h) a, by simp only [toP, PyData.canLay0]; exact b, by simp only [toP, PyData.depth]; omega⟩
  | n, _, _, .obj _ _ _, p => by cases n <;> cases p
  | n, _, _, .dct _ _ _, p => by cases n <;> cases p
  | n, _, _, .dctT _ _ _, p => by cases n <;> cases p
  | n, _, _, .scr _, p => by cases n <;> cases p
theorem dp_ofs : ∀ (n : Nat) {vs : List V} {ds : List D}, RepDs G H F vs ds → ds.all (plainN n) = true → DpAll G.K H vs (toPs ds) ∧ PyData.canLayAll0 (toPs ds) = true ∧ PyData.depthAll (toPs ds) ≤ n
  | n, _, _, .nil, _ => ⟨by simp only [toPs]; exact .nil, by simp only [toPs, PyData.canLayAll0], by simp only [toPs, PyData.depthAll]; omega⟩
  | n, _, _, .cons h r, p => by
    rw [List.all_cons, Bool.and_eq_true] at p
    obtain ⟨a, b, c⟩ := dp_of n h p.1
    obtain ⟨a', b', c'⟩ := dp_ofs n r p.2
    exact ⟨by simp only [toPs]; exact .cons a a', by simp only [toPs, PyData.canLayAll0, b, b', Bool.and_self], by simp only [toPs, PyData.depthAll]; omega⟩
end
theorem dp_ofR (n : Nat) (r : RepR G H F v d) (p : plainN n d = true) : Dp G.K H v (toP d) ∧ (toP d).canLay0 = true ∧ (toP d).depth ≤ n := by
  cases r with
  | of r => exact dp_of n r p
  | lst h r =>
    cases n with
    | zero => cases p
    | succ n =>
      obtain ⟨a, b, c⟩ := dp_ofs n r p
      exact ⟨by simp only [toP]; exact .lst (SqL.of h) a, by simp only [toP, PyData.canLay0]; exact b, by simp only [toP, PyData.depth]; omega⟩
  | obj _ _ => cases n <;> cases p
  | dct _ _ => cases n <;> cases p
  | dctT _ _ => cases n <;> cases p
theorem shaped_of {n : Nat} {p : PyData} (h : p.canLay0 = true) (d : p.depth ≤ n) (hn : n ≤ 64) : SeqAt.shaped p = true := by
  unfold SeqAt.shaped
  rw [h, Bool.true_and]
  exact decide_eq_true (by omega)
/-! ### what is made -/
theorem Makes.val {o : D} {Q : VK} (m : Makes G H F (.val o) Q) (ft : FT H F) (r : RepD G H F v o) : Q v H :=
  m v H F [] ⟨Lat.refl, fun a o e => ⟨o, e⟩, fun _ _ _ e => e, fun _ h => .inl h, fun _ h => (by cases h), fun _ h => (by cases h), fun _ h => (by cases h), ft⟩ (.val r)
theorem ext_new {p : Addr} {u : HO} (hp : H p = none) : ∀ a o, H a = some o → upd H p u a = some o := fun a o e => by
  rw [upd_ne (ne_of_none e hp)]; exact e
theorem lat_new {p : Addr} {u : HO} (hp : H p = none) : Lat H F (upd H p u) F := ⟨fun _ h => h, fun a o _ e => ext_new hp a o e⟩
/-- a new object that is owned -/
theorem stp_new {p : Addr} {u : HO} (ft : FT H F) (hp : H p = none) : Stp H F (fun _ => False) (upd H p u) F (fun x => x ∈ [p]) := by
  refine ⟨lat_new hp, fun a o e => ⟨o, ext_new hp a o e⟩, fun a o _ e => ext_new hp a o e, fun _ h => .inl h, fun a h => ?_, fun a h q => ?_, fun a h => ?_, fun a h => ?_⟩
  · rw [List.mem_singleton.mp h]; exact .inr hp
  · rw [List.mem_singleton.mp h] at q
    obtain ⟨o, e⟩ := ft p q
    rw [hp] at e; cases e
  · rw [List.mem_singleton.mp h]; exact ⟨_, upd_same⟩
  · obtain ⟨o, e⟩ := ft a h
    exact ⟨o, ext_new hp a o e⟩
/-- a new object that is shared at once -/
theorem stp_newF {p : Addr} {u : HO} (ft : FT H F) (hp : H p = none) : Stp H F (fun _ => False) (upd H p u) (plus F [p]) (fun x => x ∈ ([] : List Addr)) := by
  refine ⟨⟨fun _ h => .inl h, fun a o _ e => ext_new hp a o e⟩, fun a o e => ⟨o, ext_new hp a o e⟩, fun a o _ e => ext_new hp a o e, fun a h => ?_, fun a h => (by cases h), fun a h q => (by cases h), fun a h => (by cases h), fun a h => ?_⟩
  · rcases h with h | h
    · exact .inl h
    · rw [List.mem_singleton.mp h]; exact .inr (.inr hp)
  · rcases h with h | h
    · obtain ⟨o, e⟩ := ft a h
      exact ⟨o, ext_new hp a o e⟩
    · rw [List.mem_singleton.mp h]; exact ⟨_, upd_same⟩
theorem Makes.lst {ds : List D} {vs : List V} {Q : VK} (m : Makes G H F (.lst ds) Q) (ft : FT H F) (r : RepDs G H F vs ds) : ∀ p, H p = none → Q (.ref p) (upd H p (.lst vs)) := fun p hp =>
  m _ _ F [p] (stp_new ft hp) (.lst upd_same (r.lat (lat_new hp)))
theorem Makes.tup {ds : List D} {vs : List V} {Q : VK} (m : Makes G H F (.val (.tup ds)) Q) (ft : FT H F) (r : RepDs G H F vs ds) : ∀ p, H p = none → Q (.ref p) (upd H p (.tup vs)) := fun p hp =>
  m _ _ (plus F [p]) [] (stp_newF ft hp) (.val (.tup (.inl ⟨.inr (by simp), upd_same⟩) (r.lat ⟨fun _ h => .inl h, fun a o _ e => ext_new hp a o e⟩)))
theorem Makes.val' {o : D} {Q : VK} (m : Makes G H F (.val o) Q) (ft : FT H F) (r : ∀ F, RepD G H F v o) : Q v H := m.val ft (r F)

/-! ### lists of values -/
theorem RepDs.length {vs : List V} {ds : List D} (r : RepDs G H F vs ds) : vs.length = ds.length := by
  induction ds generalizing vs with
  | nil => cases r; rfl
  | cons d ds ih => cases r with | cons h r => rw [List.length_cons, List.length_cons, ih r]
theorem RepDs.append {vs ws : List V} {ds es : List D} (r : RepDs G H F vs ds) (s : RepDs G H F ws es) : RepDs G H F (vs ++ ws) (ds ++ es) := by
  induction ds generalizing vs with
  | nil => cases r; exact s
  | cons d ds ih => cases r with | cons h r => exact .cons h (ih r)
theorem RepDs.get {vs : List V} {ds : List D} {i : Nat} {d : D} (r : RepDs G H F vs ds) (e : ds[i]? = some d) : ∃ v, vs[i]? = some v ∧ RepD G H F v d := by
  induction ds generalizing vs i with
  | nil => simp at e
  | cons d0 ds ih =>
    cases r with
    | cons h r =>
      cases i with
      | zero => simp at e; subst e; exact ⟨_, rfl, h⟩
      | succ i =>
        obtain ⟨v, e1, r1⟩ := ih r (by simpa using e)
        exact ⟨v, by simpa using e1, r1⟩
theorem RepDs.take {vs : List V} {ds : List D} (r : RepDs G H F vs ds) (n : Nat) : RepDs G H F (vs.take n) (ds.take n) := by
  induction ds generalizing vs n with
  | nil => cases r; simp; exact .nil
  | cons d0 ds ih =>
    cases r with
    | cons h r =>
      cases n with
      | zero => exact .nil
      | succ n => exact .cons h (ih r n)
theorem RepDs.drop {vs : List V} {ds : List D} (r : RepDs G H F vs ds) (n : Nat) : RepDs G H F (vs.drop n) (ds.drop n) := by
  induction ds generalizing vs n with
  | nil => cases r; simp; exact .nil
  | cons d0 ds ih =>
    cases r with
    | cons h r =>
      cases n with
      | zero => exact .cons h r
      | succ n => exact ih r n
theorem RepDs.set {vs : List V} {ds : List D} {d : D} (r : RepDs G H F vs ds) (n : Nat) (h : RepD G H F v d) : RepDs G H F (vs.set n v) (ds.set n d) := by
  induction ds generalizing vs n with
  | nil => cases r; exact .nil
  | cons d0 ds ih =>
    cases r with
    | cons h0 r =>
      cases n with
      | zero => exact .cons h r
      | succ n => exact .cons h0 (ih r n)
theorem RepDs.map {vs : List V} {α : Type} {g : α → V} {k : α → D} (hk : ∀ a, RepD G H F (g a) (k a)) : ∀ xs : List α, RepDs G H F (xs.map g) (xs.map k)
  | [] => .nil
  | x :: xs => .cons (hk x) (RepDs.map (vs := vs) hk xs)
theorem RepDs.reverse {vs : List V} {ds : List D} (r : RepDs G H F vs ds) : RepDs G H F vs.reverse ds.reverse := by
  induction ds generalizing vs with
  | nil => cases r; exact .nil
  | cons d ds ih =>
    cases r with
    | cons h r =>
      rw [List.reverse_cons, List.reverse_cons]
      exact (ih r).append (.cons h .nil)
end
end Z
end

section
set_option maxRecDepth 100007
/-! Operators by trees, and that the machine does so. -/
namespace Z
open PySem L2 PyProof.Rows
section
variable {G : Gx} {H : Hp} {F : Fz} {v : V} {d : D}
theorem RepR.int {i : Int} (r : RepR G H F v (.int i)) : v = .int i := by
  cases r with | of r => cases r; rfl
theorem RepR.bl {b : Bool} (r : RepR G H F v (.bl b)) : v = .bl b := by
  cases r with | of r => cases r; rfl
theorem RepR.non (r : RepR G H F v .non) : v = .non := by
  cases r with | of r => cases r; rfl
theorem RepR.str {x : List Nat} (r : RepR G H F v (.str x)) : v = .str ⟨x.toArray⟩ ∧ txtOk x = true := by
  cases r with | of r => cases r with | str h => exact ⟨rfl, h⟩
theorem RepR.lsts {ds : List D} (r : RepR G H F v (.lst ds)) : ∃ a vs, v = .ref a ∧ H a = some (.lst vs) ∧ RepDs G H F vs ds := by
  cases r with
  | of r => cases r with | lst f h r => exact ⟨_, _, rfl, h, r⟩
  | lst h r => exact ⟨_, _, rfl, h, r⟩
theorem RepR.tups {ds : List D} (r : RepR G H F v (.tup ds)) : ∃ a vs, v = .ref a ∧ TupAt G.K H F a vs ∧ RepDs G H F vs ds := by
  cases r with
  | of r => cases r with | tup h r => exact ⟨_, _, rfl, h, r⟩
theorem RepR.objs {c : Nat} {fs : List (Nat × D)} (r : RepR G H F v (.obj c fs)) : ∃ a dx fvs, v = .ref a ∧ H a = some (.ins (G.cls c) dx fvs) ∧ RepFs G H F fvs fs := by
  cases r with
  | of r => cases r with | obj f h r => exact ⟨_, _, _, rfl, h, r⟩
  | obj h r => exact ⟨_, _, _, rfl, h, r⟩
theorem RepR.scrs {ns : List Int} (r : RepR G H F v (.scr ns)) : ∃ a, v = .ref a ∧ SqL G.K H a (ns.map V.int) := by
  cases r with
  | of r => cases r with
    | scr h => exact ⟨_, rfl, h.elim (fun h => .inl h.2) .inr⟩
end

def MulOk (i j : Int) : Prop := ((-(2 ^ 64) < i ∧ i < 2 ^ 64) ∨ (-(2 ^ 64) < j ∧ j < 2 ^ 64)) ∨ i.natAbs.log2 + j.natAbs.log2 < 1000000
instance (i j : Int) : Decidable (MulOk i j) := inferInstanceAs (Decidable (_ ∨ _))
@[simp] def arith (op : Bop) (i j : Int) : Option Int := match op with
  | .add => some (i + j)
  | .sub => some (i - j)
  | .mul => if MulOk i j then some (i * j) else none
  | .fdiv => if 0 < j ∧ j.natAbs.log2 < 9000 then some (i / j) else if j < 0 ∧ j.natAbs < 1073741824 then some (i.fdiv j) else none
  | .mod => if 0 < j then some (i % j) else if j < 0 then some (i.fmod j) else none
  | .pow => if 0 ≤ j ∧ j ≤ 1000000 ∧ i.natAbs < 2 ^ 64 then some (i ^ j.toNat) else none
  | .shl => if 0 ≤ j ∧ j ≤ 1000000 ∧ i.natAbs < 2 ^ 64 then some (i * 2 ^ j.toNat) else none
  | .shr => if 0 ≤ j then some (i / 2 ^ j.toNat) else none
  | .band => some (Builtin.bitAnd i j)
  | .bor => some (Builtin.bitOr i j)
  | .bxor => some (Builtin.bitXor i j)
@[simp] def binOp (op : Bop) : D → D → Option O
  | .int i, .int j => (arith op i j).map fun n => .val (.int n)
  | .str a, .str b => if op = .add ∧ a.length + b.length ≤ sizeLine then some (.val (.str (a ++ b))) else none
  | .lst a, .lst b => if op = .add ∧ a.length + b.length ≤ sizeLine then some (.lst (a ++ b)) else none
  | .tup a, .tup b => if op = .add ∧ a.isEmpty = false ∧ a.length + b.length ≤ sizeLine then some (.val (.tup (a ++ b))) else none
  | .lst a, .int k => if op = .mul ∧ -(2 ^ 63) ≤ k ∧ k < 2 ^ 63 ∧ a.length * k.toNat ≤ sizeLine then some (.lst (List.replicate k.toNat a).flatten) else none
  | .int i, .bl b => if op = .add then some (.val (.int (i + if b then 1 else 0))) else none
  | _, _ => none
def opOf : Bop → Operator
  | .add => .Add | .sub => .Sub | .mul => .Mult | .fdiv => .FloorDiv | .mod => .Mod | .pow => .Pow | .shl => .LShift | .shr => .RShift | .band => .BitAnd | .bor => .BitOr | .bxor => .BitXor

section
variable {G : Gx} {X : Cx}
/-- an operation on two ints alone -/
theorem opII {f : Value → Value → Sem Value} {op : Bop} (hop : op ≠ .add) (hop2 : op ≠ .mul) (h : ∀ i j n, arith op i j = some n → ∀ (pins : List (Addr × Obj)) (s : Shared) (σ : L2.St) (H : Hp) (v u : Value) (Q : VK), Inv X pins σ H s → RelV (.int i) v → RelV (.int j) u → Q (.int n) H →
    wpAny (model X.prog X.w) X.A (f v u) (EP X pins σ Q) X.xe s) : OpR X f (rV2 G (binOp op)) := by
  intro pins s σ H x y v u Q I rx ry hh
  obtain ⟨F, d, e, o, ft, rd, re, hf, mk⟩ := hh
  cases d <;> cases e <;> simp only [binOp, hop, hop2, false_and, if_false, reduceCtorEq] at hf
  rename_i i j
  cases ha : arith op i j with
  | none => rw [ha] at hf; cases hf
  | some n =>
    rw [ha] at hf
    cases hf
    cases rd.int
    cases re.int
    exact h i j n ha pins s σ H v u Q I rx ry (mk.val ft (.int n))
theorem b_sub : OpR X (binaryOp .Sub) (rV2 G (binOp .sub)) := opII (by decide) (by decide) fun i j n e pins s σ H v u Q I rx ry q => by
  cases e
  exact op_sub pins s σ H _ _ v u Q I rx ry ⟨i, j, rfl, rfl, q⟩
theorem b_fdiv : OpR X (binaryOp .FloorDiv) (rV2 G (binOp .fdiv)) := opII (by decide) (by decide) fun i j n e pins s σ H v u Q I rx ry q => by
  simp only [arith] at e
  split at e
  · rename_i h
    cases e
    exact op_fdivW pins s σ H _ _ v u Q I rx ry ⟨i, j, rfl, rfl, h, q⟩
  · split at e
    · rename_i h
      cases e
      exact op_fdivN pins s σ H _ _ v u Q I rx ry ⟨i, j, rfl, rfl, ⟨by omega, h.2⟩, q⟩
    · cases e
theorem b_mod : OpR X (binaryOp .Mod) (rV2 G (binOp .mod)) := opII (by decide) (by decide) fun i j n e pins s σ H v u Q I rx ry q => by
  simp only [arith] at e
  split at e
  · rename_i h
    cases e
    exact op_mod pins s σ H _ _ v u Q I rx ry ⟨i, j, rfl, rfl, h, q⟩
  · split at e
    · rename_i h
      cases e
      exact op_modN pins s σ H _ _ v u Q I rx ry ⟨i, j, rfl, rfl, by omega, q⟩
    · cases e
theorem b_pow : OpR X (binaryOp .Pow) (rV2 G (binOp .pow)) := opII (by decide) (by decide) fun i j n e pins s σ H v u Q I rx ry q => by
  simp only [arith] at e
  split at e
  · rename_i h
    cases e
    exact op_pow pins s σ H _ _ v u Q I rx ry ⟨i, j, rfl, rfl, h, q⟩
  · cases e
theorem b_shl : OpR X (binaryOp .LShift) (rV2 G (binOp .shl)) := opII (by decide) (by decide) fun i j n e pins s σ H v u Q I rx ry q => by
  simp only [arith] at e
  split at e
  · rename_i h
    cases e
    exact op_shl pins s σ H _ _ v u Q I rx ry ⟨i, j, rfl, rfl, h, q⟩
  · cases e
theorem b_shr : OpR X (binaryOp .RShift) (rV2 G (binOp .shr)) := opII (by decide) (by decide) fun i j n e pins s σ H v u Q I rx ry q => by
  simp only [arith] at e
  split at e
  · rename_i h
    cases e
    exact op_shr pins s σ H _ _ v u Q I rx ry ⟨i, j, rfl, rfl, h, q⟩
  · cases e
theorem b_and : OpR X (binaryOp .BitAnd) (rV2 G (binOp .band)) := opII (by decide) (by decide) fun i j n e pins s σ H v u Q I rx ry q => by
  cases e
  exact op_and pins s σ H _ _ v u Q I rx ry ⟨i, j, rfl, rfl, q⟩
theorem b_or : OpR X (binaryOp .BitOr) (rV2 G (binOp .bor)) := opII (by decide) (by decide) fun i j n e pins s σ H v u Q I rx ry q => by
  cases e
  exact op_or pins s σ H _ _ v u Q I rx ry ⟨i, j, rfl, rfl, q⟩
theorem b_xor : OpR X (binaryOp .BitXor) (rV2 G (binOp .bxor)) := opII (by decide) (by decide) fun i j n e pins s σ H v u Q I rx ry q => by
  cases e
  exact op_xor pins s σ H _ _ v u Q I rx ry ⟨i, j, rfl, rfl, q⟩
theorem txtOk_append {a b : List Nat} (h : txtOk a = true) (k : txtOk b = true) : txtOk (a ++ b) = true := by
  unfold txtOk at *; rw [List.all_append, h, k]; rfl
theorem str_append (a b : List Nat) : (⟨a.toArray⟩ : Str) ++ ⟨b.toArray⟩ = ⟨(a ++ b).toArray⟩ := by
  show Str.append _ _ = _
  unfold Str.append
  simp
theorem str_len (a : List Nat) : (⟨a.toArray⟩ : Str).length = a.length := by
  unfold Str.length; simp
theorem b_add (hK : G.K = X.K) : OpR X (binaryOp .Add) (rV2 G (binOp .add)) := by
  intro pins s σ H x y v u Q I rx ry hh
  obtain ⟨F, d, e, o, ft, rd, re, hf, mk⟩ := hh
  cases d <;> cases e <;> simp only [binOp, true_and, if_true, reduceCtorEq, false_and, if_false] at hf
  · rename_i i b
    cases hf
    cases rd.int
    cases re.bl
    refine op_add_ib pins s σ H _ _ v u Q I rx ry ⟨i, b, rfl, rfl, ?_⟩
    have := mk.val ft (.int _)
    cases b <;> exact this
  · rename_i i j
    simp only [arith, Option.map_some, Option.some.injEq] at hf
    subst hf
    cases rd.int
    cases re.int
    exact op_add pins s σ H _ _ v u Q I rx ry ⟨i, j, rfl, rfl, mk.val ft (.int _)⟩
  · rename_i a b
    split at hf
    · rename_i h
      cases hf
      obtain ⟨rfl, t1⟩ := rd.str
      obtain ⟨rfl, t2⟩ := re.str
      refine op_add_str pins s σ H _ _ v u Q I rx ry ⟨_, _, rfl, rfl, by rw [str_len, str_len]; exact h, ?_⟩
      rw [str_append]
      exact mk.val ft (.str (txtOk_append t1 t2))
    · cases hf
  · rename_i a b
    split at hf
    · rename_i h
      cases hf
      obtain ⟨p, vs, rfl, hp, r1⟩ := rd.tups
      obtain ⟨p', ws, rfl, hp', r2⟩ := re.tups
      have l1 := r1.length
      have l2 := r2.length
      refine op_catT pins s σ H _ _ v u Q I rx ry ⟨p, p', vs, ws, rfl, rfl, hK ▸ hp.sq, hK ▸ hp'.sq, ?_, by omega, fun e => ?_, fun e q hq => ?_⟩
      · intro e
        subst e
        cases a with
        | nil => exact absurd h.1 (by decide)
        | cons _ _ => cases l1
      · subst e
        have : b = [] := by cases b with | nil => rfl | cons _ _ => cases l2
        subst this
        rw [List.append_nil] at mk
        exact mk.val ft (.tup hp r1)
      · exact mk.tup ft (r1.append r2) q hq
    · cases hf
  · rename_i a b
    split at hf
    · rename_i h
      cases hf
      obtain ⟨p, vs, rfl, hp, r1⟩ := rd.lsts
      obtain ⟨p', ws, rfl, hp', r2⟩ := re.lsts
      exact op_cat pins s σ H _ _ v u Q I rx ry ⟨p, p', vs, ws, rfl, rfl, hp, hp', by rw [r1.length, r2.length]; exact h, fun q hq => mk.lst ft (r1.append r2) q hq⟩
    · cases hf
theorem RepDs.rep {H : Hp} {F : Fz} {vs : List V} {ds : List D} (r : RepDs G H F vs ds) : ∀ k : Nat, RepDs G H F (List.replicate k vs).flatten (List.replicate k ds).flatten
  | 0 => .nil
  | k + 1 => by
    rw [List.replicate_succ, List.replicate_succ, List.flatten_cons, List.flatten_cons]
    exact r.append (RepDs.rep r k)
theorem b_mul : OpR X (binaryOp .Mult) (rV2 G (binOp .mul)) := by
  intro pins s σ H x y v u Q I rx ry hh
  obtain ⟨F, d, e, o, ft, rd, re, hf, mk⟩ := hh
  cases d <;> cases e <;> simp only [binOp, true_and, if_true, reduceCtorEq, false_and, if_false] at hf
  · rename_i i j
    simp only [arith] at hf
    split at hf
    · rename_i h
      cases hf
      cases rd.int
      cases re.int
      rcases h with h | h
      · exact op_mul pins s σ H _ _ v u Q I rx ry ⟨i, j, rfl, rfl, h, mk.val ft (.int _)⟩
      · exact op_mulW pins s σ H _ _ v u Q I rx ry ⟨i, j, rfl, rfl, h, mk.val ft (.int _)⟩
    · cases hf
  · rename_i a k
    split at hf
    · rename_i h
      cases hf
      obtain ⟨p, vs, rfl, hp, r1⟩ := rd.lsts
      cases re.int
      exact op_rep pins s σ H _ _ v u Q I rx ry ⟨p, k, vs, rfl, rfl, hp, h.1, h.2.1, by rw [r1.length]; exact h.2.2, fun q hq => mk.lst ft (r1.rep _) q hq⟩
    · cases hf
theorem bop_ok (hK : G.K = X.K) : ∀ op, OpR X (binaryOp (opOf op)) (rV2 G (binOp op))
  | .add => b_add hK | .sub => b_sub | .mul => b_mul | .fdiv => b_fdiv | .mod => b_mod | .pow => b_pow | .shl => b_shl | .shr => b_shr | .band => b_and | .bor => b_or | .bxor => b_xor
@[simp] def negOp : D → Option O
  | .int i => some (.val (.int (-i)))
  | _ => none
theorem u_neg : UnR X (unaryOp .USub) (rV1 G negOp) := by
  intro pins s σ H x v Q I rx hh
  obtain ⟨F, d, o, ft, rd, hf, mk⟩ := hh
  cases d <;> simp only [negOp, reduceCtorEq] at hf
  cases hf
  cases rd.int
  exact un_neg pins s σ H _ v Q I rx ⟨_, rfl, mk.val ft (.int _)⟩
end
end Z
end

section
set_option maxRecDepth 100007
/-! Comparisons. -/
namespace Z
open PySem L2 PyProof.Rows
def lexI : List D → List D → Option Bool
  | [], [] => some false
  | [], .int _ :: r => (lexI [] r).map fun _ => true
  | .int _ :: r, [] => (lexI r []).map fun _ => false
  | .int x :: xs, .int y :: ys => (lexI xs ys).map fun b => if x = y then b else decide (x < y)
  | _, _ => none
def isNon : D → Bool
  | .non => true
  | _ => false
@[simp] def cmpOp (op : Cop) (d e : D) : Option Bool := match op with
  | .eq => if plainN 8 d && plainN 8 e then some (eqD d e) else none
  | .ne => if plainN 8 d && plainN 8 e then some (!eqD d e) else none
  | .lt => match d, e with
    | .int i, .int j => some (decide (i < j))
    | .tup a, .tup b => lexI a b
    | _, _ => none
  | .le => match d, e with
    | .int i, .int j => some (decide (i ≤ j))
    | _, _ => none
  | .gt => match d, e with
    | .int i, .int j => some (decide (j < i))
    | _, _ => none
  | .ge => match d, e with
    | .int i, .int j => some (decide (j ≤ i))
    | _, _ => none
  | .is => match e with
    | .non => some (isNon d)
    | _ => none
  | .isnot => match e with
    | .non => some (!isNon d)
    | _ => none
  | .inn => match e with
    | .lst ds => if plainN 7 d && ds.all (plainN 7) then some (ds.any fun z => eqD z d) else none
    | .tup ds => if plainN 7 d && ds.all (plainN 7) then some (ds.any fun z => eqD z d) else none
    | _ => none
  | .notin => match e with
    | .lst ds => if plainN 7 d && ds.all (plainN 7) then some (!ds.any fun z => eqD z d) else none
    | .tup ds => if plainN 7 d && ds.all (plainN 7) then some (!ds.any fun z => eqD z d) else none
    | _ => none
@[simp] def cmpO (op : Cop) (d e : D) : Option O := (cmpOp op d e).map fun b => .val (.bl b)
def copOf : Cop → CmpOp
  | .eq => .Eq | .ne => .NotEq | .lt => .Lt | .le => .LtE | .gt => .Gt | .ge => .GtE | .is => .Is | .isnot => .IsNot | .inn => .In | .notin => .NotIn
section
variable {G : Gx} {X : Cx}
theorem opBL {f : Value → Value → Sem Value} {op : Cop} (h : ∀ F d e b, cmpOp op d e = some b → ∀ (pins : List (Addr × Obj)) (s : Shared) (σ : L2.St) (H : Hp) (x y : V) (v u : Value) (Q : VK), Inv X pins σ H s → RelV x v → RelV y u → FT H F → RepR G H F x d → RepR G H F y e → Q (.bl b) H →
    wpAny (model X.prog X.w) X.A (f v u) (EP X pins σ Q) X.xe s) : OpR X f (rV2 G (cmpO op)) := by
  intro pins s σ H x y v u Q I rx ry hh
  obtain ⟨F, d, e, o, ft, rd, re, hf, mk⟩ := hh
  unfold cmpO at hf
  cases hb : cmpOp op d e with
  | none => rw [hb] at hf; cases hf
  | some b =>
    rw [hb] at hf
    cases hf
    exact h F d e b hb pins s σ H x y v u Q I rx ry ft rd re (mk.val ft (.bl b))
theorem c_eq (hK : G.K = X.K) (hu : X.A.units + 65 < cLine) : OpR X (compareOp .Eq) (rV2 G (cmpO .eq)) := opBL fun F d e b hb pins s σ H x y v u Q I rx ry ft rd re q => by
  simp only [cmpOp] at hb
  split at hb
  · rename_i hp
    cases hb
    rw [Bool.and_eq_true] at hp
    obtain ⟨p1, q1, r1⟩ := dp_ofR 8 rd hp.1
    obtain ⟨p2, q2, r2⟩ := dp_ofR 8 re hp.2
    rw [hK] at p1 p2
    exact op_eqD (by omega) pins s σ H x y v u Q I rx ry ⟨_, _, p1, p2, shaped_of q1 r1 (by decide), shaped_of q2 r2 (by decide), by rw [eqv_toP 8 8 d e hp.1 hp.2]; exact q⟩
  · cases hb
theorem c_ne (hK : G.K = X.K) (hu : X.A.units + 65 < cLine) : OpR X (compareOp .NotEq) (rV2 G (cmpO .ne)) := opBL fun F d e b hb pins s σ H x y v u Q I rx ry ft rd re q => by
  simp only [cmpOp] at hb
  split at hb
  · rename_i hp
    cases hb
    rw [Bool.and_eq_true] at hp
    obtain ⟨p1, q1, r1⟩ := dp_ofR 8 rd hp.1
    obtain ⟨p2, q2, r2⟩ := dp_ofR 8 re hp.2
    rw [hK] at p1 p2
    exact op_neD (by omega) pins s σ H x y v u Q I rx ry ⟨_, _, p1, p2, shaped_of q1 r1 (by decide), shaped_of q2 r2 (by decide), by rw [eqv_toP 8 8 d e hp.1 hp.2]; exact q⟩
  · cases hb
theorem lexI_ok {H : Hp} {F : Fz} : ∀ (a b : List D) (vs ws : List V) (r : Bool), RepDs G H F vs a → RepDs G H F ws b → lexI a b = some r → ∃ ns ms, vs = ns.map V.int ∧ ws = ms.map V.int ∧ HT.lexLt ns ms = r
  | [], [], _, _, r, .nil, .nil, e => ⟨[], [], rfl, rfl, by simp only [lexI] at e; cases e; rfl⟩
  | [], y :: ys, _, _, r, .nil, .cons h t, e => by
    cases y <;> simp only [lexI, reduceCtorEq] at e
    cases e1 : lexI [] ys with
    | none => rw [e1] at e; cases e
    | some b =>
      rw [e1] at e
      cases e
      obtain ⟨ns, ms, h1, h2, h3⟩ := lexI_ok [] ys _ _ b .nil t e1
      cases h
      cases ns with
      | nil => exact ⟨[], _ :: ms, rfl, by rw [h2]; rfl, rfl⟩
      | cons _ _ => cases h1
  | x :: xs, [], _, _, r, .cons h t, .nil, e => by
    cases x <;> simp only [lexI, reduceCtorEq] at e
    cases e1 : lexI xs [] with
    | none => rw [e1] at e; cases e
    | some b =>
      rw [e1] at e
      cases e
      obtain ⟨ns, ms, h1, h2, h3⟩ := lexI_ok xs [] _ _ b t .nil e1
      cases h
      cases ms with
      | nil => exact ⟨_ :: ns, [], by rw [h1]; rfl, rfl, rfl⟩
      | cons _ _ => cases h2
  | x :: xs, y :: ys, _, _, r, .cons h t, .cons h' t', e => by
    cases x <;> cases y <;> simp only [lexI, reduceCtorEq] at e
    cases e1 : lexI xs ys with
    | none => rw [e1] at e; cases e
    | some b =>
      rw [e1] at e
      cases e
      obtain ⟨ns, ms, h1, h2, h3⟩ := lexI_ok xs ys _ _ b t t' e1
      cases h
      cases h'
      refine ⟨_ :: ns, _ :: ms, by rw [h1]; rfl, by rw [h2]; rfl, ?_⟩
      rw [HT.lexLt_cons, h3]
theorem c_lt (hK : G.K = X.K) (hu : X.A.units + 65 < cLine) : OpR X (compareOp .Lt) (rV2 G (cmpO .lt)) := opBL fun F d e b hb pins s σ H x y v u Q I rx ry ft rd re q => by
  cases d <;> cases e <;> simp only [cmpOp, reduceCtorEq] at hb
  · cases hb
    cases rd.int
    cases re.int
    exact op_lt pins s σ H _ _ v u Q I rx ry ⟨_, _, rfl, rfl, q⟩
  · obtain ⟨p, vs, rfl, hp, r1⟩ := rd.tups
    obtain ⟨p', ws, rfl, hp', r2⟩ := re.tups
    obtain ⟨ns, ms, rfl, rfl, h3⟩ := lexI_ok _ _ _ _ b r1 r2 hb
    exact op_ltT (by omega) pins s σ H _ _ v u Q I rx ry ⟨p, p', ns, ms, rfl, rfl, hK ▸ hp.sq, hK ▸ hp'.sq, by rw [h3]; exact q⟩
theorem c_le : OpR X (compareOp .LtE) (rV2 G (cmpO .le)) := opBL fun F d e b hb pins s σ H x y v u Q I rx ry ft rd re q => by
  cases d <;> cases e <;> simp only [cmpOp, reduceCtorEq] at hb
  cases hb
  cases rd.int
  cases re.int
  exact op_le pins s σ H _ _ v u Q I rx ry ⟨_, _, rfl, rfl, q⟩
theorem c_gt : OpR X (compareOp .Gt) (rV2 G (cmpO .gt)) := opBL fun F d e b hb pins s σ H x y v u Q I rx ry ft rd re q => by
  cases d <;> cases e <;> simp only [cmpOp, reduceCtorEq] at hb
  cases hb
  cases rd.int
  cases re.int
  exact op_gt pins s σ H _ _ v u Q I rx ry ⟨_, _, rfl, rfl, q⟩
theorem c_ge : OpR X (compareOp .GtE) (rV2 G (cmpO .ge)) := opBL fun F d e b hb pins s σ H x y v u Q I rx ry ft rd re q => by
  cases d <;> cases e <;> simp only [cmpOp, reduceCtorEq] at hb
  cases hb
  cases rd.int
  cases re.int
  exact op_ge pins s σ H _ _ v u Q I rx ry ⟨_, _, rfl, rfl, q⟩
theorem RepR.non_iff {H : Hp} {F : Fz} {v : V} {d : D} (r : RepR G H F v d) : decide (v = .non) = isNon d := by
  cases r with
  | of r => cases r <;> simp [isNon]
  | _ => simp [isNon]
theorem c_is : OpR X (compareOp .Is) (rV2 G (cmpO .is)) := opBL fun F d e b hb pins s σ H x y v u Q I rx ry ft rd re q => by
  cases e <;> simp only [cmpOp, reduceCtorEq, Option.some.injEq] at hb
  cases re.non
  exact op_isN pins s σ H _ _ v u Q I rx ry ⟨rfl, by rw [rd.non_iff, hb]; exact q⟩
theorem c_isnot : OpR X (compareOp .IsNot) (rV2 G (cmpO .isnot)) := opBL fun F d e b hb pins s σ H x y v u Q I rx ry ft rd re q => by
  cases e <;> simp only [cmpOp, reduceCtorEq, Option.some.injEq] at hb
  cases re.non
  refine op_notN pins s σ H _ _ v u Q I rx ry ⟨rfl, ?_⟩
  rw [rd.non_iff, hb]
  exact q
theorem any_toPs (d : D) (hd : plainN 7 d = true) : ∀ ds : List D, ds.all (plainN 7) = true → ((toPs ds).any fun z => PyData.eqv z (toP d)) = ds.any fun z => eqD z d
  | [], _ => rfl
  | e :: es, h => by
    rw [List.all_cons, Bool.and_eq_true] at h
    simp only [toPs, List.any_cons]
    rw [eqv_toP 7 7 e d h.1 hd, any_toPs d hd es h.2]
theorem plain8 {ds : List D} (h : ds.all (plainN 7) = true) : plainN 8 (.lst ds) = true ∧ plainN 8 (.tup ds) = true := ⟨h, h⟩
theorem c_in (hK : G.K = X.K) (hu : X.A.units + 65 < cLine) : OpR X (compareOp .In) (rV2 G (cmpO .inn)) := opBL fun F d e b hb pins s σ H x y v u Q I rx ry ft rd re q => by
  cases e <;> simp only [cmpOp, reduceCtorEq] at hb
  all_goals
    split at hb
    rename_i ds hp
    cases hb
    rw [Bool.and_eq_true] at hp
    obtain ⟨p1, q1, r1⟩ := dp_ofR 7 rd hp.1
    rw [hK] at p1
    obtain ⟨as, s1⟩ := Dp.reads I _ x v p1 rx
    first
    | (obtain ⟨p2, q2, r2⟩ := dp_ofR 8 re (plain8 hp.2).1
       rw [hK] at p2
       simp only [toP] at p2 q2
       obtain ⟨bs, s2⟩ := Dp.reads I _ y u p2 ry
       refine SeqAt.in_list_reads s2 s1 (by simpa only [PyData.canLay0] using q2) q1 (by omega) ⟨.bl _, H, I, rfl, ?_⟩
       rw [any_toPs d hp.1 ds hp.2]
       exact q)
    | (obtain ⟨p2, q2, r2⟩ := dp_ofR 8 re (plain8 hp.2).2
       rw [hK] at p2
       simp only [toP] at p2 q2
       obtain ⟨bs, s2⟩ := Dp.reads I _ y u p2 ry
       refine SeqAt.in_tuple_reads s2 s1 (by simpa only [PyData.canLay0] using q2) q1 (by omega) ⟨.bl _, H, I, rfl, ?_⟩
       rw [any_toPs d hp.1 ds hp.2]
       exact q)
    cases hb
theorem c_notin (hK : G.K = X.K) (hu : X.A.units + 65 < cLine) : OpR X (compareOp .NotIn) (rV2 G (cmpO .notin)) := opBL fun F d e b hb pins s σ H x y v u Q I rx ry ft rd re q => by
  cases e <;> simp only [cmpOp, reduceCtorEq] at hb
  all_goals
    split at hb
    rename_i ds hp
    cases hb
    rw [Bool.and_eq_true] at hp
    obtain ⟨p1, q1, r1⟩ := dp_ofR 7 rd hp.1
    rw [hK] at p1
    obtain ⟨as, s1⟩ := Dp.reads I _ x v p1 rx
    first
    | (obtain ⟨p2, q2, r2⟩ := dp_ofR 8 re (plain8 hp.2).1
       rw [hK] at p2
       simp only [toP] at p2 q2
       obtain ⟨bs, s2⟩ := Dp.reads I _ y u p2 ry
       refine SeqAt.notIn_list_reads s2 s1 (by simpa only [PyData.canLay0] using q2) q1 (by omega) ⟨.bl _, H, I, rfl, ?_⟩
       rw [any_toPs d hp.1 ds hp.2]
       exact q)
    | (obtain ⟨p2, q2, r2⟩ := dp_ofR 8 re (plain8 hp.2).2
       rw [hK] at p2
       simp only [toP] at p2 q2
       obtain ⟨bs, s2⟩ := Dp.reads I _ y u p2 ry
       refine SeqAt.notIn_tuple_reads s2 s1 (by simpa only [PyData.canLay0] using q2) q1 (by omega) ⟨.bl _, H, I, rfl, ?_⟩
       rw [any_toPs d hp.1 ds hp.2]
       exact q)
    cases hb
theorem cop_ok (hK : G.K = X.K) (hu : X.A.units + 65 < cLine) : ∀ op, OpR X (compareOp (copOf op)) (rV2 G (cmpO op))
  | .eq => c_eq hK hu | .ne => c_ne hK hu | .lt => c_lt hK hu | .le => c_le | .gt => c_gt | .ge => c_ge | .is => c_is | .isnot => c_isnot | .inn => c_in hK hu | .notin => c_notin hK hu
end
end Z
end

section
set_option maxRecDepth 100007
/-! Tests, and, or, not, the conditional expression; displays. -/
namespace Z
open PySem L2 PyProof.Rows
@[simp] def truD : D → Option Bool
  | .non => some false
  | .bl b => some b
  | .int i => some (i != 0)
  | .str x => if x.length ≤ sizeLine then some (!x.isEmpty) else none
  | .tup ds => some (!ds.isEmpty)
  | .lst ds => some (!ds.isEmpty)
  | .scr ns => some (!ns.isEmpty)
  | _ => none
section
variable {G : Gx} {H : Hp} {F : Fz} {v : V} {d : D}
theorem isEmpty_len {α β : Type} {xs : List α} {ys : List β} (h : xs.length = ys.length) : xs.isEmpty = ys.isEmpty := by
  cases xs <;> cases ys <;> first | rfl | cases h
theorem truD_ok {b : Bool} (r : RepR G H F v d) (h : truD d = some b) : TruV G.K v H b := by
  cases d with
  | non => cases r.non; cases h; rfl
  | bl c => cases r.bl; cases h; rfl
  | int i => cases r.int; cases h; rfl
  | str x =>
    obtain ⟨rfl, _⟩ := r.str
    simp only [truD] at h
    split at h
    · rename_i hl
      cases h
      refine ⟨by rw [str_len]; exact hl, ?_⟩
      rw [str_len]
      cases x with
      | nil => rfl
      | cons a t =>
        have : (((a :: t).length : Int) != 0) = true := by
          rw [bne_iff_ne, List.length_cons]
          omega
        rw [this]; rfl
    · cases h
  | tup ds =>
    obtain ⟨a, vs, rfl, hp, r1⟩ := r.tups
    cases h
    exact .inr (.inl ⟨vs, hp.sq, by rw [isEmpty_len r1.length]⟩)
  | lst ds =>
    obtain ⟨a, vs, rfl, hp, r1⟩ := r.lsts
    cases h
    exact .inl ⟨vs, SqL.of hp, by rw [isEmpty_len r1.length]⟩
  | scr ns =>
    obtain ⟨a, rfl, hp⟩ := r.scrs
    cases h
    exact .inl ⟨_, hp, by cases ns <;> rfl⟩
  | _ => cases h
end

@[simp] def evTru (m1 : Zs → R Hd) : Zs → R Bool := fun z => (m1 z).bind fun x z1 => match (peek x z1).bind truD with
  | some b => .ok b z1
  | none => .bad
@[simp] def evBl (m1 : Zs → R Hd) : Zs → R Bool := fun z => (m1 z).bind fun x z1 => match peek x z1 with
  | some (.bl b) => .ok b z1
  | _ => .bad
@[simp] def evAndT (c1 c2 : Zs → R Bool) : Zs → R Bool := fun z => (c1 z).bind fun b z1 => if b = true then c2 z1 else .ok false z1
@[simp] def evOrT (c1 c2 : Zs → R Bool) : Zs → R Bool := fun z => (c1 z).bind fun b z1 => if b = true then .ok true z1 else c2 z1
@[simp] def evNotT (c1 : Zs → R Bool) : Zs → R Bool := fun z => (c1 z).bind fun b z1 => .ok (!b) z1
def andK (x : Hd) (z : Zs) (r : R Hd) : Option Bool → R Hd
  | some true => r
  | some false => .ok x z
  | none => .bad
def orK (x : Hd) (z : Zs) (r : R Hd) : Option Bool → R Hd
  | some true => .ok x z
  | some false => r
  | none => .bad
@[simp] def evAndV (m1 m2 : Zs → R Hd) : Zs → R Hd := fun z => (m1 z).bind fun x z1 => andK x z1 (m2 z1) ((peek x z1).bind truD)
@[simp] def evOrV (m1 m2 : Zs → R Hd) : Zs → R Hd := fun z => (m1 z).bind fun x z1 => orK x z1 (m2 z1) ((peek x z1).bind truD)
@[simp] def evNotV (m1 : Zs → R Hd) : Zs → R Hd := evOp1 (fun d => (truD d).map fun b => .val (.bl (!b))) m1
@[simp] def evIf (c : Zs → R Bool) (m1 m2 : Zs → R Hd) : Zs → R Hd := fun z => (c z).bind fun b z1 => if b = true then m1 z1 else m2 z1

section
variable {G : Gx} {W : WX} {X : Cx} {a b c e : Expr} {es rest : List Expr} {pos : Pos} {m1 m2 m3 : Zs → R Hd} {c1 c2 : Zs → R Bool} {σ : L2.St} {H : Hp}
theorem RunG.val {z : Zs} {F F1 : Fz} {H1 : Hp} {ow ow1 : Ows} {fP : Addr → Prop} {k : Bool} {Q : Bool → Hp → Prop} (run : RunG G W σ (relT σ) H F ow (.ok k z) Q) (st : Stp H F (Own ow) H1 F1 (fun x => Own ow1 x ∨ fP x)) (s : SRep G H1 F1 σ z ow1) : Q k H1 :=
  run k H1 F1 ow1 [] (st.weak fun x h => h.elim .inl fun h => by cases h) s ⟨rfl, rfl⟩ fun x h => by cases h
theorem zt_tru (hK : G.K = X.K) (ha : PE X a (tZ G W m1)) (he : ∀ whole, isTrue a X.env whole = (do let v ← whole; standAt a.pos; holding [v] (truthy v))) : PT X a (tZT G W (evTru m1)) := PT.imp (pt_truth ha he) fun σ H Q h => by
  obtain ⟨z, ow, F, s, run⟩ := h
  refine ⟨z, ow, F, s, RunG.first s run fun x z1 v1 H1 F1 ow1 f1 _ st1 s1 r1 d1 run1 => ?_⟩
  cases e1 : peek x z1 with
  | none => simp only [e1, Option.bind_none] at run1; exact run1.elim
  | some d =>
    simp only [e1, Option.bind_some] at run1
    cases e2 : truD d with
    | none => simp only [e2] at run1; exact run1.elim
    | some k =>
      simp only [e2] at run1
      exact ⟨k, by rw [← hK]; exact truD_ok (r1.peek s1 e1) e2, RunG.val run1 st1 s1⟩
theorem bl_read {Q : Bool → Hp → Prop} (h : tZT G W (evBl m1) σ H Q) : tZ G W m1 σ H (fun x H' => ∃ k, x = .bl k ∧ Q k H') := by
  obtain ⟨z, ow, F, s, run⟩ := h
  refine ⟨z, ow, F, s, RunG.first s run fun x z1 v1 H1 F1 ow1 f1 _ st1 s1 r1 d1 run1 => ?_⟩
  cases e1 : peek x z1 with
  | none => simp only [e1] at run1; exact run1.elim
  | some d =>
    cases d <;> simp only [e1] at run1 <;> try exact run1.elim
    have r2 : RepR G H1 F1 v1 _ := r1.peek s1 e1
    exact ⟨_, r2.bl, RunG.val run1 st1 s1⟩
theorem zt_cmp {op : CmpOp} {f2 : D → D → Option O} (ho : OpR X (compareOp op) (rV2 G f2)) (ha : PE X a (tZ G W m1)) (hb : PE X b (tZ G W m2)) (hm : behindInMarks op b = false) : PT X (.Compare a [op] [b] pos) (tZT G W (evBl (evOp2 f2 m1 m2))) := PT.imp (pt_cmpR ho ha hb hm) fun σ H Q h => op2_read (bl_read h)
theorem zt_and1 (ha : PT X a (tZT G W c1)) : PW X (.BoolOp .And [a] pos) (tZT G W c1) := pw_and1 ha
theorem zt_or1 (ha : PT X a (tZT G W c1)) : PW X (.BoolOp .Or [a] pos) (tZT G W c1) := pw_or1 ha
theorem PW.imp {X : Cx} {e : Expr} {t t' : TT} (h : PW X e t) (k : ∀ σ H Q, t' σ H Q → t σ H Q) : PW X e t' := ⟨fun w pins s σ H Q I q => h.run w pins s σ H Q I (k σ H Q q)⟩
theorem zt_and (ha : PT X a (tZT G W c1)) (hb : PW X (.BoolOp .And (b :: rest) pos) (tZT G W c2)) : PW X (.BoolOp .And (a :: b :: rest) pos) (tZT G W (evAndT c1 c2)) := PW.imp (pw_and ha hb) fun σ H Q h => by
  obtain ⟨z, ow, F, s, run⟩ := h
  refine ⟨z, ow, F, s, RunG.first s run fun x z1 v1 H1 F1 ow1 f1 _ st1 s1 r1 d1 run1 => ?_⟩
  obtain ⟨rfl, rfl⟩ := r1
  cases v1 with
  | true =>
    refine ⟨z1, ow1, F1, s1, ?_⟩
    have run1 : RunG G W σ (relT σ) H F ow ((c2 z1).bind fun b z2 => .ok b z2) Q := by
      cases e : c2 z1 <;> simp only [if_true, e] at run1 <;> exact run1
    exact RunG.bind st1 d1 run1 fun y z2 v2 H2 F2 ow2 f2 _ st2 s2 r2 d2 st d run2 => by
      obtain ⟨rfl, rfl⟩ := r2
      exact RunG.val run2 st s2
  | false =>
    simp only [Bool.false_eq_true, if_false] at run1 ⊢
    exact RunG.val run1 st1 s1
theorem zt_or (ha : PT X a (tZT G W c1)) (hb : PW X (.BoolOp .Or (b :: rest) pos) (tZT G W c2)) : PW X (.BoolOp .Or (a :: b :: rest) pos) (tZT G W (evOrT c1 c2)) := PW.imp (pw_or ha hb) fun σ H Q h => by
  obtain ⟨z, ow, F, s, run⟩ := h
  refine ⟨z, ow, F, s, RunG.first s run fun x z1 v1 H1 F1 ow1 f1 _ st1 s1 r1 d1 run1 => ?_⟩
  obtain ⟨rfl, rfl⟩ := r1
  cases v1 with
  | false =>
    refine ⟨z1, ow1, F1, s1, ?_⟩
    have run1 : RunG G W σ (relT σ) H F ow ((c2 z1).bind fun b z2 => .ok b z2) Q := by
      cases e : c2 z1 <;> simp only [if_false, Bool.false_eq_true, e] at run1 <;> exact run1
    exact RunG.bind st1 d1 run1 fun y z2 v2 H2 F2 ow2 f2 _ st2 s2 r2 d2 st d run2 => by
      obtain ⟨rfl, rfl⟩ := r2
      exact RunG.val run2 st s2
  | true =>
    simp only [if_true] at run1 ⊢
    exact RunG.val run1 st1 s1
theorem zt_not (ha : PT X a (tZT G W c1)) : PT X (.UnaryOp .Not a pos) (tZT G W (evNotT c1)) := PT.imp (pt_not ha) fun σ H Q h => by
  obtain ⟨z, ow, F, s, run⟩ := h
  refine ⟨z, ow, F, s, RunG.first s run fun x z1 v1 H1 F1 ow1 f1 _ st1 s1 r1 d1 run1 => ?_⟩
  obtain ⟨rfl, rfl⟩ := r1
  exact RunG.val run1 st1 s1
/-- a run that ends as it is -/
theorem RunG.same {z1 : Zs} {F F1 : Fz} {H1 : Hp} {ow ow1 : Ows} {fP : Addr → Prop} {Q : V → Hp → Prop} {m : Zs → R Hd} (run : RunG G W σ (relE G σ) H F ow (m z1) Q) (st : Stp H F (Own ow) H1 F1 (fun x => Own ow1 x ∨ fP x)) (s : SRep G H1 F1 σ z1 ow1) (d1 : ∀ x, fP x → ¬ Own ow1 x) : tZ G W m σ H1 Q := by
  refine ⟨z1, ow1, F1, s, ?_⟩
  have run : RunG G W σ (relE G σ) H F ow ((m z1).bind fun b z2 => .ok b z2) Q := by
    cases e : m z1 <;> rw [e] at run <;> exact run
  exact RunG.bind st d1 run fun y z2 v2 H2 F2 ow2 f2 _ st2 s2 r2 d2 st d run2 =>
    run2 v2 H2 F2 ow2 f2 (st.weak fun x h => h.elim .inl fun h => .inr (.inl h)) s2 r2 d2
theorem z_one {op} (ha : PE X a (tZ G W m1)) : PE X (.BoolOp op [a] pos) (tZ G W m1) := pe_one ha
theorem z_and (hK : G.K = X.K) (ha : PE X a (tZ G W m1)) (hb : PE X (.BoolOp .And (b :: rest) pos) (tZ G W m2)) : PE X (.BoolOp .And (a :: b :: rest) pos) (tZ G W (evAndV m1 m2)) := PE.imp (pe_andT ha hb) fun σ H Q h => by
  obtain ⟨z, ow, F, s, run⟩ := h
  refine ⟨z, ow, F, s, RunG.first s run fun x z1 v1 H1 F1 ow1 f1 _ st1 s1 r1 d1 run1 => ?_⟩
  cases e1 : peek x z1 with
  | none => simp only [e1, Option.bind_none, andK] at run1; exact run1.elim
  | some d =>
    simp only [e1, Option.bind_some] at run1
    cases e2 : truD d with
    | none => simp only [e2, andK] at run1; exact run1.elim
    | some k =>
      have t : TruV X.K v1 H1 k := by rw [← hK]; exact truD_ok (r1.peek s1 e1) e2
      cases k with
      | true =>
        simp only [e2, andK] at run1
        exact ⟨true, t, by rw [if_pos rfl]; exact RunG.same run1 st1 s1 d1⟩
      | false =>
        simp only [e2, andK] at run1
        exact ⟨false, t, by rw [if_neg Bool.false_ne_true]; exact run1 v1 H1 F1 ow1 f1 st1 s1 r1 d1⟩
theorem z_or (hK : G.K = X.K) (ha : PE X a (tZ G W m1)) (hb : PE X (.BoolOp .Or (b :: rest) pos) (tZ G W m2)) : PE X (.BoolOp .Or (a :: b :: rest) pos) (tZ G W (evOrV m1 m2)) := PE.imp (pe_orT ha hb) fun σ H Q h => by
  obtain ⟨z, ow, F, s, run⟩ := h
  refine ⟨z, ow, F, s, RunG.first s run fun x z1 v1 H1 F1 ow1 f1 _ st1 s1 r1 d1 run1 => ?_⟩
  cases e1 : peek x z1 with
  | none => simp only [e1, Option.bind_none, orK] at run1; exact run1.elim
  | some d =>
    simp only [e1, Option.bind_some] at run1
    cases e2 : truD d with
    | none => simp only [e2, orK] at run1; exact run1.elim
    | some k =>
      have t : TruV X.K v1 H1 k := by rw [← hK]; exact truD_ok (r1.peek s1 e1) e2
      cases k with
      | false =>
        simp only [e2, orK] at run1
        exact ⟨false, t, by rw [if_neg Bool.false_ne_true]; exact RunG.same run1 st1 s1 d1⟩
      | true =>
        simp only [e2, orK] at run1
        exact ⟨true, t, by rw [if_pos rfl]; exact run1 v1 H1 F1 ow1 f1 st1 s1 r1 d1⟩
theorem z_not (hK : G.K = X.K) (ha : PE X a (tZ G W m1)) : PE X (.UnaryOp .Not a pos) (tZ G W (evNotV m1)) := PE.imp (pe_notT ha) fun σ H Q h => by
  have h := op1_read h
  obtain ⟨z, ow, F, s, run⟩ := h
  refine ⟨z, ow, F, s, ?_⟩
  cases e : m1 z with
  | ok x z1 =>
    rw [e] at run
    intro v H1 F1 ow1 f1 st1 s1 r1 d1
    obtain ⟨F2, d, o, ft, rd, hf, mk⟩ := run v H1 F1 ow1 f1 st1 s1 r1 d1
    cases e2 : truD d with
    | none => simp only [e2] at hf; cases hf
    | some k =>
      simp only [e2, Option.map_some, Option.some.injEq] at hf
      subst hf
      exact ⟨k, by rw [← hK]; exact truD_ok rd e2, mk.val ft (.bl _)⟩
  | exc c fs z1 => rw [e] at run; exact run
  | bad => rw [e] at run; exact run
theorem z_if {c : Expr} (hc : PT X c (tZT G W c1)) (ha : PE X a (tZ G W m1)) (hb : PE X b (tZ G W m2)) : PE X (.IfExp c a b pos) (tZ G W (evIf c1 m1 m2)) := PE.imp (pe_ifExp hc ha hb) fun σ H Q h => by
  obtain ⟨z, ow, F, s, run⟩ := h
  refine ⟨z, ow, F, s, RunG.first s run fun x z1 v1 H1 F1 ow1 f1 _ st1 s1 r1 d1 run1 => ?_⟩
  obtain ⟨rfl, rfl⟩ := r1
  cases v1 with
  | true =>
    simp only [if_true] at run1 ⊢
    exact RunG.same run1 st1 s1 d1
  | false =>
    simp only [Bool.false_eq_true, if_false] at run1 ⊢
    exact RunG.same run1 st1 s1 d1
end

/-! ### displays -/
@[simp] def evTup (mA : Zs → R (List Hd)) : Zs → R Hd := fun z => (mA z).bind fun hs z1 => match takeDs hs z1 with
  | some (ds, z2) => if ds.length ≤ sizeLine then .ok (.tmp (.val (.tup ds))) z2 else .bad
  | none => .bad
@[simp] def evLst (mA : Zs → R (List Hd)) : Zs → R Hd := fun z => (mA z).bind fun hs z1 => match takeDs hs z1 with
  | some (ds, z2) => if ds.length ≤ sizeLine then .ok (.tmp (.lst ds)) z2 else .bad
  | none => .bad
section
variable {G : Gx} {W : WX} {X : Cx} {es : List Expr} {pos : Pos} {mA : Zs → R (List Hd)} {σ : L2.St} {H : Hp}
/-- what was made is taken, then a run over what is left -/
theorem taken {z1 z2 : Zs} {F F1 : Fz} {H1 : Hp} {ow ow1 : Ows} {vs : List V} {hs : List Hd} {f : List Addr} {ds : List D} (st : Stp H F (Own ow) H1 F1 (fun x => Own ow1 x ∨ x ∈ f)) (s : SRep G H1 F1 σ z1 ow1) (r : HReps G H1 F1 σ vs hs f) (d : ∀ x ∈ f, ¬ Own ow1 x) (e : takeDs hs z1 = some (ds, z2)) :
    ∃ F2 ow2, SRep G H1 F2 σ z2 ow2 ∧ RepDs G H1 F2 vs ds ∧ Stp H F (Own ow) H1 F2 (Own ow2) := by
  obtain ⟨F2, ow2, s2, r2, st2⟩ := r.takeDs s d (fun a h => st.nf a (.inr h)) (fun a h => st.tr a (.inr h)) e
  exact ⟨F2, ow2, s2, r2, st.trans st2⟩
theorem z_tup {x1} (h : PA X es (tZA G W mA)) : PE X (.Tuple es x1 pos) (tZ G W (evTup mA)) := PE.imp (pe_tup h) fun σ H Q h => by
  obtain ⟨z, ow, F, s, run⟩ := h
  refine ⟨z, ow, F, s, RunG.first s run fun hs z1 v1 H1 F1 ow1 f1 _ st1 s1 r1 d1 run1 => ?_⟩
  cases e1 : takeDs hs z1 with
  | none => simp only [e1] at run1; exact run1.elim
  | some p =>
    obtain ⟨ds, z2⟩ := p
    simp only [e1] at run1
    split at run1
    · rename_i hl
      obtain ⟨F2, ow2, s2, r2, st2⟩ := taken st1 s1 r1 d1 e1
      refine ⟨by rw [r2.length]; exact hl, fun p hp => ?_⟩
      exact RunG.fin run1 st2 s2 (stp_newF s2.ft hp) (g := []) (RepO.val (.tup (.inl ⟨.inr (by simp), upd_same⟩) (r2.lat ⟨fun _ h => .inl h, fun a o _ e => ext_new hp a o e⟩)))
    · exact run1.elim
theorem z_lst (h : PA X es (tZA G W mA)) : PE X (.List es pos) (tZ G W (evLst mA)) := PE.imp (pe_lst h) fun σ H Q h => by
  obtain ⟨z, ow, F, s, run⟩ := h
  refine ⟨z, ow, F, s, RunG.first s run fun hs z1 v1 H1 F1 ow1 f1 _ st1 s1 r1 d1 run1 => ?_⟩
  cases e1 : takeDs hs z1 with
  | none => simp only [e1] at run1; exact run1.elim
  | some p =>
    obtain ⟨ds, z2⟩ := p
    simp only [e1] at run1
    split at run1
    · rename_i hl
      obtain ⟨F2, ow2, s2, r2, st2⟩ := taken st1 s1 r1 d1 e1
      refine ⟨by rw [r2.length]; exact hl, fun p hp => ?_⟩
      exact RunG.fin run1 st2 s2 (stp_new s2.ft hp) (g := [p]) (RepO.lst upd_same (r2.lat (lat_new hp)))
    · exact run1.elim
end
end Z
end

section
set_option maxRecDepth 100007
/-! Subscripts, slices, what a dict holds; built-in functions. -/
namespace Z
open PySem L2 PyProof.Rows
/-! ### keys -/
@[simp] def isK : D → Bool
  | .int _ => true
  | .str _ => true
  | _ => false
/-- a key of the kind t (true: tuples) -/
@[simp] def okKey (t : Bool) (k : D) : Bool := match t, k with
  | false, k => isK k
  | true, .tup ds => !ds.isEmpty && ds.all isK
  | _, _ => false
def lookD (kvs : List (D × D)) (k : D) : Option D := (kvs.find? fun p => eqD p.1 k).map (·.2)
@[simp] def ixO (d e : D) : Option O := match d, e with
  | .lst ds, .int i => (atI ds i).map .val
  | .tup ds, .int i => (atI ds i).map .val
  | .scr ns, .int i => (atI ns i).map fun n => .val (.int n)
  | .str x, .int i => if x.length ≤ sizeLine then (atI x i).map fun c => .val (.str [c]) else none
  | .dct t kvs, k => if okKey t k then (lookD kvs k).map .val else none
  | _, _ => none
section
variable {G : Gx} {H : Hp} {F : Fz} {v : V} {d : D}
theorem eq_keyD : ∀ a b : Key, eqD (keyD a) (keyD b) = decide (a = b)
  | .inl i, .inl j => by
    simp only [keyD, eqD]
    by_cases h : i = j
    · subst h; simp
    · simp [h]
  | .inr x, .inr y => by
    simp only [keyD, eqD]
    by_cases h : x = y
    · subst h; simp
    · have h2 : x.cps.toList ≠ y.cps.toList := fun e => h (by
        cases x; cases y
        simp only [Str.mk.injEq]
        exact Array.toList_inj.mp e)
      rw [decide_eq_false (fun e => h (Sum.inr.inj e))]
      exact beq_eq_false_iff_ne.mpr h2
  | .inl i, .inr y => by simp only [keyD, eqD]; simp
  | .inr x, .inl j => by simp only [keyD, eqD]; simp
theorem eq_keyDs : ∀ a b : List Key, eqDs (a.map keyD) (b.map keyD) = decide (a = b)
  | [], [] => by simp [eqDs]
  | [], _ :: _ => by simp [eqDs]
  | _ :: _, [] => by simp [eqDs]
  | x :: xs, y :: ys => by
    simp only [List.map_cons, eqDs, eq_keyD, eq_keyDs xs ys, List.cons.injEq]
    by_cases h : x = y <;> by_cases h2 : xs = ys <;> simp [h, h2]
theorem isK_key {k : D} (r : RepD G H F v k) (h : isK k = true) : ∃ q : Key, k = keyD q ∧ v = kV q := by
  cases r <;> simp only [isK, Bool.false_eq_true] at h
  · exact ⟨.inl _, rfl, rfl⟩
  · rename_i x _
    exact ⟨.inr ⟨x.toArray⟩, by simp [keyD], rfl⟩
theorem isKs_keys : ∀ {vs : List V} {ks : List D}, RepDs G H F vs ks → ks.all isK = true → ∃ qs : List Key, ks = qs.map keyD ∧ vs = qs.map kV
  | _, _, .nil, _ => ⟨[], rfl, rfl⟩
  | _, _, .cons r rs, h => by
    rw [List.all_cons, Bool.and_eq_true] at h
    obtain ⟨q, rfl, rfl⟩ := isK_key r h.1
    obtain ⟨qs, rfl, rfl⟩ := isKs_keys rs h.2
    exact ⟨q :: qs, rfl, rfl⟩
theorem RepR.dd (r : RepR G H F v d) (h : ∀ c fs, d ≠ .obj c fs) (h2 : ∀ ds, d ≠ .lst ds) (h3 : ∀ t ds, d ≠ .dct t ds) : RepD G H F v d := by
  cases r with
  | of r => exact r
  | lst _ _ => exact absurd rfl (h2 _)
  | obj _ _ => exact absurd rfl (h _ _)
  | dct _ _ => exact absurd rfl (h3 _ _)
  | dctT _ _ => exact absurd rfl (h3 _ _)
theorem lookK (q : Key) : ∀ {kvs : List (Key × V)} {ds : List (D × D)}, RepKs G H F kvs ds → match lookD ds (keyD q) with
    | some d => ∃ v, valV kvs q = some v ∧ RepD G H F v d
    | none => valV kvs q = none
  | _, _, .nil => rfl
  | _, _, .cons (k := k) (v := v) (d := d) (vs := vs) (ds := ds) he r rs => by
    subst he
    have ih := lookK q rs
    unfold lookD at ih ⊢
    rw [List.find?_cons]
    by_cases h : k = q
    · have e : eqD (keyD k) (keyD q) = true := by rw [eq_keyD]; exact decide_eq_true h
      simp only [e, Option.map_some]
      exact ⟨v, valV_pos h, r⟩
    · have e : eqD (keyD k) (keyD q) = false := by rw [eq_keyD]; exact decide_eq_false h
      simp only [e]
      have e2 : valV ((k, v) :: vs) q = valV vs q := valV_neg h
      rw [e2]
      exact ih
theorem lookT (q : List Key) : ∀ {kvs : List (List Key × V)} {ds : List (D × D)}, RepTs G H F kvs ds → match lookD ds (.tup (q.map keyD)) with
    | some d => ∃ v, valV kvs q = some v ∧ RepD G H F v d
    | none => valV kvs q = none
  | _, _, .nil => rfl
  | _, _, .cons (k := k) (v := v) (d := d) (vs := vs) (ds := ds) he r rs => by
    subst he
    have ih := lookT q rs
    unfold lookD at ih ⊢
    rw [List.find?_cons]
    by_cases h : k = q
    · have e : eqD (.tup (k.map keyD)) (.tup (q.map keyD)) = true := by simp only [eqD]; rw [eq_keyDs]; exact decide_eq_true h
      simp only [e, Option.map_some]
      exact ⟨v, valV_pos h, r⟩
    · have e : eqD (.tup (k.map keyD)) (.tup (q.map keyD)) = false := by simp only [eqD]; rw [eq_keyDs]; exact decide_eq_false h
      simp only [e]
      have e2 : valV ((k, v) :: vs) q = valV vs q := valV_neg h
      rw [e2]
      exact ih
theorem RepR.dcts {t : Bool} {kvs : List (D × D)} (r : RepR G H F v (.dct t kvs)) : ∃ a, v = .ref a ∧ ((t = false ∧ ∃ hs, H a = some (.dK hs) ∧ RepKs G H F hs kvs) ∨ (t = true ∧ ∃ hs, H a = some (.dT hs) ∧ RepTs G H F hs kvs)) := by
  cases r with
  | of r => cases r with
    | dct f h r => exact ⟨_, rfl, .inl ⟨rfl, _, h, r⟩⟩
    | dctT f h r => exact ⟨_, rfl, .inr ⟨rfl, _, h, r⟩⟩
  | dct h r => exact ⟨_, rfl, .inl ⟨rfl, _, h, r⟩⟩
  | dctT h r => exact ⟨_, rfl, .inr ⟨rfl, _, h, r⟩⟩
/-- a good key asked of a dict -/
theorem map_nil_nil {qs : List Key} (h : qs.map kV = []) : qs.map keyD = [] := by
  cases qs with
  | nil => rfl
  | cons _ _ => cases h
theorem dget_ok {t : Bool} {kvs : List (D × D)} {y : V} {k : D} (r : RepR G H F v (.dct t kvs)) (rk : RepR G H F y k) (h : okKey t k = true) : ∃ a o, v = .ref a ∧ DGet H a y o ∧ match lookD kvs k with
    | some d => ∃ w, o = some w ∧ RepD G H F w d
    | none => o = none := by
  obtain ⟨a, rfl, ⟨rfl, hs, ha, rs⟩ | ⟨rfl, hs, ha, rs⟩⟩ := r.dcts
  · have rk' : RepD G H F y k := rk.dd (fun c fs e => by subst e; cases h) (fun ds e => by subst e; cases h) (fun t ds e => by subst e; cases h)
    obtain ⟨q, rfl, rfl⟩ := isK_key rk' h
    exact ⟨a, valV hs q, rfl, DGet.k ha, lookK q rs⟩
  · cases k <;> simp only [okKey, Bool.false_eq_true] at h
    obtain ⟨b, vs, rfl, hb, rb⟩ := rk.tups
    rw [Bool.and_eq_true] at h
    obtain ⟨qs, rfl, rfl⟩ := isKs_keys rb h.2
    exact ⟨a, valV hs qs, rfl, DGet.t ha (hb.own fun e => by rw [map_nil_nil e] at h; cases h.1), lookT qs rs⟩
theorem ixN_lt {n : Nat} {i : Int} {j : Nat} (h : ixN n i = some j) : j < n := (ixN_seq h).2.1
theorem atI_rep {vs : List V} {ds : List D} {i : Int} {e : D} (r : RepDs G H F vs ds) (h : atI ds i = some e) : ∃ w, atI vs i = some w ∧ RepD G H F w e := by
  unfold atI at h ⊢
  rw [r.length]
  cases q : ixN ds.length i with
  | none => rw [q] at h; cases h
  | some j =>
    rw [q] at h
    exact r.get h
end
section
variable {G : Gx} {X : Cx}
theorem ix_dict (hu : X.A.units + 1 < cLine) : IxR X (fun x y H Q => ∃ a v, x = .ref a ∧ DGet H a y (some v) ∧ Q v H) := by
  intro value slice pins s σ H x y v u Q I rx ry h hs
  obtain ⟨a, w, rfl, g, q⟩ := h
  cases rx
  exact tail_any (dict_typeIs I g) PySem.F.slot_dict_getitem.lookup (d_getItem hu I g ry fun w' s3 I3 rw' => ⟨w, H, I3, rw', q⟩) hs
theorem ix_ok (hK : G.K = X.K) (hu : X.A.units + 65 < cLine) : IxR X (rV2 G ixO) := by
  intro value slice pins s σ H x y v u Q I rx ry hh hs
  obtain ⟨F, d, e, o, ft, rd, re, hf, mk⟩ := hh
  cases d
  case dct t kvs =>
    simp only [ixO] at hf
    split at hf
    · rename_i hk
      obtain ⟨a, oo, rfl, g, l⟩ := dget_ok rd re hk
      cases e1 : lookD kvs e with
      | none => rw [e1] at hf; cases hf
      | some d' =>
        rw [e1] at hf
        simp only [e1] at l
        cases hf
        obtain ⟨w, rfl, rw'⟩ := l
        exact ix_dict (by omega) value slice pins s σ H _ y v u Q I rx ry ⟨a, w, rfl, g, mk.val ft rw'⟩ hs
    · cases hf
  all_goals
    cases e <;> simp only [ixO, reduceCtorEq] at hf
  · rename_i x i
    split at hf
    · rename_i hl
      obtain ⟨rfl, t1⟩ := rd.str
      cases re.int
      cases e1 : atI x i with
      | none => rw [e1] at hf; cases hf
      | some c =>
        rw [e1] at hf
        cases hf
        refine ix_str value slice pins s σ H _ _ v u Q I rx ry ⟨_, i, c, rfl, rfl, by rw [str_len]; exact hl, by simpa using e1, ?_⟩ hs
        have hc : txtOk [c] = true := by
          unfold txtOk at *
          have hm : c ∈ x := by
            unfold atI at e1
            cases q : ixN x.length i with
            | none => rw [q] at e1; cases e1
            | some j => rw [q] at e1; exact List.mem_of_getElem? e1
          simpa using List.all_eq_true.mp t1 c hm
        exact mk.val ft (.str hc)
    · cases hf
  · rename_i ds i
    obtain ⟨p, vs, rfl, hp, r1⟩ := rd.tups
    cases re.int
    cases e1 : atI ds i with
    | none => rw [e1] at hf; cases hf
    | some d' =>
      rw [e1] at hf
      cases hf
      obtain ⟨w, ew, rw'⟩ := atI_rep r1 e1
      exact ix_tup value slice pins s σ H _ _ v u Q I rx ry ⟨p, vs, i, w, rfl, rfl, hK ▸ hp.sq, ew, mk.val ft rw'⟩ hs
  · rename_i ds i
    obtain ⟨p, vs, rfl, hp, r1⟩ := rd.lsts
    cases re.int
    cases e1 : atI ds i with
    | none => rw [e1] at hf; cases hf
    | some d' =>
      rw [e1] at hf
      cases hf
      obtain ⟨w, ew, rw'⟩ := atI_rep r1 e1
      exact ix_list value slice pins s σ H _ _ v u Q I rx ry ⟨p, vs, i, w, rfl, rfl, SqL.of hp, ew, mk.val ft rw'⟩ hs
  · rename_i ns i
    obtain ⟨p, rfl, hp⟩ := rd.scrs
    cases re.int
    cases e1 : atI ns i with
    | none => rw [e1] at hf; cases hf
    | some n =>
      rw [e1] at hf
      cases hf
      have ew : atI (ns.map V.int) i = some (.int n) := by
        unfold atI at e1 ⊢
        rw [List.length_map]
        cases q : ixN ns.length i with
        | none => rw [q] at e1; cases e1
        | some j =>
          rw [q] at e1
          simp only [Option.bind_some] at e1 ⊢
          rw [List.getElem?_map, e1]; rfl
      exact ix_list value slice pins s σ H _ _ v u Q I rx ry ⟨p, _, i, _, rfl, rfl, by rw [← hK]; exact hp, ew, mk.val ft (.int n)⟩ hs
variable {W : WX} {a b : Expr} {pos : Pos} {m1 m2 : Zs → R Hd}
theorem z_ix (hK : G.K = X.K) (hu : X.A.units + 65 < cLine) (ha : PE X a (tZ G W m1)) (hb : PE X b (tZ G W m2)) (hs : PlainIx b) : PE X (.Subscript a b pos) (tZ G W (evOp2 ixO m1 m2)) := PE.imp (pe_ix (ix_ok hK hu) ha hb hs) fun _ _ _ h => op2_read h
/-- k in d -/
@[simp] def inO (neg : Bool) (k d : D) : Option O := match d with
  | .dct t kvs => if okKey t k then some (.val (.bl (if neg then !(lookD kvs k).isSome else (lookD kvs k).isSome))) else none
  | _ => cmpO (if neg then .notin else .inn) k d
theorem in_ok (hK : G.K = X.K) (hu : X.A.units + 65 < cLine) : OpR X (compareOp .In) (rV2 G (inO false)) := by
  intro pins s σ H x y v u Q I rx ry hh
  obtain ⟨F, d, e, o, ft, rd, re, hf, mk⟩ := hh
  cases e
  case dct t kvs =>
    simp only [inO] at hf
    split at hf
    · rename_i hk
      obtain ⟨a, oo, rfl, g, l⟩ := dget_ok re rd hk
      cases hf
      cases ry
      refine d_in (by omega) I g rx fun s3 I3 => ⟨.bl oo.isSome, H, I3, rfl, ?_⟩
      have e : oo.isSome = (lookD kvs d).isSome := by
        cases e1 : lookD kvs d with
        | none => simp only [e1] at l; rw [l]; rfl
        | some d' => simp only [e1] at l; obtain ⟨w, rfl, _⟩ := l; rfl
      rw [e]
      exact mk.val ft (.bl _)
    · cases hf
  all_goals exact c_in hK hu pins s σ H x y v u Q I rx ry ⟨F, d, _, o, ft, rd, re, hf, mk⟩
theorem notin_ok (hK : G.K = X.K) (hu : X.A.units + 65 < cLine) : OpR X (compareOp .NotIn) (rV2 G (inO true)) := by
  intro pins s σ H x y v u Q I rx ry hh
  obtain ⟨F, d, e, o, ft, rd, re, hf, mk⟩ := hh
  cases e
  case dct t kvs =>
    simp only [inO] at hf
    split at hf
    · rename_i hk
      obtain ⟨a, oo, rfl, g, l⟩ := dget_ok re rd hk
      cases hf
      cases ry
      refine d_notIn (by omega) I g rx fun s3 I3 => ⟨.bl (!oo.isSome), H, I3, rfl, ?_⟩
      have e : oo.isSome = (lookD kvs d).isSome := by
        cases e1 : lookD kvs d with
        | none => simp only [e1] at l; rw [l]; rfl
        | some d' => simp only [e1] at l; obtain ⟨w, rfl, _⟩ := l; rfl
      rw [e]
      exact mk.val ft (.bl _)
    · cases hf
  all_goals exact c_notin hK hu pins s σ H x y v u Q I rx ry ⟨F, d, _, o, ft, rd, re, hf, mk⟩
end
/-! ### slices -/
def cutL {α : Type} (xs : List α) (lo hi : Option Int) : List α := (xs.drop (HT.sIx xs.length 0 lo)).take (HT.sIx xs.length xs.length hi - HT.sIx xs.length 0 lo)
def slO (d : D) (lo hi : Option Int) : Option O := match d with
  | .lst ds => some (.lst (cutL ds lo hi))
  | .tup ds => some (.val (.tup (cutL ds lo hi)))
  | .str x => if x.length ≤ sizeLine then some (.val (.str (cutL x lo hi))) else none
  | _ => none
def rVS (G : Gx) : V → Option Int → Option Int → Hp → VK → Prop := fun x lo hi H Q => ∃ F d o, FT H F ∧ RepR G H F x d ∧ slO d lo hi = some o ∧ Makes G H F o Q
section
variable {G : Gx} {X : Cx}
theorem cutL_rep {H : Hp} {F : Fz} {vs : List V} {ds : List D} (r : RepDs G H F vs ds) (lo hi : Option Int) : RepDs G H F (cutV vs lo hi) (cutL ds lo hi) := by
  unfold cutV cutL
  rw [r.length]
  exact (r.drop _).take _
theorem whole_cut {α : Type} {xs : List α} {lo hi : Option Int} (h : HT.sIx xs.length 0 lo = 0 ∧ HT.sIx xs.length xs.length hi = xs.length) : cutL xs lo hi = xs := by
  unfold cutL
  rw [h.1, h.2, List.drop_zero, Nat.sub_zero, List.take_length]
theorem sl_ok (hK : G.K = X.K) : SlR X (rVS G) := by
  have all : SlR X (fun x lo hi H Q => rSlL X.K x lo hi H Q ∨ (rSlA X.K x lo hi H Q ∨ rSlS x lo hi H Q)) := SlR.or sl_list (SlR.or sl_tupA sl_str)
  intro pins s σ H x v vl vu lo hi sl Q I rx hs pl pu hh
  refine all pins s σ H x v vl vu lo hi sl Q I rx hs pl pu ?_
  obtain ⟨F, d, o, ft, rd, hf, mk⟩ := hh
  cases d <;> simp only [slO, reduceCtorEq] at hf
  · rename_i x0
    split at hf
    · rename_i hl
      obtain ⟨rfl, t1⟩ := rd.str
      cases hf
      refine .inr (.inr ⟨_, rfl, by rw [str_len]; exact hl, ?_⟩)
      have e : cutS ⟨x0.toArray⟩ lo hi = ⟨(cutL x0 lo hi).toArray⟩ := by
        unfold cutS cutL
        rw [str_len]
      rw [e]
      refine mk.val ft (.str ?_)
      unfold txtOk at *
      rw [List.all_eq_true] at *
      intro c hc
      exact t1 c (List.mem_of_mem_drop (List.mem_of_mem_take hc))
    · cases hf
  · rename_i ds
    obtain ⟨p, vs, rfl, hp, r1⟩ := rd.tups
    cases hf
    refine .inr (.inl ⟨p, vs, rfl, hK ▸ hp.sq, fun h => ?_, fun h q hq => mk.tup ft (cutL_rep r1 lo hi) q hq⟩)
    rw [r1.length] at h
    rw [whole_cut h] at mk
    exact mk.val ft (.tup hp r1)
  · obtain ⟨p, vs, rfl, hp, r1⟩ := rd.lsts
    cases hf
    exact .inl ⟨p, vs, rfl, SqL.of hp, fun q hq => mk.lst ft (cutL_rep r1 lo hi) q hq⟩
/-- a part of a slice -/
@[simp] def toPart (x : Hd) (z : Zs) : Option Int := match peek x z with
  | some (.int i) => some i
  | _ => none
@[simp] def evPart : Option (Zs → R Hd) → Zs → R (Option Int)
  | none, z => .ok none z
  | some m, z => (m z).bind fun x z1 => match toPart x z1 with
    | some i => .ok (some i) z1
    | none => .bad
@[simp] def evSl (m1 : Zs → R Hd) (lo hi : Option (Zs → R Hd)) : Zs → R Hd := fun z => (m1 z).bind fun x z1 => (evPart lo z1).bind fun l z2 => (evPart hi z2).bind fun h z3 => match peek x z3 with
  | some d => match slO d l h with
    | some o => .ok (.tmp o) z3
    | none => .bad
  | none => .bad
def relP : Rel (Option Int) (Option Int) := fun _ _ b a f => b = a ∧ f = []
def tZP (G : Gx) (W : WX) (m : Zs → R (Option Int)) : TO := tG G W (fun _ => relP) m
theorem PO.imp {X : Cx} {e : Option Expr} {t t' : TO} (h : PO X e t) (k : ∀ σ H Q, t' σ H Q → t σ H Q) : PO X e t' := ⟨fun pins s σ H Q I q => h.run pins s σ H Q I (k σ H Q q)⟩
variable {W : WX} {e lo' hi' : Expr} {pos p2 : Pos} {m1 m2 m3 : Zs → R Hd} {ml mh : Option (Zs → R Hd)} {lo hi : Option Expr}
theorem zp_none : PO X none (tZP G W (evPart none)) := PO.imp po_none fun σ H Q h => by
  obtain ⟨z, ow, F, s, run⟩ := h
  exact run none H F ow [] (s.refl.weak fun x h => h.elim id fun h => by cases h) s ⟨rfl, rfl⟩ fun x h => by cases h
theorem zp_some (h : PE X e (tZ G W m1)) : PO X (some e) (tZP G W (evPart (some m1))) := PO.imp (po_some h) fun σ H Q h => by
  obtain ⟨z, ow, F, s, run⟩ := h
  refine ⟨z, ow, F, s, RunG.first s run fun x z1 v1 H1 F1 ow1 f1 _ st1 s1 r1 d1 run1 => ?_⟩
  unfold toPart at run1
  cases e1 : peek x z1 with
  | none => simp only [e1] at run1; exact run1.elim
  | some d =>
    cases d <;> simp only [e1] at run1 <;> try exact run1.elim
    have r2 : RepR G H1 F1 v1 _ := r1.peek s1 e1
    exact ⟨_, r2.int, run1 _ H1 F1 ow1 [] (st1.weak fun x h => h.elim .inl fun h => by cases h) s1 ⟨rfl, rfl⟩ fun x h => by cases h⟩
theorem z_sl (hK : G.K = X.K) (he : PE X e (tZ G W m1)) (hl : PO X lo (tZP G W (evPart ml))) (hh : PO X hi (tZP G W (evPart mh))) : PE X (.Subscript e (.Slice lo hi none p2) pos) (tZ G W (evSl m1 ml mh)) := PE.imp (pe_slice (sl_ok hK) he hl hh) fun σ H Q h => by
  obtain ⟨z, ow, F, s, run⟩ := h
  refine ⟨z, ow, F, s, RunG.first s run fun x z1 v1 H1 F1 ow1 f1 _ st1 s1 r1 d1 run1 => ?_⟩
  refine ⟨z1, ow1, F1, s1, RunG.bind st1 d1 run1 fun y z2 v2 H2 F2 ow2 f2 _ st2 s2 r2 d2 st d run2 => ?_⟩
  obtain ⟨rfl, rfl⟩ := r2
  refine ⟨z2, ow2, F2, s2, RunG.bind (fP := fun x => x ∈ f1) (st.weak fun x h => h.elim .inl fun h => .inr (.inr h)) (fun x h => (d x h).1) run2 fun y z3 v3 H3 F3 ow3 f3 _ st3 s3 r3 d3 stt dd run3 => ?_⟩
  obtain ⟨rfl, rfl⟩ := r3
  have r1' : HRep G H3 F3 σ v1 x f1 := (HRep.stp r1 st2 d1).stp st3 (fun a h => (d a h).1)
  cases e1 : peek x z3 with
  | none => simp only [e1] at run3; exact run3.elim
  | some d =>
    simp only [e1] at run3
    cases e2 : slO d v2 v3 with
    | none => simp only [e2] at run3; exact run3.elim
    | some o =>
      simp only [e2] at run3
      exact ⟨F3, d, o, s3.ft, r1'.peek s3 e1, e2, fun v4 H4 F4 g t r4 => RunG.fin run3 (stt.weak fun x h => .inl h) s3 t r4⟩
end
end Z
end

section
set_option maxRecDepth 100007
/-! Built-in functions. -/
namespace Z
open PySem L2 PyProof.Rows
@[simp] def lenD : D → Option Nat
  | .lst ds => some ds.length
  | .tup ds => some ds.length
  | .scr ns => some ns.length
  | .str x => if x.length ≤ sizeLine then some x.length else none
  | .dct false kvs => some kvs.length
  | _ => none
@[simp] def biLen : List D → Option O
  | [d] => (lenD d).map fun n => .val (.int n)
  | _ => none
@[simp] def biAbs : List D → Option O
  | [.int i] => some (.val (.int (if i < 0 then -i else i)))
  | _ => none
@[simp] def biInt : List D → Option O
  | [.int i] => some (.val (.int i))
  | [.bl b] => some (.val (.int (if b then 1 else 0)))
  | _ => none
@[simp] def biBool : List D → Option O
  | [.int i] => some (.val (.bl (i != 0)))
  | [.bl b] => some (.val (.bl b))
  | _ => none
def intTxt (i : Int) : List Nat := (Str.ofString (toString i)).cps.toList
def biStr : List D → Option O
  | [.int i] => if i.natAbs.log2 < 1920 ∧ txtOk (intTxt i) = true then some (.val (.str (intTxt i))) else none
  | [.str x] => some (.val (.str x))
  | _ => none
def allI : List D → Option (List Int)
  | [] => some []
  | .int i :: r => (allI r).map fun ns => i :: ns
  | _ => none
def allB : List D → Option (List Bool)
  | [] => some []
  | .bl i :: r => (allB r).map fun ns => i :: ns
  | _ => none
def maxL : Int → List Int → Int
  | m, [] => m
  | m, x :: r => maxL (if x > m then x else m) r
def minL : Int → List Int → Int
  | m, [] => m
  | m, x :: r => minL (if x < m then x else m) r
def biMax : List D → Option O
  | [.int i, .int j] => some (.val (.int (if j > i then j else i)))
  | [.lst ds] => match allI ds with
    | some (n :: ns) => some (.val (.int (maxL n ns)))
    | _ => none
  | _ => none
def biMin : List D → Option O
  | [.int i, .int j] => some (.val (.int (if j < i then j else i)))
  | [.lst ds] => match allI ds with
    | some (n :: ns) => some (.val (.int (minL n ns)))
    | _ => none
  | _ => none
@[simp] def biTuple : List D → Option O
  | [.lst ds] => some (.val (.tup ds))
  | [.tup ds] => some (.val (.tup ds))
  | _ => none
@[simp] def biList : List D → Option O
  | [.lst ds] => some (.lst ds)
  | [.tup ds] => some (.lst ds)
  | [.scr ns] => some (.lst (ns.map .int))
  | _ => none
def biSum : List D → Option O
  | [.lst ds] => (allI ds).map fun ns => .val (.int ns.sum)
  | _ => none
def biAny : List D → Option O
  | [.lst ds] => (allB ds).map fun ns => .val (.bl (ns.any id))
  | _ => none
def biAll : List D → Option O
  | [.lst ds] => (allB ds).map fun ns => .val (.bl (ns.all id))
  | _ => none
def insI (x : Int) : List Int → List Int
  | [] => [x]
  | y :: r => if x ≤ y then x :: y :: r else y :: insI x r
def sortI : List Int → List Int
  | [] => []
  | x :: r => insI x (sortI r)
def biSorted : List D → Option O
  | [.lst ds] => (allI ds).map fun ns => .lst ((sortI ns).map .int)
  | _ => none
section
variable {G : Gx} {H : Hp} {F : Fz}
theorem allI_rep : ∀ {vs : List V} {ds : List D} {ns : List Int}, RepDs G H F vs ds → allI ds = some ns → vs = ns.map V.int ∧ ds = ns.map D.int
  | _, _, ns, .nil, h => by cases h; exact ⟨rfl, rfl⟩
  | _, d :: ds, ns, .cons r rs, h => by
    cases d <;> simp only [allI, reduceCtorEq] at h
    cases e : allI ds with
    | none => rw [e] at h; cases h
    | some ms =>
      rw [e] at h
      cases h
      cases r
      obtain ⟨rfl, rfl⟩ := allI_rep rs e
      exact ⟨rfl, rfl⟩
theorem allB_rep : ∀ {vs : List V} {ds : List D} {ns : List Bool}, RepDs G H F vs ds → allB ds = some ns → vs = ns.map V.bl
  | _, _, ns, .nil, h => by cases h; rfl
  | _, d :: ds, ns, .cons r rs, h => by
    cases d <;> simp only [allB, reduceCtorEq] at h
    cases e : allB ds with
    | none => rw [e] at h; cases h
    | some ms =>
      rw [e] at h
      cases h
      cases r
      obtain rfl := allB_rep rs e
      rfl
theorem repInts (ns : List Int) : RepDs G H F (ns.map V.int) (ns.map D.int) := by
  induction ns with
  | nil => exact .nil
  | cons n ns ih => exact .cons (.int n) ih
theorem RepKs.len : ∀ {hs : List (Key × V)} {kvs : List (D × D)}, RepKs G H F hs kvs → hs.length = kvs.length
  | _, _, .nil => rfl
  | _, _, .cons _ _ r => by rw [List.length_cons, List.length_cons, RepKs.len r]
theorem maxL_mem : ∀ (m : Int) (l : List Int), maxL m l ∈ m :: l
  | m, [] => by simp [maxL]
  | m, x :: r => by
    have := maxL_mem (if x > m then x else m) r
    simp only [maxL]
    rcases List.mem_cons.mp this with h | h
    · rw [h]; split <;> simp
    · exact List.mem_cons_of_mem _ (List.mem_cons_of_mem _ h)
theorem maxL_ge : ∀ (m : Int) (l : List Int), ∀ y ∈ m :: l, y ≤ maxL m l
  | m, [], y, h => by
    simp only [List.mem_singleton] at h
    rw [h]; exact Int.le_refl _
  | m, x :: r, y, h => by
    simp only [maxL]
    have ih := maxL_ge (if x > m then x else m) r
    have h0 := ih _ (List.mem_cons_self)
    rcases List.mem_cons.mp h with h | h
    · rw [h]; split at h0 <;> split <;> omega
    · rcases List.mem_cons.mp h with h | h
      · rw [h]; split at h0 <;> split <;> omega
      · exact ih y (List.mem_cons_of_mem _ h)
theorem minL_mem : ∀ (m : Int) (l : List Int), minL m l ∈ m :: l
  | m, [] => by simp [minL]
  | m, x :: r => by
    have := minL_mem (if x < m then x else m) r
    simp only [minL]
    rcases List.mem_cons.mp this with h | h
    · rw [h]; split <;> simp
    · exact List.mem_cons_of_mem _ (List.mem_cons_of_mem _ h)
theorem minL_le : ∀ (m : Int) (l : List Int), ∀ y ∈ m :: l, minL m l ≤ y
  | m, [], y, h => by
    simp only [List.mem_singleton] at h
    rw [h]; exact Int.le_refl _
  | m, x :: r, y, h => by
    simp only [minL]
    have ih := minL_le (if x < m then x else m) r
    have h0 := ih _ (List.mem_cons_self)
    rcases List.mem_cons.mp h with h | h
    · rw [h]; split at h0 <;> split <;> omega
    · rcases List.mem_cons.mp h with h | h
      · rw [h]; split at h0 <;> split <;> omega
      · exact ih y (List.mem_cons_of_mem _ h)
theorem insI_perm (x : Int) : ∀ l, (insI x l).Perm (x :: l)
  | [] => .refl _
  | y :: r => by
    unfold insI
    split
    · exact .refl _
    · exact ((insI_perm x r).cons y).trans (.swap x y r)
theorem sortI_perm : ∀ l, (sortI l).Perm l
  | [] => .refl _
  | x :: r => (insI_perm x _).trans ((sortI_perm r).cons x)
theorem insI_sorted (x : Int) : ∀ l, l.Pairwise (· ≤ ·) → (insI x l).Pairwise (· ≤ ·)
  | [], _ => by simp [insI]
  | y :: r, h => by
    unfold insI
    split
    · rename_i hx
      refine List.pairwise_cons.mpr ⟨fun z hz => ?_, h⟩
      rcases List.mem_cons.mp hz with rfl | hz
      · exact hx
      · exact Int.le_trans hx ((List.pairwise_cons.mp h).1 z hz)
    · rename_i hx
      refine List.pairwise_cons.mpr ⟨fun z hz => ?_, insI_sorted x r (List.pairwise_cons.mp h).2⟩
      rcases List.mem_cons.mp ((insI_perm x r).mem_iff.mp hz) with rfl | hz
      · omega
      · exact (List.pairwise_cons.mp h).1 z hz
theorem sortI_sorted : ∀ l, (sortI l).Pairwise (· ≤ ·)
  | [] => .nil
  | x :: r => insI_sorted x _ (sortI_sorted r)
theorem sorted_unique : ∀ (a b : List Int), a.Perm b → a.Pairwise (· ≤ ·) → b.Pairwise (· ≤ ·) → a = b := fun a b p ha hb =>
  p.eq_of_pairwise (fun x y _ _ h1 h2 => Int.le_antisymm h1 h2) ha hb
end
section
variable {G : Gx} {X : Cx}
theorem repRs1 {H : Hp} {F : Fz} {xs : List V} {d : D} (r : RepRs G H F xs [d]) : ∃ x, xs = [x] ∧ RepR G H F x d := by
  cases r with
  | cons h t => cases t; exact ⟨_, rfl, h⟩
theorem repRs2 {H : Hp} {F : Fz} {xs : List V} {d e : D} (r : RepRs G H F xs [d, e]) : ∃ x y, xs = [x, y] ∧ RepR G H F x d ∧ RepR G H F y e := by
  cases r with
  | cons h t => cases t with
    | cons h2 t => cases t; exact ⟨_, _, rfl, h, h2⟩
theorem bi_len (hK : G.K = X.K) : CallR X (.builtin "len") (rVN G biLen) := by
  intro pins s σ H xs us Q I rs hh
  obtain ⟨F, ds, o, ft, rd, hf, mk⟩ := hh
  unfold biLen at hf
  split at hf
  · rename_i d
    obtain ⟨x, rfl, r⟩ := repRs1 rd
    cases e : lenD d with
    | none => rw [e] at hf; cases hf
    | some n =>
      rw [e] at hf
      cases hf
      have q := mk.val ft (.int (n : Int))
      cases d <;> simp only [lenD, reduceCtorEq] at e
      · split at e
        · rename_i hl
          cases e
          obtain ⟨rfl, _⟩ := r.str
          refine call_len_str pins s σ H _ us Q I rs ⟨_, rfl, by rw [str_len]; exact hl, ?_⟩
          rw [str_len]; exact q
        · cases e
      · cases e
        obtain ⟨p, vs, rfl, hp, r1⟩ := r.tups
        refine call_len_seq pins s σ H _ us Q I rs ⟨p, vs, rfl, .inr (hK ▸ hp.sq), ?_⟩
        rw [r1.length]; exact q
      · cases e
        obtain ⟨p, vs, rfl, hp, r1⟩ := r.lsts
        refine call_len_seq pins s σ H _ us Q I rs ⟨p, vs, rfl, .inl (SqL.of hp), ?_⟩
        rw [r1.length]; exact q
      · rename_i t kvs
        cases t
        · simp only [Option.some.injEq] at e
          subst e
          obtain ⟨p, rfl, ⟨_, hs, hp, r1⟩ | ⟨h, _⟩⟩ := r.dcts
          · obtain ⟨u, rfl, rx⟩ := vals1 rs
            cases rx
            have hl : hs.length = kvs.length := r1.len
            exact d_len I (.inl hp) fun t s' I' => ⟨.int kvs.length, H, I', ⟨t, by rw [hl]⟩, q⟩
          · cases h
        · cases e
      · cases e
        obtain ⟨p, rfl, hp⟩ := r.scrs
        refine call_len_seq pins s σ H _ us Q I rs ⟨p, _, rfl, .inl (by rw [← hK]; exact hp), ?_⟩
        rw [List.length_map]; exact q
  · cases hf
theorem bi_abs : CallR X (.builtin "abs") (rVN G biAbs) := by
  intro pins s σ H xs us Q I rs hh
  obtain ⟨F, ds, o, ft, rd, hf, mk⟩ := hh
  unfold biAbs at hf
  split at hf
  · obtain ⟨x, rfl, r⟩ := repRs1 rd
    cases hf
    cases r.int
    exact call_abs pins s σ H _ us Q I rs ⟨_, rfl, mk.val ft (.int _)⟩
  · cases hf
theorem bi_int : CallR X (.type "int") (rVN G biInt) := by
  intro pins s σ H xs us Q I rs hh
  obtain ⟨F, ds, o, ft, rd, hf, mk⟩ := hh
  unfold biInt at hf
  split at hf
  · obtain ⟨x, rfl, r⟩ := repRs1 rd
    cases hf
    cases r.int
    exact call_int1 pins s σ H _ us Q I rs (.inl ⟨_, rfl, mk.val ft (.int _)⟩)
  · obtain ⟨x, rfl, r⟩ := repRs1 rd
    cases hf
    cases r.bl
    exact call_int1 pins s σ H _ us Q I rs (.inr ⟨_, rfl, mk.val ft (.int _)⟩)
  · cases hf
theorem bi_bool : CallR X (.type "bool") (rVN G biBool) := by
  intro pins s σ H xs us Q I rs hh
  obtain ⟨F, ds, o, ft, rd, hf, mk⟩ := hh
  unfold biBool at hf
  split at hf
  · obtain ⟨x, rfl, r⟩ := repRs1 rd
    cases hf
    cases r.int
    exact call_bool1 pins s σ H _ us Q I rs (.inl ⟨_, rfl, mk.val ft (.bl _)⟩)
  · obtain ⟨x, rfl, r⟩ := repRs1 rd
    cases hf
    cases r.bl
    exact call_bool1 pins s σ H _ us Q I rs (.inr ⟨_, rfl, mk.val ft (.bl _)⟩)
  · cases hf
theorem bi_str : CallR X (.type "str") (rVN G biStr) := by
  intro pins s σ H xs us Q I rs hh
  obtain ⟨F, ds, o, ft, rd, hf, mk⟩ := hh
  unfold biStr at hf
  split at hf
  · obtain ⟨x, rfl, r⟩ := repRs1 rd
    split at hf
    · rename_i hc
      cases hf
      cases r.int
      refine call_str_int pins s σ H _ us Q I rs ⟨_, rfl, hc.1, ?_⟩
      have := mk.val ft (.str hc.2)
      simpa [intTxt] using this
    · cases hf
  · obtain ⟨x, rfl, r⟩ := repRs1 rd
    cases hf
    obtain ⟨rfl, t⟩ := r.str
    exact SkE.call_str_str pins s σ H _ us Q I rs ⟨_, rfl, mk.val ft (.str t)⟩
  · cases hf
theorem bi_max (hK : G.K = X.K) (hc : X.calm = true) : CallR X (.builtin "max") (rVN G biMax) := by
  intro pins s σ H xs us Q I rs hh
  obtain ⟨F, ds, o, ft, rd, hf, mk⟩ := hh
  unfold biMax at hf
  split at hf
  · obtain ⟨x, y, rfl, r, r2⟩ := repRs2 rd
    cases hf
    cases r.int
    cases r2.int
    exact call_max2 hc pins s σ H _ us Q I rs ⟨_, _, rfl, mk.val ft (.int _)⟩
  · obtain ⟨x, rfl, r⟩ := repRs1 rd
    split at hf
    · rename_i n ns e
      cases hf
      obtain ⟨p, vs, rfl, hp, r1⟩ := r.lsts
      obtain ⟨rfl, _⟩ := allI_rep r1 e
      refine cr_max hc pins s σ H _ us Q I rs ⟨p, n :: ns, rfl, SqL.of hp, by simp, fun m hm hy => ?_⟩
      have : m = maxL n ns := Int.le_antisymm (maxL_ge n ns m hm) (hy _ (maxL_mem n ns))
      rw [this]
      exact mk.val ft (.int _)
    · cases hf
  · cases hf
theorem bi_min (hK : G.K = X.K) (hc : X.calm = true) : CallR X (.builtin "min") (rVN G biMin) := by
  intro pins s σ H xs us Q I rs hh
  obtain ⟨F, ds, o, ft, rd, hf, mk⟩ := hh
  unfold biMin at hf
  split at hf
  · obtain ⟨x, y, rfl, r, r2⟩ := repRs2 rd
    cases hf
    cases r.int
    cases r2.int
    exact call_min2 hc pins s σ H _ us Q I rs ⟨_, _, rfl, mk.val ft (.int _)⟩
  · obtain ⟨x, rfl, r⟩ := repRs1 rd
    split at hf
    · rename_i n ns e
      cases hf
      obtain ⟨p, vs, rfl, hp, r1⟩ := r.lsts
      obtain ⟨rfl, _⟩ := allI_rep r1 e
      refine cr_min hc pins s σ H _ us Q I rs ⟨p, n :: ns, rfl, SqL.of hp, by simp, fun m hm hy => ?_⟩
      have : m = minL n ns := Int.le_antisymm (hy _ (minL_mem n ns)) (minL_le n ns m hm)
      rw [this]
      exact mk.val ft (.int _)
    · cases hf
  · cases hf
theorem bi_tuple (hK : G.K = X.K) : CallR X (.type "tuple") (rVN G biTuple) := by
  intro pins s σ H xs us Q I rs hh
  obtain ⟨F, ds, o, ft, rd, hf, mk⟩ := hh
  unfold biTuple at hf
  split at hf
  · obtain ⟨x, rfl, r⟩ := repRs1 rd
    cases hf
    obtain ⟨p, vs, rfl, hp, r1⟩ := r.lsts
    exact call_tuple_of pins s σ H _ us Q I rs ⟨p, vs, rfl, .inl ⟨SqL.of hp, fun l hl => mk.tup ft r1 l hl⟩⟩
  · obtain ⟨x, rfl, r⟩ := repRs1 rd
    cases hf
    obtain ⟨p, vs, rfl, hp, r1⟩ := r.tups
    exact call_tuple_of pins s σ H _ us Q I rs ⟨p, vs, rfl, .inr ⟨hK ▸ hp.sq, mk.val ft (.tup hp r1)⟩⟩
  · cases hf
theorem bi_list (hK : G.K = X.K) : CallR X (.type "list") (rVN G biList) := by
  intro pins s σ H xs us Q I rs hh
  obtain ⟨F, ds, o, ft, rd, hf, mk⟩ := hh
  unfold biList at hf
  split at hf
  · obtain ⟨x, rfl, r⟩ := repRs1 rd
    cases hf
    obtain ⟨p, vs, rfl, hp, r1⟩ := r.lsts
    exact call_list_of pins s σ H _ us Q I rs ⟨p, vs, rfl, .inl (SqL.of hp), fun l hl => mk.lst ft r1 l hl⟩
  · obtain ⟨x, rfl, r⟩ := repRs1 rd
    cases hf
    obtain ⟨p, vs, rfl, hp, r1⟩ := r.tups
    exact call_list_of pins s σ H _ us Q I rs ⟨p, vs, rfl, .inr (hK ▸ hp.sq), fun l hl => mk.lst ft r1 l hl⟩
  · obtain ⟨x, rfl, r⟩ := repRs1 rd
    cases hf
    obtain ⟨p, rfl, hp⟩ := r.scrs
    exact call_list_of pins s σ H _ us Q I rs ⟨p, _, rfl, .inl (by rw [← hK]; exact hp), fun l hl => mk.lst ft (repInts _) l hl⟩
  · cases hf
theorem bi_sum (hc : X.calm = true) : CallR X (.builtin "sum") (rVN G biSum) := by
  intro pins s σ H xs us Q I rs hh
  obtain ⟨F, ds, o, ft, rd, hf, mk⟩ := hh
  unfold biSum at hf
  split at hf
  · rename_i ds
    obtain ⟨x, rfl, r⟩ := repRs1 rd
    cases e : allI ds with
    | none => rw [e] at hf; cases hf
    | some ns =>
      rw [e] at hf
      cases hf
      obtain ⟨p, vs, rfl, hp, r1⟩ := r.lsts
      obtain ⟨rfl, _⟩ := allI_rep r1 e
      exact cr_sum hc pins s σ H _ us Q I rs ⟨p, ns, rfl, SqL.of hp, mk.val ft (.int _)⟩
  · cases hf
theorem bi_any (hc : X.calm = true) : CallR X (.builtin "any") (rVN G biAny) := by
  intro pins s σ H xs us Q I rs hh
  obtain ⟨F, ds, o, ft, rd, hf, mk⟩ := hh
  unfold biAny at hf
  split at hf
  · rename_i ds
    obtain ⟨x, rfl, r⟩ := repRs1 rd
    cases e : allB ds with
    | none => rw [e] at hf; cases hf
    | some ns =>
      rw [e] at hf
      cases hf
      obtain ⟨p, vs, rfl, hp, r1⟩ := r.lsts
      obtain rfl := allB_rep r1 e
      exact cr_any hc pins s σ H _ us Q I rs ⟨p, ns, rfl, SqL.of hp, mk.val ft (.bl _)⟩
  · cases hf
theorem bi_all (hc : X.calm = true) : CallR X (.builtin "all") (rVN G biAll) := by
  intro pins s σ H xs us Q I rs hh
  obtain ⟨F, ds, o, ft, rd, hf, mk⟩ := hh
  unfold biAll at hf
  split at hf
  · rename_i ds
    obtain ⟨x, rfl, r⟩ := repRs1 rd
    cases e : allB ds with
    | none => rw [e] at hf; cases hf
    | some ns =>
      rw [e] at hf
      cases hf
      obtain ⟨p, vs, rfl, hp, r1⟩ := r.lsts
      obtain rfl := allB_rep r1 e
      exact cr_all hc pins s σ H _ us Q I rs ⟨p, ns, rfl, SqL.of hp, mk.val ft (.bl _)⟩
  · cases hf
theorem bi_sorted : CallR X (.builtin "sorted") (rVN G biSorted) := by
  intro pins s σ H xs us Q I rs hh
  obtain ⟨F, ds, o, ft, rd, hf, mk⟩ := hh
  unfold biSorted at hf
  split at hf
  · rename_i ds
    obtain ⟨x, rfl, r⟩ := repRs1 rd
    cases e : allI ds with
    | none => rw [e] at hf; cases hf
    | some ns =>
      rw [e] at hf
      cases hf
      obtain ⟨p, vs, rfl, hp, r1⟩ := r.lsts
      obtain ⟨rfl, _⟩ := allI_rep r1 e
      refine cr_sortedI pins s σ H _ us Q I rs ⟨p, ns, rfl, SqL.of hp, fun ns' q h1 h2 hq => ?_⟩
      have : ns' = sortI ns := sorted_unique _ _ (h1.trans (sortI_perm ns).symm) h2 (sortI_sorted ns)
      rw [this]
      exact mk.lst ft (repInts _) q hq
  · cases hf
end
end Z
end

section
set_option maxRecDepth 100007
/-! Statements: blocks, if, return, targets, assignments. -/
namespace Z
open PySem L2 PyProof.Rows
inductive S where
  | nxt (z : Zs) | ret (o : O) (z : Zs) | brk (z : Zs) | cnt (z : Zs) | exc (c : Nat) (fs : List (Nat × D)) (z : Zs) | bad
def R.bindS {α : Type} (r : R α) (f : α → Zs → S) : S :=
  match r with
  | .ok a z => f a z
  | .exc c fs z => .exc c fs z
  | .bad => .bad
abbrev Ro := Nat → Bool
/-- slots that keep their address -/
def Kp (ro : Ro) (σ σ' : L2.St) : Prop := ∀ i, ro i = true → σ'[i]? = σ[i]?
theorem Kp.refl {ro : Ro} {σ : L2.St} : Kp ro σ σ := fun _ _ => rfl
theorem Kp.trans {ro : Ro} {a b c : L2.St} (h : Kp ro a b) (k : Kp ro b c) : Kp ro a c := fun i e => (k i e).trans (h i e)
def RunS (G : Gx) (W : WX) (ro : Ro) (σ : L2.St) (H : Hp) (F : Fz) (ow : Ows) (r : S) (D : Ends) : Prop :=
  match r with
  | .nxt z' => ∀ σ' H' F' ow', Stp H F (Own ow) H' F' (Own ow') → SRep G H' F' σ' z' ow' → Kp ro σ σ' → D.nx σ' H'
  | .brk z' => ∀ σ' H' F' ow', Stp H F (Own ow) H' F' (Own ow') → SRep G H' F' σ' z' ow' → Kp ro σ σ' → D.bk σ' H'
  | .cnt z' => ∀ σ' H' F' ow', Stp H F (Own ow) H' F' (Own ow') → SRep G H' F' σ' z' ow' → Kp ro σ σ' → D.ct σ' H'
  | .ret o z' => ∀ v σ' H' F' ow' f, Stp H F (Own ow) H' F' (fun x => Own ow' x ∨ x ∈ f) → SRep G H' F' σ' z' ow' → RepO G H' F' v o f → (∀ x ∈ f, ¬ Own ow' x) → Kp ro σ σ' → D.rt v H'
  | .exc c fs z' => ∀ d σ' H' F' ow' fvs, Stp H F (Own ow) H' F' (Own ow') → SRep G H' F' σ' z' ow' → H' d = some (.xd fvs) → RepFs G H' F' fvs fs → Kp ro σ σ' → W (.ref (G.cls c)) (some d) σ' H'
  | .bad => False
def tZS (G : Gx) (W : WX) (ro : Ro) (m : Zs → S) : TS := fun D σ H => ∃ z ow F, SRep G H F σ z ow ∧ RunS G W ro σ H F ow (m z) D
section
variable {G : Gx} {W : WX} {ro : Ro} {σ σ1 : L2.St} {H H1 H2 H' : Hp} {F F1 F2 F' : Fz} {P P1 P2 P' fP : Addr → Prop} {z z' : Zs} {ow ow1 ow2 : Ows} {v : V} {o : O} {f g : List Addr} {D : Ends}
theorem RunS.shift {r : S} (run : RunS G W ro σ H F ow r D) (st : Stp H F (Own ow) H1 F1 (Own ow1)) (k : Kp ro σ σ1) : RunS G W ro σ1 H1 F1 ow1 r D := by
  cases r with
  | nxt z' => exact fun σ' H' F' ow' s r k' => run σ' H' F' ow' (st.trans s) r (k.trans k')
  | brk z' => exact fun σ' H' F' ow' s r k' => run σ' H' F' ow' (st.trans s) r (k.trans k')
  | cnt z' => exact fun σ' H' F' ow' s r k' => run σ' H' F' ow' (st.trans s) r (k.trans k')
  | ret o z' => exact fun v σ' H' F' ow' f s r ro' d k' => run v σ' H' F' ow' f (st.trans s) r ro' d (k.trans k')
  | exc c fs z' => exact fun d σ' H' F' ow' fvs s r e rf k' => run d σ' H' F' ow' fvs (st.trans s) r e rf (k.trans k')
  | bad => exact run
/-- an expression first -/
theorem RunS.first {α β : Type} {rel1 : Rel α β} {r : R α} {k : α → Zs → S} {Q1 : β → Hp → Prop} (s : SRep G H F σ z ow) (h : RunS G W ro σ H F ow (r.bindS k) D)
    (hk : ∀ a z2 v H2 F2 ow2 g, r = .ok a z2 → Stp H F (Own ow) H2 F2 (fun x => Own ow2 x ∨ x ∈ g) → SRep G H2 F2 σ z2 ow2 → rel1 H2 F2 v a g → (∀ x ∈ g, ¬ Own ow2 x) → RunS G W ro σ H F ow (k a z2) D → Q1 v H2) : RunG G W σ rel1 H F ow r Q1 := by
  cases r with
  | ok a z2 => exact fun v H2 F2 ow2 g st s2 r2 d2 => hk a z2 v H2 F2 ow2 g rfl st s2 r2 d2 h
  | exc c fs z' => exact fun d H2 F2 ow2 fvs st s2 e r2 => h d σ H2 F2 ow2 fvs st s2 e r2 Kp.refl
  | bad => exact h
/-- a further expression, something kept beside it -/
theorem RunS.bind {α β : Type} {rel1 : Rel α β} {r : R α} {k : α → Zs → S} {Q1 : β → Hp → Prop}
    (s1 : Stp H F (Own ow) H1 F1 (fun x => Own ow1 x ∨ fP x)) (dj : ∀ x, fP x → ¬ Own ow1 x) (h : RunS G W ro σ H F ow (r.bindS k) D)
    (hk : ∀ a z2 v H2 F2 ow2 g, r = .ok a z2 → Stp H1 F1 (Own ow1) H2 F2 (fun x => Own ow2 x ∨ x ∈ g) → SRep G H2 F2 σ z2 ow2 → rel1 H2 F2 v a g → (∀ x ∈ g, ¬ Own ow2 x) →
      Stp H F (Own ow) H2 F2 (fun x => Own ow2 x ∨ x ∈ g ∨ fP x) → (∀ x, fP x → ¬ Own ow2 x ∧ x ∉ g) → RunS G W ro σ H F ow (k a z2) D → Q1 v H2) : RunG G W σ rel1 H1 F1 ow1 r Q1 := by
  cases r with
  | ok a z2 =>
    intro v H2 F2 ow2 g st s2 r2 d2
    obtain ⟨st2, dj2⟩ := s1.frame dj st
    exact hk a z2 v H2 F2 ow2 g rfl st s2 r2 d2 (st2.weak fun x h => by
      rcases h with h | h | h
      · exact .inl (.inl h)
      · exact .inl (.inr h)
      · exact .inr h) (fun x hx => ⟨fun q => dj2 x hx (.inl q), fun q => dj2 x hx (.inr q)⟩) h
  | exc c fs z' =>
    intro d H2 F2 ow2 fvs st s2 e r2
    exact h d σ H2 F2 ow2 fvs ((s1.frame dj st).1.weak fun x h => .inl h) s2 e r2 Kp.refl
  | bad => exact h
end

@[simp] def exSkip : Zs → S := fun z => .nxt z
@[simp] def exSeq (m1 m2 : Zs → S) : Zs → S := fun z => match m1 z with
  | .nxt z1 => m2 z1
  | r => r
@[simp] def exIf (c : Zs → R Bool) (m1 m2 : Zs → S) : Zs → S := fun z => (c z).bindS fun b z1 => if b = true then m1 z1 else m2 z1
@[simp] def exRet (ro : Ro) (m : Zs → R Hd) : Zs → S := fun z => (m z).bindS fun h z1 => match h with
  | .tmp o => .ret o z1
  | .slot i => if ro i = true then (match take (.slot i) z1 with
    | some (o, z2) => .ret o z2
    | none => .bad) else (match rd z1 i with
    | some o => .ret o (z1.set i none)
    | none => .bad)
@[simp] def exRetN : Zs → S := fun z => .ret (.val .non) z
@[simp] def exDrop (m : Zs → R Hd) : Zs → S := fun z => (m z).bindS fun _ z1 => .nxt z1
section
variable {G : Gx} {W : WX} {ro : Ro} {X : Cx} {st : Stmt} {rest : List Stmt} {a b e : Expr} {pos : Pos} {m1 m2 : Zs → S} {me : Zs → R Hd} {c1 : Zs → R Bool}
theorem zs_nil : PSs X [] (tZS G W ro exSkip) := PSs.imp pss_nil fun D σ H h => by
  obtain ⟨z, ow, F, s, run⟩ := h
  exact run σ H F ow s.refl s Kp.refl
theorem zs_pass : PS X (.Pass pos) (tZS G W ro exSkip) := PS.imp ps_pass fun D σ H h => by
  obtain ⟨z, ow, F, s, run⟩ := h
  exact run σ H F ow s.refl s Kp.refl
theorem zs_break : PS X (.Break pos) (tZS G W ro .brk) := PS.imp ps_break fun D σ H h => by
  obtain ⟨z, ow, F, s, run⟩ := h
  exact run σ H F ow s.refl s Kp.refl
theorem zs_continue : PS X (.Continue pos) (tZS G W ro .cnt) := PS.imp ps_continue fun D σ H h => by
  obtain ⟨z, ow, F, s, run⟩ := h
  exact run σ H F ow s.refl s Kp.refl
theorem seq_read {D : Ends} {σ : L2.St} {H : Hp} (h : tZS G W ro (exSeq m1 m2) D σ H) : tSeq (tZS G W ro m1) (tZS G W ro m2) D σ H := by
  obtain ⟨z, ow, F, s, run⟩ := h
  refine ⟨z, ow, F, s, ?_⟩
  unfold exSeq at run
  cases e : m1 z <;> simp only [e] at run <;> try exact run
  intro σ1 H1 F1 ow1 st1 s1 k1
  exact ⟨_, ow1, F1, s1, run.shift st1 k1⟩
theorem zs_cons (h1 : PS X st (tZS G W ro m1)) (h2 : PSs X rest (tZS G W ro m2)) : PSs X (st :: rest) (tZS G W ro (exSeq m1 m2)) := PSs.imp (pss_cons h1 h2) fun D σ H h => seq_read h
theorem zs_if {c : Expr} {p q : List Stmt} (hc : PT X c (tZT G W c1)) (ha : PSs X p (tZS G W ro m1)) (hb : PSs X q (tZS G W ro m2)) : PS X (.If c p q pos) (tZS G W ro (exIf c1 m1 m2)) := PS.imp (ps_if hc ha hb) fun D σ H h => by
  obtain ⟨z, ow, F, s, run⟩ := h
  refine ⟨z, ow, F, s, RunS.first s run fun x z1 v1 H1 F1 ow1 f1 _ st1 s1 r1 d1 run1 => ?_⟩
  obtain ⟨rfl, rfl⟩ := r1
  have st1 : Stp H F (Own ow) H1 F1 (Own ow1) := st1.weak fun x h => .inl h
  cases v1 with
  | true =>
    simp only [if_true] at run1 ⊢
    exact ⟨z1, ow1, F1, s1, run1.shift st1 Kp.refl⟩
  | false =>
    simp only [Bool.false_eq_true, if_false] at run1 ⊢
    exact ⟨z1, ow1, F1, s1, run1.shift st1 Kp.refl⟩
theorem zs_ret (he : PE X e (tZ G W me)) : PS X (.Return (some e) pos) (tZS G W ro (exRet ro me)) := PS.imp (ps_ret he) fun D σ H h => by
  obtain ⟨z, ow, F, s, run⟩ := h
  refine ⟨z, ow, F, s, RunS.first s run fun x z1 v1 H1 F1 ow1 f1 _ st1 s1 r1 d1 run1 => ?_⟩
  cases x with
  | tmp o => exact run1 v1 σ H1 F1 ow1 f1 st1 s1 r1 d1 Kp.refl
  | slot i =>
    simp only at run1
    split at run1
    · cases e1 : take (.slot i) z1 with
      | none => simp only [e1] at run1; exact run1.elim
      | some p =>
        obtain ⟨o, z2⟩ := p
        simp only [e1] at run1
        obtain ⟨F2, ow2, f2, s2, r2, st2, d2⟩ := HRep.take r1 s1 d1 (fun a h => st1.nf a (.inr h)) (fun a h => st1.tr a (.inr h)) e1
        exact run1 v1 σ H1 F2 ow2 f2 (st1.trans st2) s2 r2 d2 Kp.refl
    · cases e1 : rd z1 i with
      | none => simp only [e1] at run1; exact run1.elim
      | some o =>
        simp only [e1] at run1
        obtain ⟨rfl, ei⟩ := r1
        obtain ⟨v', e2, ro'⟩ := s1.rep i o e1
        rw [ei] at e2
        cases e2
        refine run1 v1 σ H1 F1 (ow0 ow1 i) (ow1 i) (st1.weak fun x h => ?_) (s1.lend i) ro' (ow0_dj s1) Kp.refl
        rcases h with h | h
        · exact .inl (own_ow0 h)
        · exact .inl ⟨i, h⟩
theorem zs_retN : PS X (.Return none pos) (tZS G W ro exRetN) := PS.imp ps_retN fun D σ H h => by
  obtain ⟨z, ow, F, s, run⟩ := h
  exact run .non σ H F ow [] (s.refl.weak fun x h => h.elim id fun h => by cases h) s (.val .non) (fun x h => by cases h) Kp.refl
theorem zs_drop (he : PE X e (tZ G W me)) (hs : swapsWith e none pos.line X.env = pure false) : PS X (.Expr e pos) (tZS G W ro (exDrop me)) := PS.imp (ps_expr he hs) fun D σ H h => by
  obtain ⟨z, ow, F, s, run⟩ := h
  exact ⟨z, ow, F, s, RunS.first s run fun x z1 v1 H1 F1 ow1 f1 _ st1 s1 r1 d1 run1 => run1 σ H1 F1 ow1 (st1.weak fun x h => .inl h) s1 Kp.refl⟩
end

/-! ### targets -/
inductive Tg where
  | nm (i : Nat) | tp (ts : Tg) | nil | cons (t ts : Tg)
@[simp] def setS (ro : Ro) (i : Nat) (o : O) (z : Zs) : Option Zs := if ro i = true then none else if i < z.length then some (z.set i (some o)) else none
mutual
@[simp] def asg1 (ro : Ro) : Tg → D → Zs → Option Zs
  | .nm i, d, z => setS ro i (.val d) z
  | .tp ts, .tup ds, z => asgN ro ts ds z
  | _, _, _ => none
@[simp] def asgN (ro : Ro) : Tg → List D → Zs → Option Zs
  | .nil, [], z => some z
  | .cons t ts, d :: ds, z => match asg1 ro t d z with
    | some z1 => asgN ro ts ds z1
    | none => none
  | _, _, _ => none
end
section
variable {G : Gx} {ro : Ro} {H : Hp} {F : Fz} {σ : L2.St} {z z' : Zs} {ow : Ows} {v : V} {d : D} {i : Nat} {o : O}
theorem setS_ok (s : SRep G H F σ z ow) {f : List Addr} (r : RepO G H F v o f) (dj : ∀ a ∈ f, ¬ Own (ow0 ow i) a) (nf : ∀ a ∈ f, ¬ F a) (e : setS ro i o z = some z') : SRep G H F (σ.set i (some v)) z' (ow1 ow i f) ∧ Kp ro σ (σ.set i (some v)) := by
  unfold setS at e
  split at e
  · cases e
  · rename_i hr
    split at e
    · rename_i hl
      cases e
      refine ⟨s.store (by rw [← s.len]; exact hl) r dj nf, fun j hj => ?_⟩
      rw [List.getElem?_set_ne]
      intro h
      subst h
      exact hr hj
    · cases e
theorem own_val {a : Addr} (h : Own (ow1 ow i []) a) : Own ow a := by
  rcases own_ow1 h with h | h
  · exact own_ow0 h
  · cases h
/-- a target's reading -/
def gZ (G : Gx) (ro : Ro) (k : D → Zs → Option Zs) : TG := fun v σ H Q => ∃ F z ow d z', SRep G H F σ z ow ∧ RepD G H F v d ∧ k d z = some z' ∧ ∀ σ' ow', SRep G H F σ' z' ow' → (∀ a, Own ow' a → Own ow a) → Kp ro σ σ' → Q σ' H
def gZs (G : Gx) (ro : Ro) (k : List D → Zs → Option Zs) : TGs := fun vs σ H Q => ∃ F z ow ds z', SRep G H F σ z ow ∧ RepDs G H F vs ds ∧ k ds z = some z' ∧ ∀ σ' ow', SRep G H F σ' z' ow' → (∀ a, Own ow' a → Own ow a) → Kp ro σ σ' → Q σ' H
theorem PG.imp {X : Cx} {e : Expr} {t t' : TG} (h : PG X e t) (k : ∀ v σ H Q, t' v σ H Q → t v σ H Q) : PG X e t' := ⟨fun pins s σ H v u Q I r q => h.run pins s σ H v u Q I r (k v σ H Q q)⟩
theorem PGs.imp {X : Cx} {e : List Expr} {t t' : TGs} (h : PGs X e t) (k : ∀ v σ H Q, t' v σ H Q → t v σ H Q) : PGs X e t' := ⟨fun pins s σ H v u Q I r q => h.run pins s σ H v u Q I r (k v σ H Q q)⟩
variable {X : Cx} {pos : Pos} {t ts : Tg}
theorem zg_name {x : Str} (hN : X.N.Nodup) (hi : X.N[i]? = some x) (hx : Loc X.env.scope x) (hf : X.fn x = true ∨ X.env.scope.names.lookup x = some .local) : PG X (.Name x pos) (gZ G ro (asg1 ro (.nm i))) := PG.imp (pg_name hN hi hx hf) fun v σ H Q h => by
  obtain ⟨F, z, ow, d, z', s, r, e, q⟩ := h
  simp only [asg1] at e
  obtain ⟨s', k⟩ := setS_ok s (.val r) (f := []) (fun a h => by cases h) (fun a h => by cases h) e
  exact q _ _ s' (fun a h => own_val h) k
theorem zg_nil : PGs X [] (gZs G ro (asgN ro .nil)) := PGs.imp pgs_nil fun v σ H Q h => by
  obtain ⟨F, z, ow, ds, z', s, r, e, q⟩ := h
  cases r with
  | nil =>
    simp only [asgN, Option.some.injEq] at e
    subst e
    exact ⟨rfl, q σ ow s (fun a h => h) Kp.refl⟩
  | cons _ _ => simp only [asgN, reduceCtorEq] at e
theorem zg_cons {e : Expr} {es : List Expr} (h1 : PG X e (gZ G ro (asg1 ro t))) (h2 : PGs X es (gZs G ro (asgN ro ts))) (hs : (assignEach (e :: es) X.env).map (·.2) = assign e X.env :: (assignEach es X.env).map (·.2)) : PGs X (e :: es) (gZs G ro (asgN ro (.cons t ts))) := PGs.imp (pgs_cons h1 h2 hs) fun v σ H Q h => by
  obtain ⟨F, z, ow, ds, z', s, r, e, q⟩ := h
  cases r with
  | nil => simp only [asgN, reduceCtorEq] at e
  | cons r rs =>
    rename_i v0 d vs0 ds
    rw [asgN] at e
    cases e1 : asg1 ro t d z with
    | none => rw [e1] at e; cases e
    | some z1 =>
      rw [e1] at e
      exact ⟨_, _, rfl, F, z, ow, _, z1, s, r, e1, fun σ1 ow1 s1 o1 k1 => ⟨F, z1, ow1, _, z', s1, rs, e, fun σ2 ow2 s2 o2 k2 => q σ2 ow2 s2 (fun a h => o1 a (o2 a h)) (k1.trans k2)⟩⟩
def Tg.len : Tg → Nat
  | .cons _ ts => ts.len + 1
  | _ => 0
theorem asgN_len : ∀ {ts : Tg} {ds : List D} {z z' : Zs}, asgN ro ts ds z = some z' → ds.length = ts.len
  | .nil, [], _, _, _ => rfl
  | .cons t ts, d :: ds, z, z', e => by
    simp only [asgN] at e
    cases e1 : asg1 ro t d z with
    | none => simp only [e1] at e; cases e
    | some z1 =>
      simp only [e1] at e
      rw [List.length_cons, asgN_len e]; rfl
  | .nil, _ :: _, _, _, e => by simp only [asgN, reduceCtorEq] at e
  | .cons _ _, [], _, _, e => by simp only [asgN, reduceCtorEq] at e
  | .nm _, _, _, _, e => by simp only [asgN, reduceCtorEq] at e
  | .tp _, _, _, _, e => by simp only [asgN, reduceCtorEq] at e
theorem zg_tup {es : List Expr} {k : Nat} (hK : G.K = X.K) (hc : X.calm = true) (h : PGs X es (gZs G ro (asgN ro ts))) (hn : (assignEach es X.env).length = ts.len) (hst : (assignEach es X.env).findIdx? (·.1) = none) : PG X (.Tuple es k pos) (gZ G ro (asg1 ro (.tp ts))) := PG.imp (pg_tup hc h hn hst) fun v σ H Q h => by
  obtain ⟨F, z, ow, d, z', s, r, e, q⟩ := h
  cases d <;> simp only [asg1, reduceCtorEq] at e
  cases r with
  | tup hp rs => exact ⟨_, _, rfl, hK ▸ hp.sq, by rw [rs.length]; exact asgN_len e, F, z, ow, _, z', s, rs, e, q⟩
end

/-! ### assignments -/
@[simp] def exAsgN (ro : Ro) (i : Nat) (m : Zs → R Hd) : Zs → S := fun z => (m z).bindS fun h z1 => match take h z1 with
  | some (o, z2) => match setS ro i o z2 with
    | some z3 => .nxt z3
    | none => .bad
  | none => .bad
@[simp] def exAsgT (ro : Ro) (t : Tg) (m : Zs → R Hd) : Zs → S := fun z => (m z).bindS fun h z1 => match takeD h z1 with
  | some (d, z2) => match asg1 ro t d z2 with
    | some z3 => .nxt z3
    | none => .bad
  | none => .bad
section
variable {G : Gx} {W : WX} {ro : Ro} {X : Cx} {e tg : Expr} {pos pos' : Pos} {me : Zs → R Hd} {t : Tg}
theorem zs_asgN {i : Nat} {x : Str} (hN : X.N.Nodup) (hi : X.N[i]? = some x) (hx : Loc X.env.scope x) (he : PE X e (tZ G W me)) (hs : swapsWith e (some (.Name x pos')) pos.line X.env = pure false) (hf : X.fn x = true ∨ X.env.scope.names.lookup x = some .local) : PS X (.Assign [.Name x pos'] e pos) (tZS G W ro (exAsgN ro i me)) :=
  PS.imp (ps_set hN hi hx he hs hf) fun D σ H h => by
  obtain ⟨z, ow, F, s, run⟩ := h
  refine ⟨z, ow, F, s, RunS.first s run fun x z1 v1 H1 F1 ow1 f1 _ st1 s1 r1 d1 run1 => ?_⟩
  cases e1 : take x z1 with
  | none => simp only [e1] at run1; exact run1.elim
  | some p =>
    obtain ⟨o, z2⟩ := p
    simp only [e1] at run1
    cases e2 : setS ro i o z2 with
    | none => simp only [e2] at run1; exact run1.elim
    | some z3 =>
      simp only [e2] at run1
      obtain ⟨F2, ow2, f2, s2, r2, st2, d2⟩ := HRep.take r1 s1 d1 (fun a h => st1.nf a (.inr h)) (fun a h => st1.tr a (.inr h)) e1
      have st := st1.trans st2
      obtain ⟨s3, k3⟩ := setS_ok s2 r2 (fun a h q => d2 a h (own_ow0 q)) (fun a h => st.nf a (.inr h)) e2
      refine run1 _ H1 F2 _ (st.weak fun a h => ?_) s3 k3
      rcases own_ow1 h with h | h
      · exact .inl (own_ow0 h)
      · exact .inr h
theorem zs_asgT (he : PE X e (tZ G W me)) (hg : PG X tg (gZ G ro (asg1 ro t))) (hs : swapsWithSole [tg] e pos.line X.env = pure false) (hw : swappedStores [tg] e X.env = pure none) (h1 : (assignEach [tg] X.env).map (·.2) = [assign tg X.env]) : PS X (.Assign [tg] e pos) (tZS G W ro (exAsgT ro t me)) :=
  PS.imp (ps_asg he hg hs hw h1) fun D σ H h => by
  obtain ⟨z, ow, F, s, run⟩ := h
  refine ⟨z, ow, F, s, RunS.first s run fun x z1 v1 H1 F1 ow1 f1 _ st1 s1 r1 d1 run1 => ?_⟩
  cases e1 : takeD x z1 with
  | none => simp only [e1] at run1; exact run1.elim
  | some p =>
    obtain ⟨d, z2⟩ := p
    simp only [e1] at run1
    cases e2 : asg1 ro t d z2 with
    | none => simp only [e2] at run1; exact run1.elim
    | some z3 =>
      simp only [e2] at run1
      obtain ⟨F2, ow2, s2, r2, st2⟩ := HRep.takeD r1 s1 d1 (fun a h => st1.nf a (.inr h)) (fun a h => st1.tr a (.inr h)) e1
      exact ⟨F2, z2, ow2, d, z3, s2, r2, e2, fun σ' ow' s' o' k' => run1 σ' H1 F2 ow' ((st1.trans st2).weak o') s' k'⟩
end
end Z
end

section
set_option maxRecDepth 100007
/-! Statements that change a thing in its place; loops. -/
namespace Z
open PySem L2 PyProof.Rows
section
variable {G : Gx} {W : WX} {ro : Ro} {σ : L2.St} {H H' : Hp} {F : Fz} {z : Zs} {ow : Ows} {v : V} {o o' : O} {f : List Addr}
theorem RepO.lst_inv {ds : List D} (r : RepO G H F v (.lst ds) f) : ∃ a vs, v = .ref a ∧ f = [a] ∧ H a = some (.lst vs) ∧ RepDs G H F vs ds := by
  cases r with
  | lst h r => exact ⟨_, _, rfl, rfl, h, r⟩
theorem RepO.obj_inv {c : Nat} {fs : List (Nat × D)} (r : RepO G H F v (.obj c fs) f) : ∃ a dx fvs, v = .ref a ∧ f = [a] ∧ H a = some (.ins (G.cls c) dx fvs) ∧ RepFs G H F fvs fs := by
  cases r with
  | obj h r => exact ⟨_, _, _, rfl, rfl, h, r⟩
theorem RepO.dct_inv {t : Bool} {kvs : List (D × D)} (r : RepO G H F v (.dct t kvs) f) : ∃ a, v = .ref a ∧ f = [a] ∧ ((t = false ∧ ∃ hs, H a = some (.dK hs) ∧ RepKs G H F hs kvs) ∨ (t = true ∧ ∃ hs, H a = some (.dT hs) ∧ RepTs G H F hs kvs)) := by
  cases r with
  | dct h r => exact ⟨_, rfl, rfl, .inl ⟨rfl, _, h, r⟩⟩
  | dctT h r => exact ⟨_, rfl, rfl, .inr ⟨rfl, _, h, r⟩⟩
/-- an owned object is changed -/
theorem stp_mut {P : Addr → Prop} {a : Addr} {u : HO} (ha : P a) (nf : ∀ x, P x → ¬ F x) (tr : ∀ x, P x → ∃ o, H x = some o) (ft : FT H F) : Stp H F P (upd H a u) F P := by
  have hF : ∀ x, F x → x ≠ a := fun x h e => nf a ha (e ▸ h)
  refine ⟨⟨fun _ h => h, fun x o fx e => by rw [upd_ne (hF x fx)]; exact e⟩, fun x o e => ?_, fun x o np e => ?_, fun _ h => .inl h, fun _ h => .inl h, nf, fun x h => ?_, fun x h => ?_⟩
  · by_cases hx : x = a
    · subst hx; exact ⟨u, upd_same⟩
    · exact ⟨o, by rw [upd_ne hx]; exact e⟩
  · have : x ≠ a := fun e => np (e ▸ ha)
    rw [upd_ne this]; exact e
  · by_cases hx : x = a
    · subst hx; exact ⟨u, upd_same⟩
    · rw [upd_ne hx]; exact tr x h
  · rw [upd_ne (hF x h)]; exact ft x h
theorem SRep.mut {i : Nat} {a : Addr} {u : HO} (s : SRep G H F σ z ow) (e : rd z i = some o) (ea : ow i = [a]) (hv : σ[i]? = some (some v)) (r' : RepO G (upd H a u) F v o' [a]) :
    SRep G (upd H a u) F σ (z.set i (some o')) ow ∧ Stp H F (Own ow) (upd H a u) F (Own ow) := by
  have hown : Own ow a := ⟨i, by rw [ea]; simp⟩
  have st := stp_mut (u := u) hown s.nfo s.own s.ft
  refine ⟨?_, st⟩
  have l := s.lend i
  have t1 : Stp H F (fun x => x = a) (upd H a u) F (fun x => x = a) := stp_mut rfl (fun x h => by rw [h]; exact s.nfo a hown) (fun x h => by rw [h]; exact s.own a hown) s.ft
  have l2 := l.stp t1 fun x h q => by
    subst q
    exact ow0_dj s (i := i) x (by rw [ea]; simp) h
  have l3 := l2.give (i := i) hv r' (fun b hb q => by
    rw [List.mem_singleton.mp hb] at q
    obtain ⟨j, hj⟩ := q
    unfold ow0 at hj
    split at hj
    · cases hj
    · rename_i hn
      exact hn (s.dj j i a hj (by rw [ea]; simp))) (fun b hb => by rw [List.mem_singleton.mp hb]; exact s.nfo a hown)
  rw [List.set_set] at l3
  have e2 : ow1 (ow0 ow i) i [a] = ow := by
    funext j; unfold ow1 ow0
    split
    · rename_i h; rw [h, ea]
    · rfl
  rw [e2] at l3
  exact l3
end

/-! ### x.append(e), x[k] = e, o.f = e, x op= e -/
def putD (kvs : List (D × D)) (k v : D) : List (D × D) :=
  if (kvs.any fun p => eqD p.1 k) = true then kvs.map (fun p => if eqD p.1 k = true then (p.1, v) else p) else kvs ++ [(k, v)]
@[simp] def putN (f : Nat) (d : D) : List (Nat × D) → List (Nat × D)
  | [] => [(f, d)]
  | (g, x) :: r => if g = f then (g, d) :: r else (g, x) :: putN f d r
@[simp] def exApp (i : Nat) (m : Zs → R Hd) : Zs → S := fun z => match rd z i with
  | some (.lst _) => (m z).bindS fun h z1 => match takeD h z1 with
    | some (d, z2) => match rd z2 i with
      | some (.lst ds) => if ds.length < sizeLine then .nxt (z2.set i (some (.lst (ds ++ [d])))) else .bad
      | _ => .bad
    | none => .bad
  | _ => .bad
/-- the thing with its new item -/
@[simp] def stIx (o : O) (k d : D) : Option O := match o with
  | .lst ds => match k with
    | .int n => (ixN ds.length n).map fun j => .lst (ds.set j d)
    | _ => none
  | .dct t kvs => if okKey t k = true ∧ kvs.length < sizeLine then some (.dct t (putD kvs k d)) else none
  | _ => none
@[simp] def exSetIx (i : Nat) (mi m : Zs → R Hd) : Zs → S := fun z => (m z).bindS fun h z1 => match rd z1 i with
  | some _ => (mi z1).bindS fun hi z2 => match takeD h z2 with
    | some (d, z3) => match peek hi z3, rd z3 i with
      | some k, some o => match stIx o k d with
        | some o' => .nxt (z3.set i (some o'))
        | none => .bad
      | _, _ => .bad
    | none => .bad
  | none => .bad
section
variable {G : Gx} {W : WX} {ro : Ro} {X : Cx} {e k : Expr} {pos apos cpos p1 p2 : Pos} {me mi : Zs → R Hd} {i : Nat} {x : Str}
theorem zs_app (hK : G.K = X.K) (hN : X.N[i]? = some x) (hv : Vis X.env.scope x) (hd : (x == ("__debug__" : Str)) = false) (hcd : (x == ("__classdict__" : Str)) = false) (he : PE X e (tZ G W me)) (hs : starEach [e] X.env = [(false, eval e X.env)])
    (hbase : attributeBase (.Name x p1) "append" X.env (eval (.Name x p1) X.env) = eval (.Name x p1) X.env) (hline : (apos.endLine == cpos.line) = true)
    (hsw : swapsWith (.Call (.Attribute (.Name x p1) "append" apos) [e] [] cpos) none pos.line X.env = pure false) :
    PS X (.Expr (.Call (.Attribute (.Name x p1) "append" apos) [e] [] cpos) pos) (tZS G W ro (exApp i me)) := by
  have hs' : starEach (e :: []) X.env = (false, eval e X.env) :: starEach [] X.env := hs
  have hfew : ((backTo cpos (starEach [e] X.env)).all (fun x => !x.1) && (backToKw cpos (keywordEach [] X.env)).all (fun x => x.1.isSome) && decide (([e] : List Expr).length + ([] : List Keyword).length + (if ([] : List Keyword).isEmpty then 0 else 1) < 30)) = true := by
    rw [hs]; rfl
  refine PS.imp (ps_expr (pe_bm PySem.F.plainAttrs_list PySem.F.slot_list_append PySem.F.type_list_append mt_append (pe_var hN hv hd hcd) (pa_cons he pa_nil hs') hbase hfew hline hs' (by rfl)) hsw) fun D σ H h => ?_
  obtain ⟨z, ow, F, s, run⟩ := h
  unfold exApp at run
  cases e0 : rd z i with
  | none => simp only [e0] at run; exact run.elim
  | some o0 =>
    cases o0 <;> simp only [e0] at run <;> try exact run.elim
    rename_i ds0
    obtain ⟨v, ei, r0⟩ := s.rep i _ e0
    obtain ⟨a, vs0, rfl, ea, ha, rs0⟩ := r0.lst_inv
    refine ⟨.ref a, ei, .inl ⟨rfl, _, by rw [← hK]; exact SqL.of ha⟩, ?_⟩
    refine ⟨z, ow, F, s, RunS.first s run fun h z1 v1 H1 F1 ow1 f1 _ st1 s1 r1 d1 run1 => ?_⟩
    cases e1 : takeD h z1 with
    | none => simp only [e1] at run1; exact run1.elim
    | some p =>
      obtain ⟨d, z2⟩ := p
      simp only [e1] at run1
      cases e2 : rd z2 i with
      | none => simp only [e2] at run1; exact run1.elim
      | some o2 =>
        cases o2 <;> simp only [e2] at run1 <;> try exact run1.elim
        rename_i ds
        split at run1
        · rename_i hl
          obtain ⟨F2, ow2, s2, r2, st2⟩ := HRep.takeD r1 s1 d1 (fun a h => st1.nf a (.inr h)) (fun a h => st1.tr a (.inr h)) e1
          obtain ⟨v', ei', ro2⟩ := s2.rep i _ e2
          rw [ei] at ei'
          cases ei'
          obtain ⟨a', vs, eq, ea2, ha2, rs⟩ := ro2.lst_inv
          cases eq
          refine ⟨a, vs, v1, rfl, rfl, ha2, by rw [rs.length]; exact hl, ?_⟩
          have lt : Lat H1 F2 (upd H1 a (.lst (vs ++ [v1]))) F2 := (stp_mut (P := fun x => x = a) rfl (fun x h => by rw [h]; exact s2.nfo a ⟨i, by rw [ea2]; simp⟩) (fun x h => by rw [h]; exact ⟨_, ha2⟩) s2.ft).lat
          obtain ⟨s3, st3⟩ := s2.mut (o' := .lst (ds ++ [d])) (u := .lst (vs ++ [v1])) e2 ea2 ei (.lst upd_same ((rs.append (.cons r2 .nil)).lat lt))
          exact run1 σ _ F2 ow2 ((st1.trans st2).trans st3) s3 Kp.refl
        · exact run1.elim
theorem putKs {H : Hp} {F : Fz} {v : V} {d : D} (q : Key) (r : RepD G H F v d) : ∀ {hs : List (Key × V)} {ds : List (D × D)}, RepKs G H F hs ds → RepKs G H F (putK hs q v) (putD ds (keyD q) d) := by
  intro hs ds rs
  have hany : ∀ {hs : List (Key × V)} {ds : List (D × D)}, RepKs G H F hs ds → (hs.any fun kv => decide (kv.1 = q)) = ds.any fun p => eqD p.1 (keyD q) := by
    intro hs ds rs
    induction ds generalizing hs with
    | nil => cases rs; rfl
    | cons p ds ih =>
      cases rs with
      | cons he h t =>
        subst he
        simp only [List.any_cons, eq_keyD]
        rw [ih t]
  have hmap : ∀ {hs : List (Key × V)} {ds : List (D × D)}, RepKs G H F hs ds → RepKs G H F (hs.map fun kv => if kv.1 = q then (kv.1, v) else kv) (ds.map fun p => if eqD p.1 (keyD q) = true then (p.1, d) else p) := by
    intro hs ds rs
    induction ds generalizing hs with
    | nil => cases rs; exact .nil
    | cons p ds ih =>
      cases rs with
      | cons he h t =>
        rename_i k0 v0 _ _ _
        subst he
        simp only [List.map_cons, eq_keyD]
        by_cases hk : k0 = q
        · simp only [hk, if_true, decide_true]
          exact .cons rfl r (ih t)
        · simp only [hk, if_false, decide_false, Bool.false_eq_true]
          exact .cons rfl h (ih t)
  have happ : ∀ {hs : List (Key × V)} {ds : List (D × D)}, RepKs G H F hs ds → RepKs G H F (hs ++ [(q, v)]) (ds ++ [(keyD q, d)]) := by
    intro hs ds rs
    induction ds generalizing hs with
    | nil => cases rs; exact .cons rfl r .nil
    | cons p ds ih => cases rs with | cons he h t => exact .cons he h (ih t)
  unfold putK putD
  rw [hany rs]
  split
  · exact hmap rs
  · exact happ rs
theorem putTs {H : Hp} {F : Fz} {v : V} {d : D} (q : List Key) (r : RepD G H F v d) : ∀ {hs : List (List Key × V)} {ds : List (D × D)}, RepTs G H F hs ds → RepTs G H F (putK hs q v) (putD ds (.tup (q.map keyD)) d) := by
  intro hs ds rs
  have hk0 : ∀ k : List Key, eqD (.tup (k.map keyD)) (.tup (q.map keyD)) = decide (k = q) := fun k => by simp only [eqD]; exact eq_keyDs k q
  have hany : ∀ {hs : List (List Key × V)} {ds : List (D × D)}, RepTs G H F hs ds → (hs.any fun kv => decide (kv.1 = q)) = ds.any fun p => eqD p.1 (.tup (q.map keyD)) := by
    intro hs ds rs
    induction ds generalizing hs with
    | nil => cases rs; rfl
    | cons p ds ih =>
      cases rs with
      | cons he h t =>
        subst he
        simp only [List.any_cons, hk0]
        rw [ih t]
  have hmap : ∀ {hs : List (List Key × V)} {ds : List (D × D)}, RepTs G H F hs ds → RepTs G H F (hs.map fun kv => if kv.1 = q then (kv.1, v) else kv) (ds.map fun p => if eqD p.1 (.tup (q.map keyD)) = true then (p.1, d) else p) := by
    intro hs ds rs
    induction ds generalizing hs with
    | nil => cases rs; exact .nil
    | cons p ds ih =>
      cases rs with
      | cons he h t =>
        rename_i k0 v0 _ _ _
        subst he
        simp only [List.map_cons, hk0]
        by_cases hk : k0 = q
        · simp only [hk, if_true, decide_true]
          exact .cons rfl r (ih t)
        · simp only [hk, if_false, decide_false, Bool.false_eq_true]
          exact .cons rfl h (ih t)
  have happ : ∀ {hs : List (List Key × V)} {ds : List (D × D)}, RepTs G H F hs ds → RepTs G H F (hs ++ [(q, v)]) (ds ++ [(.tup (q.map keyD), d)]) := by
    intro hs ds rs
    induction ds generalizing hs with
    | nil => cases rs; exact .cons rfl r .nil
    | cons p ds ih => cases rs with | cons he h t => exact .cons he h (ih t)
  unfold putK putD
  rw [hany rs]
  split
  · exact hmap rs
  · exact happ rs
theorem RepKs.len' {H : Hp} {F : Fz} : ∀ {hs : List (List Key × V)} {kvs : List (D × D)}, RepTs G H F hs kvs → hs.length = kvs.length
  | _, _, .nil => rfl
  | _, _, .cons _ _ r => by rw [List.length_cons, List.length_cons, RepKs.len' r]
def rSetLD : V → V → V → Hp → (Hp → Prop) → Prop := fun o i v H Q => rSetL o i v H Q ∨ ∃ a H', o = .ref a ∧ DPut H a i v H' ∧ Q H'
theorem set_ld (hu : X.A.units + 65 < cLine) : PSet X rSetLD := by
  intro pins s σ H o i v ov iv u Q I r1 r2 r3 h
  rcases h with h | ⟨a, H', rfl, dp, q⟩
  · exact set_list pins s σ H o i v ov iv u Q I r1 r2 r3 h
  · cases r1
    exact d_setItem (by omega) I dp r2 r3 fun s' I' => ⟨H', I', q⟩
theorem zs_setIx (hu : X.A.units + 65 < cLine) (hN : X.N[i]? = some x) (hv : Vis X.env.scope x) (hd : (x == ("__debug__" : Str)) = false) (hcd : (x == ("__classdict__" : Str)) = false) (he : PE X e (tZ G W me)) (hk : PE X k (tZ G W mi))
    (ha : ∀ v, assign (.Subscript (.Name x p1) k p2) X.env v = (do let ov ← holding [v] (eval (.Name x p1) X.env); let iv ← holding [v, ov] (eval k X.env); standAt p2; holding [v, ov, iv] (setItem ov iv v); release [v, ov, iv] []))
    (hs : swapsWithSole [.Subscript (.Name x p1) k p2] e pos.line X.env = pure false) (hw : swappedStores [.Subscript (.Name x p1) k p2] e X.env = pure none) (h1 : (assignEach [.Subscript (.Name x p1) k p2] X.env).map (·.2) = [assign (.Subscript (.Name x p1) k p2) X.env]) :
    PS X (.Assign [.Subscript (.Name x p1) k p2] e pos) (tZS G W ro (exSetIx i mi me)) := by
  refine PS.imp (ps_asg he (pg_sub (pe_var hN hv hd hcd) hk (set_ld hu) ha) hs hw h1) fun D σ H h => ?_
  obtain ⟨z, ow, F, s, run⟩ := h
  refine ⟨z, ow, F, s, RunS.first s run fun h z1 v1 H1 F1 ow1 f1 _ st1 s1 r1 d1 run1 => ?_⟩
  cases e0 : rd z1 i with
  | none => simp only [e0] at run1; exact run1.elim
  | some o0 =>
    simp only [e0] at run1
    obtain ⟨v, ei, r0⟩ := s1.rep i _ e0
    refine ⟨v, ei, z1, ow1, F1, s1, RunS.bind st1 d1 run1 fun hi z2 v2 H2 F2 ow2 f2 _ st2 s2 r2 d2 st d run2 => ?_⟩
    cases e1 : takeD h z2 with
    | none => simp only [e1] at run2; exact run2.elim
    | some p =>
      obtain ⟨dd, z3⟩ := p
      simp only [e1] at run2
      have r1' : HRep G H2 F2 σ v1 h f1 := HRep.stp r1 st2 d1
      -- what was made for the value is shared; the key is beside it
      obtain ⟨F3, ow3, s3, r3, st3⟩ := HRep.takeD r1' s2 (fun a h => (d a h).1) (fun a h => st.nf a (.inr (.inr h))) (fun a h => st.tr a (.inr (.inr h))) e1
      have dk : ∀ a ∈ f2, ¬ (Own ow2 a ∨ a ∈ f1) := fun a ha q => q.elim (d2 a ha) fun q => (d a q).2 ha
      have r2' : HRep G H2 F3 σ v2 hi f2 := HRep.stp r2 st3 dk
      cases e2 : peek hi z3 with
      | none => simp only [e2] at run2; exact run2.elim
      | some kk =>
        cases e3 : rd z3 i with
        | none => simp only [e2, e3] at run2; exact run2.elim
        | some o3 =>
          simp only [e2, e3] at run2
          cases e4 : stIx o3 kk dd with
          | none => simp only [e4] at run2; exact run2.elim
          | some o4 =>
            simp only [e4] at run2
            have rk : RepR G H2 F3 v2 kk := HRep.peek r2' s3 e2
            obtain ⟨v', ei', ro3⟩ := s3.rep i _ e3
            rw [ei] at ei'
            cases ei'
            have stt : Stp H F (Own ow) H2 F3 (Own ow3) := (st.weak (P2 := fun x => Own ow2 x ∨ x ∈ f1) fun x h => h.elim .inl fun h => .inr (.inr h)).trans st3
            cases o3 <;> simp only [stIx, reduceCtorEq] at e4
            · rename_i ds
              cases kk <;> simp only [reduceCtorEq] at e4
              rename_i n
              cases e5 : ixN ds.length n with
              | none => rw [e5] at e4; cases e4
              | some j =>
                rw [e5] at e4
                cases e4
                obtain ⟨a, vs, rfl, ea, ha, rs⟩ := ro3.lst_inv
                cases rk.int
                refine .inl ⟨a, vs, n, j, rfl, rfl, ha, by rw [rs.length]; exact e5, ?_⟩
                have lt : Lat H2 F3 (upd H2 a (.lst (vs.set j v1))) F3 := (stp_mut (P := fun x => x = a) rfl (fun x h => by rw [h]; exact s3.nfo a ⟨i, by rw [ea]; simp⟩) (fun x h => by rw [h]; exact ⟨_, ha⟩) s3.ft).lat
                obtain ⟨s5, st5⟩ := s3.mut (o' := .lst (ds.set j dd)) (u := .lst (vs.set j v1)) e3 ea ei (.lst upd_same ((rs.set j r3).lat lt))
                exact run2 σ _ F3 ow3 (stt.trans st5) s5 Kp.refl
            · rename_i t kvs
              split at e4
              · rename_i hok
                cases e4
                obtain ⟨a, rfl, ea, ⟨rfl, hs, ha, rs⟩ | ⟨rfl, hs, ha, rs⟩⟩ := ro3.dct_inv
                · have rk' : RepD G H2 F3 v2 kk := rk.dd (fun c fs e => by subst e; cases hok.1) (fun ds e => by subst e; cases hok.1) (fun t ds e => by subst e; cases hok.1)
                  obtain ⟨q, rfl, rfl⟩ := isK_key rk' hok.1
                  refine .inr ⟨a, _, rfl, DPut.k ha (by rw [rs.len]; exact hok.2), ?_⟩
                  have lt : Lat H2 F3 (upd H2 a (.dK (putK hs q v1))) F3 := (stp_mut (P := fun x => x = a) rfl (fun x h => by rw [h]; exact s3.nfo a ⟨i, by rw [ea]; simp⟩) (fun x h => by rw [h]; exact ⟨_, ha⟩) s3.ft).lat
                  obtain ⟨s5, st5⟩ := s3.mut (o' := .dct false (putD kvs (keyD q) dd)) (u := .dK (putK hs q v1)) e3 ea ei (.dct upd_same ((putKs q r3 rs).lat lt))
                  exact run2 σ _ F3 ow3 (stt.trans st5) s5 Kp.refl
                · have hk2 := hok.1
                  cases kk <;> simp only [okKey, Bool.false_eq_true] at hk2
                  obtain ⟨b, ws, rfl, hb, rb⟩ := rk.tups
                  rw [Bool.and_eq_true] at hk2
                  obtain ⟨qs, rfl, rfl⟩ := isKs_keys rb hk2.2
                  refine .inr ⟨a, _, rfl, DPut.t ha (hb.own fun e => by rw [map_nil_nil e] at hk2; cases hk2.1) (by rw [RepKs.len' rs]; exact hok.2), ?_⟩
                  have lt : Lat H2 F3 (upd H2 a (.dT (putK hs qs v1))) F3 := (stp_mut (P := fun x => x = a) rfl (fun x h => by rw [h]; exact s3.nfo a ⟨i, by rw [ea]; simp⟩) (fun x h => by rw [h]; exact ⟨_, ha⟩) s3.ft).lat
                  obtain ⟨s5, st5⟩ := s3.mut (o' := .dct true (putD kvs (.tup (qs.map keyD)) dd)) (u := .dT (putK hs qs v1)) e3 ea ei (.dctT upd_same ((putTs qs r3 rs).lat lt))
                  exact run2 σ _ F3 ow3 (stt.trans st5) s5 Kp.refl
              · cases e4
end
end Z
end

section
set_option maxRecDepth 100007
/-! o.f = e, x op= e; while; for over lists, tuples, texts, ranges, enumerate, zip. -/
namespace Z
open PySem L2 PyProof.Rows
/-- what is known of the names and classes by number -/
structure GOk (G : Gx) (flds : Nat → List Nat) : Prop where
  nd : G.nm.Nodup
  cl : ∀ c f, f ∈ flds c → Cls G.K (G.cls c)
  na : ∀ c f, f ∈ flds c → NoAttr G.K (G.cls c) (G.name f) ∧ f < G.nm.length
@[simp] def lookN (f : Nat) (fs : List (Nat × D)) : Option D := (fs.find? fun p => p.1 == f).map (·.2)
section
variable {G : Gx} {H : Hp} {F : Fz} {flds : Nat → List Nat}
theorem GOk.inj (g : GOk G flds) {i j : Nat} (hi : i < G.nm.length) (hj : j < G.nm.length) (h : G.name i = G.name j) : i = j := by
  unfold Gx.name at h
  rw [List.getD_eq_getElem?_getD, List.getD_eq_getElem?_getD, List.getElem?_eq_getElem hi, List.getElem?_eq_getElem hj] at h
  exact (List.getElem_inj g.nd).mp h
theorem putFs (g : GOk G flds) {f : Nat} (hf : f < G.nm.length) {v : V} {d : D} (r : RepD G H F v d) : ∀ {vs : List (Str × V)} {fs : List (Nat × D)}, RepFs G H F vs fs → RepFs G H F (putF (G.name f) v vs) (putN f d fs)
  | _, _, .nil => .cons hf rfl r .nil
  | _, _, .cons (n := n) (vs := vs) hn hx h t => by
    subst hx
    unfold putF putN
    by_cases e : n = f
    · subst e
      simp only [if_true]
      exact .cons hf rfl r t
    · have e2 : ¬ G.name n = G.name f := fun q => e (g.inj hn hf q)
      simp only [e, e2, if_false]
      exact .cons hn rfl h (putFs g hf r t)
theorem lookFs (g : GOk G flds) {f : Nat} (hf : f < G.nm.length) : ∀ {vs : List (Str × V)} {fs : List (Nat × D)}, RepFs G H F vs fs → match lookN f fs with
    | some d => ∃ v, vs.lookup (G.name f) = some v ∧ RepD G H F v d
    | none => vs.lookup (G.name f) = none
  | _, _, .nil => rfl
  | _, _, .cons (n := n) (v := v) (d := d) (vs := vs) (ds := ds) hn hx h t => by
    subst hx
    have ih := lookFs g hf t
    unfold lookN at ih ⊢
    rw [List.find?_cons]
    by_cases e : n = f
    · subst e
      have e1 : (n == n) = true := beq_self_eq_true n
      simp only [e1, Option.map_some]
      exact ⟨v, by simp [List.lookup_cons], h⟩
    · have e1 : (n == f) = false := beq_eq_false_iff_ne.mpr e
      have e2 : (G.name f == G.name n) = false := beq_eq_false_iff_ne.mpr fun q => e (g.inj hn hf q.symm)
      simp only [e1]
      have e3 : ((G.name n, v) :: vs).lookup (G.name f) = vs.lookup (G.name f) := by rw [List.lookup_cons, e2]
      rw [e3]
      exact ih
theorem RepFs.len : ∀ {vs : List (Str × V)} {fs : List (Nat × D)}, RepFs G H F vs fs → vs.length = fs.length
  | _, _, .nil => rfl
  | _, _, .cons _ _ _ t => by rw [List.length_cons, List.length_cons, RepFs.len t]
end
@[simp] def exSetFld (flds : Nat → List Nat) (i f : Nat) (m : Zs → R Hd) : Zs → S := fun z => (m z).bindS fun h z1 => match takeD h z1 with
  | some (d, z2) => match rd z2 i with
    | some (.obj c fs) => if (flds c).contains f = true ∧ fs.length < 1000 then .nxt (z2.set i (some (.obj c (putN f d fs)))) else .bad
    | _ => .bad
  | none => .bad
@[simp] def augOp (op : Bop) : D → D → Option D
  | .int i, .int j => match op with
    | .add => some (.int (i + j))
    | .sub => some (.int (i - j))
    | .mul => (arith .mul i j).map .int
    | .fdiv => if 0 < j ∧ j < 1073741824 then some (.int (i / j)) else none
    | .mod => if 0 < j then some (.int (i % j)) else none
    | _ => none
  | .str a, .str b => if op = .add ∧ a.length + b.length ≤ sizeLine then some (.str (a ++ b)) else none
  | _, _ => none
@[simp] def exAug (ro : Ro) (op : Bop) (i : Nat) (m : Zs → R Hd) : Zs → S := fun z => match rd z i with
  | some (.val d0) => (m z).bindS fun h z1 => match peek h z1 with
    | some e => match augOp op d0 e with
      | some d => match setS ro i (.val d) z1 with
        | some z2 => .nxt z2
        | none => .bad
      | none => .bad
    | none => .bad
  | _ => .bad
section
variable {G : Gx} {W : WX} {ro : Ro} {X : Cx} {e : Expr} {pos p1 p2 : Pos} {me : Zs → R Hd} {i f : Nat} {x : Str} {flds : Nat → List Nat}
theorem zs_setFld (hK : G.K = X.K) (g : GOk G flds) (hN : X.N[i]? = some x) (hv : Vis X.env.scope x) (hd : (x == ("__debug__" : Str)) = false) (hcd : (x == ("__classdict__" : Str)) = false) (he : PE X e (tZ G W me)) (hs : swapsWith e (some (.Attribute (.Name x p1) (G.name f) p2)) pos.line X.env = pure false) :
    PS X (.Assign [.Attribute (.Name x p1) (G.name f) p2] e pos) (tZS G W ro (exSetFld flds i f me)) := by
  refine PS.imp (ps_fld (pe_var hN hv hd hcd) he hs) fun D σ H h => ?_
  obtain ⟨z, ow, F, s, run⟩ := h
  refine ⟨z, ow, F, s, RunS.first s run fun h z1 v1 H1 F1 ow1 f1 _ st1 s1 r1 d1 run1 => ?_⟩
  cases e1 : takeD h z1 with
  | none => simp only [e1] at run1; exact run1.elim
  | some p =>
    obtain ⟨d, z2⟩ := p
    simp only [e1] at run1
    cases e2 : rd z2 i with
    | none => simp only [e2] at run1; exact run1.elim
    | some o2 =>
      cases o2 <;> simp only [e2] at run1 <;> try exact run1.elim
      rename_i c fs
      split at run1
      · rename_i hc
        obtain ⟨F2, ow2, s2, r2, st2⟩ := HRep.takeD r1 s1 d1 (fun a h => st1.nf a (.inr h)) (fun a h => st1.tr a (.inr h)) e1
        obtain ⟨v, ei, ro2⟩ := s2.rep i _ e2
        obtain ⟨a, dx, fvs, rfl, ea, ha, rs⟩ := ro2.obj_inv
        have hm : f ∈ flds c := by simpa using hc.1
        refine ⟨.ref a, ei, a, G.cls c, dx, fvs, rfl, ha, by rw [← hK]; exact g.cl c f hm, by rw [← hK]; exact (g.na c f hm).1, by rw [rs.len]; exact hc.2, ?_⟩
        have lt : Lat H1 F2 (upd H1 a (.ins (G.cls c) dx (putF (G.name f) v1 fvs))) F2 := (stp_mut (P := fun x => x = a) rfl (fun x h => by rw [h]; exact s2.nfo a ⟨i, by rw [ea]; simp⟩) (fun x h => by rw [h]; exact ⟨_, ha⟩) s2.ft).lat
        obtain ⟨s3, st3⟩ := s2.mut (o' := .obj c (putN f d fs)) (u := .ins (G.cls c) dx (putF (G.name f) v1 fvs)) e2 ea ei (.obj upd_same ((putFs g (g.na c f hm).2 r2 rs).lat lt))
        exact run1 σ _ F2 ow2 ((st1.trans st2).trans st3) s3 Kp.refl
      · exact run1.elim
/-- x op= e, by values -/
def rAug (G : Gx) (op : Bop) : R2 := fun x y H Q => ∃ F d e r, FT H F ∧ RepR G H F x d ∧ RepR G H F y e ∧ augOp op d e = some r ∧ ∀ v, RepD G H F v r → Q v H
theorem aug_ok : ∀ op, OpR X (inplaceOp (opOf op)) (rAug G op) := by
  intro op pins s σ H x y v u Q I rx ry hh
  obtain ⟨F, d, e, r, ft, rd, re, hf, mk⟩ := hh
  cases d <;> cases e <;> simp only [augOp, reduceCtorEq] at hf
  · rename_i i j
    cases rd.int
    cases re.int
    cases op <;> simp only [reduceCtorEq, opOf, Option.some.injEq] at hf ⊢
    · subst hf
      exact iop_add pins s σ H _ _ v u Q I rx ry ⟨i, j, rfl, rfl, mk _ (.int _)⟩
    · subst hf
      exact iop_sub pins s σ H _ _ v u Q I rx ry ⟨i, j, rfl, rfl, mk _ (.int _)⟩
    · cases ha : arith .mul i j with
      | none => rw [ha] at hf; cases hf
      | some n =>
        rw [ha] at hf
        cases hf
        simp only [arith] at ha
        split at ha
        · rename_i hm
          cases ha
          rcases hm with hm | hm
          · exact iop_mul pins s σ H _ _ v u Q I rx ry ⟨i, j, rfl, rfl, hm, mk _ (.int _)⟩
          · obtain ⟨t, rfl⟩ := rx
            obtain ⟨t', rfl⟩ := ry
            exact (opI (X := X) (f := inplaceOp .Mult) (C := CMulW) (fun i j t u s Q E c q => PyProof.Rows.imul_int q (CMulW.ok c))) pins s σ H (.int i) (.int j) _ _ Q I ⟨t, rfl⟩ ⟨t', rfl⟩ ⟨i, j, rfl, rfl, hm, mk _ (.int _)⟩
        · cases ha
    · split at hf
      · rename_i hc
        cases hf
        exact iop_fdiv pins s σ H _ _ v u Q I rx ry ⟨i, j, rfl, rfl, hc, mk _ (.int _)⟩
      · cases hf
    · split at hf
      · rename_i hc
        cases hf
        exact iop_mod pins s σ H _ _ v u Q I rx ry ⟨i, j, rfl, rfl, hc, mk _ (.int _)⟩
      · cases hf
  · split at hf
    · rename_i a b hc
      obtain ⟨rfl, hl⟩ := hc
      cases hf
      obtain ⟨rfl, t1⟩ := rd.str
      obtain ⟨rfl, t2⟩ := re.str
      refine iop_add_str pins s σ H _ _ v u Q I rx ry ⟨_, _, rfl, rfl, by rw [str_len, str_len]; exact hl, ?_⟩
      rw [str_append]
      exact mk _ (.str (txtOk_append t1 t2))
    · cases hf
theorem zs_aug {op : Bop} (hN : X.N.Nodup) (hi : X.N[i]? = some x) (hx : Loc X.env.scope x) (he : PE X e (tZ G W me)) (hf : X.fn x = true ∨ X.env.scope.names.lookup x = some .local) : PS X (.AugAssign (.Name x p1) (opOf op) e pos) (tZS G W ro (exAug ro op i me)) := by
  refine PS.imp (ps_aug (ti := rAug G op) hN hi hx he (aug_ok op) hf) fun D σ H h => ?_
  obtain ⟨z, ow, F, s, run⟩ := h
  unfold exAug at run
  cases e0 : rd z i with
  | none => simp only [e0] at run; exact run.elim
  | some o0 =>
    cases o0 <;> simp only [e0] at run <;> try exact run.elim
    rename_i d0
    obtain ⟨v, ei, r0⟩ := s.rep i _ e0
    refine ⟨v, ei, z, ow, F, s, RunS.first s run fun h z1 v1 H1 F1 ow1 f1 _ st1 s1 r1 d1 run1 => ?_⟩
    cases e1 : peek h z1 with
    | none => simp only [e1] at run1; exact run1.elim
    | some ee =>
      simp only [e1] at run1
      cases e2 : augOp op d0 ee with
      | none => simp only [e2] at run1; exact run1.elim
      | some d =>
        simp only [e2] at run1
        cases e3 : setS ro i (.val d) z1 with
        | none => simp only [e3] at run1; exact run1.elim
        | some z2 =>
          simp only [e3] at run1
          refine ⟨F1, d0, ee, d, s1.ft, .of (r0.val_inv.2.lat st1.lat), HRep.peek r1 s1 e1, e2, fun w rw' => ?_⟩
          obtain ⟨s2, k2⟩ := setS_ok s1 (.val rw') (f := []) (fun a h => by cases h) (fun a h => by cases h) e3
          exact run1 _ H1 F1 _ (st1.weak fun a h => .inl (own_val h)) s2 k2
end
/-! ### while -/
def whileF (c : Zs → R Bool) (b : Zs → S) : Nat → Zs → S
  | 0, _ => .bad
  | n + 1, z => (c z).bindS fun t z1 => if t = true then (match b z1 with
    | .nxt z2 => whileF c b n z2
    | .cnt z2 => whileF c b n z2
    | .brk z2 => .nxt z2
    | r => r) else .nxt z1
section
variable {G : Gx} {W : WX} {ro : Ro} {X : Cx} {c1 : Zs → R Bool} {mb : Zs → S} {pos : Pos}
theorem zs_while {n : Nat} {c : Expr} {body : List Stmt} (hp : PassesOwn (model X.prog X.w) X.A X.env X.xe) (hc : PT X c (tZT G W c1)) (hb : PSs X body (tZS G W ro mb)) : PS X (.While c body [] pos) (tZS G W ro (whileF c1 mb n)) := PS.imp (ps_while hp hc hb) fun D σ H h => by
  obtain ⟨z, ow, F, s, run⟩ := h
  refine ⟨fun m σ2 H2 => ∃ z2 ow2 F2, SRep G H2 F2 σ2 z2 ow2 ∧ RunS G W ro σ2 H2 F2 ow2 (whileF c1 mb m z2) D, ⟨n, z, ow, F, s, run⟩, fun m σ2 H2 hw => ?_⟩
  obtain ⟨z2, ow2, F2, s2, run2⟩ := hw
  cases m with
  | zero => exact run2.elim
  | succ m =>
    unfold whileF at run2
    refine ⟨z2, ow2, F2, s2, RunS.first s2 run2 fun t z3 v3 H3 F3 ow3 f3 _ st3 s3 r3 d3 run3 => ?_⟩
    obtain ⟨rfl, rfl⟩ := r3
    have st3 : Stp H2 F2 (Own ow2) H3 F3 (Own ow3) := st3.weak fun x h => .inl h
    cases v3 with
    | false =>
      simp only [Bool.false_eq_true, if_false] at run3 ⊢
      exact run3 σ2 H3 F3 ow3 st3 s3 Kp.refl
    | true =>
      simp only [if_true] at run3 ⊢
      refine ⟨fun σ' H' => ∃ z2 ow2 F2, SRep G H' F2 σ' z2 ow2 ∧ RunS G W ro σ' H' F2 ow2 (whileF c1 mb m z2) D, fun σ' H' hN => ⟨m, Nat.lt_succ_self m, hN⟩, z3, ow3, F3, s3, ?_⟩
      cases e : mb z3 with
      | nxt z4 => simp only [e] at run3; exact fun σ4 H4 F4 ow4 st4 s4 k4 => ⟨z4, ow4, F4, s4, run3.shift (st3.trans st4) k4⟩
      | cnt z4 => simp only [e] at run3; exact fun σ4 H4 F4 ow4 st4 s4 k4 => ⟨z4, ow4, F4, s4, run3.shift (st3.trans st4) k4⟩
      | brk z4 => simp only [e] at run3; exact fun σ4 H4 F4 ow4 st4 s4 k4 => run3 σ4 H4 F4 ow4 (st3.trans st4) s4 k4
      | ret o z4 => simp only [e] at run3; exact fun v σ4 H4 F4 ow4 f st4 s4 r4 d4 k4 => run3 v σ4 H4 F4 ow4 f (st3.trans st4) s4 r4 d4 k4
      | exc c fs z4 => simp only [e] at run3; exact fun d σ4 H4 F4 ow4 fvs st4 s4 e4 r4 k4 => run3 d σ4 H4 F4 ow4 fvs (st3.trans st4) s4 e4 r4 k4
      | bad => simp only [e] at run3; exact run3
end

/-! ### for -/
def forF (tgt : D → Zs → Option Zs) (b : Zs → S) : List D → Zs → S
  | [], z => .nxt z
  | d :: ds, z => match tgt d z with
    | none => .bad
    | some z1 => match b z1 with
      | .nxt z2 => forF tgt b ds z2
      | .cnt z2 => forF tgt b ds z2
      | .brk z2 => .nxt z2
      | r => r
/-- what was lent to the loop goes back -/
@[simp] def backZ (rs : Option (Nat × O)) (z : Zs) : Zs := match rs with
  | none => z
  | some (i, o) => z.set i (some o)
@[simp] def S.back (rs : Option (Nat × O)) : S → S
  | .nxt z => .nxt (backZ rs z)
  | .ret o z => .ret o (backZ rs z)
  | .exc c fs z => .exc c fs (backZ rs z)
  | .brk z => .brk (backZ rs z)
  | .cnt z => .cnt (backZ rs z)
  | .bad => .bad
@[simp] def roL (ro : Ro) (l : Option Nat) : Ro := match l with
  | none => ro
  | some i => fun j => ro j || (j == i)
def exFor (tgt : D → Zs → Option Zs) (mi : Zs → R (List D × Option (Nat × O))) (b : Zs → S) : Zs → S := fun z => (mi z).bindS fun p z1 => (forF tgt b p.1 z1).back p.2
/-- J walks ds, while what is shared and what stands at f stays -/
def Yields (G : Gx) (H : Hp) (F : Fz) (f : List Addr) (J : It) (ds : List D) : Prop :=
  ∀ H' F', Lat H F H' F' → FT H' F' → (∀ a ∈ f, ∀ o, H a = some o → H' a = some o) → ∀ i,
    (∀ d, ds[i]? = some d → J.go i H' ∧ ∀ x H'', J.yld i H' x H'' → ∃ F'', Stp H' F' (fun _ => False) H'' F'' (fun x => x ∈ ([] : List Addr)) ∧ RepD G H'' F'' x d) ∧ (ds.length ≤ i → J.stop i H')
/-- what was lent -/
def Lent (G : Gx) (H : Hp) (F : Fz) (σ : L2.St) (f : List Addr) (rs : Option (Nat × O)) : Prop := ∀ i o, rs = some (i, o) → ∃ v, σ[i]? = some (some v) ∧ RepO G H F v o f
def relI (G : Gx) (l : Option Nat) (σ : L2.St) : Rel (List D × Option (Nat × O)) It := fun H F J p f => Yields G H F f J p.1 ∧ Lent G H F σ f p.2 ∧ ∀ i o, p.2 = some (i, o) → l = some i
def iZ (G : Gx) (W : WX) (l : Option Nat) (m : Zs → R (List D × Option (Nat × O))) : TI := tG G W (relI G l) m
theorem PI.imp {X : Cx} {tg e : Expr} {t t' : TI} (h : PI X tg e t) (k : ∀ σ H Q, t' σ H Q → t σ H Q) : PI X tg e t' := ⟨fun pins s σ H Q I q => h.run pins s σ H Q I (k σ H Q q)⟩
section
variable {G : Gx} {W : WX} {ro : Ro} {X : Cx} {pos : Pos} {tg iter : Expr} {body : List Stmt} {mb : Zs → S} {tgt : D → Zs → Option Zs} {mi : Zs → R (List D × Option (Nat × O))} {l : Option Nat}
theorem back_rep {H : Hp} {F : Fz} {σ : L2.St} {z : Zs} {ow : Ows} {f : List Addr} {rs : Option (Nat × O)} (s : SRep G H F σ z ow) (hf : ∀ a ∈ f, ¬ Own ow a) (nf : ∀ a ∈ f, ¬ F a)
    (hr : Lent G H F σ f rs) : ∃ ow', SRep G H F σ (backZ rs z) ow' ∧ ∀ a, Own ow' a → Own ow a ∨ a ∈ f := by
  cases rs with
  | none => exact ⟨ow, s, fun a h => .inl h⟩
  | some p =>
    obtain ⟨i, o⟩ := p
    obtain ⟨v, ei, r⟩ := hr i o rfl
    refine ⟨ow1 ow i f, s.give ei r (fun a h q => hf a h (own_ow0 q)) nf, fun a h => ?_⟩
    rcases own_ow1 h with h | h
    · exact .inl (own_ow0 h)
    · exact .inr h
theorem kp_ro {a b : L2.St} (h : Kp (roL ro l) a b) : Kp ro a b := fun i e => h i (by
  unfold roL; cases l with
  | none => exact e
  | some j => simp [e])
theorem kp_l {a b : L2.St} {i : Nat} (h : Kp (roL ro l) a b) (e : l = some i) : b[i]? = a[i]? := h i (by subst e; simp [roL])
theorem zs_for (hp : PassesOwn (model X.prog X.w) X.A X.env X.xe) (hc : X.calm = true) (hi : PI X tg iter (iZ G W l mi)) (hg : PG X tg (gZ G (roL ro l) tgt)) (hb : PSs X body (tZS G W (roL ro l) mb)) (hs : ∀ x, foldedSetIterable iter X.env x = pure x) :
    PS X (.For tg iter body [] pos) (tZS G W ro (exFor tgt mi mb)) := PS.imp (ps_for hp hc hi hg hb hs) fun D σ H h => by
  obtain ⟨z, ow, F, s, run⟩ := h
  refine ⟨z, ow, F, s, RunS.first s run fun p z1 J H1 F1 ow1 f _ st1 s1 r1 d1 run1 => ?_⟩
  obtain ⟨ds, rs⟩ := p
  obtain ⟨yl, hrs, hl⟩ := r1
  simp only at yl hrs hl run1
  -- the way back, from any later state
  have fin : ∀ (σ4 : L2.St) (H4 : Hp) (F4 : Fz) (ow4 : Ows) (z4 : Zs) (g : List Addr), SRep G H4 F4 σ4 z4 ow4 → Stp H1 F1 (Own ow1) H4 F4 (fun x => Own ow4 x ∨ x ∈ g) → Kp (roL ro l) σ σ4 → (∀ x ∈ g, ¬ Own ow4 x) →
      ∃ ow5, SRep G H4 F4 σ4 (backZ rs z4) ow5 ∧ Stp H F (Own ow) H4 F4 (fun x => Own ow5 x ∨ x ∈ g) ∧ ∀ x ∈ g, ¬ Own ow5 x := by
    intro σ4 H4 F4 ow4 z4 g s4 st4 k4 d4
    obtain ⟨c1, c2⟩ := st1.frame d1 st4
    have hr : Lent G H4 F4 σ4 f rs := fun i o e => by
      obtain ⟨v, ei, r⟩ := hrs i o e
      exact ⟨v, by rw [kp_l k4 (hl i o e)]; exact ei, r.stp st4 d1⟩
    obtain ⟨ow5, s5, o5⟩ := back_rep s4 (f := f) (fun a h q => c2 a h (.inl q)) (fun a h => c1.nf a (.inr h)) hr
    refine ⟨ow5, s5, c1.weak fun x h => ?_, fun x h q => ?_⟩
    · rcases h with h | h
      · rcases o5 x h with h | h
        · exact .inl (.inl h)
        · exact .inr h
      · exact .inl (.inr h)
    · rcases o5 x q with q | q
      · exact d4 x h q
      · exact c2 x q (.inr h)
  have fin0 : ∀ (σ4 : L2.St) (H4 : Hp) (F4 : Fz) (ow4 : Ows) (z4 : Zs), SRep G H4 F4 σ4 z4 ow4 → Stp H1 F1 (Own ow1) H4 F4 (Own ow4) → Kp (roL ro l) σ σ4 → ∃ ow5, SRep G H4 F4 σ4 (backZ rs z4) ow5 ∧ Stp H F (Own ow) H4 F4 (Own ow5) := by
    intro σ4 H4 F4 ow4 z4 s4 st4 k4
    obtain ⟨ow5, a, b, _⟩ := fin σ4 H4 F4 ow4 z4 [] s4 (st4.weak fun x h => h.elim id fun h => by cases h) k4 (fun x h => by cases h)
    exact ⟨ow5, a, b.weak fun x h => .inl h⟩
  refine ⟨fun i m σ2 H2 => ∃ z2 ow2 F2, SRep G H2 F2 σ2 z2 ow2 ∧ Stp H1 F1 (Own ow1) H2 F2 (Own ow2) ∧ Kp (roL ro l) σ σ2 ∧ i + m = ds.length ∧ RunS G W ro σ H F ow ((forF tgt mb (ds.drop i) z2).back rs) D,
    ⟨ds.length, z1, ow1, F1, s1, s1.refl, Kp.refl, Nat.zero_add _, by rw [List.drop_zero]; exact run1⟩, fun i m σ2 H2 hw => ?_⟩
  obtain ⟨z2, ow2, F2, s2, st2, k2, him, run2⟩ := hw
  obtain ⟨y1, y2⟩ := yl H2 F2 st2.lat s2.ft (fun a ha o e => st2.stay a o (d1 a ha) e) i
  by_cases hi : i < ds.length
  · have ed : ds[i]? = some ds[i] := List.getElem?_eq_getElem hi
    obtain ⟨go, yy⟩ := y1 _ ed
    refine .inr ⟨go, fun σ' H' => ∃ z2 ow2 F2, SRep G H' F2 σ' z2 ow2 ∧ Stp H1 F1 (Own ow1) H' F2 (Own ow2) ∧ Kp (roL ro l) σ σ' ∧ i + 1 + (m - 1) = ds.length ∧ RunS G W ro σ H F ow ((forF tgt mb (ds.drop (i + 1)) z2).back rs) D, fun σ' H' hN => ⟨m - 1, by omega, hN⟩, fun x H' hy => ?_⟩
    obtain ⟨F', sA, rd⟩ := yy x H' hy
    have s2' : SRep G H' F' σ2 z2 ow2 := s2.stp sA fun _ _ h => h
    rw [List.drop_eq_getElem_cons hi] at run2
    unfold forF at run2
    cases e1 : tgt ds[i] z2 with
    | none => rw [e1] at run2; exact run2.elim
    | some z3 =>
      rw [e1] at run2
      refine ⟨F', z2, ow2, _, z3, s2', rd, e1, fun σ3 ow3 s3 o3 k3 => ⟨z3, ow3, F', s3, ?_⟩⟩
      have st3 : Stp H1 F1 (Own ow1) H' F' (Own ow3) := (st2.alloc sA).1.weak fun x h => .inr (o3 x h)
      have kk : Kp (roL ro l) σ σ3 := k2.trans k3
      cases e : mb z3 with
      | nxt z4 => simp only [e] at run2; exact fun σ4 H4 F4 ow4 st4 s4 k4 => ⟨z4, ow4, F4, s4, st3.trans st4, kk.trans k4, by omega, run2⟩
      | cnt z4 => simp only [e] at run2; exact fun σ4 H4 F4 ow4 st4 s4 k4 => ⟨z4, ow4, F4, s4, st3.trans st4, kk.trans k4, by omega, run2⟩
      | brk z4 =>
        simp only [e] at run2
        intro σ4 H4 F4 ow4 st4 s4 k4
        obtain ⟨ow5, s5, st5⟩ := fin0 σ4 H4 F4 ow4 z4 s4 (st3.trans st4) (kk.trans k4)
        exact run2 σ4 H4 F4 ow5 st5 s5 (kp_ro (kk.trans k4))
      | ret o z4 =>
        simp only [e] at run2
        intro v σ4 H4 F4 ow4 g st4 s4 r4 d4 k4
        obtain ⟨ow5, s5, st5, d5⟩ := fin σ4 H4 F4 ow4 z4 g s4 (st3.trans st4) (kk.trans k4) d4
        exact run2 v σ4 H4 F4 ow5 g st5 s5 r4 d5 (kp_ro (kk.trans k4))
      | exc c fs z4 =>
        simp only [e] at run2
        intro d σ4 H4 F4 ow4 fvs st4 s4 e4 r4 k4
        obtain ⟨ow5, s5, st5⟩ := fin0 σ4 H4 F4 ow4 z4 s4 (st3.trans st4) (kk.trans k4)
        exact run2 d σ4 H4 F4 ow5 fvs st5 s5 e4 r4 (kp_ro (kk.trans k4))
      | bad => simp only [e] at run2; exact run2
  · have h0 : ds.length ≤ i := by omega
    rw [List.drop_eq_nil_of_le h0] at run2
    refine .inl ⟨y2 h0, ?_⟩
    obtain ⟨ow5, s5, st5⟩ := fin0 σ2 H2 F2 ow2 z2 s2 st2 k2
    exact run2 σ2 H2 F2 ow5 st5 s5 (kp_ro k2)
end
end Z
end

section
set_option maxRecDepth 100007
/-! enumerate over a tuple. -/
namespace Z
open PySem L2 PyProof.Rows
theorem new_enumT (l : Addr) (items : Array Value) (n : Nat) (dct : Option Addr) (sl : Array (Option Value)) :
    Meets (Builtin.«enumerate.__new__» ⟨[.type "enumerate", .ref l], []⟩) (fun _ R s => s.heap.get? l = some { cls := .type "tuple", dict := dct, data := .seq items n, slots := sl } ∧
      R (.ok (.ret (.ref (s.heap.push { cls := .type "tuple_iterator", data := .fields #[.ref l, .int 0 0] }).objs.size)))
        { s with heap := (s.heap.push { cls := .type "tuple_iterator", data := .fields #[.ref l, .int 0 0] }).push { cls := .type "enumerate", data := .fields #[.none, .bool false, .ref s.heap.objs.size, rawInt 0, .none, .none] } }) :=
  .of_wp fun prog w A R s hh => by
    obtain ⟨hp, g, d, tk, os⟩ := s
    obtain ⟨hl, hh⟩ := hh
    have hsub := sub_enumerate
    have hT : Heap.IsTuple (Shared.heap ⟨hp, g, d, tk, os⟩) l items := ⟨_, hl, rfl, n, rfl⟩
    wp_walk using AutoSeq1.wpAny_loadPart' hl
    refine wpAny_stack_any fun st => wpAny_pure ?_
    split
    · rename_i c _ _ _ _ _
      cases (c == Value.type "enumerate")
      · wp_walk using AutoSeq1.wpAny_loadPart' hl, wpAny_pyIter_tuple hT
        exact ⟨_, rfl, hh⟩
      · wp_walk using AutoSeq1.wpAny_loadPart' hl, wpAny_pyIter_tuple hT
        exact ⟨_, rfl, hh⟩
    · wp_walk using AutoSeq1.wpAny_loadPart' hl, wpAny_pyIter_tuple hT
      exact ⟨_, rfl, hh⟩
theorem call_enumT {prog : Program} {w : World} {A : Around} {E : Value → Shared → Prop} {s : Shared} {l : Addr} {items : Array Value} {Q : Value → Shared → Prop} (hL : s.heap.IsTuple l items)
    (h : ∀ h', IsEnum h' (s.heap.objs.size + 1) s.heap.objs.size 0 .none → h'.IsTupleIter s.heap.objs.size l 0 → (∀ b o, s.heap.get? b = some o → h'.get? b = some o) → Q (.ref (s.heap.objs.size + 1)) { s with heap := h' }) : wpAny (model prog w) A (call (.type "enumerate") [.ref l]) Q E s := by
  obtain ⟨⟨c, dct, dt, sl⟩, hl, hc, n, hd⟩ := hL
  obtain rfl : c = .type "tuple" := hc
  obtain rfl : dt = .seq items n := hd
  refine callType_new F.called_enumerate (by decide) (F.typeCall_enumerate_1 _) (F.newCall_enumerate_1 _) (fun obj => F.args_object_init_2 obj _) F.entry_enumerate_new (new_enumT l items n dct sl) ⟨hl, ?_⟩
  have hz : (s.heap.push { cls := .type "tuple_iterator", data := .fields #[.ref l, .int 0 0] }).objs.size = s.heap.objs.size + 1 := Heap.size_push ..
  show _ ∧ _
  rw [hz]
  have he : IsEnum ((s.heap.push { cls := .type "tuple_iterator", data := .fields #[.ref l, .int 0 0] }).push { cls := .type "enumerate", data := .fields #[.none, .bool false, .ref s.heap.objs.size, rawInt 0, .none, .none] }) (s.heap.objs.size + 1) s.heap.objs.size 0 .none := by
    rw [← hz]
    exact Heap.get?_push_size _ rfl
  exact ⟨⟨_, he, rfl⟩, h _ he ⟨_, Heap.get?_push_of_some _ (Heap.get?_push_size _ rfl), rfl, rfl⟩ fun b o x => Heap.get?_push_of_some _ (Heap.get?_push_of_some _ x)⟩
/-- the tuple at a, each item in a new pair -/
def IteT (K : PySem.W.Frag) (a : Addr) : It :=
  ⟨fun i H => ∃ (xs : List V) (x : V), SqT K H a xs ∧ xs[i]? = some x, fun i H v H' => ∃ T x, v = .ref T ∧ H T = none ∧ H' = upd H T (.tup [.int (i : Nat), x]) ∧ ∀ xs, SqT K H a xs → xs[i]? = some x, fun i H => ∃ xs : List V, SqT K H a xs ∧ xs.length ≤ i⟩
theorem isEnum_ne {h : Heap} {e it a : Addr} {i : Int} {old : Value} {items : Array Value} (he : IsEnum h e it i old) (ht : h.IsTuple a items) : e ≠ a := fun q => by
  obtain ⟨o, ho, hc, _⟩ := ht
  subst q
  have := he.symm.trans ho
  cases this
  have hc : Value.type "enumerate" = Value.type "tuple" := hc
  exact absurd hc (by decide)
theorem turn_enumT {P : Program} {w : World} {K : PySem.W.Frag} {elts : List Expr} {kk : Nat} {tpos : Pos} (a e it : Addr) (hai : a ≠ it) :
    Turn P w K (.Tuple elts kk tpos) (IteT K a) [e, it] e (fun i h => (∃ old, IsEnum h e it ((i : Nat) : Int) old) ∧ h.IsTupleIter it a i ∧ e ≠ it) where
  mem := by simp
  obj := fun i h st b hb => by
    obtain ⟨⟨old, he⟩, ⟨o, ho, hc, hd⟩, _⟩ := st
    rcases (show b = e ∨ b = it by simpa using hb) with q | q
    · subst q; exact ⟨_, he, fun v z => nomatch z⟩
    · subst q; exact ⟨o, ho, fun v z => by rw [hd] at z; cases z⟩
  keep := fun i h h' st k => ⟨st.1.elim fun old he => ⟨old, k e (by simp) _ he⟩, st.2.1.at fun o q => k it (by simp) o q, st.2.2⟩
  item := by
    intro X hP hw hK hc i pins s σ H E I hf st hg
    subst hP hw hK
    obtain ⟨⟨old, he⟩, hit, hne⟩ := st
    obtain ⟨xs, x, hq, hx⟩ := hg
    obtain ⟨its, rv, p, hz⟩ := I.tuple hq
    have hT : s.heap.IsTuple a its.toArray := p
    have hii : i < its.toArray.size := by
      rw [List.size_toArray, ← rv.length]
      exact (List.getElem?_eq_some_iff.mp hx).1
    have hel : e < s.heap.objs.size := Heap.lt_size he
    have hil : it < s.heap.objs.size := by
      obtain ⟨_, q, _⟩ := hit
      exact Heap.lt_size q
    have hea := isEnum_ne he hT
    refine wpAny_pyNext_enum_itemD (Draws.tuple (show X.A.in1.handled = none from I.ok.hd hc) it a hai its.toArray) he ⟨hit, hT⟩ hii hne (by simp [hne, hea]) fun y h' tk hy ho hst hTn hsz hk => ?_
    refine ⟨_, rfl, wpAny_letOwnedTupleGo_enum (s := { s with heap := h', toks := tk + 1 }) ho fun h'' he' sb => ?_⟩
    obtain ⟨u, hu, ru⟩ := rv.get hx
    have hyu : y = u := by
      have : its[i]? = some y := by simpa using hy
      rw [hu] at this
      exact (Option.some.inj this).symm
    subst hyu
    have hT2 : h''.get? s.heap.objs.size = some { cls := .type "tuple", data := .seq #[.int i tk, y] } := (sb.2 _ (Nat.ne_of_gt hel)).trans hTn
    have new : ObjOk X.prog X.w (upd H s.heap.objs.size (.tup [.int (i : Nat), x])) h'' s.heap.objs.size (.tup [.int (i : Nat), x]) :=
      ⟨by show 2 ≤ sizeLine; decide, [.int i tk, y], .cons ⟨_, rfl⟩ (.cons ru .nil), ⟨_, hT2, rfl, _, rfl⟩⟩
    have I1 : Inv X pins σ (upd H s.heap.objs.size (.tup [.int (i : Nat), x])) { s with heap := h'', toks := tk + 1 } :=
      I.turnedNew (ch := [e, it]) (fun b ob hb q => (sb.2 b (fun z => hb (by simp [z]))).trans (hk b ob (fun z => hb (by simp [z])) (fun z => hb (by simp [z])) q)) hf (Nat.le_refl _) new
    refine ⟨.ref s.heap.objs.size, _, I1, rfl, ⟨_, x, rfl, I.hok.fresh (Nat.le_refl _), rfl, fun ys hy => by rw [I.tuple_inj hy hq]; exact hx⟩, ⟨⟨y, ?_⟩, hst.1.at fun o q => (sb.2 it (Ne.symm hne)).trans q, hne⟩, fun b hb => ?_⟩
    · rw [show ((i + 1 : Nat) : Int) = (i : Int) + 1 by omega]
      exact he'
    · have hb' : b < s.heap.objs.size := by
        rcases (show b = e ∨ b = it by simpa using hb) with q | q
        · rw [q]; exact hel
        · rw [q]; exact hil
      rw [upd_ne (Nat.ne_of_lt hb')]
      exact (hf b hb).1
  done := by
    intro X hP hw hK hc i pins s σ H E I hf st hg
    subst hP hw hK
    obtain ⟨⟨old, he⟩, hit, hne⟩ := st
    obtain ⟨xs, hq, hx⟩ := hg
    obtain ⟨its, rv, p, hz⟩ := I.tuple hq
    obtain ⟨f0, f1, f2, f3, f4, f5⟩ := hf it (by simp)
    have hl := rv.length
    have hT : wpAny (model X.prog X.w) X.A (pyNext (.ref e)) (fun r s1 => r = none ∧ Inv X pins σ H s1) E s := by
      have hTy : s.TypeIs (.ref e) "enumerate" := ⟨_, he, rfl⟩
      unfold pyNext
      refine wpAny_bind (wpAny_attempt (wpAny_callSpecial?_slot (name := Str.ofString "__next__") hTy F.slot_enumerate_next (wpAny_call_entry F.slot_enumerate_next hTy F.entry_enumerate_next ?_ (F.args_enumerate_next_1 _))))
      show wpAny _ _ (field (.ref e) 2 >>= _) _ _ _
      refine wpAny_bind (wpAny_field he rfl (x := .ref it) rfl ?_)
      refine wpAny_bind (wpAny_nextOf_tuple_end (show X.A.in1.handled = none from I.ok.hd hc) hit (show s.heap.IsTuple a its.toArray from p) (by simp; omega) fun h' x eb hx' => ?_)
      obtain ⟨o, ho, hcc⟩ := hx'
      refine wpAny_bind (wpAny_isInstance (T := "StopIteration") (b := true) ⟨o, ho, hcc⟩ isSubtype_stop ?_)
      exact wpAny_pure ⟨rfl, I.turned (t' := s.toks) (fun b o hb q => eb b o hb q) f0 f1 f3 f4 f5⟩
    exact hT
  self := fun A i s Q E st h => wpAny_pyIter_enum st.1.choose_spec h
section
variable {X : Cx} {pins : List (Addr × Obj)} {σ : L2.St} {s1 : Shared} {H1 : Hp} {R : It → Hp → Prop} {a : Addr} {xs : List V} {u : Value} {kk : Nat} {tpos : Pos} {elts : List Expr}
theorem enum_t (I1 : Inv X pins σ H1 s1) (r1 : Vals [.ref a] [u]) (hq : SqT X.K H1 a xs) (q : R (IteT X.K a) H1) : wpAny (model X.prog X.w) X.A (call (.type "enumerate") [u]) (fun v s2 => wpAny (model X.prog X.w) X.A (pyIter v) (PIE X pins σ (.Tuple elts kk tpos) R) X.xe s2) X.xe s1 := by
  cases r1 with | cons ru _ =>
  cases (show u = Value.ref a from ru)
  obtain ⟨its, rv, p', hz⟩ := I1.tuple hq
  have hT : s1.heap.IsTuple a its.toArray := p'
  have hal : a < s1.heap.objs.size := by
    obtain ⟨_, q, _⟩ := hT
    exact Heap.lt_size q
  refine call_enumT hT fun h' he hit hk => wpAny_pyIter_enum he ?_
  have I2 : Inv X pins σ H1 { s1 with heap := h' } := I1.kept (t' := s1.toks) hk
  refine ⟨s1.heap.objs.size + 1, [s1.heap.objs.size + 1, s1.heap.objs.size], _, _, H1, rfl, I2, turn_enumT a (s1.heap.objs.size + 1) s1.heap.objs.size (Nat.ne_of_lt hal), ⟨⟨.none, he⟩, hit, Nat.succ_ne_self _⟩, fun b hb => ?_, q⟩
  have hle : s1.heap.objs.size ≤ b := by
    rcases (show b = s1.heap.objs.size + 1 ∨ b = s1.heap.objs.size by simpa using hb) with q | q
    · rw [q]; exact Nat.le_succ _
    · rw [q]; exact Nat.le_refl _
  exact I1.fpOk hle (I1.hok.fresh hle)
theorem enum_l (I1 : Inv X pins σ H1 s1) (r1 : Vals [.ref a] [u]) (hq : SqL X.K H1 a xs) (q : R (Ite X.K a) H1) : wpAny (model X.prog X.w) X.A (call (.type "enumerate") [u]) (fun v s2 => wpAny (model X.prog X.w) X.A (pyIter v) (PIE X pins σ (.Tuple elts kk tpos) R) X.xe s2) X.xe s1 := by
  cases r1 with | cons ru _ =>
  cases (show u = Value.ref a from ru)
  obtain ⟨its, rv, p', hz⟩ := I1.list hq
  refine call_enumerate_list p'.isList fun h' he hit hsz hk => wpAny_pyIter_enum he ?_
  have I2 : Inv X pins σ H1 { s1 with heap := h' } := I1.kept (t' := s1.toks) hk
  refine ⟨s1.heap.objs.size + 1, [s1.heap.objs.size + 1, s1.heap.objs.size], _, _, H1, rfl, I2, turn_enum a (s1.heap.objs.size + 1) s1.heap.objs.size, ⟨⟨.none, he⟩, hit, Nat.succ_ne_self _⟩, fun b hb => ?_, q⟩
  have hle : s1.heap.objs.size ≤ b := by
    rcases (show b = s1.heap.objs.size + 1 ∨ b = s1.heap.objs.size by simpa using hb) with q | q
    · rw [q]; exact Nat.le_succ _
    · rw [q]; exact Nat.le_refl _
  exact I1.fpOk hle (I1.hok.fresh hle)
end
end Z
end

section
set_option maxRecDepth 100007
/-! What a loop walks. -/
namespace Z
open PySem L2 PyProof.Rows
theorem PI.or {X : Cx} {tg e : Expr} {t u : TI} (h : PI X tg e t) (k : PI X tg e u) : PI X tg e (fun σ H R => t σ H R ∨ u σ H R) := ⟨fun pins s σ H Q I q => q.elim (h.run pins s σ H Q I) (k.run pins s σ H Q I)⟩
/-- the items of what is walked -/
@[simp] def itemsD : D → Option (List D)
  | .lst ds => some ds
  | .tup ds => some ds
  | .scr ns => some (ns.map .int)
  | .str x => some (x.map fun c => .str [c])
  | _ => none
abbrev MI := Zs → R (List D × Option (Nat × O))
/-- claimed for a loop: lent (l), or taken -/
@[simp] def clm (l : Option Nat) (h : Hd) (z : Zs) : Option (O × Option (Nat × O) × Zs) := match l with
  | none => match take h z with
    | some (o, z') => some (o, none, z')
    | none => none
  | some i => match h with
    | .slot j => if j = i then (match rd z i with
      | some o => some (o, some (i, o), z.set i none)
      | none => none) else none
    | .tmp _ => none
@[simp] def evSeq (l : Option Nat) (m : Zs → R Hd) : MI := fun z => (m z).bind fun h z1 => match clm l h z1 with
  | some (o, rs, z2) => match itemsD o.pk with
    | some ds => .ok (ds, rs) z2
    | none => .bad
  | none => .bad
@[simp] def evEnum (l : Option Nat) (m : Zs → R Hd) : MI := fun z => (m z).bind fun h z1 => match clm l h z1 with
  | some (o, rs, z2) => match o.pk with
    | .lst ds => .ok (ds.zipIdx.map fun p => .tup [.int p.2, p.1], rs) z2
    | .scr ns => .ok (ns.zipIdx.map fun p => .tup [.int p.2, .int p.1], rs) z2
    | .tup ds => .ok (ds.zipIdx.map fun p => .tup [.int p.2, p.1], rs) z2
    | _ => .bad
  | none => .bad
def rgOk (i : Int) : Prop := -(2 ^ 62) ≤ i ∧ i < 2 ^ 62
instance (i : Int) : Decidable (rgOk i) := inferInstanceAs (Decidable (_ ∧ _))
def upTo (i : Int) (n : Nat) : List D := (List.range n).map fun (k : Nat) => D.int (i + (k : Int))
def rgItems : List D → Option (List D)
  | [.int j] => if rgOk j then some (upTo 0 j.toNat) else none
  | [.int i, .int j] => if rgOk i ∧ rgOk j then some (upTo i (j - i).toNat) else none
  | [.int i, .int j, .int c] => if c = -1 then (if rgOk i ∧ rgOk j then some ((List.range (i - j).toNat).map fun (k : Nat) => D.int (i - (k : Int))) else none) else
      if c ≠ 0 ∧ c.natAbs < 1073741824 ∧ Builtin.Range.small i j c = true ∧ 0 ≤ Builtin.Range.rangeSize i j c then some ((List.range (Builtin.Range.rangeSize i j c).toNat).map fun (k : Nat) => D.int (i + (k : Int) * c)) else none
  | _ => none
@[simp] def evRng (mA : Zs → R (List Hd)) : MI := fun z => (mA z).bind fun hs z1 => match peeks hs z1 with
  | some ds => match rgItems ds with
    | some xs => .ok (xs, none) z1
    | none => .bad
  | none => .bad
section
variable {G : Gx} {W : WX} {X : Cx} {tg e : Expr} {pos : Pos} {m1 : Zs → R Hd} {mA : Zs → R (List Hd)} {l : Option Nat} {σ : L2.St} {H H1 : Hp} {F F1 : Fz} {ow ow1 : Ows} {f : List Addr} {v : V} {h : Hd} {o : O} {z z' : Zs} {rs : Option (Nat × O)}
/-- what is claimed stands apart from what the slots own -/
theorem clm_ok (r : HRep G H1 F1 σ v h f) (s : SRep G H1 F1 σ z ow1) (st : Stp H F (Own ow) H1 F1 (fun x => Own ow1 x ∨ x ∈ f)) (d : ∀ x ∈ f, ¬ Own ow1 x) (e : clm l h z = some (o, rs, z')) :
    ∃ F2 ow2 f2, SRep G H1 F2 σ z' ow2 ∧ RepO G H1 F2 v o f2 ∧ Stp H F (Own ow) H1 F2 (fun x => Own ow2 x ∨ x ∈ f2) ∧ (∀ x ∈ f2, ¬ Own ow2 x) ∧ Lent G H1 F2 σ f2 rs ∧ ∀ i o, rs = some (i, o) → l = some i := by
  unfold clm at e
  cases l with
  | none =>
    simp only at e
    cases e1 : take h z with
    | none => rw [e1] at e; cases e
    | some p =>
      obtain ⟨o', z2⟩ := p
      rw [e1] at e
      cases e
      obtain ⟨F2, ow2, f2, s2, r2, st2, d2⟩ := HRep.take r s d (fun a h => st.nf a (.inr h)) (fun a h => st.tr a (.inr h)) e1
      exact ⟨F2, ow2, f2, s2, r2, st.trans st2, d2, (fun i o e => by cases e), fun i o e => by cases e⟩
  | some i =>
    cases h with
    | tmp _ => cases e
    | slot j =>
      simp only at e
      split at e
      · rename_i hj
        subst hj
        obtain ⟨rfl, ej⟩ := r
        cases e1 : rd z j with
        | none => rw [e1] at e; cases e
        | some o' =>
          rw [e1] at e
          cases e
          obtain ⟨v', e2, r'⟩ := s.rep j _ e1
          rw [ej] at e2
          cases e2
          refine ⟨F1, ow0 ow1 j, ow1 j, s.lend j, r', st.weak fun x h => ?_, ow0_dj s, fun i o e => ?_, fun i o e => ?_⟩
          · rcases h with h | h
            · exact .inl (own_ow0 h)
            · exact .inl ⟨j, h⟩
          · cases e
            exact ⟨v, ej, r'⟩
          · cases e
            rfl
      · cases e
theorem stp0 {H : Hp} {F : Fz} (ft : FT H F) : Stp H F (fun _ => False) H F (fun x => x ∈ ([] : List Addr)) :=
  ⟨Lat.refl, fun a o e => ⟨o, e⟩, fun _ _ _ e => e, fun _ h => .inl h, fun _ h => (by cases h), fun _ h => (by cases h), fun _ h => (by cases h), ft⟩
theorem yl_list {a : Addr} {ds : List D} (hs : ∀ H' F', Lat H F H' F' → (∀ a ∈ f, ∀ o, H a = some o → H' a = some o) → ∃ vs, SqL G.K H' a vs ∧ RepDs G H' F' vs ds) : Yields G H F f (Itl G.K a) ds := by
  intro H' F' lt ft hf i
  obtain ⟨vs, hq, rs⟩ := hs H' F' lt hf
  refine ⟨fun d e => ?_, fun hi => ⟨vs, hq, by rw [rs.length]; exact hi⟩⟩
  obtain ⟨w, ew, rw'⟩ := rs.get e
  refine ⟨⟨vs, w, hq, ew⟩, fun x H'' hy => ?_⟩
  obtain ⟨rfl, hx⟩ := hy
  have := hx vs hq
  rw [ew] at this
  cases this
  exact ⟨F', stp0 ft, rw'⟩
theorem yl_tup {a : Addr} {ds : List D} (hs : ∀ H' F', Lat H F H' F' → ∃ vs, SqT G.K H' a vs ∧ RepDs G H' F' vs ds) : Yields G H F f (Itt G.K a) ds := by
  intro H' F' lt ft hf i
  obtain ⟨vs, hq, rs⟩ := hs H' F' lt
  refine ⟨fun d e => ?_, fun hi => ⟨vs, hq, by rw [rs.length]; exact hi⟩⟩
  obtain ⟨w, ew, rw'⟩ := rs.get e
  refine ⟨⟨vs, w, hq, ew⟩, fun x H'' hy => ?_⟩
  obtain ⟨rfl, hx⟩ := hy
  have := hx vs hq
  rw [ew] at this
  cases this
  exact ⟨F', stp0 ft, rw'⟩
theorem yl_str {x : List Nat} (ht : txtOk x = true) : Yields G H F f (Its ⟨x.toArray⟩) (x.map fun c => .str [c]) := by
  intro H' F' lt ft hf i
  refine ⟨fun d e => ?_, fun hi => ?_⟩
  · rw [List.getElem?_map] at e
    cases ec : x[i]? with
    | none => rw [ec] at e; cases e
    | some c =>
      rw [ec] at e
      cases e
      refine ⟨by show i < x.toArray.size; rw [List.size_toArray]; exact (List.getElem?_eq_some_iff.mp ec).1, fun w H'' hy => ?_⟩
      obtain ⟨rfl, c', e2, rfl⟩ := hy
      have e3 : x[i]? = some c' := by simpa using e2
      rw [ec] at e3
      cases e3
      refine ⟨F', stp0 ft, .str ?_⟩
      unfold txtOk at *
      simpa using List.all_eq_true.mp ht c (List.mem_of_getElem? ec)
  · show x.toArray.size ≤ i
    rw [List.length_map] at hi
    rw [List.size_toArray]; exact hi
theorem scr_stay {a : Addr} {ns : List Int} (h : (F a ∧ Rd H a (.lst (ns.map V.int))) ∨ KLst G.K a (ns.map V.int)) {H' : Hp} {F' : Fz} (lt : Lat H F H' F') : SqL G.K H' a (ns.map V.int) := by
  rcases h with ⟨fa, h | ⟨o, h⟩⟩ | h
  · exact .inl (.inl (lt.2 _ _ fa h))
  · exact .inl (.inr ⟨o, lt.2 _ _ fa h⟩)
  · exact .inr h
theorem z_seq (hK : G.K = X.K) (he : PE X e (tZ G W m1)) : PI X tg e (iZ G W l (evSeq l m1)) := PI.imp (PI.or (pi_list he) (PI.or (pi_tup he) (pi_str he))) fun σ H Rr h => by
  obtain ⟨z, ow, F, s, run⟩ := h
  cases e0 : m1 z with
  | bad => unfold evSeq at run; rw [e0] at run; exact run.elim
  | exc c fs z1 =>
    unfold evSeq at run; rw [e0] at run
    exact .inl ⟨z, ow, F, s, by rw [e0]; exact run⟩
  | ok h z1 =>
    unfold evSeq at run; rw [e0] at run
    simp only [R.bind] at run
    cases e1 : clm l h z1 with
    | none => simp only [e1] at run; exact run.elim
    | some p =>
      obtain ⟨o, rs, z2⟩ := p
      simp only [e1] at run
      cases e2 : itemsD o.pk with
      | none => simp only [e2] at run; exact run.elim
      | some ds =>
        simp only [e2] at run
        have fin : ∀ v H1 F1 ow1 f, Stp H F (Own ow) H1 F1 (fun x => Own ow1 x ∨ x ∈ f) → SRep G H1 F1 σ z1 ow1 → HRep G H1 F1 σ v h f → (∀ x ∈ f, ¬ Own ow1 x) →
            ∃ F2 f2, RepO G H1 F2 v o f2 ∧ FT H1 F2 ∧ ∀ J, Yields G H1 F2 f2 J ds → Rr J H1 := by
          intro v H1 F1 ow1 f st s1 r1 d1
          obtain ⟨F2, ow2, f2, s2, r2, st2, d2, ln, hl⟩ := clm_ok r1 s1 st d1 e1
          exact ⟨F2, f2, r2, s2.ft, fun J hy => run J H1 F2 ow2 f2 st2 s2 ⟨hy, ln, hl⟩ d2⟩
        cases o with
        | val d =>
          cases d <;> simp only [O.pk, itemsD, reduceCtorEq, Option.some.injEq] at e2
          · subst e2
            refine .inr (.inr ⟨z, ow, F, s, ?_⟩)
            rw [e0]
            intro v H1 F1 ow1 f st s1 r1 d1
            obtain ⟨F2, f2, r2, ft, k⟩ := fin v H1 F1 ow1 f st s1 r1 d1
            obtain ⟨rfl, r3⟩ := r2.val_inv
            cases r3 with
            | str ht => exact ⟨_, rfl, k _ (yl_str ht)⟩
          · subst e2
            refine .inr (.inl ⟨z, ow, F, s, ?_⟩)
            rw [e0]
            intro v H1 F1 ow1 f st s1 r1 d1
            obtain ⟨F2, f2, r2, ft, k⟩ := fin v H1 F1 ow1 f st s1 r1 d1
            obtain ⟨rfl, r3⟩ := r2.val_inv
            cases r3 with
            | tup hp rs => exact ⟨_, rfl, ⟨_, hK ▸ hp.sq⟩, by rw [← hK]; exact k _ (yl_tup fun H' F' lt => ⟨_, (hp.lat lt).sq, rs.lat lt⟩)⟩
          · subst e2
            refine .inl ⟨z, ow, F, s, ?_⟩
            rw [e0]
            intro v H1 F1 ow1 f st s1 r1 d1
            obtain ⟨F2, f2, r2, ft, k⟩ := fin v H1 F1 ow1 f st s1 r1 d1
            obtain ⟨rfl, r3⟩ := r2.val_inv
            cases r3 with
            | lst fa ha rs => exact ⟨_, rfl, ⟨_, by rw [← hK]; exact SqL.of ha⟩, by rw [← hK]; exact k _ (yl_list fun H' F' lt hf => ⟨_, SqL.of (lt.2 _ _ fa ha), rs.lat lt⟩)⟩
          · subst e2
            refine .inl ⟨z, ow, F, s, ?_⟩
            rw [e0]
            intro v H1 F1 ow1 f st s1 r1 d1
            obtain ⟨F2, f2, r2, ft, k⟩ := fin v H1 F1 ow1 f st s1 r1 d1
            obtain ⟨rfl, r3⟩ := r2.val_inv
            cases r3 with
            | scr hs => exact ⟨_, rfl, ⟨_, by rw [← hK]; exact scr_stay hs Lat.refl⟩, by rw [← hK]; exact k _ (yl_list fun H' F' lt hf => ⟨_, scr_stay hs lt, repInts _⟩)⟩
        | lst ds' =>
          simp only [O.pk, itemsD, Option.some.injEq] at e2
          subst e2
          refine .inl ⟨z, ow, F, s, ?_⟩
          rw [e0]
          intro v H1 F1 ow1 f st s1 r1 d1
          obtain ⟨F2, f2, r2, ft, k⟩ := fin v H1 F1 ow1 f st s1 r1 d1
          obtain ⟨a, vs, rfl, ea, ha, rs⟩ := r2.lst_inv
          exact ⟨_, rfl, ⟨_, by rw [← hK]; exact SqL.of ha⟩, by rw [← hK]; exact k _ (yl_list fun H' F' lt hf => ⟨_, SqL.of (hf a (by rw [ea]; simp) _ ha), rs.lat lt⟩)⟩
        | _ => simp only [O.pk, itemsD, reduceCtorEq] at e2
theorem yl_rng {lo : Int} {n : Nat} : Yields G H F f (Itr lo n) (upTo lo n) := by
  intro H' F' lt ft hf i
  unfold upTo
  refine ⟨fun d e => ?_, fun hi => ?_⟩
  · rw [List.getElem?_map] at e
    by_cases hi : i < n
    · rw [List.getElem?_range hi] at e
      cases e
      refine ⟨hi, fun x H'' hy => ?_⟩
      obtain ⟨rfl, rfl⟩ := hy
      exact ⟨F', stp0 ft, .int _⟩
    · rw [List.getElem?_eq_none (by rw [List.length_range]; omega)] at e; cases e
  · rw [List.length_map, List.length_range] at hi
    exact hi
theorem yl_rngC {lo c : Int} {n : Nat} {g : Nat → Int} (hg : ∀ k, g k = lo + (k : Int) * c) : Yields G H F f (Itc lo c n) ((List.range n).map fun (k : Nat) => D.int (g k)) := by
  intro H' F' lt ft hf i
  refine ⟨fun d e => ?_, fun hi => ?_⟩
  · rw [List.getElem?_map] at e
    by_cases hi : i < n
    · rw [List.getElem?_range hi] at e
      cases e
      refine ⟨hi, fun x H'' hy => ?_⟩
      obtain ⟨rfl, rfl⟩ := hy
      exact ⟨F', stp0 ft, by show RepD _ _ _ _ (D.int (g i)); rw [hg]; exact .int _⟩
    · rw [List.getElem?_eq_none (by rw [List.length_range]; omega)] at e; cases e
  · rw [List.length_map, List.length_range] at hi
    exact hi
theorem rng_read {hs : List Hd} {ds xs : List D} {vs : List V} {z1 : Zs} {J : It} {Rr : It → Hp → Prop} (run : RunG G W σ (relI G l σ) H F ow (.ok (xs, none) z1) Rr) (st1 : Stp H F (Own ow) H1 F1 (fun x => Own ow1 x ∨ x ∈ f)) (s1 : SRep G H1 F1 σ z1 ow1) (y : Yields G H1 F1 [] J xs) : Rr J H1 :=
  run J H1 F1 ow1 [] (st1.weak fun x h => h.elim .inl fun h => by cases h) s1 ⟨y, fun i o e => (by cases e), fun i o e => by cases e⟩ fun x h => by cases h
theorem repRs3 {G : Gx} {H : Hp} {F : Fz} {xs : List V} {d e c : D} (r : RepRs G H F xs [d, e, c]) : ∃ x y w, xs = [x, y, w] ∧ RepR G H F x d ∧ RepR G H F y e ∧ RepR G H F w c := by
  cases r with
  | cons h t => cases t with
    | cons h2 t => cases t with
      | cons h3 t => cases t; exact ⟨_, _, _, rfl, h, h2, h3⟩
variable {a b c : Expr} {p : Pos}
theorem z_rng1 (hg : Gl X "range") (hm : X.mg "range" = none) (ha : PA X [a] (tZA G W mA)) (hs : starEach [a] X.env = [(false, eval a X.env)]) (h1 : ∀ z hs z1 ds, mA z = .ok hs z1 → peeks hs z1 = some ds → ds.length = 1) : PI X tg (.Call (.Name "range" p) [a] [] pos) (iZ G W l (evRng mA)) := PI.imp (pi_range1 hg hm ha hs) fun σ H Rr h => by
  obtain ⟨z, ow, F, s, run⟩ := h
  refine ⟨z, ow, F, s, RunG.first s run fun hs z1 v1 H1 F1 ow1 f1 e0 st1 s1 r1 d1 run1 => ?_⟩
  cases e1 : peeks hs z1 with
  | none => simp only [e1] at run1; exact run1.elim
  | some ds =>
    have hl := h1 z hs z1 ds e0 e1
    simp only [e1] at run1
    have rr := HReps.peeks r1 s1 e1
    cases e2 : rgItems ds with
    | none => simp only [e2] at run1; exact run1.elim
    | some xs =>
      simp only [e2] at run1
      unfold rgItems at e2
      split at e2
      · split at e2
        · rename_i hr
          cases e2
          obtain ⟨x, rfl, rx⟩ := repRs1 rr
          exact ⟨_, by rw [rx.int], hr.1, hr.2, rng_read (hs := hs) (ds := []) (vs := []) run1 st1 s1 yl_rng⟩
        · cases e2
      · cases hl
      · cases hl
      · cases e2
theorem z_rng2 (hg : Gl X "range") (hm : X.mg "range" = none) (ha : PA X [a, b] (tZA G W mA)) (hs : starEach [a, b] X.env = [(false, eval a X.env), (false, eval b X.env)]) (hs2 : starEach [b] X.env = [(false, eval b X.env)]) (h1 : ∀ z hs z1 ds, mA z = .ok hs z1 → peeks hs z1 = some ds → ds.length = 2) : PI X tg (.Call (.Name "range" p) [a, b] [] pos) (iZ G W l (evRng mA)) := PI.imp (pi_range2 hg hm ha hs hs2) fun σ H Rr h => by
  obtain ⟨z, ow, F, s, run⟩ := h
  refine ⟨z, ow, F, s, RunG.first s run fun hs z1 v1 H1 F1 ow1 f1 e0 st1 s1 r1 d1 run1 => ?_⟩
  cases e1 : peeks hs z1 with
  | none => simp only [e1] at run1; exact run1.elim
  | some ds =>
    have hl := h1 z hs z1 ds e0 e1
    simp only [e1] at run1
    have rr := HReps.peeks r1 s1 e1
    cases e2 : rgItems ds with
    | none => simp only [e2] at run1; exact run1.elim
    | some xs =>
      simp only [e2] at run1
      unfold rgItems at e2
      split at e2
      · cases hl
      · split at e2
        · rename_i hr
          cases e2
          obtain ⟨x, y, rfl, rx, ry⟩ := repRs2 rr
          exact ⟨_, _, by rw [rx.int, ry.int], ⟨hr.1.1, hr.1.2, hr.2.1, hr.2.2⟩, rng_read (hs := hs) (ds := []) (vs := []) run1 st1 s1 yl_rng⟩
        · cases e2
      · cases hl
      · cases e2
theorem z_rng3 (hg : Gl X "range") (hm : X.mg "range" = none) (ha : PA X [a, b, c] (tZA G W mA)) (hs : starEach [a, b, c] X.env = (false, eval a X.env) :: starEach [b, c] X.env) (hpl : (backTo pos (starEach [b, c] X.env)).any (·.1) = false) (h1 : ∀ z hs z1 ds, mA z = .ok hs z1 → peeks hs z1 = some ds → ds.length = 3) : PI X tg (.Call (.Name "range" p) [a, b, c] [] pos) (iZ G W l (evRng mA)) := PI.imp (pi_range3 hg hm ha hs hpl) fun σ H Rr h => by
  obtain ⟨z, ow, F, s, run⟩ := h
  refine ⟨z, ow, F, s, RunG.first s run fun hs z1 v1 H1 F1 ow1 f1 e0 st1 s1 r1 d1 run1 => ?_⟩
  cases e1 : peeks hs z1 with
  | none => simp only [e1] at run1; exact run1.elim
  | some ds =>
    have hl := h1 z hs z1 ds e0 e1
    simp only [e1] at run1
    have rr := HReps.peeks r1 s1 e1
    cases e2 : rgItems ds with
    | none => simp only [e2] at run1; exact run1.elim
    | some xs =>
      simp only [e2] at run1
      unfold rgItems at e2
      split at e2
      · cases hl
      · cases hl
      · rename_i i j c
        obtain ⟨x, y, w, rfl, rx, ry, rw'⟩ := repRs3 rr
        split at e2
        · rename_i hc
          subst hc
          split at e2
          · rename_i hr
            cases e2
            refine ⟨_, _, _, _, by rw [rx.int, ry.int, rw'.int], RgC.neg hr.1.1 hr.1.2 hr.2.1 hr.2.2, rng_read (hs := hs) (ds := []) (vs := []) run1 st1 s1 (yl_rngC (g := fun k => i - (k : Int)) fun k => by omega)⟩
          · cases e2
        · split at e2
          · rename_i hr
            cases e2
            refine ⟨_, _, _, (Builtin.Range.rangeSize i j c).toNat, by rw [rx.int, ry.int, rw'.int], ⟨hr.1, hr.2.1, hr.2.2.1, by omega⟩, rng_read (hs := hs) (ds := []) (vs := []) run1 st1 s1 (yl_rngC (g := fun k => i + (k : Int) * c) fun k => rfl)⟩
          · cases e2
      · cases e2
/-- pairs of place and item, each a new tuple -/
theorem yl_enum {a : Addr} {ds : List D} (hs : ∀ H' F', Lat H F H' F' → (∀ a ∈ f, ∀ o, H a = some o → H' a = some o) → ∃ vs, SqL G.K H' a vs ∧ RepDs G H' F' vs ds) : Yields G H F f (Ite G.K a) (ds.zipIdx.map fun p => .tup [.int p.2, p.1]) := by
  intro H' F' lt ft hf i
  obtain ⟨vs, hq, rs⟩ := hs H' F' lt hf
  refine ⟨fun d e => ?_, fun hi => ⟨vs, hq, by rw [rs.length]; simpa using hi⟩⟩
  rw [List.getElem?_map, List.getElem?_zipIdx] at e
  cases e1 : ds[i]? with
  | none => rw [e1] at e; cases e
  | some d1 =>
    rw [e1] at e
    simp only [Option.map_some, Option.some.injEq] at e
    subst e
    obtain ⟨w, ew, rw'⟩ := rs.get e1
    refine ⟨⟨vs, w, hq, ew⟩, fun x H'' hy => ?_⟩
    obtain ⟨T, x', rfl, hT, rfl, hx⟩ := hy
    have := hx vs hq
    rw [ew] at this
    cases this
    refine ⟨_, stp_newF ft hT, .tup (.inl ⟨.inr (by simp), upd_same⟩) (.cons ?_ (.cons (rw'.lat ⟨fun _ h => .inl h, fun a o _ e => ext_new hT a o e⟩) .nil))⟩
    simpa using RepD.int (G := G) _
theorem yl_enumT {a : Addr} {ds : List D} (hs : ∀ H' F', Lat H F H' F' → (∀ a ∈ f, ∀ o, H a = some o → H' a = some o) → ∃ vs, SqT G.K H' a vs ∧ RepDs G H' F' vs ds) : Yields G H F f (IteT G.K a) (ds.zipIdx.map fun p => .tup [.int p.2, p.1]) := by
  intro H' F' lt ft hf i
  obtain ⟨vs, hq, rs⟩ := hs H' F' lt hf
  refine ⟨fun d e => ?_, fun hi => ⟨vs, hq, by rw [rs.length]; simpa using hi⟩⟩
  rw [List.getElem?_map, List.getElem?_zipIdx] at e
  cases e1 : ds[i]? with
  | none => rw [e1] at e; cases e
  | some d1 =>
    rw [e1] at e
    simp only [Option.map_some, Option.some.injEq] at e
    subst e
    obtain ⟨w, ew, rw'⟩ := rs.get e1
    refine ⟨⟨vs, w, hq, ew⟩, fun x H'' hy => ?_⟩
    obtain ⟨T, x', rfl, hT, rfl, hx⟩ := hy
    have := hx vs hq
    rw [ew] at this
    cases this
    refine ⟨_, stp_newF ft hT, .tup (.inl ⟨.inr (by simp), upd_same⟩) (.cons ?_ (.cons (rw'.lat ⟨fun _ h => .inl h, fun a o _ e => ext_new hT a o e⟩) .nil))⟩
    simpa using RepD.int (G := G) _
/-- over a list or a tuple -/
theorem pi_enumB {ta : TA} {elts : List Expr} {kk : Nat} {tpos : Pos} (hg : Gl X "enumerate") (hm : X.mg "enumerate" = none) (ha : PA X [e] ta) (hs : starEach [e] X.env = [(false, eval e X.env)]) : PI X (.Tuple elts kk tpos) (.Call (.Name "enumerate" p) [e] [] pos)
    (fun σ H R => ta σ H fun vs H1 => (∃ a xs, vs = [.ref a] ∧ SqL X.K H1 a xs ∧ R (Ite X.K a) H1) ∨ ∃ a xs, vs = [.ref a] ∧ SqT X.K H1 a xs ∧ R (IteT X.K a) H1) := by
  refine ⟨fun pins s σ H R I h => ?_⟩
  refine Call_ (ld_blt I hg hm boot_enumerate (PyProof.Rows.callWith_type1 (thn (ha.run pos pins s σ H _ I h) fun us s1 ⟨vs, H1, I1, r1, q1⟩ => ?_) hs rfl))
  obtain ⟨u, rfl⟩ : ∃ u, us = [u] := by
    rcases q1 with ⟨a, xs, rfl, _⟩ | ⟨a, xs, rfl, _⟩
    · obtain ⟨u, e, _⟩ := vals1 r1
      exact ⟨u, e⟩
    · obtain ⟨u, e, _⟩ := vals1 r1
      exact ⟨u, e⟩
  rcases q1 with ⟨a, xs, rfl, hq, q⟩ | ⟨a, xs, rfl, hq, q⟩
  · exact enum_l I1 r1 hq q
  · exact enum_t I1 r1 hq q
theorem z_enum {elts : List Expr} {kk : Nat} {tpos : Pos} (hK : G.K = X.K) (hg : Gl X "enumerate") (hm : X.mg "enumerate" = none) (he : PE X e (tZ G W m1)) (hs : starEach [e] X.env = [(false, eval e X.env)]) : PI X (.Tuple elts kk tpos) (.Call (.Name "enumerate" p) [e] [] pos) (iZ G W l (evEnum l m1)) := PI.imp (pi_enumB hg hm (pa_cons he pa_nil hs) hs) fun σ H Rr h => by
  obtain ⟨z, ow, F, s, run⟩ := h
  refine ⟨z, ow, F, s, RunG.first s run fun h z1 v1 H1 F1 ow1 f1 e0 st1 s1 r1 d1 run1 => ?_⟩
  cases e1 : clm l h z1 with
  | none => simp only [e1] at run1; exact run1.elim
  | some p =>
    obtain ⟨o, rs, z2⟩ := p
    simp only [e1] at run1
    obtain ⟨F2, ow2, f2, s2, r2, st2, d2, ln, hl⟩ := clm_ok r1 s1 st1 d1 e1
    cases o with
    | val d =>
      obtain ⟨rfl, r3⟩ := r2.val_inv
      cases d <;> simp only [O.pk] at run1 <;> try exact run1.elim
      · cases r3 with
        | tup hp rs' =>
          refine .inr ⟨_, _, rfl, hK ▸ hp.sq, ?_⟩
          rw [← hK]
          exact run1 _ H1 F2 ow2 [] st2 s2 ⟨yl_enumT fun H' F' lt hf => ⟨_, (hp.lat lt).sq, rs'.lat lt⟩, ln, hl⟩ d2
      · cases r3 with
        | lst fa ha rs' =>
          refine .inl ⟨_, _, rfl, by rw [← hK]; exact SqL.of ha, ?_⟩
          rw [← hK]
          exact run1 _ H1 F2 ow2 [] st2 s2 ⟨yl_enum fun H' F' lt hf => ⟨_, SqL.of (lt.2 _ _ fa ha), rs'.lat lt⟩, ln, hl⟩ d2
      · rename_i ns
        cases r3 with
        | scr hq =>
          refine .inl ⟨_, _, rfl, by rw [← hK]; exact scr_stay hq Lat.refl, ?_⟩
          rw [← hK]
          refine run1 _ H1 F2 ow2 [] st2 s2 ⟨?_, ln, hl⟩ d2
          have y : Yields G H1 F2 [] (Ite G.K _) ((ns.map D.int).zipIdx.map fun p => .tup [.int p.2, p.1]) := yl_enum fun H' F' lt hf => ⟨_, scr_stay hq lt, repInts _⟩
          have e : ((ns.map D.int).zipIdx.map fun p => D.tup [.int p.2, p.1]) = ns.zipIdx.map fun p => D.tup [.int p.2, .int p.1] := by
            rw [List.zipIdx_map, List.map_map]
            rfl
          rw [e] at y
          exact y
    | lst ds' =>
      simp only [O.pk] at run1
      obtain ⟨a, vs, rfl, ea, ha, rs'⟩ := r2.lst_inv
      refine .inl ⟨_, _, rfl, by rw [← hK]; exact SqL.of ha, ?_⟩
      rw [← hK]
      exact run1 _ H1 F2 ow2 f2 st2 s2 ⟨yl_enum fun H' F' lt hf => ⟨_, SqL.of (hf a (by rw [ea]; simp) _ ha), rs'.lat lt⟩, ln, hl⟩ d2
    | _ => simp only [O.pk] at run1; exact run1.elim
end
end Z
end

section
set_option maxRecDepth 100007
/-! List comprehensions. -/
namespace Z
open PySem L2 PyProof.Rows
@[simp] def wipeZ (z : Zs) : List Nat → Zs
  | [] => z
  | v :: vs => (wipeZ z vs).set v none
/-- the slots of vs as they were in z1 -/
@[simp] def unwipe (z1 : Zs) : List Nat → Zs → Zs
  | [], z => z
  | v :: vs, z => (unwipe z1 vs z).set v (rd z1 v)
def owW (ow : Ows) : List Nat → Ows
  | [] => ow
  | v :: vs => ow0 (owW ow vs) v
section
variable {G : Gx} {H H1 H2 : Hp} {F F1 F2 : Fz} {σ : L2.St} {z z1 z2 : Zs} {ow ow1 ow2 : Ows}
theorem wipeZ_len (vs : List Nat) : (wipeZ z vs).length = z.length := by
  induction vs with
  | nil => rfl
  | cons v vs ih => unfold wipeZ; rw [List.length_set]; exact ih
theorem unwipe_len (vs : List Nat) : (unwipe z1 vs z).length = z.length := by
  induction vs with
  | nil => rfl
  | cons v vs ih => unfold unwipe; rw [List.length_set]; exact ih
theorem rd_unwipe (vs : List Nat) (hl : z1.length = z.length) (i : Nat) : rd (unwipe z1 vs z) i = if i ∈ vs then rd z1 i else rd z i := by
  induction vs with
  | nil => simp [unwipe]
  | cons v vs ih =>
    unfold unwipe
    by_cases h : v = i
    · subst h
      by_cases hv : v < z.length
      · rw [rd_set_self (by rw [unwipe_len]; exact hv)]; simp
      · rw [rd_ge (by rw [List.length_set, unwipe_len]; omega)]
        rw [rd_ge (z := z1) (i := v) (by omega), if_pos (by simp)]
    · rw [rd_set_ne h, ih]
      have : (i ∈ v :: vs) = (i ∈ vs) := by
        rw [List.mem_cons]
        simp [Ne.symm h]
      simp only [this]
theorem SRep.wipe (s : SRep G H F σ z ow) : ∀ vs : List Nat, SRep G H F (L2.wipe σ vs) (wipeZ z vs) (owW ow vs)
  | [] => s
  | v :: vs => (SRep.wipe s vs).drop v none
theorem owW_sub : ∀ {vs : List Nat} {a : Addr}, Own (owW ow vs) a → Own ow a
  | [], _, h => h
  | _ :: _, _, h => owW_sub (own_ow0 h)
theorem owW_out : ∀ {vs : List Nat} {i : Nat}, owW ow vs i = if i ∈ vs then [] else ow i
  | [], i => by simp [owW]
  | v :: vs, i => by
    unfold owW ow0
    by_cases h : i = v
    · simp [h]
    · rw [if_neg h, owW_out (vs := vs)]
      have : (i ∈ v :: vs) = (i ∈ vs) := by
        rw [List.mem_cons]
        simp [h]
      simp only [this]
theorem setS_len {ro : Ro} {i : Nat} {o : O} {z' : Zs} (e : setS ro i o z = some z') : z'.length = z.length := by
  unfold setS at e
  split at e
  · cases e
  · split at e
    · cases e; exact List.length_set
    · cases e
/-- back in the frame: the wiped slots as they were, the others as the block left them -/
theorem SRep.unwipe {vs : List Nat} (s1 : SRep G H1 F1 σ z1 ow1) (s2 : SRep G H2 F2 (L2.wipe σ vs) z2 ow2) {P : Addr → Prop} (st : Stp H1 F1 (Own (owW ow1 vs)) H2 F2 (fun x => Own ow2 x ∨ P x)) :
    ∃ ow3, SRep G H2 F2 σ (Z.unwipe z1 vs z2) ow3 ∧ (∀ a, Own ow3 a → Own ow2 a ∨ (∃ i, i ∈ vs ∧ a ∈ ow1 i)) := by
  have hl : z1.length = z2.length := by rw [s1.len, s2.len, wipe_length]
  have nw : ∀ i, i ∈ vs → ∀ a ∈ ow1 i, ¬ Own (owW ow1 vs) a := fun i hi a ha ⟨j, hj⟩ => by
    rw [owW_out] at hj
    split at hj
    · cases hj
    · rename_i hn
      exact hn (s1.dj j i a hj ha ▸ hi)
  have n2 : ∀ i, i ∈ vs → ∀ a ∈ ow1 i, ¬ Own ow2 a := fun i hi a ha h => by
    rcases st.fp a (.inl h) with q | q
    · exact nw i hi a ha q
    · obtain ⟨o, e⟩ := s1.own a ⟨i, ha⟩
      rw [q] at e; cases e
  refine ⟨fun i => if i ∈ vs then ow1 i else ow2 i, ⟨by rw [unwipe_len, s2.len, wipe_length], fun i o e => ?_, fun i e => ?_, fun i j a h1 h2 => ?_, fun i a h => ?_, s2.ft⟩, fun a ⟨i, h⟩ => ?_⟩
  · rw [rd_unwipe vs hl] at e
    split at e
    · rename_i hi
      obtain ⟨v, e1, r⟩ := s1.rep i o e
      exact ⟨v, e1, by simp only [hi, if_true]; exact r.stp st (nw i hi)⟩
    · rename_i hi
      obtain ⟨v, e1, r⟩ := s2.rep i o e
      exact ⟨v, by rw [wipe_out hi] at e1; exact e1, by simp only [hi, if_false]; exact r⟩
  · rw [rd_unwipe vs hl] at e
    split at e
    · rename_i hi; simp only [hi, if_true]; exact s1.emp i e
    · rename_i hi; simp only [hi, if_false]; exact s2.emp i e
  · split at h1
    · rename_i hi
      split at h2
      · exact s1.dj i j a h1 h2
      · exact (n2 i hi a h1 ⟨j, h2⟩).elim
    · rename_i hi
      split at h2
      · rename_i hj
        exact (n2 j hj a h2 ⟨i, h1⟩).elim
      · exact s2.dj i j a h1 h2
  · split at h
    · rename_i hi
      intro q
      rcases st.fr a q with x | x | x
      · exact s1.nf i a h x
      · exact nw i hi a h x
      · obtain ⟨o, e⟩ := s1.own a ⟨i, h⟩
        rw [x] at e; cases e
    · exact s2.nf i a h
  · have h : a ∈ (if i ∈ vs then ow1 i else ow2 i) := h
    split at h
    · rename_i hi; exact .inr ⟨i, hi, h⟩
    · exact .inl ⟨i, h⟩
end

/-- the turns of a comprehension: what is made so far, the block's slots -/
def compF (vs : List Nat) (tgt : D → Zs → Option Zs) (c : Zs → R Bool) (me : Zs → R Hd) : List D → List D → Zs → Option (List D × Zs)
  | [], acc, z => some (acc, z)
  | d :: ds, acc, z => match tgt d z with
    | none => none
    | some z1 => match c z1 with
      | .ok b z2 => if b = true then (match me z2 with
        | .ok h z3 => match takeD h z3 with
          | some (e, z4) => if acc.length < sizeLine then compF vs tgt c me ds (acc ++ [e]) (wipeZ z4 vs) else none
          | none => none
        | _ => none) else compF vs tgt c me ds acc (wipeZ z2 vs)
      | _ => none
def evComp (vs : List Nat) (tgt : D → Zs → Option Zs) (c : Zs → R Bool) (me : Zs → R Hd) (mi : MI) : Zs → R Hd := fun z => (mi z).bind fun p z1 => match compF vs tgt c me p.1 [] (wipeZ z1 vs) with
  | some (out, z2) => .ok (.tmp (.lst out)) (backZ p.2 (unwipe z1 vs z2))
  | none => .bad
/-- in a block nothing is raised -/
def W0 : WX := fun _ _ _ _ => False
@[simp] def roV (vs : List Nat) : Ro := fun i => !vs.contains i
@[simp] def evYes : Zs → R Bool := fun z => .ok true z
section
variable {G : Gx} {W : WX} {σ : L2.St} {H : Hp} {Q : VK} {vs : List Nat} {tgt : D → Zs → Option Zs} {c1 : Zs → R Bool} {me : Zs → R Hd} {mi : MI} {l : Option Nat}
theorem wipe_eq {σ2 : L2.St} (hlen : σ2.length = σ.length) (k : Kp (roV vs) (L2.wipe σ vs) σ2) : L2.wipe σ2 vs = L2.wipe σ vs := by
  apply List.ext_getElem?
  intro i
  by_cases hi : i ∈ vs
  · have h1 : ∀ τ : L2.St, (L2.wipe τ vs)[i]? = some none ∨ (L2.wipe τ vs)[i]? = none := fun τ => by
      cases e : (L2.wipe τ vs)[i]? with
      | none => exact .inr rfl
      | some x =>
        cases x with
        | none => exact .inl rfl
        | some v => exact absurd hi (wipe_some e).2
    have hl : ∀ τ : L2.St, (L2.wipe τ vs)[i]? = none ↔ τ.length ≤ i := fun τ => by rw [List.getElem?_eq_none_iff, wipe_length]
    rcases h1 σ2 with a | a <;> rcases h1 σ with b | b
    · rw [a, b]
    · have := (hl σ).mp b
      have c := (hl σ2).mpr (by omega)
      rw [a] at c; cases c
    · have := (hl σ2).mp a
      have c := (hl σ).mpr (by omega)
      rw [b] at c; cases c
    · rw [a, b]
  · rw [wipe_out hi, k i (by unfold roV; simp [hi])]
theorem comp_read (ht : ∀ d z z', tgt d z = some z' → z'.length = z.length) (h : tZ G W (evComp vs tgt c1 me mi) σ H Q) : tLc (iZ G W l mi) (gZ G (roV vs) tgt) (tZT G W0 c1) (tZ G W0 me) vs σ H Q := by
  obtain ⟨z, ow, F, s, run⟩ := h
  refine ⟨z, ow, F, s, RunG.first s run fun p z1 J H1 F1 ow1 f _ st1 s1 r1 d1 run1 => fun Da hDa => ?_⟩
  obtain ⟨ds, rs⟩ := p
  obtain ⟨yl, hrs, hl⟩ := r1
  simp only at yl hrs hl run1
  cases ec : compF vs tgt c1 me ds [] (wipeZ z1 vs) with
  | none => simp only [ec] at run1; exact run1.elim
  | some p =>
  obtain ⟨out, zE⟩ := p
  simp only [ec] at run1
  have sW := s1.wipe vs
  have hD1 : ∀ a, Own ow1 a → a ≠ Da := fun a ha e => by
    obtain ⟨o, q⟩ := s1.own a ha
    rw [e, hDa] at q; cases q
  refine ⟨fun i m H2 => ∃ z2 ow2 F2 acc av, SRep G H2 F2 (L2.wipe σ vs) z2 ow2 ∧ Stp H1 F1 (Own (owW ow1 vs)) H2 F2 (fun x => Own ow2 x ∨ x ∈ [Da]) ∧ ¬ Own ow2 Da ∧ H2 Da = some (.lst av) ∧ RepDs G H2 F2 av acc ∧ i + m = ds.length ∧ compF vs tgt c1 me (ds.drop i) acc z2 = some (out, zE),
    ⟨ds.length, wipeZ z1 vs, owW ow1 vs, F1, [], [], ?_, ?_, ?_, upd_same, .nil, Nat.zero_add _, by rw [List.drop_zero]; exact ec⟩, fun i m H2 hw => ?_⟩
  · exact sW.stp (stp_new s1.ft hDa) fun _ _ h => h
  · exact (sW.refl.alloc (stp_new s1.ft hDa)).1.weak fun x h => h.symm
  · intro h; exact hD1 Da (owW_sub h) rfl
  obtain ⟨z2, ow2, F2, acc, av, s2, st2, nD, hD, racc, him, ecc⟩ := hw
  have hfs : ∀ a ∈ f, ¬ Own (owW ow1 vs) a := fun a h q => d1 a h (owW_sub q)
  obtain ⟨y1, y2⟩ := yl H2 F2 st2.lat s2.ft (fun a ha o e => st2.stay a o (hfs a ha) e) i
  by_cases hi : i < ds.length
  · have ed : ds[i]? = some ds[i] := List.getElem?_eq_getElem hi
    obtain ⟨go, yy⟩ := y1 _ ed
    refine .inr ⟨go, fun H' => ∃ z2 ow2 F2 acc av, SRep G H' F2 (L2.wipe σ vs) z2 ow2 ∧ Stp H1 F1 (Own (owW ow1 vs)) H' F2 (fun x => Own ow2 x ∨ x ∈ [Da]) ∧ ¬ Own ow2 Da ∧ H' Da = some (.lst av) ∧ RepDs G H' F2 av acc ∧ i + 1 + (m - 1) = ds.length ∧ compF vs tgt c1 me (ds.drop (i + 1)) acc z2 = some (out, zE), fun H' hN => ⟨m - 1, by omega, hN⟩, fun x H' hy => ?_⟩
    obtain ⟨F', sA, rd'⟩ := yy x H' hy
    have s2' : SRep G H' F' (L2.wipe σ vs) z2 ow2 := s2.stp sA fun _ _ h => h
    have hD' : H' Da = some (.lst av) := sA.stay _ _ (fun h => h) hD
    rw [List.drop_eq_getElem_cons hi] at ecc
    unfold compF at ecc
    cases e1 : tgt ds[i] z2 with
    | none => rw [e1] at ecc; cases ecc
    | some z3 =>
      simp only [e1] at ecc
      refine ⟨F', z2, ow2, _, z3, s2', rd', e1, fun σ3 ow3 s3 o3 k3 => ?_⟩
      have hw3 : L2.wipe σ3 vs = L2.wipe σ vs := wipe_eq (by
        have a := s3.len
        have b := s2'.len
        have c := ht _ _ _ e1
        rw [wipe_length] at b
        omega) k3
      have nD3 : ¬ Own ow3 Da := fun h => nD (o3 _ h)
      have stA : Stp H1 F1 (Own (owW ow1 vs)) H' F' (fun x => Own ow3 x ∨ x ∈ [Da]) := (st2.alloc sA).1.weak fun x h => .inr (h.elim (fun h => .inl (o3 x h)) .inr)
      have dD : ∀ {o : Ows}, ¬ Own o Da → ∀ x, x ∈ [Da] → ¬ Own o x := fun n x h q => n (by rw [List.mem_singleton.mp h] at q; exact q)
      have racc' := racc.lat sA.lat
      refine ⟨hw3, z3, ow3, F', s3, ?_⟩
      cases e2 : c1 z3 with
      | bad => simp only [e2] at ecc; cases ecc
      | exc _ _ _ => simp only [e2] at ecc; cases ecc
      | ok b z4 =>
        simp only [e2] at ecc
        intro v H3 F3 ow4 f3 st3 s4 r3 d3
        obtain ⟨rfl, rfl⟩ := r3
        have st3 : Stp H' F' (Own ow3) H3 F3 (Own ow4) := st3.weak fun x h => .inl h
        have nD4 : ¬ Own ow4 Da := fun h => by
          rcases st3.fp _ h with q | q
          · exact nD3 q
          · rw [hD'] at q; cases q
        have hD3 : H3 Da = some (.lst av) := st3.stay _ _ nD3 hD'
        have t3 : Stp H1 F1 (Own (owW ow1 vs)) H3 F3 (fun x => Own ow4 x ∨ x ∈ [Da]) := (stA.frame (dD nD3) st3).1
        cases v with
        | false =>
          simp only [Bool.false_eq_true, if_false] at ecc ⊢
          have s5 := s4.wipe vs
          rw [hw3] at s5
          exact ⟨wipeZ z4 vs, owW ow4 vs, F3, acc, av, s5, t3.weak fun x h => h.elim (fun h => .inl (owW_sub h)) .inr, fun h => nD4 (owW_sub h), hD3, racc'.lat st3.lat, by omega, ecc⟩
        | true =>
          simp only [if_true] at ecc ⊢
          refine ⟨z4, ow4, F3, s4, ?_⟩
          cases e3 : me z4 with
          | bad => simp only [e3] at ecc; cases ecc
          | exc _ _ _ => simp only [e3] at ecc; cases ecc
          | ok h z5 =>
            simp only [e3] at ecc
            intro y H4 F4 ow5 g st4 s5 r4 d4
            cases e4 : takeD h z5 with
            | none => simp only [e4] at ecc; cases ecc
            | some p =>
              obtain ⟨e, z6⟩ := p
              simp only [e4] at ecc
              split at ecc
              · rename_i hlen
                obtain ⟨F5, ow6, s6, r5, st5⟩ := HRep.takeD r4 s5 d4 (fun a h => st4.nf a (.inr h)) (fun a h => st4.tr a (.inr h)) e4
                have st45 : Stp H3 F3 (Own ow4) H4 F5 (Own ow6) := st4.trans st5
                have hD4 : H4 Da = some (.lst av) := st45.stay _ _ nD4 hD3
                have nD6 : ¬ Own ow6 Da := fun h => by
                  rcases st45.fp _ h with q | q
                  · exact nD4 q
                  · rw [hD3] at q; cases q
                have t5 : Stp H1 F1 (Own (owW ow1 vs)) H4 F5 (fun x => Own ow6 x ∨ x ∈ [Da]) := (t3.frame (dD nD4) st45).1
                have nf : ¬ F5 Da := t5.nf _ (.inr (by simp))
                have mt : Stp H4 F5 (fun x => x = Da) (upd H4 Da (.lst (av ++ [y]))) F5 (fun x => x = Da) := stp_mut rfl (fun x h => by rw [h]; exact nf) (fun x h => by rw [h]; exact ⟨_, hD4⟩) s6.ft
                have s7 := (s6.stp mt fun x h q => nD6 (by rw [q] at h; exact h)).wipe vs
                rw [hw3] at s7
                have racc2 := (racc'.lat st3.lat).lat st45.lat
                refine ⟨av, hD4, by rw [racc2.length]; exact hlen, wipeZ z6 vs, owW ow6 vs, F5, acc ++ [e], av ++ [y], s7, ?_, fun h => nD6 (owW_sub h), upd_same, (racc2.append (.cons r5 .nil)).lat mt.lat, by omega, ecc⟩
                exact (t5.trans (stp_mut (.inr (by simp)) t5.nf t5.tr s6.ft)).weak fun x h => h.elim (fun h => .inl (owW_sub h)) .inr
              · cases ecc
  · have h0 : ds.length ≤ i := by omega
    rw [List.drop_eq_nil_of_le h0] at ecc
    simp only [compF, Option.some.injEq, Prod.mk.injEq] at ecc
    obtain ⟨rfl, rfl⟩ := ecc
    refine .inl ⟨y2 h0, ?_⟩
    obtain ⟨ow3, s3, o3⟩ := s1.unwipe s2 st2
    have nw : ∀ i, i ∈ vs → ∀ a ∈ ow1 i, ¬ Own (owW ow1 vs) a := fun i hi a ha ⟨j, hj⟩ => by
      rw [owW_out] at hj
      split at hj
      · cases hj
      · rename_i hn
        exact hn (s1.dj j i a hj ha ▸ hi)
    have sp : Stp H F (Own ow) H1 F1 (fun x => Own (owW ow1 vs) x ∨ ((∃ i, i ∈ vs ∧ x ∈ ow1 i) ∨ x ∈ f)) := st1.weak fun x h => by
      rcases h with h | ⟨i, _, h⟩ | h
      · exact .inl (owW_sub h)
      · exact .inl ⟨i, h⟩
      · exact .inr h
    obtain ⟨c1', c2⟩ := sp.frame (fun x h => h.elim (fun ⟨i, hi, h⟩ => nw i hi x h) (hfs x)) st2
    have hf3 : ∀ a ∈ f, ¬ Own ow3 a := fun a h q => by
      rcases o3 a q with q | ⟨i, hi, q⟩
      · exact c2 a (.inr h) (.inl q)
      · exact d1 a h ⟨i, q⟩
    obtain ⟨ow5, s5, o5⟩ := back_rep s3 (f := f) hf3 (fun a h => c1'.nf a (.inr (.inr h))) fun i o e => by
      obtain ⟨v, ei, r⟩ := hrs i o e
      exact ⟨v, ei, r.stp st2 hfs⟩
    have nD5 : ¬ Own ow5 Da := fun h => by
      rcases o5 _ h with h | h
      · rcases o3 _ h with h | ⟨i, hi, h⟩
        · exact nD h
        · exact c2 Da (.inl ⟨i, hi, h⟩) (.inr (by simp))
      · exact c2 Da (.inr h) (.inr (by simp))
    refine run1 (.ref Da) H2 F2 ow5 [Da] (c1'.weak fun x h => ?_) s5 (RepO.lst hD racc) fun x h q => nD5 (by rw [List.mem_singleton.mp h] at q; exact q)
    rcases h with h | h
    · rcases o5 _ h with h | h
      · rcases o3 _ h with h | h
        · exact .inl (.inl h)
        · exact .inr (.inl h)
      · exact .inr (.inr h)
    · exact .inl (.inr h)
theorem asg1_len {ro : Ro} : (∀ (t : Tg) (d : D) (z z' : Zs), asg1 ro t d z = some z' → z'.length = z.length) ∧ ∀ (t : Tg) (ds : List D) (z z' : Zs), asgN ro t ds z = some z' → z'.length = z.length := by
  have key : ∀ t : Tg, (∀ (d : D) (z z' : Zs), asg1 ro t d z = some z' → z'.length = z.length) ∧ ∀ (ds : List D) (z z' : Zs), asgN ro t ds z = some z' → z'.length = z.length := by
    intro t
    induction t with
    | nm i => exact ⟨fun d z z' e => setS_len (by simpa only [asg1] using e), fun ds z z' e => by simp only [asgN, reduceCtorEq] at e⟩
    | tp ts ih =>
      refine ⟨fun d z z' e => ?_, fun ds z z' e => by simp only [asgN, reduceCtorEq] at e⟩
      cases d <;> simp only [asg1, reduceCtorEq] at e
      exact ih.2 _ _ _ e
    | nil =>
      refine ⟨fun d z z' e => by simp only [asg1, reduceCtorEq] at e, fun ds z z' e => ?_⟩
      cases ds <;> simp only [asgN, reduceCtorEq, Option.some.injEq] at e
      rw [e]
    | cons t ts ih1 ih2 =>
      refine ⟨fun d z z' e => by simp only [asg1, reduceCtorEq] at e, fun ds z z' e => ?_⟩
      cases ds with
      | nil => simp only [asgN, reduceCtorEq] at e
      | cons d ds =>
        rw [asgN] at e
        cases e1 : asg1 ro t d z with
        | none => rw [e1] at e; cases e
        | some z1 =>
          rw [e1] at e
          rw [ih2.2 _ _ _ e, ih1.1 _ _ _ e1]
  exact ⟨fun t => (key t).1, fun t => (key t).2⟩
end
section
variable {G : Gx} {W : WX} {X : Cx} {t : Tg} {c1 : Zs → R Bool} {me : Zs → R Hd} {mi : MI} {l : Option Nat} {elt tg iter c : Expr} {ifs : List Expr} {scope : Scope} {own : List (Str × Nat)} {pos : Pos}
theorem PTs.imp {X : Cx} {e : List Expr} {t t' : TT} (h : PTs X e t) (k : ∀ σ H Q, t' σ H Q → t σ H Q) : PTs X e t' := ⟨fun pins s σ H Q I q => h.run pins s σ H Q I (k σ H Q q)⟩
theorem zts_nil : PTs X [] (tZT G W evYes) := PTs.imp pts_nil fun σ H Q h => by
  obtain ⟨z, ow, F, s, run⟩ := h
  exact RunG.val run (s.refl.weak (P2 := fun x => Own ow x ∨ False) fun x h => h.elim id False.elim) s
theorem zts_one (h : PT X c (tZT G W c1)) : PTs X [c] (tZT G W c1) := pts_one h
/-- [elt for tg in iter if ..] -/
theorem z_comp (hc : X.calm = true) (hN : X.N.Nodup) (hi : PI X tg iter (iZ G W l mi)) (ok : BlkOk X.N X.env.scope scope own)
    (hg : ∀ (s : Shared) (H : Hp) (C : Addr) (cl : List (Str × Addr)) (fp : List Addr), PG (X.blk s H scope (compEnvC scope cl C X.env) fp) tg (gZ G (roV (own.map (·.2))) (asg1 (roV (own.map (·.2))) t)))
    (ht : ∀ (s : Shared) (H : Hp) (C : Addr) (cl : List (Str × Addr)) (fp : List Addr), PTs (X.blk s H scope (compEnvC scope cl C X.env) fp) ifs (tZT G W0 c1))
    (he : ∀ (s : Shared) (H : Hp) (C : Addr) (cl : List (Str × Addr)) (fp : List Addr), PE (X.blk s H scope (compEnvC scope cl C X.env) fp) elt (tZ G W0 me))
    (hs : ∀ x, foldedSetIterable iter X.env x = pure x) : PE X (.ListComp elt [⟨tg, iter, ifs, 0⟩] scope pos) (tZ G W (evComp (own.map (·.2)) (asg1 (roV (own.map (·.2))) t) c1 me mi)) :=
  PE.imp (pe_lc hc hN hi ok hg ht he hs) fun σ H Q h => comp_read (fun d z z' e => asg1_len.1 _ _ _ _ e) h
/-- x = [elt for ..] on one line, x a local name -/
theorem zs_asgLc {ro : Ro} {i : Nat} {y : Str} {py spos : Pos} (hc : X.calm = true) (hN : X.N.Nodup) (hy : X.N[i]? = some y) (hyl : X.env.scope.names.lookup y = some .local) (hsw : swapsWith (.ListComp elt [⟨tg, iter, ifs, 0⟩] scope pos) (some (.Name y py)) spos.line X.env = pure true)
    (hi : PI X tg iter (iZ G W l mi)) (ok : BlkOk X.N X.env.scope scope own)
    (hg : ∀ (s : Shared) (H : Hp) (C : Addr) (cl : List (Str × Addr)) (fp : List Addr), PG (X.blk s H scope (compEnvC scope cl C X.env) fp) tg (gZ G (roV (own.map (·.2))) (asg1 (roV (own.map (·.2))) t)))
    (ht : ∀ (s : Shared) (H : Hp) (C : Addr) (cl : List (Str × Addr)) (fp : List Addr), PTs (X.blk s H scope (compEnvC scope cl C X.env) fp) ifs (tZT G W0 c1))
    (he : ∀ (s : Shared) (H : Hp) (C : Addr) (cl : List (Str × Addr)) (fp : List Addr), PE (X.blk s H scope (compEnvC scope cl C X.env) fp) elt (tZ G W0 me))
    (hs : ∀ x, foldedSetIterable iter X.env x = pure x) : PS X (.Assign [.Name y py] (.ListComp elt [⟨tg, iter, ifs, 0⟩] scope pos) spos) (tZS G W ro (exAsgN ro i (evComp (own.map (·.2)) (asg1 (roV (own.map (·.2))) t) c1 me mi))) :=
  PS.imp (ps_setLc hc hN hy hyl hsw hi ok hg ht he hs) fun D σ H h => by
  obtain ⟨z, ow, F, s, run⟩ := h
  refine comp_read (W := W) (fun d z z' e => asg1_len.1 _ _ _ _ e) ⟨z, ow, F, s, RunS.first s run fun x z1 v1 H1 F1 ow1 f1 _ st1 s1 r1 d1 run1 => ?_⟩
  cases e1 : take x z1 with
  | none => simp only [e1] at run1; exact run1.elim
  | some p =>
    obtain ⟨o, z2⟩ := p
    simp only [e1] at run1
    cases e2 : setS ro i o z2 with
    | none => simp only [e2] at run1; exact run1.elim
    | some z3 =>
      simp only [e2] at run1
      obtain ⟨F2, ow2, f2, s2, r2, st2, d2⟩ := HRep.take r1 s1 d1 (fun a h => st1.nf a (.inr h)) (fun a h => st1.tr a (.inr h)) e1
      have st := st1.trans st2
      obtain ⟨s3, k3⟩ := setS_ok s2 r2 (fun a h q => d2 a h (own_ow0 q)) (fun a h => st.nf a (.inr h)) e2
      refine run1 _ H1 F2 _ (st.weak fun a h => ?_) s3 k3
      rcases own_ow1 h with h | h
      · exact .inl (own_ow0 h)
      · exact .inr h
end
end Z
end

section
set_option maxRecDepth 100007
/-! Calls: what is lent to the callee, what comes back. -/
namespace Z
open PySem L2 PyProof.Rows
inductive RR where
  | ret (o : O) (outs : List (Option O)) | exc (c : Nat) (fs : List (Nat × D)) (outs : List (Option O)) | bad
/-- the operands handed over: a parameter that is lent (true) gets the thing itself -/
def lendA : List Bool → List Hd → Zs → Option (List O × Zs)
  | [], [], z => some ([], z)
  | false :: ms, h :: hs, z => match takeD h z with
    | some (d, z1) => match lendA ms hs z1 with
      | some (os, z2) => some (.val d :: os, z2)
      | none => none
    | none => none
  | true :: ms, .tmp o :: hs, z => match lendA ms hs z with
    | some (os, z2) => some (o :: os, z2)
    | none => none
  | true :: ms, .slot i :: hs, z => match rd z i with
    | some o => match lendA ms hs (z.set i none) with
      | some (os, z2) => some (o :: os, z2)
      | none => none
    | none => none
  | _, _, _ => none
def backA : List Bool → List Hd → List (Option O) → Zs → Zs
  | true :: ms, .slot i :: hs, some o :: outs, z => backA ms hs outs (z.set i (some o))
  | _ :: ms, _ :: hs, _ :: outs, z => backA ms hs outs z
  | _, _, _, z => z
def evCall (run : List O → RR) (modes : List Bool) (dfs : List D) (mA : Zs → R (List Hd)) : Zs → R Hd := fun z => (mA z).bind fun hs z1 => match lendA modes hs z1 with
  | some (os, z2) => match run (os ++ dfs.map .val) with
    | .ret o outs => .ok (.tmp o) (backA modes hs outs z2)
    | .exc c fs outs => .exc c fs (backA modes hs outs z2)
    | .bad => .bad
  | none => .bad
section
variable {G : Gx} {H H1 H2 H' : Hp} {F F1 F2 F' : Fz} {σ : L2.St} {z z' : Zs} {ow ow1 : Ows} {f g : List Addr}
inductive RepOs (G : Gx) (H : Hp) (F : Fz) : List V → List O → List Addr → Prop
  | nil : RepOs G H F [] [] []
  | cons {v : V} {o : O} {vs : List V} {os : List O} {f g : List Addr} : RepO G H F v o f → RepOs G H F vs os g → (∀ a ∈ f, a ∉ g) → RepOs G H F (v :: vs) (o :: os) (f ++ g)
/-- the lent parameters at the end -/
inductive Outs (G : Gx) (H : Hp) (F : Fz) : List Bool → List V → List (Option O) → List Addr → Prop
  | nil {vs : List V} {os : List (Option O)} : Outs G H F [] vs os []
  | keep {v : V} {o : O} {ms : List Bool} {vs : List V} {os : List (Option O)} {f g : List Addr} : RepO G H F v o f → Outs G H F ms vs os g → (∀ a ∈ f, a ∉ g) → Outs G H F (true :: ms) (v :: vs) (some o :: os) (f ++ g)
  | drop {v : V} {o : Option O} {ms : List Bool} {vs : List V} {os : List (Option O)} {g : List Addr} : Outs G H F ms vs os g → Outs G H F (false :: ms) (v :: vs) (o :: os) g
theorem RepOs.there {vs : List V} {os : List O} (r : RepOs G H F vs os f) : ∀ a ∈ f, ∃ u, H a = some u := by
  induction r with
  | nil => intro a h; cases h
  | cons h _ _ ih =>
    intro a ha
    rcases List.mem_append.mp ha with ha | ha
    · exact h.there a ha
    · exact ih a ha
theorem RepOs.stp {P P' : Addr → Prop} {vs : List V} {os : List O} (r : RepOs G H F vs os f) (s : Stp H F P H' F' P') (dj : ∀ a ∈ f, ¬ P a) : RepOs G H' F' vs os f := by
  induction r with
  | nil => exact .nil
  | cons h _ d ih => exact .cons (h.stp s fun a x => dj a (by simp [x])) (ih fun a x => dj a (by simp [x])) d
theorem RepOs.length {vs : List V} {os : List O} (r : RepOs G H F vs os f) : vs.length = os.length := by
  induction r with
  | nil => rfl
  | cons _ _ _ ih => rw [List.length_cons, List.length_cons, ih]
theorem RepOs.lat {vs : List V} {os : List O} (r : RepOs G H F vs os f) (lt : Lat H F H F') : RepOs G H F' vs os f := by
  induction r with
  | nil => exact .nil
  | cons h _ d ih =>
    refine .cons ?_ ih d
    cases h with
    | val h => exact .val (h.lat lt)
    | lst h r => exact .lst h (r.lat lt)
    | obj h r => exact .obj h (r.lat lt)
    | dct h r => exact .dct h (r.lat lt)
    | dctT h r => exact .dctT h (r.lat lt)
theorem lend_ok : ∀ {ms : List Bool} {vs : List V} {hs : List Hd} {F : Fz} {z z' : Zs} {ow : Ows} {f : List Addr} {os : List O}, HReps G H F σ vs hs f → SRep G H F σ z ow → (∀ a ∈ f, ¬ Own ow a) → (∀ a ∈ f, ¬ F a) → (∀ a ∈ f, ∃ u, H a = some u) → lendA ms hs z = some (os, z') →
    ∃ F' ow' f', SRep G H F' σ z' ow' ∧ RepOs G H F' vs os f' ∧ Stp H F (fun a => Own ow a ∨ a ∈ f) H F' (fun a => Own ow' a ∨ a ∈ f') ∧ (∀ a ∈ f', ¬ Own ow' a) := by
  intro ms
  induction ms with
  | nil =>
    intro vs hs F z z' ow f os r s dj nf tr e
    cases r with
    | nil =>
      simp only [lendA, Option.some.injEq, Prod.mk.injEq] at e
      obtain ⟨rfl, rfl⟩ := e
      exact ⟨F, ow, [], s, .nil, Stp.refl (fun a h => h.elim (s.nfo a) (nf a)) (fun a h => h.elim (s.own a) (tr a)) s.ft, fun a h => by cases h⟩
    | cons _ _ _ => simp only [lendA, reduceCtorEq] at e
  | cons m ms ih =>
    intro vs hs F z z' ow f os r s dj nf tr e
    cases r with
    | nil => cases m <;> simp only [lendA, reduceCtorEq] at e
    | cons r rs d =>
      rename_i v h vs hs f g
      cases m with
      | false =>
        simp only [lendA] at e
        cases e1 : takeD h z with
        | none => rw [e1] at e; cases e
        | some p =>
          obtain ⟨d1, z1⟩ := p
          simp only [e1] at e
          cases e2 : lendA ms hs z1 with
          | none => simp only [e2] at e; cases e
          | some q =>
            obtain ⟨os2, z2⟩ := q
            simp only [e2, Option.some.injEq, Prod.mk.injEq] at e
            obtain ⟨rfl, rfl⟩ := e
            obtain ⟨F1, ow1, s1, rd1, st1⟩ := r.takeD s (fun a h => dj a (by simp [h])) (fun a h => nf a (by simp [h])) (fun a h => tr a (by simp [h])) e1
            have dg : ∀ a ∈ g, ¬ (Own ow a ∨ a ∈ f) := fun a h q => q.elim (dj a (by simp [h])) fun q => d a q h
            have dj1 : ∀ a ∈ g, ¬ Own ow1 a := fun a h q => by
              rcases st1.fp a q with x | x
              · exact dg a h x
              · obtain ⟨u, e⟩ := tr a (by simp [h])
                rw [x] at e; cases e
            have nf1 : ∀ a ∈ g, ¬ F1 a := fun a h q => by
              rcases st1.fr a q with x | x | x
              · exact nf a (by simp [h]) x
              · exact dg a h x
              · obtain ⟨u, e⟩ := tr a (by simp [h])
                rw [x] at e; cases e
            obtain ⟨F2, ow2, f2, s2, ros, st2, d2⟩ := ih (rs.stp st1 dg) s1 dj1 nf1 (fun a h => tr a (by simp [h])) e2
            refine ⟨F2, ow2, [] ++ f2, s2, .cons (.val (rd1.lat st2.lat)) ros (fun a h => by cases h), ?_, d2⟩
            have t1 : Stp H F (fun a => Own ow a ∨ a ∈ f ++ g) H F1 (fun a => Own ow1 a ∨ a ∈ g) := by
              refine ⟨st1.lat, st1.there, fun a o np e => st1.stay a o (fun q => np (q.elim .inl fun q => .inr (by simp [q]))) e, fun a h => ?_, fun a h => ?_, fun a h => h.elim (st1.nf a) (nf1 a), fun a h => h.elim (st1.tr a) fun h => tr a (by simp [h]), st1.ft⟩
              · rcases st1.fr a h with x | x | x
                · exact .inl x
                · exact .inr (.inl (x.elim .inl fun x => .inr (by simp [x])))
                · exact .inr (.inr x)
              · rcases h with h | h
                · rcases st1.fp a h with x | x
                  · exact .inl (x.elim .inl fun x => .inr (by simp [x]))
                  · exact .inr x
                · exact .inl (.inr (by simp [h]))
            exact t1.trans st2
      | true =>
        cases h with
        | tmp o =>
          simp only [lendA] at e
          cases e2 : lendA ms hs z with
          | none => simp only [e2] at e; cases e
          | some q =>
            obtain ⟨os2, z2⟩ := q
            simp only [e2, Option.some.injEq, Prod.mk.injEq] at e
            obtain ⟨rfl, rfl⟩ := e
            obtain ⟨F2, ow2, f2, s2, ros, st2, d2⟩ := ih rs s (fun a h => dj a (by simp [h])) (fun a h => nf a (by simp [h])) (fun a h => tr a (by simp [h])) e2
            have hf : ∀ a ∈ f, ¬ (Own ow a ∨ a ∈ g) := fun a h q => q.elim (dj a (by simp [h])) fun q => d a h q
            have r' : RepO G H F _ o f := r
            have t0 : Stp H F (fun a => Own ow a ∨ a ∈ f ++ g) H F (fun a => (Own ow a ∨ a ∈ g) ∨ a ∈ f) := (Stp.refl (P := fun a => Own ow a ∨ a ∈ f ++ g) (fun a h => h.elim (s.nfo a) (nf a)) (fun a h => h.elim (s.own a) (tr a)) s.ft).weak fun a h => by
              rcases h with (h | h) | h
              · exact .inl h
              · exact .inr (by simp [h])
              · exact .inr (by simp [h])
            obtain ⟨c1, c2⟩ := t0.frame hf st2
            refine ⟨F2, ow2, f ++ f2, s2, .cons (r'.stp st2 hf) ros (fun a h q => c2 a h (.inr q)), c1.weak fun a h => ?_, fun a h q => ?_⟩
            · rcases h with h | h
              · exact .inl (.inl h)
              · rcases List.mem_append.mp h with h | h
                · exact .inr h
                · exact .inl (.inr h)
            · rcases List.mem_append.mp h with h | h
              · exact c2 a h (.inl q)
              · exact d2 a h q
        | slot i =>
          simp only [lendA] at e
          cases e1 : rd z i with
          | none => simp only [e1] at e; cases e
          | some o =>
            simp only [e1] at e
            cases e2 : lendA ms hs (z.set i none) with
            | none => simp only [e2] at e; cases e
            | some q =>
              obtain ⟨os2, z2⟩ := q
              simp only [e2, Option.some.injEq, Prod.mk.injEq] at e
              obtain ⟨rfl, rfl⟩ := e
              obtain ⟨rfl, ei⟩ := r
              obtain ⟨v', e3, r'⟩ := s.rep i o e1
              rw [ei] at e3
              cases e3
              obtain ⟨F2, ow2, f2, s2, ros, st2, d2⟩ := ih rs (s.lend i) (fun a h q => dj a (by simp [h]) (own_ow0 q)) (fun a h => nf a (by simp [h])) (fun a h => tr a (by simp [h])) e2
              have hf : ∀ a ∈ ow i, ¬ (Own (ow0 ow i) a ∨ a ∈ g) := fun a h q => q.elim (ow0_dj s a h) fun q => dj a (by simp [q]) ⟨i, h⟩
              have t0 : Stp H F (fun a => Own ow a ∨ a ∈ [] ++ g) H F (fun a => (Own (ow0 ow i) a ∨ a ∈ g) ∨ a ∈ ow i) := (Stp.refl (P := fun a => Own ow a ∨ a ∈ [] ++ g) (fun a h => h.elim (s.nfo a) (nf a)) (fun a h => h.elim (s.own a) (tr a)) s.ft).weak fun a h => by
                rcases h with (h | h) | h
                · exact .inl (own_ow0 h)
                · exact .inr (by simp [h])
                · exact .inl ⟨i, h⟩
              obtain ⟨c1, c2⟩ := t0.frame hf st2
              refine ⟨F2, ow2, ow i ++ f2, s2, .cons (r'.stp st2 hf) ros (fun a h q => c2 a h (.inr q)), c1.weak fun a h => ?_, fun a h q => ?_⟩
              · rcases h with h | h
                · exact .inl (.inl h)
                · rcases List.mem_append.mp h with h | h
                  · exact .inr h
                  · exact .inl (.inr h)
              · rcases List.mem_append.mp h with h | h
                · exact c2 a h (.inl q)
                · exact d2 a h q
theorem back_ok : ∀ {ms : List Bool} {vs : List V} {hs : List Hd} {F0 : Fz} {H0 : Hp} {z : Zs} {ow : Ows} {f g : List Addr} {outs : List (Option O)}, HReps G H0 F0 σ vs hs f → Outs G H F ms vs outs g → SRep G H F σ z ow → (∀ a ∈ g, ¬ Own ow a) → (∀ a ∈ g, ¬ F a) →
    ∃ ow', SRep G H F σ (backA ms hs outs z) ow' ∧ ∀ a, Own ow' a → Own ow a ∨ a ∈ g := by
  intro ms
  induction ms with
  | nil =>
    intro vs hs F0 H0 z ow f g outs r ro s dj nf
    cases ro
    exact ⟨ow, by cases hs <;> exact s, fun a h => .inl h⟩
  | cons m ms ih =>
    intro vs hs F0 H0 z ow f g outs r ro s dj nf
    cases r with
    | nil => cases ro
    | cons r rs d =>
      rename_i v h vs hs f1 g1
      cases ro with
      | drop ro =>
        obtain ⟨ow', s', k⟩ := ih rs ro s dj nf
        refine ⟨ow', ?_, k⟩
        unfold backA
        exact s'
      | keep r1 ro d1 =>
        rename_i o os f2 g2
        cases h with
        | tmp _ =>
          obtain ⟨ow', s', k⟩ := ih rs ro s (fun a h => dj a (by simp [h])) (fun a h => nf a (by simp [h]))
          refine ⟨ow', ?_, fun a h => (k a h).elim .inl fun h => .inr (by simp [h])⟩
          unfold backA
          exact s'
        | slot i =>
          obtain ⟨rfl, ei⟩ := r
          have s1 := s.give ei r1 (fun a h q => dj a (by simp [h]) (own_ow0 q)) (fun a h => nf a (by simp [h]))
          obtain ⟨ow', s', k⟩ := ih rs ro s1 (fun a h q => by
            rcases own_ow1 q with q | q
            · exact dj a (by simp [h]) (own_ow0 q)
            · exact d1 a q h) (fun a h => nf a (by simp [h]))
          refine ⟨ow', s', fun a h => ?_⟩
          rcases k a h with h | h
          · rcases own_ow1 h with h | h
            · exact .inl (own_ow0 h)
            · exact .inr (by simp [h])
          · exact .inr (by simp [h])
end
theorem Outs.pre {G : Gx} {H : Hp} {F : Fz} : ∀ {ms ms' : List Bool} {vs vs' : List V} {outs : List (Option O)} {g : List Addr}, Outs G H F (ms ++ ms') (vs ++ vs') outs g → ms.length = vs.length → (∀ m ∈ ms', m = false) → Outs G H F ms vs outs g
  | [], ms', vs, vs', outs, g, h, hl, hf => by
    have : g = [] := by
      have e : vs = [] := by cases vs with | nil => rfl | cons _ _ => cases hl
      subst e
      have key : ∀ {ms' : List Bool} {vs' : List V} {outs : List (Option O)} {g : List Addr}, Outs G H F ms' vs' outs g → (∀ m ∈ ms', m = false) → g = [] := by
        intro ms' vs' outs g h hf
        induction h with
        | nil => rfl
        | keep _ _ _ _ => exact absurd (hf true (by simp)) (by decide)
        | drop _ ih => exact ih fun m hm => hf m (by simp [hm])
      exact key h hf
    subst this
    exact .nil
  | m :: ms, ms', [], vs', outs, g, h, hl, hf => by cases hl
  | m :: ms, ms', v :: vs, vs', outs, g, h, hl, hf => by
    cases h with
    | keep r ro d => exact .keep r (Outs.pre ro (by simpa using hl) hf) d
    | drop ro => exact .drop (Outs.pre ro (by simpa using hl) hf)
theorem lendA_len : ∀ {ms : List Bool} {hs : List Hd} {z z' : Zs} {os : List O}, lendA ms hs z = some (os, z') → ms.length = hs.length ∧ os.length = ms.length := by
  intro ms
  induction ms with
  | nil =>
    intro hs z z' os e
    cases hs with
    | nil => simp only [lendA, Option.some.injEq, Prod.mk.injEq] at e; exact ⟨rfl, by rw [← e.1]; rfl⟩
    | cons _ _ => simp only [lendA, reduceCtorEq] at e
  | cons m ms ih =>
    intro hs z z' os e
    cases hs with
    | nil => cases m <;> simp only [lendA, reduceCtorEq] at e
    | cons h hs =>
      cases m with
      | false =>
        simp only [lendA] at e
        cases e1 : takeD h z with
        | none => rw [e1] at e; cases e
        | some p =>
          simp only [e1] at e
          cases e2 : lendA ms hs p.2 with
          | none => simp only [e2] at e; cases e
          | some q =>
            simp only [e2, Option.some.injEq, Prod.mk.injEq] at e
            obtain ⟨a, b⟩ := ih e2
            exact ⟨by rw [List.length_cons, List.length_cons, a], by rw [← e.1, List.length_cons, List.length_cons, b]⟩
      | true =>
        cases h with
        | tmp o =>
          simp only [lendA] at e
          cases e2 : lendA ms hs z with
          | none => simp only [e2] at e; cases e
          | some q =>
            simp only [e2, Option.some.injEq, Prod.mk.injEq] at e
            obtain ⟨a, b⟩ := ih e2
            exact ⟨by rw [List.length_cons, List.length_cons, a], by rw [← e.1, List.length_cons, List.length_cons, b]⟩
        | slot i =>
          simp only [lendA] at e
          cases e1 : rd z i with
          | none => rw [e1] at e; cases e
          | some o =>
            simp only [e1] at e
            cases e2 : lendA ms hs (z.set i none) with
            | none => simp only [e2] at e; cases e
            | some q =>
              simp only [e2, Option.some.injEq, Prod.mk.injEq] at e
              obtain ⟨a, b⟩ := ih e2
              exact ⟨by rw [List.length_cons, List.length_cons, a], by rw [← e.1, List.length_cons, List.length_cons, b]⟩
theorem HReps.len {G : Gx} {H : Hp} {F : Fz} {σ : L2.St} {vs : List V} {hs : List Hd} {f : List Addr} (r : HReps G H F σ vs hs f) : vs.length = hs.length := by
  induction r with
  | nil => rfl
  | cons _ _ _ ih => rw [List.length_cons, List.length_cons, ih]
theorem RepOs.appendV {G : Gx} {H : Hp} {F : Fz} {vs ws : List V} {os : List O} {ds : List D} {f : List Addr} (r : RepOs G H F vs os f) (s : RepDs G H F ws ds) : RepOs G H F (vs ++ ws) (os ++ ds.map .val) f := by
  have key : ∀ {ws : List V} {ds : List D}, RepDs G H F ws ds → RepOs G H F ws (ds.map .val) [] := by
    intro ws ds s
    induction ds generalizing ws with
    | nil => cases s; exact .nil
    | cons d ds ih => cases s with | cons h t => exact .cons (f := []) (.val h) (ih t) (fun a h => by cases h)
  induction r with
  | nil => exact key s
  | cons h _ d ih => exact .cons h ih d
/-- what a def promises -/
def spZ (G : Gx) (run : List O → RR) (modes : List Bool) : Sp := fun vs H Q E => vs.length = modes.length ∧ ∃ F os f, FT H F ∧ RepOs G H F vs os f ∧ (∀ a ∈ f, ¬ F a) ∧
  match run os with
  | .ret o outs => ∀ v H' F' g g', Stp H F (fun x => x ∈ f) H' F' (fun x => x ∈ g ∨ x ∈ g') → RepO G H' F' v o g → Outs G H' F' modes vs outs g' → (∀ a ∈ g, a ∉ g') → Q v H'
  | .exc c fs outs => ∀ d H' F' g' fvs, Stp H F (fun x => x ∈ f) H' F' (fun x => x ∈ g') → H' d = some (.xd fvs) → RepFs G H' F' fvs fs → Outs G H' F' modes vs outs g' → E (.ref (G.cls c)) (some d) H'
  | .bad => False
end Z
end

section
set_option maxRecDepth 100007
/-! Calls of defs, methods, properties, classes. -/
namespace Z
open PySem L2 PyProof.Rows
/-- the names with two bars -/
inductive Dun where | eq | contains | len | str | bool | neg | add | sub | mul | and_ | iter | call
deriving DecidableEq
def Dun.nm : Dun → Str
  | .eq => "__eq__" | .contains => "__contains__" | .len => "__len__" | .str => "__str__" | .bool => "__bool__" | .neg => "__neg__" | .add => "__add__" | .sub => "__sub__" | .mul => "__mul__" | .and_ => "__and__" | .iter => "__iter__" | .call => "__call__"
/-- types, own classes by number -/
inductive Ty where | own (c : Nat) | int | bl | str | non | tup | lst | dct
deriving DecidableEq
/-- the defs by number: what they give, which parameters are lent, the defaults; the classes: methods, properties, __init__, fields -/
structure Ct where
  run : Nat → List O → RR
  modes : Nat → List Bool
  dfs : Nat → List D
  meth : Nat → Nat → Option Nat
  prop : Nat → Nat → Option Nat
  init : Nat → Option Nat
  flds : Nat → List Nat
  gk : Nat → D
  wf : Nat
  dun : Nat → Dun → Option Nat
  isi : Ty → Ty → Option Bool
  ic : Nat → Bool
/-- the def number f stands at a and keeps its promise -/
def FnAt (P : Program) (w : World) (K : PySem.W.Frag) (mg : Str → Option Value) (base : Heap) (G : Gx) (C : Ct) (k f : Nat) (a : Addr) : Prop :=
  ∃ fd ps, FnOk P w K mg base (L2.CX P w) k a fd ps (spZ G (C.run f) (C.modes f)) ∧
    ∀ j, j ≤ (C.dfs f).length → ∃ dvs ds, Vals dvs ds ∧ Binds K fd ps ds ∧ dvs.length = j ∧ ∀ H F, RepDs G H F dvs ((C.dfs f).drop ((C.dfs f).length - j))
/-- the modes of n arguments that are given, the others being defaults -/
def given (C : Ct) (f n : Nat) : Option (List Bool × List D) :=
  if n ≤ (C.modes f).length ∧ (C.modes f).length - n ≤ (C.dfs f).length ∧ ((C.modes f).drop n).all (fun m => !m) = true then some ((C.modes f).take n, (C.dfs f).drop ((C.dfs f).length - ((C.modes f).length - n))) else none
/-- the call of def f with operands -/
def apF (C : Ct) (f : Nat) (hs : List Hd) (z1 : Zs) : R Hd := match given C f hs.length with
  | some (ms, dfs) => match lendA ms hs z1 with
    | some (os, z2) => match C.run f (os ++ dfs.map .val) with
      | .ret o outs => .ok (.tmp o) (backA ms hs outs z2)
      | .exc c fs outs => .exc c fs (backA ms hs outs z2)
      | .bad => .bad
    | none => .bad
  | none => .bad
section
variable {P : Program} {w : World} {K : PySem.W.Frag} {mg : Str → Option Value} {base : Heap} {G : Gx} {C : Ct} {W : WX} {k f : Nat} {a : Addr}
/-- a promise used: the operands stand for z1, the end is as apF says -/
theorem apF_ok {σ : L2.St} {H H1 : Hp} {F F1 : Fz} {ow ow1 : Ows} {hs : List Hd} {vs : List V} {z1 : Zs} {fp : List Addr} {Q : VK} (fn : FnAt P w K mg base G C k f a) (run : RunG G W σ (relE G σ) H F ow (apF C f hs z1) Q) (st : Stp H F (Own ow) H1 F1 (fun x => Own ow1 x ∨ x ∈ fp)) (s : SRep G H1 F1 σ z1 ow1) (r : HReps G H1 F1 σ vs hs fp) (d : ∀ x ∈ fp, ¬ Own ow1 x) :
    ∃ fd ps dvs ds, FnOk P w K mg base (L2.CX P w) k a fd ps (spZ G (C.run f) (C.modes f)) ∧ Vals dvs ds ∧ Binds K fd ps ds ∧ spZ G (C.run f) (C.modes f) (vs ++ dvs) H1 Q (WE W σ) := by
  obtain ⟨fd, ps, fn, df⟩ := fn
  unfold apF at run
  cases eg : given C f hs.length with
  | none => simp only [eg] at run; exact run.elim
  | some p =>
    obtain ⟨ms, dfs⟩ := p
    simp only [eg] at run
    unfold given at eg
    split at eg
    · rename_i hg
      simp only [Option.some.injEq, Prod.mk.injEq] at eg
      obtain ⟨rfl, rfl⟩ := eg
      obtain ⟨dvs, ds, hv, hb, hj, hd⟩ := df _ hg.2.1
      refine ⟨fd, ps, dvs, ds, fn, hv, hb, ?_⟩
      cases el : lendA ((C.modes f).take hs.length) hs z1 with
      | none => simp only [el] at run; exact run.elim
      | some q =>
        obtain ⟨os, z2⟩ := q
        simp only [el] at run
        obtain ⟨F2, ow2, f2, s2, ros, st2, d2⟩ := lend_ok r s d (fun a h => st.nf a (.inr h)) (fun a h => st.tr a (.inr h)) el
        have stt := st.trans st2
        have hlen := r.len
        refine ⟨?_, F2, _, f2, s2.ft, ros.appendV (hd H1 F2), fun a h => st2.nf a (.inr h), ?_⟩
        · rw [List.length_append, hj, hlen]; omega
        · have hms : (C.modes f).take hs.length ++ (C.modes f).drop hs.length = C.modes f := List.take_append_drop _ _
          have hfalse : ∀ m ∈ (C.modes f).drop hs.length, m = false := fun m hm => by
            have := List.all_eq_true.mp hg.2.2 m hm
            cases m
            · rfl
            · cases this
          have hl2 : ((C.modes f).take hs.length).length = vs.length := by rw [List.length_take, hlen]; omega
          have swap : Stp H F (Own ow) H1 F2 (fun x => x ∈ f2 ∨ Own ow2 x) := stt.weak fun x h => h.symm
          cases er : C.run f (os ++ List.map .val ((C.dfs f).drop ((C.dfs f).length - ((C.modes f).length - hs.length)))) with
          | bad => simp only [er] at run; exact run.elim
          | ret o outs =>
            simp only [er] at run ⊢
            intro v H' F' g g' stc ro ou dg
            rw [← hms] at ou
            have ou := ou.pre hl2 hfalse
            obtain ⟨c1, c2⟩ := swap.frame (fun x h q => d2 x q h) stc
            have s3 := s2.stp stc fun x h q => d2 x q h
            obtain ⟨ow5, s5, o5⟩ := back_ok r ou s3 (fun a h q => c2 a q (.inr h)) (fun a h => stc.nf a (.inr h))
            refine run v H' F' ow5 g (c1.weak fun x h => ?_) s5 ro fun x h q => ?_
            · rcases h with h | h
              · rcases o5 x h with h | h
                · exact .inr h
                · exact .inl (.inr h)
              · exact .inl (.inl h)
            · rcases o5 x q with q | q
              · exact c2 x q (.inl h)
              · exact dg x h q
          | exc c fs outs =>
            simp only [er] at run ⊢
            intro dd H' F' g' fvs stc e rf ou
            rw [← hms] at ou
            have ou := ou.pre hl2 hfalse
            obtain ⟨c1, c2⟩ := swap.frame (fun x h q => d2 x q h) stc
            have s3 := s2.stp stc fun x h q => d2 x q h
            obtain ⟨ow5, s5, o5⟩ := back_ok r ou s3 (fun a h q => c2 a q h) (fun a h => stc.nf a h)
            exact run dd H' F' ow5 fvs (c1.weak fun x h => (o5 x h).elim .inr .inl) s5 e rf
    · cases eg
end
section
variable {G : Gx} {C : Ct} {W : WX} {X : Cx} {k f : Nat} {a : Addr} {e o : Expr} {es : List Expr} {x m : Str} {p pos apos : Pos} {mA : Zs → R (List Hd)} {mo : Zs → R Hd}
abbrev FnX (X : Cx) (G : Gx) (C : Ct) (k f : Nat) (a : Addr) : Prop := FnAt X.prog X.w X.K X.mg X.base G C k f a
@[simp] def evCallF (C : Ct) (f : Nat) (mA : Zs → R (List Hd)) : Zs → R Hd := fun z => (mA z).bind fun hs z1 => apF C f hs z1
/-- f(e, ..) -/
theorem z_call (fn : FnX X G C k f a) (tk : Takes X W) (hr : Room k X.A) (hg : Gl X x) (hm : X.mg x = some (.ref a)) (hk : PySem.W.keepIn X.K (.ref a) = true) (ha : PA X (e :: es) (tZA G W mA)) (hdb : (x == ("__debug__" : Str)) = false)
    (he : starEach (e :: es) X.env = (false, eval e X.env) :: starEach es X.env) (hpl : (backTo pos (starEach es X.env)).any (·.1) = false) : PE X (.Call (.Name x p) (e :: es) [] pos) (tZ G W (evCallF C f mA)) := by
  refine ⟨fun pins s σ H Q I h => ?_⟩
  obtain ⟨z, ow, F, sr, run⟩ := h
  refine wpAny_Call_Name_kw (ld_glob I hg hm ?_ hdb)
  have hA : tZA G W mA σ H (fun vs H1 => ∃ fd ps dvs ds, FnOk X.prog X.w X.K X.mg X.base (L2.CX X.prog X.w) k a fd ps (spZ G (C.run f) (C.modes f)) ∧ Vals dvs ds ∧ Binds X.K fd ps ds ∧ spZ G (C.run f) (C.modes f) (vs ++ dvs) H1 Q (WE W σ)) :=
    ⟨z, ow, F, sr, RunG.first sr run fun hs z1 v1 H1 F1 ow1 f1 _ st1 s1 r1 d1 run1 => apF_ok fn run1 st1 s1 r1 d1⟩
  refine PySem.W.callWith_K (h₀ := X.base) I.ok.mod.kin hk (thn (ha.run pos pins s σ H _ I hA) fun us s1 ⟨vs, H1, I1, r, fd, ps, dvs, ds, fn, hv, hb, q⟩ => ⟨I1.kIn, ?_⟩) he hpl
  exact run_fnSD fn hr hb hv (passAt tk σ) I1 r q
/-- f() -/
theorem z_call0 (fn : FnX X G C k f a) (tk : Takes X W) (hr : Room k X.A) (hg : Gl X x) (hm : X.mg x = some (.ref a)) (hk : PySem.W.keepIn X.K (.ref a) = true) (hdb : (x == ("__debug__" : Str)) = false) : PE X (.Call (.Name x p) [] [] pos) (tZ G W (evCallF C f evNil)) := by
  refine ⟨fun pins s σ H Q I h => ?_⟩
  obtain ⟨z, ow, F, sr, run⟩ := h
  refine wpAny_Call_Name_kw (ld_glob I hg hm ?_ hdb)
  obtain ⟨fd, ps, dvs, ds, fn, hv, hb, q⟩ := apF_ok (hs := []) (vs := []) (fp := []) fn run (sr.refl.weak fun x h => h.elim id fun h => by cases h) sr .nil (fun x h => by cases h)
  exact PySem.W.callWith_K0 I.kIn hk (run_fnSD (us := []) (vs := []) fn hr hb hv (passAt tk σ) I .nil q)
theorem mcall_eq {env : Env} {args : List Expr} (hb : attributeBase o m env (eval o env) = eval o env) (hst : (backTo pos (starEach args env)).all (!·.1) = true) (hn : args.length < 30) (hl : (apos.endLine == pos.line) = true) :
    eval (.Call (.Attribute o m apos) args [] pos) env = (do
      let ov ← eval o env
      standAt apos.atName
      let (f, first) ← holding [ov] (getMethod ov m (do return (← importBound o env).getD true))
      callWith pos f first (backTo pos (starEach args env)) (backToKw pos (keywordEach [] env))) := by
  have hform : methodCallForm (args.length + ([] : List Keyword).length) (backTo pos (starEach args env)) (backToKw pos (keywordEach [] env)) = true := by
    unfold methodCallForm
    rw [hst]
    have : (backToKw pos (keywordEach [] env)) = [] := rfl
    rw [this]
    simp
    omega
  have e1 : eval (.Call (.Attribute o m apos) args [] pos) env = (do
      let ov ← attributeBase o m env (eval o env)
      standAt apos.atName
      methodCall o m apos pos env ov (args.length + ([] : List Keyword).length) (backTo pos (starEach args env)) (backToKw pos (keywordEach [] env))) := by
    rw [eval]
  rw [e1, hb]
  congr 1
  funext ov
  congr 1
  funext _
  unfold methodCall
  rw [hform]
  have e2 : calleeOf true o env ov m = getMethod ov m (do return (← importBound o env).getD true) := rfl
  have e3 : methodCallPos true o env apos pos = pure pos := by
    unfold methodCallPos
    rw [hl]
    rfl
  rw [e2, e3]
  rfl
/-- methods of the class c -/
def MethAt (X : Cx) (G : Gx) (C : Ct) (k : Nat) : Prop := ∀ c m f, C.meth c m = some f → m < G.nm.length ∧ Cls X.K (G.cls c) ∧ ∃ a, Meth X.K (G.cls c) (G.name m) a ∧ FnX X G C k f a
@[simp] def evMeth (C : Ct) (m : Nat) (mo : Zs → R Hd) (mA : Zs → R (List Hd)) : Zs → R Hd := fun z => (mo z).bind fun h z1 => match peek h z1 with
  | some (.obj c fs) => match C.meth c m, lookN m fs with
    | some f, none => (mA z1).bind fun hs z2 => apF C f (h :: hs) z2
    | _, _ => .bad
  | _ => .bad
theorem z_meth {mn : Nat} (hK : G.K = X.K) (g : GOk G C.flds) (me : MethAt X G C k) (tk : Takes X W) (hr : Room k X.A) (ho : PE X o (tZ G W mo)) (ha : PA X (e :: es) (tZA G W mA)) (hab : attributeBase o (G.name mn) X.env (eval o X.env) = eval o X.env)
    (he : starEach (e :: es) X.env = (false, eval e X.env) :: starEach es X.env) (hpl : (backTo pos (starEach es X.env)).any (·.1) = false) (hall : (backTo pos (starEach (e :: es) X.env)).all (!·.1) = true) (hn : (e :: es).length < 30) (hl : (apos.endLine == pos.line) = true) :
    PE X (.Call (.Attribute o (G.name mn) apos) (e :: es) [] pos) (tZ G W (evMeth C mn mo mA)) := by
  refine ⟨fun pins s σ H Q I h => ?_⟩
  obtain ⟨z, ow, F, sr, run⟩ := h
  have hO : tZ G W mo σ H (fun x H1 => ∃ a0 dx fs c f a, x = .ref a0 ∧ H1 a0 = some (.ins (G.cls c) dx fs) ∧ fs.lookup (G.name mn) = none ∧ Cls X.K (G.cls c) ∧ Meth X.K (G.cls c) (G.name mn) a ∧
      tZA G W mA σ H1 fun vs H2 => ∃ fd ps dvs ds, FnOk X.prog X.w X.K X.mg X.base (L2.CX X.prog X.w) k a fd ps (spZ G (C.run f) (C.modes f)) ∧ Vals dvs ds ∧ Binds X.K fd ps ds ∧ spZ G (C.run f) (C.modes f) ((x :: vs) ++ dvs) H2 Q (WE W σ)) := by
    refine ⟨z, ow, F, sr, RunG.first sr run fun h z1 v1 H1 F1 ow1 f1 _ st1 s1 r1 d1 run1 => ?_⟩
    cases e1 : peek h z1 with
    | none => simp only [e1] at run1; exact run1.elim
    | some d =>
      cases d <;> simp only [e1] at run1 <;> try exact run1.elim
      rename_i c fs
      have r2 : RepR G H1 F1 v1 (.obj c fs) := HRep.peek r1 s1 e1
      obtain ⟨a0, dx, fvs, rfl, ha0, rfs⟩ := r2.objs
      cases e2 : C.meth c mn with
      | none => simp only [e2] at run1; exact run1.elim
      | some f =>
        cases e3 : lookN mn fs with
        | some _ => simp only [e2, e3] at run1; exact run1.elim
        | none =>
          simp only [e2, e3] at run1
          obtain ⟨hmn, cl, a, hm, fn⟩ := me c mn f e2
          have hlk := lookFs g hmn rfs
          rw [e3] at hlk
          refine ⟨a0, dx, fvs, c, f, a, rfl, ha0, hlk, cl, hm, z1, ow1, F1, s1, RunG.bind st1 d1 run1 fun hs z2 v2 H2 F2 ow2 f2 _ st2 s2 r2' d2 st d run2 => ?_⟩
          refine apF_ok (vs := .ref a0 :: v2) (fp := f1 ++ f2) fn run2 (st.weak fun x h => ?_) s2 (.cons (HRep.stp r1 st2 d1) r2' fun x h => (d x h).2) fun x h => ?_
          · rcases h with h | h
            · exact .inl h
            · rcases List.mem_append.mp h with h | h
              · exact .inr (.inr h)
              · exact .inr (.inl h)
          · rcases List.mem_append.mp h with h | h
            · exact (d x h).1
            · exact d2 x h
  refine PySem.W.methodCall_KW (thn (ho.run pins s σ H _ I hO) fun u s1 ⟨x, H1, I1, rx, a0, dx, fs, c, f, a, ex, ea, l, cl, hm, q⟩ => ?_) (mcall_eq hab hall hn hl)
  subst ex
  obtain rfl : u = Value.ref a0 := rx
  refine getmeth_ok I1 ea cl hm l ?_
  refine PySem.W.callWith_K (first := [.ref a0]) (h₀ := X.base) I.ok.mod.kin hm.kp (thn (ha.run pos pins s1 σ H1 _ I1 q) fun us s2 ⟨vs, H2, I2, r, fd, ps, dvs, ds, fn, hv, hb, q2⟩ => ⟨I2.kIn, ?_⟩) he hpl
  exact run_fnSD (us := .ref a0 :: us) (vs := .ref a0 :: vs) fn hr hb hv (passAt tk σ) I2 (.cons rfl r) q2
theorem z_meth0 {mn : Nat} (hK : G.K = X.K) (g : GOk G C.flds) (me : MethAt X G C k) (tk : Takes X W) (hr : Room k X.A) (ho : PE X o (tZ G W mo)) (hab : attributeBase o (G.name mn) X.env (eval o X.env) = eval o X.env) (hl : (apos.endLine == pos.line) = true) :
    PE X (.Call (.Attribute o (G.name mn) apos) [] [] pos) (tZ G W (evMeth C mn mo evNil)) := by
  refine ⟨fun pins s σ H Q I h => ?_⟩
  obtain ⟨z, ow, F, sr, run⟩ := h
  have hO : tZ G W mo σ H (fun x H1 => ∃ a0 dx fs c f a, x = .ref a0 ∧ H1 a0 = some (.ins (G.cls c) dx fs) ∧ fs.lookup (G.name mn) = none ∧ Cls X.K (G.cls c) ∧ Meth X.K (G.cls c) (G.name mn) a ∧
      ∃ fd ps dvs ds, FnOk X.prog X.w X.K X.mg X.base (L2.CX X.prog X.w) k a fd ps (spZ G (C.run f) (C.modes f)) ∧ Vals dvs ds ∧ Binds X.K fd ps ds ∧ spZ G (C.run f) (C.modes f) ([x] ++ dvs) H1 Q (WE W σ)) := by
    refine ⟨z, ow, F, sr, RunG.first sr run fun h z1 v1 H1 F1 ow1 f1 _ st1 s1 r1 d1 run1 => ?_⟩
    cases e1 : peek h z1 with
    | none => simp only [e1] at run1; exact run1.elim
    | some d =>
      cases d <;> simp only [e1] at run1 <;> try exact run1.elim
      rename_i c fs
      have r2 : RepR G H1 F1 v1 (.obj c fs) := HRep.peek r1 s1 e1
      obtain ⟨a0, dx, fvs, rfl, ha0, rfs⟩ := r2.objs
      cases e2 : C.meth c mn with
      | none => simp only [e2] at run1; exact run1.elim
      | some f =>
        cases e3 : lookN mn fs with
        | some _ => simp only [e2, e3] at run1; exact run1.elim
        | none =>
          simp only [e2, e3, evNil, R.bind] at run1
          obtain ⟨hmn, cl, a, hm, fn⟩ := me c mn f e2
          have hlk := lookFs g hmn rfs
          rw [e3] at hlk
          refine ⟨a0, dx, fvs, c, f, a, rfl, ha0, hlk, cl, hm, ?_⟩
          have := apF_ok (vs := [.ref a0]) (fp := f1 ++ []) fn run1 (st1.weak fun x h => h.elim .inl fun h => .inr (by simpa using h)) s1 (.cons r1 .nil fun x h => by simp) fun x h => d1 x (by simpa using h)
          exact this
  refine PySem.W.methodCall_KW (thn (ho.run pins s σ H _ I hO) fun u s1 ⟨x, H1, I1, rx, a0, dx, fs, c, f, a, ex, ea, l, cl, hm, fd, ps, dvs, ds, fn, hv, hb, q⟩ => ?_) (mcall_eq hab rfl (by decide) hl)
  subst ex
  obtain rfl : u = Value.ref a0 := rx
  refine getmeth_ok I1 ea cl hm l ?_
  exact PySem.W.callWith_K0 (first := [.ref a0]) I1.kIn hm.kp (run_fnSD (us := [.ref a0]) (vs := [.ref a0]) fn hr hb hv (passAt tk σ) I1 (.cons rfl .nil) q)
end
end Z
end

section
set_option maxRecDepth 100007
/-! Attributes, properties, classes called. -/
namespace Z
open PySem L2 PyProof.Rows
/-- properties of the class c -/
def PropAt (X : Cx) (G : Gx) (C : Ct) (k : Nat) : Prop := ∀ c n f, C.prop c n = some f → n < G.nm.length ∧ Cls X.K (G.cls c) ∧ ∃ p a, PropOf X.K (G.cls c) (G.name n) p a ∧ FnX X G C k f a
@[simp] def noX (r : R Hd) : R Hd := match r with
  | .exc _ _ _ => .bad
  | r => r
@[simp] def evAttr (C : Ct) (n : Nat) (mo : Zs → R Hd) : Zs → R Hd := fun z => (mo z).bind fun h z1 => match peek h z1 with
  | some (.obj c fs) => match C.prop c n with
    | some f => noX (apF C f [h] z1)
    | none => if (C.flds c).contains n = true then (match lookN n fs with
      | some d => .ok (.tmp (.val d)) z1
      | none => .bad) else .bad
  | _ => .bad
section
variable {G : Gx} {C : Ct} {W : WX} {X : Cx} {k f : Nat} {a : Addr} {e o : Expr} {es : List Expr} {x m : Str} {p pos apos : Pos} {mA : Zs → R (List Hd)} {mo : Zs → R Hd}
theorem RunG.noX {σ : L2.St} {H : Hp} {F : Fz} {ow : Ows} {r : R Hd} {Q : VK} (run : RunG G W σ (relE G σ) H F ow (Z.noX r) Q) (W1 : WX) : RunG G W1 σ (relE G σ) H F ow r Q := by
  cases r with
  | ok h z => exact run
  | exc c fs z => exact run.elim
  | bad => exact run.elim
/-- e.f -/
theorem z_attr {n : Nat} (hK : G.K = X.K) (g : GOk G C.flds) (pr : PropAt X G C k) (hr : Room (k + 1) X.A) (he : PE X e (tZ G W mo)) (hab : attributeBase e (G.name n) X.env (eval e X.env) = eval e X.env) : PE X (.Attribute e (G.name n) pos) (tZ G W (evAttr C n mo)) := by
  refine ⟨fun pins s σ H Q I h => ?_⟩
  obtain ⟨z, ow, F, sr, run⟩ := h
  have hO : tZ G W mo σ H (fun x H1 => ∃ a0 dx fs c, x = .ref a0 ∧ H1 a0 = some (.ins (G.cls c) dx fs) ∧ Cls X.K (G.cls c) ∧ ((NoAttr X.K (G.cls c) (G.name n) ∧ ∃ v, fs.lookup (G.name n) = some v ∧ Q v H1) ∨
      ∃ p a f fd ps dvs ds, PropOf X.K (G.cls c) (G.name n) p a ∧ FnOk X.prog X.w X.K X.mg X.base (L2.CX X.prog X.w) k a fd ps (spZ G (C.run f) (C.modes f)) ∧ Vals dvs ds ∧ Binds X.K fd ps ds ∧ spZ G (C.run f) (C.modes f) ([x] ++ dvs) H1 Q (WE (fun _ _ _ _ => False) σ))) := by
    refine ⟨z, ow, F, sr, RunG.first sr run fun h z1 v1 H1 F1 ow1 f1 _ st1 s1 r1 d1 run1 => ?_⟩
    cases e1 : peek h z1 with
    | none => simp only [e1] at run1; exact run1.elim
    | some d =>
      cases d <;> simp only [e1] at run1 <;> try exact run1.elim
      rename_i c fs
      have r2 : RepR G H1 F1 v1 (.obj c fs) := HRep.peek r1 s1 e1
      obtain ⟨a0, dx, fvs, rfl, ha0, rfs⟩ := r2.objs
      cases e2 : C.prop c n with
      | none =>
        simp only [e2] at run1
        split at run1
        · rename_i hc
          have hc : n ∈ C.flds c := by simpa using hc
          cases e3 : lookN n fs with
          | none => simp only [e3] at run1; exact run1.elim
          | some d =>
            simp only [e3] at run1
            have hlk := lookFs g (g.na c n hc).2 rfs
            rw [e3] at hlk
            obtain ⟨v, hv, rv⟩ := hlk
            exact ⟨a0, dx, fvs, c, rfl, ha0, hK ▸ g.cl c n hc, .inl ⟨hK ▸ (g.na c n hc).1, v, hv, run1 v H1 F1 ow1 [] (st1.weak fun x h => h.elim .inl fun h => by cases h) s1 (.val rv) fun x h => by cases h⟩⟩
        · exact run1.elim
      | some f =>
        simp only [e2] at run1
        obtain ⟨hmn, cl, p, a, hm, fn⟩ := pr c n f e2
        obtain ⟨fd, ps, dvs, ds, fn, hv, hb, q⟩ := apF_ok (W := fun _ _ _ _ => False) (vs := [.ref a0]) (fp := f1 ++ []) fn (run1.noX _) (st1.weak fun x h => h.elim .inl fun h => .inr (by simpa using h)) s1 (.cons r1 .nil fun x h => by simp) fun x h => d1 x (by simpa using h)
        exact ⟨a0, dx, fvs, c, rfl, ha0, cl, .inr ⟨p, a, f, fd, ps, dvs, ds, hm, fn, hv, hb, q⟩⟩
  refine attr_of hab (thn (he.run pins s σ H _ I hO) fun u s1 ⟨x, H1, I1, rx, a0, dx, fs, c, ex, ea, cl, q⟩ => ?_)
  subst ex
  obtain rfl : u = Value.ref a0 := rx
  rcases q with ⟨na, v, l, q⟩ | ⟨p, a, f, fd, ps, dvs, ds, hp, fn, hv, hb, q⟩
  · exact getattr_ok I1 ea cl na l fun u' s2 I2 ru => ⟨v, H1, I2, ru, q⟩
  · exact getprop_ok I1 ea cl hp fn hr hb hv passL q
/-! ### a class called -/
def evMkA (C : Ct) (c : Nat) (hs : List Hd) (z1 : Zs) : R Hd := match C.init c with
  | some f => match given C f (hs.length + 1) with
    | some (true :: ms, dfs) => match lendA ms hs z1 with
      | some (os, z2) => match C.run f (.obj c [] :: (os ++ dfs.map .val)) with
        | .ret (.val .non) (some o :: outs) => .ok (.tmp o) (backA ms hs outs z2)
        | .exc c fs (_ :: outs) => .exc c fs (backA ms hs outs z2)
        | _ => .bad
      | none => .bad
    | _ => .bad
  | none => .bad
@[simp] def evMk (C : Ct) (c : Nat) (mA : Zs → R (List Hd)) : Zs → R Hd := fun z => (mA z).bind fun hs z1 => evMkA C c hs z1
def MkAt (X : Cx) (G : Gx) (C : Ct) (k c : Nat) : Prop := ∀ f, C.init c = some f → ∃ a, Mk X.K (G.cls c) a ∧ FnX X G C k f a
end
section
variable {P : Program} {w : World} {K : PySem.W.Frag} {mg : Str → Option Value} {base : Heap} {G : Gx} {C : Ct} {W : WX} {k f c : Nat} {a : Addr}
theorem stp_old {H : Hp} {F : Fz} {p : Addr} {u : HO} (ft : FT H F) (hp : H p = none) : Stp H F (fun _ => False) (upd H p u) F (fun _ => False) := (stp_new ft hp).weak fun _ h => h.elim
theorem mk_ok {σ : L2.St} {H H1 : Hp} {F F1 : Fz} {ow ow1 : Ows} {hs : List Hd} {vs : List V} {z1 : Zs} {fp : List Addr} {Q : VK} (ei : C.init c = some f) (fn : FnAt P w K mg base G C k f a) (run : RunG G W σ (relE G σ) H F ow (evMkA C c hs z1) Q) (st : Stp H F (Own ow) H1 F1 (fun x => Own ow1 x ∨ x ∈ fp)) (s : SRep G H1 F1 σ z1 ow1) (r : HReps G H1 F1 σ vs hs fp) (d : ∀ x ∈ fp, ¬ Own ow1 x) :
    ∃ fd ps dvs ds, FnOk P w K mg base (L2.CX P w) k a fd ps (spZ G (C.run f) (C.modes f)) ∧ Vals dvs ds ∧ Binds K fd ps ds ∧ ∀ x dx, H1 x = none → H1 dx = none → dx ≠ x →
      spZ G (C.run f) (C.modes f) (.ref x :: (vs ++ dvs)) (upd (upd H1 dx (.own x)) x (.ins (G.cls c) dx [])) (fun v H2 => v = .non ∧ Q (.ref x) H2) (WE W σ) := by
  obtain ⟨fd, ps, fn, df⟩ := fn
  unfold evMkA at run
  simp only [ei] at run
  cases eg : given C f (hs.length + 1) with
  | none => simp only [eg] at run; exact run.elim
  | some p =>
    obtain ⟨ms0, dfs⟩ := p
    cases ms0 with
    | nil => simp only [eg] at run; exact run.elim
    | cons m ms =>
    cases m with
    | false => simp only [eg] at run; exact run.elim
    | true =>
    simp only [eg] at run
    unfold given at eg
    split at eg
    · rename_i hg
      simp only [Option.some.injEq, Prod.mk.injEq] at eg
      obtain ⟨ems, rfl⟩ := eg
      obtain ⟨dvs, ds, hv, hb, hj, hd⟩ := df _ hg.2.1
      refine ⟨fd, ps, dvs, ds, fn, hv, hb, fun x dx hx hdx ndx => ?_⟩
      cases el : lendA ms hs z1 with
      | none => simp only [el] at run; exact run.elim
      | some q =>
        obtain ⟨os, z2⟩ := q
        simp only [el] at run
        obtain ⟨F2, ow2, f2, s2, ros, st2, d2⟩ := lend_ok r s d (fun a h => st.nf a (.inr h)) (fun a h => st.tr a (.inr h)) el
        have stt := st.trans st2
        have hlen := r.len
        have hlm : (C.modes f).length = hs.length + 1 + ((C.modes f).length - (hs.length + 1)) := by omega
        have hx1 : upd H1 dx (.own x) x = none := by rw [upd_ne ndx.symm]; exact hx
        have stA := stp_old (u := .own x) s2.ft hdx
        have stB := stp_new (H := upd H1 dx (.own x)) (u := .ins (G.cls c) dx []) (fun a h => by
          obtain ⟨o, e⟩ := s2.ft a h
          exact ⟨o, ext_new hdx a o e⟩) hx1
        have stN : Stp H1 F2 (fun _ => False) (upd (upd H1 dx (.own x)) x (.ins (G.cls c) dx [])) F2 (fun y => y ∈ [x]) := stA.trans stB
        have xf2 : x ∉ f2 := fun h => by
          obtain ⟨o, e⟩ := st2.tr x (.inr h)
          rw [hx] at e; cases e
        have xow : ¬ Own ow2 x := fun h => by
          obtain ⟨o, e⟩ := st2.tr x (.inl h)
          rw [hx] at e; cases e
        have s3 := s2.stp stN fun _ _ h => h
        refine ⟨?_, F2, .obj c [] :: (os ++ ((C.dfs f).drop ((C.dfs f).length - ((C.modes f).length - (hs.length + 1)))).map .val), [x] ++ f2, s3.ft, .cons (.obj upd_same .nil) (((ros.stp stN fun _ _ h => h)).appendV (hd _ F2)) (fun a h q => by rw [List.mem_singleton.mp h] at q; exact xf2 q), fun a h q => ?_, ?_⟩
        · rw [List.length_cons, List.length_append, hj, hlen]; omega
        · rcases List.mem_append.mp h with h | h
          · rw [List.mem_singleton.mp h] at q
            obtain ⟨o, e⟩ := s2.ft x q
            rw [hx] at e; cases e
          · exact st2.nf a (.inr h) q
        · have hms : (true :: ms) ++ (C.modes f).drop (hs.length + 1) = C.modes f := by rw [← ems]; exact List.take_append_drop _ _
          have hfalse : ∀ m ∈ (C.modes f).drop (hs.length + 1), m = false := fun m hm => by
            have := List.all_eq_true.mp hg.2.2 m hm
            cases m
            · rfl
            · cases this
          have hl2 : ms.length = vs.length := by
            have := congrArg List.length ems
            rw [List.length_take, List.length_cons] at this
            rw [hlen]; omega
          obtain ⟨stM, dM⟩ := stt.alloc (t := stN)
          have swap : Stp H F (Own ow) (upd (upd H1 dx (.own x)) x (.ins (G.cls c) dx [])) F2 (fun y => y ∈ [x] ++ f2 ∨ Own ow2 y) := stM.weak fun y h => by
            rcases h with h | h
            · rcases List.mem_append.mp h with h | h
              · exact .inl h
              · exact .inr (.inr h)
            · exact .inr (.inl h)
          have dsw : ∀ y, Own ow2 y → ¬ y ∈ [x] ++ f2 := fun y q h => by
            rcases List.mem_append.mp h with h | h
            · rw [List.mem_singleton.mp h] at q; exact xow q
            · exact d2 y h q
          cases er : C.run f (.obj c [] :: (os ++ List.map .val ((C.dfs f).drop ((C.dfs f).length - ((C.modes f).length - (hs.length + 1)))))) with
          | bad => simp only [er] at run; exact run.elim
          | ret o outs =>
            simp only [er] at run ⊢
            split at run <;> first | exact run.elim | skip
            rotate_left
            · rename_i heq
              cases heq
            rename_i o' outs' heq
            cases heq
            intro v H' F' g g' stc ro ou dg
            cases ro with | val rv =>
            cases rv
            refine ⟨rfl, ?_⟩
            rw [← hms] at ou
            have ou : Outs G H' F' ((true :: ms) ++ (C.modes f).drop (hs.length + 1)) ((.ref x :: vs) ++ dvs) (some o' :: outs') g' := ou
            have ou := ou.pre (by rw [List.length_cons, List.length_cons, hl2]) hfalse
            cases ou with
            | @keep _ _ _ _ _ g1 g2 r1 ou1 dk =>
            have ou := ou1
            obtain ⟨c1, c2⟩ := swap.frame dsw stc
            have s4 := s3.stp stc dsw
            obtain ⟨ow5, s5, o5⟩ := back_ok r ou s4 (fun a h q => c2 a q (.inr (by simp [h]))) (fun a h => stc.nf a (.inr (by simp [h])))
            refine run (.ref x) H' F' ow5 g1 (c1.weak fun y h => ?_) s5 r1 fun y h q => ?_
            · rcases h with h | h
              · rcases o5 y h with h | h
                · exact .inr h
                · exact .inl (.inr (by simp [h]))
              · exact .inl (.inr (by simp [h]))
            · rcases o5 y q with q | q
              · exact c2 y q (.inr (by simp [h]))
              · exact dk y h q
          | exc c2 fs outs =>
            simp only [er] at run ⊢
            split at run <;> try exact run.elim
            · rename_i heq
              cases heq
            · rename_i c3 fs3 o3 outs' heq
              cases heq
              intro dd H' F' g' fvs stc e rf ou
              rw [← hms] at ou
              have ou : Outs G H' F' ((true :: ms) ++ (C.modes f).drop (hs.length + 1)) ((.ref x :: vs) ++ dvs) (o3 :: outs') g' := ou
              have ou := ou.pre (by rw [List.length_cons, List.length_cons, hl2]) hfalse
              cases ou with
              | @keep _ _ _ _ _ g1 g2 r1 ou1 dk =>
              have ou := ou1
              obtain ⟨c1, c2⟩ := swap.frame dsw stc
              have s4 := s3.stp stc dsw
              obtain ⟨ow5, s5, o5⟩ := back_ok r ou s4 (fun a h q => c2 a q (by simp [h])) (fun a h => stc.nf a (by simp [h]))
              exact run dd H' F' ow5 fvs (c1.weak fun y h => (o5 y h).elim .inr fun h => .inl (by simp [h])) s5 e rf
    · cases eg
end
section
variable {G : Gx} {C : Ct} {W : WX} {X : Cx} {k c : Nat} {f fa : Addr} {e : Expr} {es : List Expr} {x : Str} {p pos : Pos} {mA : Zs → R (List Hd)} {sp : Sp} {fd : FuncData} {ps : List Str} {ds : List Value} {dvs : List V}
theorem run_makeS {CX : CXT} {Cc : Addr} {pins : List (Addr × Obj)} {σ : L2.St} {H : Hp} {s : Shared} {Q : VK} {E : XK} {us : List Value} {vs : List V} (M : Mk X.K Cc f) (F : FnOk X.prog X.w X.K X.mg X.base CX k f fd ps sp) (hr : Room (k + 1) X.A) (hb : Binds X.K fd ps ds) (hd : Vals dvs ds)
    (hx : PassesAt CX X σ E) (I : Inv X pins σ H s) (r : Vals vs us)
    (h : ∀ x dx, H x = none → H dx = none → dx ≠ x → sp (.ref x :: (vs ++ dvs)) (upd (upd H dx (.own x)) x (.ins Cc dx [])) (fun v H2 => v = .non ∧ Q (.ref x) H2) E) :
    wpAny (model X.prog X.w) X.A (call (.ref Cc) us) (EP X pins σ Q) X.xe s := by
  have hq := h (s.heap.objs.size + 1) s.heap.objs.size (I.hok.fresh (Nat.le_succ _)) (I.hok.fresh (Nat.le_refl _)) (Nat.ne_of_lt (Nat.lt_succ_self _))
  have I2 := Inv.made (C := Cc) I
  have r2 : Vals (V.ref (s.heap.objs.size + 1) :: (vs ++ dvs)) (Value.ref (s.heap.objs.size + 1) :: (us ++ ds)) := .cons rfl (r.append hd)
  have hl : (Value.ref (s.heap.objs.size + 1) :: us ++ ds).length = ps.length := by
    have e := r2.length
    rw [F.len _ _ _ _ hq] at e
    exact e.symm
  refine wpAny_call (make_map (f := f) I.kIn M.makes M.init (beq_iff_eq.mp M.fn) (codeAny_mono (F.run _ X.stack _ _ ⟨Value.ref (s.heap.objs.size + 1) :: us, []⟩ (Value.ref (s.heap.objs.size + 1) :: (us ++ ds)) _ _ E (hr.make Cc us [])
    (I2.env0.make Cc us []) (hb _ (Value.ref (s.heap.objs.size + 1) :: us) I2.kIn hl) r2 hq) fun r s' hq' => ?_))
  cases r with
  | error e => exact hx pins _ _ e s' I2 hq'
  | ok fl =>
    cases fl with
    | ret u =>
      obtain ⟨v, H', I3, rv, ev, q3⟩ := I2.after hq'
      subst ev
      exact ⟨rv, ⟨V.ref (s.heap.objs.size + 1), H', I3, rfl, q3⟩⟩
    | next => exact False.elim hq'
    | brk => exact False.elim hq'
    | cont => exact False.elim hq'
/-- C(e, ..) -/
theorem z_mk (mk : MkAt X G C k c) (tk : Takes X W) (hr : Room (k + 1) X.A) (hg : Gl X x) (hm : X.mg x = some (.ref (G.cls c))) (hk : PySem.W.keepIn X.K (.ref (G.cls c)) = true) (ha : PA X (e :: es) (tZA G W mA)) (hdb : (x == ("__debug__" : Str)) = false)
    (he : starEach (e :: es) X.env = (false, eval e X.env) :: starEach es X.env) (hpl : (backTo pos (starEach es X.env)).any (·.1) = false) : PE X (.Call (.Name x p) (e :: es) [] pos) (tZ G W (evMk C c mA)) := by
  refine ⟨fun pins s σ H Q I h => ?_⟩
  obtain ⟨z, ow, F, sr, run⟩ := h
  refine wpAny_Call_Name_kw (ld_glob I hg hm ?_ hdb)
  have hA : tZA G W mA σ H (fun vs H1 => ∃ f fa fd ps dvs ds, Mk X.K (G.cls c) fa ∧ FnOk X.prog X.w X.K X.mg X.base (L2.CX X.prog X.w) k fa fd ps (spZ G (C.run f) (C.modes f)) ∧ Vals dvs ds ∧ Binds X.K fd ps ds ∧ ∀ x dx, H1 x = none → H1 dx = none → dx ≠ x →
      spZ G (C.run f) (C.modes f) (.ref x :: (vs ++ dvs)) (upd (upd H1 dx (.own x)) x (.ins (G.cls c) dx [])) (fun v H2 => v = .non ∧ Q (.ref x) H2) (WE W σ)) :=
    ⟨z, ow, F, sr, RunG.first sr run fun hs z1 v1 H1 F1 ow1 f1 _ st1 s1 r1 d1 run1 => by
      cases ei : C.init c with
      | none => unfold evMkA at run1; simp only [ei] at run1; exact run1.elim
      | some f =>
        obtain ⟨fa, M, fn⟩ := mk f ei
        obtain ⟨fd, ps, dvs, ds, fn, hv, hb, q⟩ := mk_ok ei fn run1 st1 s1 r1 d1
        exact ⟨f, fa, fd, ps, dvs, ds, M, fn, hv, hb, q⟩⟩
  refine PySem.W.callWith_K (h₀ := X.base) I.ok.mod.kin hk (thn (ha.run pos pins s σ H _ I hA) fun us s1 ⟨vs, H1, I1, r, f, fa, fd, ps, dvs, ds, M, fn, hv, hb, q⟩ => ⟨I1.kIn, ?_⟩) he hpl
  exact run_makeS M fn hr hb hv (passAt tk σ) I1 r q
theorem z_mk0 (mk : MkAt X G C k c) (tk : Takes X W) (hr : Room (k + 1) X.A) (hg : Gl X x) (hm : X.mg x = some (.ref (G.cls c))) (hk : PySem.W.keepIn X.K (.ref (G.cls c)) = true) (hdb : (x == ("__debug__" : Str)) = false) : PE X (.Call (.Name x p) [] [] pos) (tZ G W (evMk C c evNil)) := by
  refine ⟨fun pins s σ H Q I h => ?_⟩
  obtain ⟨z, ow, F, sr, run⟩ := h
  refine wpAny_Call_Name_kw (ld_glob I hg hm ?_ hdb)
  cases ei : C.init c with
  | none => simp only [evMk, evNil, R.bind, evMkA, ei] at run; exact run.elim
  | some f =>
    obtain ⟨fa, M, fn⟩ := mk f ei
    obtain ⟨fd, ps, dvs, ds, fn, hv, hb, q⟩ := mk_ok (hs := []) (vs := []) (fp := []) ei fn run (sr.refl.weak fun x h => h.elim id fun h => by cases h) sr .nil (fun x h => by cases h)
    exact PySem.W.callWith_K0 I.kIn hk (run_makeS (us := []) (vs := []) M fn hr hb hv (passAt tk σ) I .nil q)
end
end Z
end

section
set_option maxRecDepth 100007
/-! Chains; what is known by the text's form alone. -/
namespace Z
open PySem L2 PyProof.Rows
@[simp] def evChain (f f' : D → D → Option O) (m1 m2 m3 : Zs → R Hd) : Zs → R Hd := fun z => (m1 z).bind fun x z1 => (m2 z1).bind fun y z2 => match peek x z2, peek y z2 with
  | some d, some e => match f d e with
    | some (.val (.bl true)) => (m3 z2).bind fun w z3 => ap2 f' y w z3
    | some (.val (.bl false)) => .ok (.tmp (.val (.bl false))) z2
    | _ => .bad
  | _, _ => .bad
@[simp] def evIfT (c : Zs → R Bool) (c1 c2 : Zs → R Bool) : Zs → R Bool := fun z => (c z).bind fun b z1 => if b = true then c1 z1 else c2 z1
section
variable {G : Gx} {W : WX} {X : Cx} {a b c e : Expr} {es rest : List Expr} {pos : Pos} {m1 m2 m3 : Zs → R Hd} {c1 c2 c3 : Zs → R Bool} {σ : L2.St} {H : Hp} {f f' : D → D → Option O}
theorem chain_read {Q : VK} (h : tZ G W (evChain f f' m1 m2 m3) σ H Q) : tChain (rV2 G f) (rV2 G f') (tZ G W m1) (tZ G W m2) (tZ G W m3) σ H Q := by
  obtain ⟨z, ow, F, s, run⟩ := h
  refine ⟨z, ow, F, s, RunG.first s run fun x z1 v1 H1 F1 ow1 f1 _ st1 s1 r1 d1 run1 => ?_⟩
  refine ⟨z1, ow1, F1, s1, RunG.bind st1 d1 run1 fun y z2 v2 H2 F2 ow2 f2 _ st2 s2 r2 d2 st d run2 => ?_⟩
  have r1' := HRep.stp r1 st2 d1
  cases e1 : peek x z2 with
  | none => simp only [e1] at run2; exact run2.elim
  | some dx =>
    cases e2 : peek y z2 with
    | none => simp only [e1, e2] at run2; exact run2.elim
    | some dy =>
      simp only [e1, e2] at run2
      cases e3 : f dx dy with
      | none => simp only [e3] at run2; exact run2.elim
      | some o =>
        have key : ∀ b, o = .val (.bl b) → ∀ (K : V → Hp → Prop), (∀ H3 F3, Stp H2 F2 (fun _ => False) H3 F3 (fun x => x ∈ ([] : List Addr)) → K (.bl b) H3) → Makes G H2 F2 o K := fun b eb K hk v3 H3 F3 g t r3 => by
          subst eb
          cases r3 with | val r3 =>
          cases r3
          exact hk H3 F3 t
        cases o with
        | val dd =>
          cases dd with
          | bl bb =>
            refine ⟨F2, dx, dy, _, s2.ft, r1'.peek s2 e1, HRep.peek r2 s2 e2, e3, key bb rfl _ fun H3 F3 t => ⟨bb, rfl, ?_⟩⟩
            obtain ⟨a1, a2⟩ := st.alloc t
            have s3 := s2.stp t fun _ _ h => h
            cases bb with
            | false =>
              simp only [e3] at run2
              simp only [Bool.false_eq_true, if_false]
              exact run2 (.bl false) H3 F3 ow2 [] (a1.weak fun x h => h.elim (fun h => .inr (.inl h)) fun h => by cases h) s3 (.val (.bl false)) fun x h => by cases h
            | true =>
              simp only [e3] at run2
              simp only [if_true]
              refine ⟨z2, ow2, F3, s3, RunG.bind (fP := fun x => x ∈ f2 ∨ x ∈ f1) (a1.weak fun x h => ?_) (fun x h q => ?_) run2 fun w z3 v4 H4 F4 ow4 f4 _ st4 s4 r4 d4 stt dd run3 => ?_⟩
              · rcases h with h | h
                · exact .inr (.inl h)
                · exact .inr (.inr h)
              · rcases h with h | h
                · exact d2 x h q
                · exact (d x h).1 q
              · have r2' : HRep G H3 F3 σ v2 y f2 := HRep.stp (P := fun _ => False) r2 t fun _ _ h => h
                exact RunG.ap2 run3 (stt.weak fun x h => h) s4 (HRep.stp r2' st4 d2) r4
          | _ => simp only [e3] at run2; exact run2.elim
        | _ => simp only [e3] at run2; exact run2.elim
theorem z_chain {op op' : CmpOp} (ho : OpR X (compareOp op) (rV2 G f)) (ho' : OpR X (compareOp op') (rV2 G f')) (ha : PE X a (tZ G W m1)) (hb : PE X b (tZ G W m2)) (hc : PE X c (tZ G W m3)) (hm : lastMarks [op, op'] [b, c] = false) :
    PE X (.Compare a [op, op'] [b, c] pos) (tZ G W (evChain f f' m1 m2 m3)) := PE.imp (pe_chain ho ho' ha hb hc hm) fun _ _ _ h => chain_read h
theorem zt_chain {op op' : CmpOp} (ho : OpR X (compareOp op) (rV2 G f)) (ho' : OpR X (compareOp op') (rV2 G f')) (ha : PE X a (tZ G W m1)) (hb : PE X b (tZ G W m2)) (hc : PE X c (tZ G W m3)) (hm : lastMarks [op, op'] [b, c] = false) :
    PT X (.Compare a [op, op'] [b, c] pos) (tZT G W (evBl (evChain f f' m1 m2 m3))) := PT.imp (pt_chain ho ho' ha hb hc hm) fun _ _ _ h => chain_read (bl_read h)
theorem pt_ife {tA t1 t2 : TT} (hc : PT X c tA) (ha : PT X a t1) (hb : PT X b t2) : PT X (.IfExp c a b pos) (fun σ H Q => tA σ H fun k H1 => if k = true then t1 σ H1 Q else t2 σ H1 Q) := by
  refine ⟨fun pins s σ H Q I h => ?_⟩
  rw [PySem.isTrue]
  refine wpAny_bind (thn (hc.run pins s σ H _ I h) fun d s1 ⟨H1, I1, q1⟩ => ?_)
  cases d with
  | true => exact ha.run pins s1 σ H1 Q I1 q1
  | false => exact hb.run pins s1 σ H1 Q I1 q1
theorem zt_ife (hc : PT X c (tZT G W c1)) (ha : PT X a (tZT G W c2)) (hb : PT X b (tZT G W c3)) : PT X (.IfExp c a b pos) (tZT G W (evIfT c1 c2 c3)) := PT.imp (pt_ife hc ha hb) fun σ H Q h => by
  obtain ⟨z, ow, F, s, run⟩ := h
  refine ⟨z, ow, F, s, RunG.first s run fun x z1 v1 H1 F1 ow1 f1 _ st1 s1 r1 d1 run1 => ?_⟩
  obtain ⟨rfl, rfl⟩ := r1
  have go : ∀ {r : R Bool}, RunG G W σ (relT σ) H F ow r Q → RunG G W σ (relT σ) H1 F1 ow1 r Q := fun {r} h => RunG.bind (k := fun b z => .ok b z) (Q := Q) (fP := fun _ => False) (st1.weak fun x h => h.elim .inl False.elim) (fun _ h => h.elim) (by cases r <;> exact h) fun a z2 v H2 F2 ow2 g _ st2 s2 r2 d2 st _ run2 => by
    obtain ⟨rfl, rfl⟩ := r2
    exact run2 v H2 F2 ow2 [] (st.weak fun x h => h.elim .inl fun h => by cases h) s2 ⟨rfl, rfl⟩ fun x h => by cases h
  cases v1 with
  | true =>
    simp only [if_true] at run1 ⊢
    exact ⟨z1, ow1, F1, s1, go run1⟩
  | false =>
    simp only [Bool.false_eq_true, if_false] at run1 ⊢
    exact ⟨z1, ow1, F1, s1, go run1⟩
/-- a constant of the module -/
theorem z_glob {v : V} {u : Value} {d : D} {x : Str} (hg : Gl X x) (hm : X.mg x = some u) (ru : RelV v u) (hr : ∀ H F, RepD G H F v d) (hdb : (x == ("__debug__" : Str)) = false) : PE X (.Name x pos) (tZ G W (evD d)) := z_const (pe_glob hg hm ru hdb) hr
end
/-! ### forms -/
def isStar : Expr → Bool
  | .Starred _ _ => true
  | _ => false
theorem star_cons {e : Expr} {es : List Expr} {env : Env} (h : isStar e = false) : starEach (e :: es) env = (false, eval e env) :: starEach es env := by
  cases e <;> first | rfl | cases h
def noStars (es : List Expr) : Bool := es.all fun e => !isStar e
theorem noStars_cons {e : Expr} {es : List Expr} (h : noStars (e :: es) = true) : isStar e = false ∧ noStars es = true := by
  unfold noStars at h ⊢
  rw [List.all_cons, Bool.and_eq_true] at h
  exact ⟨by simpa using h.1, h.2⟩
theorem star_any {env : Env} {pos : Pos} : ∀ {es : List Expr}, noStars es = true → (backTo pos (starEach es env)).any (·.1) = false
  | [], _ => rfl
  | e :: es, h => by
    obtain ⟨h1, h2⟩ := noStars_cons h
    rw [star_cons h1]
    exact star_any h2
theorem star_all {env : Env} {pos : Pos} : ∀ {es : List Expr}, noStars es = true → (backTo pos (starEach es env)).all (!·.1) = true
  | [], _ => rfl
  | e :: es, h => by
    obtain ⟨h1, h2⟩ := noStars_cons h
    rw [star_cons h1]
    exact star_all h2
def isComp : Expr → Bool
  | .ListComp .. => true | .SetComp .. => true | .DictComp .. => true
  | _ => false
theorem swaps_no {e : Expr} {t : Option Expr} {l : Nat} {env : Env} (h : isComp e = false) : swapsWith e t l env = pure false := by
  cases e <;> first | rfl | cases h
def isSetE : Expr → Bool
  | .Set .. => true
  | _ => false
theorem fold_no {e : Expr} {env : Env} (h : isSetE e = false) : ∀ x, foldedSetIterable e env x = pure x := by
  intro x
  cases e <;> first | rfl | cases h
def isSup : Expr → Bool
  | .Call (.Name id _) [] [] _ => id == ("super" : Str)
  | _ => false
theorem attr_no {o : Expr} {m : Str} {env : Env} {w : Sem Value} (h : isSup o = false) : attributeBase o m env w = w := by
  unfold attributeBase
  split
  · rename_i id p pos
    have h : (id == ("super" : Str)) = false := h
    have h : (id != ("super" : Str)) = true := by unfold bne; rw [h]; rfl
    rw [h]
    rfl
  · rfl
/-- no test of its own kind -/
def isTst : Expr → Bool
  | .UnaryOp .Not _ _ => true | .BoolOp .. => true | .IfExp .. => true | .Compare .. => true
  | _ => false
theorem true_no {a : Expr} {env : Env} (h : isTst a = false) : ∀ whole, isTrue a env whole = (do let v ← whole; standAt a.pos; holding [v] (truthy v)) := by
  intro whole
  cases a <;> first | rfl | (cases h; done) | skip
  rename_i op x p
  cases op <;> first | rfl | cases h
def isSlc : Expr → Bool
  | .Slice .. => true
  | _ => false
theorem plain_ix {b : Expr} (h : isSlc b = false) : PlainIx b := by
  intro o i
  cases b <;> first | rfl | cases h
def isPar (tg e : Expr) : Bool := match tg, e with
  | .Tuple .., .Tuple .. => true
  | .List .., .Tuple .. => true
  | _, _ => false
theorem swapped_no {tg e : Expr} {env : Env} (h : isPar tg e = false) : swappedStores [tg] e env = pure none := by
  unfold swappedStores
  cases tg <;> cases e <;> first | rfl | cases h
theorem assign_cons {e : Expr} {es : List Expr} {env : Env} (h : isStar e = false) : assignEach (e :: es) env = (false, assign e env) :: assignEach es env := by
  cases e <;> first | rfl | cases h
theorem assign_len {env : Env} : ∀ {es : List Expr}, noStars es = true → (assignEach es env).length = es.length
  | [], _ => rfl
  | e :: es, h => by
    obtain ⟨h1, h2⟩ := noStars_cons h
    rw [assign_cons h1, List.length_cons, List.length_cons, assign_len h2]
theorem assign_star {env : Env} : ∀ {es : List Expr}, noStars es = true → (assignEach es env).findIdx? (·.1) = none
  | [], _ => rfl
  | e :: es, h => by
    obtain ⟨h1, h2⟩ := noStars_cons h
    rw [assign_cons h1, List.findIdx?_cons, assign_star h2]
    rfl
end Z
end

section
set_option maxRecDepth 100007
/-! Own ==, in, len; isinstance. -/
namespace Z
open PySem L2 PyProof.Rows
def DunAt (X : Cx) (G : Gx) (C : Ct) (k : Nat) : Prop := ∀ c u f, C.dun c u = some f → Cls X.K (G.cls c) ∧ ∃ a, Meth X.K (G.cls c) u.nm a ∧ FnX X G C k f a
def tyV (G : Gx) : Ty → Value
  | .own c => .ref (G.cls c) | .int => .type "int" | .bl => .type "bool" | .str => .type "str" | .non => .type "NoneType" | .tup => .type "tuple" | .lst => .type "list" | .dct => .type "dict"
@[simp] def tyD : D → Ty
  | .non => .non | .bl _ => .bl | .int _ => .int | .str _ => .str | .tup _ => .tup | .lst _ => .lst | .scr _ => .lst | .obj c _ => .own c | .dct _ _ => .dct | .set _ => .dct
/-- what isinstance asks of an own class -/
structure IcAt (K : PySem.W.Frag) (C : Addr) : Prop where
  cl : Cls K C
  ha : PySem.W.findIn K (.ref C) "__class__" = some (some (.builtin "object.__class__"))
  hn : PySem.W.specialIn K (.builtin "object.__class__") "__get__" = some (some (.builtin "getset_descriptor.__get__"))
  ht : PySem.W.takesIn K (.builtin "object.__class__") = some true
  hm : PySem.W.mroIn K C (.type "object") = some true
structure IsAt (K : PySem.W.Frag) (G : Gx) (C : Ct) : Prop where
  kit : ∀ t u b, C.isi t u = some b → PySem.W.kitOne K (tyV G t) (tyV G u) = some b
  ic : ∀ c, C.ic c = true → IcAt K (G.cls c)
section
variable {G : Gx} {C : Ct} {W : WX} {X : Cx} {k f : Nat} {a : Addr} {H H1 : Hp} {F : Fz} {v : V} {d e : D}
theorem tyx_ok {K : PySem.W.Frag} (hK : G.K = K) (is : IsAt K G C) (hc : ∀ c, tyD d = .own c → C.ic c = true) (r : RepR G H F v d) : TyX K H v (tyV G (tyD d)) := by
  cases d with
  | non => cases r.non; exact .base .non
  | bl b => cases r.bl; exact .base (.bl b)
  | int i => cases r.int; exact .base (.int i)
  | str x =>
    obtain ⟨rfl, _⟩ := r.str
    exact .base (.str _)
  | tup ds =>
    obtain ⟨a, vs, rfl, hp, _⟩ := r.tups
    rcases hp with hp | ⟨_, o, its, n, h1, h2, _⟩
    · exact .base (.tup hp.2)
    · exact .kTuple (hK ▸ h1) h2
  | lst ds =>
    obtain ⟨a, vs, rfl, hp, _⟩ := r.lsts
    exact .base (.lst hp)
  | scr ns =>
    cases r with
    | of r =>
      cases r with
      | scr h =>
        rcases h with ⟨_, h | ⟨o, h⟩⟩ | ⟨o, its, n, h1, h2, _⟩
        · exact .base (.lst h)
        · exact .base (.frz h)
        · exact .kList (hK ▸ h1) h2
  | obj c fs =>
    obtain ⟨a, dx, fvs, rfl, ha, _⟩ := r.objs
    obtain ⟨h1, h2, h3, h4, h5⟩ := is.ic c (hc c rfl)
    exact .base (.ins ha h1 h2 h3 h4 h5)
  | dct t kvs =>
    obtain ⟨a, rfl, ⟨_, _, ha, _⟩ | ⟨_, _, ha, _⟩⟩ := r.dcts
    · exact .base (.dK ha)
    · exact .base (.dT ha)
  | set ds => cases r with | of r => cases r
@[simp] def icD (C : Ct) : D → Bool
  | .obj c _ => C.ic c
  | .set _ => false
  | _ => true
theorem icD_ok {d : D} (h : icD C d = true) : ∀ c, tyD d = .own c → C.ic c = true := fun c e => by
  cases d <;> simp only [tyD, reduceCtorEq, Ty.own.injEq] at e
  subst e; exact h
@[simp] def isiD (C : Ct) (t : Ty) (d : D) : Option O := if icD C d = true then (C.isi (tyD d) t).map fun b => .val (.bl b) else none
theorem isiD_ok {t : Ty} {o : O} (h : isiD C t d = some o) : ∃ b, C.isi (tyD d) t = some b ∧ o = .val (.bl b) ∧ ∀ c, tyD d = .own c → C.ic c = true := by
  unfold isiD at h
  split at h
  · rename_i hc
    obtain ⟨b, h1, h2⟩ := Option.map_eq_some_iff.mp h
    exact ⟨b, h1, h2.symm, icD_ok hc⟩
  · cases h
/-- isinstance(e, an own class) -/
theorem z_isi {y : Str} {p py pos : Pos} {c : Nat} {ex : Expr} {m1 : Zs → R Hd} (hK : G.K = X.K) (is : IsAt X.K G C) (hg : Gl X "isinstance") (hm : X.mg "isinstance" = none) (he : PE X ex (tZ G W m1)) (hgy : Gl X y) (hmy : X.mg y = some (.ref (G.cls c))) (hdy : (y == ("__debug__" : Str)) = false) (hs : isStar ex = false) :
    PE X (.Call (.Name "isinstance" p) [ex, .Name y py] [] pos) (tZ G W (evOp1 (isiD C (.own c)) m1)) := by
  refine PE.imp (pe_callB call_isi hg hm (by decide +kernel) (pa_cons he (pa_cons (pe_glob hgy hmy (v := .ref (G.cls c)) rfl hdy) pa_nil rfl) (star_cons hs)) (by decide) (by decide) (star_cons hs) rfl) fun σ H Q h => ?_
  obtain ⟨z, ow, F, s, run⟩ := h
  refine ⟨z, ow, F, s, RunG.first s run fun x z1 v1 H1 F1 ow1 f1 _ st1 s1 r1 d1 run1 => ?_⟩
  unfold Z.ap1 at run1
  cases e1 : peek x z1 with
  | none => rw [e1] at run1; exact run1.elim
  | some d =>
    simp only [e1] at run1
    cases e2 : isiD C (.own c) d with
    | none => simp only [e2] at run1; exact run1.elim
    | some o =>
      simp only [e2] at run1
      obtain ⟨b, h1, rfl, h3⟩ := isiD_ok e2
      have rr : RepR G H1 F1 v1 d := HRep.peek r1 s1 e1
      refine ⟨v1, .ref (G.cls c), _, _, b, rfl, .own _, tyx_ok hK is h3 rr, is.kit _ _ _ h1, ?_⟩
      exact run1 (.bl b) H1 F1 ow1 [] (st1.weak fun x h => h.elim .inl fun h => by cases h) s1 (.val (.bl b)) fun x h => by cases h
/-- isinstance(e, a built-in type) -/
def tyB : Ty → Option Str
  | .int => some "int" | .bl => some "bool" | .str => some "str" | .tup => some "tuple" | .lst => some "list" | .dct => some "dict" | _ => none
theorem z_isiB {y : Str} {p py pos : Pos} {t : Ty} {ex : Expr} {m1 : Zs → R Hd} (hK : G.K = X.K) (is : IsAt X.K G C) (hg : Gl X "isinstance") (hm : X.mg "isinstance" = none) (he : PE X ex (tZ G W m1)) (hgy : Gl X y) (hmy : X.mg y = none) (ht : tyB t = some y) (hs : isStar ex = false) :
    PE X (.Call (.Name "isinstance" p) [ex, .Name y py] [] pos) (tZ G W (evOp1 (isiD C t) m1)) := by
  have key : ∀ T : String, tyV G t = .type T → bootBuiltins y = some (.type T) → y ≠ "__name__" → (y == ("__debug__" : Str)) = false → PE X (.Call (.Name "isinstance" p) [ex, .Name y py] [] pos) (tZ G W (evOp1 (isiD C t) m1)) := fun T hT hb hn hd => by
    refine PE.imp (pe_callB call_isi hg hm (by decide +kernel) (pa_cons he (pa_cons (pe_bltn hgy hmy hb (v := .ty T) rfl hn hd) pa_nil rfl) (star_cons hs)) (by decide) (by decide) (star_cons hs) rfl) fun σ H Q h => ?_
    obtain ⟨z, ow, F, s, run⟩ := h
    refine ⟨z, ow, F, s, RunG.first s run fun x z1 v1 H1 F1 ow1 f1 _ st1 s1 r1 d1 run1 => ?_⟩
    unfold Z.ap1 at run1
    cases e1 : peek x z1 with
    | none => rw [e1] at run1; exact run1.elim
    | some d =>
      simp only [e1] at run1
      cases e2 : isiD C t d with
      | none => simp only [e2] at run1; exact run1.elim
      | some o =>
        simp only [e2] at run1
        obtain ⟨b, h1, rfl, h3⟩ := isiD_ok e2
        have rr : RepR G H1 F1 v1 d := HRep.peek r1 s1 e1
        refine ⟨v1, .ty T, _, _, b, rfl, .ty T, tyx_ok hK is h3 rr, hT ▸ is.kit _ _ _ h1, ?_⟩
        exact run1 (.bl b) H1 F1 ow1 [] (st1.weak fun x h => h.elim .inl fun h => by cases h) s1 (.val (.bl b)) fun x h => by cases h
  cases t <;> simp only [tyB, Option.some.injEq, reduceCtorEq] at ht <;> subst ht
  · exact key "int" rfl (by decide +kernel) (by decide) (by decide)
  · exact key "bool" rfl (by decide +kernel) (by decide) (by decide)
  · exact key "str" rfl (by decide +kernel) (by decide) (by decide)
  · exact key "tuple" rfl (by decide +kernel) (by decide) (by decide)
  · exact key "list" rfl (by decide +kernel) (by decide) (by decide)
  · exact key "dict" rfl (by decide +kernel) (by decide) (by decide)
/-! ### a def called with values only -/
def dunF (C : Ct) (f : Nat) (ds : List D) : Option O := if ds.length = (C.modes f).length then (match C.run f (ds.map .val) with
  | .ret o _ => some o
  | _ => none) else none
theorem repOs_val {vs : List V} {ds : List D} (r : RepDs G H F vs ds) : RepOs G H F vs (ds.map .val) [] := by
  induction ds generalizing vs with
  | nil => cases r; exact .nil
  | cons d ds ih => cases r with | cons h t => exact .cons (f := []) (.val h) (ih t) fun a h => by cases h
theorem val_ok {P : Program} {w : World} {K : PySem.W.Frag} {mg : Str → Option Value} {base : Heap} {vs : List V} {ds : List D} {o : O} {Q : VK} (fn : FnAt P w K mg base G C k f a) (ft : FT H F) (r : RepDs G H F vs ds) (e : dunF C f ds = some o) (mk : Makes G H F o Q) (E : XK) :
    ∃ fd ps, FnOk P w K mg base (L2.CX P w) k a fd ps (spZ G (C.run f) (C.modes f)) ∧ Binds K fd ps [] ∧ spZ G (C.run f) (C.modes f) vs H Q E := by
  obtain ⟨fd, ps, fn, df⟩ := fn
  obtain ⟨dvs, ds0, hv, hb, hj, _⟩ := df 0 (Nat.zero_le _)
  have : dvs = [] := List.length_eq_zero_iff.mp hj
  subst this
  cases hv
  unfold dunF at e
  split at e
  · rename_i hl
    refine ⟨fd, ps, fn, hb, by rw [r.length, hl], F, ds.map .val, [], ft, repOs_val r, (fun a h => by cases h), ?_⟩
    cases er : C.run f (ds.map .val) with
    | bad => rw [er] at e; cases e
    | exc _ _ _ => rw [er] at e; cases e
    | ret o' outs =>
      rw [er] at e
      cases e
      intro v H' F' g g' st ro _ _
      exact mk v H' F' g ⟨st.lat, st.there, fun a o _ e => st.stay a o (fun h => by cases h) e, fun a h => (st.fr a h).elim .inl fun h => .inr (h.elim (fun h => by cases h) .inr), fun a h => (st.fp a (.inl h)).elim (fun h => by cases h) .inr, fun a h => st.nf a (.inl h), fun a h => st.tr a (.inl h), st.ft⟩ ro
  · cases e
/-- the def runs, one level down or at the same -/
theorem run_at {A : Around} {pins : List (Addr × Obj)} {σ : L2.St} {s : Shared} {Q : VK} {us : List Value} {vs : List V} {fd : FuncData} {ps : List Str} {sp : Sp} {E' : Value → Shared → Prop} (hA : A.frames = X.A.frames) (hr : Room k A) (fn : FnOk X.prog X.w X.K X.mg X.base (L2.CX X.prog X.w) k a fd ps sp) (hb : Binds X.K fd ps [])
    (I : Inv X pins σ H s) (r : Vals vs us) (h : sp vs H Q E0) : wpAny (model X.prog X.w) A (call (.ref a) us) (EP X pins σ Q) E' s := by
  have hl : us.length = ps.length := by rw [← r.length]; exact fn.len _ _ _ _ h
  have e0 : Env0 X.prog X.w X.K X.mg X.base A X.stack s H := by
    have e := I.env0
    exact ⟨by rw [hA]; exact e.frames, e.mod, e.bs, e.bsz, e.funs, e.frf, e.hok, e.bare⟩
  refine wpAny_call (codeAny_mono (fn.run A X.stack s H ⟨us, []⟩ us vs Q E0 hr e0 (by have := hb s us I.kIn (by simpa using hl); simpa using this) r h) fun r s' hq => ?_)
  cases r with
  | error e => exact (passL (X := X.nox) pins σ H s e s' (I.wish _) hq).elim
  | ok fl =>
    cases fl with
    | ret u => exact I.after hq
    | next => exact hq.elim
    | brk => exact hq.elim
    | cont => exact hq.elim
/-- an operation on two values that are shared -/
def rVD2 (G : Gx) (f : D → D → Option O) : R2 := fun x y H Q => ∃ F d e o, FT H F ∧ RepD G H F x d ∧ RepD G H F y e ∧ f d e = some o ∧ Makes G H F o Q
def onlyB (o : Option O) : Option O := match o with
  | some (.val (.bl b)) => some (.val (.bl b))
  | _ => none
theorem onlyB_ok {o : Option O} {o' : O} (h : onlyB o = some o') : ∃ b, o = some (.val (.bl b)) ∧ o' = .val (.bl b) := by
  unfold onlyB at h
  split at h
  · cases h; exact ⟨_, rfl, rfl⟩
  · cases h
def okNf (C : Ct) (t : Ty) (c : Nat) : Bool := decide (t = .own c) || decide (C.isi t (.own c) = some false)
def eqDu (C : Ct) (d e : D) : Option O := match d with
  | .obj c _ => match C.dun c .eq with
    | some f => if okNf C (tyD e) c = true ∧ icD C e = true then onlyB (dunF C f [d, e]) else none
    | none => none
  | _ => none
def inDu (C : Ct) (neg : Bool) (d e : D) : Option O := match e with
  | .obj c _ => match C.dun c .contains with
    | some f => match onlyB (dunF C f [e, d]) with
      | some (.val (.bl b)) => some (.val (.bl (if neg = true then !b else b)))
      | _ => none
    | none => none
  | _ => none
theorem mk_bl {b : Bool} {Q : VK} {c : Bool} (mk : Makes G H F (.val (.bl c)) Q) (g : Bool → Bool) (hg : g b = c) : Makes G H F (.val (.bl b)) (fun v H' => ∃ b', v = .bl b' ∧ Q (.bl (g b')) H') := fun v H' F' gg st ro => by
  cases ro with | val r =>
  cases r
  exact ⟨b, rfl, by rw [hg]; exact mk (.bl c) H' F' [] (st.weak fun a h => by cases h) (.val (.bl c))⟩
theorem dun_eq (hK : G.K = X.K) (is : IsAt X.K G C) (du : DunAt X G C k) (hr : Room k X.A) (hu : X.A.units < cLine) : OpR X (compareOp .Eq) (rVD2 G (eqDu C)) := by
  intro pins s σ H x y v u Q I rx ry hh
  obtain ⟨F, d, e, o, ft, rd, re, hf, mk⟩ := hh
  unfold eqDu at hf
  cases d <;> simp only [reduceCtorEq] at hf
  rename_i c fs
  cases e1 : C.dun c .eq with
  | none => simp only [e1, reduceCtorEq] at hf
  | some f =>
    simp only [e1] at hf
    split at hf
    · rename_i hnf
      obtain ⟨b, h1, rfl⟩ := onlyB_ok hf
      obtain ⟨cl, a, hm, fn⟩ := du c .eq f e1
      obtain ⟨a0, dx, fvs, ex, ha, _⟩ := (RepR.of rd).objs
      subst ex
      cases (show v = Value.ref a0 from rx)
      have ty : TyX X.K H y (tyV G (tyD e)) := tyx_ok hK is (icD_ok hnf.2) (RepR.of re)
      obtain ⟨P, Z1, p, _⟩ := kit_of I ry ty
      obtain ⟨mA, J, _⟩ := ins_get I.hok ha
      obtain ⟨od, J, _⟩ := J.look
      obtain ⟨m, hF⟩ := I.fr
      obtain ⟨fd, ps, fo, hb, q⟩ := val_ok fn ft (.cons rd (.cons re .nil)) h1 (mk_bl mk id rfl) E0
      have nf : PySem.W.notFirst X.K (G.cls c) (tyV G (tyD e)) = true := by
        unfold PySem.W.notFirst
        have h := hnf.1
        unfold okNf at h
        simp only [Bool.or_eq_true, decide_eq_true_eq] at h
        rcases h with h | h
        · rw [h]
          simp [tyV]
        · have := is.kit _ _ _ h
          unfold PySem.W.kitOne at this
          split at this
          · cases this
          · have h2 : PySem.W.kitCls X.K (tyV G (tyD e)) (.ref (G.cls c)) = some false := this
            simp only [PySem.W.kitCls] at h2
            split at h2
            · rw [h2]; simp
            · cases h2
      refine PySem.W.cmp_K (op := .Eq) (tb := tyV G (tyD e)) hu hF I.ok.mod.kin J ?_ nf hm.at_ hm.fn ?_
      · exact Z1.ty _ _ I.kIn p
      · exact wpAny_mono (run_at rfl hr fo hb I (.cons rx (.cons ry .nil)) q) (fun r s' hq => by
          obtain ⟨v', H', I', rv, b', rfl, hq⟩ := hq
          cases rv
          exact ⟨.bl b', H', I', rfl, hq⟩) fun _ _ x => x
    · cases hf
theorem dun_in (du : DunAt X G C k) (hr : Room k X.A) (neg : Bool) : OpR X (compareOp (if neg = true then .NotIn else .In)) (rVD2 G (inDu C neg)) := by
  intro pins s σ H x y v u Q I rx ry hh
  obtain ⟨F, d, e, o, ft, rd, re, hf, mk⟩ := hh
  unfold inDu at hf
  cases e <;> simp only [reduceCtorEq] at hf
  rename_i c fs
  cases e1 : C.dun c .contains with
  | none => simp only [e1, reduceCtorEq] at hf
  | some f =>
    simp only [e1] at hf
    cases e2 : onlyB (dunF C f [.obj c fs, d]) with
    | none => simp only [e2, reduceCtorEq] at hf
    | some o' =>
      obtain ⟨b, h1, rfl⟩ := onlyB_ok e2
      simp only [e2, Option.some.injEq] at hf
      subst hf
      obtain ⟨cl, a, hm, fn⟩ := du c .contains f e1
      obtain ⟨a0, dx, fvs, ex, ha, _⟩ := (RepR.of re).objs
      subst ex
      cases (show u = Value.ref a0 from ry)
      obtain ⟨mA, J, _⟩ := ins_get I.hok ha
      obtain ⟨od, J, _⟩ := J.look
      obtain ⟨m, hF⟩ := I.fr
      obtain ⟨fd, ps, fo, hb, q⟩ := val_ok fn ft (.cons re (.cons rd .nil)) h1 (mk_bl mk (fun b => if neg = true then !b else b) rfl) E0
      cases neg with
      | false =>
        refine PySem.W.in_K hF I.ok.mod.kin J hm.at_ hm.fn (wpAny_mono (run_at rfl hr fo hb I (.cons ry (.cons rx .nil)) q) (fun r s' hq => ?_) fun _ _ x => x)
        obtain ⟨v', H', I', rv, b', rfl, hq⟩ := hq
        cases rv
        exact wpAny_truthy_bool ⟨.bl b', H', I', rfl, hq⟩
      | true =>
        refine PySem.W.notIn_K hF I.ok.mod.kin J hm.at_ hm.fn (wpAny_mono (run_at rfl hr fo hb I (.cons ry (.cons rx .nil)) q) (fun r s' hq => ?_) fun _ _ x => x)
        obtain ⟨v', H', I', rv, b', rfl, hq⟩ := hq
        cases rv
        exact wpAny_truthy_bool ⟨.bl (!b'), H', I', rfl, hq⟩
end
end Z
end

section
set_option maxRecDepth 100007
/-! Own len; comparisons with own ==; the empty dict. -/
namespace Z
open PySem L2 PyProof.Rows
/-- comparison, also in a dict -/
@[simp] def cmpF : Cop → D → D → Option O
  | .inn => inO false | .notin => inO true | op => cmpO op
@[simp] def isObj : D → Bool
  | .obj _ _ => true
  | _ => false
@[simp] def duC : Cop → D → D → Bool
  | .eq, d, _ => isObj d
  | .inn, _, e => isObj e
  | .notin, _, e => isObj e
  | _, _, _ => false
def dunC (C : Ct) : Cop → D → D → Option O
  | .eq, d, e => eqDu C d e
  | .inn, d, e => inDu C false d e
  | .notin, d, e => inDu C true d e
  | _, _, _ => none
@[simp] def ap2D (f : D → D → Option O) (x y : Hd) (z : Zs) : R Hd := match takeD x z with
  | some (d, z1) => match takeD y z1 with
    | some (e, z2) => match f d e with
      | some o => .ok (.tmp o) z2
      | none => .bad
    | none => .bad
  | none => .bad
@[simp] def apC (C : Ct) (op : Cop) (x y : Hd) (z : Zs) : R Hd := match peek x z, peek y z with
  | some d, some e => if duC op d e = true then ap2D (dunC C op) x y z else ap2 (cmpF op) x y z
  | _, _ => .bad
@[simp] def evCmp (C : Ct) (op : Cop) (m1 m2 : Zs → R Hd) : Zs → R Hd := fun z => (m1 z).bind fun x z1 => (m2 z1).bind fun y z2 => apC C op x y z2
def rCmp (G : Gx) (C : Ct) (op : Cop) : R2 := fun x y H Q => rV2 G (cmpF op) x y H Q ∨ rVD2 G (dunC C op) x y H Q
section
variable {G : Gx} {C : Ct} {W : WX} {X : Cx} {σ : L2.St} {H H1 : Hp} {F F1 : Fz} {z : Zs} {ow ow1 : Ows} {v v' : V} {fp gp : List Addr} {fP : Addr → Prop}
theorem RunG.ap2D {Q : VK} {f2 : D → D → Option O} {h h' : Hd} (run : RunG G W σ (relE G σ) H F ow (Z.ap2D f2 h h' z) Q) (st : Stp H F (Own ow) H1 F1 (fun x => Own ow1 x ∨ x ∈ gp ∨ x ∈ fp)) (s : SRep G H1 F1 σ z ow1) (r : HRep G H1 F1 σ v h fp) (r' : HRep G H1 F1 σ v' h' gp) (d1 : ∀ x ∈ fp, ¬ Own ow1 x ∧ x ∉ gp) (d2 : ∀ x ∈ gp, ¬ Own ow1 x) : rVD2 G f2 v v' H1 Q := by
  unfold Z.ap2D at run
  cases e1 : takeD h z with
  | none => rw [e1] at run; exact run.elim
  | some p =>
    obtain ⟨d, z1⟩ := p
    simp only [e1] at run
    obtain ⟨F2, ow2, s2, rd, st2⟩ := r.takeD s (fun a h => (d1 a h).1) (fun a h => st.nf a (.inr (.inr h))) (fun a h => st.tr a (.inr (.inr h))) e1
    have tg : ∀ a ∈ gp, ∃ u, H1 a = some u := fun a h => st.tr a (.inr (.inl h))
    have n2 : ∀ a ∈ gp, ¬ (Own ow1 a ∨ a ∈ fp) := fun a h q => q.elim (d2 a h) fun q => (d1 a q).2 h
    have dj2 : ∀ a ∈ gp, ¬ Own ow2 a := fun a h q => by
      rcases st2.fp a q with x | x
      · exact n2 a h x
      · obtain ⟨u, e⟩ := tg a h
        rw [x] at e; cases e
    have nf2 : ∀ a ∈ gp, ¬ F2 a := fun a h q => by
      rcases st2.fr a q with x | x | x
      · exact st.nf a (.inr (.inl h)) x
      · exact n2 a h x
      · obtain ⟨u, e⟩ := tg a h
        rw [x] at e; cases e
    have r2 : HRep G H1 F2 σ v' h' gp := HRep.stp r' st2 n2
    have dst : ∀ x, (x ∈ gp) → ¬ (Own ow1 x ∨ x ∈ fp) := n2
    cases e2 : takeD h' z1 with
    | none => simp only [e2] at run; exact run.elim
    | some q =>
      obtain ⟨e, z2⟩ := q
      simp only [e2] at run
      obtain ⟨F3, ow3, s3, re, st3⟩ := r2.takeD s2 dj2 nf2 tg e2
      cases e3 : f2 d e with
      | none => simp only [e3] at run; exact run.elim
      | some o =>
        simp only [e3] at run
        have stA : Stp H F (Own ow) H1 F2 (fun x => Own ow2 x ∨ x ∈ gp) := by
          have a1 : Stp H F (Own ow) H1 F1 (fun x => (Own ow1 x ∨ x ∈ fp) ∨ x ∈ gp) := st.weak fun x h => by
            rcases h with (h | h) | h
            · exact .inl h
            · exact .inr (.inr h)
            · exact .inr (.inl h)
          exact (a1.frame dst st2).1
        exact ⟨F3, d, e, o, s3.ft, rd.lat st3.lat, re, e3, fun v3 H3 F4 g t r3 => RunG.fin run (stA.trans st3) s3 t r3⟩
theorem cmp_read {Q : VK} {op : Cop} {m1 m2 : Zs → R Hd} (h : tZ G W (evCmp C op m1 m2) σ H Q) : tOp (rCmp G C op) (tZ G W m1) (tZ G W m2) σ H Q := by
  obtain ⟨z, ow, F, s, run⟩ := h
  refine ⟨z, ow, F, s, RunG.first s run fun x z1 v1 H1 F1 ow1 f1 _ st1 s1 r1 d1 run1 => ?_⟩
  refine ⟨z1, ow1, F1, s1, RunG.bind st1 d1 run1 fun y z2 v2 H2 F2 ow2 f2 _ st2 s2 r2 d2 st d run2 => ?_⟩
  unfold apC at run2
  cases e1 : peek x z2 with
  | none => rw [e1] at run2; exact run2.elim
  | some dx =>
    cases e2 : peek y z2 with
    | none => rw [e1, e2] at run2; exact run2.elim
    | some dy =>
      simp only [e1, e2] at run2
      split at run2
      · exact .inr (RunG.ap2D run2 st s2 (HRep.stp r1 st2 d1) r2 d d2)
      · exact .inl (RunG.ap2 run2 st s2 (HRep.stp r1 st2 d1) r2)
theorem z_cmpC {op : Cop} {a b : Expr} {pos : Pos} {m1 m2 : Zs → R Hd} (ho : OpR X (compareOp (copOf op)) (rCmp G C op)) (ha : PE X a (tZ G W m1)) (hb : PE X b (tZ G W m2)) (hm : behindInMarks (copOf op) b = false) : PE X (.Compare a [copOf op] [b] pos) (tZ G W (evCmp C op m1 m2)) := PE.imp (pe_cmpR ho ha hb hm) fun _ _ _ h => cmp_read h
theorem zt_cmpC {op : Cop} {a b : Expr} {pos : Pos} {m1 m2 : Zs → R Hd} (ho : OpR X (compareOp (copOf op)) (rCmp G C op)) (ha : PE X a (tZ G W m1)) (hb : PE X b (tZ G W m2)) (hm : behindInMarks (copOf op) b = false) : PT X (.Compare a [copOf op] [b] pos) (tZT G W (evBl (evCmp C op m1 m2))) := PT.imp (pt_cmpR ho ha hb hm) fun σ H Q h => cmp_read (bl_read h)
theorem rcmp_ok {k : Nat} (hK : G.K = X.K) (is : IsAt X.K G C) (du : DunAt X G C k) (hr : Room k X.A) (hu : X.A.units + 65 < cLine) (op : Cop) : OpR X (compareOp (copOf op)) (rCmp G C op) := by
  have h1 : OpR X (compareOp (copOf op)) (rV2 G (cmpF op)) := by
    cases op
    case inn => exact in_ok hK hu
    case notin => exact notin_ok hK hu
    all_goals exact cop_ok hK hu _
  refine OpR.or h1 ?_
  cases op
  case eq => exact dun_eq hK is du hr (by omega)
  case inn => exact dun_in du hr false
  case notin => exact dun_in du hr true
  all_goals
    intro pins s σ H x y v u Q I rx ry hh
    obtain ⟨F, d, e, o, ft, rd, re, hf, mk⟩ := hh
    simp only [dunC, reduceCtorEq] at hf
/-! ### len of an own thing -/
def lenDu (C : Ct) (d : D) : Option O := match d with
  | .obj c _ => match C.dun c .len with
    | some f => match dunF C f [d] with
      | some (.val (.int n)) => if 0 ≤ n ∧ n < 9223372036854775808 then some (.val (.int n)) else none
      | _ => none
    | none => none
  | _ => none
@[simp] def evLen (C : Ct) (mA : Zs → R (List Hd)) : Zs → R Hd := fun z => (mA z).bind fun hs z1 => match hs with
  | [h] => match peek h z1 with
    | some d => if isObj d = true then (match takeD h z1 with
      | some (d', z2) => match lenDu C d' with
        | some o => .ok (.tmp o) z2
        | none => .bad
      | none => .bad) else apN biLen [h] z1
    | none => .bad
  | _ => .bad
def rVD1 (G : Gx) (f : D → Option O) : List V → Hp → VK → Prop := fun xs H Q => ∃ F x d o, xs = [x] ∧ FT H F ∧ RepD G H F x d ∧ f d = some o ∧ Makes G H F o Q
theorem len_own {k : Nat} (du : DunAt X G C k) (hr : Room (k + 1) X.A) : CallR X (.builtin "len") (rVD1 G (lenDu C)) := by
  intro pins s σ H xs us Q I rs hh
  obtain ⟨F, x, d, o, rfl, ft, rd, hf, mk⟩ := hh
  unfold lenDu at hf
  cases d <;> simp only [reduceCtorEq] at hf
  rename_i c fs
  cases e1 : C.dun c .len with
  | none => simp only [e1, reduceCtorEq] at hf
  | some f =>
    simp only [e1] at hf
    cases e2 : dunF C f [.obj c fs] with
    | none => simp only [e2, reduceCtorEq] at hf
    | some o' =>
      simp only [e2] at hf
      split at hf <;> first | (cases hf; done) | skip
      rename_i n heq
      split at hf
      · rename_i hn
        cases heq
        cases hf
        obtain ⟨cl, a, hm, fn⟩ := du c .len f e1
        obtain ⟨a0, dx, fvs, ex, ha, _⟩ := (RepR.of rd).objs
        subst ex
        obtain ⟨u, rfl, ru⟩ := vals1 rs
        cases (show u = Value.ref a0 from ru)
        obtain ⟨mA, J, _⟩ := ins_get I.hok ha
        obtain ⟨od, J, _⟩ := J.look
        obtain ⟨m, hF⟩ := I.fr
        have mk' : Makes G H F (.val (.int n)) (fun v H' => v = .int n ∧ Q (.int n) H') := fun v H' F' gg st ro => by
          cases ro with | val r =>
          cases r
          exact ⟨rfl, mk (.int n) H' F' [] (st.weak fun a h => by cases h) (.val (.int n))⟩
        obtain ⟨fd, ps, fo, hb, q⟩ := val_ok fn ft (.cons rd .nil) e2 mk' E0
        refine PySem.W.len_K hF I.ok.mod.kin J hm.at_ hm.fn (wpAny_mono (run_at rfl hr.in1 fo hb I rs q) (fun r s' hq => ?_) fun _ _ x => x)
        obtain ⟨v', H', I', rv, rfl, hq⟩ := hq
        obtain ⟨t, rfl⟩ := (show ∃ t, r = Value.int n t from rv)
        exact ⟨⟨hn.1, by have := hn.2; omega⟩, .int n, H', I'.tok _, ⟨_, rfl⟩, hq⟩
      · cases hf
theorem z_len {k : Nat} {e : Expr} {es : List Expr} {p pos : Pos} {mA : Zs → R (List Hd)} (hK : G.K = X.K) (du : DunAt X G C k) (hr : Room (k + 1) X.A) (hg : Gl X "len") (hm : X.mg "len" = none) (ha : PA X (e :: es) (tZA G W mA)) (hs : noStars (e :: es) = true) : PE X (.Call (.Name "len" p) (e :: es) [] pos) (tZ G W (evLen C mA)) := by
  have hc : CallR X (.builtin "len") (fun xs H Q => rVN G biLen xs H Q ∨ rVD1 G (lenDu C) xs H Q) := by
    intro pins s σ H xs us Q I rs hh
    rcases hh with hh | hh
    · exact bi_len hK pins s σ H xs us Q I rs hh
    · exact len_own du hr pins s σ H xs us Q I rs hh
  refine PE.imp (pe_callB hc hg hm (by decide +kernel) ha (by decide) (by decide) (star_cons (noStars_cons hs).1) (star_any (noStars_cons hs).2)) fun σ H Q h => ?_
  obtain ⟨z, ow, F, s, run⟩ := h
  refine ⟨z, ow, F, s, RunG.first s run fun hs z1 vs H1 F1 ow1 f1 _ st1 s1 r1 d1 run1 => ?_⟩
  cases hs with
  | nil => exact run1.elim
  | cons h hs =>
    cases hs with
    | cons _ _ => exact run1.elim
    | nil =>
      simp only at run1
      cases e1 : peek h z1 with
      | none => simp only [e1] at run1; exact run1.elim
      | some d =>
        simp only [e1] at run1
        split at run1
        · right
          cases r1 with
          | cons r rs dj =>
            rename_i v vs f g
            cases rs
            cases e2 : takeD h z1 with
            | none => simp only [e2] at run1; exact run1.elim
            | some p =>
              obtain ⟨d', z2⟩ := p
              simp only [e2] at run1
              obtain ⟨F2, ow2, s2, rd, st2⟩ := r.takeD s1 (fun a h => d1 a (by simp [h])) (fun a h => st1.nf a (.inr (by simp [h]))) (fun a h => st1.tr a (.inr (by simp [h]))) e2
              cases e3 : lenDu C d' with
              | none => simp only [e3] at run1; exact run1.elim
              | some o =>
                simp only [e3] at run1
                exact ⟨F2, _, d', o, rfl, s2.ft, rd, e3, fun v3 H3 F4 g t r3 => RunG.fin run1 ((st1.weak fun x h => h.elim .inl fun h => .inr (by simpa using h)).trans st2) s2 t r3⟩
        · exact .inl (RunG.apN run1 st1 s1 r1)
/-! ### the empty dict -/
@[simp] def evDct0 (t : Bool) : Zs → R Hd := fun z => .ok (.tmp (.dct t [])) z
theorem z_dct0 {pos : Pos} (t : Bool) : PE X (.Dict [] [] pos) (tZ G W (evDct0 t)) := by
  cases t with
  | false =>
    refine PE.imp pe_dnewK fun σ H Q h => ?_
    obtain ⟨z, ow, F, s, run⟩ := h
    exact fun p hp => RunG.fin run s.refl s (stp_new s.ft hp) (g := [p]) (RepO.dct upd_same .nil)
  | true =>
    refine PE.imp pe_dnewT fun σ H Q h => ?_
    obtain ⟨z, ow, F, s, run⟩ := h
    exact fun p hp => RunG.fin run s.refl s (stp_new s.ft hp) (g := [p]) (RepO.dctT upd_same .nil)
end
end Z
end

section
set_option maxRecDepth 100007
/-! The trees and what they give. -/
namespace Z
open PySem L2 PyProof.Rows
inductive B1 where | len | abs | int | bool | str | max | min | tuple | list | sum | any | all | sorted
deriving DecidableEq
@[simp] def B1.fn : B1 → List D → Option O
  | .len => biLen | .abs => biAbs | .int => biInt | .bool => biBool | .str => biStr | .max => biMax | .min => biMin | .tuple => biTuple | .list => biList | .sum => biSum | .any => biAny | .all => biAll | .sorted => biSorted
def B1.nm : B1 → Str
  | .len => "len" | .abs => "abs" | .int => "int" | .bool => "bool" | .str => "str" | .max => "max" | .min => "min" | .tuple => "tuple" | .list => "list" | .sum => "sum" | .any => "any" | .all => "all" | .sorted => "sorted"
@[simp] def evBi (C : Ct) (b : B1) (mA : Zs → R (List Hd)) : Zs → R Hd := match b with
  | .len => evLen C mA
  | b => evOpN b.fn mA
mutual
inductive Ex where
  | lc (i : Nat) | kon (d : D) | gk (j : Nat)
  | bin (op : Bop) (a b : Ex) | neg (a : Ex) | not (a : Ex)
  | cmp (op : Cop) (a b : Ex) | chn (op op' : Cop) (a b c : Ex)
  | and (as : Es) | or (as : Es) | ife (c a b : Ex)
  | tup (as : Es) | lst (as : Es)
  | ix (a b : Ex) | sl (a : Ex) (lo hi : Eo)
  | bi (b : B1) (as : Es)
  | call (f : Nat) (as : Es) | mk (c : Nat) (as : Es) | meth (o : Ex) (m : Nat) (as : Es) | attr (o : Ex) (n : Nat)
  | comp (own : List Nat) (t : Tg) (it : It1) (c : Eo) (e : Ex)
  | stop | isi (e : Ex) (t : Ty) | dct0 (t : Bool)
inductive Es where
  | nil | cons (e : Ex) (es : Es)
inductive Eo where
  | none | some (e : Ex)
inductive It1 where
  | seq (l : Option Nat) (e : Ex) | rng (as : Es) | enum (l : Option Nat) (e : Ex)
end
def It1.l : It1 → Option Nat
  | .seq l _ => l | .rng _ => none | .enum l _ => l
abbrev Vt := (Zs → R Hd) × (Zs → R Bool)
@[simp] def andV : List Vt → Zs → R Hd
  | [] => fun _ => .bad
  | [m] => m.1
  | m :: ms => evAndV m.1 (andV ms)
@[simp] def orV : List Vt → Zs → R Hd
  | [] => fun _ => .bad
  | [m] => m.1
  | m :: ms => evOrV m.1 (orV ms)
@[simp] def andT : List Vt → Zs → R Bool
  | [] => fun _ => .bad
  | [m] => m.2
  | m :: ms => evAndT m.2 (andT ms)
@[simp] def orT : List Vt → Zs → R Bool
  | [] => fun _ => .bad
  | [m] => m.2
  | m :: ms => evOrT m.2 (orT ms)
mutual
@[simp] def ev (C : Ct) : Ex → (Zs → R Hd) × (Zs → R Bool)
  | .lc i => (evSlot i, evTru (evSlot i))
  | .kon d => (evD d, evTru (evD d))
  | .gk j => (evD (C.gk j), evTru (evD (C.gk j)))
  | .bin op a b => (evOp2 (binOp op) (ev C a).1 (ev C b).1, evTru (evOp2 (binOp op) (ev C a).1 (ev C b).1))
  | .neg a => (evOp1 negOp (ev C a).1, evTru (evOp1 negOp (ev C a).1))
  | .not a => (evNotV (ev C a).1, evNotT (ev C a).2)
  | .cmp op a b => (evCmp C op (ev C a).1 (ev C b).1, evBl (evCmp C op (ev C a).1 (ev C b).1))
  | .chn op op' a b c => (evChain (cmpF op) (cmpF op') (ev C a).1 (ev C b).1 (ev C c).1, evBl (evChain (cmpF op) (cmpF op') (ev C a).1 (ev C b).1 (ev C c).1))
  | .and as => (andV (evL C as), andT (evL C as))
  | .or as => (orV (evL C as), orT (evL C as))
  | .ife c a b => (evIf (ev C c).2 (ev C a).1 (ev C b).1, evIfT (ev C c).2 (ev C a).2 (ev C b).2)
  | .tup as => (evTup (evA C as), evTru (evTup (evA C as)))
  | .lst as => (evLst (evA C as), evTru (evLst (evA C as)))
  | .ix a b => (evOp2 ixO (ev C a).1 (ev C b).1, evTru (evOp2 ixO (ev C a).1 (ev C b).1))
  | .sl a lo hi => (evSl (ev C a).1 (evEo C lo) (evEo C hi), evTru (evSl (ev C a).1 (evEo C lo) (evEo C hi)))
  | .bi b as => (evBi C b (evA C as), evTru (evBi C b (evA C as)))
  | .isi e t => (evOp1 (isiD C t) (ev C e).1, evTru (evOp1 (isiD C t) (ev C e).1))
  | .dct0 t => (evDct0 t, evTru (evDct0 t))
  | .call f as => (evCallF C f (evA C as), evTru (evCallF C f (evA C as)))
  | .mk c as => (evMk C c (evA C as), evTru (evMk C c (evA C as)))
  | .meth o m as => (evMeth C m (ev C o).1 (evA C as), evTru (evMeth C m (ev C o).1 (evA C as)))
  | .attr o n => (evAttr C n (ev C o).1, evTru (evAttr C n (ev C o).1))
  | .comp own t it c e => (evComp own (asg1 (roV own) t) (evEc C c) (ev C e).1 (evI C it), evTru (evComp own (asg1 (roV own) t) (evEc C c) (ev C e).1 (evI C it)))
  | .stop => (fun _ => .bad, fun _ => .bad)
@[simp] def evA (C : Ct) : Es → Zs → R (List Hd)
  | .nil => evNil
  | .cons e es => evCons (ev C e).1 (evA C es)
@[simp] def evL (C : Ct) : Es → List ((Zs → R Hd) × (Zs → R Bool))
  | .nil => []
  | .cons e es => ev C e :: evL C es
@[simp] def evEo (C : Ct) : Eo → Option (Zs → R Hd)
  | .none => none
  | .some e => some (ev C e).1
@[simp] def evEc (C : Ct) : Eo → Zs → R Bool
  | .none => evYes
  | .some e => (ev C e).2
@[simp] def evI (C : Ct) : It1 → MI
  | .seq l e => evSeq l (ev C e).1
  | .rng as => evRng (evA C as)
  | .enum l e => evEnum l (ev C e).1
end
def evE (C : Ct) (e : Ex) : Zs → R Hd := (ev C e).1
def evC (C : Ct) (e : Ex) : Zs → R Bool := (ev C e).2
/-! the values of several operands, each as it is -/
def takeM (hs : List Hd) : List Bool := hs.map fun | .tmp _ => true | .slot _ => false
def setsS (ro : Ro) : List Nat → List O → Zs → Option Zs
  | [], [], z => some z
  | i :: is, o :: os, z => match setS ro i o z with
    | some z1 => setsS ro is os z1
    | none => none
  | _, _, _ => none
def exPar (ro : Ro) (is : List Nat) (mA : Zs → R (List Hd)) : Zs → S := fun z => (mA z).bindS fun hs z1 => match lendA (takeM hs) hs z1 with
  | some (os, z2) => match setsS ro is os z2 with
    | some z3 => .nxt z3
    | none => .bad
  | none => .bad
/-! statements -/
inductive Sm where
  | nil | seq (s r : Sm)
  | pass | brk | cnt | retN | ret (e : Ex) | drop (e : Ex)
  | asg (i : Nat) (e : Ex) | asgT (t : Tg) (e : Ex) | par (is : List Nat) (as : Es)
  | app (i : Nat) (e : Ex) | setIx (i : Nat) (k e : Ex) | setFld (i n : Nat) (e : Ex) | aug (op : Bop) (i : Nat) (e : Ex)
  | stop
  | ife (c : Ex) (a b : Sm) | whl (c : Ex) (a : Sm) | frl (t : Tg) (it : It1) (a : Sm)
@[simp] def evS (C : Ct) : Ro → Sm → Zs → S
  | _, .nil => exSkip
  | ro, .seq s r => exSeq (evS C ro s) (evS C ro r)
  | _, .pass => exSkip
  | _, .brk => .brk
  | _, .cnt => .cnt
  | _, .retN => exRetN
  | ro, .ret e => exRet ro (ev C e).1
  | _, .drop e => exDrop (ev C e).1
  | ro, .asg i e => exAsgN ro i (ev C e).1
  | ro, .asgT t e => exAsgT ro t (ev C e).1
  | ro, .par is as => exPar ro is (evA C as)
  | _, .app i e => exApp i (ev C e).1
  | _, .setIx i k e => exSetIx i (ev C k).1 (ev C e).1
  | _, .setFld i n e => exSetFld C.flds i n (ev C e).1
  | ro, .aug op i e => exAug ro op i (ev C e).1
  | _, .stop => fun _ => .bad
  | ro, .ife c a b => exIf (ev C c).2 (evS C ro a) (evS C ro b)
  | ro, .whl c a => whileF (ev C c).2 (evS C ro a) C.wf
  | ro, .frl t it a => exFor (asg1 (roL ro it.l) t) (evI C it) (evS C (roL ro it.l) a)
/-! defs -/
structure Df where
  np : Nat
  ns : Nat
  modes : List Bool
  dfs : List D
  body : Sm
@[simp] def Df.ro (d : Df) : Ro := fun i => d.modes.getD i false
@[simp] def outsOf : List Bool → Nat → Zs → Option (List (Option O))
  | [], _, _ => some []
  | true :: ms, i, z => match rd z i, outsOf ms (i + 1) z with
    | some o, some os => some (some o :: os)
    | _, _ => none
  | false :: ms, i, z => match outsOf ms (i + 1) z with
    | some os => some (none :: os)
    | none => none
def runD (C : Ct) (d : Df) (os : List O) : RR :=
  if os.length = d.np then
    match evS C d.ro d.body (os.map some ++ List.replicate (d.ns - d.np) none) with
    | .nxt z => match outsOf d.modes 0 z with
      | some outs => .ret (.val .non) outs
      | none => .bad
    | .ret o z => match outsOf d.modes 0 z with
      | some outs => .ret o outs
      | none => .bad
    | .exc c fs z => match outsOf d.modes 0 z with
      | some outs => .exc c fs outs
      | none => .bad
    | _ => .bad
  else .bad
/-- the program: defs, classes, constants -/
structure Pr where
  defs : List Df
  meth : List (Nat × Nat × Nat)
  prop : List (Nat × Nat × Nat)
  init : List (Nat × Nat)
  flds : List (Nat × List Nat)
  gks : List D
  wf : Nat
  dun : List (Nat × Dun × Nat) := []
  isi : List ((Ty × Ty) × Bool) := []
  ic : List Nat := []
def look2 (l : List (Nat × Nat × Nat)) (c n : Nat) : Option Nat := (l.find? fun p => p.1 == c && p.2.1 == n).map (·.2.2)
def Pr.ct (p : Pr) : Nat → Ct
  | 0 => ⟨fun _ _ => .bad, fun f => ((p.defs[f]?).map Df.modes).getD [], fun f => ((p.defs[f]?).map Df.dfs).getD [], look2 p.meth, look2 p.prop, fun c => p.init.lookup c, fun c => (p.flds.lookup c).getD [], fun j => p.gks.getD j .non, p.wf, fun c u => (p.dun.find? fun q => decide (q.1 = c ∧ q.2.1 = u)).map (·.2.2), fun t u => p.isi.lookup (t, u), fun c => p.ic.contains c⟩
  | n + 1 => ⟨fun f os => match p.defs[f]? with
      | some d => runD (p.ct n) d os
      | none => .bad, fun f => ((p.defs[f]?).map Df.modes).getD [], fun f => ((p.defs[f]?).map Df.dfs).getD [], look2 p.meth, look2 p.prop, fun c => p.init.lookup c, fun c => (p.flds.lookup c).getD [], fun j => p.gks.getD j .non, p.wf, fun c u => (p.dun.find? fun q => decide (q.1 = c ∧ q.2.1 = u)).map (·.2.2), fun t u => p.isi.lookup (t, u), fun c => p.ic.contains c⟩
end Z
end

section
set_option maxRecDepth 100007
/-! The check of a tree against the text, for expressions. -/
namespace Z
open PySem L2 PyProof.Rows
structure Tab where
  defs : List (Str × Nat)
  clss : List (Str × Nat)
  gks : List (Str × Nat)
  blts : List Str
  nm : List Str
structure Sc where
  N : List Str
  ks : List (Str × NameKind)
  fk : Option (List (Str × NameKind))
def Sc.vis (sc : Sc) (x : Str) : Bool := decide (sc.ks.lookup x = some .local) || decide (sc.ks.lookup x = some .cell) || decide (sc.ks.lookup x = some .free)
def Sc.loc (sc : Sc) (x : Str) : Bool := decide (sc.ks.lookup x = some .local) || decide (sc.ks.lookup x = some .cell)
def Sc.gl (sc : Sc) (x : Str) : Bool := decide (sc.ks.lookup x = some .globalImplicit)
def Sc.fnc (sc : Sc) (x : Str) : Bool := decide (sc.ks.lookup x = some .local) || (match sc.fk with
  | none => true
  | some ks => ks.lookup x == some .cell)
def okNm (x : Str) : Bool := !(x == ("__debug__" : Str)) && !(x == ("__classdict__" : Str))
def Sc.var (sc : Sc) (i : Nat) (x : Str) : Bool := decide (sc.N[i]? = some x) && sc.vis x && okNm x
def Sc.st (sc : Sc) (i : Nat) (x : Str) : Bool := decide (sc.N[i]? = some x) && sc.loc x && sc.fnc x
def chkK : D → Const → Bool
  | .int i, .int j => decide (i = j)
  | .bl a, .bool b => a == b
  | .non, .none => true
  | .str x, .str s => decide (s = ⟨x.toArray⟩) && txtOk x
  | _, _ => false
def relab (outer names : List (Str × NameKind)) : List (Str × NameKind) := names.map fun (n, k) => if (k == NameKind.free && outer.lookup n == some .cell) then (n, NameKind.cell) else (n, k)
/-- the inner block of a comprehension -/
def Sc.blk (sc : Sc) (scope : Scope) : Sc := ⟨sc.N, relab sc.ks scope.names, some scope.names⟩
def chkTgs (sc : Sc) : Tg → Expr → Bool
  | .nm i, .Name x _ => sc.st i x
  | _, _ => false
mutual
def chkT (sc : Sc) : Tg → Expr → Bool
  | .nm i, e => match e with
    | .Name x _ => sc.st i x
    | _ => false
  | .tp ts, e => match e with
    | .Tuple es _ _ => chkTs sc ts es && noStars es
    | _ => false
  | _, _ => false
def chkTs (sc : Sc) : Tg → List Expr → Bool
  | .nil, [] => true
  | .cons t ts, e :: es => chkT sc t e && chkTs sc ts es
  | _, _ => false
end
def blkOk (N : List Str) (ks : List (Str × NameKind)) (scope : Scope) (own : List Nat) : Bool :=
  decide (scope.kind = .function) && scope.names.all (fun y => decide (scope.names.lookup y.1 = some y.2)) && own.all (fun i => decide (i < N.length)) &&
  scope.names.all (fun y => decide (y.2 ≠ .free) || decide (ks.lookup y.1 = some .cell) || decide (ks.lookup y.1 = some .free)) &&
  scope.names.all (fun y => !(decide (y.2 = .local) || decide (y.2 = .cell)) || own.any (fun i => decide (N[i]? = some y.1)) || !N.contains y.1)
def blt (T : Tab) (sc : Sc) (x : Str) : Bool := sc.gl x && T.blts.contains x
def copC (op : Cop) (o : CmpOp) (b : Expr) : Bool := decide (o = copOf op) && !behindInMarks o b
def isTupE : Expr → Bool
  | .Tuple .. => true
  | _ => false
mutual
def chk (T : Tab) : Sc → Ex → Expr → Bool
  | sc, .lc i, a => match a with
    | .Name x _ => sc.var i x
    | _ => false
  | sc, .kon d, a => match a with
    | .Constant c _ _ => chkK d c
    | _ => false
  | sc, .gk j, a => match a with
    | .Name x _ => sc.gl x && okNm x && decide ((x, j) ∈ T.gks)
    | _ => false
  | sc, .bin op a b, e => match e with
    | .BinOp x o y _ => decide (o = opOf op) && chk T sc a x && chk T sc b y
    | _ => false
  | sc, .neg a, e => match e with
    | .UnaryOp .USub x _ => chk T sc a x
    | _ => false
  | sc, .not a, e => match e with
    | .UnaryOp .Not x _ => chk T sc a x
    | _ => false
  | sc, .cmp op a b, e => match e with
    | .Compare x [o] [y] _ => copC op o y && chk T sc a x && chk T sc b y
    | _ => false
  | sc, .chn op op' a b c, e => match e with
    | .Compare x [o, o'] [y, z] _ => decide (o = copOf op) && decide (o' = copOf op') && !lastMarks [o, o'] [y, z] && chk T sc a x && chk T sc b y && chk T sc c z
    | _ => false
  | sc, .and as, e => match e with
    | .BoolOp .And es _ => !es.isEmpty && chkA T sc as es
    | _ => false
  | sc, .or as, e => match e with
    | .BoolOp .Or es _ => !es.isEmpty && chkA T sc as es
    | _ => false
  | sc, .ife c a b, e => match e with
    | .IfExp z x y _ => chk T sc c z && chk T sc a x && chk T sc b y
    | _ => false
  | sc, .tup as, e => match e with
    | .Tuple es _ _ => chkA T sc as es
    | _ => false
  | sc, .lst as, e => match e with
    | .List es _ => chkA T sc as es
    | _ => false
  | sc, .ix a b, e => match e with
    | .Subscript x y _ => !isSlc y && chk T sc a x && chk T sc b y
    | _ => false
  | sc, .sl a lo hi, e => match e with
    | .Subscript x (.Slice l h none _) _ => chk T sc a x && chkO T sc lo l && chkO T sc hi h
    | _ => false
  | sc, .bi b as, e => match e with
    | .Call (.Name x _) (y :: es) [] _ => decide (x = b.nm) && blt T sc x && chkA T sc as (y :: es)
    | _ => false
  | sc, .call f as, e => match e with
    | .Call (.Name x _) es [] _ => sc.gl x && okNm x && decide ((x, f) ∈ T.defs) && chkA T sc as es
    | _ => false
  | sc, .mk c as, e => match e with
    | .Call (.Name x _) es [] _ => sc.gl x && okNm x && decide ((x, c) ∈ T.clss) && chkA T sc as es
    | _ => false
  | sc, .meth o m as, e => match e with
    | .Call (.Attribute x y ap) es [] p => decide (m < T.nm.length) && decide (y = T.nm.getD m Str.empty) && !isSup x && decide (es.length < 30) && (ap.endLine == p.line) && chk T sc o x && chkA T sc as es
    | _ => false
  | sc, .attr o n, e => match e with
    | .Attribute x y _ => decide (n < T.nm.length) && decide (y = T.nm.getD n Str.empty) && !isSup x && chk T sc o x
    | _ => false
  | sc, .comp own t it c el, e => match e with
    | .ListComp x [⟨tg, iter, ifs, 0⟩] scope _ => blkOk sc.N sc.ks scope own && !isSetE iter && chkI T sc it tg iter && chkT (sc.blk scope) t tg && chk T (sc.blk scope) el x && chkC T (sc.blk scope) c ifs
    | _ => false
  | _, .stop, _ => true
  | sc, .isi e t, x => match x with
    | .Call (.Name y _) [z, .Name w _] [] _ => decide (y = ("isinstance" : Str)) && blt T sc y && !isStar z && chk T sc e z && sc.gl w && okNm w && (match t with
      | .own c => decide ((w, c) ∈ T.clss)
      | t => decide (tyB t = some w) && T.blts.contains w)
    | _ => false
  | _, .dct0 _, x => match x with
    | .Dict [] [] _ => true
    | _ => false
def chkA (T : Tab) : Sc → Es → List Expr → Bool
  | _, .nil, [] => true
  | sc, .cons e es, x :: xs => !isStar x && chk T sc e x && chkA T sc es xs
  | _, _, _ => false
def chkO (T : Tab) : Sc → Eo → Option Expr → Bool
  | _, .none, none => true
  | sc, .some e, some x => chk T sc e x
  | _, _, _ => false
def chkC (T : Tab) : Sc → Eo → List Expr → Bool
  | _, .none, [] => true
  | sc, .some e, [x] => chk T sc e x
  | _, _, _ => false
def chkI (T : Tab) : Sc → It1 → Expr → Expr → Bool
  | sc, .seq _ e, _, x => chk T sc e x
  | sc, .rng as, _, x => match x with
    | .Call (.Name y _) es [] _ => decide (y = ("range" : Str)) && blt T sc y && chkA T sc as es && decide (0 < es.length) && decide (es.length < 4)
    | _ => false
  | sc, .enum _ e, tg, x => match x with
    | .Call (.Name y _) [x] [] _ => decide (y = ("enumerate" : Str)) && blt T sc y && !isStar x && chk T sc e x && isTupE tg
    | _ => false
end
end Z
end

section
set_option maxRecDepth 100007
/-! The check is sound: expressions. -/
namespace Z
open PySem L2 PyProof.Rows
structure XOk (T : Tab) (G : Gx) (C : Ct) (k : Nat) (sc : Sc) (X : Cx) : Prop where
  hK : G.K = X.K
  nm : G.nm = T.nm
  rm : Room (k + 1) X.A
  cm : X.calm = true
  g : GOk G C.flds
  N : X.N = sc.N
  nd : sc.N.Nodup
  ks : X.env.scope.names = sc.ks
  kd : X.env.scope.kind = .function
  fn : ∀ x, (match sc.fk with | none => true | some ks => ks.lookup x == some .cell) = true → X.fn x = true
  df : ∀ x f, (x, f) ∈ T.defs → ∃ a, X.mg x = some (.ref a) ∧ PySem.W.keepIn X.K (.ref a) = true ∧ FnX X G C k f a
  cs : ∀ x c, (x, c) ∈ T.clss → X.mg x = some (.ref (G.cls c)) ∧ PySem.W.keepIn X.K (.ref (G.cls c)) = true ∧ MkAt X G C k c
  gk : ∀ x j, (x, j) ∈ T.gks → ∃ u v, X.mg x = some u ∧ RelV v u ∧ ∀ H F, RepD G H F v (C.gk j)
  bl : ∀ x, x ∈ T.blts → X.mg x = none
  me : MethAt X G C k
  pr : PropAt X G C k
  is : IsAt X.K G C
  du : DunAt X G C k
section
variable {T : Tab} {G : Gx} {C : Ct} {k : Nat} {sc : Sc} {X : Cx} {W : WX}
theorem XOk.hu (o : XOk T G C k sc X) : X.A.units + 65 < cLine := by have := o.rm.un; omega
theorem XOk.r0 (o : XOk T G C k sc X) : Room k X.A := o.rm.mono (Nat.le_succ k)
theorem XOk.vis (o : XOk T G C k sc X) {x : Str} (h : sc.vis x = true) : Vis X.env.scope x := by
  unfold Sc.vis at h
  unfold Vis
  rw [o.ks]
  simp only [Bool.or_eq_true, decide_eq_true_eq] at h
  rcases h with (h | h) | h
  · exact .inl h
  · exact .inr (.inl h)
  · exact .inr (.inr h)
theorem XOk.loc (o : XOk T G C k sc X) {x : Str} (h : sc.loc x = true) : Loc X.env.scope x := by
  unfold Sc.loc at h
  unfold L2.Loc
  rw [o.ks]
  simpa only [Bool.or_eq_true, decide_eq_true_eq] using h
theorem XOk.gl (o : XOk T G C k sc X) {x : Str} (h : sc.gl x = true) : Gl X x := by
  unfold Sc.gl at h
  unfold Gl Env.kindOf
  rw [o.ks]
  simpa only [decide_eq_true_eq] using h
theorem XOk.fnc (o : XOk T G C k sc X) {x : Str} (h : sc.fnc x = true) : X.fn x = true ∨ X.env.scope.names.lookup x = some .local := by
  unfold Sc.fnc at h
  rw [Bool.or_eq_true] at h
  rcases h with h | h
  · right
    rw [o.ks]
    simpa only [decide_eq_true_eq] using h
  · exact .inl (o.fn x h)
theorem okNm_ok {x : Str} (h : okNm x = true) : (x == ("__debug__" : Str)) = false ∧ (x == ("__classdict__" : Str)) = false := by
  unfold okNm at h
  rw [Bool.and_eq_true] at h
  exact ⟨by simpa using h.1, by simpa using h.2⟩
theorem XOk.var (o : XOk T G C k sc X) {i : Nat} {x : Str} (h : sc.var i x = true) : X.N[i]? = some x ∧ Vis X.env.scope x ∧ (x == ("__debug__" : Str)) = false ∧ (x == ("__classdict__" : Str)) = false := by
  unfold Sc.var at h
  simp only [Bool.and_eq_true, decide_eq_true_eq] at h
  exact ⟨o.N ▸ h.1.1, o.vis h.1.2, okNm_ok h.2⟩
theorem XOk.st (o : XOk T G C k sc X) {i : Nat} {x : Str} (h : sc.st i x = true) : X.N.Nodup ∧ X.N[i]? = some x ∧ Loc X.env.scope x ∧ (X.fn x = true ∨ X.env.scope.names.lookup x = some .local) := by
  unfold Sc.st at h
  simp only [Bool.and_eq_true, decide_eq_true_eq] at h
  exact ⟨o.N ▸ o.nd, o.N ▸ h.1.1, o.loc h.1.2, o.fnc h.2⟩
theorem relab_eq {sc0 : Scope} {env : Env} (h : env.scope.kind = .function) : (relabel sc0 env).names = relab env.scope.names sc0.names := by
  unfold relabel relab Env.kindOf
  rw [h]
  simp
theorem XOk.blk (o : XOk T G C k sc X) {scope : Scope} (hk : scope.kind = .function) (s : Shared) (H : Hp) (C' : Addr) (cl : List (Str × Addr)) (fp : List Addr) : XOk T G C k (sc.blk scope) (X.blk s H scope (compEnvC scope cl C' X.env) fp) := by
  refine ⟨o.hK, o.nm, o.rm, o.cm, o.g, o.N, o.nd, ?_, hk, fun x h => h, o.df, o.cs, o.gk, o.bl, o.me, o.pr, o.is, o.du⟩
  show (relabel scope X.env).names = relab sc.ks scope.names
  rw [relab_eq o.kd, o.ks]
theorem blkOk_ok (o : XOk T G C k sc X) {scope : Scope} {own : List Nat} (h : blkOk sc.N sc.ks scope own = true) : ∃ ow, ow.map (·.2) = own ∧ BlkOk X.N X.env.scope scope ow ∧ scope.kind = .function := by
  unfold blkOk at h
  simp only [Bool.and_eq_true, decide_eq_true_eq, List.all_eq_true] at h
  obtain ⟨⟨⟨⟨h1, h2⟩, h3⟩, h4⟩, h5⟩ := h
  have e : (own.map fun i => (sc.N.getD i Str.empty, i)).map (·.2) = own := by
    rw [List.map_map]
    conv => rhs; rw [← List.map_id own]
    rfl
  have e1 : ∀ i, i ∈ own → sc.N[i]? = some (sc.N.getD i Str.empty) := fun i hi => by
    have hl : i < sc.N.length := h3 i hi
    rw [List.getD_eq_getElem?_getD, List.getElem?_eq_getElem hl]; rfl
  refine ⟨own.map fun i => (sc.N.getD i Str.empty, i), e, ⟨h1, h2, fun p hp => ?_, fun y hy hf => ?_, fun y hy hf => ?_⟩, h1⟩
  · obtain ⟨i, hi, rfl⟩ := List.mem_map.mp hp
    rw [o.N]
    exact e1 i hi
  · rw [o.ks]
    have := h4 y hy
    simp only [Bool.or_eq_true, decide_eq_true_eq] at this
    rcases this with (h | h) | h
    · exact (h hf).elim
    · exact .inl h
    · exact .inr h
  · have := h5 y hy
    rw [o.N]
    simp only [Bool.or_eq_true, Bool.not_eq_true', Bool.or_eq_false_iff, decide_eq_false_iff_not, List.any_eq_true, decide_eq_true_eq, List.contains_eq_mem] at this
    rcases this with (h | ⟨i, hi, h⟩) | h
    · rcases hf with hf | hf
      · exact (h.1 hf).elim
      · exact (h.2 hf).elim
    · left
      rw [List.map_map]
      refine List.mem_map.mpr ⟨i, hi, ?_⟩
      have := e1 i hi
      rw [h] at this
      exact (Option.some.inj this).symm
    · exact .inr (by simpa using h)
mutual
theorem chkT_ok (o : XOk T G C k sc X) {ro : Ro} : ∀ (t : Tg) {e : Expr}, chkT sc t e = true → PG X e (gZ G ro (asg1 ro t))
  | .nm i, e, h => by
    unfold chkT at h
    split at h
    · obtain ⟨a, b, c, d⟩ := o.st h
      exact zg_name a b c d
    · cases h
  | .tp ts, e, h => by
    unfold chkT at h
    split at h
    · rw [Bool.and_eq_true] at h
      obtain ⟨a, b⟩ := chkTs_ok o ts h.1
      exact zg_tup o.hK o.cm a (by rw [assign_len h.2, b]) (assign_star h.2)
    · cases h
  | .nil, e, h => by simp only [chkT, Bool.false_eq_true] at h
  | .cons _ _, e, h => by simp only [chkT, Bool.false_eq_true] at h
theorem chkTs_ok (o : XOk T G C k sc X) {ro : Ro} : ∀ (t : Tg) {es : List Expr}, chkTs sc t es = true → PGs X es (gZs G ro (asgN ro t)) ∧ es.length = t.len
  | .nil, [], h => ⟨zg_nil, rfl⟩
  | .cons t ts, e :: es, h => by
    simp only [chkTs, Bool.and_eq_true] at h
    obtain ⟨a, b⟩ := chkTs_ok o ts (ro := ro) h.2
    have hs : isStar e = false := by
      cases e <;> first | rfl | skip
      cases t <;> simp only [chkT, Bool.false_eq_true] at h <;> exact h.1.elim
    exact ⟨zg_cons (chkT_ok o t h.1) a (by rw [assign_cons hs]; rfl), by rw [List.length_cons, b]; rfl⟩
  | .nil, _ :: _, h => by simp only [chkTs, Bool.false_eq_true] at h
  | .cons _ _, [], h => by simp only [chkTs, Bool.false_eq_true] at h
  | .nm _, es, h => by cases es <;> simp only [chkTs, Bool.false_eq_true] at h
  | .tp _, es, h => by cases es <;> simp only [chkTs, Bool.false_eq_true] at h
end
theorem cmpF_ok (o : XOk T G C k sc X) (op : Cop) : OpR X (compareOp (copOf op)) (rV2 G (cmpF op)) := by
  cases op
  case inn => exact in_ok o.hK o.hu
  case notin => exact notin_ok o.hK o.hu
  all_goals exact cop_ok o.hK o.hu _
theorem both {a : Expr} {m : Zs → R Hd} (hK : G.K = X.K) (h : PE X a (tZ G W m)) (ht : isTst a = false) : PE X a (tZ G W m) ∧ PT X a (tZT G W (evTru m)) := ⟨h, zt_tru hK h (true_no ht)⟩
theorem bi_ok (o : XOk T G C k sc X) (b : B1) {e : Expr} {es : List Expr} {p pos : Pos} {mA : Zs → R (List Hd)} (hg : Gl X b.nm) (hm : X.mg b.nm = none) (ha : PA X (e :: es) (tZA G W mA)) (hs : noStars (e :: es) = true) : PE X (.Call (.Name b.nm p) (e :: es) [] pos) (tZ G W (evBi C b mA)) := by
  have h1 := star_cons (env := X.env) (noStars_cons hs).1 (es := es)
  have h2 := star_any (env := X.env) (pos := pos) (noStars_cons hs).2
  cases b
  case len => exact z_len o.hK o.du o.rm hg hm ha hs
  case abs => exact z_callB bi_abs hg hm (by decide +kernel) ha (by decide) (by decide) h1 h2
  case int => exact z_callTy bi_int hg hm (by decide +kernel) ha (by decide) (by decide) h1 h2
  case bool => exact z_callTy bi_bool hg hm (by decide +kernel) ha (by decide) (by decide) h1 h2
  case str => exact z_callTy bi_str hg hm (by decide +kernel) ha (by decide) (by decide) h1 h2
  case max => exact z_callB (bi_max o.hK o.cm) hg hm (by decide +kernel) ha (by decide) (by decide) h1 h2
  case min => exact z_callB (bi_min o.hK o.cm) hg hm (by decide +kernel) ha (by decide) (by decide) h1 h2
  case tuple => exact z_callTy (bi_tuple o.hK) hg hm (by decide +kernel) ha (by decide) (by decide) h1 h2
  case list => exact z_callTy (bi_list o.hK) hg hm (by decide +kernel) ha (by decide) (by decide) h1 h2
  case sum => exact z_callB (bi_sum o.cm) hg hm (by decide +kernel) ha (by decide) (by decide) h1 h2
  case any => exact z_callB (bi_any o.cm) hg hm (by decide +kernel) ha (by decide) (by decide) h1 h2
  case all => exact z_callB (bi_all o.cm) hg hm (by decide +kernel) ha (by decide) (by decide) h1 h2
  case sorted => exact z_callB bi_sorted hg hm (by decide +kernel) ha (by decide) (by decide) h1 h2
def Es.len : Es → Nat
  | .nil => 0
  | .cons _ es => es.len + 1
theorem evA_len : ∀ {as : Es} {z z1 : Zs} {hs : List Hd}, evA C as z = .ok hs z1 → hs.length = as.len
  | .nil, z, z1, hs, h => by
    simp only [evA, evNil, R.ok.injEq] at h
    rw [← h.1]; rfl
  | .cons e es, z, z1, hs, h => by
    simp only [evA, evCons] at h
    cases e1 : (ev C e).1 z with
    | bad => rw [e1] at h; cases h
    | exc c fs z' => rw [e1] at h; cases h
    | ok a z2 =>
      rw [e1] at h
      simp only [R.bind] at h
      cases e2 : evA C es z2 with
      | bad => rw [e2] at h; cases h
      | exc c fs z' => rw [e2] at h; cases h
      | ok b z3 =>
        rw [e2] at h
        simp only [R.ok.injEq] at h
        rw [← h.1, List.length_cons, evA_len e2]; rfl
theorem peeks_len : ∀ {hs : List Hd} {z : Zs} {ds : List D}, peeks hs z = some ds → ds.length = hs.length
  | [], z, ds, h => by cases h; rfl
  | h1 :: hs, z, ds, h => by
    simp only [peeks] at h
    split at h
    · rename_i e1 e2
      cases h
      rw [List.length_cons, List.length_cons, peeks_len e2]
    · cases h
theorem chkA_len : ∀ {as : Es} {es : List Expr}, chkA T sc as es = true → es.length = as.len
  | .nil, [], _ => rfl
  | .cons a as, e :: es, h => by
    simp only [chkA, Bool.and_eq_true] at h
    rw [List.length_cons, chkA_len h.2]; rfl
  | .nil, _ :: _, h => by simp only [chkA, Bool.false_eq_true] at h
  | .cons _ _, [], h => by simp only [chkA, Bool.false_eq_true] at h
end
end Z
end

section
set_option maxRecDepth 100007
/-! The check is sound: expressions (2). -/
namespace Z
open PySem L2 PyProof.Rows
section
variable {T : Tab} {G : Gx} {C : Ct} {k : Nat}
abbrev BothE (T : Tab) (G : Gx) (C : Ct) (k : Nat) (e : Ex) : Prop := ∀ (sc : Sc) (X : Cx) (W : WX) (a : Expr), XOk T G C k sc X → Takes X W → chk T sc e a = true → PE X a (tZ G W (ev C e).1) ∧ PT X a (tZT G W (ev C e).2)
abbrev BoolsE (X : Cx) (G : Gx) (W : WX) (C : Ct) (as : Es) (es : List Expr) : Prop := es ≠ [] → ∀ pos, (PE X (.BoolOp .And es pos) (tZ G W (andV (evL C as))) ∧ PW X (.BoolOp .And es pos) (tZT G W (andT (evL C as)))) ∧ (PE X (.BoolOp .Or es pos) (tZ G W (orV (evL C as))) ∧ PW X (.BoolOp .Or es pos) (tZT G W (orT (evL C as))))
abbrev AllE (T : Tab) (G : Gx) (C : Ct) (k : Nat) (as : Es) : Prop := ∀ (sc : Sc) (X : Cx) (W : WX) (es : List Expr), XOk T G C k sc X → Takes X W → chkA T sc as es = true → PA X es (tZA G W (evA C as)) ∧ noStars es = true ∧ BoolsE X G W C as es
abbrev OptE (T : Tab) (G : Gx) (C : Ct) (k : Nat) (c : Eo) : Prop := (∀ (sc : Sc) (X : Cx) (W : WX) (a : Option Expr), XOk T G C k sc X → Takes X W → chkO T sc c a = true → PO X a (tZP G W (evPart (evEo C c)))) ∧
  ∀ (sc : Sc) (X : Cx) (W : WX) (a : List Expr), XOk T G C k sc X → Takes X W → chkC T sc c a = true → PTs X a (tZT G W (evEc C c))
abbrev ItE (T : Tab) (G : Gx) (C : Ct) (k : Nat) (it : It1) : Prop := ∀ (sc : Sc) (X : Cx) (W : WX) (tg a : Expr), XOk T G C k sc X → Takes X W → chkI T sc it tg a = true → PI X tg a (iZ G W it.l (evI C it))
theorem e_lc (i : Nat) : BothE T G C k (.lc i) := fun sc X W a o tk h => by
  unfold chk at h
  split at h
  · obtain ⟨a, b, c, d⟩ := o.var h
    exact both o.hK (z_name a b c d) rfl
  · cases h
theorem e_kon (d : D) : BothE T G C k (.kon d) := fun sc X W a o tk h => by
  unfold chk at h
  split at h
  · refine both o.hK ?_ rfl
    rename_i c j p
    cases d <;> cases c <;> simp only [chkK, Bool.false_eq_true] at h
    · exact z_none
    · have h := eq_of_beq h
      subst h
      exact z_bool
    · have h := of_decide_eq_true h
      subst h
      exact z_int
    · rw [Bool.and_eq_true, decide_eq_true_eq] at h
      rw [h.1]
      exact z_str h.2
  · cases h
theorem e_gk (j : Nat) : BothE T G C k (.gk j) := fun sc X W a o tk h => by
  unfold chk at h
  split at h
  · simp only [Bool.and_eq_true, decide_eq_true_eq] at h
    obtain ⟨u, v, h1, h2, h3⟩ := o.gk _ _ h.2
    exact both o.hK (z_glob (o.gl h.1.1) h1 h2 h3 (okNm_ok h.1.2).1) rfl
  · cases h
theorem e_bin (op : Bop) (a b : Ex) (ha : BothE T G C k a) (hb : BothE T G C k b) : BothE T G C k (.bin op a b) := fun sc X W x o tk h => by
  unfold chk at h
  split at h
  · simp only [Bool.and_eq_true, decide_eq_true_eq] at h
    rw [h.1.1]
    exact both o.hK (z_bin (bop_ok o.hK op) (ha sc X W _ o tk h.1.2).1 (hb sc X W _ o tk h.2).1) rfl
  · cases h
theorem e_neg (a : Ex) (ha : BothE T G C k a) : BothE T G C k (.neg a) := fun sc X W x o tk h => by
  unfold chk at h
  split at h
  · exact both o.hK (z_un u_neg (ha sc X W _ o tk h).1) rfl
  · cases h
theorem e_not (a : Ex) (ha : BothE T G C k a) : BothE T G C k (.not a) := fun sc X W x o tk h => by
  unfold chk at h
  split at h
  · exact ⟨z_not o.hK (ha sc X W _ o tk h).1, zt_not (ha sc X W _ o tk h).2⟩
  · cases h
theorem e_cmp (op : Cop) (a b : Ex) (ha : BothE T G C k a) (hb : BothE T G C k b) : BothE T G C k (.cmp op a b) := fun sc X W x o tk h => by
  unfold chk at h
  split at h
  · unfold copC at h
    simp only [Bool.and_eq_true, decide_eq_true_eq, Bool.not_eq_true'] at h
    have hm := h.1.1.2
    rw [h.1.1.1] at hm ⊢
    exact ⟨z_cmpC (rcmp_ok o.hK o.is o.du o.r0 o.hu op) (ha sc X W _ o tk h.1.2).1 (hb sc X W _ o tk h.2).1 hm, zt_cmpC (rcmp_ok o.hK o.is o.du o.r0 o.hu op) (ha sc X W _ o tk h.1.2).1 (hb sc X W _ o tk h.2).1 hm⟩
  · cases h
theorem e_chn (op op' : Cop) (a b c : Ex) (ha : BothE T G C k a) (hb : BothE T G C k b) (hc : BothE T G C k c) : BothE T G C k (.chn op op' a b c) := fun sc X W x o tk h => by
  unfold chk at h
  split at h
  · simp only [Bool.and_eq_true, decide_eq_true_eq, Bool.not_eq_true'] at h
    obtain ⟨⟨⟨⟨⟨h1, h2⟩, hm⟩, h4⟩, h5⟩, h6⟩ := h
    rw [h1, h2] at hm ⊢
    exact ⟨z_chain (cmpF_ok o op) (cmpF_ok o op') (ha sc X W _ o tk h4).1 (hb sc X W _ o tk h5).1 (hc sc X W _ o tk h6).1 hm, zt_chain (cmpF_ok o op) (cmpF_ok o op') (ha sc X W _ o tk h4).1 (hb sc X W _ o tk h5).1 (hc sc X W _ o tk h6).1 hm⟩
  · cases h
theorem ne_of_isEmpty {es : List Expr} (h : (!es.isEmpty) = true) : es ≠ [] := fun e => by rw [e] at h; cases h
theorem e_and (as : Es) (ha : AllE T G C k as) : BothE T G C k (.and as) := fun sc X W x o tk h => by
  unfold chk at h
  split at h
  · rw [Bool.and_eq_true] at h
    obtain ⟨a, b, c⟩ := ha sc X W _ o tk h.2
    exact ⟨(c (ne_of_isEmpty h.1) _).1.1, (c (ne_of_isEmpty h.1) _).1.2.pt⟩
  · cases h
theorem e_or (as : Es) (ha : AllE T G C k as) : BothE T G C k (.or as) := fun sc X W x o tk h => by
  unfold chk at h
  split at h
  · rw [Bool.and_eq_true] at h
    obtain ⟨a, b, c⟩ := ha sc X W _ o tk h.2
    exact ⟨(c (ne_of_isEmpty h.1) _).2.1, (c (ne_of_isEmpty h.1) _).2.2.pt⟩
  · cases h
theorem e_ife (c a b : Ex) (hc : BothE T G C k c) (ha : BothE T G C k a) (hb : BothE T G C k b) : BothE T G C k (.ife c a b) := fun sc X W x o tk h => by
  unfold chk at h
  split at h
  · simp only [Bool.and_eq_true] at h
    exact ⟨z_if (hc sc X W _ o tk h.1.1).2 (ha sc X W _ o tk h.1.2).1 (hb sc X W _ o tk h.2).1, zt_ife (hc sc X W _ o tk h.1.1).2 (ha sc X W _ o tk h.1.2).2 (hb sc X W _ o tk h.2).2⟩
  · cases h
theorem e_tup (as : Es) (ha : AllE T G C k as) : BothE T G C k (.tup as) := fun sc X W x o tk h => by
  unfold chk at h
  split at h
  · exact both o.hK (z_tup (ha sc X W _ o tk h).1) rfl
  · cases h
theorem e_lst (as : Es) (ha : AllE T G C k as) : BothE T G C k (.lst as) := fun sc X W x o tk h => by
  unfold chk at h
  split at h
  · exact both o.hK (z_lst (ha sc X W _ o tk h).1) rfl
  · cases h
theorem e_ix (a b : Ex) (ha : BothE T G C k a) (hb : BothE T G C k b) : BothE T G C k (.ix a b) := fun sc X W x o tk h => by
  unfold chk at h
  split at h
  · simp only [Bool.and_eq_true, Bool.not_eq_true'] at h
    exact both o.hK (z_ix o.hK o.hu (ha sc X W _ o tk h.1.2).1 (hb sc X W _ o tk h.2).1 (plain_ix h.1.1)) rfl
  · cases h
theorem e_sl (a : Ex) (lo hi : Eo) (ha : BothE T G C k a) (hl : OptE T G C k lo) (hh : OptE T G C k hi) : BothE T G C k (.sl a lo hi) := fun sc X W x o tk h => by
  unfold chk at h
  split at h
  · simp only [Bool.and_eq_true] at h
    exact both o.hK (z_sl o.hK (ha sc X W _ o tk h.1.1).1 (hl.1 sc X W _ o tk h.1.2) (hh.1 sc X W _ o tk h.2)) rfl
  · cases h
theorem XOk.blt {sc : Sc} {X : Cx} (o : XOk T G C k sc X) {x : Str} (h : Z.blt T sc x = true) : Gl X x ∧ X.mg x = none := by
  unfold Z.blt at h
  rw [Bool.and_eq_true] at h
  exact ⟨o.gl h.1, o.bl x (by simpa using h.2)⟩
theorem e_bi (b : B1) (as : Es) (ha : AllE T G C k as) : BothE T G C k (.bi b as) := fun sc X W x o tk h => by
  unfold chk at h
  split at h
  · simp only [Bool.and_eq_true, decide_eq_true_eq] at h
    obtain ⟨hg, hm⟩ := o.blt h.1.2
    rw [h.1.1] at hg hm ⊢
    obtain ⟨h1, h2, _⟩ := ha sc X W _ o tk h.2
    exact both o.hK (bi_ok o b hg hm h1 h2) rfl
  · cases h
theorem e_call (f : Nat) (as : Es) (ha : AllE T G C k as) : BothE T G C k (.call f as) := fun sc X W x o tk h => by
  unfold chk at h
  split at h
  · simp only [Bool.and_eq_true, decide_eq_true_eq] at h
    obtain ⟨⟨⟨hg, hn⟩, hf⟩, hA⟩ := h
    obtain ⟨a, hm, hk, fn⟩ := o.df _ _ hf
    obtain ⟨h1, h2, _⟩ := ha sc X W _ o tk hA
    refine both o.hK ?_ rfl
    rename_i es _ _
    cases es with
    | nil =>
      cases as with
      | nil => exact z_call0 fn tk o.r0 (o.gl hg) hm hk (okNm_ok hn).1
      | cons _ _ => simp only [chkA, Bool.false_eq_true] at hA
    | cons e es => exact z_call fn tk o.r0 (o.gl hg) hm hk h1 (okNm_ok hn).1 (star_cons (noStars_cons h2).1) (star_any (noStars_cons h2).2)
  · cases h
theorem e_mk (c : Nat) (as : Es) (ha : AllE T G C k as) : BothE T G C k (.mk c as) := fun sc X W x o tk h => by
  unfold chk at h
  split at h
  · simp only [Bool.and_eq_true, decide_eq_true_eq] at h
    obtain ⟨⟨⟨hg, hn⟩, hf⟩, hA⟩ := h
    obtain ⟨hm, hk, fn⟩ := o.cs _ _ hf
    obtain ⟨h1, h2, _⟩ := ha sc X W _ o tk hA
    refine both o.hK ?_ rfl
    rename_i es _ _
    cases es with
    | nil =>
      cases as with
      | nil => exact z_mk0 fn tk o.rm (o.gl hg) hm hk (okNm_ok hn).1
      | cons _ _ => simp only [chkA, Bool.false_eq_true] at hA
    | cons e es => exact z_mk fn tk o.rm (o.gl hg) hm hk h1 (okNm_ok hn).1 (star_cons (noStars_cons h2).1) (star_any (noStars_cons h2).2)
  · cases h
theorem XOk.name {sc : Sc} {X : Cx} (o : XOk T G C k sc X) {m : Nat} (h : m < T.nm.length) : T.nm.getD m Str.empty = G.name m := by
  unfold Gx.name
  rw [o.nm]
theorem e_meth (q : Ex) (m : Nat) (as : Es) (hq : BothE T G C k q) (ha : AllE T G C k as) : BothE T G C k (.meth q m as) := fun sc X W x o tk h => by
  unfold chk at h
  split at h
  · simp only [Bool.and_eq_true, decide_eq_true_eq, Bool.not_eq_true'] at h
    obtain ⟨⟨⟨⟨⟨⟨hm, hy⟩, hs⟩, hl⟩, hp⟩, hQ⟩, hA⟩ := h
    rw [o.name hm] at hy
    obtain ⟨h1, h2, _⟩ := ha sc X W _ o tk hA
    refine both o.hK ?_ rfl
    rw [hy]
    rename_i es _ _
    cases es with
    | nil =>
      cases as with
      | nil => exact z_meth0 o.hK o.g o.me tk o.r0 (hq sc X W _ o tk hQ).1 (attr_no hs) hp
      | cons _ _ => simp only [chkA, Bool.false_eq_true] at hA
    | cons e es => exact z_meth o.hK o.g o.me tk o.r0 (hq sc X W _ o tk hQ).1 h1 (attr_no hs) (star_cons (noStars_cons h2).1) (star_any (noStars_cons h2).2) (star_all h2) hl hp
  · cases h
theorem e_attr (q : Ex) (m : Nat) (hq : BothE T G C k q) : BothE T G C k (.attr q m) := fun sc X W x o tk h => by
  unfold chk at h
  split at h
  · simp only [Bool.and_eq_true, decide_eq_true_eq, Bool.not_eq_true'] at h
    obtain ⟨⟨⟨hm, hy⟩, hs⟩, hQ⟩ := h
    rw [o.name hm] at hy
    rw [hy]
    exact both o.hK (z_attr o.hK o.g o.pr o.rm (hq sc X W _ o tk hQ).1 (attr_no hs)) rfl
  · cases h
theorem chk_comp {sc : Sc} {own : List Nat} {t : Tg} {it : It1} {c : Eo} {el : Ex} {x : Expr} (h : chk T sc (.comp own t it c el) x = true) : ∃ e tg iter ifs scope p, x = .ListComp e [⟨tg, iter, ifs, 0⟩] scope p ∧
    blkOk sc.N sc.ks scope own = true ∧ isSetE iter = false ∧ chkI T sc it tg iter = true ∧ chkT (sc.blk scope) t tg = true ∧ chk T (sc.blk scope) el e = true ∧ chkC T (sc.blk scope) c ifs = true := by
  unfold chk at h
  split at h
  · simp only [Bool.and_eq_true, Bool.not_eq_true'] at h
    obtain ⟨⟨⟨⟨⟨hb, hs⟩, hI⟩, hT⟩, hE⟩, hC⟩ := h
    exact ⟨_, _, _, _, _, _, rfl, hb, hs, hI, hT, hE, hC⟩
  · cases h
theorem e_comp (own : List Nat) (t : Tg) (it : It1) (c : Eo) (el : Ex) (hi : ItE T G C k it) (hc : OptE T G C k c) (he : BothE T G C k el) : BothE T G C k (.comp own t it c el) := fun sc X W x o tk h => by
  unfold chk at h
  split at h
  · simp only [Bool.and_eq_true, Bool.not_eq_true'] at h
    obtain ⟨⟨⟨⟨⟨hb, hs⟩, hI⟩, hT⟩, hE⟩, hC⟩ := h
    obtain ⟨ow, e, ok, hk⟩ := blkOk_ok o hb
    subst e
    refine both o.hK (z_comp o.cm (o.N ▸ o.nd) (hi sc X W _ _ o tk hI) ok (fun s H C' cl fp => chkT_ok (o.blk hk s H C' cl fp) t hT) (fun s H C' cl fp => hc.2 _ _ W0 _ (o.blk hk s H C' cl fp) takes0 hC) (fun s H C' cl fp => (he _ _ W0 _ (o.blk hk s H C' cl fp) takes0 hE).1) (fold_no hs)) rfl
  · cases h
theorem a_nil : AllE T G C k .nil := fun sc X W es o tk h => by
  cases es with
  | nil => exact ⟨za_nil, rfl, fun h => (h rfl).elim⟩
  | cons _ _ => simp only [chkA, Bool.false_eq_true] at h
theorem a_cons (e : Ex) (as : Es) (he : BothE T G C k e) (ha : AllE T G C k as) : AllE T G C k (.cons e as) := fun sc X W es o tk h => by
  cases es with
  | nil => simp only [chkA, Bool.false_eq_true] at h
  | cons x xs =>
    simp only [chkA, Bool.and_eq_true, Bool.not_eq_true'] at h
    obtain ⟨⟨hs, h1⟩, h2⟩ := h
    obtain ⟨a, b⟩ := he sc X W _ o tk h1
    obtain ⟨c, d, f⟩ := ha sc X W _ o tk h2
    refine ⟨za_cons a c (star_cons hs), ?_, fun _ pos => ?_⟩
    · unfold noStars at d ⊢
      rw [List.all_cons, hs, d]; rfl
    · cases xs with
      | nil =>
        cases as with
        | nil => exact ⟨⟨z_one a, zt_and1 b⟩, ⟨z_one a, zt_or1 b⟩⟩
        | cons _ _ => simp only [chkA, Bool.false_eq_true] at h2
      | cons y ys =>
        cases as with
        | nil => simp only [chkA, Bool.false_eq_true] at h2
        | cons e2 as2 =>
          obtain ⟨⟨f1, f2⟩, f3, f4⟩ := f (by simp) pos
          exact ⟨⟨z_and o.hK a f1, zt_and b f2⟩, ⟨z_or o.hK a f3, zt_or b f4⟩⟩
theorem o_none : OptE T G C k .none := ⟨fun sc X W a o tk h => by
  cases a with
  | none => exact zp_none
  | some _ => simp only [chkO, Bool.false_eq_true] at h, fun sc X W a o tk h => by
  cases a with
  | nil => exact zts_nil
  | cons _ _ => simp only [chkC, Bool.false_eq_true] at h⟩
theorem o_some (e : Ex) (he : BothE T G C k e) : OptE T G C k (.some e) := ⟨fun sc X W a o tk h => by
  cases a with
  | none => simp only [chkO, Bool.false_eq_true] at h
  | some x =>
    simp only [chkO] at h
    exact zp_some (he sc X W _ o tk h).1, fun sc X W a o tk h => by
  cases a with
  | nil => simp only [chkC, Bool.false_eq_true] at h
  | cons x xs =>
    cases xs with
    | nil =>
      simp only [chkC] at h
      exact zts_one (he sc X W _ o tk h).2
    | cons _ _ => simp only [chkC, Bool.false_eq_true] at h⟩
theorem i_seq (l : Option Nat) (e : Ex) (he : BothE T G C k e) : ItE T G C k (.seq l e) := fun sc X W tg a o tk h => by
  simp only [chkI] at h
  exact z_seq o.hK (he sc X W _ o tk h).1
theorem i_enum (l : Option Nat) (e : Ex) (he : BothE T G C k e) : ItE T G C k (.enum l e) := fun sc X W tg a o tk h => by
  unfold chkI at h
  split at h
  · simp only [Bool.and_eq_true, decide_eq_true_eq, Bool.not_eq_true'] at h
    obtain ⟨⟨⟨⟨hy, hb⟩, hs⟩, he'⟩, ht⟩ := h
    obtain ⟨hg, hm⟩ := o.blt hb
    subst hy
    cases tg <;> first | (cases ht; done) | skip
    exact z_enum o.hK hg hm (he sc X W _ o tk he').1 (star_cons hs)
  · cases h
theorem i_rng (as : Es) (ha : AllE T G C k as) : ItE T G C k (.rng as) := fun sc X W tg a o tk h => by
  unfold chkI at h
  split at h
  · simp only [Bool.and_eq_true, decide_eq_true_eq, Bool.not_eq_true'] at h
    obtain ⟨⟨⟨⟨hy, hb⟩, hA⟩, h1⟩, h2⟩ := h
    obtain ⟨hg, hm⟩ := o.blt hb
    subst hy
    obtain ⟨p, q, _⟩ := ha sc X W _ o tk hA
    have hl := chkA_len hA
    rename_i es _ _
    have hn : ∀ z hs z1 ds, evA C as z = .ok hs z1 → peeks hs z1 = some ds → ds.length = es.length := fun z hs z1 ds e1 e2 => by rw [peeks_len e2, evA_len e1, hl]
    match es, p, q, hn, h1, h2 with
    | [a], p, q, hn, _, _ => exact z_rng1 hg hm p (star_cons (noStars_cons q).1) hn
    | [a, b], p, q, hn, _, _ =>
      have e2 : starEach [b] X.env = [(false, eval b X.env)] := star_cons (noStars_cons (noStars_cons q).2).1
      exact z_rng2 hg hm p (by rw [star_cons (noStars_cons q).1, e2]) e2 hn
    | [a, b, c], p, q, hn, _, _ => exact z_rng3 hg hm p (star_cons (noStars_cons q).1) (star_any (noStars_cons q).2) hn
    | [], _, _, _, h1, _ => exact absurd h1 (by decide)
    | _ :: _ :: _ :: _ :: _, _, _, _, _, h2 => exact absurd h2 (by simp only [List.length_cons]; omega)
  · cases h
theorem e_dct0 (t : Bool) : BothE T G C k (.dct0 t) := fun sc X W x o tk h => by
  unfold chk at h
  split at h
  · exact both o.hK (z_dct0 t) rfl
  · cases h
theorem e_isi (e : Ex) (t : Ty) (he : BothE T G C k e) : BothE T G C k (.isi e t) := fun sc X W x o tk h => by
  unfold chk at h
  split at h
  · simp only [Bool.and_eq_true, decide_eq_true_eq, Bool.not_eq_true'] at h
    obtain ⟨⟨⟨⟨⟨⟨hy, hb⟩, hs⟩, h1⟩, hg⟩, hn⟩, ht⟩ := h
    obtain ⟨hg0, hm0⟩ := o.blt hb
    subst hy
    refine both o.hK ?_ rfl
    cases t
    case own c =>
      have ht := of_decide_eq_true ht
      exact z_isi o.hK o.is hg0 hm0 (he sc X W _ o tk h1).1 (o.gl hg) (o.cs _ _ ht).1 (okNm_ok hn).1 hs
    all_goals
      simp only [Bool.and_eq_true, decide_eq_true_eq] at ht
      exact z_isiB o.hK o.is hg0 hm0 (he sc X W _ o tk h1).1 (o.gl hg) (o.bl _ (by simpa using ht.2)) ht.1 hs
  · cases h
theorem e_stop : BothE T G C k .stop := fun sc X W x o tk h => ⟨⟨fun pins s σ H Q I h => by
  obtain ⟨_, _, _, _, h⟩ := h
  exact h.elim⟩, ⟨fun pins s σ H Q I h => by
  obtain ⟨_, _, _, _, h⟩ := h
  exact h.elim⟩⟩
mutual
theorem ex_ok : ∀ e : Ex, BothE T G C k e
  | .lc i => e_lc i
  | .kon d => e_kon d
  | .gk j => e_gk j
  | .bin op a b => e_bin op a b (ex_ok a) (ex_ok b)
  | .neg a => e_neg a (ex_ok a)
  | .not a => e_not a (ex_ok a)
  | .cmp op a b => e_cmp op a b (ex_ok a) (ex_ok b)
  | .chn op op' a b c => e_chn op op' a b c (ex_ok a) (ex_ok b) (ex_ok c)
  | .and as => e_and as (es_ok as)
  | .or as => e_or as (es_ok as)
  | .ife c a b => e_ife c a b (ex_ok c) (ex_ok a) (ex_ok b)
  | .tup as => e_tup as (es_ok as)
  | .lst as => e_lst as (es_ok as)
  | .ix a b => e_ix a b (ex_ok a) (ex_ok b)
  | .sl a lo hi => e_sl a lo hi (ex_ok a) (eo_ok lo) (eo_ok hi)
  | .bi b as => e_bi b as (es_ok as)
  | .call f as => e_call f as (es_ok as)
  | .mk c as => e_mk c as (es_ok as)
  | .meth q m as => e_meth q m as (ex_ok q) (es_ok as)
  | .attr q n => e_attr q n (ex_ok q)
  | .comp own t it c el => e_comp own t it c el (it_ok it) (eo_ok c) (ex_ok el)
  | .stop => e_stop
  | .isi e t => e_isi e t (ex_ok e)
  | .dct0 t => e_dct0 t
theorem es_ok : ∀ as : Es, AllE T G C k as
  | .nil => a_nil
  | .cons e es => a_cons e es (ex_ok e) (es_ok es)
theorem eo_ok : ∀ c : Eo, OptE T G C k c
  | .none => o_none
  | .some e => o_some e (ex_ok e)
theorem it_ok : ∀ it : It1, ItE T G C k it
  | .seq l e => i_seq l e (ex_ok e)
  | .rng as => i_rng as (es_ok as)
  | .enum l e => i_enum l e (ex_ok e)
end
end
end Z
end

section
set_option maxRecDepth 100007
/-! Several names at once. -/
namespace Z
open PySem L2 PyProof.Rows
theorem any_star (vs : List Expr) (h : noStars vs = true) : (vs.any fun | .Starred .. => true | _ => false) = false := by
  induction vs with
  | nil => rfl
  | cons e es ih =>
    obtain ⟨h1, h2⟩ := noStars_cons h
    rw [List.any_cons, ih h2, Bool.or_false]
    cases e <;> first | rfl | cases h1
def lineOf (ts : List Expr) : Nat := (ts.head?.map (·.pos.line)).getD 0
def nmsOf (ks : List (Str × NameKind)) (line : Nat) (ts : List Expr) : List Str := ts.filterMap fun
    | .Name id pos => if ks.lookup id == some .local && pos.line == line then some id else none
    | _ => none
theorem swapped_yes {ts vs : List Expr} {xs : List Str} {kt k2 : Nat} {pt pt2 : Pos} {env : Env} (hb : env.blockKind = .function) (hl : ts.length = 2 ∨ ts.length = 3) (hv : vs.length = ts.length) (hn : nmsOf env.scope.names (lineOf ts) ts = xs) (hx : xs.length = ts.length) (hd : xs.eraseDups.length = xs.length)
    (hs : noStars vs = true) (h1 : vs.all (foldedForSure 8) = false) (h2 : vs.all (constantsAlone 8) = false) : swappedStores [.Tuple ts kt pt] (.Tuple vs k2 pt2) env = pure (some xs) := by
  have h3 := any_star _ hs
  have h4 : (ts.length == 2 || ts.length == 3) = true := by rcases hl with h | h <;> rw [h] <;> rfl
  have hn' : (ts.filterMap fun | .Name id pos => if env.kindOf id == some .local && pos.line == lineOf ts then some id else none | _ => none) = xs := hn
  unfold lineOf at hn'
  have h5 : (!(ts.length == 2 || ts.length == 3) || vs.length != ts.length || env.blockKind != .function) = false := by rw [h4, hv, hb]; simp
  unfold swappedStores
  refine (if_neg (by rw [h5]; decide)).trans ?_
  refine (if_neg (by rw [Bool.not_eq_true]; exact h3)).trans ?_
  refine (if_neg (by
    rw [Bool.not_eq_true, Bool.or_eq_false_iff]
    refine ⟨?_, ?_⟩
    · exact (congrArg (fun l : List Str => l.length != ts.length) hn').trans (by simp [hx])
    · exact (congrArg (fun l : List Str => l.eraseDups.length != l.length) hn').trans (by simp [hd]))).trans ?_
  refine (if_neg (by rw [h1]; decide)).trans ?_
  rw [h2]
  exact congrArg (fun l : List Str => (pure (some l) : Sem (Option (List Str)))) hn'
theorem swapped_len {ts vs : List Expr} {kt k2 : Nat} {pt pt2 : Pos} {env : Env} (hl : (ts.length == 2 || ts.length == 3) = false) : swappedStores [.Tuple ts kt pt] (.Tuple vs k2 pt2) env = pure none := by
  unfold swappedStores
  simp only [hl]
  rfl
def setAll (σ : L2.St) : List Nat → List V → L2.St
  | i :: is, v :: vs => setAll (σ.set i (some v)) is vs
  | _, _ => σ
section
variable {G : Gx} {W : WX} {ro : Ro} {X : Cx} {σ : L2.St} {H : Hp} {F : Fz} {ow : Ows} {z z' : Zs}
theorem sets_ok : ∀ {is : List Nat} {os : List O} {vs : List V} {σ : L2.St} {ow : Ows} {z : Zs} {f : List Addr}, SRep G H F σ z ow → RepOs G H F vs os f → (∀ a ∈ f, ¬ Own ow a) → (∀ a ∈ f, ¬ F a) → setsS ro is os z = some z' →
    ∃ ow', SRep G H F (setAll σ is vs) z' ow' ∧ Kp ro σ (setAll σ is vs) ∧ ∀ a, Own ow' a → Own ow a ∨ a ∈ f := by
  intro is
  induction is with
  | nil =>
    intro os vs σ ow z f s r d nf e
    cases r with
    | nil =>
      simp only [setsS, Option.some.injEq] at e
      subst e
      exact ⟨ow, s, Kp.refl, fun a h => .inl h⟩
    | cons _ _ _ => simp only [setsS, reduceCtorEq] at e
  | cons i is ih =>
    intro os vs σ ow z f s r d nf e
    cases r with
    | nil => simp only [setsS, reduceCtorEq] at e
    | @cons v o vs os f g r rs dj =>
      simp only [setsS] at e
      cases e1 : setS ro i o z with
      | none => rw [e1] at e; cases e
      | some z1 =>
        rw [e1] at e
        obtain ⟨s1, k1⟩ := setS_ok s r (fun a h q => d a (by simp [h]) (own_ow0 q)) (fun a h => nf a (by simp [h])) e1
        obtain ⟨ow', s2, k2, o2⟩ := ih s1 rs (fun a h q => by
          rcases own_ow1 q with q | q
          · exact d a (by simp [h]) (own_ow0 q)
          · exact dj a q h) (fun a h => nf a (by simp [h])) e
        refine ⟨ow', s2, k1.trans k2, fun a h => ?_⟩
        rcases o2 a h with h | h
        · rcases own_ow1 h with h | h
          · exact .inl (own_ow0 h)
          · exact .inr (by simp [h])
        · exact .inr (by simp [h])
theorem par_read {is : List Nat} {mA : Zs → R (List Hd)} {D : Ends} (h : tZS G W ro (exPar ro is mA) D σ H) : tZA G W mA σ H fun vs H1 => vs.length = is.length ∧ D.nx (setAll σ is vs) H1 := by
  obtain ⟨z, ow, F, s, run⟩ := h
  refine ⟨z, ow, F, s, RunS.first s run fun hs z1 vs H1 F1 ow1 f1 _ st1 s1 r1 d1 run1 => ?_⟩
  cases e1 : lendA (takeM hs) hs z1 with
  | none => simp only [e1] at run1; exact run1.elim
  | some p =>
    obtain ⟨os, z2⟩ := p
    simp only [e1] at run1
    cases e2 : setsS ro is os z2 with
    | none => simp only [e2] at run1; exact run1.elim
    | some z3 =>
      simp only [e2] at run1
      obtain ⟨F2, ow2, f2, s2, ros, st2, d2⟩ := lend_ok r1 s1 d1 (fun a h => st1.nf a (.inr h)) (fun a h => st1.tr a (.inr h)) e1
      obtain ⟨ow3, s3, k3, o3⟩ := sets_ok s2 ros d2 (fun a h => st2.nf a (.inr h)) e2
      have hl : ∀ {is : List Nat} {os : List O} {z : Zs}, setsS ro is os z = some z3 → os.length = is.length := by
        intro is
        induction is with
        | nil =>
          intro os z e
          cases os with
          | nil => rfl
          | cons _ _ => simp only [setsS, reduceCtorEq] at e
        | cons i is ih =>
          intro os z e
          cases os with
          | nil => simp only [setsS, reduceCtorEq] at e
          | cons o os =>
            simp only [setsS] at e
            cases e3 : setS ro i o z with
            | none => rw [e3] at e; cases e
            | some z4 =>
              rw [e3] at e
              rw [List.length_cons, List.length_cons, ih e]
      exact ⟨by rw [ros.length, hl e2], run1 _ H1 F2 ow3 ((st1.trans st2).weak o3) s3 k3⟩
theorem zs_par2 {i j : Nat} {x y : Str} {a b : Expr} {mA : Zs → R (List Hd)} {px py pt pos : Pos} {kt k2 pt2} (hc : X.calm = true) (hN : X.N.Nodup) (hi : X.N[i]? = some x) (hj : X.N[j]? = some y) (hij : i ≠ j)
    (hx : X.env.scope.names.lookup x = some .local) (hy : X.env.scope.names.lookup y = some .local) (ha : PA X [a, b] (tZA G W mA))
    (hw : swappedStores [.Tuple [.Name x px, .Name y py] kt pt] (.Tuple [a, b] k2 pt2) X.env = pure (some [x, y])) :
    PS X (.Assign [.Tuple [.Name x px, .Name y py] kt pt] (.Tuple [a, b] k2 pt2) pos) (tZS G W ro (exPar ro [i, j] mA)) := PS.imp (ps_par hc hN hi hj hij hx hy ha hw (by rfl)) fun D σ H h => by
  obtain ⟨z, ow, F, s, run⟩ := par_read h
  refine ⟨z, ow, F, s, RunG.first (k := fun a z => .ok a z) (rel2 := relA G σ) (Q := fun vs H1 => vs.length = 2 ∧ D.nx (setAll σ [i, j] vs) H1) s (by cases e : mA z <;> rw [e] at run <;> exact run) fun hs z1 vs H1 F1 ow1 f1 _ st1 s1 r1 d1 run1 => ?_⟩
  have := run1 vs H1 F1 ow1 f1 st1 s1 r1 d1
  match vs, this with
  | [v, w], h => exact ⟨v, w, rfl, h.2⟩
theorem zs_par3 {i j l : Nat} {x y w : Str} {a b c : Expr} {mA : Zs → R (List Hd)} {px py pz pt pos : Pos} {kt k2 pt2} (hc : X.calm = true) (hN : X.N.Nodup) (hi : X.N[i]? = some x) (hj : X.N[j]? = some y) (hl : X.N[l]? = some w) (hij : i ≠ j) (hil : i ≠ l) (hjl : j ≠ l)
    (hx : X.env.scope.names.lookup x = some .local) (hy : X.env.scope.names.lookup y = some .local) (hz : X.env.scope.names.lookup w = some .local) (ha : PA X [a, b, c] (tZA G W mA))
    (hw : swappedStores [.Tuple [.Name x px, .Name y py, .Name w pz] kt pt] (.Tuple [a, b, c] k2 pt2) X.env = pure (some [x, y, w])) :
    PS X (.Assign [.Tuple [.Name x px, .Name y py, .Name w pz] kt pt] (.Tuple [a, b, c] k2 pt2) pos) (tZS G W ro (exPar ro [i, j, l] mA)) := PS.imp (ps_par3 hc hN hi hj hl hij hil hjl hx hy hz ha hw (by rfl)) fun D σ H h => by
  obtain ⟨z, ow, F, s, run⟩ := par_read h
  refine ⟨z, ow, F, s, RunG.first (k := fun a z => .ok a z) (rel2 := relA G σ) (Q := fun vs H1 => vs.length = 3 ∧ D.nx (setAll σ [i, j, l] vs) H1) s (by cases e : mA z <;> rw [e] at run <;> exact run) fun hs z1 vs H1 F1 ow1 f1 _ st1 s1 r1 d1 run1 => ?_⟩
  have := run1 vs H1 F1 ow1 f1 st1 s1 r1 d1
  match vs, this with
  | [u, v, w], h => exact ⟨u, v, w, rfl, h.2⟩
end
end Z
end

section
set_option maxRecDepth 100007
/-! The check of statements, and that it is sound. -/
namespace Z
open PySem L2 PyProof.Rows
def swLc (sc : Sc) (t : Str) (pos : Pos) (scope : Scope) (p : Pos) : Bool := (sc.ks.lookup t == some .local) && pos.line == p.line && !(scope.names.any fun (n, k) => n == t && (k == .local || k == .cell))
def swOk (sc : Sc) (x : Str) (px : Pos) (e : Ex) (v : Expr) : Bool := match v with
  | .ListComp _ _ scope p => (match e with
    | .comp .. => true
    | _ => false) && (!swLc sc x px scope p || decide (sc.ks.lookup x = some .local))
  | v => !isComp v
def chkPar (sc : Sc) : List Nat → List Expr → Bool
  | [i, j], [.Name x px, .Name y py] => decide (sc.N[i]? = some x) && decide (sc.N[j]? = some y) && decide (i ≠ j) && decide (sc.ks.lookup x = some .local) && decide (sc.ks.lookup y = some .local) && decide (nmsOf sc.ks px.line [.Name x px, .Name y py] = [x, y]) && decide ([x, y].eraseDups.length = 2)
  | [i, j, l], [.Name x px, .Name y py, .Name w pw] => decide (sc.N[i]? = some x) && decide (sc.N[j]? = some y) && decide (sc.N[l]? = some w) && decide (i ≠ j) && decide (i ≠ l) && decide (j ≠ l) && decide (sc.ks.lookup x = some .local) && decide (sc.ks.lookup y = some .local) && decide (sc.ks.lookup w = some .local) && decide (nmsOf sc.ks px.line [.Name x px, .Name y py, .Name w pw] = [x, y, w]) && decide ([x, y, w].eraseDups.length = 3)
  | _, _ => false
def parNo (tg v : Expr) : Bool := match tg, v with
  | .Tuple ts _ _, .Tuple vs _ _ => !(ts.length == 2 || ts.length == 3)
  | tg, v => !isPar tg v
mutual
def chkS (T : Tab) (sc : Sc) : Sm → Stmt → Bool
  | .pass, s => match s with
    | .Pass _ => true
    | _ => false
  | .brk, s => match s with
    | .Break _ => true
    | _ => false
  | .cnt, s => match s with
    | .Continue _ => true
    | _ => false
  | .retN, s => match s with
    | .Return none _ => true
    | _ => false
  | .ret e, s => match s with
    | .Return (some x) _ => chk T sc e x
    | _ => false
  | .drop e, s => match s with
    | .Expr x _ => !isComp x && chk T sc e x
    | _ => false
  | .asg i e, s => match s with
    | .Assign [.Name x px] v _ => sc.st i x && chk T sc e v && swOk sc x px e v
    | _ => false
  | .asgT t e, s => match s with
    | .Assign [tg] v _ => chkT sc t tg && chk T sc e v && !isComp v && !isStar tg && parNo tg v
    | _ => false
  | .par is as, s => match s with
    | .Assign [.Tuple ts _ _] (.Tuple vs _ _) _ => chkPar sc is ts && chkA T sc as vs && decide (vs.length = ts.length) && !vs.all (foldedForSure 8) && !vs.all (constantsAlone 8)
    | _ => false
  | .app i e, s => match s with
    | .Expr (.Call (.Attribute (.Name x _) y ap) [v] [] cp) _ => sc.var i x && decide (y = ("append" : Str)) && !isStar v && (ap.endLine == cp.line) && chk T sc e v
    | _ => false
  | .setIx i k e, s => match s with
    | .Assign [.Subscript (.Name x _) y _] v _ => sc.var i x && !isSlc y && !isComp v && chk T sc k y && chk T sc e v
    | _ => false
  | .setFld i n e, s => match s with
    | .Assign [.Attribute (.Name x _) y _] v _ => sc.var i x && decide (n < T.nm.length) && decide (y = T.nm.getD n Str.empty) && !isComp v && chk T sc e v
    | _ => false
  | .aug op i e, s => match s with
    | .AugAssign (.Name x _) o v _ => sc.st i x && decide (o = opOf op) && chk T sc e v
    | _ => false
  | .ife c a b, s => match s with
    | .If x p q _ => chk T sc c x && chkB T sc a p && chkB T sc b q
    | _ => false
  | .whl c a, s => match s with
    | .While x p [] _ => chk T sc c x && chkB T sc a p
    | _ => false
  | .frl t it a, s => match s with
    | .For tg x p [] _ => chkI T sc it tg x && chkT sc t tg && chkB T sc a p && !isSetE x
    | _ => false
  | .stop, s => true
  | _, _ => false
def chkB (T : Tab) (sc : Sc) : Sm → List Stmt → Bool
  | .nil, [] => true
  | .seq s r, x :: xs => chkS T sc s x && chkB T sc r xs
  | _, _ => false
end
section
variable {T : Tab} {G : Gx} {C : Ct} {k : Nat} {sc : Sc} {X : Cx} {W : WX}
theorem XOk.bk (o : XOk T G C k sc X) : X.env.blockKind = .function := by
  unfold Env.blockKind
  rw [o.kd]
  rfl
theorem swaps_lc {e : Expr} {gs : List Comprehension} {scope : Scope} {p : Pos} {t : Str} {pos : Pos} {l : Nat} (o : XOk T G C k sc X) : swapsWith (.ListComp e gs scope p) (some (.Name t pos)) l X.env = pure (swLc sc t pos scope p) := by
  unfold swapsWith swLc
  simp only [o.bk]
  unfold Env.kindOf
  rw [o.ks]
  rfl
theorem s_asg (i : Nat) (e : Ex) (o : XOk T G C k sc X) (tk : Takes X W) {ro : Ro} {x : Str} {px pos : Pos} {v : Expr} (h1 : sc.st i x = true) (h2 : chk T sc e v = true) (h3 : swOk sc x px e v = true) : PS X (.Assign [.Name x px] v pos) (tZS G W ro (exAsgN ro i (ev C e).1)) := by
  obtain ⟨a, b, c, d⟩ := o.st h1
  by_cases hc : isComp v = true
  · cases v <;> first | (cases hc; done) | skip
    · rename_i el gs scope p
      simp only [swOk, Bool.and_eq_true] at h3
      cases e <;> first | (exact (Bool.false_ne_true h3.1).elim) | skip
      rename_i own t it cc ee
      have hsw := swaps_lc (e := el) (gs := gs) (scope := scope) (p := p) (t := x) (pos := px) (l := pos.line) o
      cases hv : swLc sc x px scope p with
      | false =>
        rw [hv] at hsw
        exact zs_asgN a b c ((ex_ok (T := T) (G := G) (C := C) (k := k) _) sc X W _ o tk h2).1 hsw d
      | true =>
        rw [hv] at hsw h3
        have hyl : X.env.scope.names.lookup x = some .local := by
          rw [o.ks]
          simpa using h3.2
        obtain ⟨_, _, _, _, _, _, heq, hb, hs, hI, hT, hE, hC⟩ := chk_comp h2
        cases heq
        obtain ⟨ow, e, ok, hk⟩ := blkOk_ok o hb
        subst e
        exact zs_asgLc o.cm (o.N ▸ o.nd) b hyl hsw ((it_ok it) sc X W _ _ o tk hI) ok (fun s H C' cl fp => chkT_ok (o.blk hk s H C' cl fp) t hT) (fun s H C' cl fp => (eo_ok cc).2 _ _ W0 _ (o.blk hk s H C' cl fp) takes0 hC) (fun s H C' cl fp => ((ex_ok ee) _ _ W0 _ (o.blk hk s H C' cl fp) takes0 hE).1) (fold_no hs)
    · simp only [swOk, isComp, Bool.not_true, Bool.false_eq_true] at h3
    · simp only [swOk, isComp, Bool.not_true, Bool.false_eq_true] at h3
  · exact zs_asgN a b c ((ex_ok (T := T) (G := G) (C := C) (k := k) _) sc X W _ o tk h2).1 (swaps_no (by simpa using hc)) d
theorem s_asgT (t : Tg) (e : Ex) (o : XOk T G C k sc X) (tk : Takes X W) {ro : Ro} {pos : Pos} {tg v : Expr} (h1 : chkT sc t tg = true) (h2 : chk T sc e v = true) (h3 : isComp v = false) (h4 : isStar tg = false) (h5 : parNo tg v = true) : PS X (.Assign [tg] v pos) (tZS G W ro (exAsgT ro t (ev C e).1)) := by
  refine zs_asgT ((ex_ok (T := T) (G := G) (C := C) (k := k) _) sc X W _ o tk h2).1 (chkT_ok o t h1) (swaps_no h3) ?_ (by rw [assign_cons h4]; rfl)
  unfold parNo at h5
  split at h5
  · exact swapped_len (by simpa using h5)
  · exact swapped_no (by simpa using h5)
theorem s_par (is : List Nat) (as : Es) (o : XOk T G C k sc X) (tk : Takes X W) {ro : Ro} {ts vs : List Expr} {kt k2 : Nat} {pt pt2 pos : Pos} (h1 : chkPar sc is ts = true) (h2 : chkA T sc as vs = true) (h3 : vs.length = ts.length) (h4 : vs.all (foldedForSure 8) = false) (h5 : vs.all (constantsAlone 8) = false) : PS X (.Assign [.Tuple ts kt pt] (.Tuple vs k2 pt2) pos) (tZS G W ro (exPar ro is (evA C as))) := by
  obtain ⟨p, q, _⟩ := (es_ok (T := T) (G := G) (C := C) (k := k) as) sc X W _ o tk h2
  unfold chkPar at h1
  split at h1
  · simp only [Bool.and_eq_true, decide_eq_true_eq] at h1
    obtain ⟨⟨⟨⟨⟨⟨a1, a2⟩, a3⟩, a4⟩, a5⟩, a6⟩, a7⟩ := h1
    match vs, h3 with
    | [a, b], _ => exact zs_par2 o.cm (o.N ▸ o.nd) (o.N ▸ a1) (o.N ▸ a2) a3 (by rw [o.ks]; exact a4) (by rw [o.ks]; exact a5) p (swapped_yes o.bk (.inl rfl) rfl (by rw [o.ks]; exact a6) rfl a7 q h4 h5)
  · simp only [Bool.and_eq_true, decide_eq_true_eq] at h1
    obtain ⟨⟨⟨⟨⟨⟨⟨⟨⟨⟨a1, a2⟩, a3⟩, b1⟩, b2⟩, b3⟩, a4⟩, a5⟩, a8⟩, a6⟩, a7⟩ := h1
    match vs, h3 with
    | [a, b, c], _ => exact zs_par3 o.cm (o.N ▸ o.nd) (o.N ▸ a1) (o.N ▸ a2) (o.N ▸ a3) b1 b2 b3 (by rw [o.ks]; exact a4) (by rw [o.ks]; exact a5) (by rw [o.ks]; exact a8) p (swapped_yes o.bk (.inr rfl) rfl (by rw [o.ks]; exact a6) rfl a7 q h4 h5)
  · cases h1
theorem sub_assign {y o : Expr} {p : Pos} {env : Env} (h : isSlc y = false) : ∀ v, assign (.Subscript o y p) env v = (do let ov ← holding [v] (eval o env); let iv ← holding [v, ov] (eval y env); standAt p; holding [v, ov, iv] (setItem ov iv v); release [v, ov, iv] []) := by
  intro v
  cases y <;> first | rfl | cases h
mutual
theorem sm_ok (o : XOk T G C k sc X) (tk : Takes X W) (hp : PassesOwn (model X.prog X.w) X.A X.env X.xe) : ∀ (s : Sm) {ro : Ro} {st : Stmt}, chkS T sc s st = true → PS X st (tZS G W ro (evS C ro s))
  | .nil, ro, st, h => by simp only [chkS, Bool.false_eq_true] at h
  | .seq _ _, ro, st, h => by simp only [chkS, Bool.false_eq_true] at h
  | .pass, ro, st, h => by
    unfold chkS at h
    split at h
    · exact zs_pass
    · cases h
  | .brk, ro, st, h => by
    unfold chkS at h
    split at h
    · exact zs_break
    · cases h
  | .cnt, ro, st, h => by
    unfold chkS at h
    split at h
    · exact zs_continue
    · cases h
  | .retN, ro, st, h => by
    unfold chkS at h
    split at h
    · exact zs_retN
    · cases h
  | .ret e, ro, st, h => by
    unfold chkS at h
    split at h
    · exact zs_ret ((ex_ok e) sc X W _ o tk h).1
    · cases h
  | .drop e, ro, st, h => by
    unfold chkS at h
    split at h
    · simp only [Bool.and_eq_true, Bool.not_eq_true'] at h
      exact zs_drop ((ex_ok e) sc X W _ o tk h.2).1 (swaps_no h.1)
    · cases h
  | .asg i e, ro, st, h => by
    unfold chkS at h
    split at h
    · simp only [Bool.and_eq_true] at h
      exact s_asg i e o tk h.1.1 h.1.2 h.2
    · cases h
  | .asgT t e, ro, st, h => by
    unfold chkS at h
    split at h
    · simp only [Bool.and_eq_true, Bool.not_eq_true'] at h
      exact s_asgT t e o tk h.1.1.1.1 h.1.1.1.2 h.1.1.2 h.1.2 h.2
    · cases h
  | .par is as, ro, st, h => by
    unfold chkS at h
    split at h
    · simp only [Bool.and_eq_true, Bool.not_eq_true', decide_eq_true_eq] at h
      exact s_par is as o tk h.1.1.1.1 h.1.1.1.2 h.1.1.2 h.1.2 h.2
    · cases h
  | .app i e, ro, st, h => by
    unfold chkS at h
    split at h
    · simp only [Bool.and_eq_true, Bool.not_eq_true', decide_eq_true_eq] at h
      obtain ⟨⟨⟨⟨a1, a2⟩, a3⟩, a4⟩, a5⟩ := h
      obtain ⟨b1, b2, b3, b4⟩ := o.var a1
      subst a2
      exact zs_app o.hK b1 b2 b3 b4 ((ex_ok e) sc X W _ o tk a5).1 (star_cons a3) (attr_no rfl) a4 (swaps_no rfl)
    · cases h
  | .setIx i y e, ro, st, h => by
    unfold chkS at h
    split at h
    · simp only [Bool.and_eq_true, Bool.not_eq_true', decide_eq_true_eq] at h
      obtain ⟨⟨⟨⟨a1, a2⟩, a3⟩, a4⟩, a5⟩ := h
      obtain ⟨b1, b2, b3, b4⟩ := o.var a1
      exact zs_setIx o.hu b1 b2 b3 b4 ((ex_ok e) sc X W _ o tk a5).1 ((ex_ok y) sc X W _ o tk a4).1 (sub_assign a2) (by exact (show swapsWithSole [_] _ _ _ = _ from by unfold swapsWithSole; exact swaps_no a3)) (swapped_no rfl) (by rw [assign_cons rfl]; rfl)
    · cases h
  | .setFld i n e, ro, st, h => by
    unfold chkS at h
    split at h
    · simp only [Bool.and_eq_true, Bool.not_eq_true', decide_eq_true_eq] at h
      obtain ⟨⟨⟨⟨a1, a2⟩, a3⟩, a4⟩, a5⟩ := h
      obtain ⟨b1, b2, b3, b4⟩ := o.var a1
      rw [o.name a2] at a3
      rw [a3]
      exact zs_setFld o.hK o.g b1 b2 b3 b4 ((ex_ok e) sc X W _ o tk a5).1 (swaps_no a4)
    · cases h
  | .aug op i e, ro, st, h => by
    unfold chkS at h
    split at h
    · simp only [Bool.and_eq_true, decide_eq_true_eq] at h
      obtain ⟨a, b, c, d⟩ := o.st h.1.1
      rw [h.1.2]
      exact zs_aug a b c ((ex_ok e) sc X W _ o tk h.2).1 d
    · cases h
  | .ife c a b, ro, st, h => by
    unfold chkS at h
    split at h
    · simp only [Bool.and_eq_true] at h
      exact zs_if ((ex_ok c) sc X W _ o tk h.1.1).2 (sb_ok o tk hp a h.1.2) (sb_ok o tk hp b h.2)
    · cases h
  | .whl c a, ro, st, h => by
    unfold chkS at h
    split at h
    · simp only [Bool.and_eq_true] at h
      exact zs_while hp ((ex_ok c) sc X W _ o tk h.1).2 (sb_ok o tk hp a h.2)
    · cases h
  | .frl t it a, ro, st, h => by
    unfold chkS at h
    split at h
    · simp only [Bool.and_eq_true, Bool.not_eq_true'] at h
      exact zs_for hp o.cm ((it_ok it) sc X W _ _ o tk h.1.1.1) (chkT_ok o t h.1.1.2) (sb_ok o tk hp a h.1.2) (fold_no h.2)
    · cases h
  | .stop, ro, st, h => ⟨fun pins s σ H D I h => by
    obtain ⟨_, _, _, _, h⟩ := h
    exact h.elim⟩
theorem sb_ok (o : XOk T G C k sc X) (tk : Takes X W) (hp : PassesOwn (model X.prog X.w) X.A X.env X.xe) : ∀ (s : Sm) {ro : Ro} {st : List Stmt}, chkB T sc s st = true → PSs X st (tZS G W ro (evS C ro s))
  | .nil, ro, st, h => by
    cases st with
    | nil => exact zs_nil
    | cons _ _ => simp only [chkB, Bool.false_eq_true] at h
  | .seq s r, ro, st, h => by
    cases st with
    | nil => simp only [chkB, Bool.false_eq_true] at h
    | cons x xs =>
      simp only [chkB, Bool.and_eq_true] at h
      exact zs_cons (sm_ok o tk hp s h.1) (sb_ok o tk hp r h.2)
  | .pass, ro, st, h => by cases st <;> simp only [chkB, Bool.false_eq_true] at h
  | .brk, ro, st, h => by cases st <;> simp only [chkB, Bool.false_eq_true] at h
  | .cnt, ro, st, h => by cases st <;> simp only [chkB, Bool.false_eq_true] at h
  | .retN, ro, st, h => by cases st <;> simp only [chkB, Bool.false_eq_true] at h
  | .ret _, ro, st, h => by cases st <;> simp only [chkB, Bool.false_eq_true] at h
  | .stop, ro, st, h => by cases st <;> simp only [chkB, Bool.false_eq_true] at h
  | .drop _, ro, st, h => by cases st <;> simp only [chkB, Bool.false_eq_true] at h
  | .asg _ _, ro, st, h => by cases st <;> simp only [chkB, Bool.false_eq_true] at h
  | .asgT _ _, ro, st, h => by cases st <;> simp only [chkB, Bool.false_eq_true] at h
  | .par _ _, ro, st, h => by cases st <;> simp only [chkB, Bool.false_eq_true] at h
  | .app _ _, ro, st, h => by cases st <;> simp only [chkB, Bool.false_eq_true] at h
  | .setIx _ _ _, ro, st, h => by cases st <;> simp only [chkB, Bool.false_eq_true] at h
  | .setFld _ _ _, ro, st, h => by cases st <;> simp only [chkB, Bool.false_eq_true] at h
  | .aug _ _ _, ro, st, h => by cases st <;> simp only [chkB, Bool.false_eq_true] at h
  | .ife _ _ _, ro, st, h => by cases st <;> simp only [chkB, Bool.false_eq_true] at h
  | .whl _ _, ro, st, h => by cases st <;> simp only [chkB, Bool.false_eq_true] at h
  | .frl _ _ _, ro, st, h => by cases st <;> simp only [chkB, Bool.false_eq_true] at h
end
end
end Z
end

section
set_option maxRecDepth 100007
/-! Defs keep their promises. -/
namespace Z
open PySem L2 PyProof.Rows
section
variable {G : Gx} {H H' : Hp} {F F' : Fz} {σ σ' : L2.St} {z z' : Zs} {ow ow' : Ows}
/-- the slots at a def's start -/
theorem srep_start {vs : List V} {os : List O} {f : List Addr} (n : Nat) (r : RepOs G H F vs os f) (ft : FT H F) (nf : ∀ a ∈ f, ¬ F a) : ∃ ow, SRep G H F (vs.map some ++ List.replicate n none) (os.map some ++ List.replicate n none) ow ∧ ∀ a, Own ow a ↔ a ∈ f := by
  induction r with
  | nil =>
    refine ⟨fun _ => [], ⟨by simp, fun i o e => ?_, fun _ _ => rfl, fun _ _ _ h => (by cases h), fun _ _ h => (by cases h), ft⟩, fun a => ⟨fun ⟨_, h⟩ => (by cases h), fun h => (by cases h)⟩⟩
    unfold rd at e
    simp only [List.map_nil, List.nil_append] at e
    cases h : (List.replicate n (none : Option O))[i]? with
    | none => rw [h] at e; cases e
    | some x =>
      rw [h] at e
      have hx := List.eq_of_mem_replicate (List.mem_of_getElem? h)
      subst hx
      cases e
  | @cons v o vs os f g h r d ih =>
    obtain ⟨ow, s, ho⟩ := ih fun a h => nf a (by simp [h])
    refine ⟨fun i => match i with
      | 0 => f
      | i + 1 => ow i, ⟨?_, fun i o' e => ?_, fun i e => ?_, fun i j a hi hj => ?_, fun i a hi => ?_, ft⟩, fun a => ⟨fun ⟨i, h⟩ => ?_, fun h => ?_⟩⟩
    · have := s.len
      simp only [List.map_cons, List.cons_append, List.length_cons] at this ⊢
      rw [this]
    · cases i with
      | zero =>
        cases e
        exact ⟨v, rfl, h⟩
      | succ i => exact s.rep i o' e
    · cases i with
      | zero => cases e
      | succ i => exact s.emp i e
    · cases i with
      | zero =>
        cases j with
        | zero => rfl
        | succ j => exact (d a hi ((ho a).mp ⟨j, hj⟩)).elim
      | succ i =>
        cases j with
        | zero => exact (d a hj ((ho a).mp ⟨i, hi⟩)).elim
        | succ j => rw [s.dj i j a hi hj]
    · cases i with
      | zero => exact nf a (by simp [hi])
      | succ i => exact s.nf i a hi
    · cases i with
      | zero => simp [show a ∈ f from h]
      | succ i => simp [(ho a).mp ⟨i, h⟩]
    · rcases List.mem_append.mp h with h | h
      · exact ⟨0, h⟩
      · obtain ⟨i, h⟩ := (ho a).mpr h
        exact ⟨i + 1, h⟩
/-- what was lent, at a def's end -/
theorem outs_ok (s : SRep G H' F' σ' z' ow') : ∀ {ms : List Bool} {vs : List V} {i : Nat} {outs : List (Option O)}, ms.length = vs.length → (∀ j v, ms[j]? = some true → vs[j]? = some v → σ'[i + j]? = some (some v)) → outsOf ms i z' = some outs →
    ∃ g, Outs G H' F' ms vs outs g ∧ ∀ a ∈ g, ∃ j, i ≤ j ∧ a ∈ ow' j := by
  intro ms
  induction ms with
  | nil =>
    intro vs i outs hl hk e
    exact ⟨[], .nil, fun a h => by cases h⟩
  | cons m ms ih =>
    intro vs i outs hl hk e
    cases vs with
    | nil => cases hl
    | cons v vs =>
      have hk' : ∀ j w, ms[j]? = some true → vs[j]? = some w → σ'[i + 1 + j]? = some (some w) := fun j w h1 h2 => by
        have := hk (j + 1) w (by simpa using h1) (by simpa using h2)
        rw [← this]; congr 1; omega
      cases m with
      | false =>
        simp only [outsOf] at e
        cases e1 : outsOf ms (i + 1) z' with
        | none => rw [e1] at e; cases e
        | some os =>
          rw [e1] at e
          cases e
          obtain ⟨g, h, k⟩ := ih (by simpa using hl) hk' e1
          exact ⟨g, .drop h, fun a ha => by
            obtain ⟨j, h1, h2⟩ := k a ha
            exact ⟨j, by omega, h2⟩⟩
      | true =>
        simp only [outsOf] at e
        cases e0 : rd z' i with
        | none => rw [e0] at e; cases e
        | some o =>
          cases e1 : outsOf ms (i + 1) z' with
          | none => rw [e0, e1] at e; cases e
          | some os =>
            rw [e0, e1] at e
            cases e
            obtain ⟨g, h, k⟩ := ih (by simpa using hl) hk' e1
            obtain ⟨v', ev, r⟩ := s.rep i o e0
            have := hk 0 v rfl rfl
            rw [Nat.add_zero, ev] at this
            cases this
            refine ⟨ow' i ++ g, .keep r h fun a h1 h2 => ?_, fun a ha => ?_⟩
            · obtain ⟨j, h3, h4⟩ := k a h2
              have := s.dj i j a h1 h4
              omega
            · rcases List.mem_append.mp ha with ha | ha
              · exact ⟨i, Nat.le_refl _, ha⟩
              · obtain ⟨j, h1, h2⟩ := k a ha
                exact ⟨j, by omega, h2⟩
end
section
variable {P : Program} {w : World} {K : PySem.W.Frag} {mg : Str → Option Value} {base : Heap} {G : Gx} {T : Tab} {C : Ct} {k : Nat}
/-- the text st is the tree d, with slots N and parameters ps -/
structure Is (T : Tab) (d : Df) (st : Stmt) (N ps : List Str) : Prop where
  sc : FnScope N ps (defScope st)
  np : d.np = ps.length
  ns : d.ns = N.length
  ml : d.modes.length = ps.length
  ok : chkB T ⟨N, (defScope st).names, none⟩ d.body (defBody st) = true
theorem def_ok {d : Df} {st : Stmt} {N ps : List Str} {f : Addr} {name qual : Str} {dV kV doc pm cdv ct oc : Value} {an od : Option Addr} {osl : Array (Option Value)} (is : Is T d st N ps)
    (lk : K.lookup f = some ⟨oc, od, .func (PySem.W.fnOf name qual (defArgs st) (defBody st) (defScope st) dV kV doc pm an cdv ct), osl⟩) (hcd : PySem.W.codeIn K cdv qual = true)
    (xo : ∀ X : Cx, X.prog = P → X.w = w → X.K = K → X.mg = mg → X.base = base → Room (k + 1) X.A → X.calm = true → X.N = N → X.env.scope = defScope st → X.fn = (fun _ => true) → XOk T G C k ⟨N, (defScope st).names, none⟩ X) :
    FnOk P w K mg base (L2.CX P w) (k + 2) f (PySem.W.fnOf name qual (defArgs st) (defBody st) (defScope st) dV kV doc pm an cdv ct) ps (spZ G (runD C d) d.modes) := by
  refine fn_of lk hcd is.sc (fun vs H Q E h => by rw [h.1, is.ml]) fun A outer s H vs Q E hr h => ?_
  obtain ⟨hl, F, os, f0, ft, ro, nf, h⟩ := h
  have xk := xo (cxOf (L2.CX P w) P w K mg base N qual (defScope st) f cdv A outer s H E) rfl rfl rfl rfl rfl hr rfl rfl rfl rfl
  refine ⟨_, sb_ok xk (takes_of rfl rfl rfl rfl) (passes_of rfl) d.body (ro := d.ro) is.ok, ?_⟩
  obtain ⟨ow, sr, ho⟩ := srep_start (d.ns - d.np) ro ft nf
  have e1 : L2.start N vs = vs.map some ++ List.replicate (d.ns - d.np) none := by
    unfold L2.start
    rw [is.ns, is.np, hl, is.ml]
  have hkp : ∀ {σ' : L2.St}, Kp d.ro (L2.start N vs) σ' → ∀ j v, d.modes[j]? = some true → vs[j]? = some v → σ'[0 + j]? = some (some v) := fun {σ'} kp j v h1 h2 => by
    have : d.ro j = true := by
      unfold Df.ro
      rw [List.getD_eq_getElem?_getD, h1]; rfl
    rw [Nat.zero_add, kp j this, e1, List.getElem?_append_left (by rw [List.length_map]; exact (List.getElem?_eq_some_iff.mp h2).1), List.getElem?_map, h2]; rfl
  refine ⟨os.map some ++ List.replicate (d.ns - d.np) none, ow, F, by rw [e1]; exact sr, ?_⟩
  unfold runD at h
  by_cases hn : os.length = d.np
  · rw [if_pos hn] at h
    cases er : evS C d.ro d.body (os.map some ++ List.replicate (d.ns - d.np) none) with
    | bad => rw [er] at h; exact h.elim
    | brk z => rw [er] at h; exact h.elim
    | cnt z => rw [er] at h; exact h.elim
    | nxt z =>
      rw [er] at h
      simp only at h
      cases eo : outsOf d.modes 0 z with
      | none => rw [eo] at h; exact h.elim
      | some outs =>
        rw [eo] at h
        intro σ' H' F' ow' st' s' kp
        obtain ⟨g, hg, kg⟩ := outs_ok s' hl.symm (hkp kp) eo
        refine h .non H' F' [] g ⟨st'.lat, st'.there, fun a o np e => st'.stay a o (fun q => np ((ho a).mp q)) e, fun a h => ?_, fun a h => ?_, fun a h => ?_, fun a h => ?_, st'.ft⟩ (.val .non) hg fun a h => by cases h
        · rcases st'.fr a h with x | x | x
          · exact .inl x
          · exact .inr (.inl ((ho a).mp x))
          · exact .inr (.inr x)
        · rcases h with h | h
          · cases h
          · obtain ⟨j, _, hj⟩ := kg a h
            rcases st'.fp a ⟨j, hj⟩ with x | x
            · exact .inl ((ho a).mp x)
            · exact .inr x
        · rcases h with h | h
          · cases h
          · obtain ⟨j, _, hj⟩ := kg a h
            exact st'.nf a ⟨j, hj⟩
        · rcases h with h | h
          · cases h
          · obtain ⟨j, _, hj⟩ := kg a h
            exact st'.tr a ⟨j, hj⟩
    | ret o z =>
      rw [er] at h
      simp only at h
      cases eo : outsOf d.modes 0 z with
      | none => rw [eo] at h; exact h.elim
      | some outs =>
        rw [eo] at h
        intro v σ' H' F' ow' fr st' s' rv dj kp
        obtain ⟨g, hg, kg⟩ := outs_ok s' hl.symm (hkp kp) eo
        refine h v H' F' fr g ⟨st'.lat, st'.there, fun a o np e => st'.stay a o (fun q => np ((ho a).mp q)) e, fun a h => ?_, fun a h => ?_, fun a h => ?_, fun a h => ?_, st'.ft⟩ rv hg fun a h q => ?_
        · rcases st'.fr a h with x | x | x
          · exact .inl x
          · exact .inr (.inl ((ho a).mp x))
          · exact .inr (.inr x)
        · rcases h with h | h
          · rcases st'.fp a (.inr h) with x | x
            · exact .inl ((ho a).mp x)
            · exact .inr x
          · obtain ⟨j, _, hj⟩ := kg a h
            rcases st'.fp a (.inl ⟨j, hj⟩) with x | x
            · exact .inl ((ho a).mp x)
            · exact .inr x
        · rcases h with h | h
          · exact st'.nf a (.inr h)
          · obtain ⟨j, _, hj⟩ := kg a h
            exact st'.nf a (.inl ⟨j, hj⟩)
        · rcases h with h | h
          · exact st'.tr a (.inr h)
          · obtain ⟨j, _, hj⟩ := kg a h
            exact st'.tr a (.inl ⟨j, hj⟩)
        · obtain ⟨j, _, hj⟩ := kg a q
          exact dj a h ⟨j, hj⟩
    | exc c fs z =>
      rw [er] at h
      simp only at h
      cases eo : outsOf d.modes 0 z with
      | none => rw [eo] at h; exact h.elim
      | some outs =>
        rw [eo] at h
        intro dd σ' H' F' ow' fvs st' s' ed rf kp
        obtain ⟨g, hg, kg⟩ := outs_ok s' hl.symm (hkp kp) eo
        refine h dd H' F' g fvs ⟨st'.lat, st'.there, fun a o np e => st'.stay a o (fun q => np ((ho a).mp q)) e, fun a h => ?_, fun a h => ?_, fun a h => ?_, fun a h => ?_, st'.ft⟩ ed rf hg
        · rcases st'.fr a h with x | x | x
          · exact .inl x
          · exact .inr (.inl ((ho a).mp x))
          · exact .inr (.inr x)
        · obtain ⟨j, _, hj⟩ := kg a h
          rcases st'.fp a ⟨j, hj⟩ with x | x
          · exact .inl ((ho a).mp x)
          · exact .inr x
        · obtain ⟨j, _, hj⟩ := kg a h
          exact st'.nf a ⟨j, hj⟩
        · obtain ⟨j, _, hj⟩ := kg a h
          exact st'.tr a ⟨j, hj⟩
  · rw [if_neg hn] at h
    exact h.elim
end
/-- where the def f stands, and what it is -/
structure DefAt (K : PySem.W.Frag) (T : Tab) (d : Df) (a : Addr) : Prop where
  ex : ∃ (st : Stmt) (N ps : List Str) (name qual : Str) (dvs : List V) (kws : List (Str × V)) (fd : FuncData), Is T d st N ps ∧ FunD K name qual (defArgs st) (defBody st) (defScope st) dvs kws a fd ∧
    ∀ G : Gx, G.K = K → ∀ j, j ≤ d.dfs.length → ∃ dvs ds, Vals dvs ds ∧ Binds K fd ps ds ∧ dvs.length = j ∧ ∀ H F, RepDs G H F dvs (d.dfs.drop (d.dfs.length - j))
/-- what is known of the module -/
structure Wk (K : PySem.W.Frag) (mg : Str → Option Value) (G : Gx) (T : Tab) (p : Pr) (adr : Nat → Addr) : Prop where
  hK : G.K = K
  nm : G.nm = T.nm
  g : GOk G fun c => (p.flds.lookup c).getD []
  fn : ∀ f d, p.defs[f]? = some d → DefAt K T d (adr f)
  df : ∀ x f, (x, f) ∈ T.defs → f < p.defs.length ∧ mg x = some (.ref (adr f)) ∧ PySem.W.keepIn K (.ref (adr f)) = true
  cs : ∀ x c, (x, c) ∈ T.clss → mg x = some (.ref (G.cls c)) ∧ PySem.W.keepIn K (.ref (G.cls c)) = true ∧ ∀ f, p.init.lookup c = some f → f < p.defs.length ∧ Mk K (G.cls c) (adr f)
  gk : ∀ x j, (x, j) ∈ T.gks → ∃ u v, mg x = some u ∧ RelV v u ∧ ∀ H F, RepD G H F v (p.gks.getD j .non)
  bl : ∀ x, x ∈ T.blts → mg x = none
  me : ∀ c m f, look2 p.meth c m = some f → m < G.nm.length ∧ f < p.defs.length ∧ Cls K (G.cls c) ∧ Meth K (G.cls c) (G.name m) (adr f)
  is : IsAt K G (p.ct 0)
  du : ∀ c u f, (p.ct 0).dun c u = some f → f < p.defs.length ∧ Cls K (G.cls c) ∧ Meth K (G.cls c) u.nm (adr f)
  pr : ∀ c m f, look2 p.prop c m = some f → m < G.nm.length ∧ f < p.defs.length ∧ Cls K (G.cls c) ∧ ∃ q, PropOf K (G.cls c) (G.name m) q (adr f)
section
variable {P : Program} {w : World} {K : PySem.W.Frag} {mg : Str → Option Value} {base : Heap} {G : Gx} {T : Tab} {p : Pr} {adr : Nat → Addr}
theorem ct_modes (p : Pr) (n f : Nat) : (p.ct n).modes f = ((p.defs[f]?).map Df.modes).getD [] := by cases n <;> rfl
theorem ct_dfs (p : Pr) (n f : Nat) : (p.ct n).dfs f = ((p.defs[f]?).map Df.dfs).getD [] := by cases n <;> rfl
theorem ct_meth (p : Pr) (n : Nat) : (p.ct n).meth = look2 p.meth := by cases n <;> rfl
theorem ct_prop (p : Pr) (n : Nat) : (p.ct n).prop = look2 p.prop := by cases n <;> rfl
theorem ct_init (p : Pr) (n : Nat) : (p.ct n).init = fun c => p.init.lookup c := by cases n <;> rfl
theorem ct_flds (p : Pr) (n : Nat) : (p.ct n).flds = fun c => (p.flds.lookup c).getD [] := by cases n <;> rfl
theorem ct_gk (p : Pr) (n : Nat) : (p.ct n).gk = fun j => p.gks.getD j .non := by cases n <;> rfl
theorem ct_dun (p : Pr) (n : Nat) : (p.ct n).dun = (p.ct 0).dun := by cases n <;> rfl
theorem ct_is {n : Nat} (h : IsAt K G (p.ct 0)) : IsAt K G (p.ct n) := by cases n <;> exact ⟨h.kit, h.ic⟩
theorem tab_one (wk : Wk K mg G T p adr) {n f : Nat} {d : Df} {st : Stmt} {N ps : List Str} {name qual : Str} {dvs0 : List V} {kws0 : List (Str × V)} {fd : FuncData} (ih : ∀ f, f < p.defs.length → FnAt P w K mg base G (p.ct n) (2 * n + 1) f (adr f)) (hf : p.defs[f]? = some d) (is : Is T d st N ps)
    (FD : FunD K name qual (defArgs st) (defBody st) (defScope st) dvs0 kws0 (adr f) fd) : FnOk P w K mg base (L2.CX P w) (2 * (n + 1) + 1) (adr f) fd ps (spZ G ((p.ct (n + 1)).run f) ((p.ct (n + 1)).modes f)) := by
  obtain ⟨oc, od, dV, kV, doc, pm, an, cdv, ct, osl, rfl, lk, hcd, _, _⟩ := FD.ex
  have e1 : (p.ct (n + 1)).run f = runD (p.ct n) d := by
    funext os
    show (match p.defs[f]? with | some d => runD (p.ct n) d os | none => RR.bad) = _
    rw [hf]
  have e2 : (p.ct (n + 1)).modes f = d.modes := by rw [ct_modes, hf]; rfl
  rw [e1, e2]
  refine def_ok (k := 2 * n + 1) is lk hcd fun X hP hw hKX hmg hba hr hcm hN hsc hfn => ?_
  subst hP hw hKX hmg hba
  refine ⟨wk.hK, wk.nm, hr, hcm, by rw [ct_flds]; exact wk.g, hN, is.sc.nd, by rw [hsc], by rw [hsc]; exact is.sc.kind, fun x _ => by rw [hfn], fun x f h => ?_, fun x c h => ?_, fun x j h => ?_, wk.bl, fun c m f h => ?_, fun c m f h => ?_, ct_is wk.is, fun c u f h => ?_⟩
  · obtain ⟨a, b, c⟩ := wk.df x f h
    exact ⟨adr f, b, c, ih f a⟩
  · obtain ⟨a, b, d⟩ := wk.cs x c h
    refine ⟨a, b, fun f hf => ?_⟩
    rw [ct_init] at hf
    obtain ⟨q, r⟩ := d f hf
    exact ⟨adr f, r, ih f q⟩
  · rw [ct_gk]
    exact wk.gk x j h
  · rw [ct_meth] at h
    obtain ⟨a, b, d, e⟩ := wk.me c m f h
    exact ⟨a, d, adr f, e, ih f b⟩
  · rw [ct_prop] at h
    obtain ⟨a, b, d, q, e⟩ := wk.pr c m f h
    exact ⟨a, d, q, adr f, e, ih f b⟩
  · obtain ⟨a, b, d⟩ := wk.du c u f (ct_dun p n ▸ h)
    exact ⟨b, adr f, d, ih f a⟩
theorem tab_ok (wk : Wk K mg G T p adr) : ∀ n f, f < p.defs.length → FnAt P w K mg base G (p.ct n) (2 * n + 1) f (adr f) := by
  intro n
  induction n with
  | zero =>
    intro f hf
    obtain ⟨st, N, ps, name, qual, dvs0, kws0, fd, is, FD, df⟩ := (wk.fn f _ (List.getElem?_eq_getElem hf)).ex
    obtain ⟨oc, od, dV, kV, doc, pm, an, cdv, ct, osl, rfl, lk, hcd, _, _⟩ := FD.ex
    refine ⟨_, ps, fn_of (k := 0) lk hcd is.sc (fun vs H Q E h => ?_) (fun A outer s H vs Q E hr h => ?_), ?_⟩
    · obtain ⟨_, _, _, _, _, _, _, h⟩ := h
      exact h.elim
    · obtain ⟨_, _, _, _, _, _, _, h⟩ := h
      exact h.elim
    · rw [ct_dfs, List.getElem?_eq_getElem hf]
      exact df G wk.hK
  | succ n ih =>
    intro f hf
    obtain ⟨st, N, ps, name, qual, dvs0, kws0, fd, is, FD, df⟩ := (wk.fn f _ (List.getElem?_eq_getElem hf)).ex
    refine ⟨fd, ps, tab_one wk ih (List.getElem?_eq_getElem hf) is FD, ?_⟩
    rw [ct_dfs, List.getElem?_eq_getElem hf]
    exact df G wk.hK
/-- the law's own promise -/
theorem sp_law {n f : Nat} {H : Hp} {a : Addr} {ns : List Int} (hm : (p.ct n).modes f = [false]) (hK : G.K = K) (hS : SqL K H a (ns.map V.int)) (h : ∃ outs, (p.ct n).run f [.val (.scr ns)] = .ret (.val (.bl true)) outs) :
    spZ G ((p.ct n).run f) ((p.ct n).modes f) [.ref a] H (fun v _ => v = .bl true) fun _ _ _ => False := by
  obtain ⟨outs, h⟩ := h
  refine ⟨by rw [hm]; rfl, ?_⟩
  have key : ∃ F : Fz, FT H F ∧ RepD G H F (.ref a) (.scr ns) := by
    rcases hS with hS | hS
    · refine ⟨fun x => x = a, fun x hx => ?_, .scr (.inl ⟨rfl, hS⟩)⟩
      rw [hx]
      rcases hS with h | ⟨o, h⟩ <;> exact ⟨_, h⟩
    · exact ⟨fun _ => False, fun _ h => h.elim, .scr (.inr (hK ▸ hS))⟩
  obtain ⟨F, ft, r⟩ := key
  refine ⟨F, [.val (.scr ns)], [] ++ [], ft, .cons (.val r) .nil (fun a h => by cases h), (fun a h => by cases h), ?_⟩
  rw [h]
  intro v H' F' g g' _ ro _ _
  cases ro with | val r =>
  cases r
  rfl
end
end Z
end

section
set_option maxRecDepth 100007
/-! The head: facts of the module by one run. -/
namespace Z
open PySem L2 PyProof.Rows
/-- the getter of a property -/
def prA (K : PySem.W.Frag) (C : Addr) (m : Str) : Addr := match PySem.W.recIn K (He.ma K C m) "property" with
  | some (.ref g :: _) => g
  | _ => 0
/-- where a def stands: a global; a class and its method; a class and its property -/
inductive Pl where
  | glo (x : Str) | meth (x m : Str) | prop (x m : Str)
deriving DecidableEq
def Pl.at_ (K : PySem.W.Frag) : Pl → Addr
  | .glo x => He.ga K x
  | .meth x m => He.ma K (He.ga K x) m
  | .prop x m => prA K (He.ga K x) m
/-- a type by name -/
inductive Tn where
  | own (x : Str) | ty (n : String)
def Tn.v (K : PySem.W.Frag) : Tn → Value
  | .own x => .ref (He.ga K x)
  | .ty n => .type n
inductive Fb where
  | fa (f : He.Fa) | prop (x m : Str) | ktup (p : Pl) (i : Nat) | isi (t u : Tn) (b : Bool) | ic (x : Str)
def icB (K : PySem.W.Frag) (C : Addr) : Bool := He.eqO (PySem.W.findIn K (.ref C) "__class__") (some (some (.builtin "object.__class__"))) && (He.eqO (PySem.W.specialIn K (.builtin "object.__class__") "__get__") (some (some (.builtin "getset_descriptor.__get__"))) &&
  (decide (PySem.W.takesIn K (.builtin "object.__class__") = some true) && decide (PySem.W.mroIn K C (.type "object") = some true)))
theorem icB_ok {K : PySem.W.Frag} {C : Addr} (c : Cls K C) (h : icB K C = true) : IcAt K C := by
  unfold icB at h
  obtain ⟨h1, h⟩ := He.ba h
  obtain ⟨h2, h⟩ := He.ba h
  obtain ⟨h3, h4⟩ := He.ba h
  exact ⟨c, He.eqO_ok h1, He.eqO_ok h2, of_decide_eq_true h3, of_decide_eq_true h4⟩
/-- the i-th default of the def at p -/
def dfl1 (p : Pl) (i : Nat) (K : PySem.W.Frag) : Addr := match K.lookup (p.at_ K) with
  | some o => (match o.data with
    | .func fd => (match fd.defaults with
      | .ref T => (match K.lookup T with
        | some o2 => (match o2.data with
          | .seq its _ => (match its.toList[i]? with
            | some (.ref a) => a
            | _ => 0)
          | _ => 0)
        | none => 0)
      | _ => 0)
    | _ => 0)
  | none => 0
def ktB (K : PySem.W.Frag) (a : Addr) : Bool := match K.lookup a with
  | some o => decide (o.cls = .type "tuple") && (match o.data with
    | .seq its _ => its.toList.isEmpty
    | _ => false)
  | none => false
def prB (K : PySem.W.Frag) (C : Addr) (m : Str) : Bool := He.eqO (PySem.W.findIn K (.ref C) m) (some (some (.ref (He.ma K C m)))) && (He.eqO (PySem.W.specialIn K (.ref (He.ma K C m)) "__get__") (some (some (.builtin "property.__get__"))) &&
  (decide (PySem.W.takesIn K (.ref (He.ma K C m)) = some true) && (match PySem.W.recIn K (He.ma K C m) "property" with
    | some (.ref _ :: _) => true
    | _ => false)))
def Fb.ok (K : PySem.W.Frag) : Fb → Bool
  | .fa f => f.ok K
  | .prop x m => prB K (He.ga K x) m
  | .ktup p i => ktB K (dfl1 p i K)
  | .isi t u b => decide (PySem.W.kitOne K (t.v K) (u.v K) = some b)
  | .ic x => icB K (He.ga K x)
theorem prB_ok {K : PySem.W.Frag} {C : Addr} {m : Str} (h : prB K C m = true) : PropOf K C m (He.ma K C m) (prA K C m) := by
  unfold prB at h
  obtain ⟨h1, h⟩ := He.ba h
  obtain ⟨h2, h⟩ := He.ba h
  obtain ⟨h3, h⟩ := He.ba h
  refine ⟨He.eqO_ok h1, He.eqO_ok h2, of_decide_eq_true h3, ?_⟩
  unfold prA
  cases e : PySem.W.recIn K (He.ma K C m) "property" with
  | none => rw [e] at h; cases h
  | some l =>
    rw [e] at h
    cases l with
    | nil => cases h
    | cons v r =>
      cases v <;> first | (cases h; done) | exact ⟨r, rfl⟩
theorem ktB_ok {K : PySem.W.Frag} {a : Addr} (h : ktB K a = true) : KTup K a [] := by
  unfold ktB at h
  cases e : K.lookup a with
  | none => rw [e] at h; cases h
  | some o =>
    rw [e] at h
    obtain ⟨h1, h2⟩ := He.ba h
    cases e2 : o.data <;> rw [e2] at h2 <;> first | (cases h2; done) | skip
    rename_i its n
    have e3 : its.toList = [] := by
      cases e4 : its.toList with
      | nil => rfl
      | cons _ _ => simp only [e4] at h2; cases h2
    refine ⟨o, its, n, e, of_decide_eq_true h1, e2, ?_, by rw [e3]; exact .nil⟩
    have : its.size = 0 := by rw [← Array.length_toList, e3]; rfl
    rw [this]; exact Nat.zero_le _
/-- one def of the text -/
structure DefZ where
  pl : Pl
  name : Str
  qual : Str
  st : Stmt
  dfl : List He.Dv := []
  kwd : List (Str × He.Dv) := []
def DefZ.dvs (K : PySem.W.Frag) (d : DefZ) : List V := d.dfl.map (He.Dv.v K)
def DefZ.kws (K : PySem.W.Frag) (d : DefZ) : List (Str × V) := d.kwd.map fun q => (q.1, q.2.v K)
abbrev FnT : Type := Option (Str × Str × Arguments × FuncBody × Scope × Addr × List (Str × Addr) × Addr)
def FnT.of (fd : FuncData) : FnT := some (fd.name, fd.qualname, fd.params, fd.body, fd.scope, fd.globals, fd.closure, fd.builtins)
def seeFn (K : PySem.W.Frag) (a : Addr) : FnT := match K.lookup a with
  | some o => (match o.data with
    | .func fd => FnT.of fd
    | _ => none)
  | none => none
def DefZ.val (d : DefZ) : FnT := some (d.name, d.qual, defArgs d.st, .stmts (defBody d.st), defScope d.st, mainGlobals, [], builtinsNs)
def DefZ.ok (K : PySem.W.Frag) (d : DefZ) : Bool := PySem.W.keepIn K (.ref (d.pl.at_ K)) && (match K.lookup (d.pl.at_ K) with
  | some o => (match o.data with
    | .func fd => PySem.W.codeIn K fd.code d.qual && (He.dflB K fd.defaults (d.dvs K) && He.kwdB K fd.kwdefaults (d.kws K))
    | _ => false)
  | none => false)
theorem DefZ.funD {K : PySem.W.Frag} {d : DefZ} (e : seeFn K (d.pl.at_ K) = d.val) (c : d.ok K = true) : ∃ fd, FunD K d.name d.qual (defArgs d.st) (defBody d.st) (defScope d.st) (d.dvs K) (d.kws K) (d.pl.at_ K) fd := by
  unfold DefZ.ok at c
  obtain ⟨kp, c⟩ := He.ba c
  unfold seeFn at e
  cases q : K.lookup (d.pl.at_ K) with
  | none => rw [q] at c; cases c
  | some o =>
    rw [q] at c e
    cases q2 : o.data <;> simp only [q2] at c e <;> first | (cases c; done) | skip
    rename_i fd
    obtain ⟨k1, c⟩ := He.ba c
    obtain ⟨k2, k3⟩ := He.ba c
    unfold FnT.of DefZ.val at e
    simp only [Option.some.injEq, Prod.mk.injEq] at e
    obtain ⟨h1, h2, h3, h4, h5, h6, h7, h8⟩ := e
    obtain ⟨oc, od, dt, sl⟩ := o
    simp only at q2
    subst q2
    obtain ⟨n1, n2, n3, n4, n5, n6, n7, n8, n9, n10, n11, n12, n13, n14, n15⟩ := fd
    simp only at h1 h2 h3 h4 h5 h6 h7 h8 k1 k2 k3
    subst h1 h2 h3 h4 h5 h6 h7 h8
    exact ⟨_, ⟨oc, od, n8, n9, n10, n11, n12, n13, n14, sl, rfl, q, k1, He.dflB_ok k2, He.kwdB_ok k3⟩, kp⟩
abbrev AlZ : Type := Bool × List FnT
def seeZ (fb : List Fb) (fn : List DefZ) (K : PySem.W.Frag) : AlZ := ((fb.all fun f => f.ok K) && fn.all fun d => d.ok K, fn.map fun d => seeFn K (d.pl.at_ K))
def valZ (fn : List DefZ) : AlZ := (true, fn.map DefZ.val)
def SaysZ (fb : List Fb) (fn : List DefZ) (K : PySem.W.Frag) : Prop := seeZ fb fn K = valZ fn
/-- what an object names, one step further: a property's function too -/
def seeG (n : Nat) (fb : List Fb) (fn : List DefZ) (g : Addr → Option Obj) : AlZ := seeZ fb fn (He.frG g (He.asD g n))
def hookZ (n : Nat) (fb : List Fb) (fn : List DefZ) : PySem.W.Hook where
  α := AlZ
  obs := fun s => seeG n fb fn s.heap.get?
  val := fun _ => valZ fn
  says := fun _ h => ∃ K : PySem.W.Frag, K.In h ∧ SaysZ fb fn K
  of := fun _ _ e => ⟨_, He.frG_in, e⟩
  keeps := fun _ _ _ ⟨K, hK, c⟩ k => ⟨K, PySem.W.Frag.In.keeps hK k, c⟩
theorem seeG_eq {n : Nat} {fb : List Fb} {fn : List DefZ} {g : Addr → Option Obj} {s : Shared} (h : ∀ a, g a = s.heap.get? a) : seeG n fb fn g = (hookZ n fb fn).obs s := by
  have e : g = s.heap.get? := funext h
  rw [e]; rfl
section
variable {fb : List Fb} {fn : List DefZ} {K : PySem.W.Frag}
theorem SaysZ.fact (c : SaysZ fb fn K) {f : Fb} (h : f ∈ fb) : f.ok K = true := by
  have c1 := (He.ba (show ((fb.all fun f => f.ok K) && fn.all fun d => d.ok K) = true from congrArg (fun z : AlZ => z.1) c)).1
  exact List.all_eq_true.mp c1 f h
theorem SaysZ.def_ (c : SaysZ fb fn K) (i : Nat) {d : DefZ} (h : fn[i]? = some d) : ∃ fd, FunD K d.name d.qual (defArgs d.st) (defBody d.st) (defScope d.st) (d.dvs K) (d.kws K) (d.pl.at_ K) fd := by
  have c2 := (He.ba (show ((fb.all fun f => f.ok K) && fn.all fun d => d.ok K) = true from congrArg (fun z : AlZ => z.1) c)).2
  have e : fn.map (fun d => seeFn K (d.pl.at_ K)) = fn.map DefZ.val := congrArg (fun z : AlZ => z.2) c
  have e2 : (fn.map fun d => seeFn K (d.pl.at_ K))[i]? = (fn.map DefZ.val)[i]? := by rw [e]
  rw [List.getElem?_map, List.getElem?_map, h] at e2
  exact DefZ.funD (Option.some.inj e2) (List.all_eq_true.mp c2 d (List.mem_of_getElem? h))
end
/-- the law's end: like walk_ofE, the script's numbers bounded in bits -/
theorem walk_z {l : PySem.W.OpenLaw} {n k : Nat} {q : Program} {loose : List Str} {XP : (Str → Option Value) → Heap → Prop} {YP : World → Heap → Prop} {d : DefRec} {CX : World → CXT} {x : Str}
    (hn : l.most = some n) (hn2 : n ≤ sizeLine) (hdf : d.params.defaults = []) (hr : Room k callerA)
    (F : ∀ (w : World) (mg : Str → Option Value) (fa : Addr) (h : Heap), YP w h → h.Ns mainGlobals mg → mg d.name = some (.ref fa) →
      ∃ (K : PySem.W.Frag) (fd : FuncData) (sp : Sp), K.In h ∧ (∀ (s : Shared) (u : Value), BindsTo s fd ⟨[u], []⟩ [(x, u)]) ∧
        (∀ (H : Hp) (a : Addr) (ns : List Int), ns.length ≤ n → (∀ z ∈ ns, Builtin.Int.intBits z ≤ 1048576) → SqL K H a (ns.map V.int) → sp [.ref a] H (fun v _ => v = .bl true) fun _ _ _ => False) ∧
        ∀ base : Heap, K.In base → base.Ns mainGlobals mg → FnOk l.prog w K mg base (CX w) k fa fd [x] sp)
    (hCX : ∀ (w : World) (H : Hp) (s : Shared) (e : Value) (s' : Shared), CX w [] H s (fun _ _ _ => False) e s' → False) :
    PySem.W.WalkO q loose XP YP l.row.toRowW d [] (fun f vs => PySem.call f vs) := by
  refine Att.attach_callB hn hdf fun w s₀ s₁ mg mb fa o pm cd doc a vs ns G Y ho hd hcd hmg hobj hints hlen hbits hg => ?_
  obtain ⟨K, fd, sp, KX, hb, hsp, hF⟩ := F w mg fa _ Y G.T.g hmg
  exact law_call KX G.T.g G.T.b G.T.builtins G.T.nolimit hg hobj hints (Nat.le_trans hlen hn2) hr hF hb (fun H hO hS => hsp H a ns hlen hbits hS) fun H e s' => hCX w H s₁ e s'
end Z
end

section
set_option maxRecDepth 100007
/-! From a law's data to what is known of the module. -/
namespace Z
open PySem L2 PyProof.Rows
structure Dat where
  p : Pr
  T : Tab
  fn : List DefZ
  cn : List Str
  fx : List Fb := []
def Fb.ofPl : Pl → Fb
  | .glo x => .fa (.glo x)
  | .meth x m => .fa (.meth x m)
  | .prop x m => .prop x m
def gkFb (x : Str) : D → List Fb
  | .int i => [.fa (.int x i)]
  | .str y => [.fa (.str x ⟨y.toArray⟩)]
  | _ => []
def Dat.cl (S : Dat) (c : Nat) : Str := S.cn.getD c Str.empty
def Dat.nm (S : Dat) (m : Nat) : Str := S.T.nm.getD m Str.empty
def Dat.tn (S : Dat) : Ty → Tn
  | .own c => .own (S.cl c) | .int => .ty "int" | .bl => .ty "bool" | .str => .ty "str" | .non => .ty "NoneType" | .tup => .ty "tuple" | .lst => .ty "list" | .dct => .ty "dict"
def Dat.fb (S : Dat) : List Fb := S.fn.map (fun z => Fb.ofPl z.pl) ++ (S.cn.flatMap (fun x => [.fa (.glo x), .fa (.cls x), .fa (.keep x)]) ++ (S.p.init.map (fun q => .fa (.mkr (S.cl q.1))) ++
  (S.p.flds.flatMap (fun q => q.2.map fun f => .fa (.noat (S.cl q.1) (S.nm f))) ++ (S.T.gks.flatMap (fun q => gkFb q.1 (S.p.gks.getD q.2 .non)) ++ (S.T.blts.map (fun x => .fa (.free x)) ++ (S.p.isi.map (fun q => .isi (S.tn q.1.1) (S.tn q.1.2) q.2) ++ (S.p.ic.map (fun c => .ic (S.cl c)) ++ S.fx)))))))
def okGk : D → Bool
  | .int _ => true
  | .str y => txtOk y
  | _ => false
def Dat.ok (S : Dat) : Bool :=
  decide (S.T.nm.Nodup) && decide (S.fn.length = S.p.defs.length) &&
  S.T.defs.all (fun q => decide ((S.fn[q.2]?).map DefZ.pl = some (.glo q.1))) &&
  S.T.clss.all (fun q => decide (S.cn[q.2]? = some q.1)) &&
  S.p.init.all (fun q => decide (q.1 < S.cn.length) && decide ((S.fn[q.2]?).map DefZ.pl = some (.meth (S.cl q.1) "__init__"))) &&
  S.p.meth.all (fun q => decide (q.1 < S.cn.length) && decide (q.2.1 < S.T.nm.length) && decide ((S.fn[q.2.2]?).map DefZ.pl = some (.meth (S.cl q.1) (S.nm q.2.1)))) &&
  S.p.prop.all (fun q => decide (q.1 < S.cn.length) && decide (q.2.1 < S.T.nm.length) && decide ((S.fn[q.2.2]?).map DefZ.pl = some (.prop (S.cl q.1) (S.nm q.2.1)))) &&
  S.p.flds.all (fun q => decide (q.1 < S.cn.length) && q.2.all fun f => decide (f < S.T.nm.length)) &&
  S.T.gks.all (fun q => okGk (S.p.gks.getD q.2 .non)) &&
  S.p.dun.all (fun q => decide (q.1 < S.cn.length) && decide ((S.fn[q.2.2]?).map DefZ.pl = some (.meth (S.cl q.1) q.2.1.nm))) &&
  S.p.ic.all (fun c => decide (c < S.cn.length))
def Dat.gx (S : Dat) (K : PySem.W.Frag) : Gx := ⟨K, S.T.nm, fun c => He.ga K (S.cl c)⟩
def Dat.adr (S : Dat) (K : PySem.W.Frag) (f : Nat) : Addr := match S.fn[f]? with
  | some z => z.pl.at_ K
  | none => 0
/-- what is to be shown of a def by itself -/
def Dat.Def (S : Dat) (d : Df) (z : DefZ) : Prop := ∀ (K : PySem.W.Frag), (∀ f ∈ S.fb, f.ok K = true) → ∀ fd, FunD K z.name z.qual (defArgs z.st) (defBody z.st) (defScope z.st) (z.dvs K) (z.kws K) (z.pl.at_ K) fd → DefAt K S.T d (z.pl.at_ K)
theorem def_plain {S : Dat} {d : Df} {z : DefZ} {N ps : List Str} (is : Is S.T d z.st N ps) (h1 : z.dfl = []) (h3 : d.dfs = [])
    (h : ∀ (kV doc pm : Value) (an : Option Addr) (cdv ct : Value) (us : List Value), us.length = ps.length → bindArgs (PySem.W.fnOf z.name z.qual (defArgs z.st) (defBody z.st) (defScope z.st) .none kV doc pm an cdv ct) ⟨us, []⟩ = pure (ps.zip us)) : S.Def d z := fun K _ fd F => by
  refine ⟨z.st, N, ps, z.name, z.qual, _, _, fd, is, F, fun G hG j hj => ?_⟩
  have e : z.dvs K = [] := by unfold DefZ.dvs; rw [h1]; rfl
  rw [e] at F
  rw [h3] at hj ⊢
  have : j = 0 := by simpa using hj
  subst this
  exact ⟨[], [], .nil, FunD.bindsN F h, rfl, fun H F => .nil⟩
theorem look2_mem {l : List (Nat × Nat × Nat)} {c m f : Nat} (h : look2 l c m = some f) : (c, m, f) ∈ l := by
  unfold look2 at h
  obtain ⟨q, h1, h2⟩ := Option.map_eq_some_iff.mp h
  have h3 := List.find?_some h1
  simp only [Bool.and_eq_true, beq_iff_eq] at h3
  have h4 := List.mem_of_find?_eq_some h1
  obtain ⟨a, b, d⟩ := q
  obtain ⟨rfl, rfl⟩ := h3
  cases h2
  exact h4
theorem lookup_mem' {α β : Type} [BEq α] [LawfulBEq α] {l : List (α × β)} {c : α} {b : β} (h : l.lookup c = some b) : (c, b) ∈ l := by
  induction l with
  | nil => cases h
  | cons q l ih =>
    rw [List.lookup_cons] at h
    split at h
    · rename_i e
      cases h
      rw [eq_of_beq e]
      simp
    · exact List.mem_cons_of_mem _ (ih h)
theorem lookup_mem {β : Type} {l : List (Nat × β)} {c : Nat} {b : β} (h : l.lookup c = some b) : (c, b) ∈ l := by
  induction l with
  | nil => cases h
  | cons q l ih =>
    rw [List.lookup_cons] at h
    split at h
    · rename_i e
      cases h
      rw [eq_of_beq e]
      simp
    · exact List.mem_cons_of_mem _ (ih h)
section
variable {S : Dat} {K : PySem.W.Frag} {h : Heap} {mg : Str → Option Value}
theorem adr_of {f : Nat} {q : Pl} (e : (S.fn[f]?).map DefZ.pl = some q) : S.adr K f = q.at_ K ∧ f < S.fn.length := by
  obtain ⟨z, h1, rfl⟩ := Option.map_eq_some_iff.mp e
  unfold Dat.adr
  rw [h1]
  exact ⟨rfl, (List.getElem?_eq_some_iff.mp h1).1⟩
theorem cl_mem {c : Nat} (hc : c < S.cn.length) : S.cl c ∈ S.cn := by
  unfold Dat.cl
  rw [List.getD_eq_getElem?_getD, List.getElem?_eq_getElem hc]
  exact List.getElem_mem hc
theorem fb_fn {f : Nat} {q : Pl} (e : (S.fn[f]?).map DefZ.pl = some q) : Fb.ofPl q ∈ S.fb := by
  obtain ⟨z, h1, rfl⟩ := Option.map_eq_some_iff.mp e
  unfold Dat.fb
  exact List.mem_append_left _ (List.mem_map.mpr ⟨z, List.mem_of_getElem? h1, rfl⟩)
theorem fb_cn {c : Nat} (hc : c < S.cn.length) : Fb.fa (.glo (S.cl c)) ∈ S.fb ∧ Fb.fa (.cls (S.cl c)) ∈ S.fb ∧ Fb.fa (.keep (S.cl c)) ∈ S.fb := by
  have : ∀ f ∈ [Fb.fa (.glo (S.cl c)), .fa (.cls (S.cl c)), .fa (.keep (S.cl c))], f ∈ S.fb := fun f hf => by
    unfold Dat.fb
    exact List.mem_append_right _ (List.mem_append_left _ (List.mem_flatMap.mpr ⟨S.cl c, cl_mem hc, hf⟩))
  exact ⟨this _ (by simp), this _ (by simp), this _ (by simp)⟩
theorem wk_of (hB : S.ok = true) (c : ∀ f ∈ S.fb, f.ok K = true) (X : K.In h) (G : h.Ns mainGlobals mg) (hd : ∀ (f : Nat) (d : Df) (z : DefZ), S.p.defs[f]? = some d → S.fn[f]? = some z → DefAt K S.T d (z.pl.at_ K))
    (hk : ∀ (f : Nat) (z : DefZ), S.fn[f]? = some z → PySem.W.keepIn K (.ref (z.pl.at_ K)) = true) : Wk K mg (S.gx K) S.T S.p (S.adr K) := by
  unfold Dat.ok at hB
  simp only [Bool.and_eq_true, decide_eq_true_eq, List.all_eq_true] at hB
  obtain ⟨⟨⟨⟨⟨⟨⟨⟨⟨⟨b1, b2⟩, b3⟩, b4⟩, b5⟩, b6⟩, b7⟩, b8⟩, b9⟩, b10⟩, b11⟩ := hB
  have fl : ∀ cc f, f ∈ ((S.p.flds.lookup cc).getD []) → ∃ fs, (cc, fs) ∈ S.p.flds ∧ f ∈ fs := fun cc f hf => by
    cases e : S.p.flds.lookup cc with
    | none => rw [e] at hf; cases hf
    | some fs =>
      rw [e] at hf
      exact ⟨fs, lookup_mem e, hf⟩
  refine ⟨rfl, rfl, ⟨b1, fun cc f hf => ?_, fun cc f hf => ?_⟩, fun f d hf => ?_, fun x f hx => ?_, fun x cc hx => ?_, fun x j hx => ?_, fun x hx => ?_, fun cc m f hm => ?_, ⟨fun t u b htu => ?_, fun cc hcc => ?_⟩, fun cc u f hu => ?_, fun cc m f hm => ?_⟩
  · obtain ⟨fs, h1, h2⟩ := fl cc f hf
    have := b8 _ h1
    exact He.cls_ok (c _ (fb_cn this.1).2.1)
  · obtain ⟨fs, h1, h2⟩ := fl cc f hf
    have := (b8 _ h1).2 f h2
    refine ⟨He.noat_ok (x := S.cl cc) (f := S.nm f) (c (.fa (.noat (S.cl cc) (S.nm f))) ?_), this⟩
    unfold Dat.fb
    exact List.mem_append_right _ (List.mem_append_right _ (List.mem_append_right _ (List.mem_append_left _ (List.mem_flatMap.mpr ⟨(cc, fs), h1, List.mem_map.mpr ⟨f, h2, rfl⟩⟩))))
  · have hl : f < S.fn.length := by rw [b2]; exact (List.getElem?_eq_some_iff.mp hf).1
    have := hd f d _ hf (List.getElem?_eq_getElem hl)
    unfold Dat.adr
    rw [List.getElem?_eq_getElem hl]
    exact this
  · have e := b3 _ hx
    obtain ⟨h1, h2⟩ := adr_of (K := K) e
    have h3 := c _ (fb_fn e)
    refine ⟨b2 ▸ h2, ?_, ?_⟩
    · rw [h1]
      exact He.glo_ok X G h3
    · obtain ⟨z, h4, h5⟩ := Option.map_eq_some_iff.mp e
      have := hk f z h4
      rw [h1, ← h5]
      exact this
  · have e := b4 _ hx
    have hc : cc < S.cn.length := (List.getElem?_eq_some_iff.mp e).1
    have ex : S.cl cc = x := by
      unfold Dat.cl
      rw [List.getD_eq_getElem?_getD, e]; rfl
    obtain ⟨f1, f2, f3⟩ := fb_cn hc
    refine ⟨?_, He.keep_ok (c _ f3), fun f hf => ?_⟩
    · rw [← ex]
      exact He.glo_ok X G (c _ f1)
    · have hm := lookup_mem hf
      obtain ⟨h1, h2⟩ := b5 _ hm
      obtain ⟨h3, h4⟩ := adr_of (K := K) h2
      refine ⟨b2 ▸ h4, ?_⟩
      rw [h3]
      refine He.mkr_ok (x := S.cl cc) (c (.fa (.mkr (S.cl cc))) ?_)
      unfold Dat.fb
      exact List.mem_append_right _ (List.mem_append_right _ (List.mem_append_left _ (List.mem_map.mpr ⟨_, hm, rfl⟩)))
  · have hg := b9 _ hx
    have hm : ∀ f ∈ gkFb x (S.p.gks.getD j .non), f.ok K = true := fun f hf => by
      refine c f ?_
      unfold Dat.fb
      exact List.mem_append_right _ (List.mem_append_right _ (List.mem_append_right _ (List.mem_append_right _ (List.mem_append_left _ (List.mem_flatMap.mpr ⟨_, hx, hf⟩)))))
    cases e : S.p.gks.getD j .non <;> simp only [e, okGk, Bool.false_eq_true] at hg hm
    · rename_i i
      obtain ⟨t, ht⟩ := He.int_ok X G (hm (.fa (.int x i)) (by simp [gkFb]))
      exact ⟨_, .int i, ht, ⟨t, rfl⟩, fun H F => .int i⟩
    · rename_i y
      obtain ⟨t, ht⟩ := He.str_ok X G (hm (.fa (.str x ⟨y.toArray⟩)) (by simp [gkFb]))
      exact ⟨_, .str ⟨y.toArray⟩, ht, ⟨t, rfl⟩, fun H F => .str hg⟩
  · refine He.free_ok X G (c (.fa (.free x)) ?_)
    unfold Dat.fb
    exact List.mem_append_right _ (List.mem_append_right _ (List.mem_append_right _ (List.mem_append_right _ (List.mem_append_right _ (List.mem_append_left _ (List.mem_map.mpr ⟨x, hx, rfl⟩))))))
  · obtain ⟨⟨h1, h2⟩, h3⟩ := b6 _ (look2_mem hm)
    obtain ⟨h4, h5⟩ := adr_of (K := K) h3
    refine ⟨h2, b2 ▸ h5, He.cls_ok (c _ (fb_cn h1).2.1), ?_⟩
    rw [h4]
    exact He.meth_ok (c _ (fb_fn h3))
  · have e : ∀ t, tyV (S.gx K) t = (S.tn t).v K := fun t => by cases t <;> rfl
    have hm := lookup_mem' (show S.p.isi.lookup (t, u) = some b from htu)
    have := c (.isi (S.tn t) (S.tn u) b) (by
      unfold Dat.fb
      exact List.mem_append_right _ (List.mem_append_right _ (List.mem_append_right _ (List.mem_append_right _ (List.mem_append_right _ (List.mem_append_right _ (List.mem_append_left _ (List.mem_map.mpr ⟨_, hm, rfl⟩))))))))
    rw [e, e]
    exact of_decide_eq_true this
  · have hm : cc ∈ S.p.ic := by simpa using (show S.p.ic.contains cc = true from hcc)
    have hl : cc < S.cn.length := b11 _ hm
    have := c (.ic (S.cl cc)) (by
      unfold Dat.fb
      exact List.mem_append_right _ (List.mem_append_right _ (List.mem_append_right _ (List.mem_append_right _ (List.mem_append_right _ (List.mem_append_right _ (List.mem_append_right _ (List.mem_append_left _ (List.mem_map.mpr ⟨_, hm, rfl⟩)))))))))
    exact icB_ok (He.cls_ok (c _ (fb_cn hl).2.1)) this
  · obtain ⟨q, h1, h2⟩ := Option.map_eq_some_iff.mp (show (S.p.dun.find? fun q => decide (q.1 = cc ∧ q.2.1 = u)).map (·.2.2) = some f from hu)
    have h3 : q.1 = cc ∧ q.2.1 = u := by have := List.find?_some h1; exact of_decide_eq_true this
    obtain ⟨qa, qb, qc⟩ := q
    obtain ⟨rfl, rfl⟩ := h3
    cases h2
    obtain ⟨h4, h5⟩ := b10 _ (List.mem_of_find?_eq_some h1)
    obtain ⟨h6, h7⟩ := adr_of (K := K) h5
    refine ⟨b2 ▸ h7, He.cls_ok (c _ (fb_cn h4).2.1), ?_⟩
    rw [h6]
    exact He.meth_ok (c _ (fb_fn h5))
  · obtain ⟨⟨h1, h2⟩, h3⟩ := b7 _ (look2_mem hm)
    obtain ⟨h4, h5⟩ := adr_of (K := K) h3
    refine ⟨h2, b2 ▸ h5, He.cls_ok (c _ (fb_cn h1).2.1), He.ma K (He.ga K (S.cl cc)) (S.nm m), ?_⟩
    rw [h4]
    exact prB_ok (c _ (fb_fn h3))
end
end Z
end

section
set_option maxRecDepth 100007
/-! A law's end. -/
namespace Z
open PySem L2 PyProof.Rows
theorem cx_none {P : Program} {w : World} {H : Hp} {s : Shared} {e : Value} {s' : Shared} (h : L2.CX P w [] H s (fun _ _ _ => False) e s') : False := by
  obtain ⟨_, _, _, _, _, _, _, _, _, _, _, _, z⟩ := h
  exact z.elim
theorem end_of {S : Dat} {n fi : Nat} {x name : Str} {z : DefZ} {d : Df} {g : Nat} {N : List Str} {P : Program} (hB : S.ok = true) (hd : ∀ (f : Nat) (d : Df) (z : DefZ), S.p.defs[f]? = some d → S.fn[f]? = some z → S.Def d z)
    (zl : S.fn[fi]? = some z) (dl : S.p.defs[fi]? = some d) (is : Is S.T d z.st N [x]) (hp : z.pl = .glo name) (hm : d.modes = [false]) (h1 : z.dfl = [])
    (hb : ∀ (kV doc pm : Value) (an : Option Addr) (cdv ct : Value) (us : List Value), us.length = ([x] : List Str).length → bindArgs (PySem.W.fnOf z.name z.qual (defArgs z.st) (defBody z.st) (defScope z.st) .none kV doc pm an cdv ct) ⟨us, []⟩ = pure (([x] : List Str).zip us))
    (math : ∀ ns : List Int, ns.length ≤ 63 → (∀ i ∈ ns, Builtin.Int.intBits i ≤ 1048576) → ∃ outs, (S.p.ct (n + 1)).run fi [.val (.scr ns)] = .ret (.val (.bl true)) outs) (w : World) (mg : Str → Option Value) (fa : Addr) (h : Heap) (Y : (hookZ g S.fb S.fn).says w h) (G : h.Ns mainGlobals mg) (hmg : mg name = some (.ref fa)) :
    ∃ (K : PySem.W.Frag) (fd : FuncData) (sp : Sp), K.In h ∧ (∀ (s : Shared) (u : Value), BindsTo s fd ⟨[u], []⟩ [(x, u)]) ∧
        (∀ (H : Hp) (a : Addr) (ns : List Int), ns.length ≤ 63 → (∀ z ∈ ns, Builtin.Int.intBits z ≤ 1048576) → SqL K H a (ns.map V.int) → sp [.ref a] H (fun v _ => v = .bl true) fun _ _ _ => False) ∧
        ∀ base : Heap, K.In base → base.Ns mainGlobals mg → FnOk P w K mg base (L2.CX P w) (2 * (n + 1) + 1) fa fd [x] sp := by
  obtain ⟨K, KX, c⟩ := Y
  have cf : ∀ f ∈ S.fb, f.ok K = true := fun f hf => c.fact hf
  have wk := wk_of hB cf KX G (fun f d z h1 h2 => by
    obtain ⟨fd, F⟩ := c.def_ f h2
    exact hd f d z h1 h2 K cf fd F) fun f z h2 => by
    obtain ⟨fd, F⟩ := c.def_ f h2
    exact F.kp
  have hfl : fi < S.p.defs.length := (List.getElem?_eq_some_iff.mp dl).1
  have ha : S.adr K fi = fa := by
    have e : (S.fn[fi]?).map DefZ.pl = some (.glo name) := by rw [zl]; exact congrArg some hp
    have h3 := He.glo_ok KX G (cf _ (fb_fn e))
    rw [(adr_of (K := K) e).1]
    rw [hmg] at h3
    cases h3
    rfl
  obtain ⟨fd0, F0⟩ := c.def_ fi zl
  have e0 : z.dvs K = [] := by unfold DefZ.dvs; rw [h1]; rfl
  rw [e0] at F0
  have hmod : (S.p.ct (n + 1)).modes fi = [false] := by rw [ct_modes, dl]; exact hm
  have e1 : z.pl.at_ K = fa := by
    have : S.adr K fi = z.pl.at_ K := by unfold Dat.adr; rw [zl]
    rw [← this]; exact ha
  rw [e1] at F0
  refine ⟨K, fd0, spZ (S.gx K) ((S.p.ct (n + 1)).run fi) ((S.p.ct (n + 1)).modes fi), KX, fun s u => FunD.bindsA (ps := [x]) F0 hb s [u] rfl, fun H a ns hl hbt hS => sp_law hmod rfl hS (math ns hl hbt), fun base KB NB => ?_⟩
  have wkB := wk_of (h := base) hB cf KB NB (fun f d z h1 h2 => by
    obtain ⟨fd, F⟩ := c.def_ f h2
    exact hd f d z h1 h2 K cf fd F) fun f z h2 => by
    obtain ⟨fd, F⟩ := c.def_ f h2
    exact F.kp
  have e2 : S.adr K fi = z.pl.at_ K := by unfold Dat.adr; rw [zl]
  have F1 : FunD K z.name z.qual (defArgs z.st) (defBody z.st) (defScope z.st) [] (z.kws K) (S.adr K fi) fd0 := by rw [e2, e1]; exact F0
  have := tab_one (P := P) (w := w) (base := base) wkB (tab_ok wkB n) dl is F1
  rw [ha] at this
  exact this
end Z
end

section
set_option maxRecDepth 100007
/-! Reading trees: words for simp. -/
namespace Z
open PySem L2 PyProof.Rows
theorem run_eq {p : Pr} {n f : Nat} {d : Df} (h : p.defs[f]? = some d) (os : List O) : (p.ct (n + 1)).run f os = runD (p.ct n) d os := by
  show (match p.defs[f]? with | some d => runD (p.ct n) d os | none => RR.bad) = _
  rw [h]
section
variable {C : Ct} {z : Zs} {ro : Ro}
@[simp] theorem R.bind_ok {α β : Type} (a : α) (z : Zs) (f : α → Zs → R β) : (R.ok a z).bind f = f a z := rfl
@[simp] theorem R.bind_bad {α β : Type} (f : α → Zs → R β) : (R.bad : R α).bind f = .bad := rfl
@[simp] theorem R.bind_exc {α β : Type} (c : Nat) (fs : List (Nat × D)) (z : Zs) (f : α → Zs → R β) : (R.exc c fs z : R α).bind f = .exc c fs z := rfl
@[simp] theorem R.bindS_ok {α : Type} (a : α) (z : Zs) (f : α → Zs → S) : (R.ok a z).bindS f = f a z := rfl
@[simp] theorem R.bindS_bad {α : Type} (f : α → Zs → S) : (R.bad : R α).bindS f = .bad := rfl
@[simp] theorem R.bindS_exc {α : Type} (c : Nat) (fs : List (Nat × D)) (z : Zs) (f : α → Zs → S) : (R.exc c fs z : R α).bindS f = .exc c fs z := rfl
end
/-- how a turn of a loop goes on -/
@[simp] def Turn1 (I : Zs → Prop) (Post : S → Prop) : S → Prop
  | .nxt z => I z
  | .cnt z => I z
  | .brk z => Post (.nxt z)
  | .ret o z => Post (.ret o z)
  | .exc c fs z => Post (.exc c fs z)
  | .bad => False
theorem forF_run {tgt : D → Zs → Option Zs} {b : Zs → S} (I : Nat → Zs → Prop) (Post : S → Prop) : ∀ (ds : List D) (k : Nat) (z0 : Zs), I k z0 → (∀ i d z, ds[i]? = some d → I (k + i) z → ∃ z1, tgt d z = some z1 ∧ Turn1 (I (k + i + 1)) Post (b z1)) →
    (∀ z, I (k + ds.length) z → Post (.nxt z)) → Post (forF tgt b ds z0)
  | [], k, z0, h0, step, fin => fin z0 h0
  | d :: ds, k, z0, h0, step, fin => by
    obtain ⟨z1, e1, h1⟩ := step 0 d z0 rfl h0
    rw [forF, e1]
    have ih : ∀ z2, I (k + 1) z2 → Post (forF tgt b ds z2) := fun z2 h2 => forF_run I Post ds (k + 1) z2 h2 (fun i d z e h => by
      have := step (i + 1) d z (by simpa using e) (by rw [show k + (i + 1) = k + 1 + i by omega]; exact h)
      rwa [show k + (i + 1) + 1 = k + 1 + i + 1 by omega] at this) fun z h => fin z (by rw [List.length_cons, show k + (ds.length + 1) = k + 1 + ds.length by omega]; exact h)
    simp only
    cases e2 : b z1 with
    | nxt z2 => rw [e2] at h1; exact ih z2 h1
    | cnt z2 => rw [e2] at h1; exact ih z2 h1
    | brk z2 => rw [e2] at h1; exact h1
    | ret o z2 => rw [e2] at h1; exact h1
    | exc c fs z2 => rw [e2] at h1; exact h1
    | bad => rw [e2] at h1; exact h1.elim
/-- the turns of a comprehension, what is made so far and the slots being as I says -/
theorem compF_run {vs : List Nat} {tgt : D → Zs → Option Zs} {c : Zs → R Bool} {me : Zs → R Hd} (I : Nat → List D → Zs → Prop) : ∀ (ds acc : List D) (k : Nat) (z : Zs), I k acc z → (∀ i d acc z, ds[i]? = some d → I (k + i) acc z → ∃ z1, tgt d z = some z1 ∧ ∃ b z2, c z1 = .ok b z2 ∧ (if b = true then
      ∃ h z3 e z4, me z2 = .ok h z3 ∧ takeD h z3 = some (e, z4) ∧ acc.length < sizeLine ∧ I (k + i + 1) (acc ++ [e]) (wipeZ z4 vs) else I (k + i + 1) acc (wipeZ z2 vs))) →
    ∃ out z', compF vs tgt c me ds acc z = some (out, z') ∧ I (k + ds.length) out z'
  | [], acc, k, z, h0, step => ⟨acc, z, rfl, h0⟩
  | d :: ds, acc, k, z, h0, step => by
    obtain ⟨z1, e1, b, z2, e2, h⟩ := step 0 d acc z rfl h0
    have ih : ∀ acc2 z5, I (k + 1) acc2 z5 → ∃ out z', compF vs tgt c me ds acc2 z5 = some (out, z') ∧ I (k + (d :: ds).length) out z' := fun acc2 z5 h5 => by
      have := compF_run I ds acc2 (k + 1) z5 h5 fun i d acc z e h => by
        have := step (i + 1) d acc z (by simpa using e) (by rw [show k + (i + 1) = k + 1 + i by omega]; exact h)
        rwa [show k + (i + 1) + 1 = k + 1 + i + 1 by omega] at this
      rwa [List.length_cons, show k + (ds.length + 1) = k + 1 + ds.length by omega]
    rw [compF, e1]
    simp only [e2]
    cases b with
    | false =>
      simp only [Bool.false_eq_true, if_false] at h ⊢
      exact ih _ _ h
    | true =>
      simp only [if_true] at h ⊢
      obtain ⟨hd, z3, e, z4, e3, e4, hl, h5⟩ := h
      simp only [e3, e4, if_pos hl]
      exact ih _ _ h5
/-- .. where each turn makes one item and leaves the slots as they were -/
theorem compF_map {vs : List Nat} {tgt : D → Zs → Option Zs} {c : Zs → R Bool} {me : Zs → R Hd} {zb : Zs} (g : D → D) : ∀ (ds acc : List D), (∀ d ∈ ds, ∃ z1, tgt d zb = some z1 ∧ ∃ z2 h z3 z4, c z1 = .ok true z2 ∧ me z2 = .ok h z3 ∧ takeD h z3 = some (g d, z4) ∧ wipeZ z4 vs = zb) →
    acc.length + ds.length ≤ sizeLine → compF vs tgt c me ds acc zb = some (acc ++ ds.map g, zb)
  | [], acc, _, _ => by rw [compF, List.map_nil, List.append_nil]
  | d :: ds, acc, h, hl => by
    obtain ⟨z1, e1, z2, hd, z3, z4, e2, e3, e4, e5⟩ := h d (by simp)
    rw [List.length_cons] at hl
    rw [compF, e1]
    simp only [e2, if_true, e3, e4]
    rw [if_pos (by omega), e5, compF_map g ds (acc ++ [g d]) (fun d hd => h d (by simp [hd])) (by rw [List.length_append, List.length_singleton]; omega), List.map_cons, List.append_assoc]
    rfl
@[simp] theorem andK_t (x : Hd) (z : Zs) (r : R Hd) : andK x z r (some true) = r := rfl
@[simp] theorem andK_f (x : Hd) (z : Zs) (r : R Hd) : andK x z r (some false) = .ok x z := rfl
@[simp] theorem orK_t (x : Hd) (z : Zs) (r : R Hd) : orK x z r (some true) = .ok x z := rfl
@[simp] theorem orK_f (x : Hd) (z : Zs) (r : R Hd) : orK x z r (some false) = r := rfl
@[simp] theorem andK_bl (b c : Bool) (z : Zs) : andK (.tmp (.val (.bl b))) z (.ok (.tmp (.val (.bl c))) z) (some b) = .ok (.tmp (.val (.bl (b && c)))) z := by cases b <;> rfl
@[simp] theorem orK_bl (b c : Bool) (z : Zs) : orK (.tmp (.val (.bl b))) z (.ok (.tmp (.val (.bl c))) z) (some b) = .ok (.tmp (.val (.bl (b || c)))) z := by cases b <;> rfl
@[simp] theorem ite_and (p : Prop) [Decidable p] (q : Bool) (z : Zs) : (if p then (R.ok q z : R Bool) else R.ok false z) = R.ok (decide p && q) z := by
  by_cases h : p <;> simp [h]
@[simp] theorem ite_or (p : Prop) [Decidable p] (q : Bool) (z : Zs) : (if p then (R.ok true z : R Bool) else R.ok q z) = R.ok (decide p || q) z := by
  by_cases h : p <;> simp [h]
/-! ### steps -/
section
variable {C : Ct} {z z1 z2 : Zs} {ro : Ro} {s r a b : Sm} {x : S} {o : O} {e c : Ex} {t : Tg} {it : It1} {ds : List D} {rs : Option (Nat × O)}
theorem seq_nxt (h : evS C ro s z = .nxt z1) (h2 : evS C ro r z1 = x) : evS C ro (.seq s r) z = x := by
  show exSeq _ _ z = _
  unfold exSeq
  rw [h]
  exact h2
theorem seq_ret (h : evS C ro s z = .ret o z1) : evS C ro (.seq s r) z = .ret o z1 := by
  show exSeq _ _ z = _
  unfold exSeq
  rw [h]
theorem ife_t (h : (ev C c).2 z = .ok true z1) (h2 : evS C ro a z1 = x) : evS C ro (.ife c a b) z = x := by
  show exIf _ _ _ z = _
  unfold exIf
  rw [h]
  exact h2
theorem ife_f (h : (ev C c).2 z = .ok false z1) (h2 : evS C ro b z1 = x) : evS C ro (.ife c a b) z = x := by
  show exIf _ _ _ z = _
  unfold exIf
  rw [h]
  exact h2
theorem st_nil : evS C ro .nil z = .nxt z := rfl
theorem st_retn : evS C ro .retN z = .ret (.val .non) z := rfl
theorem frl_ok (h : evI C it z = .ok (ds, rs) z1) : evS C ro (.frl t it b) z = (forF (asg1 (roL ro it.l) t) (evS C (roL ro it.l) b) ds z1).back rs := by
  show exFor _ _ _ z = _
  unfold exFor
  rw [h]
  rfl
theorem st_ret (h : (ev C e).1 z = .ok (.tmp o) z1) : evS C ro (.ret e) z = .ret o z1 := by
  show exRet _ _ z = _
  unfold exRet
  rw [h]
  rfl
theorem st_asg {i : Nat} {h : Hd} (h1 : (ev C e).1 z = .ok h z1) (h2 : take h z1 = some (o, z2)) (hi : ro i = false) (hl : i < z2.length) : evS C ro (.asg i e) z = .nxt (z2.set i (some o)) := by
  show exAsgN _ _ _ z = _
  unfold exAsgN
  rw [h1]
  show (match take h z1 with
    | some (o, z2) => (match setS ro i o z2 with
      | some z3 => S.nxt z3
      | none => .bad)
    | none => .bad) = _
  rw [h2]
  unfold setS
  simp [hi, hl]
theorem st_app {i : Nat} {h : Hd} {d : D} {ds0 ds1 : List D} (h0 : rd z i = some (.lst ds0)) (h1 : (ev C e).1 z = .ok h z1) (h2 : takeD h z1 = some (d, z2)) (h3 : rd z2 i = some (.lst ds1)) (hl : ds1.length < sizeLine) : evS C ro (.app i e) z = .nxt (z2.set i (some (.lst (ds1 ++ [d])))) := by
  show exApp _ _ z = _
  unfold exApp
  rw [h0]
  simp only [h1, R.bindS_ok, h2, h3, if_pos hl]
theorem runD_ret {d : Df} {os : List O} {outs : List (Option O)} (h0 : os.length = d.np) (h : evS C d.ro d.body (os.map some ++ List.replicate (d.ns - d.np) none) = .ret o z) (h2 : outsOf d.modes 0 z = some outs) : runD C d os = .ret o outs := by
  unfold runD
  rw [if_pos h0, h]
  simp only [h2]
theorem runD_nxt {d : Df} {os : List O} {outs : List (Option O)} (h0 : os.length = d.np) (h : evS C d.ro d.body (os.map some ++ List.replicate (d.ns - d.np) none) = .nxt z) (h2 : outsOf d.modes 0 z = some outs) : runD C d os = .ret (.val .non) outs := by
  unfold runD
  rw [if_pos h0, h]
  simp only [h2]
end
/-- a product of small numbers -/
theorem mulOk_l {i j : Int} (h1 : 0 ≤ i) (h2 : i < 4294967296) : MulOk i j := .inl (.inl ⟨by omega, by omega⟩)
theorem mulOk_r {i j : Int} (h1 : 0 ≤ j) (h2 : j < 4294967296) : MulOk i j := .inl (.inr ⟨by omega, by omega⟩)
end Z
end

section
set_option maxRecDepth 100007
set_option maxHeartbeats 4000007
/-! The law's hand: numbers drawn off a script. -/
namespace Z
open PySem L2 PyProof.Rows
def dMix : Df := ⟨2, 4, [true, true], [], .seq (.asg 2 (.bin .mod (.bi .int (.cons (.bin .add (.bin .add (.bin .mul (.lc 0) (.kon (.int 48271))) (.bin .mul (.lc 1) (.kon (.int 16807)))) (.kon (.int 11))) .nil)) (.kon (.int 2147483647)))) (.seq (.asg 3 (.bin .mod (.bi .int (.cons (.bin .add (.bin .add (.bin .mul (.lc 2) (.lc 2)) (.bin .mul (.bin .fdiv (.lc 2) (.kon (.int 127))) (.kon (.int 40692)))) (.bin .mul (.lc 1) (.kon (.int 69621)))) .nil)) (.kon (.int 2147483399)))) (.seq (.ret (.bin .fdiv (.bin .mod (.bi .int (.cons (.bin .add (.bin .fdiv (.bin .mul (.lc 3) (.lc 3)) (.kon (.int 1009))) (.lc 2)) .nil)) (.kon (.int 2147483563))) (.kon (.int 16)))) .nil))⟩
def mixI (n t : Int) : Int :=
  let once := (n * 48271 + t * 16807 + 11) % 2147483647
  let twice := (once * once + once / 127 * 40692 + t * 69621) % 2147483399
  (twice * twice / 1009 + once) % 2147483563 / 16
theorem run_mix (C : Ct) (a b : Int) (ha : 0 ≤ a ∧ a < 4294967296) (hb : 0 ≤ b ∧ b < 4294967296) : runD C dMix [.val (.int a), .val (.int b)] = .ret (.val (.int (mixI a b))) [some (.val (.int a)), some (.val (.int b))] := by
  have h1 : MulOk a 48271 := mulOk_l ha.1 ha.2
  have h2 : MulOk b 16807 := mulOk_l hb.1 hb.2
  have h3 : MulOk b 69621 := mulOk_l hb.1 hb.2
  have h4 : MulOk ((a * 48271 + b * 16807 + 11) % 2147483647) ((a * 48271 + b * 16807 + 11) % 2147483647) := mulOk_l (by omega) (by omega)
  have h5 : MulOk ((a * 48271 + b * 16807 + 11) % 2147483647 / 127) 40692 := mulOk_l (by omega) (by omega)
  generalize e1 : (a * 48271 + b * 16807 + 11) % 2147483647 = x at h4 h5
  have h6 : MulOk ((x * x + x / 127 * 40692 + b * 69621) % 2147483399) ((x * x + x / 127 * 40692 + b * 69621) % 2147483399) := mulOk_l (by omega) (by omega)
  have e2 : mixI a b = ((x * x + x / 127 * 40692 + b * 69621) % 2147483399 * ((x * x + x / 127 * 40692 + b * 69621) % 2147483399) / 1009 + x) % 2147483563 / 16 := by
    unfold mixI
    rw [e1]
  rw [e2]
  have lg : Nat.log2 127 < 9000 ∧ Nat.log2 1009 < 9000 ∧ Nat.log2 16 < 9000 := by decide +kernel
  simp [runD, dMix, evS, exSeq, exAsgN, exRet, ev, evA, evBi, evOpN, apN, evOp2, ap2, evSlot, evD, evCons, evNil, rd, peek, peeks, take, setS, binOp, arith, B1.fn, biInt, Df.ro, outsOf, O.pk, h1, h2, h3, h4, h5, h6, e1, lg]

def dHand : Df := ⟨1, 4, [true], [], .seq (.asg 1 (.kon (.int 0))) (.seq (.frl (.tp (.cons (.nm 2) (.cons (.nm 3) .nil))) (.enum (some 0) (.lc 0)) (.seq (.asg 1 (.bin .mod (.bi .int (.cons (.bin .add (.bin .mul (.lc 1) (.kon (.int 31))) (.bin .mul (.bi .int (.cons (.lc 3) .nil)) (.bin .add (.lc 2) (.kon (.int 7))))) .nil)) (.kon (.int 2147483629)))) .nil)) (.seq (.ret (.lst (.cons (.comp [3] (.nm 3) (.seq (some 0) (.lc 0)) .none (.bi .abs (.cons (.bi .int (.cons (.lc 3) .nil)) .nil))) (.cons (.kon (.int 0)) (.cons (.kon (.int 0)) (.cons (.lc 1) .nil)))))) .nil))⟩
theorem mixI_b (n t : Int) : 0 ≤ mixI n t ∧ mixI n t < 134217723 := by
  unfold mixI
  simp only
  omega
/-- the hand: the cells, the place, the rest, the total -/
def handO (cells : List Int) (i r t : Int) : O := .lst [.lst (cells.map .int), .int i, .int r, .int t]
theorem run_hand (C : Ct) (ns : List Int) (hl : ns.length ≤ 63) : ∃ t, 0 ≤ t ∧ t < 2147483629 ∧ runD C dHand [.val (.scr ns)] = .ret (handO (ns.map fun i => if i < 0 then -i else i) 0 0 t) [some (.val (.scr ns))] := by
  have sl : (63 : Nat) ≤ sizeLine := by decide
  have key : ∃ t, 0 ≤ t ∧ t < 2147483629 ∧ ∃ a b, forF (asg1 (roL dHand.ro (some 0)) (.tp (.cons (.nm 2) (.cons (.nm 3) .nil)))) (evS C (roL dHand.ro (some 0)) (.seq (.asg 1 (.bin .mod (.bi .int (.cons (.bin .add (.bin .mul (.lc 1) (.kon (.int 31))) (.bin .mul (.bi .int (.cons (.lc 3) .nil)) (.bin .add (.lc 2) (.kon (.int 7))))) .nil)) (.kon (.int 2147483629)))) .nil)) (ns.zipIdx.map fun p => D.tup [.int p.2, .int p.1]) [none, some (.val (.int 0)), none, none] = .nxt [none, some (.val (.int t)), a, b] := by
    refine forF_run (fun _ z => ∃ t a b, 0 ≤ t ∧ t < 2147483629 ∧ z = [none, some (.val (.int t)), a, b]) (fun r => ∃ t, 0 ≤ t ∧ t < 2147483629 ∧ ∃ a b, r = .nxt [none, some (.val (.int t)), a, b]) _ 0 _ ⟨0, none, none, by decide, by decide, rfl⟩ (fun i d z e h => ?_) (fun z h => ?_)
    · obtain ⟨t, a, b, h1, h2, rfl⟩ := h
      rw [List.getElem?_map, List.getElem?_zipIdx] at e
      obtain ⟨p, e1, rfl⟩ := Option.map_eq_some_iff.mp e
      obtain ⟨n, e2, rfl⟩ := Option.map_eq_some_iff.mp e1
      have hi : i < ns.length := (List.getElem?_eq_some_iff.mp e2).1
      have m1 : MulOk t 31 := mulOk_l h1 (by omega)
      have m2 : MulOk n ((i : Int) + 7) := mulOk_r (by omega) (by omega)
      refine ⟨[none, some (.val (.int t)), some (.val (.int (i : Int))), some (.val (.int n))], ?_, ?_⟩
      · simp [asg1, asgN, setS, roL, dHand, Df.ro]
      · simp [setS, roL, dHand, Df.ro, evS, exSeq, exAsgN, ev, evA, evBi, evOpN, apN, evOp2, ap2, evSlot, evD, evCons, evNil, rd, peek, peeks, take, binOp, arith, B1.fn, biInt, O.pk, m1, m2, exSkip, Turn1]
        omega
    · obtain ⟨t, a, b, h1, h2, rfl⟩ := h
      exact ⟨t, h1, h2, a, b, rfl⟩
  obtain ⟨t, h1, h2, a, b, key⟩ := key
  refine ⟨t, h1, h2, ?_⟩
  have cp := compF_map (vs := [3]) (tgt := asg1 (roV [3]) (.nm 3)) (c := evYes) (me := evOpN biAbs (evCons (evOpN biInt (evCons (evSlot 3) evNil)) evNil)) (zb := [none, some (.val (.int t)), a, none]) (fun d => match d with
      | .int i => .int (if i < 0 then -i else i)
      | d => d) (ns.map .int) [] (fun d hd => by
    obtain ⟨n, _, rfl⟩ := List.mem_map.mp hd
    refine ⟨[none, some (.val (.int t)), a, some (.val (.int n))], by simp [asg1, setS, roV], _, .tmp (.val (.int (if n < 0 then -n else n))), [none, some (.val (.int t)), a, some (.val (.int n))], [none, some (.val (.int t)), a, some (.val (.int n))], rfl, ?_, rfl, by simp [wipeZ]⟩
    simp [evOpN, evCons, evSlot, evNil, apN, rd, peeks, peek, biInt, biAbs, O.pk]) (by simp; omega)
  rw [List.map_map, List.nil_append] at cp
  have eg : (ns.map (fun i : Int => if i < 0 then -i else i)).map D.int = List.map ((fun d : D => match d with | .int i => .int (if i < 0 then -i else i) | d => d) ∘ D.int) ns := by
    rw [List.map_map]
    rfl
  refine runD_ret (z := [some (.val (.scr ns)), some (.val (.int t)), a, b]) rfl (seq_nxt (z1 := [some (.val (.scr ns)), some (.val (.int 0)), none, none]) rfl (seq_nxt (z1 := [some (.val (.scr ns)), some (.val (.int t)), a, b]) ((frl_ok (z1 := [none, some (.val (.int 0)), none, none]) (ds := ns.zipIdx.map fun p => D.tup [.int p.2, .int p.1]) (rs := some (0, .val (.scr ns))) rfl).trans (by rw [show (It1.enum (some 0) (.lc 0)).l = some 0 from rfl, key]; rfl)) (seq_ret (st_ret ?_)))) rfl
  show evLst (evCons (evComp [3] (asg1 (roV [3]) (.nm 3)) evYes (evOpN biAbs (evCons (evOpN biInt (evCons (evSlot 3) evNil)) evNil)) (evSeq (some 0) (evSlot 0))) (evCons (evD (.int 0)) (evCons (evD (.int 0)) (evCons (evSlot 1) evNil)))) _ = _
  have c1 : evComp [3] (asg1 (roV [3]) (.nm 3)) evYes (evOpN biAbs (evCons (evOpN biInt (evCons (evSlot 3) evNil)) evNil)) (evSeq (some 0) (evSlot 0)) [some (.val (.scr ns)), some (.val (.int t)), a, b] = .ok (.tmp (.lst ((ns.map (fun i : Int => if i < 0 then -i else i)).map D.int))) [some (.val (.scr ns)), some (.val (.int t)), a, b] := by
    have q : evSeq (some 0) (evSlot 0) [some (.val (.scr ns)), some (.val (.int t)), a, b] = .ok (ns.map .int, some (0, .val (.scr ns))) [none, some (.val (.int t)), a, b] := rfl
    unfold evComp
    rw [q, R.bind_ok, show wipeZ [none, some (.val (.int t)), a, b] [3] = [none, some (.val (.int t)), a, none] from rfl, cp, eg]
    rfl
  generalize evComp [3] (asg1 (roV [3]) (.nm 3)) evYes (evOpN biAbs (evCons (evOpN biInt (evCons (evSlot 3) evNil)) evNil)) (evSeq (some 0) (evSlot 0)) = m at c1 ⊢
  simp [c1, handO]
  omega
def dDraw (f : Nat) : Df := ⟨2, 4, [true, true], [], .seq (.ife (.and (.cons (.cmp .eq (.ix (.lc 0) (.kon (.int 2))) (.kon (.int 0))) (.cons (.cmp .lt (.ix (.lc 0) (.kon (.int 1))) (.bi .len (.cons (.ix (.lc 0) (.kon (.int 0))) .nil))) .nil))) (.seq (.asg 2 (.ix (.ix (.lc 0) (.kon (.int 0))) (.ix (.lc 0) (.kon (.int 1))))) (.seq (.setIx 0 (.kon (.int 1)) (.bin .add (.ix (.lc 0) (.kon (.int 1))) (.kon (.int 1)))) (.seq (.ife (.cmp .lt (.lc 2) (.bin .pow (.kon (.int 10)) (.kon (.int 18)))) (.seq (.ret (.bin .mod (.bi .int (.cons (.call f (.cons (.bin .mod (.bi .int (.cons (.lc 2) .nil)) (.kon (.int 2147483647))) (.cons (.ix (.lc 0) (.kon (.int 1))) .nil))) .nil)) (.lc 1))) .nil) .nil) (.seq (.setIx 0 (.kon (.int 2)) (.lc 2)) .nil)))) .nil) (.seq (.ife (.cmp .gt (.ix (.lc 0) (.kon (.int 2))) (.kon (.int 0))) (.seq (.asg 3 (.ix (.lc 0) (.kon (.int 2)))) (.seq (.setIx 0 (.kon (.int 2)) (.bin .fdiv (.lc 3) (.lc 1))) (.seq (.ret (.bin .mod (.bi .int (.cons (.lc 3) .nil)) (.lc 1))) .nil))) .nil) (.seq (.setIx 0 (.kon (.int 3)) (.bin .mod (.bi .int (.cons (.bin .add (.ix (.lc 0) (.kon (.int 3))) (.kon (.int 1))) .nil)) (.kon (.int 2147483629)))) (.seq (.ret (.bin .mod (.bi .int (.cons (.call f (.cons (.ix (.lc 0) (.kon (.int 3))) (.cons (.ix (.lc 0) (.kon (.int 1))) .nil))) .nil)) (.lc 1))) .nil)))⟩
theorem plain_int {n : Nat} (i : Int) : plainN n (.int i) = true := by cases n <;> rfl
theorem at4 (a b c d : D) : atI [a, b, c, d] 0 = some a ∧ atI [a, b, c, d] 1 = some b ∧ atI [a, b, c, d] 2 = some c ∧ atI [a, b, c, d] 3 = some d := ⟨rfl, rfl, rfl, rfl⟩
structure HandOk (cells : List Int) (i r t : Int) : Prop where
  pos : ∀ c ∈ cells, 0 ≤ c
  i0 : 0 ≤ i
  i1 : i ≤ cells.length
  r0 : 0 ≤ r
  t0 : 0 ≤ t
  t1 : t < 2147483629
  len : cells.length ≤ 63
theorem run_draw (C : Ct) (f : Nat) (hm : C.modes f = [true, true]) (hf : ∀ a b : Int, 0 ≤ a ∧ a < 4294967296 → 0 ≤ b ∧ b < 4294967296 → C.run f [.val (.int a), .val (.int b)] = .ret (.val (.int (mixI a b))) [some (.val (.int a)), some (.val (.int b))])
    {cells : List Int} {i r t m : Int} (h : HandOk cells i r t) (h0 : 0 < m) (h1 : m < 4294967296) : ∃ x i' r' t', 0 ≤ x ∧ x < m ∧ HandOk cells i' r' t' ∧ runD C (dDraw f) [handO cells i r t, .val (.int m)] = .ret (.val (.int x)) [some (handO cells i' r' t'), some (.val (.int m))] := by
  have hlog : m.natAbs.log2 < 9000 := by
    have : m.natAbs < 2 ^ 32 := by omega
    have := Nat.log2_lt (n := m.natAbs) (k := 32) (by omega)
    omega
  have fin : ∀ y : Int, 0 ≤ y % m ∧ y % m < m := fun y => ⟨Int.emod_nonneg _ (by omega), Int.emod_lt_of_pos _ h0⟩
  by_cases hr : r = 0 ∧ i < cells.length
  · obtain ⟨rfl, hi⟩ := hr
    have hn : i.toNat < cells.length := by have := h.i0; omega
    have hat : atI (cells.map D.int) i = some (D.int cells[i.toNat]) := by
      unfold atI ixN
      rw [List.length_map, if_pos h.i0, if_pos hi]
      simp [hn]
    have c0 : 0 ≤ cells[i.toNat] := h.pos _ (List.getElem_mem hn)
    have hok : ∀ r', 0 ≤ r' → HandOk cells (i + 1) r' t := fun r' hr' => ⟨h.pos, by have := h.i0; omega, by omega, hr', h.t0, h.t1, h.len⟩
    generalize cells[i.toNat] = c at hat c0
    by_cases hc : c < 1000000000000000000
    · have hf1 := hf (c % 2147483647) (i + 1) ⟨Int.emod_nonneg _ (by decide), by omega⟩ ⟨by have := h.i0; omega, by have := h.len; omega⟩
      refine ⟨mixI (c % 2147483647) (i + 1) % m, i + 1, 0, t, (fin _).1, (fin _).2, hok 0 (by decide), ?_⟩
      simp [runD, dDraw, handO, eqD, plain_int, at4, ixN, h0, hlog, hi, hat, hc, apF, given, hm, lendA, backA, hf1]
    · refine ⟨c % m, i + 1, c / m, t, (fin _).1, (fin _).2, hok _ (Int.ediv_nonneg c0 (by omega)), ?_⟩
      have c1 : 0 < c := by omega
      have c2 : c ≠ 0 := by omega
      simp [runD, dDraw, handO, eqD, plain_int, at4, ixN, h0, hlog, hi, hat, hc, c1, c2]
  · by_cases hr0 : r > 0
    · refine ⟨r % m, i, r / m, t, (fin _).1, (fin _).2, ⟨h.pos, h.i0, h.i1, Int.ediv_nonneg h.r0 (by omega), h.t0, h.t1, h.len⟩, ?_⟩
      have : r ≠ 0 := by omega
      simp [runD, dDraw, handO, eqD, plain_int, at4, ixN, this, hr0, h0, hlog]
    · have r0 : r = 0 := by have := h.r0; omega
      subst r0
      have hi : ¬ i < (cells.length : Int) := fun q => hr ⟨rfl, q⟩
      have hf1 := hf ((t + 1) % 2147483629) i ⟨Int.emod_nonneg _ (by decide), by omega⟩ ⟨h.i0, by have := h.i1; have := h.len; omega⟩
      refine ⟨mixI ((t + 1) % 2147483629) i % m, i, 0, (t + 1) % 2147483629, (fin _).1, (fin _).2, ⟨h.pos, h.i0, h.i1, by decide, Int.emod_nonneg _ (by decide), Int.emod_lt_of_pos _ (by decide), h.len⟩, ?_⟩
      simp [runD, dDraw, handO, eqD, plain_int, at4, ixN, h0, hlog, hi, apF, given, hm, lendA, backA, hf1]
end Z
end

section
set_option maxRecDepth 100007
set_option maxHeartbeats 0
namespace K52
open PySem PySem.Spec PyProof.Rows L2 Z
abbrev prog : Program := PySem.Challenge.pw_slitstairs_k52_boxes_and_what_rests
def top (i : Nat) : Stmt := prog.main.body.getD i (.Pass ⟨0, 0, 0, 0⟩)
def inn (i j : Nat) : Stmt := match top i with
  | .ClassDef _ _ _ b _ _ _ _ _ _ _ => b.getD j (.Pass ⟨0, 0, 0, 0⟩)
  | _ => .Pass ⟨0, 0, 0, 0⟩
/-- rest_table -/
def d0 : Df := ⟨1, 5, [true], [], .seq (.asg 1 (.lst .nil)) (.seq (.frl (.tp (.cons (.nm 2) (.cons (.nm 3) .nil))) (.enum none (.lc 0)) (.seq (.app 1 (.bi .tuple (.cons (.comp [4] (.nm 4) (.rng (.cons (.lc 2) .nil)) (.some (.meth (.lc 3) 0 (.cons (.ix (.lc 0) (.lc 4)) .nil))) (.lc 4)) .nil))) .nil)) (.seq (.ret (.bi .tuple (.cons (.lc 1) .nil))) .nil))⟩
def z0 : DefZ := { pl := .glo "rest_table", name := "rest_table", qual := "rest_table", st := top 1 }
/-- Box.__init__ -/
def d1 : Df := ⟨7, 7, [true, true, true, true, true, true, true], [], .seq (.setFld 0 6 (.lc 1)) (.seq (.setFld 0 5 (.lc 2)) (.seq (.setFld 0 4 (.lc 3)) (.seq (.setFld 0 3 (.lc 4)) (.seq (.setFld 0 2 (.lc 5)) (.seq (.setFld 0 1 (.lc 6)) .nil)))))⟩
def z1 : DefZ := { pl := .meth "Box" "__init__", name := "__init__", qual := "Box.__init__", st := inn 3 0 }
/-- Box.squares -/
def d2 : Df := ⟨1, 5, [true], [], .seq (.asg 1 (.lst .nil)) (.seq (.frl (.nm 2) (.rng (.cons (.attr (.lc 0) 6) (.cons (.bin .add (.attr (.lc 0) 5) (.kon (.int 1))) .nil))) (.seq (.frl (.nm 3) (.rng (.cons (.attr (.lc 0) 4) (.cons (.bin .add (.attr (.lc 0) 4) (.attr (.lc 0) 2)) .nil))) (.seq (.frl (.nm 4) (.rng (.cons (.attr (.lc 0) 3) (.cons (.bin .add (.attr (.lc 0) 3) (.attr (.lc 0) 1)) .nil))) (.seq (.app 1 (.tup (.cons (.lc 2) (.cons (.lc 3) (.cons (.lc 4) .nil))))) .nil)) .nil)) .nil)) (.seq (.ret (.bi .tuple (.cons (.lc 1) .nil))) .nil))⟩
def z2 : DefZ := { pl := .prop "Box" "squares", name := "squares", qual := "Box.squares", st := inn 3 1 }
/-- Box.moved -/
def d3 : Df := ⟨3, 3, [true, true, true], [], .seq (.ret (.mk 0 (.cons (.attr (.lc 0) 6) (.cons (.attr (.lc 0) 5) (.cons (.bin .add (.attr (.lc 0) 4) (.lc 1)) (.cons (.bin .add (.attr (.lc 0) 3) (.lc 2)) (.cons (.attr (.lc 0) 2) (.cons (.attr (.lc 0) 1) .nil)))))))) .nil⟩
def z3 : DefZ := { pl := .meth "Box" "moved", name := "moved", qual := "Box.moved", st := inn 3 2 }
/-- Box.meets -/
def d4 : Df := ⟨2, 5, [true, true], [], .seq (.asg 2 (.and (.cons (.cmp .le (.attr (.lc 0) 6) (.attr (.lc 1) 5)) (.cons (.cmp .le (.attr (.lc 1) 6) (.attr (.lc 0) 5)) .nil)))) (.seq (.asg 3 (.and (.cons (.cmp .lt (.attr (.lc 0) 4) (.bin .add (.attr (.lc 1) 4) (.attr (.lc 1) 2))) (.cons (.cmp .lt (.attr (.lc 1) 4) (.bin .add (.attr (.lc 0) 4) (.attr (.lc 0) 2))) .nil)))) (.seq (.asg 4 (.and (.cons (.cmp .lt (.attr (.lc 0) 3) (.bin .add (.attr (.lc 1) 3) (.attr (.lc 1) 1))) (.cons (.cmp .lt (.attr (.lc 1) 3) (.bin .add (.attr (.lc 0) 3) (.attr (.lc 0) 1))) .nil)))) (.seq (.ret (.and (.cons (.lc 2) (.cons (.lc 3) (.cons (.lc 4) .nil))))) .nil)))⟩
def z4 : DefZ := { pl := .meth "Box" "meets", name := "meets", qual := "Box.meets", st := inn 3 3 }
/-- Box.rests_on -/
def d5 : Df := ⟨2, 2, [true, true], [], .seq (.ife (.meth (.lc 0) 8 (.cons (.lc 1) .nil)) (.seq (.ret (.kon (.bl false))) .nil) .nil) (.seq (.ret (.or (.cons (.meth (.meth (.lc 0) 7 (.cons (.neg (.kon (.int 1))) (.cons (.kon (.int 0)) .nil))) 8 (.cons (.lc 1) .nil)) (.cons (.meth (.meth (.lc 0) 7 (.cons (.kon (.int 0)) (.cons (.neg (.kon (.int 1))) .nil))) 8 (.cons (.lc 1) .nil)) .nil)))) .nil)⟩
def z5 : DefZ := { pl := .meth "Box" "rests_on", name := "rests_on", qual := "Box.rests_on", st := inn 3 4 }
/-- Box.__contains__ -/
def d6 : Df := ⟨2, 2, [true, true], [], .seq (.ret (.cmp .inn (.lc 1) (.attr (.lc 0) 9))) .nil⟩
def z6 : DefZ := { pl := .meth "Box" "__contains__", name := "__contains__", qual := "Box.__contains__", st := inn 3 5 }
/-- Box.__len__ -/
def d7 : Df := ⟨1, 1, [true], [], .seq (.ret (.bi .len (.cons (.attr (.lc 0) 9) .nil))) .nil⟩
def z7 : DefZ := { pl := .meth "Box" "__len__", name := "__len__", qual := "Box.__len__", st := inn 3 6 }
/-- Box.__eq__ -/
def d8 : Df := ⟨2, 2, [true, true], [], .seq (.ret (.and (.cons (.isi (.lc 1) (.own 0)) (.cons (.cmp .eq (.attr (.lc 0) 6) (.attr (.lc 1) 6)) (.cons (.cmp .eq (.attr (.lc 0) 5) (.attr (.lc 1) 5)) (.cons (.cmp .eq (.attr (.lc 0) 4) (.attr (.lc 1) 4)) (.cons (.cmp .eq (.attr (.lc 0) 3) (.attr (.lc 1) 3)) (.cons (.cmp .eq (.attr (.lc 0) 2) (.attr (.lc 1) 2)) (.cons (.cmp .eq (.attr (.lc 0) 1) (.attr (.lc 1) 1)) .nil))))))))) .nil⟩
def z8 : DefZ := { pl := .meth "Box" "__eq__", name := "__eq__", qual := "Box.__eq__", st := inn 3 7 }
/-- _law_mix -/
def d9 : Df := ⟨2, 4, [true, true], [], .seq (.asg 2 (.bin .mod (.bi .int (.cons (.bin .add (.bin .add (.bin .mul (.lc 0) (.kon (.int 48271))) (.bin .mul (.lc 1) (.kon (.int 16807)))) (.kon (.int 11))) .nil)) (.kon (.int 2147483647)))) (.seq (.asg 3 (.bin .mod (.bi .int (.cons (.bin .add (.bin .add (.bin .mul (.lc 2) (.lc 2)) (.bin .mul (.bin .fdiv (.lc 2) (.kon (.int 127))) (.kon (.int 40692)))) (.bin .mul (.lc 1) (.kon (.int 69621)))) .nil)) (.kon (.int 2147483399)))) (.seq (.ret (.bin .fdiv (.bin .mod (.bi .int (.cons (.bin .add (.bin .fdiv (.bin .mul (.lc 3) (.lc 3)) (.kon (.int 1009))) (.lc 2)) .nil)) (.kon (.int 2147483563))) (.kon (.int 16)))) .nil))⟩
def z9 : DefZ := { pl := .glo "_law_mix", name := "_law_mix", qual := "_law_mix", st := top 5 }
/-- _law_hand -/
def d10 : Df := ⟨1, 4, [true], [], .seq (.asg 1 (.kon (.int 0))) (.seq (.frl (.tp (.cons (.nm 2) (.cons (.nm 3) .nil))) (.enum (some 0) (.lc 0)) (.seq (.asg 1 (.bin .mod (.bi .int (.cons (.bin .add (.bin .mul (.lc 1) (.kon (.int 31))) (.bin .mul (.bi .int (.cons (.lc 3) .nil)) (.bin .add (.lc 2) (.kon (.int 7))))) .nil)) (.kon (.int 2147483629)))) .nil)) (.seq (.ret (.lst (.cons (.comp [3] (.nm 3) (.seq (some 0) (.lc 0)) .none (.bi .abs (.cons (.bi .int (.cons (.lc 3) .nil)) .nil))) (.cons (.kon (.int 0)) (.cons (.kon (.int 0)) (.cons (.lc 1) .nil)))))) .nil))⟩
def z10 : DefZ := { pl := .glo "_law_hand", name := "_law_hand", qual := "_law_hand", st := top 6 }
/-- _law_draw -/
def d11 : Df := ⟨2, 4, [true, true], [], .seq (.ife (.and (.cons (.cmp .eq (.ix (.lc 0) (.kon (.int 2))) (.kon (.int 0))) (.cons (.cmp .lt (.ix (.lc 0) (.kon (.int 1))) (.bi .len (.cons (.ix (.lc 0) (.kon (.int 0))) .nil))) .nil))) (.seq (.asg 2 (.ix (.ix (.lc 0) (.kon (.int 0))) (.ix (.lc 0) (.kon (.int 1))))) (.seq (.setIx 0 (.kon (.int 1)) (.bin .add (.ix (.lc 0) (.kon (.int 1))) (.kon (.int 1)))) (.seq (.ife (.cmp .lt (.lc 2) (.bin .pow (.kon (.int 10)) (.kon (.int 18)))) (.seq (.ret (.bin .mod (.bi .int (.cons (.call 9 (.cons (.bin .mod (.bi .int (.cons (.lc 2) .nil)) (.kon (.int 2147483647))) (.cons (.ix (.lc 0) (.kon (.int 1))) .nil))) .nil)) (.lc 1))) .nil) .nil) (.seq (.setIx 0 (.kon (.int 2)) (.lc 2)) .nil)))) .nil) (.seq (.ife (.cmp .gt (.ix (.lc 0) (.kon (.int 2))) (.kon (.int 0))) (.seq (.asg 3 (.ix (.lc 0) (.kon (.int 2)))) (.seq (.setIx 0 (.kon (.int 2)) (.bin .fdiv (.lc 3) (.lc 1))) (.seq (.ret (.bin .mod (.bi .int (.cons (.lc 3) .nil)) (.lc 1))) .nil))) .nil) (.seq (.setIx 0 (.kon (.int 3)) (.bin .mod (.bi .int (.cons (.bin .add (.ix (.lc 0) (.kon (.int 3))) (.kon (.int 1))) .nil)) (.kon (.int 2147483629)))) (.seq (.ret (.bin .mod (.bi .int (.cons (.call 9 (.cons (.ix (.lc 0) (.kon (.int 3))) (.cons (.ix (.lc 0) (.kon (.int 1))) .nil))) .nil)) (.lc 1))) .nil)))⟩
def z11 : DefZ := { pl := .glo "_law_draw", name := "_law_draw", qual := "_law_draw", st := top 7 }
/-- _law_squares -/
def d12 : Df := ⟨1, 5, [true], [], .seq (.asg 1 (.lst .nil)) (.seq (.frl (.nm 2) (.rng (.cons (.ix (.lc 0) (.kon (.int 0))) (.cons (.bin .add (.ix (.lc 0) (.kon (.int 1))) (.kon (.int 1))) .nil))) (.seq (.frl (.nm 3) (.rng (.cons (.ix (.lc 0) (.kon (.int 2))) (.cons (.bin .add (.ix (.lc 0) (.kon (.int 2))) (.ix (.lc 0) (.kon (.int 4)))) .nil))) (.seq (.frl (.nm 4) (.rng (.cons (.ix (.lc 0) (.kon (.int 3))) (.cons (.bin .add (.ix (.lc 0) (.kon (.int 3))) (.ix (.lc 0) (.kon (.int 5)))) .nil))) (.seq (.app 1 (.tup (.cons (.lc 2) (.cons (.lc 3) (.cons (.lc 4) .nil))))) .nil)) .nil)) .nil)) (.seq (.ret (.lc 1)) .nil))⟩
def z12 : DefZ := { pl := .glo "_law_squares", name := "_law_squares", qual := "_law_squares", st := top 8 }
/-- _law_meets -/
def d13 : Df := ⟨2, 4, [true, true], [], .seq (.asg 2 (.dct0 true)) (.seq (.frl (.nm 3) (.seq none (.call 12 (.cons (.lc 1) .nil))) (.seq (.setIx 2 (.lc 3) (.kon (.bl true))) .nil)) (.seq (.ret (.cmp .ne (.comp [3] (.nm 3) (.seq none (.call 12 (.cons (.lc 0) .nil))) (.some (.cmp .inn (.lc 3) (.lc 2))) (.lc 3)) (.lst .nil))) .nil))⟩
def z13 : DefZ := { pl := .glo "_law_meets", name := "_law_meets", qual := "_law_meets", st := top 9 }
/-- _law_rests -/
def d14 : Df := ⟨2, 7, [true, true], [], .seq (.ife (.or (.cons (.cmp .lt (.ix (.lc 0) (.kon (.int 1))) (.ix (.lc 1) (.kon (.int 0)))) (.cons (.cmp .lt (.ix (.lc 1) (.kon (.int 1))) (.ix (.lc 0) (.kon (.int 0)))) (.cons (.call 13 (.cons (.lc 0) (.cons (.lc 1) .nil))) .nil)))) (.seq (.ret (.kon (.bl false))) .nil) .nil) (.seq (.asg 2 (.dct0 true)) (.seq (.frl (.nm 3) (.seq none (.call 12 (.cons (.lc 1) .nil))) (.seq (.setIx 2 (.lc 3) (.kon (.bl true))) .nil)) (.seq (.frl (.tp (.cons (.nm 4) (.cons (.nm 5) (.cons (.nm 6) .nil)))) (.seq none (.call 12 (.cons (.lc 0) .nil))) (.seq (.ife (.or (.cons (.cmp .inn (.tup (.cons (.lc 4) (.cons (.bin .sub (.lc 5) (.kon (.int 1))) (.cons (.lc 6) .nil)))) (.lc 2)) (.cons (.cmp .inn (.tup (.cons (.lc 4) (.cons (.lc 5) (.cons (.bin .sub (.lc 6) (.kon (.int 1))) .nil)))) (.lc 2)) .nil))) (.seq (.ret (.kon (.bl true))) .nil) .nil) .nil)) (.seq (.ret (.kon (.bl false))) .nil))))⟩
def z14 : DefZ := { pl := .glo "_law_rests", name := "_law_rests", qual := "_law_rests", st := top 10 }
/-- _law_boxed -/
def d15 : Df := ⟨1, 1, [true], [], .seq (.ret (.tup (.cons (.attr (.lc 0) 6) (.cons (.attr (.lc 0) 5) (.cons (.attr (.lc 0) 4) (.cons (.attr (.lc 0) 3) (.cons (.attr (.lc 0) 2) (.cons (.attr (.lc 0) 1) .nil)))))))) .nil⟩
def z15 : DefZ := { pl := .glo "_law_boxed", name := "_law_boxed", qual := "_law_boxed", st := top 11 }
/-- _law_box -/
def d16 : Df := ⟨2, 8, [true, true], [], .seq (.asg 2 (.call 11 (.cons (.lc 0) (.cons (.kon (.int 10)) .nil)))) (.seq (.par [3, 4] (.cons (.bin .add (.kon (.int 1)) (.call 11 (.cons (.lc 0) (.cons (.kon (.int 3)) .nil)))) (.cons (.bin .add (.kon (.int 1)) (.call 11 (.cons (.lc 0) (.cons (.kon (.int 3)) .nil)))) .nil))) (.seq (.asg 5 (.tup (.cons (.lc 2) (.cons (.bin .add (.lc 2) (.call 11 (.cons (.lc 0) (.cons (.kon (.int 3)) .nil)))) (.cons (.call 11 (.cons (.lc 0) (.cons (.kon (.int 6)) .nil))) (.cons (.call 11 (.cons (.lc 0) (.cons (.kon (.int 6)) .nil))) (.cons (.lc 3) (.cons (.lc 4) .nil)))))))) (.seq (.ife (.or (.cons (.cmp .eq (.lc 1) (.lst .nil)) (.cons (.cmp .eq (.call 11 (.cons (.lc 0) (.cons (.kon (.int 4)) .nil))) (.kon (.int 0))) .nil))) (.seq (.ret (.lc 5)) .nil) .nil) (.seq (.asg 6 (.ix (.lc 1) (.call 11 (.cons (.lc 0) (.cons (.bi .len (.cons (.lc 1) .nil)) .nil))))) (.seq (.asg 7 (.call 11 (.cons (.lc 0) (.cons (.kon (.int 7)) .nil)))) (.seq (.ife (.cmp .eq (.lc 7) (.kon (.int 0))) (.seq (.ret (.lc 6)) .nil) .nil) (.seq (.ife (.cmp .le (.lc 7) (.kon (.int 2))) (.seq (.ret (.tup (.cons (.ix (.lc 6) (.kon (.int 0))) (.cons (.ife (.cmp .ge (.ix (.lc 5) (.kon (.int 1))) (.ix (.lc 6) (.kon (.int 0)))) (.ix (.lc 5) (.kon (.int 1))) (.ix (.lc 6) (.kon (.int 1)))) (.cons (.bin .add (.ix (.lc 6) (.kon (.int 2))) (.ix (.lc 6) (.kon (.int 4)))) (.cons (.bi .max (.cons (.kon (.int 0)) (.cons (.bin .add (.bin .sub (.ix (.lc 6) (.kon (.int 3))) (.kon (.int 1))) (.lc 7)) .nil))) (.cons (.lc 3) (.cons (.lc 4) .nil)))))))) .nil) .nil) (.seq (.ife (.cmp .le (.lc 7) (.kon (.int 4))) (.seq (.ret (.tup (.cons (.ix (.lc 6) (.kon (.int 0))) (.cons (.ix (.lc 6) (.kon (.int 1))) (.cons (.bi .max (.cons (.kon (.int 0)) (.cons (.bin .add (.bin .sub (.ix (.lc 6) (.kon (.int 2))) (.kon (.int 3))) (.lc 7)) .nil))) (.cons (.bin .add (.ix (.lc 6) (.kon (.int 3))) (.ix (.lc 6) (.kon (.int 5)))) (.cons (.lc 3) (.cons (.lc 4) .nil)))))))) .nil) .nil) (.seq (.ife (.cmp .eq (.lc 7) (.kon (.int 5))) (.seq (.ret (.tup (.cons (.ix (.lc 6) (.kon (.int 0))) (.cons (.ix (.lc 6) (.kon (.int 1))) (.cons (.bin .add (.ix (.lc 6) (.kon (.int 2))) (.ix (.lc 6) (.kon (.int 4)))) (.cons (.bin .add (.ix (.lc 6) (.kon (.int 3))) (.ix (.lc 6) (.kon (.int 5)))) (.cons (.lc 3) (.cons (.lc 4) .nil)))))))) .nil) .nil) (.seq (.ret (.tup (.cons (.ix (.lc 6) (.kon (.int 1))) (.cons (.ix (.lc 6) (.kon (.int 1))) (.cons (.ix (.lc 6) (.kon (.int 2))) (.cons (.ix (.lc 6) (.kon (.int 3))) (.cons (.lc 3) (.cons (.lc 4) .nil)))))))) .nil))))))))))⟩
def z16 : DefZ := { pl := .glo "_law_box", name := "_law_box", qual := "_law_box", st := top 12 }
/-- _law_kept -/
def d17 : Df := ⟨1, 1, [true], [], .seq (.ret (.mk 0 (.cons (.ix (.lc 0) (.kon (.int 0))) (.cons (.ix (.lc 0) (.kon (.int 1))) (.cons (.ix (.lc 0) (.kon (.int 2))) (.cons (.ix (.lc 0) (.kon (.int 3))) (.cons (.ix (.lc 0) (.kon (.int 4))) (.cons (.ix (.lc 0) (.kon (.int 5))) .nil)))))))) .nil⟩
def z17 : DefZ := { pl := .glo "_law_kept", name := "_law_kept", qual := "_law_kept", st := top 13 }
/-- _law_alone -/
def d18 : Df := ⟨2, 9, [true, true], [], .seq (.asg 2 (.call 17 (.cons (.lc 1) .nil))) (.seq (.asg 3 (.call 12 (.cons (.lc 1) .nil))) (.seq (.ife (.or (.cons (.cmp .ne (.call 15 (.cons (.lc 2) .nil)) (.lc 1)) (.cons (.cmp .ne (.attr (.lc 2) 9) (.bi .tuple (.cons (.lc 3) .nil))) (.cons (.cmp .ne (.bi .len (.cons (.lc 2) .nil)) (.bi .len (.cons (.lc 3) .nil))) .nil)))) (.seq (.ret (.kon (.bl false))) .nil) .nil) (.seq (.frl (.nm 4) (.rng (.cons (.kon (.int 3)) .nil)) (.seq (.asg 5 (.ix (.lc 3) (.call 11 (.cons (.lc 0) (.cons (.bi .len (.cons (.lc 3) .nil)) .nil))))) (.seq (.ife (.cmp .notin (.lc 5) (.lc 2)) (.seq (.ret (.kon (.bl false))) .nil) .nil) (.seq (.asg 6 (.tup (.cons (.bin .sub (.bin .add (.ix (.lc 5) (.kon (.int 0))) (.call 11 (.cons (.lc 0) (.cons (.kon (.int 3)) .nil)))) (.kon (.int 1))) (.cons (.bin .sub (.bin .add (.ix (.lc 5) (.kon (.int 1))) (.call 11 (.cons (.lc 0) (.cons (.kon (.int 4)) .nil)))) (.kon (.int 1))) (.cons (.bin .sub (.bin .add (.ix (.lc 5) (.kon (.int 2))) (.call 11 (.cons (.lc 0) (.cons (.kon (.int 4)) .nil)))) (.kon (.int 1))) .nil))))) (.seq (.ife (.cmp .ne (.cmp .inn (.lc 6) (.lc 2)) (.cmp .inn (.lc 6) (.lc 3))) (.seq (.ret (.kon (.bl false))) .nil) .nil) .nil))))) (.seq (.asg 7 (.bi .list (.cons (.lc 1) .nil))) (.seq (.asg 8 (.call 11 (.cons (.lc 0) (.cons (.kon (.int 6)) .nil)))) (.seq (.setIx 7 (.lc 8) (.bin .add (.ix (.lc 7) (.lc 8)) (.kon (.int 1)))) (.seq (.setIx 7 (.kon (.int 1)) (.bi .max (.cons (.ix (.lc 7) (.kon (.int 0))) (.cons (.ix (.lc 7) (.kon (.int 1))) .nil)))) (.seq (.ife (.or (.cons (.cmp .eq (.lc 2) (.call 17 (.cons (.lc 7) .nil))) (.cons (.not (.cmp .eq (.lc 2) (.call 17 (.cons (.lc 1) .nil)))) (.cons (.cmp .eq (.lc 2) (.lc 1)) (.cons (.cmp .eq (.lc 2) (.lc 3)) .nil))))) (.seq (.ret (.kon (.bl false))) .nil) .nil) (.seq (.ret (.and (.cons (.cmp .eq (.attr (.lc 2) 9) (.bi .tuple (.cons (.lc 3) .nil))) (.cons (.cmp .eq (.call 15 (.cons (.lc 2) .nil)) (.lc 1)) .nil)))) .nil)))))))))⟩
def z18 : DefZ := { pl := .glo "_law_alone", name := "_law_alone", qual := "_law_alone", st := top 14 }
/-- law -/
def d19 : Df := ⟨1, 11, [false], [], .seq (.asg 1 (.call 10 (.cons (.lc 0) .nil))) (.seq (.asg 2 (.ife (.cmp .eq (.call 11 (.cons (.lc 1) (.cons (.kon (.int 8)) .nil))) (.kon (.int 0))) (.kon (.int 12)) (.call 11 (.cons (.lc 1) (.cons (.kon (.int 7)) .nil))))) (.seq (.asg 3 (.lst .nil)) (.seq (.frl (.nm 4) (.rng (.cons (.lc 2) .nil)) (.seq (.app 3 (.call 16 (.cons (.lc 1) (.cons (.lc 3) .nil)))) .nil)) (.seq (.asg 5 (.comp [6] (.nm 6) (.seq (some 3) (.lc 3)) .none (.call 17 (.cons (.lc 6) .nil)))) (.seq (.frl (.nm 6) (.seq none (.sl (.lc 3) .none (.some (.kon (.int 4))))) (.seq (.ife (.not (.call 18 (.cons (.lc 1) (.cons (.lc 6) .nil)))) (.seq (.ret (.kon (.bl false))) .nil) .nil) .nil)) (.seq (.asg 7 (.lst .nil)) (.seq (.frl (.nm 4) (.rng (.cons (.lc 2) .nil)) (.seq (.asg 8 (.lst .nil)) (.seq (.frl (.nm 9) (.rng (.cons (.lc 2) .nil)) (.seq (.ife (.cmp .ne (.meth (.ix (.lc 5) (.lc 4)) 8 (.cons (.ix (.lc 5) (.lc 9)) .nil)) (.call 13 (.cons (.ix (.lc 3) (.lc 4)) (.cons (.ix (.lc 3) (.lc 9)) .nil)))) (.seq (.ret (.kon (.bl false))) .nil) .nil) (.seq (.ife (.cmp .ne (.meth (.ix (.lc 5) (.lc 4)) 0 (.cons (.ix (.lc 5) (.lc 9)) .nil)) (.call 14 (.cons (.ix (.lc 3) (.lc 4)) (.cons (.ix (.lc 3) (.lc 9)) .nil)))) (.seq (.ret (.kon (.bl false))) .nil) .nil) (.seq (.ife (.and (.cons (.cmp .lt (.lc 9) (.lc 4)) (.cons (.call 14 (.cons (.ix (.lc 3) (.lc 4)) (.cons (.ix (.lc 3) (.lc 9)) .nil))) .nil))) (.seq (.app 8 (.lc 9)) .nil) .nil) .nil)))) (.seq (.app 7 (.bi .tuple (.cons (.lc 8) .nil))) .nil)))) (.seq (.ife (.or (.cons (.cmp .ne (.call 0 (.cons (.lc 5) .nil)) (.bi .tuple (.cons (.lc 7) .nil))) (.cons (.cmp .ne (.call 0 (.cons (.bi .tuple (.cons (.sl (.lc 5) .none (.some (.kon (.int 2)))) .nil)) .nil)) (.bi .tuple (.cons (.sl (.lc 7) .none (.some (.kon (.int 2)))) .nil))) (.cons (.cmp .ne (.call 0 (.cons (.lst .nil) .nil)) (.tup .nil)) .nil)))) (.seq (.ret (.kon (.bl false))) .nil) .nil) (.seq (.ret (.cmp .eq (.comp [10] (.nm 10) (.seq (some 5) (.lc 5)) .none (.call 15 (.cons (.lc 10) .nil))) (.lc 3))) .nil)))))))))⟩
def z19 : DefZ := { pl := .glo "law", name := "law", qual := "law", st := top 15 }
def pr : Pr := { defs := [d0, d1, d2, d3, d4, d5, d6, d7, d8, d9, d10, d11, d12, d13, d14, d15, d16, d17, d18, d19], meth := [(0, 7, 3), (0, 8, 4), (0, 0, 5), (0, 10, 6), (0, 11, 7), (0, 12, 8)], prop := [(0, 9, 2)], init := [(0, 1)], flds := [(0, [6, 5, 4, 3, 2, 1])], gks := [], wf := 2000000, dun := [(0, .contains, 6), (0, .len, 7), (0, .eq, 8)], isi := [((.int, .own 0), false), ((.bl, .own 0), false), ((.str, .own 0), false), ((.non, .own 0), false), ((.tup, .own 0), false), ((.lst, .own 0), false), ((.dct, .own 0), false), ((.own 0, .own 0), true)], ic := [0] }
def tab : Tab := { defs := [("rest_table", 0), ("_law_mix", 9), ("_law_hand", 10), ("_law_draw", 11), ("_law_squares", 12), ("_law_meets", 13), ("_law_rests", 14), ("_law_boxed", 15), ("_law_box", 16), ("_law_kept", 17), ("_law_alone", 18), ("law", 19)], clss := [("Box", 0)], gks := [], blts := ["abs", "enumerate", "int", "isinstance", "len", "list", "max", "range", "tuple"], nm := ["rests_on", "downs", "outs", "y", "x", "last", "first", "moved", "meets", "squares", "__contains__", "__len__", "__eq__"] }
def sp : Dat := { p := pr, T := tab, fn := [z0, z1, z2, z3, z4, z5, z6, z7, z8, z9, z10, z11, z12, z13, z14, z15, z16, z17, z18, z19], cn := ["Box"] }
theorem is0 : Is tab d0 z0.st ["boxes", "found", "k", "box", "on"] ["boxes"] := ⟨⟨rfl, rfl, rfl, by decide +kernel, rfl, by decide +kernel, by decide +kernel⟩, rfl, rfl, rfl, by decide +kernel⟩
theorem bn0 (kV doc pm : Value) (an : Option Addr) (cdv ct : Value) (us : List Value) (hl : us.length = (["boxes"] : List Str).length) : bindArgs (PySem.W.fnOf z0.name z0.qual (defArgs z0.st) (defBody z0.st) (defScope z0.st) .none kV doc pm an cdv ct) ⟨us, []⟩ = pure ((["boxes"] : List Str).zip us) := match us, hl with | [_], _ => rfl
theorem is1 : Is tab d1 z1.st ["self", "first", "last", "x", "y", "outs", "downs"] ["self", "first", "last", "x", "y", "outs", "downs"] := ⟨⟨rfl, rfl, rfl, by decide +kernel, rfl, by decide +kernel, by decide +kernel⟩, rfl, rfl, rfl, by decide +kernel⟩
theorem bn1 (kV doc pm : Value) (an : Option Addr) (cdv ct : Value) (us : List Value) (hl : us.length = (["self", "first", "last", "x", "y", "outs", "downs"] : List Str).length) : bindArgs (PySem.W.fnOf z1.name z1.qual (defArgs z1.st) (defBody z1.st) (defScope z1.st) .none kV doc pm an cdv ct) ⟨us, []⟩ = pure ((["self", "first", "last", "x", "y", "outs", "downs"] : List Str).zip us) := match us, hl with | [_, _, _, _, _, _, _], _ => rfl
theorem is2 : Is tab d2 z2.st ["self", "found", "c", "u", "v"] ["self"] := ⟨⟨rfl, rfl, rfl, by decide +kernel, rfl, by decide +kernel, by decide +kernel⟩, rfl, rfl, rfl, by decide +kernel⟩
theorem bn2 (kV doc pm : Value) (an : Option Addr) (cdv ct : Value) (us : List Value) (hl : us.length = (["self"] : List Str).length) : bindArgs (PySem.W.fnOf z2.name z2.qual (defArgs z2.st) (defBody z2.st) (defScope z2.st) .none kV doc pm an cdv ct) ⟨us, []⟩ = pure ((["self"] : List Str).zip us) := match us, hl with | [_], _ => rfl
theorem is3 : Is tab d3 z3.st ["self", "right", "up"] ["self", "right", "up"] := ⟨⟨rfl, rfl, rfl, by decide +kernel, rfl, by decide +kernel, by decide +kernel⟩, rfl, rfl, rfl, by decide +kernel⟩
theorem bn3 (kV doc pm : Value) (an : Option Addr) (cdv ct : Value) (us : List Value) (hl : us.length = (["self", "right", "up"] : List Str).length) : bindArgs (PySem.W.fnOf z3.name z3.qual (defArgs z3.st) (defBody z3.st) (defScope z3.st) .none kV doc pm an cdv ct) ⟨us, []⟩ = pure ((["self", "right", "up"] : List Str).zip us) := match us, hl with | [_, _, _], _ => rfl
theorem is4 : Is tab d4 z4.st ["self", "other", "beside", "across", "upright"] ["self", "other"] := ⟨⟨rfl, rfl, rfl, by decide +kernel, rfl, by decide +kernel, by decide +kernel⟩, rfl, rfl, rfl, by decide +kernel⟩
theorem bn4 (kV doc pm : Value) (an : Option Addr) (cdv ct : Value) (us : List Value) (hl : us.length = (["self", "other"] : List Str).length) : bindArgs (PySem.W.fnOf z4.name z4.qual (defArgs z4.st) (defBody z4.st) (defScope z4.st) .none kV doc pm an cdv ct) ⟨us, []⟩ = pure ((["self", "other"] : List Str).zip us) := match us, hl with | [_, _], _ => rfl
theorem is5 : Is tab d5 z5.st ["self", "other"] ["self", "other"] := ⟨⟨rfl, rfl, rfl, by decide +kernel, rfl, by decide +kernel, by decide +kernel⟩, rfl, rfl, rfl, by decide +kernel⟩
theorem bn5 (kV doc pm : Value) (an : Option Addr) (cdv ct : Value) (us : List Value) (hl : us.length = (["self", "other"] : List Str).length) : bindArgs (PySem.W.fnOf z5.name z5.qual (defArgs z5.st) (defBody z5.st) (defScope z5.st) .none kV doc pm an cdv ct) ⟨us, []⟩ = pure ((["self", "other"] : List Str).zip us) := match us, hl with | [_, _], _ => rfl
theorem is6 : Is tab d6 z6.st ["self", "square"] ["self", "square"] := ⟨⟨rfl, rfl, rfl, by decide +kernel, rfl, by decide +kernel, by decide +kernel⟩, rfl, rfl, rfl, by decide +kernel⟩
theorem bn6 (kV doc pm : Value) (an : Option Addr) (cdv ct : Value) (us : List Value) (hl : us.length = (["self", "square"] : List Str).length) : bindArgs (PySem.W.fnOf z6.name z6.qual (defArgs z6.st) (defBody z6.st) (defScope z6.st) .none kV doc pm an cdv ct) ⟨us, []⟩ = pure ((["self", "square"] : List Str).zip us) := match us, hl with | [_, _], _ => rfl
theorem is7 : Is tab d7 z7.st ["self"] ["self"] := ⟨⟨rfl, rfl, rfl, by decide +kernel, rfl, by decide +kernel, by decide +kernel⟩, rfl, rfl, rfl, by decide +kernel⟩
theorem bn7 (kV doc pm : Value) (an : Option Addr) (cdv ct : Value) (us : List Value) (hl : us.length = (["self"] : List Str).length) : bindArgs (PySem.W.fnOf z7.name z7.qual (defArgs z7.st) (defBody z7.st) (defScope z7.st) .none kV doc pm an cdv ct) ⟨us, []⟩ = pure ((["self"] : List Str).zip us) := match us, hl with | [_], _ => rfl
theorem is8 : Is tab d8 z8.st ["self", "other"] ["self", "other"] := ⟨⟨rfl, rfl, rfl, by decide +kernel, rfl, by decide +kernel, by decide +kernel⟩, rfl, rfl, rfl, by decide +kernel⟩
theorem bn8 (kV doc pm : Value) (an : Option Addr) (cdv ct : Value) (us : List Value) (hl : us.length = (["self", "other"] : List Str).length) : bindArgs (PySem.W.fnOf z8.name z8.qual (defArgs z8.st) (defBody z8.st) (defScope z8.st) .none kV doc pm an cdv ct) ⟨us, []⟩ = pure ((["self", "other"] : List Str).zip us) := match us, hl with | [_, _], _ => rfl
theorem is9 : Is tab d9 z9.st ["_law_number", "_law_turn", "_law_once", "_law_twice"] ["_law_number", "_law_turn"] := ⟨⟨rfl, rfl, rfl, by decide +kernel, rfl, by decide +kernel, by decide +kernel⟩, rfl, rfl, rfl, by decide +kernel⟩
theorem bn9 (kV doc pm : Value) (an : Option Addr) (cdv ct : Value) (us : List Value) (hl : us.length = (["_law_number", "_law_turn"] : List Str).length) : bindArgs (PySem.W.fnOf z9.name z9.qual (defArgs z9.st) (defBody z9.st) (defScope z9.st) .none kV doc pm an cdv ct) ⟨us, []⟩ = pure ((["_law_number", "_law_turn"] : List Str).zip us) := match us, hl with | [_, _], _ => rfl
theorem is10 : Is tab d10 z10.st ["_law_script", "_law_total", "_law_k", "_law_cell"] ["_law_script"] := ⟨⟨rfl, rfl, rfl, by decide +kernel, rfl, by decide +kernel, by decide +kernel⟩, rfl, rfl, rfl, by decide +kernel⟩
theorem bn10 (kV doc pm : Value) (an : Option Addr) (cdv ct : Value) (us : List Value) (hl : us.length = (["_law_script"] : List Str).length) : bindArgs (PySem.W.fnOf z10.name z10.qual (defArgs z10.st) (defBody z10.st) (defScope z10.st) .none kV doc pm an cdv ct) ⟨us, []⟩ = pure ((["_law_script"] : List Str).zip us) := match us, hl with | [_], _ => rfl
theorem is11 : Is tab d11 z11.st ["_law_hand_here", "_law_many", "_law_cell", "_law_rest"] ["_law_hand_here", "_law_many"] := ⟨⟨rfl, rfl, rfl, by decide +kernel, rfl, by decide +kernel, by decide +kernel⟩, rfl, rfl, rfl, by decide +kernel⟩
theorem bn11 (kV doc pm : Value) (an : Option Addr) (cdv ct : Value) (us : List Value) (hl : us.length = (["_law_hand_here", "_law_many"] : List Str).length) : bindArgs (PySem.W.fnOf z11.name z11.qual (defArgs z11.st) (defBody z11.st) (defScope z11.st) .none kV doc pm an cdv ct) ⟨us, []⟩ = pure ((["_law_hand_here", "_law_many"] : List Str).zip us) := match us, hl with | [_, _], _ => rfl
theorem is12 : Is tab d12 z12.st ["_law_box_here", "_law_told", "_law_c", "_law_u", "_law_v"] ["_law_box_here"] := ⟨⟨rfl, rfl, rfl, by decide +kernel, rfl, by decide +kernel, by decide +kernel⟩, rfl, rfl, rfl, by decide +kernel⟩
theorem bn12 (kV doc pm : Value) (an : Option Addr) (cdv ct : Value) (us : List Value) (hl : us.length = (["_law_box_here"] : List Str).length) : bindArgs (PySem.W.fnOf z12.name z12.qual (defArgs z12.st) (defBody z12.st) (defScope z12.st) .none kV doc pm an cdv ct) ⟨us, []⟩ = pure ((["_law_box_here"] : List Str).zip us) := match us, hl with | [_], _ => rfl
theorem is13 : Is tab d13 z13.st ["_law_one", "_law_other", "_law_held", "_law_square"] ["_law_one", "_law_other"] := ⟨⟨rfl, rfl, rfl, by decide +kernel, rfl, by decide +kernel, by decide +kernel⟩, rfl, rfl, rfl, by decide +kernel⟩
theorem bn13 (kV doc pm : Value) (an : Option Addr) (cdv ct : Value) (us : List Value) (hl : us.length = (["_law_one", "_law_other"] : List Str).length) : bindArgs (PySem.W.fnOf z13.name z13.qual (defArgs z13.st) (defBody z13.st) (defScope z13.st) .none kV doc pm an cdv ct) ⟨us, []⟩ = pure ((["_law_one", "_law_other"] : List Str).zip us) := match us, hl with | [_, _], _ => rfl
theorem is14 : Is tab d14 z14.st ["_law_one", "_law_other", "_law_held", "_law_square", "_law_c", "_law_u", "_law_v"] ["_law_one", "_law_other"] := ⟨⟨rfl, rfl, rfl, by decide +kernel, rfl, by decide +kernel, by decide +kernel⟩, rfl, rfl, rfl, by decide +kernel⟩
theorem bn14 (kV doc pm : Value) (an : Option Addr) (cdv ct : Value) (us : List Value) (hl : us.length = (["_law_one", "_law_other"] : List Str).length) : bindArgs (PySem.W.fnOf z14.name z14.qual (defArgs z14.st) (defBody z14.st) (defScope z14.st) .none kV doc pm an cdv ct) ⟨us, []⟩ = pure ((["_law_one", "_law_other"] : List Str).zip us) := match us, hl with | [_, _], _ => rfl
theorem is15 : Is tab d15 z15.st ["_law_box_here"] ["_law_box_here"] := ⟨⟨rfl, rfl, rfl, by decide +kernel, rfl, by decide +kernel, by decide +kernel⟩, rfl, rfl, rfl, by decide +kernel⟩
theorem bn15 (kV doc pm : Value) (an : Option Addr) (cdv ct : Value) (us : List Value) (hl : us.length = (["_law_box_here"] : List Str).length) : bindArgs (PySem.W.fnOf z15.name z15.qual (defArgs z15.st) (defBody z15.st) (defScope z15.st) .none kV doc pm an cdv ct) ⟨us, []⟩ = pure ((["_law_box_here"] : List Str).zip us) := match us, hl with | [_], _ => rfl
theorem is16 : Is tab d16 z16.st ["_law_hand_here", "_law_boxes", "_law_first", "_law_wide", "_law_high", "_law_box_here", "_law_other", "_law_way"] ["_law_hand_here", "_law_boxes"] := ⟨⟨rfl, rfl, rfl, by decide +kernel, rfl, by decide +kernel, by decide +kernel⟩, rfl, rfl, rfl, by decide +kernel⟩
theorem bn16 (kV doc pm : Value) (an : Option Addr) (cdv ct : Value) (us : List Value) (hl : us.length = (["_law_hand_here", "_law_boxes"] : List Str).length) : bindArgs (PySem.W.fnOf z16.name z16.qual (defArgs z16.st) (defBody z16.st) (defScope z16.st) .none kV doc pm an cdv ct) ⟨us, []⟩ = pure ((["_law_hand_here", "_law_boxes"] : List Str).zip us) := match us, hl with | [_, _], _ => rfl
theorem is17 : Is tab d17 z17.st ["_law_row"] ["_law_row"] := ⟨⟨rfl, rfl, rfl, by decide +kernel, rfl, by decide +kernel, by decide +kernel⟩, rfl, rfl, rfl, by decide +kernel⟩
theorem bn17 (kV doc pm : Value) (an : Option Addr) (cdv ct : Value) (us : List Value) (hl : us.length = (["_law_row"] : List Str).length) : bindArgs (PySem.W.fnOf z17.name z17.qual (defArgs z17.st) (defBody z17.st) (defScope z17.st) .none kV doc pm an cdv ct) ⟨us, []⟩ = pure ((["_law_row"] : List Str).zip us) := match us, hl with | [_], _ => rfl
theorem is18 : Is tab d18 z18.st ["_law_hand_here", "_law_row", "_law_box_here", "_law_due", "_law_k", "_law_square", "_law_near", "_law_other", "_law_place"] ["_law_hand_here", "_law_row"] := ⟨⟨rfl, rfl, rfl, by decide +kernel, rfl, by decide +kernel, by decide +kernel⟩, rfl, rfl, rfl, by decide +kernel⟩
theorem bn18 (kV doc pm : Value) (an : Option Addr) (cdv ct : Value) (us : List Value) (hl : us.length = (["_law_hand_here", "_law_row"] : List Str).length) : bindArgs (PySem.W.fnOf z18.name z18.qual (defArgs z18.st) (defBody z18.st) (defScope z18.st) .none kV doc pm an cdv ct) ⟨us, []⟩ = pure ((["_law_hand_here", "_law_row"] : List Str).zip us) := match us, hl with | [_, _], _ => rfl
theorem is19 : Is tab d19 z19.st ["_law_script", "_law_hand_here", "_law_many", "_law_rows", "_law_k", "_law_boxes", "_law_row", "_law_due", "_law_found", "_law_on", "_law_box_here"] ["_law_script"] := ⟨⟨rfl, rfl, rfl, by decide +kernel, rfl, by decide +kernel, by decide +kernel⟩, rfl, rfl, rfl, by decide +kernel⟩
theorem bn19 (kV doc pm : Value) (an : Option Addr) (cdv ct : Value) (us : List Value) (hl : us.length = (["_law_script"] : List Str).length) : bindArgs (PySem.W.fnOf z19.name z19.qual (defArgs z19.st) (defBody z19.st) (defScope z19.st) .none kV doc pm an cdv ct) ⟨us, []⟩ = pure ((["_law_script"] : List Str).zip us) := match us, hl with | [_], _ => rfl
@[simp] theorem mo0 (n : Nat) : (pr.ct n).modes 0 = [true] := by cases n <;> rfl
@[simp] theorem df0 (n : Nat) : (pr.ct n).dfs 0 = [] := by cases n <;> rfl
theorem ru0 (n : Nat) (os : List O) : (pr.ct (n + 1)).run 0 os = runD (pr.ct n) d0 os := run_eq rfl os
@[simp] theorem mo1 (n : Nat) : (pr.ct n).modes 1 = [true, true, true, true, true, true, true] := by cases n <;> rfl
@[simp] theorem df1 (n : Nat) : (pr.ct n).dfs 1 = [] := by cases n <;> rfl
theorem ru1 (n : Nat) (os : List O) : (pr.ct (n + 1)).run 1 os = runD (pr.ct n) d1 os := run_eq rfl os
@[simp] theorem mo2 (n : Nat) : (pr.ct n).modes 2 = [true] := by cases n <;> rfl
@[simp] theorem df2 (n : Nat) : (pr.ct n).dfs 2 = [] := by cases n <;> rfl
theorem ru2 (n : Nat) (os : List O) : (pr.ct (n + 1)).run 2 os = runD (pr.ct n) d2 os := run_eq rfl os
@[simp] theorem mo3 (n : Nat) : (pr.ct n).modes 3 = [true, true, true] := by cases n <;> rfl
@[simp] theorem df3 (n : Nat) : (pr.ct n).dfs 3 = [] := by cases n <;> rfl
theorem ru3 (n : Nat) (os : List O) : (pr.ct (n + 1)).run 3 os = runD (pr.ct n) d3 os := run_eq rfl os
@[simp] theorem mo4 (n : Nat) : (pr.ct n).modes 4 = [true, true] := by cases n <;> rfl
@[simp] theorem df4 (n : Nat) : (pr.ct n).dfs 4 = [] := by cases n <;> rfl
theorem ru4 (n : Nat) (os : List O) : (pr.ct (n + 1)).run 4 os = runD (pr.ct n) d4 os := run_eq rfl os
@[simp] theorem mo5 (n : Nat) : (pr.ct n).modes 5 = [true, true] := by cases n <;> rfl
@[simp] theorem df5 (n : Nat) : (pr.ct n).dfs 5 = [] := by cases n <;> rfl
theorem ru5 (n : Nat) (os : List O) : (pr.ct (n + 1)).run 5 os = runD (pr.ct n) d5 os := run_eq rfl os
@[simp] theorem mo6 (n : Nat) : (pr.ct n).modes 6 = [true, true] := by cases n <;> rfl
@[simp] theorem df6 (n : Nat) : (pr.ct n).dfs 6 = [] := by cases n <;> rfl
theorem ru6 (n : Nat) (os : List O) : (pr.ct (n + 1)).run 6 os = runD (pr.ct n) d6 os := run_eq rfl os
@[simp] theorem mo7 (n : Nat) : (pr.ct n).modes 7 = [true] := by cases n <;> rfl
@[simp] theorem df7 (n : Nat) : (pr.ct n).dfs 7 = [] := by cases n <;> rfl
theorem ru7 (n : Nat) (os : List O) : (pr.ct (n + 1)).run 7 os = runD (pr.ct n) d7 os := run_eq rfl os
@[simp] theorem mo8 (n : Nat) : (pr.ct n).modes 8 = [true, true] := by cases n <;> rfl
@[simp] theorem df8 (n : Nat) : (pr.ct n).dfs 8 = [] := by cases n <;> rfl
theorem ru8 (n : Nat) (os : List O) : (pr.ct (n + 1)).run 8 os = runD (pr.ct n) d8 os := run_eq rfl os
@[simp] theorem mo9 (n : Nat) : (pr.ct n).modes 9 = [true, true] := by cases n <;> rfl
@[simp] theorem df9 (n : Nat) : (pr.ct n).dfs 9 = [] := by cases n <;> rfl
theorem ru9 (n : Nat) (os : List O) : (pr.ct (n + 1)).run 9 os = runD (pr.ct n) d9 os := run_eq rfl os
@[simp] theorem mo10 (n : Nat) : (pr.ct n).modes 10 = [true] := by cases n <;> rfl
@[simp] theorem df10 (n : Nat) : (pr.ct n).dfs 10 = [] := by cases n <;> rfl
theorem ru10 (n : Nat) (os : List O) : (pr.ct (n + 1)).run 10 os = runD (pr.ct n) d10 os := run_eq rfl os
@[simp] theorem mo11 (n : Nat) : (pr.ct n).modes 11 = [true, true] := by cases n <;> rfl
@[simp] theorem df11 (n : Nat) : (pr.ct n).dfs 11 = [] := by cases n <;> rfl
theorem ru11 (n : Nat) (os : List O) : (pr.ct (n + 1)).run 11 os = runD (pr.ct n) d11 os := run_eq rfl os
@[simp] theorem mo12 (n : Nat) : (pr.ct n).modes 12 = [true] := by cases n <;> rfl
@[simp] theorem df12 (n : Nat) : (pr.ct n).dfs 12 = [] := by cases n <;> rfl
theorem ru12 (n : Nat) (os : List O) : (pr.ct (n + 1)).run 12 os = runD (pr.ct n) d12 os := run_eq rfl os
@[simp] theorem mo13 (n : Nat) : (pr.ct n).modes 13 = [true, true] := by cases n <;> rfl
@[simp] theorem df13 (n : Nat) : (pr.ct n).dfs 13 = [] := by cases n <;> rfl
theorem ru13 (n : Nat) (os : List O) : (pr.ct (n + 1)).run 13 os = runD (pr.ct n) d13 os := run_eq rfl os
@[simp] theorem mo14 (n : Nat) : (pr.ct n).modes 14 = [true, true] := by cases n <;> rfl
@[simp] theorem df14 (n : Nat) : (pr.ct n).dfs 14 = [] := by cases n <;> rfl
theorem ru14 (n : Nat) (os : List O) : (pr.ct (n + 1)).run 14 os = runD (pr.ct n) d14 os := run_eq rfl os
@[simp] theorem mo15 (n : Nat) : (pr.ct n).modes 15 = [true] := by cases n <;> rfl
@[simp] theorem df15 (n : Nat) : (pr.ct n).dfs 15 = [] := by cases n <;> rfl
theorem ru15 (n : Nat) (os : List O) : (pr.ct (n + 1)).run 15 os = runD (pr.ct n) d15 os := run_eq rfl os
@[simp] theorem mo16 (n : Nat) : (pr.ct n).modes 16 = [true, true] := by cases n <;> rfl
@[simp] theorem df16 (n : Nat) : (pr.ct n).dfs 16 = [] := by cases n <;> rfl
theorem ru16 (n : Nat) (os : List O) : (pr.ct (n + 1)).run 16 os = runD (pr.ct n) d16 os := run_eq rfl os
@[simp] theorem mo17 (n : Nat) : (pr.ct n).modes 17 = [true] := by cases n <;> rfl
@[simp] theorem df17 (n : Nat) : (pr.ct n).dfs 17 = [] := by cases n <;> rfl
theorem ru17 (n : Nat) (os : List O) : (pr.ct (n + 1)).run 17 os = runD (pr.ct n) d17 os := run_eq rfl os
@[simp] theorem mo18 (n : Nat) : (pr.ct n).modes 18 = [true, true] := by cases n <;> rfl
@[simp] theorem df18 (n : Nat) : (pr.ct n).dfs 18 = [] := by cases n <;> rfl
theorem ru18 (n : Nat) (os : List O) : (pr.ct (n + 1)).run 18 os = runD (pr.ct n) d18 os := run_eq rfl os
@[simp] theorem mo19 (n : Nat) : (pr.ct n).modes 19 = [false] := by cases n <;> rfl
@[simp] theorem df19 (n : Nat) : (pr.ct n).dfs 19 = [] := by cases n <;> rfl
theorem ru19 (n : Nat) (os : List O) : (pr.ct (n + 1)).run 19 os = runD (pr.ct n) d19 os := run_eq rfl os
@[simp] theorem me0_7 (n : Nat) : (pr.ct n).meth 0 7 = some 3 := by cases n <;> rfl
@[simp] theorem me0_8 (n : Nat) : (pr.ct n).meth 0 8 = some 4 := by cases n <;> rfl
@[simp] theorem me0_0 (n : Nat) : (pr.ct n).meth 0 0 = some 5 := by cases n <;> rfl
@[simp] theorem me0_10 (n : Nat) : (pr.ct n).meth 0 10 = some 6 := by cases n <;> rfl
@[simp] theorem me0_11 (n : Nat) : (pr.ct n).meth 0 11 = some 7 := by cases n <;> rfl
@[simp] theorem me0_12 (n : Nat) : (pr.ct n).meth 0 12 = some 8 := by cases n <;> rfl
@[simp] theorem po0_9 (n : Nat) : (pr.ct n).prop 0 9 = some 2 := by cases n <;> rfl
@[simp] theorem fl0 (n : Nat) : (pr.ct n).flds 0 = [6, 5, 4, 3, 2, 1] := by cases n <;> rfl
@[simp] theorem pn0_6 (n : Nat) : (pr.ct n).prop 0 6 = none := by cases n <;> rfl
@[simp] theorem pn0_5 (n : Nat) : (pr.ct n).prop 0 5 = none := by cases n <;> rfl
@[simp] theorem pn0_4 (n : Nat) : (pr.ct n).prop 0 4 = none := by cases n <;> rfl
@[simp] theorem pn0_3 (n : Nat) : (pr.ct n).prop 0 3 = none := by cases n <;> rfl
@[simp] theorem pn0_2 (n : Nat) : (pr.ct n).prop 0 2 = none := by cases n <;> rfl
@[simp] theorem pn0_1 (n : Nat) : (pr.ct n).prop 0 1 = none := by cases n <;> rfl
@[simp] theorem in0 (n : Nat) : (pr.ct n).init 0 = some 1 := by cases n <;> rfl
@[simp] theorem du0_contains (n : Nat) : (pr.ct n).dun 0 .contains = some 6 := by cases n <;> rfl
@[simp] theorem du0_len (n : Nat) : (pr.ct n).dun 0 .len = some 7 := by cases n <;> rfl
@[simp] theorem du0_eq (n : Nat) : (pr.ct n).dun 0 .eq = some 8 := by cases n <;> rfl
@[simp] theorem ic0 (n : Nat) : (pr.ct n).ic 0 = true := by cases n <;> rfl
@[simp] theorem isi0 (n : Nat) : (pr.ct n).isi (.int) (.own 0) = some false := by cases n <;> rfl
@[simp] theorem isi1 (n : Nat) : (pr.ct n).isi (.bl) (.own 0) = some false := by cases n <;> rfl
@[simp] theorem isi2 (n : Nat) : (pr.ct n).isi (.str) (.own 0) = some false := by cases n <;> rfl
@[simp] theorem isi3 (n : Nat) : (pr.ct n).isi (.non) (.own 0) = some false := by cases n <;> rfl
@[simp] theorem isi4 (n : Nat) : (pr.ct n).isi (.tup) (.own 0) = some false := by cases n <;> rfl
@[simp] theorem isi5 (n : Nat) : (pr.ct n).isi (.lst) (.own 0) = some false := by cases n <;> rfl
@[simp] theorem isi6 (n : Nat) : (pr.ct n).isi (.dct) (.own 0) = some false := by cases n <;> rfl
@[simp] theorem isi7 (n : Nat) : (pr.ct n).isi (.own 0) (.own 0) = some true := by cases n <;> rfl
theorem sp_ok : sp.ok = true := by decide +kernel
theorem all_defs : ∀ (f : Nat) (d : Df) (z : DefZ), sp.p.defs[f]? = some d → sp.fn[f]? = some z → sp.Def d z
  | 0, _, _, rfl, rfl => def_plain is0 rfl rfl bn0
  | 1, _, _, rfl, rfl => def_plain is1 rfl rfl bn1
  | 2, _, _, rfl, rfl => def_plain is2 rfl rfl bn2
  | 3, _, _, rfl, rfl => def_plain is3 rfl rfl bn3
  | 4, _, _, rfl, rfl => def_plain is4 rfl rfl bn4
  | 5, _, _, rfl, rfl => def_plain is5 rfl rfl bn5
  | 6, _, _, rfl, rfl => def_plain is6 rfl rfl bn6
  | 7, _, _, rfl, rfl => def_plain is7 rfl rfl bn7
  | 8, _, _, rfl, rfl => def_plain is8 rfl rfl bn8
  | 9, _, _, rfl, rfl => def_plain is9 rfl rfl bn9
  | 10, _, _, rfl, rfl => def_plain is10 rfl rfl bn10
  | 11, _, _, rfl, rfl => def_plain is11 rfl rfl bn11
  | 12, _, _, rfl, rfl => def_plain is12 rfl rfl bn12
  | 13, _, _, rfl, rfl => def_plain is13 rfl rfl bn13
  | 14, _, _, rfl, rfl => def_plain is14 rfl rfl bn14
  | 15, _, _, rfl, rfl => def_plain is15 rfl rfl bn15
  | 16, _, _, rfl, rfl => def_plain is16 rfl rfl bn16
  | 17, _, _, rfl, rfl => def_plain is17 rfl rfl bn17
  | 18, _, _, rfl, rfl => def_plain is18 rfl rfl bn18
  | 19, _, _, rfl, rfl => def_plain is19 rfl rfl bn19
  | _ + 20, _, _, h, _ => by simp [sp, pr] at h
abbrev Rw : PySem.W.OpenRow := PySem.W.OpenLaw.row PySem.Challenge.rw_slitstairs_k52_boxes_and_what_rests
abbrev hk : PySem.W.Hook := hookZ 6 sp.fb sp.fn
def ob (s : PySem.W.SharedT) : AlZ := seeG 6 sp.fb sp.fn (HandSHeadRun.getT s)
theorem ob_eq (s : PySem.W.SharedT) : ob s = hk.obs s.abs := seeG_eq (HandSHeadRun.getT_eq s)
def loose : List Str := (["rest_table", "Box", "_law_mix", "_law_hand", "_law_draw", "_law_squares", "_law_meets", "_law_rests", "_law_boxed", "_law_box", "_law_kept", "_law_alone"] : List Str)
theorem run (w : World) : HandSHeadRun.RunEq Rw (PySem.W.view Rw.prog [15]) hk ob 4000 loose w := by
  intro os
  kernel_rfl
theorem fin_ (math : ∀ ns : List Int, ns.length ≤ 63 → (∀ i ∈ ns, Builtin.Int.intBits i ≤ 1048576) → ∃ outs, (sp.p.ct (40 + 1)).run 19 [.val (.scr ns)] = .ret (.val (.bl true)) outs) : PySem.Challenge.rw_slitstairs_k52_boxes_and_what_rests.Holds := by
  w_on; o_law
  refine HandSHeadRun.head_any (r := Rw) (q := PySem.W.view Rw.prog [15]) (H := hk) (ob := ob) (M := 4000) (loose := loose) (d := HandSHeadRun.topDef Rw.prog 15) (kwd := []) ob_eq (by kernel_rfl) (fun s => by kernel_rfl) run (by kernel_rfl) (by kernel_rfl) (by kernel_rfl) (by rfl) (by first | assumption | decide +kernel) (by decide +kernel) ⟨rfl, rfl, rfl, rfl, rfl, by decide +kernel⟩ ?hw ?hc
  case hw => w_witness2
  case hc =>
    refine walk_z (l := PySem.Challenge.rw_slitstairs_k52_boxes_and_what_rests) (n := 63) (x := "_law_script") (CX := fun w => L2.CX Rw.prog w) rfl (by decide) (by kernel_rfl) (k := 83) ⟨rfl, by decide, by decide⟩ (fun w mg fa h Y G hmg => end_of (g := 6) (n := 40) (name := "law") sp_ok all_defs (zl := (rfl : sp.fn[19]? = some z19)) (dl := (rfl : sp.p.defs[19]? = some d19)) is19 rfl rfl rfl bn19 math w mg fa h Y G hmg) (fun w H s e s' h => ?_)
    exact cx_none h
end K52
end

section
set_option maxRecDepth 100007
set_option maxHeartbeats 4000007
namespace K52
open Z PySem L2 PyProof.Rows
theorem sl_big : 100000 ≤ sizeLine := by decide
/-! ### squares -/
theorem loop_v (C : Ct) {ro : Ro} (h1 : ro 1 = false) (h4 : ro 4 = false) (bx : Option O) (c u : D) : ∀ (ds acc : List D) (w : Option O), acc.length + ds.length ≤ 100000 → ∃ w', forF (asg1 ro (.nm 4)) (evS C ro (.seq (.app 1 (.tup (.cons (.lc 2) (.cons (.lc 3) (.cons (.lc 4) .nil))))) .nil)) ds [bx, some (.lst acc), some (.val c), some (.val u), w] =
    .nxt [bx, some (.lst (acc ++ ds.map fun d => .tup [c, u, d])), some (.val c), some (.val u), w'] := by
  intro ds
  induction ds with
  | nil => intro acc w _; exact ⟨w, by rw [forF, List.map_nil, List.append_nil]⟩
  | cons d ds ih =>
    intro acc w hl
    rw [List.length_cons] at hl
    obtain ⟨w', e⟩ := ih (acc ++ [.tup [c, u, d]]) (some (.val d)) (by rw [List.length_append, List.length_singleton]; omega)
    refine ⟨w', ?_⟩
    have hs := sl_big
    have b1 : 3 ≤ sizeLine := by omega
    have b2 : acc.length < sizeLine := by omega
    have st : evS C ro (.seq (.app 1 (.tup (.cons (.lc 2) (.cons (.lc 3) (.cons (.lc 4) .nil))))) .nil) [bx, some (.lst acc), some (.val c), some (.val u), some (.val d)] = .nxt [bx, some (.lst (acc ++ [.tup [c, u, d]])), some (.val c), some (.val u), some (.val d)] := by
      simp [b1, b2]
    rw [forF, show asg1 ro (.nm 4) d [bx, some (.lst acc), some (.val c), some (.val u), w] = some [bx, some (.lst acc), some (.val c), some (.val u), some (.val d)] by simp [h4]]
    simp only [st]
    rw [e, List.map_cons, List.append_assoc]
    rfl

abbrev tV : Sm := .seq (.app 1 (.tup (.cons (.lc 2) (.cons (.lc 3) (.cons (.lc 4) .nil))))) .nil
abbrev rgV : It1 := .rng (.cons (.ix (.lc 0) (.kon (.int 3))) (.cons (.bin .add (.ix (.lc 0) (.kon (.int 3))) (.ix (.lc 0) (.kon (.int 5)))) .nil))
abbrev tU (iv : It1) : Sm := .seq (.frl (.nm 4) iv tV) .nil
abbrev rgU : It1 := .rng (.cons (.ix (.lc 0) (.kon (.int 2))) (.cons (.bin .add (.ix (.lc 0) (.kon (.int 2))) (.ix (.lc 0) (.kon (.int 4)))) .nil))
abbrev tC (iu iv : It1) : Sm := .seq (.frl (.nm 3) iu (tU iv)) .nil
theorem loop_u (C : Ct) {iv : It1} (lv : iv.l = none) {ro : Ro} (h1 : ro 1 = false) (h3 : ro 3 = false) (h4 : ro 4 = false) (bx : Option O) (c : D) (ys : List D) (hy : ∀ z : Zs, rd z 0 = bx → evI C iv z = .ok (ys, none) z) : ∀ (ds acc : List D) (u w : Option O), acc.length + ds.length * ys.length ≤ 100000 → ∃ u' w', forF (asg1 ro (.nm 3)) (evS C ro (tU iv)) ds [bx, some (.lst acc), some (.val c), u, w] =
    .nxt [bx, some (.lst (acc ++ ds.flatMap fun u => ys.map fun d => .tup [c, u, d])), some (.val c), u', w'] := by
  intro ds
  induction ds with
  | nil => intro acc u w _; exact ⟨u, w, by rw [forF, List.flatMap_nil, List.append_nil]⟩
  | cons d ds ih =>
    intro acc u w hl
    rw [List.length_cons, Nat.add_mul, Nat.one_mul] at hl
    obtain ⟨w1, e1⟩ := loop_v C h1 h4 bx c d ys acc w (by omega)
    obtain ⟨u', w', e⟩ := ih (acc ++ ys.map fun v => .tup [c, d, v]) (some (.val d)) w1 (by rw [List.length_append, List.length_map]; omega)
    refine ⟨u', w', ?_⟩
    have st : evS C ro (tU iv) [bx, some (.lst acc), some (.val c), some (.val d), w] = .nxt [bx, some (.lst (acc ++ ys.map fun v => .tup [c, d, v])), some (.val c), some (.val d), w1] :=
      seq_nxt ((frl_ok (hy _ rfl)).trans (by rw [show roL ro iv.l = ro by rw [lv]; rfl, e1]; rfl)) rfl
    rw [forF, show asg1 ro (.nm 3) d [bx, some (.lst acc), some (.val c), u, w] = some [bx, some (.lst acc), some (.val c), some (.val d), w] by simp [h3]]
    simp only [st]
    rw [e, List.flatMap_cons, List.append_assoc]
theorem fm_len (c : D) (ys : List D) : ∀ us : List D, (us.flatMap fun u => ys.map fun v => D.tup [c, u, v]).length = us.length * ys.length
  | [] => by simp
  | u :: us => by rw [List.flatMap_cons, List.length_append, List.length_map, fm_len c ys us, List.length_cons, Nat.add_mul, Nat.one_mul]; omega
theorem loop_c (C : Ct) {iu iv : It1} (lu : iu.l = none) (lv : iv.l = none) {ro : Ro} (h1 : ro 1 = false) (h2 : ro 2 = false) (h3 : ro 3 = false) (h4 : ro 4 = false) (bx : Option O) (us ys : List D) (hy : ∀ z : Zs, rd z 0 = bx → evI C iv z = .ok (ys, none) z) (hu : ∀ z : Zs, rd z 0 = bx → evI C iu z = .ok (us, none) z) : ∀ (ds acc : List D) (c u w : Option O), acc.length + ds.length * (us.length * ys.length) ≤ 100000 → ∃ c' u' w', forF (asg1 ro (.nm 2)) (evS C ro (tC iu iv)) ds [bx, some (.lst acc), c, u, w] =
    .nxt [bx, some (.lst (acc ++ ds.flatMap fun c => us.flatMap fun u => ys.map fun d => .tup [c, u, d])), c', u', w'] := by
  intro ds
  induction ds with
  | nil => intro acc c u w _; exact ⟨c, u, w, by rw [forF, List.flatMap_nil, List.append_nil]⟩
  | cons d ds ih =>
    intro acc c u w hl
    rw [List.length_cons, Nat.add_mul, Nat.one_mul] at hl
    have hlen := fm_len d ys us
    obtain ⟨u1, w1, e1⟩ := loop_u C lv h1 h3 h4 bx d ys hy us acc u w (by omega)
    obtain ⟨c', u', w', e⟩ := ih (acc ++ us.flatMap fun u => ys.map fun v => .tup [d, u, v]) (some (.val d)) u1 w1 (by rw [List.length_append, hlen]; omega)
    refine ⟨c', u', w', ?_⟩
    have st : evS C ro (tC iu iv) [bx, some (.lst acc), some (.val d), u, w] = .nxt [bx, some (.lst (acc ++ us.flatMap fun u => ys.map fun v => .tup [d, u, v])), some (.val d), u1, w1] :=
      seq_nxt ((frl_ok (hu _ rfl)).trans (by rw [show roL ro iu.l = ro by rw [lu]; rfl, e1]; rfl)) rfl
    rw [forF, show asg1 ro (.nm 2) d [bx, some (.lst acc), c, u, w] = some [bx, some (.lst acc), some (.val d), u, w] by simp [h2]]
    simp only [st]
    rw [e, List.flatMap_cons, List.append_assoc]
/-- a box by its six numbers -/
structure Bx where
  f : Int
  l : Int
  x : Int
  y : Int
  o : Int
  d : Int
deriving DecidableEq
structure Bx.Ok (b : Bx) : Prop where
  f0 : 0 ≤ b.f
  fl : b.f ≤ b.l
  l1 : b.l ≤ 20
  x0 : 0 ≤ b.x
  x1 : b.x ≤ 100
  y0 : 0 ≤ b.y
  y1 : b.y ≤ 100
  o0 : 1 ≤ b.o
  o1 : b.o ≤ 4
  d0 : 1 ≤ b.d
  d1 : b.d ≤ 4
def Bx.t (b : Bx) : D := .tup [.int b.f, .int b.l, .int b.x, .int b.y, .int b.o, .int b.d]
def tri (c u v : D) : D := .tup [c, u, v]
def Bx.sq (b : Bx) : List D := (Z.upTo b.f (b.l + 1 - b.f).toNat).flatMap fun c => (Z.upTo b.x b.o.toNat).flatMap fun u => (Z.upTo b.y b.d.toNat).map fun v => .tup [c, u, v]
theorem up_len (i : Int) (n : Nat) : (Z.upTo i n).length = n := by unfold Z.upTo; simp
theorem run_squares (C : Ct) {b : Bx} (h : b.Ok) : runD C d12 [.val b.t] = .ret (.lst b.sq) [some (.val b.t)] := by
  have hy : ∀ z : Zs, rd z 0 = some (.val b.t) → evI C rgV z = .ok (Z.upTo b.y b.d.toNat, none) z := fun z hz => by
    have r1 : rgOk b.y := ⟨by have := h.y0; omega, by have := h.y1; omega⟩
    have r2 : rgOk (b.y + b.d) := ⟨by have := h.y0; have := h.d0; omega, by have := h.y1; have := h.d1; omega⟩
    have e1 : (b.y + b.d - b.y).toNat = b.d.toNat := by congr 1; omega
    rw [rd] at hz
    simp [hz, Bx.t, atI, ixN, rgItems, r1, r2, e1]
  have hu : ∀ z : Zs, rd z 0 = some (.val b.t) → evI C rgU z = .ok (Z.upTo b.x b.o.toNat, none) z := fun z hz => by
    have r1 : rgOk b.x := ⟨by have := h.x0; omega, by have := h.x1; omega⟩
    have r2 : rgOk (b.x + b.o) := ⟨by have := h.x0; have := h.o0; omega, by have := h.x1; have := h.o1; omega⟩
    have e1 : (b.x + b.o - b.x).toNat = b.o.toNat := by congr 1; omega
    rw [rd] at hz
    simp [hz, Bx.t, atI, ixN, rgItems, r1, r2, e1]
  have r1 : rgOk b.f := ⟨by have := h.f0; omega, by have := h.fl; have := h.l1; omega⟩
  have r2 : rgOk (b.l + 1) := ⟨by have := h.f0; have := h.fl; omega, by have := h.l1; omega⟩
  obtain ⟨c', u', w', e⟩ := loop_c C (iu := rgU) (iv := rgV) rfl rfl (ro := d12.ro) rfl rfl rfl rfl (some (.val b.t)) (Z.upTo b.x b.o.toNat) (Z.upTo b.y b.d.toNat) hy hu (Z.upTo b.f (b.l + 1 - b.f).toNat) [] none none none (by
    rw [up_len, up_len, up_len, List.length_nil]
    have a1 : b.o.toNat ≤ 4 := by have := h.o1; omega
    have a2 : b.d.toNat ≤ 4 := by have := h.d1; omega
    have a3 : (b.l + 1 - b.f).toNat ≤ 21 := by have := h.f0; have := h.l1; omega
    have a4 := Nat.mul_le_mul a3 (Nat.mul_le_mul a1 a2)
    omega)
  refine runD_ret (z := [some (.val b.t), none, c', u', w']) rfl (seq_nxt (z1 := [some (.val b.t), some (.lst []), none, none, none]) rfl (seq_nxt (z1 := [some (.val b.t), some (.lst b.sq), c', u', w']) ((frl_ok (z1 := [some (.val b.t), some (.lst []), none, none, none]) (ds := Z.upTo b.f (b.l + 1 - b.f).toNat) (rs := none) ?_).trans ?_) (seq_ret rfl))) rfl
  · simp [Bx.t, atI, ixN, rgItems, r1, r2]
  · show S.back none (forF (asg1 d12.ro (.nm 2)) (evS C d12.ro (tC rgU rgV)) _ _) = _
    rw [e]
    rfl

/-! ### the class -/
def Bx.fs (b : Bx) : List (Nat × D) := [(6, .int b.f), (5, .int b.l), (4, .int b.x), (3, .int b.y), (2, .int b.o), (1, .int b.d)]
def Bx.ob (b : Bx) : D := .obj 0 b.fs
theorem run_init (n : Nat) (b : Bx) : (pr.ct (n + 1)).run 1 [.obj 0 [], .val (.int b.f), .val (.int b.l), .val (.int b.x), .val (.int b.y), .val (.int b.o), .val (.int b.d)] =
    .ret (.val .non) [some (.obj 0 b.fs), some (.val (.int b.f)), some (.val (.int b.l)), some (.val (.int b.x)), some (.val (.int b.y)), some (.val (.int b.o)), some (.val (.int b.d))] := by
  rw [run_eq (d := d1) rfl]
  simp [runD, d1, Bx.fs]
/-- _law_kept, of a tuple -/
theorem run_kept (n : Nat) (b : Bx) : (pr.ct (n + 2)).run 17 [.val b.t] = .ret (.obj 0 b.fs) [some (.val b.t)] := by
  rw [ru17]
  have := run_init n b
  simp [runD, d17, Bx.t, atI, ixN, evMkA, given, lendA, backA, this]
/-- _law_boxed -/
theorem run_boxed (n : Nat) (b : Bx) : (pr.ct (n + 1)).run 15 [.val b.ob] = .ret (.val b.t) [some (.val b.ob)] := by
  rw [ru15]
  have s6 : 6 ≤ sizeLine := by decide
  simp [runD, d15, Bx.t, Bx.ob, Bx.fs, s6]
/-- Box.moved -/
theorem run_moved (n : Nat) (b : Bx) (i j : Int) : (pr.ct (n + 2)).run 3 [.val b.ob, .val (.int i), .val (.int j)] = .ret (.obj 0 ({ b with x := b.x + i, y := b.y + j } : Bx).fs) [some (.val b.ob), some (.val (.int i)), some (.val (.int j))] := by
  rw [ru3]
  have := run_init n { b with x := b.x + i, y := b.y + j }
  simp only [Bx.fs] at this
  simp [runD, d3, Bx.ob, Bx.fs, evMkA, given, lendA, backA, this]
def Bx.meets (a b : Bx) : Bool := (decide (a.f ≤ b.l) && decide (b.f ≤ a.l)) && ((decide (a.x < b.x + b.o) && decide (b.x < a.x + a.o)) && (decide (a.y < b.y + b.d) && decide (b.y < a.y + a.d)))
/-- Box.meets -/
theorem run_meets (n : Nat) (a b : Bx) : (pr.ct (n + 1)).run 4 [.val a.ob, .val b.ob] = .ret (.val (.bl (a.meets b))) [some (.val a.ob), some (.val b.ob)] := by
  rw [ru4]
  unfold Bx.meets
  simp [runD, d4, Bx.ob, Bx.fs]
  generalize (decide (a.f ≤ b.l) && decide (b.f ≤ a.l)) = p
  generalize (decide (a.x < b.x + b.o) && decide (b.x < a.x + a.o)) = q
  generalize (decide (a.y < b.y + b.d) && decide (b.y < a.y + a.d)) = r
  cases p <;> cases q <;> cases r <;> simp
/-- .. of a box made just now -/
theorem run_meets2 (n : Nat) (a b : Bx) : (pr.ct (n + 1)).run 4 [.obj 0 a.fs, .val b.ob] = .ret (.val (.bl (a.meets b))) [some (.obj 0 a.fs), some (.val b.ob)] := by
  rw [ru4]
  unfold Bx.meets
  simp [runD, d4, Bx.ob, Bx.fs]
  generalize (decide (a.f ≤ b.l) && decide (b.f ≤ a.l)) = p
  generalize (decide (a.x < b.x + b.o) && decide (b.x < a.x + a.o)) = q
  generalize (decide (a.y < b.y + b.d) && decide (b.y < a.y + a.d)) = r
  cases p <;> cases q <;> cases r <;> simp
def Bx.mv (b : Bx) (i j : Int) : Bx := { b with x := b.x + i, y := b.y + j }
def Bx.rests (a b : Bx) : Bool := if a.meets b = true then false else (a.mv (-1) 0).meets b || (a.mv 0 (-1)).meets b
/-- Box.rests_on -/
theorem run_rests (n : Nat) (a b : Bx) : (pr.ct (n + 3)).run 5 [.val a.ob, .val b.ob] = .ret (.val (.bl (a.rests b))) [some (.val a.ob), some (.val b.ob)] := by
  rw [ru5]
  have e1 := run_meets (n + 1) a b
  have e2 := run_moved n a (-1) 0
  have e3 := run_moved n a 0 (-1)
  have e4 := run_meets2 (n + 1) (a.mv (-1) 0) b
  have e5 := run_meets2 (n + 1) (a.mv 0 (-1)) b
  have q0 : ∀ (c : Bx), lookN 8 c.fs = none ∧ lookN 7 c.fs = none := fun c => ⟨rfl, rfl⟩
  unfold Bx.rests
  unfold Bx.ob at *
  unfold Bx.mv at *
  simp [runD, d5, apF, given, lendA, backA, Bx.fs] at e1 e2 e3 e4 e5 ⊢
  cases h : a.meets b <;> simp [h, e1, e2, e3, e4, e5, lendA, backA]
abbrev rgV2 : It1 := .rng (.cons (.attr (.lc 0) 3) (.cons (.bin .add (.attr (.lc 0) 3) (.attr (.lc 0) 1)) .nil))
abbrev rgU2 : It1 := .rng (.cons (.attr (.lc 0) 4) (.cons (.bin .add (.attr (.lc 0) 4) (.attr (.lc 0) 2)) .nil))
/-- Box.squares; the box shared or not (o) -/
theorem run_sqs (n : Nat) {b : Bx} (h : b.Ok) (o : O) (ho : o = .val b.ob ∨ o = .obj 0 b.fs) : (pr.ct (n + 1)).run 2 [o] = .ret (.val (.tup b.sq)) [some o] := by
  rw [ru2]
  have hy : ∀ z : Zs, rd z 0 = some o → evI (pr.ct n) rgV2 z = .ok (Z.upTo b.y b.d.toNat, none) z := fun z hz => by
    have r1 : rgOk b.y := ⟨by have := h.y0; omega, by have := h.y1; omega⟩
    have r2 : rgOk (b.y + b.d) := ⟨by have := h.y0; have := h.d0; omega, by have := h.y1; have := h.d1; omega⟩
    have e1 : (b.y + b.d - b.y).toNat = b.d.toNat := by congr 1; omega
    rw [rd] at hz
    rcases ho with rfl | rfl <;> simp [hz, Bx.ob, Bx.fs, rgItems, r1, r2, e1]
  have hu : ∀ z : Zs, rd z 0 = some o → evI (pr.ct n) rgU2 z = .ok (Z.upTo b.x b.o.toNat, none) z := fun z hz => by
    have r1 : rgOk b.x := ⟨by have := h.x0; omega, by have := h.x1; omega⟩
    have r2 : rgOk (b.x + b.o) := ⟨by have := h.x0; have := h.o0; omega, by have := h.x1; have := h.o1; omega⟩
    have e1 : (b.x + b.o - b.x).toNat = b.o.toNat := by congr 1; omega
    rw [rd] at hz
    rcases ho with rfl | rfl <;> simp [hz, Bx.ob, Bx.fs, rgItems, r1, r2, e1]
  have r1 : rgOk b.f := ⟨by have := h.f0; omega, by have := h.fl; have := h.l1; omega⟩
  have r2 : rgOk (b.l + 1) := ⟨by have := h.f0; have := h.fl; omega, by have := h.l1; omega⟩
  obtain ⟨c', u', w', e⟩ := loop_c (pr.ct n) (iu := rgU2) (iv := rgV2) rfl rfl (ro := d2.ro) rfl rfl rfl rfl (some o) (Z.upTo b.x b.o.toNat) (Z.upTo b.y b.d.toNat) hy hu (Z.upTo b.f (b.l + 1 - b.f).toNat) [] none none none (by
    rw [up_len, up_len, up_len, List.length_nil]
    have a1 : b.o.toNat ≤ 4 := by have := h.o1; omega
    have a2 : b.d.toNat ≤ 4 := by have := h.d1; omega
    have a3 : (b.l + 1 - b.f).toNat ≤ 21 := by have := h.f0; have := h.l1; omega
    have a4 := Nat.mul_le_mul a3 (Nat.mul_le_mul a1 a2)
    omega)
  refine runD_ret (z := [some o, some (.lst b.sq), c', u', w']) rfl (seq_nxt (z1 := [some o, some (.lst []), none, none, none]) rfl (seq_nxt (z1 := [some o, some (.lst b.sq), c', u', w']) ((frl_ok (z1 := [some o, some (.lst []), none, none, none]) (ds := Z.upTo b.f (b.l + 1 - b.f).toNat) (rs := none) ?_).trans ?_) (seq_ret rfl))) rfl
  · rcases ho with rfl | rfl <;> simp [Bx.ob, Bx.fs, rgItems, r1, r2]
  · show S.back none (forF (asg1 d2.ro (.nm 2)) (evS (pr.ct n) d2.ro (tC rgU2 rgV2)) _ _) = _
    rw [e]
    rfl
theorem plain_t3 {n : Nat} (a b c : Int) : plainN (n + 1) (.tup [.int a, .int b, .int c]) = true := by cases n <;> rfl
theorem sq_mem {b : Bx} {d : D} (h : d ∈ b.sq) : ∃ i j k : Int, d = .tup [.int i, .int j, .int k] := by
  unfold Bx.sq Z.upTo at h
  simp only [List.mem_flatMap, List.mem_map] at h
  obtain ⟨c, ⟨i, _, rfl⟩, u, ⟨j, _, rfl⟩, v, ⟨k, _, rfl⟩, rfl⟩ := h
  exact ⟨_, _, _, rfl⟩
theorem sq_plain (b : Bx) : b.sq.all (plainN 7) = true := List.all_eq_true.mpr fun d h => by
  obtain ⟨i, j, k, rfl⟩ := sq_mem h
  exact plain_t3 _ _ _
/-- Box.__contains__ -/
theorem run_has (n : Nat) {b : Bx} (h : b.Ok) (i j k : Int) : (pr.ct (n + 2)).run 6 [.val b.ob, .val (.tup [.int i, .int j, .int k])] = .ret (.val (.bl (b.sq.any fun z => eqD z (.tup [.int i, .int j, .int k])))) [some (.val b.ob), some (.val (.tup [.int i, .int j, .int k]))] := by
  rw [ru6]
  have e1 := run_sqs n h (.val b.ob) (.inl rfl)
  have p1 := List.all_eq_true.mp (sq_plain b)
  have p2 : plainN 7 (.tup [.int i, .int j, .int k]) = true := plain_t3 _ _ _
  unfold Bx.ob at *
  generalize D.tup [.int i, .int j, .int k] = q at p2 ⊢
  generalize b.sq = s at e1 p1 ⊢
  simp [runD, d6, apF, given, lendA, backA, e1, p2, if_pos p1]
/-- Box.__len__ -/
theorem run_length (n : Nat) {b : Bx} (h : b.Ok) : (pr.ct (n + 2)).run 7 [.val b.ob] = .ret (.val (.int b.sq.length)) [some (.val b.ob)] := by
  rw [ru7]
  have e1 := run_sqs n h (.val b.ob) (.inl rfl)
  unfold Bx.ob at *
  generalize b.sq = s at e1 ⊢
  simp [runD, d7, apF, given, lendA, backA, e1]
def Bx.same (a b : Bx) : Bool := a.f == b.f && (a.l == b.l && (a.x == b.x && (a.y == b.y && (a.o == b.o && a.d == b.d))))
/-- Box.__eq__ -/
theorem run_same (n : Nat) (a b : Bx) : (pr.ct (n + 1)).run 8 [.val a.ob, .val b.ob] = .ret (.val (.bl (a.same b))) [some (.val a.ob), some (.val b.ob)] := by
  rw [ru8]
  unfold Bx.same
  simp [runD, d8, Bx.ob, Bx.fs, plain_int, eqD]
theorem run_other (n : Nat) (a : Bx) (ds : List D) (d : D) (h : d = .tup ds ∨ d = .lst ds) : (pr.ct (n + 1)).run 8 [.val a.ob, .val d] = .ret (.val (.bl false)) [some (.val a.ob), some (.val d)] := by
  rw [ru8]
  rcases h with rfl | rfl <;> simp [runD, d8, Bx.ob, Bx.fs]
/-! ### the law's own meeting -/
def hld (kvs : List (D × D)) (ds : List D) : List (D × D) := ds.foldl (fun k d => putD k d (.bl true)) kvs
theorem putD_len (kvs : List (D × D)) (k v : D) : (putD kvs k v).length ≤ kvs.length + 1 := by
  unfold putD
  split
  · rw [List.length_map]; omega
  · rw [List.length_append]; simp
theorem loop_held (C : Ct) {ro : Ro} (h2 : ro 2 = false) (h3 : ro 3 = false) (s0 s1 : Option O) : ∀ (ds : List D) (kvs : List (D × D)) (w : Option O), (∀ d ∈ ds, okKey true d = true) → kvs.length + ds.length ≤ 100000 → ∃ w', forF (asg1 ro (.nm 3)) (evS C ro (.seq (.setIx 2 (.lc 3) (.kon (.bl true))) .nil)) ds [s0, s1, some (.dct true kvs), w] =
    .nxt [s0, s1, some (.dct true (hld kvs ds)), w'] := by
  intro ds
  induction ds with
  | nil => intro kvs w _ _; exact ⟨w, rfl⟩
  | cons d ds ih =>
    intro kvs w hk hl
    rw [List.length_cons] at hl
    have hp := putD_len kvs d (.bl true)
    obtain ⟨w', e⟩ := ih (putD kvs d (.bl true)) (some (.val d)) (fun d h => hk d (by simp [h])) (by omega)
    refine ⟨w', ?_⟩
    have hs := sl_big
    have b2 : kvs.length < sizeLine := by omega
    have ok := hk d (by simp)
    have st : evS C ro (.seq (.setIx 2 (.lc 3) (.kon (.bl true))) .nil) [s0, s1, some (.dct true kvs), some (.val d)] = .nxt [s0, s1, some (.dct true (putD kvs d (.bl true))), some (.val d)] := by
      simp [b2, ok, -okKey]
    rw [forF, show asg1 ro (.nm 3) d [s0, s1, some (.dct true kvs), w] = some [s0, s1, some (.dct true kvs), some (.val d)] by simp [h3]]
    simp only [st]
    rw [e]
    rfl
end K52
end

section
set_option maxRecDepth 100007
set_option maxHeartbeats 4000007
namespace K52
open Z PySem L2 PyProof.Rows
/-! ### triples -/
abbrev Tr := Int × Int × Int
def enc (t : Tr) : D := .tup [.int t.1, .int t.2.1, .int t.2.2]
def upI (i : Int) (n : Nat) : List Int := (List.range n).map fun (k : Nat) => i + (k : Int)
def Bx.ts (b : Bx) : List Tr := (upI b.f (b.l + 1 - b.f).toNat).flatMap fun c => (upI b.x b.o.toNat).flatMap fun u => (upI b.y b.d.toNat).map fun v => (c, u, v)
theorem up_enc (i : Int) (n : Nat) : Z.upTo i n = (upI i n).map D.int := by
  unfold Z.upTo upI
  simp [Function.comp_def]
theorem sq_ts (b : Bx) : b.sq = b.ts.map enc := by
  unfold Bx.sq Bx.ts
  simp only [up_enc, List.map_flatMap, List.flatMap_map, List.map_map]
  rfl
theorem mem_upI {i j : Int} {n : Nat} : j ∈ upI i n ↔ i ≤ j ∧ j < i + n := by
  unfold upI
  rw [List.mem_map]
  constructor
  · rintro ⟨k, hk, rfl⟩
    have := List.mem_range.mp hk
    omega
  · rintro ⟨h1, h2⟩
    exact ⟨(j - i).toNat, List.mem_range.mpr (by omega), by omega⟩
theorem mem_ts {b : Bx} (h : b.Ok) {c u v : Int} : (c, u, v) ∈ b.ts ↔ (b.f ≤ c ∧ c ≤ b.l) ∧ (b.x ≤ u ∧ u < b.x + b.o) ∧ (b.y ≤ v ∧ v < b.y + b.d) := by
  have h1 := h.o0
  have h2 := h.d0
  have h3 := h.fl
  unfold Bx.ts
  simp only [List.mem_flatMap, List.mem_map, mem_upI, Prod.mk.injEq]
  constructor
  · rintro ⟨c', hc, u', hu, v', hv, rfl, rfl, rfl⟩
    omega
  · rintro ⟨hc, hu, hv⟩
    exact ⟨c, by omega, u, by omega, v, by omega, rfl, rfl, rfl⟩
theorem eqD_enc (a b : Tr) : eqD (enc a) (enc b) = decide (a = b) := by
  obtain ⟨a1, a2, a3⟩ := a
  obtain ⟨b1, b2, b3⟩ := b
  rw [Bool.eq_iff_iff]
  simp [enc, eqD, eqDs]
theorem any_enc (l : List Tr) (t : Tr) : ((l.map enc).any fun z => eqD z (enc t)) = decide (t ∈ l) := by
  rw [List.any_map]
  induction l with
  | nil => simp
  | cons a l ih =>
    rw [List.any_cons, ih]
    simp only [Function.comp, eqD_enc, List.mem_cons, Bool.decide_or]
    congr 1
    exact decide_eq_decide.mpr ⟨Eq.symm, Eq.symm⟩
/-! ### the held squares -/
def kv (t : Tr) : D × D := (enc t, .bl true)
theorem putD_kv (l : List Tr) (t : Tr) : putD (l.map kv) (enc t) (.bl true) = (if t ∈ l then l else l ++ [t]).map kv := by
  unfold putD
  have e : ((l.map kv).any fun p => eqD p.1 (enc t)) = decide (t ∈ l) := by
    rw [← any_enc, List.any_map, List.any_map]
    rfl
  rw [e]
  by_cases h : t ∈ l
  · simp only [h, decide_true, if_true, List.map_map]
    refine List.map_congr_left fun a _ => ?_
    show (if eqD (enc a) (enc t) = true then (enc a, D.bl true) else (enc a, D.bl true)) = (enc a, D.bl true)
    by_cases hq : eqD (enc a) (enc t) = true
    · rw [if_pos hq]
    · rw [if_neg hq]
  · simp only [h, decide_false, Bool.false_eq_true, if_false, List.map_append]
    rfl
def hlT (l : List Tr) (ts : List Tr) : List Tr := ts.foldl (fun l t => if t ∈ l then l else l ++ [t]) l
theorem hld_kv : ∀ (ts l : List Tr), hld (l.map kv) (ts.map enc) = (hlT l ts).map kv
  | [], l => rfl
  | t :: ts, l => by
    show hld (putD (l.map kv) (enc t) (.bl true)) (ts.map enc) = _
    rw [putD_kv, hld_kv ts]
    rfl
theorem mem_hlT {t : Tr} : ∀ {ts l : List Tr}, t ∈ hlT l ts ↔ t ∈ l ∨ t ∈ ts
  | [], l => by simp [hlT]
  | a :: ts, l => by
    show t ∈ hlT (if a ∈ l then l else l ++ [a]) ts ↔ _
    rw [mem_hlT]
    by_cases h : a ∈ l
    · rw [if_pos h, List.mem_cons]
      constructor
      · rintro (h1 | h1)
        · exact .inl h1
        · exact .inr (.inr h1)
      · rintro (h1 | h1 | h1)
        · exact .inl h1
        · exact .inl (h1 ▸ h)
        · exact .inr h1
    · rw [if_neg h, List.mem_append, List.mem_singleton, List.mem_cons, or_assoc]
theorem key_enc (t : Tr) : okKey true (enc t) = true := rfl
def held (b : Bx) : D := .dct true ((hlT [] b.ts).map kv)
theorem in_held (b : Bx) (t : Tr) : (((hlT [] b.ts).map kv).any fun p => eqD p.1 (enc t)) = decide (t ∈ b.ts) := by
  have e : (((hlT [] b.ts).map kv).any fun p => eqD p.1 (enc t)) = decide (t ∈ hlT [] b.ts) := by
    rw [← any_enc, List.any_map, List.any_map]
    rfl
  rw [e]
  exact decide_eq_decide.mpr (by rw [mem_hlT]; simp)
theorem look_held (b : Bx) (t : Tr) : (lookD ((hlT [] b.ts).map kv) (enc t)).isSome = decide (t ∈ b.ts) := by
  unfold lookD
  rw [Option.isSome_map, ← in_held, Bool.eq_iff_iff, List.find?_isSome, List.any_eq_true]
theorem ts_len {b : Bx} (h : b.Ok) : b.ts.length ≤ 1000 := by
  have e : ∀ (xs ys zs : List Int), (xs.flatMap fun c => ys.flatMap fun u => zs.map fun v => (c, u, v)).length = xs.length * (ys.length * zs.length) := by
    intro xs ys zs
    have e2 : ∀ (c : Int) (us : List Int), (us.flatMap fun u => zs.map fun v => (c, u, v)).length = us.length * zs.length := by
      intro c us
      induction us with
      | nil => simp
      | cons u us ih => rw [List.flatMap_cons, List.length_append, ih, List.length_map, List.length_cons, Nat.add_mul, Nat.one_mul, Nat.add_comm]
    induction xs with
    | nil => simp
    | cons c cs ih => rw [List.flatMap_cons, List.length_append, ih, e2, List.length_cons, Nat.add_mul, Nat.one_mul, Nat.add_comm]
  unfold Bx.ts
  rw [e]
  have l : ∀ i n, (upI i n).length = n := fun i n => by unfold upI; simp
  rw [l, l, l]
  have a1 : b.o.toNat ≤ 4 := by have := h.o1; omega
  have a2 : b.d.toNat ≤ 4 := by have := h.d1; omega
  have a3 : (b.l + 1 - b.f).toNat ≤ 21 := by have := h.f0; have := h.l1; omega
  have a4 := Nat.mul_le_mul a3 (Nat.mul_le_mul a1 a2)
  omega
theorem compF_filter {vs : List Nat} {tgt : D → Zs → Option Zs} {c : Zs → R Bool} {me : Zs → R Hd} {zb : Zs} (p : D → Bool) (g : D → D) : ∀ (ds acc : List D), (∀ d ∈ ds, ∃ z1, tgt d zb = some z1 ∧ ∃ z2, c z1 = .ok (p d) z2 ∧ (p d = false → wipeZ z2 vs = zb) ∧ (p d = true → ∃ h z3 z4, me z2 = .ok h z3 ∧ takeD h z3 = some (g d, z4) ∧ wipeZ z4 vs = zb)) →
    acc.length + ds.length ≤ sizeLine → compF vs tgt c me ds acc zb = some (acc ++ (ds.filter p).map g, zb)
  | [], acc, _, _ => by rw [compF]; simp
  | d :: ds, acc, h, hl => by
    obtain ⟨z1, e1, z2, e2, h1, h2⟩ := h d (by simp)
    rw [List.length_cons] at hl
    rw [compF, e1]
    simp only [e2]
    cases hp : p d with
    | false =>
      rw [h1 hp]
      simp only [Bool.false_eq_true, if_false]
      rw [compF_filter p g ds acc (fun d hd => h d (by simp [hd])) (by omega), List.filter_cons, if_neg (by simp [hp])]
    | true =>
      obtain ⟨hd, z3, z4, e3, e4, e5⟩ := h2 hp
      simp only [if_true, e3, e4]
      rw [if_pos (by omega), e5, compF_filter p g ds (acc ++ [g d]) (fun d hd => h d (by simp [hd])) (by rw [List.length_append, List.length_singleton]; omega), List.filter_cons, if_pos hp, List.map_cons, List.append_assoc]
      rfl
theorem cmp_ok {C : Ct} {op : Cop} {m1 m2 : Zs → R Hd} {z z1 z2 : Zs} {x y : Hd} (h1 : m1 z = .ok x z1) (h2 : m2 z1 = .ok y z2) : evCmp C op m1 m2 z = apC C op x y z2 := by
  unfold evCmp
  rw [h1]
  show ((m2 z1).bind _) = _
  rw [h2]
  rfl
/-! ### the law's meets -/
theorem sq_get (n : Nat) {b : Bx} (h : b.Ok) : (pr.ct (n + 1)).run 12 [.val b.t] = .ret (.lst (b.ts.map enc)) [some (.val b.t)] := by
  rw [ru12, run_squares _ h, sq_ts]
theorem filter_enc (p : D → Bool) (l : List Tr) : (l.map enc).filter p = (l.filter fun t => p (enc t)).map enc := by
  rw [List.filter_map]; rfl
theorem plain_enc (n : Nat) (t : Tr) : plainN (n + 1) (enc t) = true := plain_t3 _ _ _
theorem run_lmeets (n : Nat) {a b : Bx} (ha : a.Ok) (hb : b.Ok) : (pr.ct (n + 2)).run 13 [.val a.t, .val b.t] = .ret (.val (.bl (a.ts.any fun t => decide (t ∈ b.ts)))) [some (.val a.t), some (.val b.t)] := by
  rw [ru13]
  have ga := sq_get n ha
  have gb := sq_get n hb
  have la := ts_len ha
  have lb := ts_len hb
  have hs := sl_big
  obtain ⟨w', e⟩ := loop_held (pr.ct (n + 1)) (ro := d13.ro) rfl rfl (some (.val a.t)) (some (.val b.t)) (b.ts.map enc) [] none (fun d hd => by obtain ⟨t, _, rfl⟩ := List.mem_map.mp hd; exact key_enc t) (by rw [List.length_map]; simp; omega)
  have e2 : hld [] (b.ts.map enc) = (hlT [] b.ts).map kv := hld_kv b.ts []
  rw [e2] at e
  have cf := compF_filter (vs := [3]) (tgt := asg1 (roV [3]) (.nm 3)) (c := (ev (pr.ct (n + 1)) (.cmp .inn (.lc 3) (.lc 2))).2) (me := (ev (pr.ct (n + 1)) (.lc 3)).1) (zb := [some (.val a.t), some (.val b.t), some (.dct true ((hlT [] b.ts).map kv)), none]) (fun d => (lookD ((hlT [] b.ts).map kv) d).isSome) id (a.ts.map enc) [] (fun d hd => by
    obtain ⟨t, _, rfl⟩ := List.mem_map.mp hd
    refine ⟨[some (.val a.t), some (.val b.t), some (.dct true ((hlT [] b.ts).map kv)), some (.val (enc t))], by simp, [some (.val a.t), some (.val b.t), some (.dct true ((hlT [] b.ts).map kv)), some (.val (enc t))], ?_, fun _ => by simp, fun _ => ⟨.slot 3, [some (.val a.t), some (.val b.t), some (.dct true ((hlT [] b.ts).map kv)), some (.val (enc t))], [some (.val a.t), some (.val b.t), some (.dct true ((hlT [] b.ts).map kv)), some (.val (enc t))], by simp, by simp, by simp⟩⟩
    have := key_enc t
    simp [this, -okKey]) (by rw [List.length_map]; simp; omega)
  rw [List.map_id, List.nil_append, filter_enc] at cf
  simp only [look_held] at cf
  have hc : evComp [3] (asg1 (roV [3]) (.nm 3)) (ev (pr.ct (n + 1)) (.cmp .inn (.lc 3) (.lc 2))).2 (ev (pr.ct (n + 1)) (.lc 3)).1 (evI (pr.ct (n + 1)) (.seq none (.call 12 (.cons (.lc 0) .nil)))) [some (.val a.t), some (.val b.t), some (.dct true ((hlT [] b.ts).map kv)), w'] = .ok (.tmp (.lst ((a.ts.filter fun t => decide (t ∈ b.ts)).map enc))) [some (.val a.t), some (.val b.t), some (.dct true ((hlT [] b.ts).map kv)), w'] := by
    unfold evComp
    simp [apF, given, lendA, backA, ga, clm, itemsD]
    simp at cf
    rw [cf]
    simp
  refine runD_ret (z := [some (.val a.t), some (.val b.t), some (.dct true ((hlT [] b.ts).map kv)), w']) rfl (seq_nxt (z1 := [some (.val a.t), some (.val b.t), some (.dct true []), none]) rfl (seq_nxt (z1 := [some (.val a.t), some (.val b.t), some (.dct true ((hlT [] b.ts).map kv)), w']) ((frl_ok (z1 := [some (.val a.t), some (.val b.t), some (.dct true []), none]) (ds := b.ts.map enc) (rs := none) ?_).trans ?_) (seq_ret (st_ret ?_)))) rfl
  · simp [apF, given, lendA, backA, gb, clm, itemsD]
  · show S.back none (forF (asg1 d13.ro (.nm 3)) (evS (pr.ct (n + 1)) d13.ro _) _ _) = _
    rw [e]
    rfl
  · show (evCmp (pr.ct (n + 1)) .ne (evComp [3] (asg1 (roV [3]) (.nm 3)) (ev (pr.ct (n + 1)) (.cmp .inn (.lc 3) (.lc 2))).2 (ev (pr.ct (n + 1)) (.lc 3)).1 (evI (pr.ct (n + 1)) (.seq none (.call 12 (.cons (.lc 0) .nil))))) (evLst evNil)) _ = _
    have pl : ((a.ts.filter fun t => decide (t ∈ b.ts)).map enc).all (plainN 7) = true := List.all_eq_true.mpr fun d hd => by obtain ⟨t, _, rfl⟩ := List.mem_map.mp hd; exact plain_enc _ _
    have fe : (!eqD (.lst ((a.ts.filter fun t => decide (t ∈ b.ts)).map enc)) (.lst [])) = a.ts.any fun t => decide (t ∈ b.ts) := by
      have : ∀ l : List Tr, (!eqD (.lst (l.map enc)) (.lst [])) = !l.isEmpty := fun l => by cases l <;> rfl
      rw [this, Bool.eq_iff_iff]
      simp [List.filter_eq_nil_iff]
    refine (cmp_ok hc rfl).trans ?_
    generalize (a.ts.filter fun t => decide (t ∈ b.ts)).map enc = l at pl fe ⊢
    rw [← fe]
    have p1 : plainN 8 (.lst l) = true := pl
    have p2 : plainN 8 (.lst []) = true := rfl
    simp [p1, p2]
end K52
end

section
set_option maxRecDepth 100007
set_option maxHeartbeats 4000007
namespace K52
open Z PySem L2 PyProof.Rows
theorem loop_held7 (C : Ct) {ro : Ro} (h2 : ro 2 = false) (h3 : ro 3 = false) (s0 s1 x y u : Option O) : ∀ (ds : List D) (kvs : List (D × D)) (w : Option O), (∀ d ∈ ds, okKey true d = true) → kvs.length + ds.length ≤ 100000 → ∃ w', forF (asg1 ro (.nm 3)) (evS C ro (.seq (.setIx 2 (.lc 3) (.kon (.bl true))) .nil)) ds [s0, s1, some (.dct true kvs), w, x, y, u] =
    .nxt [s0, s1, some (.dct true (hld kvs ds)), w', x, y, u] := by
  intro ds
  induction ds with
  | nil => intro kvs w _ _; exact ⟨w, rfl⟩
  | cons d ds ih =>
    intro kvs w hk hl
    rw [List.length_cons] at hl
    have hp := putD_len kvs d (.bl true)
    obtain ⟨w', e⟩ := ih (putD kvs d (.bl true)) (some (.val d)) (fun d h => hk d (by simp [h])) (by omega)
    refine ⟨w', ?_⟩
    have hs := sl_big
    have b2 : kvs.length < sizeLine := by omega
    have ok := hk d (by simp)
    have st : evS C ro (.seq (.setIx 2 (.lc 3) (.kon (.bl true))) .nil) [s0, s1, some (.dct true kvs), some (.val d), x, y, u] = .nxt [s0, s1, some (.dct true (putD kvs d (.bl true))), some (.val d), x, y, u] := by
      simp [b2, ok, -okKey]
    rw [forF, show asg1 ro (.nm 3) d [s0, s1, some (.dct true kvs), w, x, y, u] = some [s0, s1, some (.dct true kvs), some (.val d), x, y, u] by simp [h3]]
    simp only [st]
    rw [e]
    rfl
abbrev bdF : Sm := .seq (.ife (.or (.cons (.cmp .inn (.tup (.cons (.lc 4) (.cons (.bin .sub (.lc 5) (.kon (.int 1))) (.cons (.lc 6) .nil)))) (.lc 2)) (.cons (.cmp .inn (.tup (.cons (.lc 4) (.cons (.lc 5) (.cons (.bin .sub (.lc 6) (.kon (.int 1))) .nil)))) (.lc 2)) .nil))) (.seq (.ret (.kon (.bl true))) .nil) .nil) .nil
def below (b : Bx) (t : Tr) : Bool := decide ((t.1, t.2.1 - 1, t.2.2) ∈ b.ts) || decide ((t.1, t.2.1, t.2.2 - 1) ∈ b.ts)
theorem loop_find (C : Ct) {ro : Ro} (h4 : ro 4 = false) (h5 : ro 5 = false) (h6 : ro 6 = false) (s0 s1 w : Option O) (b : Bx) : ∀ (ts : List Tr) (x y u : Option O), ∃ x' y' u', forF (asg1 ro (.tp (.cons (.nm 4) (.cons (.nm 5) (.cons (.nm 6) .nil))))) (evS C ro bdF) (ts.map enc) [s0, s1, some (.dct true ((hlT [] b.ts).map kv)), w, x, y, u] =
    if (ts.any (below b)) = true then .ret (.val (.bl true)) [s0, s1, some (.dct true ((hlT [] b.ts).map kv)), w, x', y', u'] else .nxt [s0, s1, some (.dct true ((hlT [] b.ts).map kv)), w, x', y', u'] := by
  intro ts
  induction ts with
  | nil => intro x y u; exact ⟨x, y, u, rfl⟩
  | cons t ts ih =>
    intro x y u
    obtain ⟨c, p, q⟩ := t
    have hs := sl_big
    have b1 : 3 ≤ sizeLine := by omega
    have k1 := look_held b (c, p - 1, q)
    have k2 := look_held b (c, p, q - 1)
    have o1 : okKey true (.tup [.int c, .int (p - 1), .int q]) = true := rfl
    have o2 : okKey true (.tup [.int c, .int p, .int (q - 1)]) = true := rfl
    unfold enc at k1 k2
    simp only at k1 k2
    have tg : asg1 ro (.tp (.cons (.nm 4) (.cons (.nm 5) (.cons (.nm 6) .nil)))) (enc (c, p, q)) [s0, s1, some (.dct true ((hlT [] b.ts).map kv)), w, x, y, u] = some [s0, s1, some (.dct true ((hlT [] b.ts).map kv)), w, some (.val (.int c)), some (.val (.int p)), some (.val (.int q))] := by
      simp [enc, h4, h5, h6]
    have st : evS C ro bdF [s0, s1, some (.dct true ((hlT [] b.ts).map kv)), w, some (.val (.int c)), some (.val (.int p)), some (.val (.int q))] = if below b (c, p, q) = true then .ret (.val (.bl true)) [s0, s1, some (.dct true ((hlT [] b.ts).map kv)), w, some (.val (.int c)), some (.val (.int p)), some (.val (.int q))] else .nxt [s0, s1, some (.dct true ((hlT [] b.ts).map kv)), w, some (.val (.int c)), some (.val (.int p)), some (.val (.int q))] := by
      generalize (hlT [] b.ts).map kv = kvs at k1 k2
      unfold below
      simp only
      by_cases h1 : (c, p - 1, q) ∈ b.ts <;> by_cases h2 : (c, p, q - 1) ∈ b.ts <;> simp [h1, h2, b1, o1, o2, k1, k2, -okKey]
    rw [List.map_cons, forF, tg]
    simp only [st]
    cases hb : below b (c, p, q) with
    | true => exact ⟨some (.val (.int c)), some (.val (.int p)), some (.val (.int q)), by simp [hb]⟩
    | false =>
      obtain ⟨x', y', u', e⟩ := ih (some (.val (.int c))) (some (.val (.int p))) (some (.val (.int q)))
      exact ⟨x', y', u', by simp only [Bool.false_eq_true, if_false, List.any_cons, hb, Bool.false_or]; exact e⟩
def Bx.lrests (a b : Bx) : Bool := if (decide (a.l < b.f) || (decide (b.l < a.f) || a.ts.any fun t => decide (t ∈ b.ts))) = true then false else a.ts.any (below b)
theorem run_lrests (n : Nat) {a b : Bx} (ha : a.Ok) (hb : b.Ok) : (pr.ct (n + 3)).run 14 [.val a.t, .val b.t] = .ret (.val (.bl (a.lrests b))) [some (.val a.t), some (.val b.t)] := by
  rw [ru14]
  have gm := run_lmeets n ha hb
  have ga := sq_get (n + 1) ha
  have gb := sq_get (n + 1) hb
  have lb := ts_len hb
  have hs := sl_big
  have b1 : 3 ≤ sizeLine := by omega
  obtain ⟨w', e⟩ := loop_held7 (pr.ct (n + 2)) (ro := d14.ro) rfl rfl (some (.val a.t)) (some (.val b.t)) none none none (b.ts.map enc) [] none (fun d hd => by obtain ⟨t, _, rfl⟩ := List.mem_map.mp hd; exact key_enc t) (by rw [List.length_map]; simp; omega)
  have e2 : hld [] (b.ts.map enc) = (hlT [] b.ts).map kv := hld_kv b.ts []
  rw [e2] at e
  obtain ⟨x', y', u', ef⟩ := loop_find (pr.ct (n + 2)) (ro := d14.ro) rfl rfl rfl (some (.val a.t)) (some (.val b.t)) w' b a.ts none none none
  unfold Bx.lrests
  have cnd : (ev (pr.ct (n + 2)) (.or (.cons (.cmp .lt (.ix (.lc 0) (.kon (.int 1))) (.ix (.lc 1) (.kon (.int 0)))) (.cons (.cmp .lt (.ix (.lc 1) (.kon (.int 1))) (.ix (.lc 0) (.kon (.int 0)))) (.cons (.call 13 (.cons (.lc 0) (.cons (.lc 1) .nil))) .nil))))).2 [some (.val a.t), some (.val b.t), none, none, none, none, none] =
      .ok (decide (a.l < b.f) || (decide (b.l < a.f) || a.ts.any fun t => decide (t ∈ b.ts))) [some (.val a.t), some (.val b.t), none, none, none, none, none] := by
    unfold Bx.t at gm ⊢
    simp [atI, ixN, apF, given, lendA, backA, gm]
  cases hc : (decide (a.l < b.f) || (decide (b.l < a.f) || a.ts.any fun t => decide (t ∈ b.ts))) with
  | true =>
    rw [hc] at cnd
    simp only [if_true]
    exact runD_ret (z := [some (.val a.t), some (.val b.t), none, none, none, none, none]) rfl (seq_ret (ife_t cnd rfl)) rfl
  | false =>
    rw [hc] at cnd
    simp only [Bool.false_eq_true, if_false]
    have pre : ∀ {x : S}, evS (pr.ct (n + 2)) d14.ro (.seq (.frl (.tp (.cons (.nm 4) (.cons (.nm 5) (.cons (.nm 6) .nil)))) (.seq none (.call 12 (.cons (.lc 0) .nil))) bdF) (.seq (.ret (.kon (.bl false))) .nil)) [some (.val a.t), some (.val b.t), some (.dct true ((hlT [] b.ts).map kv)), w', none, none, none] = x → evS (pr.ct (n + 2)) d14.ro d14.body [some (.val a.t), some (.val b.t), none, none, none, none, none] = x := fun {x} hx => by
      refine seq_nxt (ife_f cnd rfl) (seq_nxt (z1 := [some (.val a.t), some (.val b.t), some (.dct true []), none, none, none, none]) rfl (seq_nxt (z1 := [some (.val a.t), some (.val b.t), some (.dct true ((hlT [] b.ts).map kv)), w', none, none, none]) ((frl_ok (z1 := [some (.val a.t), some (.val b.t), some (.dct true []), none, none, none, none]) (ds := b.ts.map enc) (rs := none) ?_).trans ?_) hx))
      · simp [apF, given, lendA, backA, gb, clm, itemsD]
      · show S.back none (forF (asg1 d14.ro (.nm 3)) (evS (pr.ct (n + 2)) d14.ro _) _ _) = _
        rw [e]
        rfl
    have it : evI (pr.ct (n + 2)) (.seq none (.call 12 (.cons (.lc 0) .nil))) [some (.val a.t), some (.val b.t), some (.dct true ((hlT [] b.ts).map kv)), w', none, none, none] = .ok (a.ts.map enc, none) [some (.val a.t), some (.val b.t), some (.dct true ((hlT [] b.ts).map kv)), w', none, none, none] := by
      simp [apF, given, lendA, backA, ga, clm, itemsD]
    cases hr : a.ts.any (below b) with
    | true =>
      rw [hr] at ef
      simp only [if_true] at ef
      refine runD_ret (z := [some (.val a.t), some (.val b.t), some (.dct true ((hlT [] b.ts).map kv)), w', x', y', u']) rfl (pre (seq_ret ((frl_ok it).trans ?_))) rfl
      show S.back none (forF (asg1 d14.ro _) (evS (pr.ct (n + 2)) d14.ro bdF) _ _) = _
      rw [ef]
      rfl
    | false =>
      rw [hr] at ef
      simp only [Bool.false_eq_true, if_false] at ef
      refine runD_ret (z := [some (.val a.t), some (.val b.t), some (.dct true ((hlT [] b.ts).map kv)), w', x', y', u']) rfl (pre (seq_nxt ((frl_ok it).trans ?_) (seq_ret rfl))) rfl
      show S.back none (forF (asg1 d14.ro _) (evS (pr.ct (n + 2)) d14.ro bdF) _ _) = _
      rw [ef]
      rfl
end K52
end

section
set_option maxRecDepth 100007
set_option maxHeartbeats 8000007
namespace K52
open Z PySem L2 PyProof.Rows
/-! ### draws -/
structure Hst where
  cells : List Int
  i : Int
  r : Int
  t : Int
  ok : HandOk cells i r t
def Hst.o (s : Hst) : O := handO s.cells s.i s.r s.t
theorem draw (n : Nat) (s : Hst) (m : Int) (h0 : 0 < m) (h1 : m < 4294967296) : ∃ (x : Int) (s' : Hst), 0 ≤ x ∧ x < m ∧ (pr.ct (n + 2)).run 11 [s.o, .val (.int m)] = .ret (.val (.int x)) [some s'.o, some (.val (.int m))] := by
  obtain ⟨x, i', r', t', a1, a2, ok, e⟩ := run_draw (pr.ct (n + 1)) 9 (mo9 _) (fun a b ha hb => by rw [ru9]; exact run_mix _ a b ha hb) s.ok h0 h1
  refine ⟨x, ⟨s.cells, i', r', t', ok⟩, a1, a2, ?_⟩
  rw [ru11]
  exact e
structure Bx.Bd (b : Bx) (k : Int) : Prop where
  f0 : 0 ≤ b.f
  fl : b.f ≤ b.l
  l1 : b.l ≤ 11
  x0 : 0 ≤ b.x
  x1 : b.x ≤ 6 + 3 * k
  y0 : 0 ≤ b.y
  y1 : b.y ≤ 6 + 3 * k
  o0 : 1 ≤ b.o
  o1 : b.o ≤ 3
  d0 : 1 ≤ b.d
  d1 : b.d ≤ 3
theorem Bx.Bd.ok {b : Bx} {k : Int} (h : b.Bd k) (hk : k ≤ 20) : b.Ok := ⟨h.f0, h.fl, by have := h.l1; omega, h.x0, by have := h.x1; omega, h.y0, by have := h.y1; omega, h.o0, by have := h.o1; omega, h.d0, by have := h.d1; omega⟩
theorem plain_t (n : Nat) (b : Bx) : plainN (n + 1) b.t = true := by cases n <;> rfl
theorem plain_rows (rows : List Bx) : plainN 8 (.lst (rows.map Bx.t)) = true := List.all_eq_true.mpr fun d hd => by obtain ⟨b, _, rfl⟩ := List.mem_map.mp hd; exact plain_t _ _
theorem run_box (n : Nat) (s : Hst) (rows : List Bx) (hr : ∀ b ∈ rows, b.Bd rows.length) (hl : rows.length ≤ 12) : ∃ (b : Bx) (s' : Hst), b.Bd (rows.length + 1) ∧ (pr.ct (n + 3)).run 16 [s.o, .lst (rows.map Bx.t)] = .ret (.val b.t) [some s'.o, some (.lst (rows.map Bx.t))] := by
  have hs := sl_big
  have b6 : 6 ≤ sizeLine := by omega
  obtain ⟨f, s1, f0, f1, e1⟩ := draw n s 10 (by decide) (by decide)
  obtain ⟨w, s2, w0, w1, e2⟩ := draw n s1 3 (by decide) (by decide)
  obtain ⟨h, s3, h0, h1, e3⟩ := draw n s2 3 (by decide) (by decide)
  obtain ⟨l, s4, l0, l1, e4⟩ := draw n s3 3 (by decide) (by decide)
  obtain ⟨x, s5, x0, x1, e5⟩ := draw n s4 6 (by decide) (by decide)
  obtain ⟨y, s6, y0, y1, e6⟩ := draw n s5 6 (by decide) (by decide)
  have bd0 : (⟨f, f + l, x, y, 1 + w, 1 + h⟩ : Bx).Bd (rows.length + 1) := ⟨f0, by simp only; omega, by simp only; omega, x0, by simp only; omega, y0, by simp only; omega, by simp only; omega, by simp only; omega, by simp only; omega, by simp only; omega⟩
  have pl := plain_rows rows
  have p2 : plainN 8 (.lst []) = true := rfl
  cases hrows : rows with
  | nil =>
    subst hrows
    refine ⟨_, s6, bd0, ?_⟩
    rw [ru16]
    simp [runD, d16, apF, given, lendA, backA, e1, e2, e3, e4, e5, e6, b6, p2, eqD, eqDs, exPar, takeM, setsS, Bx.t]
  | cons b0 rest =>
    have hne : eqDs (rows.map Bx.t) [] = false := by rw [hrows]; rfl
    rw [← hrows]
    have hpos : 0 < rows.length := by rw [hrows]; simp
    clear hrows
    obtain ⟨k, s7, k0, k1, e7⟩ := draw n s6 4 (by decide) (by decide)
    by_cases hk : k = 0
    · subst hk
      refine ⟨_, s7, bd0, ?_⟩
      rw [ru16]
      simp [runD, d16, apF, given, lendA, backA, e1, e2, e3, e4, e5, e6, e7, b6, pl, p2, hne, plain_int, eqD, exPar, takeM, setsS, Bx.t]
    · obtain ⟨j, s8, j0, j1, e8⟩ := draw n s7 rows.length (by omega) (by omega)
      obtain ⟨g, s9, g0, g1, e9⟩ := draw n s8 7 (by decide) (by decide)
      have hj : j.toNat < rows.length := by omega
      have hat : atI (rows.map Bx.t) j = some (rows[j.toNat].t) := by
        unfold atI ixN
        rw [List.length_map, if_pos j0, if_pos j1]
        simp [hj]
      have ob := hr _ (List.getElem_mem hj)
      generalize rows[j.toNat] = q at hat ob
      have hl2 : ((rows.map Bx.t).length : Int) = rows.length := by rw [List.length_map]
      have a6 : atI [D.int q.f, .int q.l, .int q.x, .int q.y, .int q.o, .int q.d] 0 = some (.int q.f) ∧ atI [D.int q.f, .int q.l, .int q.x, .int q.y, .int q.o, .int q.d] 1 = some (.int q.l) ∧ atI [D.int q.f, .int q.l, .int q.x, .int q.y, .int q.o, .int q.d] 2 = some (.int q.x) ∧ atI [D.int q.f, .int q.l, .int q.x, .int q.y, .int q.o, .int q.d] 3 = some (.int q.y) ∧ atI [D.int q.f, .int q.l, .int q.x, .int q.y, .int q.o, .int q.d] 4 = some (.int q.o) ∧ atI [D.int q.f, .int q.l, .int q.x, .int q.y, .int q.o, .int q.d] 5 = some (.int q.d) := ⟨rfl, rfl, rfl, rfl, rfl, rfl⟩
      have c6 : atI [D.int f, .int (f + l), .int x, .int y, .int (1 + w), .int (1 + h)] 1 = some (.int (f + l)) := rfl
      have o1 := ob.f0; have o2 := ob.fl; have o3 := ob.l1; have o4 := ob.x0; have o5 := ob.x1; have o6 := ob.y0; have o7 := ob.y1; have o8 := ob.o0; have o9 := ob.o1; have o10 := ob.d0; have o11 := ob.d1
      by_cases g0' : g = 0
      · subst g0'
        refine ⟨q, s9, ⟨by omega, by omega, by omega, by omega, by omega, by omega, by omega, by omega, by omega, by omega, by omega⟩, ?_⟩
        rw [ru16]
        simp [runD, d16, apF, given, lendA, backA, e1, e2, e3, e4, e5, e6, e7, e8, e9, b6, pl, p2, hne, plain_int, eqD, exPar, takeM, setsS, Bx.t, hk, hat, hl2]
      · by_cases g2 : g ≤ 2
        · by_cases hc : q.f ≤ f + l
          ·
            refine ⟨⟨q.f, f + l, q.x + q.o, if q.y - 1 + g > 0 then q.y - 1 + g else 0, 1 + w, 1 + h⟩, s9, ⟨by simp only; (try split) <;> omega, by simp only; (try split) <;> omega, by simp only; (try split) <;> omega, by simp only; (try split) <;> omega, by simp only; (try split) <;> omega, by simp only; (try split) <;> omega, by simp only; (try split) <;> omega, by simp only; (try split) <;> omega, by simp only; (try split) <;> omega, by simp only; (try split) <;> omega, by simp only; (try split) <;> omega⟩, ?_⟩
            rw [ru16]
            simp [runD, d16, apF, given, lendA, backA, e1, e2, e3, e4, e5, e6, e7, e8, e9, b6, pl, p2, hne, plain_int, eqD, exPar, takeM, setsS, Bx.t, hk, hat, hl2, g0', g2, hc, a6, c6, biMax]
          ·
            refine ⟨⟨q.f, q.l, q.x + q.o, if q.y - 1 + g > 0 then q.y - 1 + g else 0, 1 + w, 1 + h⟩, s9, ⟨by simp only; (try split) <;> omega, by simp only; (try split) <;> omega, by simp only; (try split) <;> omega, by simp only; (try split) <;> omega, by simp only; (try split) <;> omega, by simp only; (try split) <;> omega, by simp only; (try split) <;> omega, by simp only; (try split) <;> omega, by simp only; (try split) <;> omega, by simp only; (try split) <;> omega, by simp only; (try split) <;> omega⟩, ?_⟩
            rw [ru16]
            simp [runD, d16, apF, given, lendA, backA, e1, e2, e3, e4, e5, e6, e7, e8, e9, b6, pl, p2, hne, plain_int, eqD, exPar, takeM, setsS, Bx.t, hk, hat, hl2, g0', g2, hc, a6, c6, biMax]
        · by_cases g4 : g ≤ 4
          ·
            refine ⟨⟨q.f, q.l, if q.x - 3 + g > 0 then q.x - 3 + g else 0, q.y + q.d, 1 + w, 1 + h⟩, s9, ⟨by simp only; (try split) <;> omega, by simp only; (try split) <;> omega, by simp only; (try split) <;> omega, by simp only; (try split) <;> omega, by simp only; (try split) <;> omega, by simp only; (try split) <;> omega, by simp only; (try split) <;> omega, by simp only; (try split) <;> omega, by simp only; (try split) <;> omega, by simp only; (try split) <;> omega, by simp only; (try split) <;> omega⟩, ?_⟩
            rw [ru16]
            simp [runD, d16, apF, given, lendA, backA, e1, e2, e3, e4, e5, e6, e7, e8, e9, b6, pl, p2, hne, plain_int, eqD, exPar, takeM, setsS, Bx.t, hk, hat, hl2, g0', g2, g4, a6, c6, biMax]
          · by_cases g5 : g = 5
            ·
              subst g5
              refine ⟨⟨q.f, q.l, q.x + q.o, q.y + q.d, 1 + w, 1 + h⟩, s9, ⟨by simp only; (try split) <;> omega, by simp only; (try split) <;> omega, by simp only; (try split) <;> omega, by simp only; (try split) <;> omega, by simp only; (try split) <;> omega, by simp only; (try split) <;> omega, by simp only; (try split) <;> omega, by simp only; (try split) <;> omega, by simp only; (try split) <;> omega, by simp only; (try split) <;> omega, by simp only; (try split) <;> omega⟩, ?_⟩
              rw [ru16]
              simp [runD, d16, apF, given, lendA, backA, e1, e2, e3, e4, e5, e6, e7, e8, e9, b6, pl, p2, hne, plain_int, eqD, exPar, takeM, setsS, Bx.t, hk, hat, hl2, a6, c6, biMax]
            ·
              refine ⟨⟨q.l, q.l, q.x, q.y, 1 + w, 1 + h⟩, s9, ⟨by simp only; (try split) <;> omega, by simp only; (try split) <;> omega, by simp only; (try split) <;> omega, by simp only; (try split) <;> omega, by simp only; (try split) <;> omega, by simp only; (try split) <;> omega, by simp only; (try split) <;> omega, by simp only; (try split) <;> omega, by simp only; (try split) <;> omega, by simp only; (try split) <;> omega, by simp only; (try split) <;> omega⟩, ?_⟩
              rw [ru16]
              simp [runD, d16, apF, given, lendA, backA, e1, e2, e3, e4, e5, e6, e7, e8, e9, b6, pl, p2, hne, plain_int, eqD, exPar, takeM, setsS, Bx.t, hk, hat, hl2, g0', g2, g4, g5, a6, c6, biMax]
end K52
end

section
set_option maxRecDepth 100007
set_option maxHeartbeats 8000007
namespace K52
open Z PySem L2 PyProof.Rows
theorem run_boxedO (n : Nat) (b : Bx) : (pr.ct (n + 1)).run 15 [.obj 0 b.fs] = .ret (.val b.t) [some (.obj 0 b.fs)] := by
  rw [ru15]
  have s6 : 6 ≤ sizeLine := by decide
  simp [runD, d15, Bx.t, Bx.fs, s6]
theorem run_keptL (n : Nat) (b : Bx) : (pr.ct (n + 2)).run 17 [.lst [.int b.f, .int b.l, .int b.x, .int b.y, .int b.o, .int b.d]] = .ret (.obj 0 b.fs) [some (.lst [.int b.f, .int b.l, .int b.x, .int b.y, .int b.o, .int b.d])] := by
  rw [ru17]
  have := run_init n b
  simp [runD, d17, atI, ixN, evMkA, given, lendA, backA, this]
theorem eqDs_enc : ∀ l : List Tr, eqDs (l.map enc) (l.map enc) = true
  | [] => rfl
  | t :: l => by
    rw [List.map_cons, eqDs, eqD_enc, eqDs_enc l]
    simp
theorem eqD_sq (b : Bx) : eqDs b.sq b.sq = true := by rw [sq_ts]; exact eqDs_enc _
theorem eqD_t (b : Bx) : eqD b.t b.t = true := by simp [Bx.t, eqD, eqDs]
theorem plainL {l : List D} (h : l.all (plainN 7) = true) : plainN 8 (.lst l) = true ∧ plainN 8 (.tup l) = true := ⟨h, h⟩
abbrev dc1 : Ex := .or (.cons (.cmp .ne (.call 15 (.cons (.lc 2) .nil)) (.lc 1)) (.cons (.cmp .ne (.attr (.lc 2) 9) (.bi .tuple (.cons (.lc 3) .nil))) (.cons (.cmp .ne (.bi .len (.cons (.lc 2) .nil)) (.bi .len (.cons (.lc 3) .nil))) .nil)))
theorem al_c1 (n : Nat) {b : Bx} (h : b.Ok) (s a4 a5 a6 a7 a8 : Option O) : (ev (pr.ct (n + 3)) dc1).2 [s, some (.val b.t), some (.obj 0 b.fs), some (.lst b.sq), a4, a5, a6, a7, a8] = .ok false [s, some (.val b.t), some (.val b.ob), some (.lst b.sq), a4, a5, a6, a7, a8] := by
  have e1 := run_boxedO (n + 2) b
  have e2 := run_sqs (n + 2) h (.obj 0 b.fs) (.inr rfl)
  have e3 := run_length (n + 1) h
  have p1 := plain_t 7 b
  have p2 := eqD_t b
  have p3 := plainL (sq_plain b)
  have p4 := eqD_sq b
  have hl : b.sq.length ≤ 1000 := by rw [sq_ts, List.length_map]; exact ts_len h
  have hl2 : (b.sq.length : Int) < 9223372036854775808 := by omega
  have ld : lenD (.lst b.sq) = some b.sq.length := by simp [lenD]
  generalize b.sq = sq at e2 e3 p3 p4 hl2 ld ⊢
  have e4 : eqD (.tup sq) (.tup sq) = true := p4
  have e5 : ∀ i : Int, eqD (.int i) (.int i) = true := fun i => by simp [eqD]
  unfold Bx.ob at e3 ⊢
  simp [apF, given, lendA, backA, e1, e2, e3, p1, p2, p3, e4, e5, lenDu, dunF, hl2, ld, plain_int, noX]
theorem run_has' (n : Nat) {b : Bx} (h : b.Ok) (t : Tr) : (pr.ct (n + 2)).run 6 [.val b.ob, .val (enc t)] = .ret (.val (.bl (decide (t ∈ b.ts)))) [some (.val b.ob), some (.val (enc t))] := by
  obtain ⟨i, j, k⟩ := t
  have := run_has n h i j k
  rw [sq_ts] at this
  have e := any_enc b.ts (i, j, k)
  unfold enc at e ⊢
  simp only at e ⊢
  rw [this]
  have : (b.ts.map fun t => D.tup [.int t.1, .int t.2.1, .int t.2.2]) = b.ts.map enc := rfl
  rw [this] at e
  rw [e]
abbrev dB : Sm := .seq (.asg 5 (.ix (.lc 3) (.call 11 (.cons (.lc 0) (.cons (.bi .len (.cons (.lc 3) .nil)) .nil))))) (.seq (.ife (.cmp .notin (.lc 5) (.lc 2)) (.seq (.ret (.kon (.bl false))) .nil) .nil) (.seq (.asg 6 (.tup (.cons (.bin .sub (.bin .add (.ix (.lc 5) (.kon (.int 0))) (.call 11 (.cons (.lc 0) (.cons (.kon (.int 3)) .nil)))) (.kon (.int 1))) (.cons (.bin .sub (.bin .add (.ix (.lc 5) (.kon (.int 1))) (.call 11 (.cons (.lc 0) (.cons (.kon (.int 4)) .nil)))) (.kon (.int 1))) (.cons (.bin .sub (.bin .add (.ix (.lc 5) (.kon (.int 2))) (.call 11 (.cons (.lc 0) (.cons (.kon (.int 4)) .nil)))) (.kon (.int 1))) .nil))))) (.seq (.ife (.cmp .ne (.cmp .inn (.lc 6) (.lc 2)) (.cmp .inn (.lc 6) (.lc 3))) (.seq (.ret (.kon (.bl false))) .nil) .nil) .nil)))
theorem ts_pos {b : Bx} (h : b.Ok) : 0 < b.ts.length := by
  have : (b.f, b.x, b.y) ∈ b.ts := (mem_ts h).mpr ⟨⟨by omega, h.fl⟩, ⟨by omega, by have := h.o0; omega⟩, ⟨by omega, by have := h.d0; omega⟩⟩
  exact List.length_pos_of_mem this
theorem al_body (n : Nat) {b : Bx} (h : b.Ok) {ro : Ro} (h5 : ro 5 = false) (h6 : ro 6 = false) (s : Hst) (a4 a5 a6 a7 a8 : Option O) : ∃ (s' : Hst) (a5' a6' : Option O), evS (pr.ct (n + 3)) ro dB [some s.o, some (.val b.t), some (.val b.ob), some (.lst (b.ts.map enc)), a4, a5, a6, a7, a8] =
    .nxt [some s'.o, some (.val b.t), some (.val b.ob), some (.lst (b.ts.map enc)), a4, a5', a6', a7, a8] := by
  have hlen := ts_len h
  have hpos := ts_pos h
  have hs := sl_big
  have b3 : 3 ≤ sizeLine := by omega
  obtain ⟨j, s1, j0, j1, e1⟩ := draw (n + 1) s b.ts.length (by omega) (by omega)
  obtain ⟨x, s2, x0, x1, e2⟩ := draw (n + 1) s1 3 (by omega) (by omega)
  obtain ⟨y, s3, y0, y1, e3⟩ := draw (n + 1) s2 4 (by omega) (by omega)
  obtain ⟨w, s4, w0, w1, e4⟩ := draw (n + 1) s3 4 (by omega) (by omega)
  have hj : j.toNat < b.ts.length := by omega
  have hat : atI (b.ts.map enc) j = some (enc b.ts[j.toNat]) := by
    unfold atI ixN
    rw [List.length_map, if_pos j0, if_pos j1]
    simp [hj]
  have hm := List.getElem_mem hj
  have hl2 : (b.ts.map enc).length = b.ts.length := List.length_map _
  have g1 := fun t => run_has' (n + 1) h t
  have g2 := any_enc b.ts
  have pl := List.all_eq_true.mp (show (b.ts.map enc).all (plainN 7) = true by rw [← sq_ts]; exact sq_plain b)
  generalize b.ts[j.toNat] = q at hat hm
  obtain ⟨c, u, v⟩ := q
  have a0 : atI [D.int c, .int u, .int v] 0 = some (.int c) ∧ atI [D.int c, .int u, .int v] 1 = some (.int u) ∧ atI [D.int c, .int u, .int v] 2 = some (.int v) := ⟨rfl, rfl, rfl⟩
  have g3 := g1 (c, u, v)
  have g4 := g1 (c + x - 1, u + y - 1, v + w - 1)
  have g5 := g2 (c + x - 1, u + y - 1, v + w - 1)
  have p7 : plainN 7 (enc (c + x - 1, u + y - 1, v + w - 1)) = true := plain_enc _ _
  refine ⟨s4, some (.val (enc (c, u, v))), some (.val (enc (c + x - 1, u + y - 1, v + w - 1))), ?_⟩
  unfold Bx.ob at *
  clear g1 g2
  generalize b.ts.map enc = L at hat hl2 g5 pl ⊢
  unfold enc at *
  simp only at *
  have pb : ∀ t : Bool, plainN 8 (.bl t) = true := fun t => rfl
  have eb : ∀ t : Bool, eqD (.bl t) (.bl t) = true := fun t => by simp [eqD]
  simp [h5, h6, apF, given, lendA, backA, e1, e2, e3, e4, hat, hl2, a0, dunC, inDu, dunF, g3, hm, onlyB, b3, g4, if_pos pl, p7, g5, pb, eb]
abbrev tl1 : Sm := .seq (.asg 7 (.bi .list (.cons (.lc 1) .nil))) (.seq (.asg 8 (.call 11 (.cons (.lc 0) (.cons (.kon (.int 6)) .nil)))) (.seq (.setIx 7 (.lc 8) (.bin .add (.ix (.lc 7) (.lc 8)) (.kon (.int 1)))) (.seq (.setIx 7 (.kon (.int 1)) (.bi .max (.cons (.ix (.lc 7) (.kon (.int 0))) (.cons (.ix (.lc 7) (.kon (.int 1))) .nil)))) .nil)))
abbrev Bx.l6 (b : Bx) : D := .lst [.int b.f, .int b.l, .int b.x, .int b.y, .int b.o, .int b.d]
theorem al_t1 (n : Nat) (b : Bx) (hfl : b.f ≤ b.l) {ro : Ro} (h7 : ro 7 = false) (h8 : ro 8 = false) (s : Hst) (a2 a3 a4 a5 a6 a7 a8 : Option O) : ∃ (s' : Hst) (b' : Bx) (p : Option O), b.same b' = false ∧ evS (pr.ct (n + 3)) ro tl1 [some s.o, some (.val b.t), a2, a3, a4, a5, a6, a7, a8] =
    .nxt [some s'.o, some (.val b.t), a2, a3, a4, a5, a6, some (.lst [.int b'.f, .int b'.l, .int b'.x, .int b'.y, .int b'.o, .int b'.d]), p] := by
  obtain ⟨j, s1, j0, j1, e1⟩ := draw (n + 1) s 6 (by omega) (by omega)
  have hj : j = 0 ∨ j = 1 ∨ j = 2 ∨ j = 3 ∨ j = 4 ∨ j = 5 := by omega
  obtain ⟨f, l, x, y, o, d⟩ := b
  simp only at hfl
  rcases hj with rfl | rfl | rfl | rfl | rfl | rfl
  · refine ⟨s1, ⟨f + 1, if l > f + 1 then l else f + 1, x, y, o, d⟩, some (.val (.int 0)), ?_, ?_⟩
    · simp [Bx.same]; omega
    · simp [h7, h8, apF, given, lendA, backA, e1, Bx.t, atI, ixN, biMax]
  · refine ⟨s1, ⟨f, if l + 1 > f then l + 1 else f, x, y, o, d⟩, some (.val (.int 1)), ?_, ?_⟩
    · simp [Bx.same]; intros; split <;> omega
    · simp [h7, h8, apF, given, lendA, backA, e1, Bx.t, atI, ixN, biMax]
  · refine ⟨s1, ⟨f, if l > f then l else f, x + 1, y, o, d⟩, some (.val (.int 2)), ?_, ?_⟩
    · simp [Bx.same]; omega
    · simp [h7, h8, apF, given, lendA, backA, e1, Bx.t, atI, ixN, biMax]
  · refine ⟨s1, ⟨f, if l > f then l else f, x, y + 1, o, d⟩, some (.val (.int 3)), ?_, ?_⟩
    · simp [Bx.same]; omega
    · simp [h7, h8, apF, given, lendA, backA, e1, Bx.t, atI, ixN, biMax]
  · refine ⟨s1, ⟨f, if l > f then l else f, x, y, o + 1, d⟩, some (.val (.int 4)), ?_, ?_⟩
    · simp [Bx.same]; omega
    · simp [h7, h8, apF, given, lendA, backA, e1, Bx.t, atI, ixN, biMax]
  · refine ⟨s1, ⟨f, if l > f then l else f, x, y, o, d + 1⟩, some (.val (.int 5)), ?_, ?_⟩
    · simp [Bx.same]; omega
    · simp [h7, h8, apF, given, lendA, backA, e1, Bx.t, atI, ixN, biMax]
abbrev dc2 : Ex := .or (.cons (.cmp .eq (.lc 2) (.call 17 (.cons (.lc 7) .nil))) (.cons (.not (.cmp .eq (.lc 2) (.call 17 (.cons (.lc 1) .nil)))) (.cons (.cmp .eq (.lc 2) (.lc 1)) (.cons (.cmp .eq (.lc 2) (.lc 3)) .nil))))
theorem al_c2 (n : Nat) {b b' : Bx} (hb : b.same b' = false) (sq : List D) (s a4 a5 a6 a8 : Option O) : (ev (pr.ct (n + 3)) dc2).2 [s, some (.val b.t), some (.val b.ob), some (.lst sq), a4, a5, a6, some (.lst [.int b'.f, .int b'.l, .int b'.x, .int b'.y, .int b'.o, .int b'.d]), a8] =
    .ok false [s, some (.val b.t), some (.val b.ob), some (.val (.lst sq)), a4, a5, a6, some (.lst [.int b'.f, .int b'.l, .int b'.x, .int b'.y, .int b'.o, .int b'.d]), a8] := by
  have e1 := run_keptL (n + 1) b'
  have e2 := run_kept (n + 1) b
  have e3 := run_same (n + 2) b b'
  have e4 := run_same (n + 2) b b
  have e5 := run_other (n + 2) b [.int b.f, .int b.l, .int b.x, .int b.y, .int b.o, .int b.d] _ (.inl rfl)
  have e6 := run_other (n + 2) b sq _ (.inr rfl)
  have hbb : b.same b = true := by simp [Bx.same]
  unfold Bx.ob at *
  unfold Bx.t at *
  simp [apF, given, lendA, backA, e1, e2, e3, e4, e5, e6, dunC, eqDu, dunF, okNf, tyD, icD, onlyB, hb, hbb]
abbrev dc3 : Ex := .and (.cons (.cmp .eq (.attr (.lc 2) 9) (.bi .tuple (.cons (.lc 3) .nil))) (.cons (.cmp .eq (.call 15 (.cons (.lc 2) .nil)) (.lc 1)) .nil))
theorem al_c3 (n : Nat) {b : Bx} (h : b.Ok) (s a4 a5 a6 a7 a8 : Option O) : (ev (pr.ct (n + 3)) dc3).1 [s, some (.val b.t), some (.val b.ob), some (.val (.lst b.sq)), a4, a5, a6, a7, a8] =
    .ok (.tmp (.val (.bl true))) [s, some (.val b.t), some (.val b.ob), some (.val (.lst b.sq)), a4, a5, a6, a7, a8] := by
  have e1 := run_boxed (n + 2) b
  have e2 := run_sqs (n + 2) h (.val b.ob) (.inl rfl)
  have p1 := plain_t 7 b
  have p2 := eqD_t b
  have p3 := plainL (sq_plain b)
  have p4 := eqD_sq b
  generalize b.sq = sq at e2 p3 p4 ⊢
  have e4 : eqD (.tup sq) (.tup sq) = true := p4
  unfold Bx.ob at *
  unfold Bx.t at *
  simp [apF, given, lendA, backA, e1, e2, p1, p2, p3, e4, noX]
theorem exSeq_assoc (m1 m2 m3 : Zs → S) : exSeq m1 (exSeq m2 m3) = exSeq (exSeq m1 m2) m3 := by
  funext z
  unfold exSeq
  cases m1 z <;> rfl
theorem exSeq_skip (m : Zs → S) : exSeq m exSkip = m := by
  funext z
  unfold exSeq
  cases m z <;> rfl
theorem run_alone (n : Nat) {b : Bx} (h : b.Ok) (s : Hst) : ∃ s' : Hst, (pr.ct (n + 4)).run 18 [s.o, .val b.t] = .ret (.val (.bl true)) [some s'.o, some (.val b.t)] := by
  have hsq := sq_ts b
  obtain ⟨s1, x5, x6, f1⟩ := al_body n h (ro := d18.ro) rfl rfl s (some (.val (.int 0))) none none none none
  obtain ⟨s2, y5, y6, f2⟩ := al_body n h (ro := d18.ro) rfl rfl s1 (some (.val (.int 1))) x5 x6 none none
  obtain ⟨s3, z5, z6, f3⟩ := al_body n h (ro := d18.ro) rfl rfl s2 (some (.val (.int 2))) y5 y6 none none
  obtain ⟨s4, b', p, hb, f4⟩ := al_t1 n b h.fl (ro := d18.ro) rfl rfl s3 (some (.val b.ob)) (some (.lst b.sq)) (some (.val (.int 2))) z5 z6 none none
  rw [← hsq] at f1 f2 f3
  have c1 := al_c1 n h (some s.o) none none none none none
  have c2 := al_c2 n hb b.sq (some s4.o) (some (.val (.int 2))) z5 z6 p
  have c3 := al_c3 n h (some s4.o) (some (.val (.int 2))) z5 z6 (some (.lst [.int b'.f, .int b'.l, .int b'.x, .int b'.y, .int b'.o, .int b'.d])) p
  have e0 := run_kept (n + 1) b
  refine ⟨s4, ?_⟩
  rw [ru18]
  refine runD_ret (z := [some s4.o, some (.val b.t), some (.val b.ob), some (.val (.lst b.sq)), some (.val (.int 2)), z5, z6, some (.lst [.int b'.f, .int b'.l, .int b'.x, .int b'.y, .int b'.o, .int b'.d]), p]) rfl ?_ rfl
  refine seq_nxt (z1 := [some s.o, some (.val b.t), some (.obj 0 b.fs), none, none, none, none, none, none]) ?_ ?_
  · exact st_asg (i := 2) (h := .tmp (.obj 0 b.fs)) (z1 := [some s.o, some (.val b.t), none, none, none, none, none, none, none]) (z2 := [some s.o, some (.val b.t), none, none, none, none, none, none, none]) (by simp [apF, given, lendA, backA, e0, d18]) rfl rfl (by simp)
  refine seq_nxt (z1 := [some s.o, some (.val b.t), some (.obj 0 b.fs), some (.lst b.sq), none, none, none, none, none]) ?_ ?_
  · have g := sq_get (n + 2) h
    rw [← hsq] at g
    exact st_asg (i := 3) (h := .tmp (.lst b.sq)) (z1 := [some s.o, some (.val b.t), some (.obj 0 b.fs), none, none, none, none, none, none]) (z2 := [some s.o, some (.val b.t), some (.obj 0 b.fs), none, none, none, none, none, none]) (by simp [apF, given, lendA, backA, g]) rfl rfl (by simp)
  refine seq_nxt (ife_f c1 rfl) ?_
  refine seq_nxt (z1 := [some s3.o, some (.val b.t), some (.val b.ob), some (.lst b.sq), some (.val (.int 2)), z5, z6, none, none]) ((frl_ok (z1 := [some s.o, some (.val b.t), some (.val b.ob), some (.lst b.sq), none, none, none, none, none]) (ds := [.int 0, .int 1, .int 2]) (rs := none) (by rfl)).trans ?_) ?_
  · show S.back none (forF (asg1 d18.ro (.nm 4)) (evS (pr.ct (n + 3)) d18.ro dB) _ _) = _
    have t0 : ∀ (i : Int) (q0 q1 q2 q3 q4 q5 q6 q7 q8 : Option O), asg1 d18.ro (.nm 4) (.int i) [q0, q1, q2, q3, q4, q5, q6, q7, q8] = some [q0, q1, q2, q3, some (.val (.int i)), q5, q6, q7, q8] := fun i q0 q1 q2 q3 q4 q5 q6 q7 q8 => rfl
    simp only [forF, t0, f1, f2, f3]
    rfl
  have sp4 : ∀ {x : S} {r : Sm}, evS (pr.ct (n + 3)) d18.ro r [some s4.o, some (.val b.t), some (.val b.ob), some (.lst b.sq), some (.val (.int 2)), z5, z6, some (.lst [.int b'.f, .int b'.l, .int b'.x, .int b'.y, .int b'.o, .int b'.d]), p] = x →
      evS (pr.ct (n + 3)) d18.ro (.seq tl1 r) [some s3.o, some (.val b.t), some (.val b.ob), some (.lst b.sq), some (.val (.int 2)), z5, z6, none, none] = x := fun {x r} hx => seq_nxt f4 hx
  have assoc : ∀ (a1 a2 a3 a4 r : Sm) (z : Zs), evS (pr.ct (n + 3)) d18.ro (.seq a1 (.seq a2 (.seq a3 (.seq a4 r)))) z = evS (pr.ct (n + 3)) d18.ro (.seq (.seq a1 (.seq a2 (.seq a3 (.seq a4 .nil)))) r) z := by
    intro a1 a2 a3 a4 r z
    show exSeq _ (exSeq _ (exSeq _ (exSeq _ _))) z = exSeq (exSeq _ (exSeq _ (exSeq _ (exSeq _ exSkip)))) _ z
    rw [exSeq_skip]
    simp only [← exSeq_assoc]
  refine (assoc _ _ _ _ _ _).trans (sp4 ?_)
  exact seq_nxt (ife_f c2 rfl) (seq_ret (st_ret c3))
end K52
end

section
set_option maxRecDepth 100007
set_option maxHeartbeats 8000007
namespace K52
open Z PySem L2 PyProof.Rows
/-! ### the two ways to say it -/
theorem meets_eq {a b : Bx} (ha : a.Ok) (hb : b.Ok) : (a.ts.any fun t => decide (t ∈ b.ts)) = a.meets b := by
  have h1 := ha.o0; have h2 := ha.d0; have h3 := hb.o0; have h4 := hb.d0; have h5 := ha.fl; have h6 := hb.fl
  rw [Bool.eq_iff_iff, List.any_eq_true]
  unfold Bx.meets
  simp only [Bool.and_eq_true, decide_eq_true_eq]
  constructor
  · rintro ⟨⟨c, u, v⟩, m1, m2⟩
    rw [mem_ts ha] at m1
    rw [mem_ts hb] at m2
    omega
  · intro h
    refine ⟨(if a.f ≤ b.f then b.f else a.f, if a.x ≤ b.x then b.x else a.x, if a.y ≤ b.y then b.y else a.y), ?_, ?_⟩
    · rw [mem_ts ha]; split <;> split <;> split <;> omega
    · rw [mem_ts hb]; split <;> split <;> split <;> omega
theorem rests_eq {a b : Bx} (ha : a.Ok) (hb : b.Ok) : a.lrests b = a.rests b := by
  have h1 := ha.o0; have h2 := ha.d0; have h3 := hb.o0; have h4 := hb.d0; have h5 := ha.fl; have h6 := hb.fl
  unfold Bx.lrests Bx.rests
  rw [meets_eq ha hb]
  by_cases hm : a.meets b = true
  · simp [hm]
  · have hm' : a.meets b = false := by simpa using hm
    rw [if_neg hm]
    by_cases hc : a.l < b.f ∨ b.l < a.f
    · rw [if_pos (by rcases hc with h | h <;> simp [h])]
      symm
      rw [Bool.or_eq_false_iff]
      unfold Bx.meets Bx.mv
      constructor <;> (simp only [Bool.and_eq_false_iff, decide_eq_false_iff_not]; omega)
    · rw [if_neg (by simp [hm']; omega)]
      rw [Bool.eq_iff_iff, List.any_eq_true, Bool.or_eq_true]
      unfold below Bx.meets Bx.mv
      simp only [Bool.and_eq_true, decide_eq_true_eq, Bool.or_eq_true]
      constructor
      · rintro ⟨⟨c, u, v⟩, m1, m2⟩
        rw [mem_ts ha] at m1
        simp only [mem_ts hb] at m2
        omega
      · intro h
        rcases h with h | h
        · refine ⟨(if a.f ≤ b.f then b.f else a.f, if a.x ≤ b.x + 1 then b.x + 1 else a.x, if a.y ≤ b.y then b.y else a.y), ?_, .inl ?_⟩
          · rw [mem_ts ha]; split <;> split <;> split <;> omega
          · rw [mem_ts hb]; simp only; split <;> split <;> split <;> omega
        · refine ⟨(if a.f ≤ b.f then b.f else a.f, if a.x ≤ b.x then b.x else a.x, if a.y ≤ b.y + 1 then b.y + 1 else a.y), ?_, .inr ?_⟩
          · rw [mem_ts ha]; split <;> split <;> split <;> omega
          · rw [mem_ts hb]; simp only; split <;> split <;> split <;> omega
theorem tup_ok {m : Zs → R Hd} {z : Zs} {out : List D} (h : m z = .ok (.tmp (.lst out)) z) : evOpN biTuple (evCons m evNil) z = .ok (.tmp (.val (.tup out))) z := by simp [h]
theorem q0 (C : Ct) (a b c d : Option O) (x : D) (u : List D) (e : rgItems [x] = some u) : evI C (.rng (.cons (.lc 2) .nil)) [a, b, some (.val x), c, d] = .ok (u, none) [a, b, some (.val x), c, d] := by
  simp [e]
theorem rg1 (i : Nat) (h : i < 1000) : rgItems [D.int (i : Int)] = some (Z.upTo 0 i) := by
  have r1 : rgOk (i : Int) := ⟨by omega, by omega⟩
  show (if rgOk (i : Int) then some (Z.upTo 0 (i : Int).toNat) else none) = _
  rw [if_pos r1]
  rfl
/-! ### rest_table -/
instance : Inhabited Bx := ⟨⟨0, 0, 0, 0, 0, 0⟩⟩
def rowT (rows : List Bx) (k : Nat) : D := .tup (((List.range k).filter fun on => (rows[k]!).rests (rows[on]!)).map fun (on : Nat) => D.int (on : Int))
abbrev cmpT : Ex := .comp [4] (.nm 4) (.rng (.cons (.lc 2) .nil)) (.some (.meth (.lc 3) 0 (.cons (.ix (.lc 0) (.lc 4)) .nil))) (.lc 4)
abbrev zT (d : D) (rows : List Bx) (i : Nat) (b : Bx) : Zs := [some (.val d), some (.lst ((List.range i).map (rowT rows))), some (.val (.int (i : Nat))), some (.val b.ob), none]
theorem tb_comp (n : Nat) (rows : List Bx) (hl : rows.length ≤ 12) (d : D) (hdl : d = .lst (rows.map Bx.ob) ∨ d = .tup (rows.map Bx.ob)) (i : Nat) (hi : i < rows.length) :
    evComp [4] (asg1 (roV [4]) (.nm 4)) (ev (pr.ct (n + 3)) (.meth (.lc 3) 0 (.cons (.ix (.lc 0) (.lc 4)) .nil))).2 (ev (pr.ct (n + 3)) (.lc 4)).1 (evI (pr.ct (n + 3)) (.rng (.cons (.lc 2) .nil))) (zT d rows i rows[i]!) =
          .ok (.tmp (.lst (((List.range i).filter fun on => (rows[i]!).rests (rows[on]!)).map fun (on : Nat) => D.int (on : Int)))) (zT d rows i rows[i]!) := by
  have hs := sl_big
  have r1 : rgOk (i : Int) := ⟨by omega, by omega⟩
  generalize rows[i]! = bi
  have cf := compF_filter (vs := [4]) (tgt := asg1 (roV [4]) (.nm 4)) (c := (ev (pr.ct (n + 3)) (.meth (.lc 3) 0 (.cons (.ix (.lc 0) (.lc 4)) .nil))).2) (me := (ev (pr.ct (n + 3)) (.lc 4)).1) (zb := zT d rows i bi) (fun q => match q with
        | .int j => bi.rests (rows[j.toNat]!)
        | _ => false) id (Z.upTo 0 i) [] (fun q hq => by
          unfold Z.upTo at hq
          obtain ⟨j, hj, rfl⟩ := List.mem_map.mp hq
          have hj := List.mem_range.mp hj
          have hj2 : j < rows.length := by omega
          have ej : rows[j]! = rows[j] := by simp [hj2]
          have hat : atI (rows.map Bx.ob) (j : Int) = some (rows[j].ob) := by
            unfold atI ixN
            rw [List.length_map, if_pos (by omega), if_pos (by omega)]
            simp [hj2]
          have er := run_rests n bi rows[j]
          rw [Int.zero_add]
          refine ⟨[some (.val d), some (.lst ((List.range i).map (rowT rows))), some (.val (.int (i : Nat))), some (.val bi.ob), some (.val (.int j))], by simp, [some (.val d), some (.lst ((List.range i).map (rowT rows))), some (.val (.int (i : Nat))), some (.val bi.ob), some (.val (.int j))], ?_, fun _ => by simp, fun _ => ⟨.slot 4, [some (.val d), some (.lst ((List.range i).map (rowT rows))), some (.val (.int (i : Nat))), some (.val bi.ob), some (.val (.int j))], [some (.val d), some (.lst ((List.range i).map (rowT rows))), some (.val (.int (i : Nat))), some (.val bi.ob), some (.val (.int j))], by simp, by simp, by simp⟩⟩
          simp only [Int.toNat_natCast, ej]
          generalize rows[j] = bj at hat er ⊢
          generalize (List.range i).map (rowT rows) = acc
          unfold Bx.ob Bx.fs at er
          rcases hdl with rfl | rfl <;> simp [apF, given, lendA, backA, er, hat, Bx.ob, Bx.fs]) (by simp [up_len]; omega)
  have hout : (([] : List D) ++ List.map id (List.filter (fun q => match q with
        | .int j => bi.rests (rows[j.toNat]!)
        | _ => false) (Z.upTo 0 i))) = ((List.range i).filter fun on => bi.rests (rows[on]!)).map fun (on : Nat) => D.int (on : Int) := by
    unfold Z.upTo
    rw [List.map_id, List.nil_append, List.filter_map]
    simp [Function.comp_def]
  rw [hout] at cf
  generalize ((List.range i).filter fun on => bi.rests (rows[on]!)).map (fun (on : Nat) => D.int (on : Int)) = out at cf ⊢
  have q : evI (pr.ct (n + 3)) (.rng (.cons (.lc 2) .nil)) (zT d rows i bi) = .ok (Z.upTo 0 i, none) (zT d rows i bi) := q0 _ _ _ _ _ _ _ (rg1 i (by omega))
  have w : wipeZ (zT d rows i bi) [4] = zT d rows i bi := by simp
  have u : unwipe (zT d rows i bi) [4] (zT d rows i bi) = zT d rows i bi := by simp
  unfold evComp
  rw [q, R.bind_ok]
  simp only [w, cf, u]
  rfl
theorem tb_step (n : Nat) (rows : List Bx) (hl : rows.length ≤ 12) (d : D) (hdl : d = .lst (rows.map Bx.ob) ∨ d = .tup (rows.map Bx.ob)) (i : Nat) (hi : i < rows.length) :
    evS (pr.ct (n + 3)) d0.ro (.seq (.app 1 (.bi .tuple (.cons cmpT .nil))) .nil) (zT d rows i rows[i]!) = .nxt [some (.val d), some (.lst ((List.range (i + 1)).map (rowT rows))), some (.val (.int (i : Nat))), some (.val rows[i]!.ob), none] := by
  have hs := sl_big
  have hc := tb_comp n rows hl d hdl i hi
  have hb : (ev (pr.ct (n + 3)) (.bi .tuple (.cons cmpT .nil))).1 (zT d rows i rows[i]!) = .ok (.tmp (.val (rowT rows i))) (zT d rows i rows[i]!) := by
    have t1 := tup_ok hc
    have t2 : (ev (pr.ct (n + 3)) (.bi .tuple (.cons cmpT .nil))).1 = evOpN biTuple (evCons (evComp [4] (asg1 (roV [4]) (.nm 4)) (ev (pr.ct (n + 3)) (.meth (.lc 3) 0 (.cons (.ix (.lc 0) (.lc 4)) .nil))).2 (ev (pr.ct (n + 3)) (.lc 4)).1 (evI (pr.ct (n + 3)) (.rng (.cons (.lc 2) .nil)))) evNil) := rfl
    rw [t2, t1]
    rfl
  have e : (List.range (i + 1)).map (rowT rows) = (List.range i).map (rowT rows) ++ [rowT rows i] := by rw [List.range_succ, List.map_append]; rfl
  rw [e]
  have la : ((List.range i).map (rowT rows)).length < sizeLine := by rw [List.length_map, List.length_range]; omega
  generalize rowT rows i = r at hb ⊢
  unfold zT at hb ⊢
  generalize (List.range i).map (rowT rows) = acc at hb la ⊢
  exact seq_nxt (st_app (C := pr.ct (n + 3)) (ro := d0.ro) (i := 1) (d := r) (ds0 := acc) (ds1 := acc) rfl hb rfl rfl la) rfl
theorem run_table (n : Nat) (rows : List Bx) (hl : rows.length ≤ 12) (o : O) (ho : o = .lst (rows.map Bx.ob) ∨ o = .val (.tup (rows.map Bx.ob)) ∨ o = .val (.lst (rows.map Bx.ob))) :
    (pr.ct (n + 4)).run 0 [o] = .ret (.val (.tup ((List.range rows.length).map (rowT rows)))) [some (.val o.pk)] := by
  have hs := sl_big
  rw [ru0]
  have hdl : o.pk = .lst (rows.map Bx.ob) ∨ o.pk = .tup (rows.map Bx.ob) := by rcases ho with rfl | rfl | rfl <;> simp
  have it : evI (pr.ct (n + 3)) (.enum none (.lc 0)) [some o, some (.lst []), none, none, none] = .ok ((rows.map Bx.ob).zipIdx.map fun p => .tup [.int p.2, p.1], none) [some (.val o.pk), some (.lst []), none, none, none] := by
    rcases ho with rfl | rfl | rfl <;> simp [clm]
  generalize o.pk = d at hdl it ⊢
  have key : ∃ x y, forF (asg1 d0.ro (.tp (.cons (.nm 2) (.cons (.nm 3) .nil)))) (evS (pr.ct (n + 3)) d0.ro (.seq (.app 1 (.bi .tuple (.cons (.comp [4] (.nm 4) (.rng (.cons (.lc 2) .nil)) (.some (.meth (.lc 3) 0 (.cons (.ix (.lc 0) (.lc 4)) .nil))) (.lc 4)) .nil))) .nil)) ((rows.map Bx.ob).zipIdx.map fun p => .tup [.int p.2, p.1]) [some (.val d), some (.lst []), none, none, none] =
      .nxt [some (.val d), some (.lst ((List.range rows.length).map (rowT rows))), x, y, none] := by
    refine forF_run (fun k z => ∃ x y, z = [some (.val d), some (.lst ((List.range k).map (rowT rows))), x, y, none]) (fun r => ∃ x y, r = .nxt [some (.val d), some (.lst ((List.range rows.length).map (rowT rows))), x, y, none]) _ 0 _ ⟨none, none, rfl⟩ (fun i dd z e h => ?_) (fun z h => ?_)
    · obtain ⟨x, y, rfl⟩ := h
      rw [List.getElem?_map, List.getElem?_zipIdx, List.getElem?_map] at e
      have hi : i < rows.length := by
        by_cases hi : i < rows.length
        · exact hi
        · rw [List.getElem?_eq_none (by omega)] at e; cases e
      rw [List.getElem?_eq_getElem hi] at e
      cases e
      have eb : rows[i] = rows[i]! := by simp [hi]
      have st := tb_step n rows hl d hdl i hi
      rw [Nat.zero_add, eb]
      refine ⟨zT d rows i rows[i]!, by simp [d0], ?_⟩
      rw [st]
      exact ⟨_, _, rfl⟩
    · obtain ⟨x, y, rfl⟩ := h
      refine ⟨x, y, ?_⟩
      simp
  obtain ⟨x, y, key⟩ := key
  refine runD_ret (z := [some (.val d), some (.lst ((List.range rows.length).map (rowT rows))), x, y, none]) rfl (seq_nxt (z1 := [some o, some (.lst []), none, none, none]) rfl (seq_nxt (z1 := [some (.val d), some (.lst ((List.range rows.length).map (rowT rows))), x, y, none]) ((frl_ok it).trans ?_) (seq_ret rfl))) rfl
  · show S.back none (forF (asg1 d0.ro _) (evS (pr.ct (n + 3)) d0.ro _) _ _) = _
    rw [key]
    rfl
end K52
end

section
set_option maxRecDepth 100007
set_option maxHeartbeats 8000007
namespace K52
open Z PySem L2 PyProof.Rows
theorem rg0 (C : Ct) (z : Zs) (x : D) (u : List D) (e : rgItems [x] = some u) (h2 : rd z 2 = some (.val x)) : evI C (.rng (.cons (.lc 2) .nil)) z = .ok (u, none) z := by
  unfold rd at h2
  simp [h2, e]
/-- rows -/
def RowsOk (rows : List Bx) : Prop := (∀ b ∈ rows, b.Bd rows.length) ∧ rows.length ≤ 12
theorem RowsOk.ok {rows : List Bx} (h : RowsOk rows) {b : Bx} (hb : b ∈ rows) : b.Ok := (h.1 b hb).ok (by have := h.2; omega)
theorem loop_rows (n : Nat) (m : Nat) (hm : m ≤ 12) (s0 s2 : Option O) (s : Hst) : ∃ (s' : Hst) (rows : List Bx) (a4 : Option O), rows.length = m ∧ RowsOk rows ∧
    forF (asg1 d19.ro (.nm 4)) (evS (pr.ct (n + 3)) d19.ro (.seq (.app 3 (.call 16 (.cons (.lc 1) (.cons (.lc 3) .nil)))) .nil)) (Z.upTo 0 m) [s0, some s.o, s2, some (.lst []), none, none, none, none, none, none, none] =
    .nxt [s0, some s'.o, s2, some (.lst (rows.map Bx.t)), a4, none, none, none, none, none, none] := by
  have hs := sl_big
  have := forF_run (tgt := asg1 d19.ro (.nm 4)) (b := evS (pr.ct (n + 3)) d19.ro (.seq (.app 3 (.call 16 (.cons (.lc 1) (.cons (.lc 3) .nil)))) .nil)) (fun k z => ∃ (s' : Hst) (rows : List Bx) (a4 : Option O), rows.length = k ∧ RowsOk rows ∧ z = [s0, some s'.o, s2, some (.lst (rows.map Bx.t)), a4, none, none, none, none, none, none])
    (fun r => ∃ (s' : Hst) (rows : List Bx) (a4 : Option O), rows.length = m ∧ RowsOk rows ∧ r = .nxt [s0, some s'.o, s2, some (.lst (rows.map Bx.t)), a4, none, none, none, none, none, none]) (Z.upTo 0 m) 0 [s0, some s.o, s2, some (.lst []), none, none, none, none, none, none, none] ⟨s, [], none, rfl, ⟨fun b h => (nomatch h), by simp⟩, rfl⟩ (fun i d z e h => ?_) (fun z h => ?_)
  · obtain ⟨s', rows, a4, h1, h2, h3⟩ := this
    exact ⟨s', rows, a4, h1, h2, h3⟩
  · obtain ⟨s1, rows, a4, h1, h2, rfl⟩ := h
    have hi : i < m := by
      have := (List.getElem?_eq_some_iff.mp e).1
      rwa [up_len] at this
    refine ⟨[s0, some s1.o, s2, some (.lst (rows.map Bx.t)), some (.val d), none, none, none, none, none, none], rfl, ?_⟩
    obtain ⟨b, s3, hb, eb⟩ := run_box n s1 rows h2.1 h2.2
    have c1 : (ev (pr.ct (n + 3)) (.call 16 (.cons (.lc 1) (.cons (.lc 3) .nil)))).1 [s0, some s1.o, s2, some (.lst (rows.map Bx.t)), some (.val d), none, none, none, none, none, none] = .ok (.tmp (.val b.t)) [s0, some s3.o, s2, some (.lst (rows.map Bx.t)), some (.val d), none, none, none, none, none, none] := by
      generalize rows.map Bx.t = R at eb ⊢
      simp [apF, given, lendA, backA, eb]
    have sa := seq_nxt (ro := d19.ro) (st_app (ro := d19.ro) (i := 3) (d := b.t) (ds0 := rows.map Bx.t) (ds1 := rows.map Bx.t) rfl c1 rfl rfl (by rw [List.length_map]; omega)) (st_nil (C := pr.ct (n + 3)) (ro := d19.ro))
    rw [sa]
    refine ⟨s3, rows ++ [b], some (.val d), by simp; omega, ⟨fun c hc => ?_, by simp; omega⟩, by simp⟩
    rw [List.length_append, List.length_singleton]
    rcases List.mem_append.mp hc with hc | hc
    · have := h2.1 c hc
      exact ⟨this.f0, this.fl, this.l1, this.x0, by have := this.x1; omega, this.y0, by have := this.y1; omega, this.o0, this.o1, this.d0, this.d1⟩
    · rw [List.mem_singleton.mp hc]
      exact hb
  · obtain ⟨s1, rows, a4, h1, h2, rfl⟩ := h
    exact ⟨s1, rows, a4, by rw [h1, up_len]; omega, h2, rfl⟩
theorem loop_alone (n : Nat) (s0 s2 s3 a4 s5 a7 a8 a9 a10 : Option O) : ∀ (l : List Bx) (s : Hst) (a6 : Option O), (∀ b ∈ l, b.Ok) → ∃ (s' : Hst) (a6' : Option O),
    forF (asg1 d19.ro (.nm 6)) (evS (pr.ct (n + 4)) d19.ro (.seq (.ife (.not (.call 18 (.cons (.lc 1) (.cons (.lc 6) .nil)))) (.seq (.ret (.kon (.bl false))) .nil) .nil) .nil)) (l.map Bx.t) [s0, some s.o, s2, s3, a4, s5, a6, a7, a8, a9, a10] =
    .nxt [s0, some s'.o, s2, s3, a4, s5, a6', a7, a8, a9, a10]
  | [], s, a6, _ => ⟨s, a6, rfl⟩
  | b :: l, s, a6, h => by
    obtain ⟨s1, e1⟩ := run_alone n (h b (by simp)) s
    obtain ⟨s', a6', e⟩ := loop_alone n s0 s2 s3 a4 s5 a7 a8 a9 a10 l s1 (some (.val b.t)) (fun c hc => h c (by simp [hc]))
    refine ⟨s', a6', ?_⟩
    have st : evS (pr.ct (n + 4)) d19.ro (.seq (.ife (.not (.call 18 (.cons (.lc 1) (.cons (.lc 6) .nil)))) (.seq (.ret (.kon (.bl false))) .nil) .nil) .nil) [s0, some s.o, s2, s3, a4, s5, some (.val b.t), a7, a8, a9, a10] = .nxt [s0, some s1.o, s2, s3, a4, s5, some (.val b.t), a7, a8, a9, a10] := by
      simp [apF, given, lendA, backA, e1]
    rw [List.map_cons, forF, show asg1 d19.ro (.nm 6) b.t [s0, some s.o, s2, s3, a4, s5, a6, a7, a8, a9, a10] = some [s0, some s.o, s2, s3, a4, s5, some (.val b.t), a7, a8, a9, a10] from rfl]
    simp only [st]
    exact e
/-! ### the table by the law -/
abbrev inB : Sm := .seq (.ife (.cmp .ne (.meth (.ix (.lc 5) (.lc 4)) 8 (.cons (.ix (.lc 5) (.lc 9)) .nil)) (.call 13 (.cons (.ix (.lc 3) (.lc 4)) (.cons (.ix (.lc 3) (.lc 9)) .nil)))) (.seq (.ret (.kon (.bl false))) .nil) .nil) (.seq (.ife (.cmp .ne (.meth (.ix (.lc 5) (.lc 4)) 0 (.cons (.ix (.lc 5) (.lc 9)) .nil)) (.call 14 (.cons (.ix (.lc 3) (.lc 4)) (.cons (.ix (.lc 3) (.lc 9)) .nil)))) (.seq (.ret (.kon (.bl false))) .nil) .nil) (.seq (.ife (.and (.cons (.cmp .lt (.lc 9) (.lc 4)) (.cons (.call 14 (.cons (.ix (.lc 3) (.lc 4)) (.cons (.ix (.lc 3) (.lc 9)) .nil))) .nil))) (.seq (.app 8 (.lc 9)) .nil) .nil) .nil))
theorem at_map {f : Bx → D} {rows : List Bx} {k : Nat} (hk : k < rows.length) : atI (rows.map f) (k : Int) = some (f rows[k]!) := by
  unfold atI ixN
  rw [List.length_map, if_pos (by omega), if_pos (by omega)]
  simp [hk]
theorem in_step (n : Nat) {rows : List Bx} (h : RowsOk rows) (k j : Nat) (hk : k < rows.length) (hj : j < rows.length) (s0 s1 s2 a6 a7 a10 : Option O) (fs : List D) (hf : fs.length ≤ 1000) :
    evS (pr.ct (n + 4)) d19.ro inB [s0, s1, s2, some (.lst (rows.map Bx.t)), some (.val (.int (k : Int))), some (.lst (rows.map Bx.ob)), a6, a7, some (.lst fs), some (.val (.int (j : Int))), a10] =
    .nxt [s0, s1, s2, some (.lst (rows.map Bx.t)), some (.val (.int (k : Int))), some (.lst (rows.map Bx.ob)), a6, a7, some (.lst (if j < k ∧ (rows[k]!).rests (rows[j]!) = true then fs ++ [.int (j : Int)] else fs)), some (.val (.int (j : Int))), a10] := by
  have hs := sl_big
  have t1 := at_map (f := Bx.t) hk
  have t2 := at_map (f := Bx.t) hj
  have o1 := at_map (f := Bx.ob) hk
  have o2 := at_map (f := Bx.ob) hj
  have ek : rows[k]! = rows[k] := by simp [hk]
  have ej : rows[j]! = rows[j] := by simp [hj]
  have ka : (rows[k]!).Ok := by rw [ek]; exact h.ok (List.getElem_mem hk)
  have ja : (rows[j]!).Ok := by rw [ej]; exact h.ok (List.getElem_mem hj)
  generalize rows[k]! = b at t1 o1 ka ⊢
  generalize rows[j]! = c at t2 o2 ja ⊢
  generalize rows.map Bx.t = T at t1 t2 ⊢
  generalize rows.map Bx.ob = U at o1 o2 ⊢
  have m1 := run_meets (n + 3) b c
  have m2 := run_lmeets (n + 2) ka ja
  have r1 := run_rests (n + 1) b c
  have r2 := run_lrests (n + 1) ka ja
  rw [meets_eq ka ja] at m2
  rw [rests_eq ka ja] at r2
  have pb : ∀ t : Bool, plainN 8 (.bl t) = true := fun t => rfl
  have eb : ∀ t : Bool, eqD (.bl t) (.bl t) = true := fun t => by simp [eqD]
  have b1 : fs.length < sizeLine := by omega
  generalize b.meets c = mm at m1 m2
  generalize b.rests c = rr at r1 r2 ⊢
  generalize hct : b.t = bt at *
  generalize hcu : c.t = ct' at *
  unfold Bx.ob Bx.fs at *
  by_cases hjk : j < k <;> cases rr <;> simp [apF, given, lendA, backA, t1, t2, o1, o2, m1, m2, r1, r2, pb, eb, hjk, b1]
end K52
end

section
set_option maxRecDepth 100007
set_option maxHeartbeats 8000007
namespace K52
open Z PySem L2 PyProof.Rows
def foundT (rows : List Bx) (k j : Nat) : List D := ((List.range j).filter fun on => decide (on < k) && (rows[k]!).rests (rows[on]!)).map fun (on : Nat) => D.int (on : Int)
theorem foundT_succ (rows : List Bx) (k j : Nat) : foundT rows k (j + 1) = if j < k ∧ (rows[k]!).rests (rows[j]!) = true then foundT rows k j ++ [.int (j : Int)] else foundT rows k j := by
  unfold foundT
  rw [List.range_succ, List.filter_append, List.map_append]
  by_cases h : j < k ∧ (rows[k]!).rests (rows[j]!) = true
  · rw [if_pos h]
    rw [List.filter_cons_of_pos (by show (decide (j < k) && _) = true; rw [h.2, decide_eq_true h.1]; rfl)]
    rfl
  · rw [if_neg h]
    have : (List.filter (fun on => decide (on < k) && (rows[k]!).rests (rows[on]!)) [j]) = [] := by
      rw [List.filter_eq_nil_iff]
      intro a ha
      rw [List.mem_singleton.mp ha]
      simpa using h
    rw [this]
    simp
theorem foundT_len (rows : List Bx) (k j : Nat) : (foundT rows k j).length ≤ j := by
  unfold foundT
  rw [List.length_map]
  exact Nat.le_trans (List.length_filter_le _ _) (by simp)
theorem foundT_end (rows : List Bx) (k m : Nat) (h : k ≤ m) : D.tup (foundT rows k m) = rowT rows k := by
  unfold foundT rowT
  congr 2
  have : List.range m = List.range k ++ (List.range (m - k)).map (k + ·) := by
    rw [← List.range_add]; congr 1; omega
  rw [this, List.filter_append]
  have e2 : (List.filter (fun on => decide (on < k) && (rows[k]!).rests (rows[on]!)) ((List.range (m - k)).map (k + ·))) = [] := by
    rw [List.filter_eq_nil_iff]
    intro a ha
    obtain ⟨x, _, rfl⟩ := List.mem_map.mp ha
    simp only [Bool.and_eq_true, decide_eq_true_eq]
    omega
  rw [e2, List.append_nil]
  refine List.filter_congr fun a ha => ?_
  simp [List.mem_range.mp ha]
theorem up_get (m i : Nat) (h : i < m) : (Z.upTo 0 m)[i]? = some (D.int (i : Int)) := by
  unfold Z.upTo
  simp [h]
theorem loop_in (n : Nat) {rows : List Bx} (h : RowsOk rows) (k : Nat) (hk : k < rows.length) (s0 s1 s2 a6 a7 a9 a10 : Option O) : ∃ a9', 
    forF (asg1 d19.ro (.nm 9)) (evS (pr.ct (n + 4)) d19.ro inB) (Z.upTo 0 rows.length) [s0, s1, s2, some (.lst (rows.map Bx.t)), some (.val (.int (k : Int))), some (.lst (rows.map Bx.ob)), a6, a7, some (.lst []), a9, a10] =
    .nxt [s0, s1, s2, some (.lst (rows.map Bx.t)), some (.val (.int (k : Int))), some (.lst (rows.map Bx.ob)), a6, a7, some (.lst (foundT rows k rows.length)), a9', a10] := by
  refine forF_run (fun j z => ∃ a9', z = [s0, s1, s2, some (.lst (rows.map Bx.t)), some (.val (.int (k : Int))), some (.lst (rows.map Bx.ob)), a6, a7, some (.lst (foundT rows k j)), a9', a10]) (fun r => ∃ a9', r = .nxt [s0, s1, s2, some (.lst (rows.map Bx.t)), some (.val (.int (k : Int))), some (.lst (rows.map Bx.ob)), a6, a7, some (.lst (foundT rows k rows.length)), a9', a10]) _ 0 _ ⟨a9, rfl⟩ (fun i d z e hz => ?_) (fun z hz => ?_)
  · obtain ⟨x, rfl⟩ := hz
    have hi : i < rows.length := by
      have := (List.getElem?_eq_some_iff.mp e).1
      rwa [up_len] at this
    rw [up_get _ _ hi] at e
    cases e
    rw [Nat.zero_add]
    have st := in_step n h k i hk hi s0 s1 s2 a6 a7 a10 (foundT rows k i) (by have := foundT_len rows k i; have := h.2; omega)
    rw [← foundT_succ] at st
    refine ⟨[s0, s1, s2, some (.lst (rows.map Bx.t)), some (.val (.int (k : Int))), some (.lst (rows.map Bx.ob)), a6, a7, some (.lst (foundT rows k i)), some (.val (.int (i : Int))), a10], rfl, ?_⟩
    rw [st]
    exact ⟨_, rfl⟩
  · obtain ⟨x, rfl⟩ := hz
    rw [Nat.zero_add, up_len]
    exact ⟨x, rfl⟩
abbrev outB : Sm := .seq (.asg 8 (.lst .nil)) (.seq (.frl (.nm 9) (.rng (.cons (.lc 2) .nil)) inB) (.seq (.app 7 (.bi .tuple (.cons (.lc 8) .nil))) .nil))
theorem loop_out (n : Nat) {rows : List Bx} (h : RowsOk rows) (s0 s1 a4 a6 a8 a9 a10 : Option O) : ∃ a4' a8' a9', 
    forF (asg1 d19.ro (.nm 4)) (evS (pr.ct (n + 4)) d19.ro outB) (Z.upTo 0 rows.length) [s0, s1, some (.val (.int (rows.length : Int))), some (.lst (rows.map Bx.t)), a4, some (.lst (rows.map Bx.ob)), a6, some (.lst []), a8, a9, a10] =
    .nxt [s0, s1, some (.val (.int (rows.length : Int))), some (.lst (rows.map Bx.t)), a4', some (.lst (rows.map Bx.ob)), a6, some (.lst ((List.range rows.length).map (rowT rows))), a8', a9', a10] := by
  have hs := sl_big
  have hl := h.2
  refine forF_run (fun k z => ∃ a4' a8' a9', z = [s0, s1, some (.val (.int (rows.length : Int))), some (.lst (rows.map Bx.t)), a4', some (.lst (rows.map Bx.ob)), a6, some (.lst ((List.range k).map (rowT rows))), a8', a9', a10]) (fun r => ∃ a4' a8' a9', r = .nxt [s0, s1, some (.val (.int (rows.length : Int))), some (.lst (rows.map Bx.t)), a4', some (.lst (rows.map Bx.ob)), a6, some (.lst ((List.range rows.length).map (rowT rows))), a8', a9', a10]) _ 0 _ ⟨a4, a8, a9, rfl⟩ (fun i d z e hz => ?_) (fun z hz => ?_)
  · obtain ⟨x, y, w, rfl⟩ := hz
    have hi : i < rows.length := by
      have := (List.getElem?_eq_some_iff.mp e).1
      rwa [up_len] at this
    rw [up_get _ _ hi] at e
    cases e
    rw [Nat.zero_add]
    obtain ⟨w', li⟩ := loop_in n h i hi s0 s1 (some (.val (.int (rows.length : Int)))) a6 (some (.lst ((List.range i).map (rowT rows)))) w a10
    refine ⟨[s0, s1, some (.val (.int (rows.length : Int))), some (.lst (rows.map Bx.t)), some (.val (.int (i : Int))), some (.lst (rows.map Bx.ob)), a6, some (.lst ((List.range i).map (rowT rows))), y, w, a10], rfl, ?_⟩
    have fe := foundT_end rows i rows.length (by omega)
    have hb : (ev (pr.ct (n + 4)) (.bi .tuple (.cons (.lc 8) .nil))).1 [s0, s1, some (.val (.int (rows.length : Int))), some (.lst (rows.map Bx.t)), some (.val (.int (i : Int))), some (.lst (rows.map Bx.ob)), a6, some (.lst ((List.range i).map (rowT rows))), some (.lst (foundT rows i rows.length)), w', a10] = .ok (.tmp (.val (rowT rows i))) [s0, s1, some (.val (.int (rows.length : Int))), some (.lst (rows.map Bx.t)), some (.val (.int (i : Int))), some (.lst (rows.map Bx.ob)), a6, some (.lst ((List.range i).map (rowT rows))), some (.lst (foundT rows i rows.length)), w', a10] := by
      rw [← fe]
      generalize foundT rows i rows.length = F
      generalize (List.range i).map (rowT rows) = acc
      simp
    have e2 : (List.range (i + 1)).map (rowT rows) = (List.range i).map (rowT rows) ++ [rowT rows i] := by rw [List.range_succ, List.map_append]; rfl
    have la : ((List.range i).map (rowT rows)).length < sizeLine := by rw [List.length_map, List.length_range]; omega
    have it := rg0 (pr.ct (n + 4)) [s0, s1, some (.val (.int (rows.length : Int))), some (.lst (rows.map Bx.t)), some (.val (.int (i : Int))), some (.lst (rows.map Bx.ob)), a6, some (.lst ((List.range i).map (rowT rows))), some (.lst []), w, a10] _ _ (rg1 rows.length (by omega)) rfl
    have st : evS (pr.ct (n + 4)) d19.ro outB [s0, s1, some (.val (.int (rows.length : Int))), some (.lst (rows.map Bx.t)), some (.val (.int (i : Int))), some (.lst (rows.map Bx.ob)), a6, some (.lst ((List.range i).map (rowT rows))), y, w, a10] = .nxt [s0, s1, some (.val (.int (rows.length : Int))), some (.lst (rows.map Bx.t)), some (.val (.int (i : Int))), some (.lst (rows.map Bx.ob)), a6, some (.lst ((List.range (i + 1)).map (rowT rows))), some (.lst (foundT rows i rows.length)), w', a10] := by
      rw [e2]
      refine seq_nxt (z1 := [s0, s1, some (.val (.int (rows.length : Int))), some (.lst (rows.map Bx.t)), some (.val (.int (i : Int))), some (.lst (rows.map Bx.ob)), a6, some (.lst ((List.range i).map (rowT rows))), some (.lst []), w, a10]) rfl (seq_nxt ((frl_ok it).trans ?_) (seq_nxt (st_app (ro := d19.ro) (i := 7) (d := rowT rows i) (ds0 := (List.range i).map (rowT rows)) (ds1 := (List.range i).map (rowT rows)) rfl hb rfl rfl la) rfl))
      show S.back none (forF (asg1 d19.ro (.nm 9)) (evS (pr.ct (n + 4)) d19.ro inB) _ _) = _
      rw [li]
      rfl
    rw [st]
    exact ⟨_, _, _, rfl⟩
  · obtain ⟨x, y, w, rfl⟩ := hz
    rw [Nat.zero_add, up_len]
    exact ⟨x, y, w, rfl⟩
/-! ### the end -/
theorem plain_rowT (rows : List Bx) (k : Nat) : plainN 7 (rowT rows k) = true := List.all_eq_true.mpr fun d hd => by
  obtain ⟨j, _, rfl⟩ := List.mem_map.mp hd
  exact plain_int _
theorem eqDs_int : ∀ l : List Nat, eqDs (l.map fun (j : Nat) => D.int (j : Int)) (l.map fun (j : Nat) => D.int (j : Int)) = true
  | [] => rfl
  | a :: l => by
    rw [List.map_cons, eqDs, eqDs_int l]
    simp [eqD]
theorem eqD_rowT (rows : List Bx) (k : Nat) : eqD (rowT rows k) (rowT rows k) = true := eqDs_int _
theorem eqDs_map {f : Nat → D} (h : ∀ k, eqD (f k) (f k) = true) : ∀ l : List Nat, eqDs (l.map f) (l.map f) = true
  | [] => rfl
  | a :: l => by
    rw [List.map_cons, eqDs, eqDs_map h l, h a]
    rfl
theorem eqDs_mapB {f : Bx → D} (h : ∀ k, eqD (f k) (f k) = true) : ∀ l : List Bx, eqDs (l.map f) (l.map f) = true
  | [] => rfl
  | a :: l => by
    rw [List.map_cons, eqDs, eqDs_mapB h l, h a]
    rfl
theorem cut_take {α : Type} (l : List α) (c : Nat) : cutL l none (some (c : Int)) = l.take c := by
  unfold cutL
  rw [HT.sIx_nat, HT.sIx_none]
  show (l.drop 0).take (min c l.length - 0) = _
  rw [List.drop_zero, Nat.sub_zero]
  by_cases h : c ≤ l.length
  · rw [Nat.min_eq_left h]
  · rw [Nat.min_eq_right (by omega), List.take_of_length_le (Nat.le_refl _), List.take_of_length_le (by omega)]
theorem rowT_take (rows : List Bx) (c k : Nat) (h : k < c) : rowT (rows.take c) k = rowT rows k := by
  have g : ∀ j, j < c → (rows.take c)[j]! = rows[j]! := fun j hj => by
    rw [List.getElem!_eq_getElem?_getD, List.getElem!_eq_getElem?_getD, List.getElem?_take_of_lt hj]
  unfold rowT
  congr 2
  refine List.filter_congr fun a ha => ?_
  have := List.mem_range.mp ha
  rw [g k h, g a (by omega)]
theorem table_take (rows : List Bx) (c : Nat) : ((List.range rows.length).map (rowT rows)).take c = (List.range (rows.take c).length).map (rowT (rows.take c)) := by
  rw [← List.map_take, List.take_range, List.length_take]
  refine List.map_congr_left fun k hk => ?_
  have := List.mem_range.mp hk
  rw [rowT_take _ _ _ (by omega)]
abbrev dc9 : Ex := .or (.cons (.cmp .ne (.call 0 (.cons (.lc 5) .nil)) (.bi .tuple (.cons (.lc 7) .nil))) (.cons (.cmp .ne (.call 0 (.cons (.bi .tuple (.cons (.sl (.lc 5) .none (.some (.kon (.int 2)))) .nil)) .nil)) (.bi .tuple (.cons (.sl (.lc 7) .none (.some (.kon (.int 2)))) .nil))) (.cons (.cmp .ne (.call 0 (.cons (.lst .nil) .nil)) (.tup .nil)) .nil)))
theorem plain_tab (rows : List Bx) (l : List Nat) : plainN 8 (.tup (l.map (rowT rows))) = true := List.all_eq_true.mpr fun d hd => by
  obtain ⟨j, _, rfl⟩ := List.mem_map.mp hd
  exact plain_rowT _ _
theorem c9_ok (n : Nat) {rows : List Bx} (h : RowsOk rows) (s0 s1 s2 s3 a4 a6 a8 a9 a10 : Option O) :
    (ev (pr.ct (n + 4)) dc9).2 [s0, s1, s2, s3, a4, some (.lst (rows.map Bx.ob)), a6, some (.lst ((List.range rows.length).map (rowT rows))), a8, a9, a10] =
      .ok false [s0, s1, s2, s3, a4, some (.val (.lst (rows.map Bx.ob))), a6, some (.lst ((List.range rows.length).map (rowT rows))), a8, a9, a10] := by
  have t1 := run_table n rows h.2 _ (.inl rfl)
  have t2 := run_table n (rows.take 2) (by rw [List.length_take]; have := h.2; omega) _ (.inr (.inl rfl))
  have t3 := run_table n [] (by decide) _ (.inl rfl)
  have c1 := cut_take (rows.map Bx.ob) 2
  have c2 := cut_take ((List.range rows.length).map (rowT rows)) 2
  rw [table_take] at c2
  rw [← List.map_take] at c1
  have p1 := plain_tab rows (List.range rows.length)
  have p2 := plain_tab (rows.take 2) (List.range (rows.take 2).length)
  have q1 : eqD (.tup ((List.range rows.length).map (rowT rows))) (.tup ((List.range rows.length).map (rowT rows))) = true := eqDs_map (eqD_rowT rows) _
  have q2 : eqD (.tup ((List.range (rows.take 2).length).map (rowT (rows.take 2)))) (.tup ((List.range (rows.take 2).length).map (rowT (rows.take 2)))) = true := eqDs_map (eqD_rowT _) _
  have p3 : plainN 8 (.tup []) = true := rfl
  have q3 : eqD (.tup []) (.tup []) = true := rfl
  generalize (List.range rows.length).map (rowT rows) = T at *
  generalize (List.range (rows.take 2).length).map (rowT (rows.take 2)) = T2 at *
  generalize (rows.take 2).map Bx.ob = U2 at *
  generalize rows.map Bx.ob = U at *
  simp only [List.length_nil, List.range_zero, List.map_nil, O.pk] at t1 t2 t3
  have c1' : cutL U none (some (2 : Int)) = U2 := c1
  have c2' : cutL T none (some (2 : Int)) = T2 := c2
  simp [apF, given, lendA, backA, t1, t2, t3, p1, p2, p3, q1, q2, q3, slO, c1', c2']
end K52
end

section
set_option maxRecDepth 100007
set_option maxHeartbeats 8000007
namespace K52
open Z PySem L2 PyProof.Rows
theorem st_asgT {C : Ct} {ro : Ro} {i : Nat} {e : Ex} {o : O} {z z1 : Zs} (h1 : (ev C e).1 z = .ok (.tmp o) z1) (hi : ro i = false) (hl : i < z1.length) : evS C ro (.asg i e) z = .nxt (z1.set i (some o)) := st_asg h1 rfl hi hl
theorem law_true (ns : List Int) (hl : ns.length ≤ 63) : ∃ outs, (pr.ct 41).run 19 [.val (.scr ns)] = .ret (.val (.bl true)) outs := by
  have hs := sl_big
  obtain ⟨t, t0, t1, eh⟩ := run_hand (pr.ct 39) ns hl
  have eh' : (pr.ct 40).run 10 [.val (.scr ns)] = .ret (handO (ns.map fun i => if i < 0 then -i else i) 0 0 t) [some (.val (.scr ns))] := by rw [ru10]; exact eh
  let s0 : Hst := ⟨ns.map fun i => if i < 0 then -i else i, 0, 0, t, ⟨fun c hc => by
    obtain ⟨i, _, rfl⟩ := List.mem_map.mp hc
    split <;> omega, by decide, by simp, by decide, t0, t1, by simpa using hl⟩⟩
  have eh2 : (pr.ct 40).run 10 [.val (.scr ns)] = .ret s0.o [some (.val (.scr ns))] := eh'
  -- many
  obtain ⟨m, s1, hm, e2⟩ : ∃ (m : Nat) (s1 : Hst), m ≤ 12 ∧ (ev (pr.ct 40) (.ife (.cmp .eq (.call 11 (.cons (.lc 1) (.cons (.kon (.int 8)) .nil))) (.kon (.int 0))) (.kon (.int 12)) (.call 11 (.cons (.lc 1) (.cons (.kon (.int 7)) .nil))))).1 [some (.val (.scr ns)), some s0.o, none, none, none, none, none, none, none, none, none] =
      .ok (.tmp (.val (.int (m : Int)))) [some (.val (.scr ns)), some s1.o, none, none, none, none, none, none, none, none, none] := by
    obtain ⟨x, sa, x0, x1, ea⟩ := draw 38 s0 8 (by decide) (by decide)
    obtain ⟨y, sb, y0, y1, eb⟩ := draw 38 sa 7 (by decide) (by decide)
    by_cases hx : x = 0
    · subst hx
      exact ⟨12, sa, by decide, by simp [apF, given, lendA, backA, ea, plain_int, eqD]⟩
    · refine ⟨y.toNat, sb, by omega, ?_⟩
      have ey : ((y.toNat : Nat) : Int) = y := by omega
      rw [ey]
      simp [apF, given, lendA, backA, ea, eb, plain_int, eqD, hx]
  obtain ⟨s2, rows, a4, hlen, hok, e3⟩ := loop_rows 37 m hm (some (.val (.scr ns))) (some (.val (.int (m : Int)))) s1
  subst hlen
  obtain ⟨s3, a6, e4⟩ := loop_alone 36 (some (.val (.scr ns))) (some (.val (.int (rows.length : Int)))) (some (.lst (rows.map Bx.t))) a4 (some (.lst (rows.map Bx.ob))) none none none none (rows.take 4) s2 none (fun b hb => hok.ok (List.mem_of_mem_take hb))
  obtain ⟨b4, b8, b9, e5⟩ := loop_out 36 hok (some (.val (.scr ns))) (some s3.o) a4 a6 none none none
  have c9 := c9_ok 36 hok (some (.val (.scr ns))) (some s3.o) (some (.val (.int (rows.length : Int)))) (some (.lst (rows.map Bx.t))) b4 a6 b8 b9 none
  have hr := hok.2
  -- the boxes made
  have cb : (ev (pr.ct 40) (.comp [6] (.nm 6) (.seq (some 3) (.lc 3)) .none (.call 17 (.cons (.lc 6) .nil)))).1 [some (.val (.scr ns)), some s2.o, some (.val (.int (rows.length : Int))), some (.lst (rows.map Bx.t)), a4, none, none, none, none, none, none] =
      .ok (.tmp (.lst (rows.map Bx.ob))) [some (.val (.scr ns)), some s2.o, some (.val (.int (rows.length : Int))), some (.lst (rows.map Bx.t)), a4, none, none, none, none, none, none] := by
    have cf := compF_map (vs := [6]) (tgt := asg1 (roV [6]) (.nm 6)) (c := evYes) (me := (ev (pr.ct 40) (.call 17 (.cons (.lc 6) .nil))).1) (zb := [some (.val (.scr ns)), some s2.o, some (.val (.int (rows.length : Int))), none, a4, none, none, none, none, none, none]) (fun d => match d with
      | .tup [.int f, .int l, .int x, .int y, .int o, .int d] => Bx.ob ⟨f, l, x, y, o, d⟩
      | d => d) (rows.map Bx.t) [] (fun d hd => by
        obtain ⟨b, _, rfl⟩ := List.mem_map.mp hd
        have ek := run_kept 38 b
        refine ⟨[some (.val (.scr ns)), some s2.o, some (.val (.int (rows.length : Int))), none, a4, none, some (.val b.t), none, none, none, none], rfl, _, .tmp (.obj 0 b.fs), [some (.val (.scr ns)), some s2.o, some (.val (.int (rows.length : Int))), none, a4, none, some (.val b.t), none, none, none, none], [some (.val (.scr ns)), some s2.o, some (.val (.int (rows.length : Int))), none, a4, none, some (.val b.t), none, none, none, none], rfl, ?_, rfl, by simp⟩
        generalize (D.int (rows.length : Int)) = q
        simp [apF, given, lendA, backA, ek]) (by rw [List.length_map, List.length_nil]; omega)
    rw [List.nil_append, List.map_map] at cf
    have e1 : ((fun d : D => match d with
      | .tup [.int f, .int l, .int x, .int y, .int o, .int d] => Bx.ob ⟨f, l, x, y, o, d⟩
      | d => d) ∘ Bx.t) = Bx.ob := rfl
    rw [e1] at cf
    have eqc : (ev (pr.ct 40) (.comp [6] (.nm 6) (.seq (some 3) (.lc 3)) .none (.call 17 (.cons (.lc 6) .nil)))).1 = evComp [6] (asg1 (roV [6]) (.nm 6)) evYes (ev (pr.ct 40) (.call 17 (.cons (.lc 6) .nil))).1 (evSeq (some 3) (evSlot 3)) := by simp only [ev, evEc, evI]
    rw [eqc]
    have q : evSeq (some 3) (evSlot 3) [some (.val (.scr ns)), some s2.o, some (.val (.int (rows.length : Int))), some (.lst (rows.map Bx.t)), a4, none, none, none, none, none, none] = .ok (rows.map Bx.t, some (3, .lst (rows.map Bx.t))) [some (.val (.scr ns)), some s2.o, some (.val (.int (rows.length : Int))), none, a4, none, none, none, none, none, none] := rfl
    unfold evComp
    rw [q, R.bind_ok, show wipeZ [some (.val (.scr ns)), some s2.o, some (.val (.int (rows.length : Int))), none, a4, none, none, none, none, none, none] [6] = [some (.val (.scr ns)), some s2.o, some (.val (.int (rows.length : Int))), none, a4, none, none, none, none, none, none] from rfl, cf]
    rfl
  have ce : (ev (pr.ct 40) (.cmp .eq (.comp [10] (.nm 10) (.seq (some 5) (.lc 5)) .none (.call 15 (.cons (.lc 10) .nil))) (.lc 3))).1 [some (.val (.scr ns)), some s3.o, some (.val (.int (rows.length : Int))), some (.lst (rows.map Bx.t)), b4, some (.val (.lst (rows.map Bx.ob))), a6, some (.lst ((List.range rows.length).map (rowT rows))), b8, b9, none] =
      .ok (.tmp (.val (.bl true))) [some (.val (.scr ns)), some s3.o, some (.val (.int (rows.length : Int))), some (.lst (rows.map Bx.t)), b4, some (.val (.lst (rows.map Bx.ob))), a6, some (.lst ((List.range rows.length).map (rowT rows))), b8, b9, none] := by
    generalize (List.range rows.length).map (rowT rows) = T
    have cf := compF_map (vs := [10]) (tgt := asg1 (roV [10]) (.nm 10)) (c := evYes) (me := (ev (pr.ct 40) (.call 15 (.cons (.lc 10) .nil))).1) (zb := [some (.val (.scr ns)), some s3.o, some (.val (.int (rows.length : Int))), some (.lst (rows.map Bx.t)), b4, none, a6, some (.lst T), b8, b9, none]) (fun d => match d with
      | .obj _ [(_, .int f), (_, .int l), (_, .int x), (_, .int y), (_, .int o), (_, .int d)] => Bx.t ⟨f, l, x, y, o, d⟩
      | d => d) (rows.map Bx.ob) [] (fun d hd => by
        obtain ⟨b, _, rfl⟩ := List.mem_map.mp hd
        have ek := run_boxed 39 b
        refine ⟨[some (.val (.scr ns)), some s3.o, some (.val (.int (rows.length : Int))), some (.lst (rows.map Bx.t)), b4, none, a6, some (.lst T), b8, b9, some (.val b.ob)], rfl, _, .tmp (.val b.t), [some (.val (.scr ns)), some s3.o, some (.val (.int (rows.length : Int))), some (.lst (rows.map Bx.t)), b4, none, a6, some (.lst T), b8, b9, some (.val b.ob)], [some (.val (.scr ns)), some s3.o, some (.val (.int (rows.length : Int))), some (.lst (rows.map Bx.t)), b4, none, a6, some (.lst T), b8, b9, some (.val b.ob)], rfl, ?_, rfl, by simp⟩
        generalize (D.int (rows.length : Int)) = q
        simp [apF, given, lendA, backA, ek]) (by rw [List.length_map, List.length_nil]; omega)
    rw [List.nil_append, List.map_map] at cf
    have e1 : ((fun d : D => match d with
      | .obj _ [(_, .int f), (_, .int l), (_, .int x), (_, .int y), (_, .int o), (_, .int d)] => Bx.t ⟨f, l, x, y, o, d⟩
      | d => d) ∘ Bx.ob) = Bx.t := rfl
    rw [e1] at cf
    have q : evSeq (some 5) (evSlot 5) [some (.val (.scr ns)), some s3.o, some (.val (.int (rows.length : Int))), some (.lst (rows.map Bx.t)), b4, some (.val (.lst (rows.map Bx.ob))), a6, some (.lst T), b8, b9, none] = .ok (rows.map Bx.ob, some (5, .val (.lst (rows.map Bx.ob)))) [some (.val (.scr ns)), some s3.o, some (.val (.int (rows.length : Int))), some (.lst (rows.map Bx.t)), b4, none, a6, some (.lst T), b8, b9, none] := rfl
    have hc : evComp [10] (asg1 (roV [10]) (.nm 10)) evYes (ev (pr.ct 40) (.call 15 (.cons (.lc 10) .nil))).1 (evSeq (some 5) (evSlot 5)) [some (.val (.scr ns)), some s3.o, some (.val (.int (rows.length : Int))), some (.lst (rows.map Bx.t)), b4, some (.val (.lst (rows.map Bx.ob))), a6, some (.lst T), b8, b9, none] = .ok (.tmp (.lst (rows.map Bx.t))) [some (.val (.scr ns)), some s3.o, some (.val (.int (rows.length : Int))), some (.lst (rows.map Bx.t)), b4, some (.val (.lst (rows.map Bx.ob))), a6, some (.lst T), b8, b9, none] := by
      unfold evComp
      rw [q, R.bind_ok, show wipeZ [some (.val (.scr ns)), some s3.o, some (.val (.int (rows.length : Int))), some (.lst (rows.map Bx.t)), b4, none, a6, some (.lst T), b8, b9, none] [10] = [some (.val (.scr ns)), some s3.o, some (.val (.int (rows.length : Int))), some (.lst (rows.map Bx.t)), b4, none, a6, some (.lst T), b8, b9, none] from rfl, cf]
      rfl
    have eqc : (ev (pr.ct 40) (.cmp .eq (.comp [10] (.nm 10) (.seq (some 5) (.lc 5)) .none (.call 15 (.cons (.lc 10) .nil))) (.lc 3))).1 = evCmp (pr.ct 40) .eq (evComp [10] (asg1 (roV [10]) (.nm 10)) evYes (ev (pr.ct 40) (.call 15 (.cons (.lc 10) .nil))).1 (evSeq (some 5) (evSlot 5))) (evSlot 3) := by simp only [ev, evEc, evI]
    rw [eqc]
    refine (cmp_ok (C := pr.ct 40) (op := .eq) (m2 := evSlot 3) (y := .slot 3) (z2 := [some (.val (.scr ns)), some s3.o, some (.val (.int (rows.length : Int))), some (.lst (rows.map Bx.t)), b4, some (.val (.lst (rows.map Bx.ob))), a6, some (.lst T), b8, b9, none]) hc (by simp)).trans ?_
    have p1 := plain_rows rows
    have p2 : eqD (.lst (rows.map Bx.t)) (.lst (rows.map Bx.t)) = true := eqDs_mapB eqD_t rows
    generalize rows.map Bx.t = R at *
    simp [p1, p2]
  have sl : evI (pr.ct 40) (.seq none (.sl (.lc 3) .none (.some (.kon (.int 4))))) [some (.val (.scr ns)), some s2.o, some (.val (.int (rows.length : Int))), some (.lst (rows.map Bx.t)), a4, some (.lst (rows.map Bx.ob)), none, none, none, none, none] = .ok ((rows.take 4).map Bx.t, none) [some (.val (.scr ns)), some s2.o, some (.val (.int (rows.length : Int))), some (.lst (rows.map Bx.t)), a4, some (.lst (rows.map Bx.ob)), none, none, none, none, none] := by
    have c1 : cutL (rows.map Bx.t) none (some (4 : Int)) = (rows.take 4).map Bx.t := by rw [List.map_take]; exact cut_take _ 4
    generalize (rows.take 4).map Bx.t = U at c1 ⊢
    generalize rows.map Bx.t = R at c1 ⊢
    generalize (D.int (rows.length : Int)) = q
    simp [slO, c1, clm, itemsD]
  refine ⟨[none], ?_⟩
  rw [ru19]
  refine runD_ret (z := [some (.val (.scr ns)), some s3.o, some (.val (.int (rows.length : Int))), some (.lst (rows.map Bx.t)), b4, some (.val (.lst (rows.map Bx.ob))), a6, some (.lst ((List.range rows.length).map (rowT rows))), b8, b9, none]) rfl ?_ rfl
  refine seq_nxt (z1 := [some (.val (.scr ns)), some s0.o, none, none, none, none, none, none, none, none, none]) (st_asgT (i := 1) (o := s0.o) (z1 := [some (.val (.scr ns)), none, none, none, none, none, none, none, none, none, none]) (by simp [apF, given, lendA, backA, eh2, d19]) rfl (by simp)) ?_
  refine seq_nxt (z1 := [some (.val (.scr ns)), some s1.o, some (.val (.int (rows.length : Int))), none, none, none, none, none, none, none, none]) (st_asgT (i := 2) e2 rfl (by simp)) ?_
  refine seq_nxt (z1 := [some (.val (.scr ns)), some s1.o, some (.val (.int (rows.length : Int))), some (.lst []), none, none, none, none, none, none, none]) rfl ?_
  refine seq_nxt (z1 := [some (.val (.scr ns)), some s2.o, some (.val (.int (rows.length : Int))), some (.lst (rows.map Bx.t)), a4, none, none, none, none, none, none]) ((frl_ok (rg0 (pr.ct 40) _ _ _ (rg1 rows.length (by omega)) rfl)).trans ?_) ?_
  · show S.back none (forF (asg1 d19.ro (.nm 4)) (evS (pr.ct 40) d19.ro _) _ _) = _
    rw [e3]
    rfl
  refine seq_nxt (z1 := [some (.val (.scr ns)), some s2.o, some (.val (.int (rows.length : Int))), some (.lst (rows.map Bx.t)), a4, some (.lst (rows.map Bx.ob)), none, none, none, none, none]) (st_asgT (i := 5) cb rfl (by simp)) ?_
  refine seq_nxt (z1 := [some (.val (.scr ns)), some s3.o, some (.val (.int (rows.length : Int))), some (.lst (rows.map Bx.t)), a4, some (.lst (rows.map Bx.ob)), a6, none, none, none, none]) ((frl_ok sl).trans ?_) ?_
  · show S.back none (forF (asg1 d19.ro (.nm 6)) (evS (pr.ct 40) d19.ro _) _ _) = _
    rw [e4]
    rfl
  refine seq_nxt (z1 := [some (.val (.scr ns)), some s3.o, some (.val (.int (rows.length : Int))), some (.lst (rows.map Bx.t)), a4, some (.lst (rows.map Bx.ob)), a6, some (.lst []), none, none, none]) rfl ?_
  refine seq_nxt (z1 := [some (.val (.scr ns)), some s3.o, some (.val (.int (rows.length : Int))), some (.lst (rows.map Bx.t)), b4, some (.lst (rows.map Bx.ob)), a6, some (.lst ((List.range rows.length).map (rowT rows))), b8, b9, none]) ((frl_ok (rg0 (pr.ct 40) _ _ _ (rg1 rows.length (by omega)) rfl)).trans ?_) ?_
  · show S.back none (forF (asg1 d19.ro (.nm 4)) (evS (pr.ct 40) d19.ro outB) _ _) = _
    rw [e5]
    rfl
  exact seq_nxt (ife_f c9 rfl) (seq_ret (st_ret ce))
end K52
theorem PySem.Challenge.cw_slitstairs_k52_boxes_and_what_rests_holds : PySem.Challenge.rw_slitstairs_k52_boxes_and_what_rests.Holds := by
  exact K52.fin_ fun ns hl _ => K52.law_true ns hl
end
