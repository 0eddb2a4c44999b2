import PyProof.Rows.All
import HandS.ForMost
import HandS.DictComp
import HandS.Deep
import HandS.TupAny
import HandS.Flow
import HandS.ExcOwn
import HandS.Small
import HandS.FStr
import HandS.StrMore
import HandS.Comp
import HandS.WordsExc
import HandS.ExcInit
import HandS.ExcSuper
import KE.KExcSuper
import HandS.Words
import HandS.ExcField
import HandS.Codes
import HandS.SortOrd
import HandS.DictTup
import PyProof.TupleOfStr
import PyProof.EqAt
import PyProof.EqKinds
import PyProof.TupleCall
import PySem.Challenge.RW_tyloom_k03_whole_texts_of_types
import HandS.ForExc
set_option Elab.async false
set_option linter.all false
set_option maxRecDepth 100000
set_option maxHeartbeats 4000000
/-! PL1: pure values over the hand layer: what a value of the heap stands for, what a frame's slots stand for, the judgement of an expression by a function of the frame. -/
namespace PL
open PySem PySem.Spec PyProof.Rows L2

/-- a pure value: a tree -/
inductive PV where
  | non | bl (b : Bool) | int (i : Int) | str (s : Str)
  | tup (l : List PV) | lst (l : List PV) | scr (l : List PV) | dct (l : List (Str × PV))
  deriving Inhabited

/-- there, and not one that may be changed -/
def At (L : Addr → Prop) (H : Hp) (a : Addr) (u : HO) : Prop := H a = some u ∧ ¬ L a
/-- a dict that is read (it may be locked), and not one that may be changed -/
def RdD (L : Addr → Prop) (H : Hp) (a : Addr) (kvs : List (Key × V)) : Prop := Rd H a (.dK kvs) ∧ ¬ L a
/-- a tuple, a list of the written part -/
def KTup (K : PySem.W.Frag) (a : Addr) (xs : List V) : Prop := ∃ (o : Obj) (its : Array Value) (n : Nat), K.lookup a = some o ∧ o.cls = .type "tuple" ∧ o.data = .seq its n ∧ its.size ≤ sizeLine ∧ Vals xs its.toList
def KLst (K : PySem.W.Frag) (a : Addr) (xs : List V) : Prop := ∃ (o : Obj) (its : Array Value) (n : Nat), K.lookup a = some o ∧ o.cls = .type "list" ∧ o.dict = none ∧ o.data = .seq its n ∧ its.size ≤ sizeLine ∧ Vals xs its.toList
/-- a list that nobody writes to -/
def ScrR (K : PySem.W.Frag) (L : Addr → Prop) (H : Hp) (a : Addr) (xs : List V) : Prop := (∃ o, At L H a (.frz o (.lst xs))) ∨ KLst K a xs
theorem ScrR.sq {K : PySem.W.Frag} {L : Addr → Prop} {H : Hp} {a : Addr} {xs : List V} (h : ScrR K L H a xs) : SqL K H a xs := h.elim (fun ⟨o, z⟩ => .inl (.inr ⟨o, z.1⟩)) .inr

mutual
inductive Rep (K : PySem.W.Frag) (L : Addr → Prop) (H : Hp) : V → PV → Prop
  | non : Rep K L H .non .non
  | bl (b : Bool) : Rep K L H (.bl b) (.bl b)
  | int (i : Int) : Rep K L H (.int i) (.int i)
  | str (x : Str) : Rep K L H (.str x) (.str x)
  | tup {a : Addr} {xs : List V} {ps : List PV} : At L H a (.tup xs) ∨ KTup K a xs → RepAll K L H xs ps → Rep K L H (.ref a) (.tup ps)
  | lst {a : Addr} {xs : List V} {ps : List PV} : At L H a (.lst xs) → RepAll K L H xs ps → Rep K L H (.ref a) (.lst ps)
  | scr {a : Addr} {xs : List V} {ps : List PV} : ScrR K L H a xs → RepAll K L H xs ps → Rep K L H (.ref a) (.scr ps)
  | dct {a : Addr} {kvs : List (Key × V)} {ps : List (Str × PV)} : RdD L H a kvs → RepKv K L H kvs ps → Rep K L H (.ref a) (.dct ps)
inductive RepAll (K : PySem.W.Frag) (L : Addr → Prop) (H : Hp) : List V → List PV → Prop
  | nil : RepAll K L H [] []
  | cons {v : V} {vs : List V} {p : PV} {ps : List PV} : Rep K L H v p → RepAll K L H vs ps → RepAll K L H (v :: vs) (p :: ps)
inductive RepKv (K : PySem.W.Frag) (L : Addr → Prop) (H : Hp) : List (Key × V) → List (Str × PV) → Prop
  | nil : RepKv K L H [] []
  | cons {k : Str} {v : V} {vs : List (Key × V)} {p : PV} {ps : List (Str × PV)} : Rep K L H v p → RepKv K L H vs ps → RepKv K L H ((.inr k, v) :: vs) ((k, p) :: ps)
end

/-- what is read stays readable -/
structure Keeps (L : Addr → Prop) (H : Hp) (L' : Addr → Prop) (H' : Hp) : Prop where
  tup : ∀ a xs, At L H a (.tup xs) → At L' H' a (.tup xs)
  lst : ∀ a xs, At L H a (.lst xs) → At L' H' a (.lst xs)
  scr : ∀ a o xs, At L H a (.frz o (.lst xs)) → At L' H' a (.frz o (.lst xs))
  dct : ∀ a kvs, RdD L H a kvs → RdD L' H' a kvs
theorem Keeps.refl {L : Addr → Prop} {H : Hp} : Keeps L H L H := ⟨fun _ _ h => h, fun _ _ h => h, fun _ _ _ h => h, fun _ _ h => h⟩
theorem Keeps.trans {L L1 L2 : Addr → Prop} {H H1 H2 : Hp} (a : Keeps L H L1 H1) (b : Keeps L1 H1 L2 H2) : Keeps L H L2 H2 :=
  ⟨fun x u h => b.tup x u (a.tup x u h), fun x u h => b.lst x u (a.lst x u h), fun x o u h => b.scr x o u (a.scr x o u h), fun x u h => b.dct x u (a.dct x u h)⟩
/-- what stands for itself stays -/
theorem Keeps.of {L L' : Addr → Prop} {H H' : Hp} (h : ∀ a u, H a = some u → ¬ L a → H' a = some u ∧ ¬ L' a) : Keeps L H L' H' :=
  ⟨fun a xs e => h a _ e.1 e.2, fun a xs e => h a _ e.1 e.2, fun a o xs e => h a _ e.1 e.2, fun a kvs e => by
    rcases e.1 with q | ⟨o, q⟩
    · exact ⟨.inl (h a _ q e.2).1, (h a _ q e.2).2⟩
    · exact ⟨.inr ⟨o, (h a _ q e.2).1⟩, (h a _ q e.2).2⟩⟩

section
variable {K : PySem.W.Frag} {L L' : Addr → Prop} {H H' : Hp}
mutual
theorem Rep.keep (k : Keeps L H L' H') : ∀ {v : V} {p : PV}, Rep K L H v p → Rep K L' H' v p
  | _, _, .non => .non
  | _, _, .bl b => .bl b
  | _, _, .int i => .int i
  | _, _, .str x => .str x
  | _, _, .tup h r => .tup (h.imp (k.tup _ _) id) (RepAll.keep k r)
  | _, _, .lst h r => .lst (k.lst _ _ h) (RepAll.keep k r)
  | _, _, .scr h r => .scr (h.imp (fun ⟨o, z⟩ => ⟨o, k.scr _ _ _ z⟩) id) (RepAll.keep k r)
  | _, _, .dct h r => .dct (k.dct _ _ h) (RepKv.keep k r)
theorem RepAll.keep (k : Keeps L H L' H') : ∀ {v : List V} {p : List PV}, RepAll K L H v p → RepAll K L' H' v p
  | _, _, .nil => .nil
  | _, _, .cons a b => .cons (Rep.keep k a) (RepAll.keep k b)
theorem RepKv.keep (k : Keeps L H L' H') : ∀ {v : List (Key × V)} {p : List (Str × PV)}, RepKv K L H v p → RepKv K L' H' v p
  | _, _, .nil => .nil
  | _, _, .cons a b => .cons (Rep.keep k a) (RepKv.keep k b)
end
theorem RepAll.length : ∀ {v : List V} {p : List PV}, RepAll K L H v p → v.length = p.length
  | _, _, .nil => rfl
  | _, _, .cons _ b => by simp [RepAll.length b]
theorem RepAll.append : ∀ {v w : List V} {p q : List PV}, RepAll K L H v p → RepAll K L H w q → RepAll K L H (v ++ w) (p ++ q)
  | _, _, _, _, .nil, h => h
  | _, _, _, _, .cons a b, h => .cons a (RepAll.append b h)
theorem RepAll.get : ∀ {v : List V} {p : List PV} {i : Nat} {x : V}, RepAll K L H v p → v[i]? = some x → ∃ q, p[i]? = some q ∧ Rep K L H x q
  | _, _, _, _, .nil, e => by simp at e
  | _, _, 0, _, .cons a b, e => by simp at e; subst e; exact ⟨_, rfl, a⟩
  | _, _, i + 1, _, .cons a b, e => by simpa using RepAll.get b (by simpa using e)
theorem RepAll.get' : ∀ {v : List V} {p : List PV} {i : Nat} {q : PV}, RepAll K L H v p → p[i]? = some q → ∃ x, v[i]? = some x ∧ Rep K L H x q
  | _, _, _, _, .nil, e => by simp at e
  | _, _, 0, _, .cons a b, e => by simp at e; subst e; exact ⟨_, rfl, a⟩
  | _, _, i + 1, _, .cons a b, e => by simpa using RepAll.get' b (by simpa using e)
theorem RepAll.reverse : ∀ {v : List V} {p : List PV}, RepAll K L H v p → RepAll K L H v.reverse p.reverse
  | _, _, .nil => .nil
  | _, _, .cons a b => by
    rw [List.reverse_cons, List.reverse_cons]
    exact (RepAll.reverse b).append (.cons a .nil)
theorem RepAll.drop : ∀ {v : List V} {p : List PV} (n : Nat), RepAll K L H v p → RepAll K L H (v.drop n) (p.drop n)
  | _, _, 0, h => h
  | _, _, _ + 1, .nil => .nil
  | _, _, n + 1, .cons _ b => RepAll.drop n b
theorem RepAll.take : ∀ {v : List V} {p : List PV} (n : Nat), RepAll K L H v p → RepAll K L H (v.take n) (p.take n)
  | _, _, 0, _ => .nil
  | _, _, _ + 1, .nil => .nil
  | _, _, n + 1, .cons a b => .cons a (RepAll.take n b)
theorem RepAll.set {x : V} {q : PV} (r : Rep K L H x q) : ∀ {v : List V} {p : List PV} (n : Nat), RepAll K L H v p → RepAll K L H (v.set n x) (p.set n q)
  | _, _, _, .nil => .nil
  | _, _, 0, .cons _ b => .cons r b
  | _, _, n + 1, .cons a b => .cons a (RepAll.set r n b)
end

mutual
/-- the datum of the model that a pure value is -/
def PV.toD : PV → PyData
  | .non => .none
  | .bl b => .bool b
  | .int i => .int i
  | .str s => .str s
  | .tup l => .tuple (PV.toDs l)
  | .lst l => .list (PV.toDs l)
  | .scr l => .list (PV.toDs l)
  | .dct _ => .dict []
def PV.toDs : List PV → List PyData
  | [] => []
  | p :: ps => p.toD :: PV.toDs ps
end
mutual
def PV.flat : PV → Bool
  | .tup l => PV.flats l
  | .lst l => PV.flats l
  | .scr l => PV.flats l
  | .dct _ => false
  | _ => true
def PV.flats : List PV → Bool
  | [] => true
  | p :: ps => p.flat && PV.flats ps
end
section
variable {K : PySem.W.Frag} {L : Addr → Prop} {H : Hp}
mutual
theorem Rep.dp : ∀ {v : V} {p : PV}, Rep K L H v p → p.flat = true → Dp K H v p.toD
  | _, _, .non, _ => by simp only [PV.toD]; exact .non
  | _, _, .bl b, _ => by simp only [PV.toD]; exact .bl b
  | _, _, .int i, _ => by simp only [PV.toD]; exact .int i
  | _, _, .str x, _ => by simp only [PV.toD]; exact .str x
  | _, _, .tup h r, f => by
    simp only [PV.toD]
    exact .tup (h.imp (fun z => .inl z.1) id) (RepAll.dp r (by simpa only [PV.flat] using f))
  | _, _, .lst h r, f => by
    simp only [PV.toD]
    exact .lst (.inl (.inl h.1)) (RepAll.dp r (by simpa only [PV.flat] using f))
  | _, _, .scr h r, f => by
    simp only [PV.toD]
    exact .lst h.sq (RepAll.dp r (by simpa only [PV.flat] using f))
  | _, _, .dct h r, f => by simp [PV.flat] at f
theorem RepAll.dp : ∀ {v : List V} {p : List PV}, RepAll K L H v p → PV.flats p = true → DpAll K H v (PV.toDs p)
  | _, _, .nil, _ => by simp only [PV.toDs]; exact .nil
  | _, _, .cons a b, f => by
    simp only [PV.toDs]
    simp only [PV.flats, Bool.and_eq_true] at f
    exact .cons (Rep.dp a f.1) (RepAll.dp b f.2)
end
end
end PL
/-! PL2: frames of pure values, steps, the judgements by a function of the frame. -/
namespace PL
open PySem PySem.Spec L2

/-- a container that a slot holds for itself -/
inductive Own where
  | lst (l : List PV) | dct (l : List (Str × PV)) | ins (C : Addr) (l : List (Str × PV))
def Own.pv : Own → Option PV
  | .lst l => some (.lst l)
  | .dct l => some (.dct l)
  | .ins _ _ => none
inductive RepF (K : PySem.W.Frag) (L : Addr → Prop) (H : Hp) : List (Str × V) → List (Str × PV) → Prop
  | nil : RepF K L H [] []
  | cons {k : Str} {v : V} {vs : List (Str × V)} {p : PV} {ps : List (Str × PV)} : Rep K L H v p → RepF K L H vs ps → RepF K L H ((k, v) :: vs) ((k, p) :: ps)
/-- a slot: nothing, a value, a container of its own (pinned: the caller's) -/
inductive Sl where
  | no | pv (p : PV) | own (pin : Bool) (o : Own)
abbrev Ev := List Sl
def RepO (K : PySem.W.Frag) (L : Addr → Prop) (H : Hp) : Own → Addr → Prop
  | .lst ps, a => ∃ xs, H a = some (.lst xs) ∧ RepAll K L H xs ps
  | .dct ps, a => ∃ kvs, H a = some (.dK kvs) ∧ RepKv K L H kvs ps
  | .ins C ps, a => ∃ dx fs, H a = some (.ins C dx fs) ∧ RepF K L H fs ps
theorem RepF.keep {K : PySem.W.Frag} {L L' : Addr → Prop} {H H' : Hp} (k : Keeps L H L' H') : ∀ {v : List (Str × V)} {p : List (Str × PV)}, RepF K L H v p → RepF K L' H' v p
  | _, _, .nil => .nil
  | _, _, .cons a b => .cons (a.keep k) (RepF.keep k b)
structure EnvR (K : PySem.W.Frag) (L : Addr → Prop) (H : Hp) (σ : St) (ρ : Ev) : Prop where
  len : σ.length = ρ.length
  pvs : ∀ (i : Nat) (p : PV), ρ[i]? = some (Sl.pv p) → ∃ v, σ[i]? = some (some v) ∧ Rep K L H v p
  own : ∀ (i : Nat) (b : Bool) (o : Own), ρ[i]? = some (Sl.own b o) → ∃ a, σ[i]? = some (some (V.ref a)) ∧ L a ∧ RepO K L H o a
  dis : ∀ (i j : Nat) (b b' : Bool) (o o' : Own) (a : Addr), ρ[i]? = some (Sl.own b o) → ρ[j]? = some (Sl.own b' o') → σ[i]? = some (some (V.ref a)) → σ[j]? = some (some (V.ref a)) → i = j
  liv : ∀ a, L a → H a ≠ none
/-- the addresses of the slots' own containers -/
def OA (σ : St) (ρ : Ev) (a : Addr) : Prop := ∃ (i : Nat) (b : Bool) (o : Own), ρ[i]? = some (Sl.own b o) ∧ σ[i]? = some (some (V.ref a))
/-- what a run may do to the heap outside of the frame -/
def Ext (σ : St) (ρ : Ev) (L : Addr → Prop) (H : Hp) (L' : Addr → Prop) (H' : Hp) : Prop := ∀ a u, H a = some u → ¬ OA σ ρ a → H' a = some u ∧ (L a ↔ L' a)
structure Stp (σ : St) (ρ : Ev) (L : Addr → Prop) (H : Hp) (σ' : St) (ρ' : Ev) (L' : Addr → Prop) (H' : Hp) : Prop where
  ext : Ext σ ρ L H L' H'
  oa : ∀ a, OA σ' ρ' a → OA σ ρ a ∨ H a = none
  pin : ∀ (i : Nat) (o : Own), ρ[i]? = some (Sl.own true o) → σ'[i]? = σ[i]? ∧ ∃ o', ρ'[i]? = some (Sl.own true o')
  len : ρ'.length = ρ.length
/-- all stays -/
def Alc (H H' : Hp) : Prop := ∀ a u, H a = some u → H' a = some u
theorem Alc.refl {H : Hp} : Alc H H := fun _ _ h => h
theorem Alc.upd {H : Hp} {p : Addr} {o : HO} (h : H p = none) : Alc H (upd H p o) := fun a u e => by
  rw [upd_ne (ne_of_none e h)]; exact e

section
variable {K : PySem.W.Frag} {L L1 L2 L' : Addr → Prop} {H H1 H2 H' : Hp} {σ σ1 σ2 σ' : St} {ρ ρ1 ρ2 ρ' : Ev}
theorem Keeps.alc (h : Alc H H') : Keeps L H L H' := .of fun a u r n => ⟨h a u r, n⟩
theorem RepO.keep {o : Own} {a : Addr} (h : RepO K L H o a) (k : Keeps L H L' H') (e : H' a = H a) : RepO K L' H' o a := by
  cases o with
  | lst ps => obtain ⟨xs, q, r⟩ := h; exact ⟨xs, e.trans q, r.keep k⟩
  | dct ps => obtain ⟨xs, q, r⟩ := h; exact ⟨xs, e.trans q, r.keep k⟩
  | ins C ps => obtain ⟨dx, xs, q, r⟩ := h; exact ⟨dx, xs, e.trans q, r.keep k⟩
theorem RepO.there {o : Own} {a : Addr} (h : RepO K L H o a) : ∃ u, H a = some u := by
  cases o with
  | lst ps => obtain ⟨xs, q, _⟩ := h; exact ⟨_, q⟩
  | dct ps => obtain ⟨xs, q, _⟩ := h; exact ⟨_, q⟩
  | ins C ps => obtain ⟨dx, xs, q, _⟩ := h; exact ⟨_, q⟩
theorem EnvR.oaL (e : EnvR K L H σ ρ) {a : Addr} (h : OA σ ρ a) : L a := by
  obtain ⟨i, b, o, h1, h2⟩ := h
  obtain ⟨a', h3, l, _⟩ := e.own i b o h1
  rw [h2] at h3; cases h3; exact l
theorem EnvR.alc (e : EnvR K L H σ ρ) (h : Alc H H') : EnvR K L H' σ ρ where
  len := e.len
  pvs := fun i p q => let ⟨v, a, r⟩ := e.pvs i p q; ⟨v, a, r.keep (.alc h)⟩
  own := fun i b o q => by
    obtain ⟨a, s, l, r⟩ := e.own i b o q
    obtain ⟨u, hu⟩ := r.there
    exact ⟨a, s, l, r.keep (.alc h) ((h a u hu).trans hu.symm)⟩
  dis := e.dis
  liv := fun a l => by
    cases q : H a with
    | none => exact absurd q (e.liv a l)
    | some u => rw [h a u q]; simp
theorem Ext.keeps (x : Ext σ ρ L H L' H') (e : EnvR K L H σ ρ) : Keeps L H L' H' := .of fun a u r n => by
  obtain ⟨q', i⟩ := x a _ r fun z => n (e.oaL z)
  exact ⟨q', fun z => n (i.mpr z)⟩
theorem Stp.keeps (x : Stp σ ρ L H σ' ρ' L' H') (e : EnvR K L H σ ρ) : Keeps L H L' H' := x.ext.keeps e
theorem Stp.refl : Stp σ ρ L H σ ρ L H := ⟨fun _ _ q _ => ⟨q, Iff.rfl⟩, fun _ h => .inl h, fun _ o h => ⟨rfl, o, h⟩, rfl⟩
theorem Stp.alc (h : Alc H H') : Stp σ ρ L H σ ρ L H' := ⟨fun a u q _ => ⟨h a u q, Iff.rfl⟩, fun _ h => .inl h, fun _ o h => ⟨rfl, o, h⟩, rfl⟩
theorem Stp.trans (a : Stp σ ρ L H σ1 ρ1 L1 H1) (b : Stp σ1 ρ1 L1 H1 σ2 ρ2 L2 H2) : Stp σ ρ L H σ2 ρ2 L2 H2 where
  ext := fun x u q n => by
    obtain ⟨q1, i1⟩ := a.ext x u q n
    have n1 : ¬ OA σ1 ρ1 x := fun z => (a.oa x z).elim n fun z => by rw [q] at z; cases z
    obtain ⟨q2, i2⟩ := b.ext x u q1 n1
    exact ⟨q2, i1.trans i2⟩
  oa := fun x h => by
    rcases b.oa x h with h | h
    · exact a.oa x h
    · by_cases n : OA σ ρ x
      · exact .inl n
      · refine .inr ?_
        cases q : H x with
        | none => rfl
        | some u => rw [(a.ext x u q n).1] at h; cases h
  pin := fun i o h => by
    obtain ⟨e1, o1, h1⟩ := a.pin i o h
    obtain ⟨e2, o2, h2⟩ := b.pin i o1 h1
    exact ⟨e2.trans e1, o2, h2⟩
  len := b.len.trans a.len
theorem Ext.after (a : Stp σ ρ L H σ1 ρ1 L1 H1) (b : Ext σ1 ρ1 L1 H1 L2 H2) : Ext σ ρ L H L2 H2 := fun x u q n => by
  obtain ⟨q1, i1⟩ := a.ext x u q n
  have n1 : ¬ OA σ1 ρ1 x := fun z => (a.oa x z).elim n fun z => by rw [q] at z; cases z
  obtain ⟨q2, i2⟩ := b x u q1 n1
  exact ⟨q2, i1.trans i2⟩
end

/-- what comes of a run: a value, an error of a class with fields, or nothing that is told -/
inductive Res (α : Type) where
  | ok (a : α) | err (c : Str) (xs : List (Str × PV)) | bad
def Res.bind {α β : Type} : Res α → (α → Res β) → Res β
  | .ok a, f => f a
  | .err c xs, _ => .err c xs
  | .bad, _ => .bad
instance : Monad Res where
  pure := .ok
  bind := Res.bind
@[simp] theorem Res.ok_bind {α β : Type} (a : α) (f : α → Res β) : (Res.ok a >>= f) = f a := rfl
@[simp] theorem Res.bad_bind {α β : Type} (f : α → Res β) : ((Res.bad : Res α) >>= f) = Res.bad := rfl
@[simp] theorem Res.err_bind {α β : Type} (c : Str) (xs : List (Str × PV)) (f : α → Res β) : ((Res.err c xs : Res α) >>= f) = Res.err c xs := rfl
@[simp] theorem Res.pure_eq {α : Type} (a : α) : (pure a : Res α) = Res.ok a := rfl
def Res.of {α : Type} : Option α → Res α
  | some a => .ok a
  | none => .bad
@[simp] theorem Res.of_some {α : Type} (a : α) : Res.of (some a) = .ok a := rfl
@[simp] theorem Res.of_none {α : Type} : Res.of (none : Option α) = .bad := rfl

/-- an error: the class stands at a name of the module's, its own dict bears the fields -/
def XR (K : PySem.W.Frag) (mg : Str → Option Value) (L : Addr → Prop) (c : Str) (xs : List (Str × PV)) (cls : Value) (d : Option Addr) (H : Hp) : Prop :=
  mg c = some cls ∧ (xs ≠ [] → ∃ dd fs, d = some dd ∧ H dd = some (.xd fs) ∧ ¬ L dd ∧ ∀ f p, xs.lookup f = some p → ∃ v, fs.lookup f = some v ∧ Rep K L H v p)
def Fails (X : Cx) (E : St → XK) (σ : St) (ρ : Ev) (L : Addr → Prop) (H : Hp) (c : Str) (xs : List (Str × PV)) : Prop :=
  ∀ cls d H' L', Ext σ ρ L H L' H' → (∀ a, L' a → H' a ≠ none) → XR X.K X.mg L' c xs cls d H' → E σ cls d H'
theorem Fails.after {X : Cx} {E : St → XK} {σ : St} {ρ ρ1 : Ev} {L L1 : Addr → Prop} {H H1 : Hp} {c : Str} {xs : List (Str × PV)} (h : Fails X E σ ρ L H c xs) (s : Stp σ ρ L H σ ρ1 L1 H1) : Fails X E σ ρ1 L1 H1 c xs :=
  fun cls d H' L' x l r => h cls d H' L' (Ext.after s x) l r

abbrev ME := Ev → Res (PV × Ev)
abbrev MT := Ev → Res (Bool × Ev)
/-- what an operand is: a value, or what a slot holds when it comes to it -/
inductive Pk where
  | val (p : PV) | at (i : Nat)
abbrev MP := Ev → Res (Pk × Ev)
def Sl.cnt : Sl → Option PV
  | .pv p => some p
  | .own _ o => o.pv
  | .no => none
def Pk.get : Pk → Ev → Option PV
  | .val p, _ => some p
  | .at i, ρ => (ρ[i]?).bind Sl.cnt

/-- a value as it is read now -/
def CRep (K : PySem.W.Frag) (L : Addr → Prop) (H : Hp) (v : V) : PV → Prop
  | .lst ps => ∃ a xs, v = .ref a ∧ H a = some (.lst xs) ∧ RepAll K L H xs ps
  | .dct ps => ∃ a kvs, v = .ref a ∧ Rd H a (.dK kvs) ∧ RepKv K L H kvs ps
  | p => Rep K L H v p
theorem Rep.c {K : PySem.W.Frag} {L : Addr → Prop} {H : Hp} {v : V} {p : PV} (h : Rep K L H v p) : CRep K L H v p := by
  cases h with
  | lst r a => exact ⟨_, _, rfl, r.1, a⟩
  | dct r a => exact ⟨_, _, rfl, r.1, a⟩
  | non => exact .non
  | bl b => exact .bl b
  | int i => exact .int i
  | str x => exact .str x
  | tup r a => exact .tup r a
  | scr r a => exact .scr r a
/-- an operand's value v, as it will be read -/
def PkR (K : PySem.W.Frag) (L : Addr → Prop) (H : Hp) (σ : St) (v : V) : Pk → Prop
  | .val p => Rep K L H v p
  | .at i => σ[i]? = some (some v)
theorem PkR.get {K : PySem.W.Frag} {L : Addr → Prop} {H : Hp} {σ : St} {ρ : Ev} {v : V} {k : Pk} {p : PV} (h : PkR K L H σ v k) (e : EnvR K L H σ ρ) (g : k.get ρ = some p) : CRep K L H v p := by
  cases k with
  | val q =>
    have g : some q = some p := g
    have h : Rep K L H v q := h
    cases g
    exact h.c
  | «at» i =>
    have h : σ[i]? = some (some v) := h
    obtain ⟨s, hs, c⟩ := Option.bind_eq_some_iff.mp (show (ρ[i]?).bind Sl.cnt = some p from g)
    cases s with
    | no => cases c
    | pv q =>
      have c : some q = some p := c
      cases c
      obtain ⟨v', e1, r⟩ := e.pvs i p hs
      rw [h] at e1; cases e1; exact r.c
    | own b o =>
      obtain ⟨a, e1, _, r⟩ := e.own i b o hs
      rw [h] at e1; cases e1
      have c : o.pv = some p := c
      cases o with
      | lst ps => cases c; obtain ⟨xs, q, r⟩ := r; exact ⟨_, xs, rfl, q, r⟩
      | dct ps => cases c; obtain ⟨xs, q, r⟩ := r; exact ⟨_, xs, rfl, .inl q, r⟩
      | ins C ps => cases c
theorem PkR.keep {K : PySem.W.Frag} {L L' : Addr → Prop} {H H' : Hp} {σ : St} {v : V} {k : Pk} (h : PkR K L H σ v k) (kk : Keeps L H L' H') : PkR K L' H' σ v k := by
  cases k with
  | val p => exact Rep.keep kk (show Rep K L H v p from h)
  | «at» i => exact h

/-! ### readings -/
def Snd (X : Cx) (E : St → XK) (m : ME) : TE := fun σ H Q => ∃ L ρ, EnvR X.K L H σ ρ ∧
  match m ρ with
  | .ok (p, ρ') => ∀ v H' L', EnvR X.K L' H' σ ρ' → Stp σ ρ L H σ ρ' L' H' → Rep X.K L' H' v p → Q v H'
  | .err c xs => Fails X E σ ρ L H c xs
  | .bad => False
def SndP (X : Cx) (E : St → XK) (m : MP) : TE := fun σ H Q => ∃ L ρ, EnvR X.K L H σ ρ ∧
  match m ρ with
  | .ok (k, ρ') => ∀ v H' L', EnvR X.K L' H' σ ρ' → Stp σ ρ L H σ ρ' L' H' → PkR X.K L' H' σ v k → Q v H'
  | .err c xs => Fails X E σ ρ L H c xs
  | .bad => False
def SndT (X : Cx) (E : St → XK) (m : MT) : TT := fun σ H Q => ∃ L ρ, EnvR X.K L H σ ρ ∧
  match m ρ with
  | .ok (b, ρ') => ∀ H' L', EnvR X.K L' H' σ ρ' → Stp σ ρ L H σ ρ' L' H' → Q b H'
  | .err c xs => Fails X E σ ρ L H c xs
  | .bad => False
/-- operands in a row -/
abbrev MA := Ev → Res (List Pk × Ev)
inductive PkRs (K : PySem.W.Frag) (L : Addr → Prop) (H : Hp) (σ : St) : List V → List Pk → Prop
  | nil : PkRs K L H σ [] []
  | cons {v : V} {vs : List V} {k : Pk} {ks : List Pk} : PkR K L H σ v k → PkRs K L H σ vs ks → PkRs K L H σ (v :: vs) (k :: ks)
def SndA (X : Cx) (E : St → XK) (m : MA) : TA := fun σ H Q => ∃ L ρ, EnvR X.K L H σ ρ ∧
  match m ρ with
  | .ok (ks, ρ') => ∀ vs H' L', EnvR X.K L' H' σ ρ' → Stp σ ρ L H σ ρ' L' H' → PkRs X.K L' H' σ vs ks → Q vs H'
  | .err c xs => Fails X E σ ρ L H c xs
  | .bad => False

theorem PE.imp {X : Cx} {e : Expr} {t t' : TE} (h : PE X e t) (i : ∀ σ H Q, t' σ H Q → t σ H Q) : PE X e t' := ⟨fun pins s σ H Q I w => h.run pins s σ H Q I (i _ _ _ w)⟩
theorem PT.imp {X : Cx} {e : Expr} {t t' : TT} (h : PT X e t) (i : ∀ σ H Q, t' σ H Q → t σ H Q) : PT X e t' := ⟨fun pins s σ H Q I w => h.run pins s σ H Q I (i _ _ _ w)⟩
theorem PW.imp {X : Cx} {e : Expr} {t t' : TT} (h : PW X e t) (i : ∀ σ H Q, t' σ H Q → t σ H Q) : PW X e t' := ⟨fun wh pins s σ H Q I w => h.run wh pins s σ H Q I (i _ _ _ w)⟩
theorem PA.imp {X : Cx} {e : List Expr} {t t' : TA} (h : PA X e t) (i : ∀ σ H Q, t' σ H Q → t σ H Q) : PA X e t' := ⟨fun pos pins s σ H Q I w => h.run pos pins s σ H Q I (i _ _ _ w)⟩
theorem PS.imp {X : Cx} {e : Stmt} {t t' : TS} (h : PS X e t) (i : ∀ D σ H, t' D σ H → t D σ H) : PS X e t' := ⟨fun pins s σ H D I w => h.run pins s σ H D I (i _ _ _ w)⟩
theorem PSs.imp {X : Cx} {e : List Stmt} {t t' : TS} (h : PSs X e t) (i : ∀ D σ H, t' D σ H → t D σ H) : PSs X e t' := ⟨fun pins s σ H D I w => h.run pins s σ H D I (i _ _ _ w)⟩

section
variable {X : Cx} {E : St → XK} {e a b c : Expr} {es : List Expr} {pos : Pos}
/-- from a value to an operand -/
def toP (m : ME) : MP := fun ρ => do let (p, ρ') ← m ρ; .ok (.val p, ρ')
theorem snd_p {m : ME} (h : PE X e (Snd X E m)) : PE X e (SndP X E (toP m)) := PE.imp h fun σ H Q ⟨L, ρ, er, w⟩ => by
  refine ⟨L, ρ, er, ?_⟩
  unfold toP at w
  cases q : m ρ with
  | ok r => obtain ⟨p, ρ'⟩ := r; rw [q] at w; exact w
  | err c xs => rw [q] at w; exact w
  | bad => rw [q] at w; exact w
def toA1 (mk : MP) (mr : MA) : MA := fun ρ => do let (k, ρ1) ← mk ρ; let (ks, ρ2) ← mr ρ1; .ok (k :: ks, ρ2)
def toA0 : MA := fun ρ => .ok ([], ρ)
theorem snd_nil : PA X [] (SndA X E toA0) := PA.imp pa_nil fun σ H Q ⟨L, ρ, er, w⟩ => w _ H L er .refl .nil
theorem snd_cons {mk : MP} {mr : MA} (h : PE X e (SndP X E mk)) (hr : PA X es (SndA X E mr)) (hs : starEach (e :: es) X.env = (false, eval e X.env) :: starEach es X.env := by rfl) : PA X (e :: es) (SndA X E (toA1 mk mr)) :=
  PA.imp (pa_cons h hr hs) fun σ H Q ⟨L, ρ, er, w⟩ => by
    refine ⟨L, ρ, er, ?_⟩
    unfold toA1 at w
    cases q : mk ρ with
    | bad => rw [q] at w; exact w
    | err c xs => rw [q] at w; exact w
    | ok r =>
      obtain ⟨k, ρ1⟩ := r
      rw [q] at w
      intro v H1 L1 e1 s1 r1
      refine ⟨L1, ρ1, e1, ?_⟩
      simp only [Res.ok_bind] at w
      cases q2 : mr ρ1 with
      | bad => rw [q2] at w; exact w
      | err c xs => rw [q2] at w; exact Fails.after w s1
      | ok r =>
        obtain ⟨ks, ρ2⟩ := r
        rw [q2] at w
        intro vs H2 L2 e2 s2 r2
        exact w (v :: vs) H2 L2 e2 (s1.trans s2) (.cons (r1.keep (s2.keeps e1)) r2)
end
end PL
/-! PL3: names, constants, displays, operators, comparisons, tests. -/
namespace PL
open PySem PySem.Spec L2
section
variable {X : Cx} {E : St → XK} {e a b c : Expr} {es : List Expr} {pos : Pos}
/-! ### names -/
def mVar (i : Nat) : ME := fun ρ => match ρ[i]? with
  | some (.pv p) => .ok (p, ρ)
  | some (.own false o) => match o.pv with
    | some p => .ok (p, ρ.set i (.pv p))
    | none => .bad
  | _ => .bad
def mPeek (i : Nat) : MP := fun ρ => match ρ[i]? with
  | some (.pv _) => .ok (.at i, ρ)
  | some (.own _ _) => .ok (.at i, ρ)
  | _ => .bad
/-- a container of one's own becomes a value -/
theorem EnvR.freeze {K : PySem.W.Frag} {L : Addr → Prop} {H : Hp} {σ : St} {ρ : Ev} {i : Nat} {o : Own} {op : PV} (er : EnvR K L H σ ρ) (h : ρ[i]? = some (Sl.own false o)) (ho : o.pv = some op) :
    ∃ a L', σ[i]? = some (some (V.ref a)) ∧ EnvR K L' H σ (ρ.set i (.pv op)) ∧ Stp σ ρ L H σ (ρ.set i (.pv op)) L' H ∧ Rep K L' H (.ref a) op := by
  obtain ⟨a, ha, la, ra⟩ := er.own i false o h
  have hi : i < ρ.length := (List.getElem?_eq_some_iff.mp h).1
  have kk : Keeps L H (fun b => L b ∧ b ≠ a) H := .of fun b u q n => ⟨q, fun z => n z.1⟩
  have rep : Rep K (fun b => L b ∧ b ≠ a) H (.ref a) op := by
    cases o with
    | lst ps => cases ho; obtain ⟨xs, q, r⟩ := ra; exact .lst ⟨q, fun z => z.2 rfl⟩ (r.keep kk)
    | dct ps => cases ho; obtain ⟨xs, q, r⟩ := ra; exact .dct ⟨.inl q, fun z => z.2 rfl⟩ (r.keep kk)
    | ins C ps => cases ho
  have other : ∀ (j : Nat) (b : Bool) (o' : Own), (ρ.set i (.pv op))[j]? = some (Sl.own b o') → j ≠ i ∧ ρ[j]? = some (Sl.own b o') := fun j b o' q => by
    by_cases e : j = i
    · subst e
      rw [List.getElem?_set_self hi] at q; cases q
    · rw [List.getElem?_set_ne (Ne.symm e)] at q
      exact ⟨e, q⟩
  refine ⟨a, fun b => L b ∧ b ≠ a, ha, ⟨by rw [List.length_set]; exact er.len, fun j p q => ?_, fun j b o' q => ?_, fun j k b b' o1 o2 x q1 q2 s1 s2 => ?_, fun b z => er.liv b z.1⟩, ⟨fun b u q n => ⟨q, fun z => ⟨z, fun z' => n ⟨i, false, o, h, z' ▸ ha⟩⟩, fun z => z.1⟩, fun b ⟨j, bb, o', q, s⟩ => .inl ⟨j, bb, o', (other j bb o' q).2, s⟩, fun j o' q => ⟨rfl, ?_⟩, List.length_set⟩, rep⟩
  · by_cases e : j = i
    · subst e
      rw [List.getElem?_set_self hi] at q; cases q
      exact ⟨_, ha, rep⟩
    · rw [List.getElem?_set_ne (Ne.symm e)] at q
      obtain ⟨v, s, r⟩ := er.pvs j p q
      exact ⟨v, s, r.keep kk⟩
  · obtain ⟨ne, q'⟩ := other j b o' q
    obtain ⟨a', s, l, r⟩ := er.own j b o' q'
    refine ⟨a', s, ⟨l, fun z => ne ?_⟩, r.keep kk rfl⟩
    exact er.dis j i b false o' o a' q' h s (z ▸ ha)
  · exact er.dis j k b b' o1 o2 x (other j b o1 q1).2 (other k b' o2 q2).2 s1 s2
  · have ne : j ≠ i := fun z => by subst z; rw [h] at q; cases q
    exact ⟨o', by rw [List.getElem?_set_ne (Ne.symm ne)]; exact q⟩
theorem snd_var {i : Nat} {x : Str} (hN : X.N[i]? = some x) (hv : Vis X.env.scope x) (hd : (x == ("__debug__" : Str)) = false := by decide) (hcd : (x == ("__classdict__" : Str)) = false := by decide) : PE X (.Name x pos) (Snd X E (mVar i)) :=
  PE.imp (pe_var hN hv hd hcd) fun σ H Q ⟨L, ρ, er, w⟩ => by
    unfold mVar at w
    cases q : ρ[i]? with
    | none => rw [q] at w; exact w.elim
    | some s =>
      rw [q] at w
      cases s with
      | no => exact w.elim
      | pv p =>
        obtain ⟨v, hs, r⟩ := er.pvs i p q
        exact ⟨v, hs, w v H L er .refl r⟩
      | own pin o =>
        cases pin with
        | true => exact w.elim
        | false =>
          cases ho : o.pv with
          | none => simp only [ho] at w
          | some op =>
            simp only [ho] at w
            obtain ⟨a, L', hs, er', st, r⟩ := er.freeze q ho
            exact ⟨_, hs, w _ H L' er' st r⟩
theorem snd_peek {i : Nat} {x : Str} (hN : X.N[i]? = some x) (hv : Vis X.env.scope x) (hd : (x == ("__debug__" : Str)) = false := by decide) (hcd : (x == ("__classdict__" : Str)) = false := by decide) : PE X (.Name x pos) (SndP X E (mPeek i)) :=
  PE.imp (pe_var hN hv hd hcd) fun σ H Q ⟨L, ρ, er, w⟩ => by
    unfold mPeek at w
    cases q : ρ[i]? with
    | none => rw [q] at w; exact w.elim
    | some s =>
      rw [q] at w
      cases s with
      | no => exact w.elim
      | pv p =>
        obtain ⟨v, hs, r⟩ := er.pvs i p q
        exact ⟨v, hs, w v H L er .refl hs⟩
      | own pin o =>
        obtain ⟨a, hs, _, _⟩ := er.own i pin o q
        exact ⟨_, hs, w _ H L er .refl hs⟩

/-! ### constants -/
def mC (p : PV) : ME := fun ρ => .ok (p, ρ)
theorem snd_int {i j} : PE X (.Constant (.int i) j pos) (Snd X E (mC (.int i))) := PE.imp pe_int fun σ H Q ⟨L, ρ, er, w⟩ => w _ H L er .refl (.int i)
theorem snd_bl {i j} : PE X (.Constant (.bool i) j pos) (Snd X E (mC (.bl i))) := PE.imp pe_bl fun σ H Q ⟨L, ρ, er, w⟩ => w _ H L er .refl (.bl i)
theorem snd_str {i j} : PE X (.Constant (.str i) j pos) (Snd X E (mC (.str i))) := PE.imp pe_str fun σ H Q ⟨L, ρ, er, w⟩ => w _ H L er .refl (.str i)
theorem snd_non {j} : PE X (.Constant .none j pos) (Snd X E (mC .non)) := PE.imp pe_non fun σ H Q ⟨L, ρ, er, w⟩ => w _ H L er .refl .non
/-- a constant of the module's top: what it stands for, whatever the heap -/
structure KVal (K : PySem.W.Frag) (mg : Str → Option Value) (x : Str) (p : PV) : Prop where
  ex : ∃ u v, mg x = some u ∧ RelV v u ∧ ∀ L H, Rep K L H v p
theorem snd_glob {x : Str} {p : PV} (hg : Gl X x) (k : KVal X.K X.mg x p) (hd : (x == ("__debug__" : Str)) = false := by decide) : PE X (.Name x pos) (Snd X E (mC p)) := by
  obtain ⟨u, v, hm, r, rep⟩ := k.ex
  exact PE.imp (pe_glob hg hm r hd) fun σ H Q ⟨L, ρ, er, w⟩ => w _ H L er .refl (rep L H)

/-! ### a list of operands, as values -/
def getAll : List Pk → Ev → Option (List PV)
  | [], _ => some []
  | k :: ks, ρ => match k, getAll ks ρ with
    | .val p, some ps => some (p :: ps)
    | _, _ => none
theorem PkRs.reps {K : PySem.W.Frag} {L : Addr → Prop} {H : Hp} {σ : St} {ρ : Ev} : ∀ {vs : List V} {ks : List Pk} {ps : List PV}, PkRs K L H σ vs ks → getAll ks ρ = some ps → RepAll K L H vs ps
  | _, _, _, .nil, e => by cases e; exact .nil
  | _, _, ps, .cons (k := k) (ks := ks) r t, e => by
    cases k with
    | «at» i => cases e
    | val p =>
      cases q : getAll ks ρ with
      | none => simp [getAll, q] at e
      | some qs =>
        have e : some (p :: qs) = some ps := by simpa [getAll, q] using e
        cases e
        exact .cons r (PkRs.reps t q)
/-- a tuple, a list that is written -/
def mTup (m : MA) : ME := fun ρ => do
  let (ks, ρ') ← m ρ
  let ps ← Res.of (getAll ks ρ')
  if ps.length ≤ sizeLine then .ok (.tup ps, ρ') else .bad
def mLst (m : MA) : ME := fun ρ => do
  let (ks, ρ') ← m ρ
  let ps ← Res.of (getAll ks ρ')
  if ps.length ≤ sizeLine then .ok (.lst ps, ρ') else .bad
theorem new_tup {K : PySem.W.Frag} {L : Addr → Prop} {H : Hp} {xs : List V} {ps : List PV} {p : Addr} (hp : H p = none) (l : ∀ a, L a → H a ≠ none) (r : RepAll K L H xs ps) : Rep K L (upd H p (.tup xs)) (.ref p) (.tup ps) :=
  .tup (.inl ⟨upd_same, fun z => l p z hp⟩) (r.keep (.alc (.upd hp)))
theorem new_lst {K : PySem.W.Frag} {L : Addr → Prop} {H : Hp} {xs : List V} {ps : List PV} {p : Addr} (hp : H p = none) (l : ∀ a, L a → H a ≠ none) (r : RepAll K L H xs ps) : Rep K L (upd H p (.lst xs)) (.ref p) (.lst ps) :=
  .lst ⟨upd_same, fun z => l p z hp⟩ (r.keep (.alc (.upd hp)))
theorem snd_tup {m : MA} {k} (h : PA X es (SndA X E m)) : PE X (.Tuple es k pos) (Snd X E (mTup m)) := PE.imp (pe_tup h) fun σ H Q ⟨L, ρ, er, w⟩ => by
  refine ⟨L, ρ, er, ?_⟩
  unfold mTup at w
  cases q : m ρ with
  | bad => rw [q] at w; exact w
  | err c xs => rw [q] at w; exact w
  | ok r =>
    obtain ⟨ks, ρ'⟩ := r
    rw [q] at w
    simp only [Res.ok_bind] at w
    intro vs H1 L1 e1 s1 r1
    cases g : getAll ks ρ' with
    | none => rw [g] at w; exact w.elim
    | some ps =>
      rw [g] at w
      simp only [Res.of_some, Res.ok_bind] at w
      have rr := r1.reps g
      by_cases z : ps.length ≤ sizeLine
      · rw [if_pos z] at w
        exact ⟨by rw [rr.length]; exact z, fun p hp => w _ _ L1 (e1.alc (.upd hp)) (s1.trans (.alc (.upd hp))) (new_tup hp e1.liv rr)⟩
      · rw [if_neg z] at w; exact w.elim
theorem snd_lst {m : MA} (h : PA X es (SndA X E m)) : PE X (.List es pos) (Snd X E (mLst m)) := PE.imp (pe_lst h) fun σ H Q ⟨L, ρ, er, w⟩ => by
  refine ⟨L, ρ, er, ?_⟩
  unfold mLst at w
  cases q : m ρ with
  | bad => rw [q] at w; exact w
  | err c xs => rw [q] at w; exact w
  | ok r =>
    obtain ⟨ks, ρ'⟩ := r
    rw [q] at w
    simp only [Res.ok_bind] at w
    intro vs H1 L1 e1 s1 r1
    cases g : getAll ks ρ' with
    | none => rw [g] at w; exact w.elim
    | some ps =>
      rw [g] at w
      simp only [Res.of_some, Res.ok_bind] at w
      have rr := r1.reps g
      by_cases z : ps.length ≤ sizeLine
      · rw [if_pos z] at w
        exact ⟨by rw [rr.length]; exact z, fun p hp => w _ _ L1 (e1.alc (.upd hp)) (s1.trans (.alc (.upd hp))) (new_lst hp e1.liv rr)⟩
      · rw [if_neg z] at w; exact w.elim

/-! ### one and two operands -/
/-- what an operation by values is worth: f -/
def PureR2 (K : PySem.W.Frag) (r : R2) (f : PV → PV → Option PV) : Prop := ∀ (L : Addr → Prop) (H : Hp) (x y : V) (p q z : PV) (Q : VK), (∀ a, L a → H a ≠ none) → CRep K L H x p → CRep K L H y q → f p q = some z →
  (∀ v H', Alc H H' → Rep K L H' v z → Q v H') → r x y H Q
def mOp2 (f : PV → PV → Option PV) (ma mb : MP) : ME := fun ρ => do
  let (k1, ρ1) ← ma ρ
  let (k2, ρ2) ← mb ρ1
  let x ← Res.of (k1.get ρ2)
  let y ← Res.of (k2.get ρ2)
  let z ← Res.of (f x y)
  .ok (z, ρ2)
theorem tOp_of {r : R2} {f : PV → PV → Option PV} (hr : PureR2 X.K r f) {ma mb : MP} {σ : St} {H : Hp} {Q : VK} (h : Snd X E (mOp2 f ma mb) σ H Q) : tOp r (SndP X E ma) (SndP X E mb) σ H Q := by
  obtain ⟨L, ρ, er, w⟩ := h
  refine ⟨L, ρ, er, ?_⟩
  unfold mOp2 at w
  cases q1 : ma ρ with
  | bad => rw [q1] at w; exact w
  | err c xs => rw [q1] at w; exact w
  | ok r1 =>
    obtain ⟨k1, ρ1⟩ := r1
    rw [q1] at w
    simp only [Res.ok_bind] at w
    intro x H1 L1 e1 s1 p1
    refine ⟨L1, ρ1, e1, ?_⟩
    cases q2 : mb ρ1 with
    | bad => rw [q2] at w; exact w
    | err c xs => rw [q2] at w; exact Fails.after w s1
    | ok r2 =>
      obtain ⟨k2, ρ2⟩ := r2
      rw [q2] at w
      simp only [Res.ok_bind] at w
      intro y H2 L2 e2 s2 p2
      cases g1 : k1.get ρ2 with
      | none => rw [g1] at w; exact w.elim
      | some p =>
        rw [g1] at w
        cases g2 : k2.get ρ2 with
        | none => rw [g2] at w; exact w.elim
        | some q =>
          rw [g2] at w
          simp only [Res.of_some, Res.ok_bind] at w
          cases g3 : f p q with
          | none => rw [g3] at w; exact w.elim
          | some z =>
            rw [g3] at w
            exact hr L2 H2 x y p q z Q e2.liv ((p1.keep (s2.keeps e1)).get e2 g1) (p2.get e2 g2) g3 fun v H' al rep => w v H' L2 (e2.alc al) ((s1.trans s2).trans (.alc al)) rep
theorem PureR2.or {K : PySem.W.Frag} {r r' : R2} {f g : PV → PV → Option PV} (h : PureR2 K r f) (h' : PureR2 K r' g) : PureR2 K (fun x y H Q => r x y H Q ∨ r' x y H Q) (fun p q => (f p q).or (g p q)) := by
  intro L H x y p q z Q l a b e k
  have e : (f p q).or (g p q) = some z := e
  cases q1 : f p q with
  | some w => rw [q1] at e; cases e; exact .inl (h L H x y p q z Q l a b q1 k)
  | none => rw [q1] at e; exact .inr (h' L H x y p q z Q l a b e k)
def PureR1 (K : PySem.W.Frag) (r : V → Hp → VK → Prop) (f : PV → Option PV) : Prop := ∀ (L : Addr → Prop) (H : Hp) (x : V) (p z : PV) (Q : VK), (∀ a, L a → H a ≠ none) → CRep K L H x p → f p = some z →
  (∀ v H', Alc H H' → Rep K L H' v z → Q v H') → r x H Q
def mOp1 (f : PV → Option PV) (ma : MP) : ME := fun ρ => do
  let (k1, ρ1) ← ma ρ
  let x ← Res.of (k1.get ρ1)
  let z ← Res.of (f x)
  .ok (z, ρ1)
theorem tUn_of {r : V → Hp → VK → Prop} {f : PV → Option PV} (hr : PureR1 X.K r f) {ma : MP} {σ : St} {H : Hp} {Q : VK} (h : Snd X E (mOp1 f ma) σ H Q) : tUn r (SndP X E ma) σ H Q := by
  obtain ⟨L, ρ, er, w⟩ := h
  refine ⟨L, ρ, er, ?_⟩
  unfold mOp1 at w
  cases q1 : ma ρ with
  | bad => rw [q1] at w; exact w
  | err c xs => rw [q1] at w; exact w
  | ok r1 =>
    obtain ⟨k1, ρ1⟩ := r1
    rw [q1] at w
    simp only [Res.ok_bind] at w
    intro x H1 L1 e1 s1 p1
    cases g1 : k1.get ρ1 with
    | none => rw [g1] at w; exact w.elim
    | some p =>
      rw [g1] at w
      simp only [Res.of_some, Res.ok_bind] at w
      cases g3 : f p with
      | none => rw [g3] at w; exact w.elim
      | some z =>
        rw [g3] at w
        exact hr L1 H1 x p z Q e1.liv (p1.get e1 g1) g3 fun v H' al rep => w v H' L1 (e1.alc al) (s1.trans (.alc al)) rep
end
end PL
/-! PL4: operators, comparisons, subscripts by pure functions. -/
namespace PL
open PySem PySem.Spec L2

/-! ### what the operators are worth -/
def fAdd : PV → PV → Option PV
  | .int i, .int j => some (.int (i + j))
  | .str a, .str b => if a.length + b.length ≤ sizeLine then some (.str (a ++ b)) else none
  | .tup xs, .tup ys => if xs.length + ys.length ≤ sizeLine then some (.tup (xs ++ ys)) else none
  | .lst xs, .lst ys => if xs.length + ys.length ≤ sizeLine then some (.lst (xs ++ ys)) else none
  | _, _ => none
def fInt (C : Int → Int → Bool) (g : Int → Int → Int) : PV → PV → Option PV
  | .int i, .int j => if C i j then some (.int (g i j)) else none
  | _, _ => none
def fSub := fInt (fun _ _ => true) fun i j => i - j
def fMul := fInt (fun i j => decide ((-(2 ^ 64) < i ∧ i < 2 ^ 64) ∨ (-(2 ^ 64) < j ∧ j < 2 ^ 64))) fun i j => i * j
def fDiv := fInt (fun _ j => decide (0 < j ∧ j < 1073741824)) fun i j => i / j
def fMod := fInt (fun _ j => decide (0 < j)) fun i j => i % j
def fPow := fInt (fun i j => decide (0 ≤ j ∧ j ≤ 1000000 ∧ i.natAbs < 2 ^ 64)) fun i j => i ^ j.toNat
def fCmp (g : Int → Int → Bool) : PV → PV → Option PV
  | .int i, .int j => some (.bl (g i j))
  | _, _ => none
def fLt := fCmp fun i j => decide (i < j)
def fLe := fCmp fun i j => decide (i ≤ j)
def fGt := fCmp fun i j => decide (j < i)
def fGe := fCmp fun i j => decide (j ≤ i)
/-- data that may be compared: no dict, not too deep -/
def eqOk (p q : PV) : Bool := p.flat && q.flat && SeqAt.shaped p.toD && SeqAt.shaped q.toD
def fEq (p q : PV) : Option PV := if eqOk p q then some (.bl (PyData.eqv p.toD q.toD)) else none
def fNe (p q : PV) : Option PV := if eqOk p q then some (.bl (!PyData.eqv p.toD q.toD)) else none
def fIs (neg : Bool) : PV → PV → Option PV
  | p, .non => some (.bl (match p with | .non => !neg | _ => neg))
  | .bl a, .bl b => some (.bl (if neg then !decide (a = b) else decide (a = b)))
  | _, _ => none
/-- flat items: none, an int, a text -/
def sca : PV → Bool
  | .non => true
  | .int _ => true
  | .str _ => true
  | _ => false
def eqS : PV → PV → Bool
  | .non, .non => true
  | .int a, .int b => a == b
  | .str a, .str b => a == b
  | _, _ => false
def lookP (k : Str) (l : List (Str × PV)) : Option PV := l.lookup k
def inP (x y : PV) : Option Bool := match x, y with
  | .str a, .str b => match a.cps.toList with
    | [c] => some (decide (c ∈ b.cps.toList))
    | _ => none
  | .str a, .dct l => some (lookP a l).isSome
  | x, .lst l => if sca x && l.all sca then some (l.any fun y => eqS y x) else none
  | x, .tup l => if sca x && l.all sca then some (l.any fun y => eqS y x) else none
  | _, _ => none
def fIn (neg : Bool) (x y : PV) : Option PV := (inP x y).map fun b => .bl (if neg then !b else b)
def fIx : PV → PV → Option PV
  | .lst l, .int i => atI l i
  | .tup l, .int i => atI l i
  | .str a, .int i => if a.length ≤ sizeLine then (atI a.cps.toList i).map fun c => .str ⟨#[c]⟩ else none
  | .dct l, .str k => lookP k l
  | _, _ => none

section
variable {X : Cx} {E : St → XK} {e a b c : Expr} {es : List Expr} {pos : Pos} {K : PySem.W.Frag}
theorem CRep.int {L : Addr → Prop} {H : Hp} {v : V} {i : Int} (h : CRep K L H v (.int i)) : v = .int i := by
  cases (show Rep K L H v (.int i) from h); rfl
theorem CRep.bl {L : Addr → Prop} {H : Hp} {v : V} {i : Bool} (h : CRep K L H v (.bl i)) : v = .bl i := by
  cases (show Rep K L H v (.bl i) from h); rfl
theorem CRep.non {L : Addr → Prop} {H : Hp} {v : V} (h : CRep K L H v .non) : v = .non := by
  cases (show Rep K L H v .non from h); rfl
theorem CRep.str {L : Addr → Prop} {H : Hp} {v : V} {s : Str} (h : CRep K L H v (.str s)) : v = .str s := by
  cases (show Rep K L H v (.str s) from h); rfl
theorem CRep.tup {L : Addr → Prop} {H : Hp} {v : V} {l : List PV} (h : CRep K L H v (.tup l)) : ∃ a xs, v = .ref a ∧ (At L H a (.tup xs) ∨ KTup K a xs) ∧ RepAll K L H xs l := by
  cases (show Rep K L H v (.tup l) from h) with
  | tup r q => exact ⟨_, _, rfl, r, q⟩
theorem sq_of {L : Addr → Prop} {H : Hp} {a : Addr} {xs : List V} (h : At L H a (.tup xs) ∨ KTup K a xs) : SqT K H a xs := h.elim (fun z => .inl (.inl z.1)) .inr
theorem Rep.at_nat {L : Addr → Prop} {H : Hp} {xs : List V} {l : List PV} {i : Int} {z : PV} (r : RepAll K L H xs l) (h : atI l i = some z) : ∃ v, atI xs i = some v ∧ Rep K L H v z := by
  unfold atI at h ⊢
  rw [r.length]
  cases q : ixN l.length i with
  | none => rw [q] at h; cases h
  | some j =>
    rw [q] at h
    exact r.get' h
theorem Rep.look {L : Addr → Prop} {H : Hp} {k : Str} : ∀ {kvs : List (Key × V)} {l : List (Str × PV)}, RepKv K L H kvs l → (∀ z, lookP k l = some z → ∃ v, valV kvs (.inr k) = some v ∧ Rep K L H v z) ∧ (lookP k l = none → valV kvs (.inr k) = none)
  | _, _, .nil => ⟨fun z h => (by cases h), fun _ => rfl⟩
  | _, _, .cons (k := k') (v := v) (vs := vs) (p := p) (ps := ps) r t => by
    obtain ⟨i1, i2⟩ := Rep.look (k := k) t
    unfold lookP at i1 i2 ⊢
    unfold valV at i1 i2 ⊢
    rw [List.lookup_cons, List.find?_cons]
    by_cases e : k = k'
    · subst e
      simp only [beq_self_eq_true, decide_true]
      exact ⟨fun z h => by cases h; exact ⟨v, rfl, r⟩, fun h => by cases h⟩
    · have e1 : (k == k') = false := beq_eq_false_iff_ne.mpr e
      have e2 : decide ((Sum.inr k' : Key) = Sum.inr k) = false := decide_eq_false fun z => e (Sum.inr.inj z).symm
      simp only [e1, e2]
      exact ⟨i1, i2⟩
theorem flat_of {L : Addr → Prop} {H : Hp} {v : V} {p : PV} (r : Rep K L H v p) (s : sca p = true) : flatV v = true := by
  cases r <;> first | rfl | exact absurd s Bool.false_ne_true
theorem flats_of {L : Addr → Prop} {H : Hp} : ∀ {xs : List V} {l : List PV}, RepAll K L H xs l → l.all sca = true → xs.all flatV = true
  | _, _, .nil, _ => rfl
  | _, _, .cons r t, h => by
    rw [List.all_cons, Bool.and_eq_true] at h ⊢
    exact ⟨flat_of r h.1, flats_of t h.2⟩
theorem eqV_of {L : Addr → Prop} {H : Hp} {v w : V} {p q : PV} (r : Rep K L H v p) (s : Rep K L H w q) (h1 : sca p = true) (h2 : sca q = true) : eqV v w = eqS p q := by
  cases r <;> cases s <;> first | rfl | exact absurd h1 Bool.false_ne_true | exact absurd h2 Bool.false_ne_true
theorem inV_of {L : Addr → Prop} {H : Hp} {w : V} {q : PV} (s : Rep K L H w q) (h2 : sca q = true) : ∀ {xs : List V} {l : List PV}, RepAll K L H xs l → l.all sca = true → inV w xs = l.any fun y => eqS y q
  | _, _, .nil, _ => rfl
  | _, _, .cons r t, h => by
    rw [List.all_cons, Bool.and_eq_true] at h
    have ih := inV_of s h2 t h.2
    unfold inV at ih ⊢
    rw [List.any_cons, List.any_cons, ih, eqV_of r s h.1 h2]

/-! ### the rules -/
def rAdd4 (K : PySem.W.Frag) : R2 := fun x y H Q => rI0 (fun i j => .int (i + j)) x y H Q ∨ (fun x y H Q => ∃ i j, x = .str i ∧ y = .str j ∧ i.length + j.length ≤ sizeLine ∧ Q (.str (i ++ j)) H) x y H Q ∨ rCatA K x y H Q ∨ rCat x y H Q
theorem op_add4 : OpR X (binaryOp .Add) (rAdd4 X.K) := op_add.or (op_add_str.or (op_catA.or op_cat))
theorem pure_add : PureR2 K (rAdd4 K) fAdd := by
  intro L H x y p q z Q l a b e k
  unfold fAdd at e
  split at e
  · cases e; cases a.int; cases b.int
    exact .inl ⟨_, _, rfl, rfl, k _ H .refl (.int _)⟩
  · split at e
    · rename_i h
      cases e; cases a.str; cases b.str
      exact .inr (.inl ⟨_, _, rfl, rfl, h, k _ H .refl (.str _)⟩)
    · cases e
  · split at e
    · rename_i xs ys h
      cases e
      obtain ⟨a1, v1, rfl, s1, r1⟩ := a.tup
      obtain ⟨a2, v2, rfl, s2, r2⟩ := b.tup
      refine .inr (.inr (.inl ⟨a1, a2, v1, v2, rfl, rfl, sq_of s1, sq_of s2, by rw [r1.length, r2.length]; exact h, fun z => ?_, fun _ z => ?_, fun _ _ p hp => ?_⟩))
      · subst z
        cases r1
        exact k _ H .refl (.tup s2 r2)
      · subst z
        cases r2
        rw [List.append_nil] at k
        exact k _ H .refl (.tup s1 r1)
      · exact k _ _ (.upd hp) (new_tup hp l (r1.append r2))
    · cases e
  · split at e
    · rename_i xs ys h
      cases e
      obtain ⟨a1, v1, rfl, s1, r1⟩ := a
      obtain ⟨a2, v2, rfl, s2, r2⟩ := b
      exact .inr (.inr (.inr ⟨a1, a2, v1, v2, rfl, rfl, s1, s2, by rw [r1.length, r2.length]; exact h, fun p hp => k _ _ (.upd hp) (new_lst hp l (r1.append r2))⟩))
    · cases e
  · cases e
theorem pure_int {C : Int → Int → Prop} {D : Int → Int → Bool} {g : Int → Int → Int} (h : ∀ i j, D i j = true → C i j) : PureR2 K (rI C fun i j => .int (g i j)) (fInt D g) := by
  intro L H x y p q z Q l a b e k
  unfold fInt at e
  split at e
  · split at e
    · rename_i hd
      cases e; cases a.int; cases b.int
      exact ⟨_, _, rfl, rfl, h _ _ hd, k _ H .refl (.int _)⟩
    · cases e
  · cases e
theorem pure_sub : PureR2 K (rI0 fun i j => .int (i - j)) fSub := by
  intro L H x y p q z Q l a b e k
  unfold fSub fInt at e
  split at e
  · cases e; cases a.int; cases b.int
    exact ⟨_, _, rfl, rfl, k _ H .refl (.int _)⟩
  · cases e
theorem pure_mul : PureR2 K (rI CMul fun i j => .int (i * j)) fMul := pure_int fun _ _ h => by simpa [CMul, CDiv, CPow] using h
theorem pure_div : PureR2 K (rI CDiv fun i j => .int (i / j)) fDiv := pure_int fun _ _ h => by simpa [CMul, CDiv, CPow] using h
theorem pure_mod : PureR2 K (rI (fun _ j => 0 < j) fun i j => .int (i % j)) fMod := pure_int fun _ _ h => by simpa using h
theorem pure_pow : PureR2 K (rI CPow fun i j => .int (i ^ j.toNat)) fPow := pure_int fun _ _ h => by simpa [CMul, CDiv, CPow] using h
theorem pure_cmp {g : Int → Int → Bool} : PureR2 K (rI0 fun i j => .bl (g i j)) (fCmp g) := by
  intro L H x y p q z Q l a b e k
  unfold fCmp at e
  split at e
  · cases e; cases a.int; cases b.int
    exact ⟨_, _, rfl, rfl, k _ H .refl (.bl _)⟩
  · cases e
theorem CRep.dp {L : Addr → Prop} {H : Hp} {v : V} {p : PV} (h : CRep K L H v p) (f : p.flat = true) : Dp K H v p.toD := by
  cases p with
  | lst ps =>
    obtain ⟨a, xs, rfl, q, r⟩ := h
    simp only [PV.toD]
    exact .lst (.inl (.inl q)) (r.dp (by simpa only [PV.flat] using f))
  | dct ps => simp [PV.flat] at f
  | non => exact Rep.dp h f
  | bl b => exact Rep.dp h f
  | int i => exact Rep.dp h f
  | str s => exact Rep.dp h f
  | tup ps => exact Rep.dp h f
  | scr ps => exact Rep.dp h f
theorem pure_eq : PureR2 K (rEqD K) fEq := by
  intro L H x y p q z Q l a b e k
  unfold fEq eqOk at e
  split at e
  · rename_i h
    simp only [Bool.and_eq_true] at h
    obtain ⟨⟨⟨h1, h2⟩, h3⟩, h4⟩ := h
    cases e
    exact ⟨_, _, a.dp h1, b.dp h2, h3, h4, k _ H .refl (.bl _)⟩
  · cases e
theorem pure_ne : PureR2 K (rNeD K) fNe := by
  intro L H x y p q z Q l a b e k
  unfold fNe eqOk at e
  split at e
  · rename_i h
    simp only [Bool.and_eq_true] at h
    obtain ⟨⟨⟨h1, h2⟩, h3⟩, h4⟩ := h
    cases e
    exact ⟨_, _, a.dp h1, b.dp h2, h3, h4, k _ H .refl (.bl _)⟩
  · cases e
def rIs2 (neg : Bool) : R2 := fun x y H Q => (y = .non ∧ Q (.bl (if neg then !decide (x = .non) else decide (x = .non))) H) ∨ ∃ a b : Bool, x = .bl a ∧ y = .bl b ∧ Q (.bl (if neg then !decide (a = b) else decide (a = b))) H
theorem op_is2 : OpR X (compareOp .Is) (rIs2 false) := fun pins s σ H x y v u Q I rx ry h => h.elim (op_isN pins s σ H x y v u Q I rx ry) fun ⟨a, b, h1, h2, q⟩ => by
  subst h1 h2
  cases (show v = Value.bool a from rx)
  cases (show u = Value.bool b from ry)
  exact PyProof.Rows.is_bool (fin_bl I q (by simp; cases a <;> cases b <;> rfl))
theorem op_isnot2 : OpR X (compareOp .IsNot) (rIs2 true) := fun pins s σ H x y v u Q I rx ry h => h.elim (op_notN pins s σ H x y v u Q I rx ry) fun ⟨a, b, h1, h2, q⟩ => by
  subst h1 h2
  cases (show v = Value.bool a from rx)
  cases (show u = Value.bool b from ry)
  exact PyProof.Rows.isnot_bool (fin_bl I q (by simp; cases a <;> cases b <;> rfl))
theorem CRep.is_non {L : Addr → Prop} {H : Hp} {v : V} {p : PV} (h : CRep K L H v p) : decide (v = .non) = (match p with | .non => true | _ => false) := by
  cases p with
  | lst ps => obtain ⟨a, xs, rfl, _⟩ := h; rfl
  | dct ps => obtain ⟨a, xs, rfl, _⟩ := h; rfl
  | non => cases h.non; rfl
  | bl b => cases h.bl; rfl
  | int i => cases h.int; rfl
  | str s => cases h.str; rfl
  | tup ps => obtain ⟨a, xs, rfl, _⟩ := h.tup; rfl
  | scr ps => cases (show Rep K L H v (.scr ps) from h); rfl
theorem pure_is {neg : Bool} : PureR2 K (rIs2 neg) (fIs neg) := by
  intro L H x y p q z Q l a b e k
  unfold fIs at e
  split at e
  · cases e; cases b.non
    refine .inl ⟨rfl, ?_⟩
    rw [a.is_non]
    have := k _ H .refl (.bl _)
    revert this
    cases neg <;> cases p <;> exact id
  · cases e; cases a.bl; cases b.bl
    exact .inr ⟨_, _, rfl, rfl, k _ H .refl (.bl _)⟩
  · cases e
def rIn4 (K : PySem.W.Frag) (neg : Bool) : R2 := fun x y H Q => rIn K neg x y H Q ∨ (∃ (c : Nat) (z : Str), x = .str ⟨#[c]⟩ ∧ y = .str z ∧ Q (.bl (if neg then !decide (c ∈ z.cps.toList) else decide (c ∈ z.cps.toList))) H) ∨
  ∃ a o, y = .ref a ∧ DGet H a x o ∧ Q (.bl (if neg then !o.isSome else o.isSome)) H
theorem op_in4 (hu : X.A.units + 1 < cLine) : OpR X (compareOp .In) (rIn4 X.K false) := fun pins s σ H x y v u Q I rx ry h => by
  rcases h with h | h | ⟨a, o, rfl, g, q⟩
  · exact op_in_seq pins s σ H x y v u Q I rx ry h
  · exact op_in_sign pins s σ H x y v u Q I rx ry h
  · obtain rfl : u = Value.ref a := ry
    exact d_in hu I g rx fun s3 I3 => ⟨.bl o.isSome, H, I3, rfl, q⟩
theorem op_notIn4 (hu : X.A.units + 1 < cLine) : OpR X (compareOp .NotIn) (rIn4 X.K true) := fun pins s σ H x y v u Q I rx ry h => by
  rcases h with h | h | ⟨a, o, rfl, g, q⟩
  · exact op_notIn_seq pins s σ H x y v u Q I rx ry h
  · exact op_notIn_sign pins s σ H x y v u Q I rx ry h
  · obtain rfl : u = Value.ref a := ry
    exact d_notIn hu I g rx fun s3 I3 => ⟨.bl (!o.isSome), H, I3, rfl, q⟩
theorem CRep.sca {L : Addr → Prop} {H : Hp} {v : V} {p : PV} (h : CRep K L H v p) (s : sca p = true) : Rep K L H v p := by
  cases p <;> first | exact h | exact absurd s Bool.false_ne_true
theorem str_one {a : Str} {c : Nat} (h : a.cps.toList = [c]) : a = ⟨#[c]⟩ := by
  obtain ⟨⟨l⟩⟩ := a
  cases (show l = [c] from h); rfl
theorem pure_in {neg : Bool} : PureR2 K (rIn4 K neg) (fIn neg) := by
  intro L H x y p q z Q l a b e k
  unfold fIn at e
  obtain ⟨t, ht, rfl⟩ := Option.map_eq_some_iff.mp e
  have kk := k _ H .refl (.bl _)
  unfold inP at ht
  split at ht
  · rename_i s1 s2
    cases a.str; cases b.str
    split at ht
    · rename_i c hc
      cases ht
      exact .inr (.inl ⟨c, s2, by rw [← str_one hc], rfl, kk⟩)
    · cases ht
  · rename_i s1 ps
    cases ht
    cases a.str
    obtain ⟨d, kvs, rfl, hd, r⟩ := b
    have lk := Rep.look (k := s1) r
    refine .inr (.inr ⟨d, valV kvs (.inr s1), rfl, .inl ⟨kvs, .inr s1, hd, rfl, rfl⟩, ?_⟩)
    have : (valV kvs (.inr s1)).isSome = (lookP s1 ps).isSome := by
      cases q : lookP s1 ps with
      | none => rw [lk.2 q]; rfl
      | some z => obtain ⟨v, hv, _⟩ := lk.1 z q; rw [hv]; rfl
    rw [this]; exact kk
  · rename_i ps _
    split at ht
    · rename_i h
      rw [Bool.and_eq_true] at h
      cases ht
      obtain ⟨d, xs, rfl, hd, r⟩ := b
      have ra := a.sca h.1
      refine .inl ⟨d, xs, rfl, .inl (.inl (.inl hd)), flat_of ra h.1, flats_of r h.2, ?_⟩
      rw [inV_of ra h.1 r h.2]; exact kk
    · cases ht
  · rename_i ps _
    split at ht
    · rename_i h
      rw [Bool.and_eq_true] at h
      cases ht
      obtain ⟨d, xs, rfl, hd, r⟩ := b.tup
      have ra := a.sca h.1
      refine .inl ⟨d, xs, rfl, .inr (sq_of hd), flat_of ra h.1, flats_of r h.2, ?_⟩
      rw [inV_of ra h.1 r h.2]; exact kk
    · cases ht
  · cases ht
def rIx4 (K : PySem.W.Frag) : R2 := fun x y H Q => rIx K x y H Q ∨ ∃ a v, x = .ref a ∧ DGet H a y (some v) ∧ Q v H
theorem ix_4 (hu : X.A.units + 1 < cLine) : IxR X (rIx4 X.K) := fun value slice pins s σ H x y v u Q I rx ry h hs => by
  rcases h with h | ⟨a, w, rfl, g, q⟩
  · exact ix_seq value slice pins s σ H x y v u Q I rx ry h hs
  · obtain rfl : v = Value.ref a := rx
    exact PyProof.Rows.tail_any (dict_typeIs I g) PySem.F.slot_dict_getitem.lookup (d_getItem hu I g ry fun w' s3 I3 rw' => ⟨w, H, I3, rw', q⟩) hs
theorem pure_ix : PureR2 K (rIx4 K) fIx := by
  intro L H x y p q z Q l a b e k
  unfold fIx at e
  split at e
  · cases b.int
    obtain ⟨d, xs, rfl, hd, r⟩ := a
    obtain ⟨v, hv, rv⟩ := Rep.at_nat r e
    exact .inl (.inl ⟨d, xs, _, v, rfl, rfl, .inl (.inl hd), hv, k v H .refl rv⟩)
  · cases b.int
    obtain ⟨d, xs, rfl, hd, r⟩ := a.tup
    obtain ⟨v, hv, rv⟩ := Rep.at_nat r e
    exact .inl (.inr (.inl ⟨d, xs, _, v, rfl, rfl, sq_of hd, hv, k v H .refl rv⟩))
  · cases a.str; cases b.int
    split at e
    · rename_i h
      obtain ⟨c, hc, rfl⟩ := Option.map_eq_some_iff.mp e
      exact .inl (.inr (.inr ⟨_, _, c, rfl, rfl, h, hc, k _ H .refl (.str _)⟩))
    · cases e
  · cases b.str
    obtain ⟨d, kvs, rfl, hd, r⟩ := a
    obtain ⟨v, hv, rv⟩ := (Rep.look r).1 z e
    exact .inr ⟨d, v, rfl, .inl ⟨kvs, .inr _, hd, rfl, hv.symm⟩, k v H .refl rv⟩
  · cases e

/-! ### the judgements -/
variable {ma mb mc : MP}
theorem snd_bin {op : Operator} {r : R2} {f : PV → PV → Option PV} (ho : OpR X (binaryOp op) r) (hr : PureR2 X.K r f) (ha : PE X a (SndP X E ma)) (hb : PE X b (SndP X E mb)) : PE X (.BinOp a op b pos) (Snd X E (mOp2 f ma mb)) := PE.imp (pe_op ho ha hb) fun _ _ _ => tOp_of hr
theorem snd_cmp {op : CmpOp} {r : R2} {f : PV → PV → Option PV} (ho : OpR X (compareOp op) r) (hr : PureR2 X.K r f) (ha : PE X a (SndP X E ma)) (hb : PE X b (SndP X E mb)) (hm : behindInMarks op b = false) : PE X (.Compare a [op] [b] pos) (Snd X E (mOp2 f ma mb)) :=
  PE.imp (pe_cmpR ho ha hb hm) fun _ _ _ => tOp_of hr
theorem snd_ix (hu : X.A.units + 1 < cLine) (ha : PE X a (SndP X E ma)) (hb : PE X b (SndP X E mb)) (hs : PlainIx b) : PE X (.Subscript a b pos) (Snd X E (mOp2 fIx ma mb)) := PE.imp (pe_ix (ix_4 hu) ha hb hs) fun _ _ _ => tOp_of pure_ix
def fNeg : PV → Option PV
  | .int i => some (.int (-i))
  | _ => none
theorem pure_neg : PureR1 K (rU fun i => .int (-i)) fNeg := by
  intro L H x p z Q l a e k
  unfold fNeg at e
  split at e
  · cases e; cases a.int
    exact ⟨_, rfl, k _ H .refl (.int _)⟩
  · cases e
theorem snd_neg (ha : PE X a (SndP X E ma)) : PE X (.UnaryOp .USub a pos) (Snd X E (mOp1 fNeg ma)) := PE.imp (pe_un un_neg ha) fun _ _ _ => tUn_of pure_neg
end
end PL
/-! PL5: statements by functions of the frame. -/
namespace PL
open PySem PySem.Spec L2

inductive Rv where
  | pv (p : PV) | own (o : Own)
inductive Fl where
  | nx | rt (r : Rv) | bk | ct
abbrev MS := Ev → Res (Fl × Ev)

section
variable {K : PySem.W.Frag} {L L1 L2 L' : Addr → Prop} {H H1 H2 H' : Hp} {σ σ1 σ2 σ' : St} {ρ ρ1 ρ2 ρ' : Ev}
/-- new since then, or one that a slot of one's own had -/
def Fr (σ : St) (ρ : Ev) (H : Hp) (a : Addr) : Prop := H a = none ∨ ∃ (i : Nat) (o : Own), ρ[i]? = some (Sl.own false o) ∧ σ[i]? = some (some (V.ref a))
theorem Fr.back {a : Addr} (er : EnvR K L H σ ρ) (e1 : EnvR K L1 H1 σ1 ρ1) (s : Stp σ ρ L H σ1 ρ1 L1 H1) (f : Fr σ1 ρ1 H1 a) : Fr σ ρ H a := by
  by_cases q : OA σ ρ a
  · obtain ⟨i, b, o, h1, h2⟩ := q
    cases b with
    | false => exact .inr ⟨i, o, h1, h2⟩
    | true =>
      obtain ⟨p1, o', p2⟩ := s.pin i o h1
      have hs : σ1[i]? = some (some (V.ref a)) := p1.trans h2
      rcases f with f | ⟨j, o2, f1, f2⟩
      · obtain ⟨a', g1, _, g3⟩ := e1.own i true o' p2
        rw [hs] at g1; cases g1
        obtain ⟨u, hu⟩ := g3.there
        rw [f] at hu; cases hu
      · have := e1.dis i j true false o' o2 a p2 f1 hs f2
        subst this
        rw [p2] at f1; cases f1
  · refine .inl ?_
    rcases f with f | ⟨j, o2, f1, f2⟩
    · cases z : H a with
      | none => rfl
      | some u => rw [(s.ext a u z q).1] at f; cases f
    · rcases s.oa a ⟨j, false, o2, f1, f2⟩ with h | h
      · exact absurd h q
      · exact h
def RvR (K : PySem.W.Frag) (σ : St) (ρ : Ev) (H : Hp) (L' : Addr → Prop) (H' : Hp) (v : V) : Rv → Prop
  | .pv p => Rep K L' H' v p
  | .own o => ∃ a, v = .ref a ∧ L' a ∧ RepO K L' H' o a ∧ Fr σ ρ H a
theorem RvR.back {v : V} {r : Rv} (er : EnvR K L H σ ρ) (e1 : EnvR K L1 H1 σ1 ρ1) (s : Stp σ ρ L H σ1 ρ1 L1 H1) (h : RvR K σ1 ρ1 H1 L' H' v r) : RvR K σ ρ H L' H' v r := by
  cases r with
  | pv p => exact h
  | own o => obtain ⟨a, h1, h2, h3, h4⟩ := h; exact ⟨a, h1, h2, h3, Fr.back er e1 s h4⟩
end

def FailS (X : Cx) (E : XK) (σ : St) (ρ : Ev) (L : Addr → Prop) (H : Hp) (c : Str) (xs : List (Str × PV)) : Prop :=
  ∀ cls d H' L', Ext σ ρ L H L' H' → (∀ a, L' a → H' a ≠ none) → XR X.K X.mg L' c xs cls d H' → E cls d H'
theorem FailS.after {X : Cx} {E : XK} {σ σ1 : St} {ρ ρ1 : Ev} {L L1 : Addr → Prop} {H H1 : Hp} {c : Str} {xs : List (Str × PV)} (h : FailS X E σ ρ L H c xs) (s : Stp σ ρ L H σ1 ρ1 L1 H1) : FailS X E σ1 ρ1 L1 H1 c xs :=
  fun cls d H' L' x l r => h cls d H' L' (Ext.after s x) l r
abbrev cE (E : XK) : St → XK := fun _ => E
/-- what a statement's end must give -/
def Post (X : Cx) (E : XK) (D : Ends) (σ : St) (ρ : Ev) (L : Addr → Prop) (H : Hp) : Res (Fl × Ev) → Prop
  | .ok (.nx, ρ') => ∀ σ' H' L', EnvR X.K L' H' σ' ρ' → Stp σ ρ L H σ' ρ' L' H' → D.nx σ' H'
  | .ok (.bk, ρ') => ∀ σ' H' L', EnvR X.K L' H' σ' ρ' → Stp σ ρ L H σ' ρ' L' H' → D.bk σ' H'
  | .ok (.ct, ρ') => ∀ σ' H' L', EnvR X.K L' H' σ' ρ' → Stp σ ρ L H σ' ρ' L' H' → D.ct σ' H'
  | .ok (.rt r, ρ') => ∀ v σ' H' L', EnvR X.K L' H' σ' ρ' → Stp σ ρ L H σ' ρ' L' H' → RvR X.K σ ρ H L' H' v r → D.rt v H'
  | .err c xs => FailS X E σ ρ L H c xs
  | .bad => False
def SndS (X : Cx) (E : XK) (m : MS) : TS := fun D σ H => ∃ L ρ, EnvR X.K L H σ ρ ∧ Post X E D σ ρ L H (m ρ)
theorem Post.after {X : Cx} {E : XK} {D : Ends} {σ σ1 : St} {ρ ρ1 : Ev} {L L1 : Addr → Prop} {H H1 : Hp} {r : Res (Fl × Ev)} (h : Post X E D σ ρ L H r) (er : EnvR X.K L H σ ρ) (e1 : EnvR X.K L1 H1 σ1 ρ1) (s : Stp σ ρ L H σ1 ρ1 L1 H1) : Post X E D σ1 ρ1 L1 H1 r := by
  cases r with
  | bad => exact h
  | err c xs => exact FailS.after h s
  | ok r =>
    obtain ⟨f, ρ'⟩ := r
    cases f with
    | nx => exact fun σ' H' L' e t => h σ' H' L' e (s.trans t)
    | bk => exact fun σ' H' L' e t => h σ' H' L' e (s.trans t)
    | ct => exact fun σ' H' L' e t => h σ' H' L' e (s.trans t)
    | rt r => exact fun v σ' H' L' e t rr => h v σ' H' L' e (s.trans t) (rr.back er e1 s)

section
variable {X : Cx} {E : XK} {e a b c : Expr} {es : List Expr} {pos : Pos} {st : Stmt} {rest sts : List Stmt}
/-! ### blocks -/
def mNext : MS := fun ρ => .ok (.nx, ρ)
def thenS (m2 : MS) : Fl × Ev → Res (Fl × Ev)
  | (.nx, ρ1) => m2 ρ1
  | (f, ρ1) => .ok (f, ρ1)
def mSeq (m1 m2 : MS) : MS := fun ρ => m1 ρ >>= thenS m2
theorem snd_snil : PSs X [] (SndS X E mNext) := PSs.imp pss_nil fun D σ H ⟨L, ρ, er, w⟩ => w σ H L er .refl
theorem snd_seq {m1 m2 : MS} (h1 : PS X st (SndS X E m1)) (h2 : PSs X rest (SndS X E m2)) : PSs X (st :: rest) (SndS X E (mSeq m1 m2)) :=
  PSs.imp (pss_cons h1 h2) fun D σ H ⟨L, ρ, er, w⟩ => by
    refine ⟨L, ρ, er, ?_⟩
    unfold mSeq at w
    cases q : m1 ρ with
    | bad => rw [q] at w; exact w
    | err c xs => rw [q] at w; exact w
    | ok r =>
      obtain ⟨f, ρ1⟩ := r
      rw [q] at w
      simp only [Res.ok_bind] at w
      cases f with
      | nx => exact fun σ' H' L' e t => ⟨L', ρ1, e, Post.after w er e t⟩
      | bk => exact w
      | ct => exact w
      | rt r => exact w
theorem snd_one {m1 : MS} (h1 : PS X st (SndS X E m1)) : PSs X [st] (SndS X E m1) := pss_one h1
theorem snd_pass : PS X (.Pass pos) (SndS X E mNext) := PS.imp ps_pass fun D σ H ⟨L, ρ, er, w⟩ => w σ H L er .refl
theorem snd_break : PS X (.Break pos) (SndS X E fun ρ => .ok (.bk, ρ)) := PS.imp ps_break fun D σ H ⟨L, ρ, er, w⟩ => w σ H L er .refl
theorem snd_cont : PS X (.Continue pos) (SndS X E fun ρ => .ok (.ct, ρ)) := PS.imp ps_continue fun D σ H ⟨L, ρ, er, w⟩ => w σ H L er .refl
theorem snd_never : PS X st (SndS X E fun _ => .bad) := PS.imp ps_never fun D σ H ⟨L, ρ, er, w⟩ => w
theorem snd_nevers : PSs X sts (SndS X E fun _ => .bad) := PSs.imp pss_never fun D σ H ⟨L, ρ, er, w⟩ => w
/-! ### an expression as a statement, return -/
def mDrop (m : MP) : MS := fun ρ => do let (_, ρ1) ← m ρ; .ok (.nx, ρ1)
theorem snd_drop {m : MP} (he : PE X e (SndP X (cE E) m)) (hs : swapsWith e none pos.line X.env = pure false := by rfl) : PS X (.Expr e pos) (SndS X E (mDrop m)) := PS.imp (ps_expr he hs) fun D σ H ⟨L, ρ, er, w⟩ => by
  refine ⟨L, ρ, er, ?_⟩
  unfold mDrop at w
  cases q : m ρ with
  | bad => rw [q] at w; exact w
  | err c xs => rw [q] at w; exact w
  | ok r =>
    obtain ⟨k, ρ1⟩ := r
    rw [q] at w
    exact fun v H' L' e s _ => w σ H' L' e s
def mRet (m : ME) : MS := fun ρ => do let (p, ρ1) ← m ρ; .ok (.rt (.pv p), ρ1)
theorem snd_ret {m : ME} (he : PE X e (Snd X (cE E) m)) : PS X (.Return (some e) pos) (SndS X E (mRet m)) := PS.imp (ps_ret he) fun D σ H ⟨L, ρ, er, w⟩ => by
  refine ⟨L, ρ, er, ?_⟩
  unfold mRet at w
  cases q : m ρ with
  | bad => rw [q] at w; exact w
  | err c xs => rw [q] at w; exact w
  | ok r =>
    obtain ⟨k, ρ1⟩ := r
    rw [q] at w
    exact fun v H' L' e s r => w v σ H' L' e s r
theorem snd_retN : PS X (.Return none pos) (SndS X E fun ρ => .ok (.rt (.pv .non), ρ)) := PS.imp ps_retN fun D σ H ⟨L, ρ, er, w⟩ => w .non σ H L er .refl .non
/-- a list of one's own is laid -/
def Ad (L : Addr → Prop) (p : Addr) : Addr → Prop := fun a => L a ∨ a = p
theorem keeps_new {K : PySem.W.Frag} {L : Addr → Prop} {H : Hp} {p : Addr} {o : HO} (hp : H p = none) : Keeps L H (Ad L p) (upd H p o) :=
  .of fun a u q n => ⟨Alc.upd hp a u q, fun z => z.elim n fun z => by subst z; rw [hp] at q; cases q⟩
theorem ext_new {L : Addr → Prop} {H : Hp} {σ : St} {ρ : Ev} {p : Addr} {o : HO} (hp : H p = none) : Ext σ ρ L H (Ad L p) (upd H p o) := fun a u q _ =>
  ⟨Alc.upd hp a u q, fun z => .inl z, fun z => z.elim id fun z => by subst z; rw [hp] at q; cases q⟩
/-- the frame beside a new object of its own -/
theorem env_new {K : PySem.W.Frag} {L : Addr → Prop} {H : Hp} {σ : St} {ρ : Ev} {p : Addr} {o : HO} (er : EnvR K L H σ ρ) (hp : H p = none) : EnvR K (Ad L p) (upd H p o) σ ρ where
  len := er.len
  pvs := fun i q h => let ⟨v, h1, h2⟩ := er.pvs i q h; ⟨v, h1, h2.keep (keeps_new (K := K) hp)⟩
  own := fun i b o' h => by
    obtain ⟨a, h1, h2, h3⟩ := er.own i b o' h
    obtain ⟨u, hu⟩ := h3.there
    exact ⟨a, h1, .inl h2, h3.keep (keeps_new (K := K) hp) ((Alc.upd hp a u hu).trans hu.symm)⟩
  dis := er.dis
  liv := fun a h => h.elim (fun h => by
      cases z : H a with
      | none => exact absurd z (er.liv a h)
      | some u => rw [Alc.upd hp a u z]; simp) fun h => by subst h; rw [upd_same]; simp
def mRetL (m : MA) : MS := fun ρ => do
  let (ks, ρ') ← m ρ
  let ps ← Res.of (getAll ks ρ')
  if ps.length ≤ sizeLine then .ok (.rt (.own (.lst ps)), ρ') else .bad
theorem snd_retL {m : MA} {pos2 : Pos} (h : PA X es (SndA X (cE E) m)) : PS X (.Return (some (.List es pos)) pos2) (SndS X E (mRetL m)) := PS.imp (ps_ret (pe_lst h)) fun D σ H ⟨L, ρ, er, w⟩ => by
  refine ⟨L, ρ, er, ?_⟩
  unfold mRetL at w
  cases q : m ρ with
  | bad => rw [q] at w; exact w
  | err c xs => rw [q] at w; exact w
  | ok r =>
    obtain ⟨ks, ρ'⟩ := r
    rw [q] at w
    simp only [Res.ok_bind] at w
    intro vs H1 L1 e1 s1 r1
    cases g : getAll ks ρ' with
    | none => rw [g] at w; exact w.elim
    | some ps =>
      rw [g] at w
      simp only [Res.of_some, Res.ok_bind] at w
      have rr := r1.reps g
      by_cases z : ps.length ≤ sizeLine
      · rw [if_pos z] at w
        refine ⟨by rw [rr.length]; exact z, fun p hp => w _ σ _ (Ad L1 p) (env_new e1 hp) (s1.trans ⟨ext_new hp, fun _ h => .inl h, fun _ o h => ⟨rfl, o, h⟩, rfl⟩) ⟨p, rfl, .inr rfl, ⟨_, upd_same, rr.keep (keeps_new (K := X.K) hp)⟩, ?_⟩⟩
        exact Fr.back er e1 s1 (.inl hp)
      · rw [if_neg z] at w; exact w.elim
/-! ### targets -/
abbrev MG := PV → Ev → Option Ev
def gN (i : Nat) : MG := fun p ρ => match ρ[i]? with
  | none => none
  | some (.own true _) => none
  | some _ => some (ρ.set i (.pv p))
/-- a slot is stored to -/
theorem EnvR.put {K : PySem.W.Frag} {L : Addr → Prop} {H : Hp} {σ : St} {ρ ρ' : Ev} {i : Nat} {p : PV} {v : V} (er : EnvR K L H σ ρ) (r : Rep K L H v p) (g : gN i p ρ = some ρ') : EnvR K L H (σ.set i (some v)) ρ' ∧ Stp σ ρ L H (σ.set i (some v)) ρ' L H := by
  have hi : i < ρ.length ∧ ρ' = ρ.set i (.pv p) ∧ ∀ o, ρ[i]? ≠ some (Sl.own true o) := by
    unfold gN at g
    cases q : ρ[i]? with
    | none => rw [q] at g; cases g
    | some s =>
      have hi := (List.getElem?_eq_some_iff.mp q).1
      rw [q] at g
      cases s with
      | no => cases g; exact ⟨hi, rfl, fun o => by simp⟩
      | pv _ => cases g; exact ⟨hi, rfl, fun o => by simp⟩
      | own b o =>
        cases b with
        | true => cases g
        | false => cases g; exact ⟨hi, rfl, fun o => by simp⟩
  obtain ⟨hi, rfl, hn⟩ := hi
  have hs : i < σ.length := by rw [er.len]; exact hi
  have other : ∀ (j : Nat) (b : Bool) (o' : Own), (ρ.set i (.pv p))[j]? = some (Sl.own b o') → j ≠ i ∧ ρ[j]? = some (Sl.own b o') := fun j b o' q => by
    by_cases e : j = i
    · subst e
      rw [List.getElem?_set_self hi] at q; cases q
    · rw [List.getElem?_set_ne (Ne.symm e)] at q
      exact ⟨e, q⟩
  have so : ∀ {j : Nat}, j ≠ i → (σ.set i (some v))[j]? = σ[j]? := fun {j} e => List.getElem?_set_ne (Ne.symm e)
  refine ⟨⟨by rw [List.length_set, List.length_set]; exact er.len, fun j q h => ?_, fun j b o' h => ?_, fun j k b b' o1 o2 x h1 h2 s1 s2 => ?_, er.liv⟩, ⟨fun a u q _ => ⟨q, Iff.rfl⟩, fun x h => ?_, fun j o h => ?_, List.length_set⟩⟩
  · by_cases e : j = i
    · subst e
      rw [List.getElem?_set_self hi] at h; cases h
      exact ⟨v, List.getElem?_set_self hs, r⟩
    · rw [List.getElem?_set_ne (Ne.symm e)] at h
      obtain ⟨w, h1, h2⟩ := er.pvs j q h
      exact ⟨w, (so e).trans h1, h2⟩
  · obtain ⟨e, h⟩ := other j b o' h
    obtain ⟨a, h1, h2, h3⟩ := er.own j b o' h
    exact ⟨a, (so e).trans h1, h2, h3⟩
  · obtain ⟨e1, h1⟩ := other j b o1 h1
    obtain ⟨e2, h2⟩ := other k b' o2 h2
    rw [so e1] at s1
    rw [so e2] at s2
    exact er.dis j k b b' o1 o2 x h1 h2 s1 s2
  · obtain ⟨j, b, o', h1, h2⟩ := h
    obtain ⟨e, h1⟩ := other j b o' h1
    rw [so e] at h2
    exact .inl ⟨j, b, o', h1, h2⟩
  · have e : j ≠ i := fun e => by subst e; exact hn o h
    exact ⟨so e, o, by rw [List.getElem?_set_ne (Ne.symm e)]; exact h⟩
def SndG (X : Cx) (T : List Nat) (g : MG) : TG := fun v σ H Q => ∃ L ρ p, EnvR X.K L H σ ρ ∧ Rep X.K L H v p ∧ ∃ ρ', g p ρ = some ρ' ∧ ∀ σ', EnvR X.K L H σ' ρ' → Stp σ ρ L H σ' ρ' L H → (∀ j, j ∉ T → σ'[j]? = σ[j]?) → Q σ' H
theorem PG.imp {X : Cx} {e : Expr} {t t' : TG} (h : PG X e t) (i : ∀ v σ H Q, t' v σ H Q → t v σ H Q) : PG X e t' := ⟨fun pins s σ H v u Q I r w => h.run pins s σ H v u Q I r (i _ _ _ _ w)⟩
theorem snd_gname {i : Nat} {x : Str} (hN : X.N.Nodup) (hi : X.N[i]? = some x) (hx : Loc X.env.scope x) (hf : X.fn x = true ∨ X.env.scope.names.lookup x = some .local := by first | exact .inl rfl | exact .inr rfl | assumption) : PG X (.Name x pos) (SndG X [i] (gN i)) :=
  PG.imp (pg_name hN hi hx hf) fun v σ H Q ⟨L, ρ, p, er, r, ρ', g, w⟩ => by
    obtain ⟨e, s⟩ := er.put r g
    exact w _ e s fun j hj => List.getElem?_set_ne fun z => hj (by rw [z]; exact List.mem_singleton_self _)
/-- several targets -/
abbrev MGs := List PV → Ev → Option Ev
def gsNil : MGs := fun ps ρ => match ps with | [] => some ρ | _ => none
def gsCons (g : MG) (gs : MGs) : MGs := fun ps ρ => match ps with
  | p :: r => (g p ρ).bind fun ρ1 => gs r ρ1
  | [] => none
def SndGs (X : Cx) (T : List Nat) (g : MGs) : TGs := fun vs σ H Q => ∃ L ρ ps, EnvR X.K L H σ ρ ∧ RepAll X.K L H vs ps ∧ ∃ ρ', g ps ρ = some ρ' ∧ ∀ σ', EnvR X.K L H σ' ρ' → Stp σ ρ L H σ' ρ' L H → (∀ j, j ∉ T → σ'[j]? = σ[j]?) → Q σ' H
theorem PGs.imp {X : Cx} {e : List Expr} {t t' : TGs} (h : PGs X e t) (i : ∀ v σ H Q, t' v σ H Q → t v σ H Q) : PGs X e t' := ⟨fun pins s σ H v u Q I r w => h.run pins s σ H v u Q I r (i _ _ _ _ w)⟩
theorem snd_gsnil : PGs X [] (SndGs X [] gsNil) := PGs.imp pgs_nil fun vs σ H Q ⟨L, ρ, ps, er, r, ρ', g, w⟩ => by
  cases r with
  | nil => cases g; exact ⟨rfl, w _ er .refl fun _ _ => rfl⟩
  | cons _ _ => cases g
end
end PL
/-! PL6: targets, assignments, tests, if, loops. -/
namespace PL
open PySem PySem.Spec L2
section
variable {X : Cx} {E : XK} {E' : St → XK} {e a b c : Expr} {es rest : List Expr} {pos : Pos} {st : Stmt} {body sts : List Stmt}
theorem snd_gscons {T T2 : List Nat} {g : MG} {gs : MGs} (h1 : PG X e (SndG X T g)) (h2 : PGs X es (SndGs X T2 gs)) (hs : (assignEach (e :: es) X.env).map (·.2) = assign e X.env :: (assignEach es X.env).map (·.2) := by rfl) : PGs X (e :: es) (SndGs X (T ++ T2) (gsCons g gs)) :=
  PGs.imp (pgs_cons h1 h2 hs) fun vs σ H Q ⟨L, ρ, ps, er, r, ρ', g1, w⟩ => by
    cases r with
    | nil => cases g1
    | @cons v vs p ps r rs =>
      obtain ⟨ρ1, h3, h4⟩ := Option.bind_eq_some_iff.mp (show (g p ρ).bind (fun ρ1 => gs ps ρ1) = some ρ' from g1)
      refine ⟨v, vs, rfl, L, ρ, p, er, r, ρ1, h3, fun σ1 e1 s1 t1 => ⟨L, ρ1, ps, e1, rs, ρ', h4, fun σ2 e2 s2 t2 => w σ2 e2 (s1.trans s2) fun j hj => (t2 j fun z => hj (List.mem_append_right _ z)).trans (t1 j fun z => hj (List.mem_append_left _ z))⟩⟩
def gTupM (n : Nat) (gs : MGs) : MG := fun p ρ => match p with
  | .tup ps => if ps.length = n then gs ps ρ else none
  | _ => none
theorem snd_gtup {T : List Nat} {k : Nat} {gs : MGs} {n : Nat} (hc : X.calm = true) (h : PGs X es (SndGs X T gs)) (hn : (assignEach es X.env).length = n := by rfl) (hst : (assignEach es X.env).findIdx? (·.1) = none := by rfl) : PG X (.Tuple es k pos) (SndG X T (gTupM n gs)) :=
  PG.imp (pg_tup hc h hn hst) fun v σ H Q ⟨L, ρ, p, er, r, ρ', g, w⟩ => by
    unfold gTupM at g
    split at g
    · split at g
      · rename_i ps hl
        cases r with
        | tup s rs => exact ⟨_, _, rfl, sq_of s, by rw [rs.length]; exact hl, L, ρ, ps, er, rs, ρ', g, w⟩
      · cases g
    · cases g
/-! ### assignments -/
def mAsg (m : ME) (g : MG) : MS := fun ρ => do let (p, ρ1) ← m ρ; let ρ2 ← Res.of (g p ρ1); .ok (.nx, ρ2)
theorem asg_of {T : List Nat} {m : ME} {g : MG} {D : Ends} {σ : St} {H : Hp} (h : SndS X E (mAsg m g) D σ H) : tAsg (Snd X (cE E) m) (SndG X T g) D σ H := by
  obtain ⟨L, ρ, er, w⟩ := h
  refine ⟨L, ρ, er, ?_⟩
  unfold mAsg at w
  cases q : m ρ with
  | bad => rw [q] at w; exact w
  | err c xs => rw [q] at w; exact w
  | ok r =>
    obtain ⟨p, ρ1⟩ := r
    rw [q] at w
    simp only [Res.ok_bind] at w
    intro v H1 L1 e1 s1 r1
    cases g1 : g p ρ1 with
    | none => rw [g1] at w; exact w.elim
    | some ρ2 =>
      rw [g1] at w
      exact ⟨L1, ρ1, p, e1, r1, ρ2, g1, fun σ2 e2 s2 _ => w σ2 H1 L1 e2 (s1.trans s2)⟩
theorem snd_set {i : Nat} {x : Str} {m : ME} {pos' : Pos} (hN : X.N.Nodup) (hi : X.N[i]? = some x) (hx : Loc X.env.scope x) (he : PE X e (Snd X (cE E) m)) (hs : swapsWith e (some (.Name x pos')) pos.line X.env = pure false := by rfl) (hf : X.fn x = true ∨ X.env.scope.names.lookup x = some .local := by first | exact .inl rfl | exact .inr rfl | assumption) :
    PS X (.Assign [.Name x pos'] e pos) (SndS X E (mAsg m (gN i))) := PS.imp (ps_set hN hi hx he hs hf) fun D σ H w => by
  obtain ⟨L, ρ, er, h⟩ := asg_of (T := [i]) w
  refine ⟨L, ρ, er, ?_⟩
  cases q : m ρ with
  | bad => rw [q] at h; exact h
  | err c xs => rw [q] at h; exact h
  | ok r =>
    obtain ⟨p, ρ1⟩ := r
    rw [q] at h
    intro v H1 L1 e1 s1 r1
    obtain ⟨L2, ρ2, p2, e2, r2, ρ3, g, k⟩ := h v H1 L1 e1 s1 r1
    obtain ⟨e3, s3⟩ := e2.put r2 g
    exact k _ e3 s3 fun j hj => List.getElem?_set_ne fun z => hj (by rw [z]; exact List.mem_singleton_self _)
theorem snd_asg {T : List Nat} {tg : Expr} {m : ME} {g : MG} (he : PE X e (Snd X (cE E) m)) (hg : PG X tg (SndG X T g)) (hs : swapsWithSole [tg] e pos.line X.env = pure false := by rfl) (hw : swappedStores [tg] e X.env = pure none := by rfl)
    (h1 : (assignEach [tg] X.env).map (·.2) = [assign tg X.env] := by rfl) : PS X (.Assign [tg] e pos) (SndS X E (mAsg m g)) := PS.imp (ps_asg he hg hs hw h1) fun _ _ _ => asg_of
/-- a slot gets a container of its own -/
def gO (i : Nat) (o : Own) : Ev → Option Ev := fun ρ => match ρ[i]? with
  | none => none
  | some (.own true _) => none
  | some _ => some (ρ.set i (.own false o))
theorem EnvR.putO {K : PySem.W.Frag} {L : Addr → Prop} {H : Hp} {σ : St} {ρ ρ' : Ev} {i : Nat} {o : Own} {p : Addr} (er : EnvR K L H σ ρ) (lp : L p) (r : RepO K L H o p) (nf : ∀ (j : Nat) (b : Bool) (o' : Own), ρ[j]? = some (Sl.own b o') → σ[j]? ≠ some (some (V.ref p))) (g : gO i o ρ = some ρ') :
    EnvR K L H (σ.set i (some (.ref p))) ρ' ∧ (∀ (j : Nat) (o' : Own), ρ[j]? = some (Sl.own true o') → (σ.set i (some (V.ref p)))[j]? = σ[j]? ∧ ∃ o'', ρ'[j]? = some (Sl.own true o'')) ∧ ρ'.length = ρ.length ∧ ∀ x, OA (σ.set i (some (.ref p))) ρ' x → OA σ ρ x ∨ x = p := by
  have hi : i < ρ.length ∧ ρ' = ρ.set i (.own false o) ∧ ∀ o, ρ[i]? ≠ some (Sl.own true o) := by
    unfold gO at g
    cases q : ρ[i]? with
    | none => rw [q] at g; cases g
    | some s =>
      have hi := (List.getElem?_eq_some_iff.mp q).1
      rw [q] at g
      cases s with
      | no => cases g; exact ⟨hi, rfl, fun o => by simp⟩
      | pv _ => cases g; exact ⟨hi, rfl, fun o => by simp⟩
      | own b o =>
        cases b with
        | true => cases g
        | false => cases g; exact ⟨hi, rfl, fun o => by simp⟩
  obtain ⟨hi, rfl, hn⟩ := hi
  have hs : i < σ.length := by rw [er.len]; exact hi
  have so : ∀ {j : Nat}, j ≠ i → (σ.set i (some (V.ref p)))[j]? = σ[j]? := fun {j} e => List.getElem?_set_ne (Ne.symm e)
  have other : ∀ {j : Nat} {q : Sl}, j ≠ i → (ρ.set i (.own false o))[j]? = some q → ρ[j]? = some q := fun {j q} e h => by
    rw [List.getElem?_set_ne (Ne.symm e)] at h; exact h
  refine ⟨⟨by rw [List.length_set, List.length_set]; exact er.len, fun j q h => ?_, fun j b o' h => ?_, fun j k b b' o1 o2 x h1 h2 s1 s2 => ?_, er.liv⟩, fun j o' h => ?_, List.length_set, fun x h => ?_⟩
  · by_cases e : j = i
    · subst e
      rw [List.getElem?_set_self hi] at h; cases h
    · obtain ⟨w, h1, h2⟩ := er.pvs j q (other e h)
      exact ⟨w, (so e).trans h1, h2⟩
  · by_cases e : j = i
    · subst e
      rw [List.getElem?_set_self hi] at h; cases h
      exact ⟨p, List.getElem?_set_self hs, lp, r⟩
    · obtain ⟨a, h1, h2, h3⟩ := er.own j b o' (other e h)
      exact ⟨a, (so e).trans h1, h2, h3⟩
  · by_cases e1 : j = i
    · by_cases e2 : k = i
      · rw [e1, e2]
      · subst e1
        rw [List.getElem?_set_self hs] at s1; cases s1
        rw [so e2] at s2
        exact absurd s2 (nf k b' o2 (other e2 h2))
    · by_cases e2 : k = i
      · subst e2
        rw [List.getElem?_set_self hs] at s2; cases s2
        rw [so e1] at s1
        exact absurd s1 (nf j b o1 (other e1 h1))
      · rw [so e1] at s1
        rw [so e2] at s2
        exact er.dis j k b b' o1 o2 x (other e1 h1) (other e2 h2) s1 s2
  · have e : j ≠ i := fun e => by subst e; exact hn _ h
    exact ⟨so e, o', by rw [List.getElem?_set_ne (Ne.symm e)]; exact h⟩
  · obtain ⟨j, b, o', h1, h2⟩ := h
    by_cases e : j = i
    · subst e
      rw [List.getElem?_set_self hs] at h2; cases h2
      exact .inr rfl
    · rw [so e] at h2
      exact .inl ⟨j, b, o', other e h1, h2⟩
/-- a new object goes into a slot -/
theorem EnvR.putN {K : PySem.W.Frag} {L : Addr → Prop} {H : Hp} {σ : St} {ρ ρ' : Ev} {i : Nat} {o : Own} {p : Addr} {u : HO} (er : EnvR K L H σ ρ) (hp : H p = none) (r : RepO K (Ad L p) (upd H p u) o p) (g : gO i o ρ = some ρ') :
    EnvR K (Ad L p) (upd H p u) (σ.set i (some (.ref p))) ρ' ∧ Stp σ ρ L H (σ.set i (some (.ref p))) ρ' (Ad L p) (upd H p u) := by
  have e1 : EnvR K (Ad L p) (upd H p u) σ ρ := env_new er hp
  obtain ⟨e2, pn, ln, oa⟩ := e1.putO (p := p) (.inr rfl) r (fun j b o' h s => by
    obtain ⟨a, h1, h2, _⟩ := er.own j b o' h
    rw [s] at h1; cases h1
    exact er.liv p h2 hp) g
  exact ⟨e2, ext_new hp, fun x h => (oa x h).imp id fun z => by subst z; exact hp, pn, ln⟩
def mSetL (i : Nat) (m : MA) : MS := fun ρ => do
  let (ks, ρ1) ← m ρ
  let ps ← Res.of (getAll ks ρ1)
  let ρ2 ← Res.of (gO i (.lst ps) ρ1)
  if ps.length ≤ sizeLine then .ok (.nx, ρ2) else .bad
theorem snd_setL {i : Nat} {x : Str} {m : MA} {pos' pos2 : Pos} (hN : X.N.Nodup) (hi : X.N[i]? = some x) (hx : Loc X.env.scope x) (h : PA X es (SndA X (cE E) m)) (hs : swapsWith (.List es pos2) (some (.Name x pos')) pos.line X.env = pure false := by rfl) (hf : X.fn x = true ∨ X.env.scope.names.lookup x = some .local := by first | exact .inl rfl | exact .inr rfl | assumption) :
    PS X (.Assign [.Name x pos'] (.List es pos2) pos) (SndS X E (mSetL i m)) := PS.imp (ps_set hN hi hx (pe_lst h) hs hf) fun D σ H ⟨L, ρ, er, w⟩ => by
  refine ⟨L, ρ, er, ?_⟩
  unfold mSetL at w
  cases q : m ρ with
  | bad => rw [q] at w; exact w
  | err c xs => rw [q] at w; exact w
  | ok r =>
    obtain ⟨ks, ρ1⟩ := r
    rw [q] at w
    simp only [Res.ok_bind] at w
    intro vs H1 L1 e1 s1 r1
    cases g : getAll ks ρ1 with
    | none => rw [g] at w; exact w.elim
    | some ps =>
      rw [g] at w
      simp only [Res.of_some, Res.ok_bind] at w
      cases g2 : gO i (.lst ps) ρ1 with
      | none => rw [g2] at w; exact w.elim
      | some ρ2 =>
        rw [g2] at w
        simp only [Res.of_some, Res.ok_bind] at w
        have rr := r1.reps g
        by_cases z : ps.length ≤ sizeLine
        · rw [if_pos z] at w
          refine ⟨by rw [rr.length]; exact z, fun p hp => ?_⟩
          obtain ⟨e2, s2⟩ := e1.putN hp (show RepO X.K (Ad L1 p) (upd H1 p (.lst vs)) (.lst ps) p from ⟨vs, upd_same, rr.keep (keeps_new (K := X.K) hp)⟩) g2
          exact w _ _ _ e2 (s1.trans s2)
        · rw [if_neg z] at w; exact w.elim
/-! ### tests -/
def trv : PV → Option Bool
  | .non => some false
  | .bl b => some b
  | .int i => some (i != 0)
  | .str y => if y.length ≤ sizeLine then some ((y.length : Int) != 0) else none
  | .tup l => some !l.isEmpty
  | .lst l => some !l.isEmpty
  | .scr l => some !l.isEmpty
  | .dct _ => none
theorem RepAll.isEmpty {K : PySem.W.Frag} {L : Addr → Prop} {H : Hp} {xs : List V} {ps : List PV} (r : RepAll K L H xs ps) : (!ps.isEmpty) = !xs.isEmpty := by
  cases r <;> rfl
theorem CRep.tru {K : PySem.W.Frag} {L : Addr → Prop} {H : Hp} {v : V} {p : PV} {k : Bool} (r : CRep K L H v p) (h : trv p = some k) : TruV K v H k := by
  cases p with
  | non => cases r.non; cases h; rfl
  | bl b => cases r.bl; cases h; rfl
  | int i => cases r.int; cases h; rfl
  | str s =>
    cases r.str
    have h : (if s.length ≤ sizeLine then some ((s.length : Int) != 0) else none) = some k := h
    split at h
    · rename_i z; cases h; exact ⟨z, rfl⟩
    · cases h
  | tup l =>
    obtain ⟨a, xs, rfl, s, q⟩ := r.tup
    cases h
    exact .inr (.inl ⟨xs, sq_of s, q.isEmpty⟩)
  | lst l =>
    obtain ⟨a, xs, rfl, s, q⟩ := r
    cases h
    exact .inl ⟨xs, .inl (.inl s), q.isEmpty⟩
  | scr l =>
    cases h
    cases (show Rep K L H v (.scr l) from r) with
    | scr s q => exact .inl ⟨_, s.sq, q.isEmpty⟩
  | dct l => cases h
def mtV (m : MP) : MT := fun ρ => do let (k, ρ1) ← m ρ; let p ← Res.of (k.get ρ1); let t ← Res.of (trv p); .ok (t, ρ1)
theorem snd_truth {m : MP} (ha : PE X a (SndP X E' m)) (he : ∀ whole, isTrue a X.env whole = (do let v ← whole; standAt a.pos; holding [v] (truthy v))) : PT X a (SndT X E' (mtV m)) :=
  PT.imp (pt_truth ha he) fun σ H Q ⟨L, ρ, er, w⟩ => by
    refine ⟨L, ρ, er, ?_⟩
    unfold mtV at w
    cases q : m ρ with
    | bad => rw [q] at w; exact w
    | err c xs => rw [q] at w; exact w
    | ok r =>
      obtain ⟨k, ρ1⟩ := r
      rw [q] at w
      simp only [Res.ok_bind] at w
      intro v H1 L1 e1 s1 r1
      cases g : k.get ρ1 with
      | none => rw [g] at w; exact w.elim
      | some p =>
        rw [g] at w
        simp only [Res.of_some, Res.ok_bind] at w
        cases g2 : trv p with
        | none => rw [g2] at w; exact w.elim
        | some t =>
          rw [g2] at w
          exact ⟨t, (r1.get e1 g).tru g2, w H1 L1 e1 s1⟩
/-- a value that is a bool -/
def mtB (m : ME) : MT := fun ρ => do let (p, ρ1) ← m ρ; match p with | .bl t => .ok (t, ρ1) | _ => .bad
theorem mtB_of {m : ME} {σ : St} {H : Hp} {Q : Bool → Hp → Prop} (h : SndT X E' (mtB m) σ H Q) : tTest (Snd X E' m) σ H Q := by
  obtain ⟨L, ρ, er, w⟩ := h
  refine ⟨L, ρ, er, ?_⟩
  unfold mtB at w
  cases q : m ρ with
  | bad => rw [q] at w; exact w
  | err c xs => rw [q] at w; exact w
  | ok r =>
    obtain ⟨p, ρ1⟩ := r
    rw [q] at w
    simp only [Res.ok_bind] at w
    intro v H1 L1 e1 s1 r1
    cases p with
    | bl t =>
      cases r1
      exact ⟨t, rfl, w H1 L1 e1 s1⟩
    | _ => exact w.elim
theorem snd_tcmp {op : CmpOp} {r : R2} {f : PV → PV → Option PV} {ma mb : MP} (ho : OpR X (compareOp op) r) (hr : PureR2 X.K r f) (ha : PE X a (SndP X E' ma)) (hb : PE X b (SndP X E' mb)) (hm : behindInMarks op b = false) : PT X (.Compare a [op] [b] pos) (SndT X E' (mtB (mOp2 f ma mb))) :=
  PT.imp (pt_cmpR ho ha hb hm) fun σ H Q w => by
    have z := mtB_of w
    obtain ⟨L, ρ, er, k⟩ := z
    exact tOp_of hr ⟨L, ρ, er, k⟩
def mtAnd (t u : MT) : MT := fun ρ => do let (b, ρ1) ← t ρ; if b then u ρ1 else .ok (false, ρ1)
def mtOr (t u : MT) : MT := fun ρ => do let (b, ρ1) ← t ρ; if b then .ok (true, ρ1) else u ρ1
def mtNot (t : MT) : MT := fun ρ => do let (b, ρ1) ← t ρ; .ok (!b, ρ1)
theorem SndT.after {m : MT} {σ : St} {H H1 : Hp} {L L1 : Addr → Prop} {ρ ρ1 : Ev} {Q : Bool → Hp → Prop} (e1 : EnvR X.K L1 H1 σ ρ1) (s1 : Stp σ ρ L H σ ρ1 L1 H1)
    (w : match m ρ1 with
      | .ok (b, ρ') => ∀ H' L', EnvR X.K L' H' σ ρ' → Stp σ ρ L H σ ρ' L' H' → Q b H'
      | .err c xs => Fails X E' σ ρ L H c xs
      | .bad => False) : SndT X E' m σ H1 Q := by
  refine ⟨L1, ρ1, e1, ?_⟩
  cases q : m ρ1 with
  | bad => rw [q] at w; exact w
  | err c xs => rw [q] at w; exact Fails.after w s1
  | ok r =>
    obtain ⟨b, ρ2⟩ := r
    rw [q] at w
    exact fun H' L' e s => w H' L' e (s1.trans s)
theorem Snd.after {m : ME} {σ : St} {H H1 : Hp} {L L1 : Addr → Prop} {ρ ρ1 : Ev} {Q : VK} (e1 : EnvR X.K L1 H1 σ ρ1) (s1 : Stp σ ρ L H σ ρ1 L1 H1)
    (w : match m ρ1 with
      | .ok (b, ρ') => ∀ v H' L', EnvR X.K L' H' σ ρ' → Stp σ ρ L H σ ρ' L' H' → Rep X.K L' H' v b → Q v H'
      | .err c xs => Fails X E' σ ρ L H c xs
      | .bad => False) : Snd X E' m σ H1 Q := by
  refine ⟨L1, ρ1, e1, ?_⟩
  cases q : m ρ1 with
  | bad => rw [q] at w; exact w
  | err c xs => rw [q] at w; exact Fails.after w s1
  | ok r =>
    obtain ⟨b, ρ2⟩ := r
    rw [q] at w
    exact fun v H' L' e s r => w v H' L' e (s1.trans s) r
theorem snd_and1 {t : MT} (ha : PT X a (SndT X E' t)) : PW X (.BoolOp .And [a] pos) (SndT X E' t) := pw_and1 ha
theorem snd_or1 {t : MT} (ha : PT X a (SndT X E' t)) : PW X (.BoolOp .Or [a] pos) (SndT X E' t) := pw_or1 ha
theorem snd_and {t u : MT} (ha : PT X a (SndT X E' t)) (hb : PW X (.BoolOp .And (b :: rest) pos) (SndT X E' u)) : PW X (.BoolOp .And (a :: b :: rest) pos) (SndT X E' (mtAnd t u)) :=
  PW.imp (pw_and ha hb) fun σ H Q ⟨L, ρ, er, w⟩ => by
    refine ⟨L, ρ, er, ?_⟩
    unfold mtAnd at w
    cases q : t ρ with
    | bad => rw [q] at w; exact w
    | err c xs => rw [q] at w; exact w
    | ok r =>
      obtain ⟨k, ρ1⟩ := r
      rw [q] at w
      simp only [Res.ok_bind] at w
      intro H1 L1 e1 s1
      cases k with
      | true => exact SndT.after e1 s1 (by rw [if_pos rfl] at w; exact w)
      | false => exact w H1 L1 e1 s1
theorem snd_or {t u : MT} (ha : PT X a (SndT X E' t)) (hb : PW X (.BoolOp .Or (b :: rest) pos) (SndT X E' u)) : PW X (.BoolOp .Or (a :: b :: rest) pos) (SndT X E' (mtOr t u)) :=
  PW.imp (pw_or ha hb) fun σ H Q ⟨L, ρ, er, w⟩ => by
    refine ⟨L, ρ, er, ?_⟩
    unfold mtOr at w
    cases q : t ρ with
    | bad => rw [q] at w; exact w
    | err c xs => rw [q] at w; exact w
    | ok r =>
      obtain ⟨k, ρ1⟩ := r
      rw [q] at w
      simp only [Res.ok_bind] at w
      intro H1 L1 e1 s1
      cases k with
      | false => exact SndT.after e1 s1 (by rw [if_neg Bool.false_ne_true] at w; exact w)
      | true => exact w H1 L1 e1 s1
theorem snd_not {t : MT} (ha : PT X a (SndT X E' t)) : PT X (.UnaryOp .Not a pos) (SndT X E' (mtNot t)) :=
  PT.imp (pt_not ha) fun σ H Q ⟨L, ρ, er, w⟩ => by
    refine ⟨L, ρ, er, ?_⟩
    unfold mtNot at w
    cases q : t ρ with
    | bad => rw [q] at w; exact w
    | err c xs => rw [q] at w; exact w
    | ok r =>
      obtain ⟨k, ρ1⟩ := r
      rw [q] at w
      exact w
/-! ### and, or, not as values -/
def mAndV (m m2 : ME) : ME := fun ρ => do let (p, ρ1) ← m ρ; let t ← Res.of (trv p); if t then m2 ρ1 else .ok (p, ρ1)
def mOrV (m m2 : ME) : ME := fun ρ => do let (p, ρ1) ← m ρ; let t ← Res.of (trv p); if t then .ok (p, ρ1) else m2 ρ1
def mNotV (m : ME) : ME := fun ρ => do let (p, ρ1) ← m ρ; let t ← Res.of (trv p); .ok (.bl (!t), ρ1)
theorem snd_one1 {op} {m : ME} (h : PE X a (Snd X E' m)) : PE X (.BoolOp op [a] pos) (Snd X E' m) := pe_one h
theorem snd_andV {m m2 : ME} (ha : PE X a (Snd X E' m)) (hb : PE X (.BoolOp .And (b :: rest) pos) (Snd X E' m2)) : PE X (.BoolOp .And (a :: b :: rest) pos) (Snd X E' (mAndV m m2)) :=
  PE.imp (pe_andT ha hb) fun σ H Q ⟨L, ρ, er, w⟩ => by
    refine ⟨L, ρ, er, ?_⟩
    unfold mAndV at w
    cases q : m ρ with
    | bad => rw [q] at w; exact w
    | err c xs => rw [q] at w; exact w
    | ok r =>
      obtain ⟨p, ρ1⟩ := r
      rw [q] at w
      simp only [Res.ok_bind] at w
      intro v H1 L1 e1 s1 r1
      cases g : trv p with
      | none => rw [g] at w; exact w.elim
      | some t =>
        rw [g] at w
        simp only [Res.of_some, Res.ok_bind] at w
        refine ⟨t, r1.c.tru g, ?_⟩
        cases t with
        | true => exact Snd.after e1 s1 (by rw [if_pos rfl] at w; exact w)
        | false => exact w v H1 L1 e1 s1 r1
theorem snd_orV {m m2 : ME} (ha : PE X a (Snd X E' m)) (hb : PE X (.BoolOp .Or (b :: rest) pos) (Snd X E' m2)) : PE X (.BoolOp .Or (a :: b :: rest) pos) (Snd X E' (mOrV m m2)) :=
  PE.imp (pe_orT ha hb) fun σ H Q ⟨L, ρ, er, w⟩ => by
    refine ⟨L, ρ, er, ?_⟩
    unfold mOrV at w
    cases q : m ρ with
    | bad => rw [q] at w; exact w
    | err c xs => rw [q] at w; exact w
    | ok r =>
      obtain ⟨p, ρ1⟩ := r
      rw [q] at w
      simp only [Res.ok_bind] at w
      intro v H1 L1 e1 s1 r1
      cases g : trv p with
      | none => rw [g] at w; exact w.elim
      | some t =>
        rw [g] at w
        simp only [Res.of_some, Res.ok_bind] at w
        refine ⟨t, r1.c.tru g, ?_⟩
        cases t with
        | false => exact Snd.after e1 s1 (by rw [if_neg Bool.false_ne_true] at w; exact w)
        | true => exact w v H1 L1 e1 s1 r1
theorem snd_notV {m : ME} (ha : PE X a (Snd X E' m)) : PE X (.UnaryOp .Not a pos) (Snd X E' (mNotV m)) :=
  PE.imp (pe_notT ha) fun σ H Q ⟨L, ρ, er, w⟩ => by
    refine ⟨L, ρ, er, ?_⟩
    unfold mNotV at w
    cases q : m ρ with
    | bad => rw [q] at w; exact w
    | err c xs => rw [q] at w; exact w
    | ok r =>
      obtain ⟨p, ρ1⟩ := r
      rw [q] at w
      simp only [Res.ok_bind] at w
      intro v H1 L1 e1 s1 r1
      cases g : trv p with
      | none => rw [g] at w; exact w.elim
      | some t =>
        rw [g] at w
        exact ⟨t, r1.c.tru g, w _ H1 L1 e1 s1 (.bl _)⟩
/-! ### a if c else b; if -/
def mIfE (t : MT) (m m2 : ME) : ME := fun ρ => do let (b, ρ1) ← t ρ; if b then m ρ1 else m2 ρ1
theorem snd_ifE {t : MT} {m m2 : ME} (hc : PT X c (SndT X E' t)) (ha : PE X a (Snd X E' m)) (hb : PE X b (Snd X E' m2)) : PE X (.IfExp c a b pos) (Snd X E' (mIfE t m m2)) :=
  PE.imp (pe_ifExp hc ha hb) fun σ H Q ⟨L, ρ, er, w⟩ => by
    refine ⟨L, ρ, er, ?_⟩
    unfold mIfE at w
    cases q : t ρ with
    | bad => rw [q] at w; exact w
    | err c xs => rw [q] at w; exact w
    | ok r =>
      obtain ⟨k, ρ1⟩ := r
      rw [q] at w
      simp only [Res.ok_bind] at w
      intro H1 L1 e1 s1
      cases k with
      | true => exact Snd.after e1 s1 (by rw [if_pos rfl] at w; exact w)
      | false => exact Snd.after e1 s1 (by rw [if_neg Bool.false_ne_true] at w; exact w)
def mIf (t : MT) (m m2 : MS) : MS := fun ρ => do let (b, ρ1) ← t ρ; if b then m ρ1 else m2 ρ1
theorem snd_if {t : MT} {m m2 : MS} {p q : List Stmt} (hc : PT X c (SndT X (cE E) t)) (ha : PSs X p (SndS X E m)) (hb : PSs X q (SndS X E m2)) : PS X (.If c p q pos) (SndS X E (mIf t m m2)) :=
  PS.imp (ps_if hc ha hb) fun D σ H ⟨L, ρ, er, w⟩ => by
    refine ⟨L, ρ, er, ?_⟩
    unfold mIf at w
    cases q : t ρ with
    | bad => rw [q] at w; exact w
    | err c xs => rw [q] at w; exact w
    | ok r =>
      obtain ⟨k, ρ1⟩ := r
      rw [q] at w
      simp only [Res.ok_bind] at w
      intro H1 L1 e1 s1
      cases k with
      | true => exact ⟨L1, ρ1, e1, Post.after (by rw [if_pos rfl] at w; exact w) er e1 s1⟩
      | false => exact ⟨L1, ρ1, e1, Post.after (by rw [if_neg Bool.false_ne_true] at w; exact w) er e1 s1⟩
/-! ### while -/
def stepW (k : MS) : Fl × Ev → Res (Fl × Ev)
  | (.nx, ρ2) => k ρ2
  | (.ct, ρ2) => k ρ2
  | (.bk, ρ2) => .ok (.nx, ρ2)
  | (.rt r, ρ2) => .ok (.rt r, ρ2)
def loopW (t : MT) (m : MS) : Nat → MS
  | 0 => fun _ => .bad
  | n + 1 => fun ρ => do
    let (b, ρ1) ← t ρ
    if b then m ρ1 >>= stepW (loopW t m n) else .ok (.nx, ρ1)
theorem snd_while {t : MT} {m : MS} (n : Nat) (hp : PassesOwn (model X.prog X.w) X.A X.env X.xe) (hc : PT X c (SndT X (cE E) t)) (hb : PSs X body (SndS X E m)) : PS X (.While c body [] pos) (SndS X E (loopW t m n)) :=
  PS.imp (ps_while hp hc hb) fun D σ H w => by
    refine ⟨fun n σ H => SndS X E (loopW t m n) D σ H, ⟨n, w⟩, fun n σ H w => ?_⟩
    obtain ⟨L, ρ, er, w⟩ := w
    cases n with
    | zero => exact w.elim
    | succ n =>
      refine ⟨L, ρ, er, ?_⟩
      unfold loopW at w
      cases q : t ρ with
      | bad => rw [q] at w; exact w
      | err c xs => rw [q] at w; exact w
      | ok r =>
        obtain ⟨k, ρ1⟩ := r
        rw [q] at w
        simp only [Res.ok_bind] at w
        intro H1 L1 e1 s1
        cases k with
        | false => exact w σ H1 L1 e1 s1
        | true =>
          rw [if_pos rfl] at w ⊢
          refine ⟨fun σ' H' => SndS X E (loopW t m n) D σ' H', fun σ' H' z => ⟨n, Nat.lt_succ_self _, z⟩, L1, ρ1, e1, ?_⟩
          have w1 := Post.after w er e1 s1
          cases q2 : m ρ1 with
          | bad => rw [q2] at w1; exact w1
          | err c xs => rw [q2] at w1; exact w1
          | ok r =>
            obtain ⟨f, ρ2⟩ := r
            rw [q2] at w1
            simp only [Res.ok_bind] at w1
            cases f with
            | nx => exact fun σ2 H2 L2 e2 s2 => ⟨L2, ρ2, e2, Post.after w1 e1 e2 s2⟩
            | ct => exact fun σ2 H2 L2 e2 s2 => ⟨L2, ρ2, e2, Post.after w1 e1 e2 s2⟩
            | bk => exact w1
            | rt r => exact w1
/-! ### for -/
def loopF (g : MG) (m : MS) : List PV → MS
  | [] => fun ρ => .ok (.nx, ρ)
  | p :: ps => fun ρ => do let ρ1 ← Res.of (g p ρ); m ρ1 >>= stepW (loopF g m ps)
def mForL (mi : ME) (g : MG) (m : MS) : MS := fun ρ => do
  let (p, ρ1) ← mi ρ
  match p with
  | .lst ps => loopF g m ps ρ1
  | .scr ps => loopF g m ps ρ1
  | _ => .bad
def mForT (mi : ME) (g : MG) (m : MS) : MS := fun ρ => do
  let (p, ρ1) ← mi ρ
  match p with
  | .tup ps => loopF g m ps ρ1
  | _ => .bad
/-- what is read stays, as the loop sees it -/
def LRd (K : PySem.W.Frag) (L : Addr → Prop) (H : Hp) (a : Addr) (xs : List V) : Prop := At L H a (.lst xs) ∨ ScrR K L H a xs
theorem LRd.keep {K : PySem.W.Frag} {L L' : Addr → Prop} {H H' : Hp} {a : Addr} {xs : List V} (h : LRd K L H a xs) (k : Keeps L H L' H') : LRd K L' H' a xs := h.imp (k.lst _ _) fun h => h.imp (fun ⟨o, z⟩ => ⟨o, k.scr _ _ _ z⟩) id
theorem LRd.sq {K : PySem.W.Frag} {L : Addr → Prop} {H : Hp} {a : Addr} {xs : List V} (h : LRd K L H a xs) : SqL K H a xs := h.elim (fun z => .inl (.inl z.1)) ScrR.sq
theorem turn_of {T : List Nat} {g : MG} {m : MS} {D : Ends} {N : St → Hp → Prop} {p : PV} {ps : List PV} {x : V} {L : Addr → Prop} {H : Hp} {σ : St} {ρ : Ev} (er : EnvR X.K L H σ ρ) (rx : Rep X.K L H x p) (w : Post X E D σ ρ L H (loopF g m (p :: ps) ρ))
    (hN : ∀ σ' H' L' ρ', EnvR X.K L' H' σ' ρ' → Keeps L H L' H' → Post X E D σ' ρ' L' H' (loopF g m ps ρ') → N σ' H') :
    SndG X T g x σ H fun σ2 H2 => SndS X E m { D with nx := N, ct := N, bk := D.nx } σ2 H2 := by
  unfold loopF at w
  cases g1 : g p ρ with
  | none => rw [g1] at w; exact w.elim
  | some ρ1 =>
    rw [g1] at w
    simp only [Res.of_some, Res.ok_bind] at w
    refine ⟨L, ρ, p, er, rx, ρ1, g1, fun σ1 e1 s1 _ => ⟨L, ρ1, e1, ?_⟩⟩
    have w1 := Post.after w er e1 s1
    have k1 := s1.keeps er
    cases q2 : m ρ1 with
    | bad => rw [q2] at w1; exact w1
    | err c xs => rw [q2] at w1; exact w1
    | ok r =>
      obtain ⟨f, ρ2⟩ := r
      rw [q2] at w1
      simp only [Res.ok_bind] at w1
      cases f with
      | nx => exact fun σ2 H2 L2 e2 s2 => hN σ2 H2 L2 ρ2 e2 (k1.trans (s2.keeps e1)) (Post.after w1 e1 e2 s2)
      | ct => exact fun σ2 H2 L2 e2 s2 => hN σ2 H2 L2 ρ2 e2 (k1.trans (s2.keeps e1)) (Post.after w1 e1 e2 s2)
      | bk => exact w1
      | rt r => exact w1
theorem drop_at {α : Type} {l : List α} {i : Nat} {p : α} (h : l[i]? = some p) : l.drop i = p :: l.drop (i + 1) := by
  obtain ⟨hi, e⟩ := List.getElem?_eq_some_iff.mp h
  rw [← e]; exact List.drop_eq_getElem_cons hi
theorem loop_list {T : List Nat} {g : MG} {m : MS} {D : Ends} {a : Addr} {xs : List V} {ps : List PV} {L : Addr → Prop} {H : Hp} {σ : St} {ρ : Ev} (er : EnvR X.K L H σ ρ) (hl : LRd X.K L H a xs) (hx : RepAll X.K L H xs ps) (w : Post X E D σ ρ L H (loopF g m ps ρ)) :
    ∃ W : Nat → Nat → St → Hp → Prop, (∃ m, W 0 m σ H) ∧ ∀ i n σ H, W i n σ H →
      ((Itl X.K a).stop i H ∧ D.nx σ H) ∨ ((Itl X.K a).go i H ∧ ∃ N : St → Hp → Prop, (∀ σ' H', N σ' H' → ∃ m', m' < n ∧ W (i + 1) m' σ' H') ∧ ∀ x H', (Itl X.K a).yld i H x H' → SndG X T g x σ H' fun σ2 H2 => SndS X E m { D with nx := N, ct := N, bk := D.nx } σ2 H2) := by
  refine for_list (xs := xs) (fun i σ H => ∃ L ρ, EnvR X.K L H σ ρ ∧ LRd X.K L H a xs ∧ RepAll X.K L H xs ps ∧ Post X E D σ ρ L H (loopF g m (ps.drop i) ρ)) ⟨L, ρ, er, hl, hx, w⟩ (fun _ _ _ _ ⟨_, _, _, z, _⟩ => z.sq) ?_ ?_
  · rintro i x σ H hi ⟨L, ρ, er, hl, hx, w⟩
    obtain ⟨p, hp, rp⟩ := hx.get hi
    rw [drop_at hp] at w
    exact turn_of er rp w fun σ' H' L' ρ' e' k w' => ⟨L', ρ', e', hl.keep k, hx.keep k, w'⟩
  · rintro σ H ⟨L, ρ, er, hl, hx, w⟩
    rw [hx.length, List.drop_length] at w
    exact w σ H L er .refl
theorem snd_forL {T : List Nat} {iter tg : Expr} {mi : ME} {g : MG} {m : MS} (hp : PassesOwn (model X.prog X.w) X.A X.env X.xe) (hc : X.calm = true) (hi : PE X iter (Snd X (cE E) mi)) (hg : PG X tg (SndG X T g)) (hb : PSs X body (SndS X E m)) (hfs : ∀ v, foldedSetIterable iter X.env v = pure v := by intro _; rfl) : PS X (.For tg iter body [] pos) (SndS X E (mForL mi g m)) :=
  PS.imp (ps_for hp hc (pi_list hi) hg hb hfs) fun D σ H ⟨L, ρ, er, w⟩ => by
    refine ⟨L, ρ, er, ?_⟩
    unfold mForL at w
    cases q : mi ρ with
    | bad => rw [q] at w; exact w
    | err c xs => rw [q] at w; exact w
    | ok r =>
      obtain ⟨p, ρ1⟩ := r
      rw [q] at w
      simp only [Res.ok_bind] at w
      intro v H1 L1 e1 s1 r1
      have w1 := Post.after w er e1 s1
      cases r1 with
      | lst s rs => exact ⟨_, rfl, ⟨_, (show LRd X.K L1 H1 _ _ from .inl s).sq⟩, loop_list e1 (.inl s) rs w1⟩
      | scr s rs => exact ⟨_, rfl, ⟨_, (show LRd X.K L1 H1 _ _ from .inr s).sq⟩, loop_list e1 (.inr s) rs w1⟩
      | _ => exact w1.elim
theorem loop_tup {T : List Nat} {g : MG} {m : MS} {D : Ends} {a : Addr} {xs : List V} {ps : List PV} {L : Addr → Prop} {H : Hp} {σ : St} {ρ : Ev} (er : EnvR X.K L H σ ρ) (hl : At L H a (.tup xs) ∨ KTup X.K a xs) (hx : RepAll X.K L H xs ps) (w : Post X E D σ ρ L H (loopF g m ps ρ)) :
    ∃ W : Nat → Nat → St → Hp → Prop, (∃ m, W 0 m σ H) ∧ ∀ i n σ H, W i n σ H →
      ((Itt X.K a).stop i H ∧ D.nx σ H) ∨ ((Itt X.K a).go i H ∧ ∃ N : St → Hp → Prop, (∀ σ' H', N σ' H' → ∃ m', m' < n ∧ W (i + 1) m' σ' H') ∧ ∀ x H', (Itt X.K a).yld i H x H' → SndG X T g x σ H' fun σ2 H2 => SndS X E m { D with nx := N, ct := N, bk := D.nx } σ2 H2) := by
  refine for_tup (xs := xs) (fun i σ H => ∃ L ρ, EnvR X.K L H σ ρ ∧ (At L H a (.tup xs) ∨ KTup X.K a xs) ∧ RepAll X.K L H xs ps ∧ Post X E D σ ρ L H (loopF g m (ps.drop i) ρ)) ⟨L, ρ, er, hl, hx, w⟩ (fun _ _ _ _ ⟨_, _, _, z, _⟩ => sq_of z) ?_ ?_
  · rintro i x σ H hi ⟨L, ρ, er, hl, hx, w⟩
    obtain ⟨p, hp, rp⟩ := hx.get hi
    rw [drop_at hp] at w
    exact turn_of er rp w fun σ' H' L' ρ' e' k w' => ⟨L', ρ', e', hl.imp (k.tup _ _) id, hx.keep k, w'⟩
  · rintro σ H ⟨L, ρ, er, hl, hx, w⟩
    rw [hx.length, List.drop_length] at w
    exact w σ H L er .refl
theorem snd_forT {T : List Nat} {iter tg : Expr} {mi : ME} {g : MG} {m : MS} (hp : PassesOwn (model X.prog X.w) X.A X.env X.xe) (hc : X.calm = true) (hi : PE X iter (Snd X (cE E) mi)) (hg : PG X tg (SndG X T g)) (hb : PSs X body (SndS X E m)) (hfs : ∀ v, foldedSetIterable iter X.env v = pure v := by intro _; rfl) : PS X (.For tg iter body [] pos) (SndS X E (mForT mi g m)) :=
  PS.imp (ps_for hp hc (pi_tup hi) hg hb hfs) fun D σ H ⟨L, ρ, er, w⟩ => by
    refine ⟨L, ρ, er, ?_⟩
    unfold mForT at w
    cases q : mi ρ with
    | bad => rw [q] at w; exact w
    | err c xs => rw [q] at w; exact w
    | ok r =>
      obtain ⟨p, ρ1⟩ := r
      rw [q] at w
      simp only [Res.ok_bind] at w
      intro v H1 L1 e1 s1 r1
      have w1 := Post.after w er e1 s1
      cases r1 with
      | tup s rs => exact ⟨_, rfl, ⟨_, sq_of s⟩, loop_tup e1 s rs w1⟩
      | _ => exact w1.elim
/-- for .. in range(n) -/
def mForR (mi : MA) (g : MG) (m : MS) : MS := fun ρ => do
  let (ks, ρ1) ← mi ρ
  match ks with
  | [.val (.int n)] => if -(2 ^ 62) ≤ n ∧ n < 2 ^ 62 then loopF g m ((List.range n.toNat).map fun (i : Nat) => PV.int i) ρ1 else .bad
  | _ => .bad
theorem snd_forR {T : List Nat} {tg : Expr} {mi : MA} {g : MG} {m : MS} {p pos2 : Pos} (hp : PassesOwn (model X.prog X.w) X.A X.env X.xe) (hc : X.calm = true) (hgl : Gl X "range") (hm : X.mg "range" = none) (ha : PA X [a] (SndA X (cE E) mi)) (hg : PG X tg (SndG X T g)) (hb : PSs X body (SndS X E m))
    (hs : starEach [a] X.env = [(false, eval a X.env)] := by rfl) : PS X (.For tg (.Call (.Name "range" p) [a] [] pos2) body [] pos) (SndS X E (mForR mi g m)) :=
  PS.imp (ps_for hp hc (pi_range1 hgl hm ha hs) hg hb) fun D σ H ⟨L, ρ, er, w⟩ => by
    refine ⟨L, ρ, er, ?_⟩
    unfold mForR at w
    cases q : mi ρ with
    | bad => rw [q] at w; exact w
    | err c xs => rw [q] at w; exact w
    | ok r =>
      obtain ⟨ks, ρ1⟩ := r
      rw [q] at w
      simp only [Res.ok_bind] at w
      intro vs H1 L1 e1 s1 r1
      have w1 := Post.after w er e1 s1
      cases r1 with
      | nil => exact w1.elim
      | @cons v vs k ks r rs =>
        cases k with
        | «at» i => exact w1.elim
        | val pv =>
          have r : Rep X.K L1 H1 v pv := r
          cases rs with
          | cons _ _ => cases pv <;> exact w1.elim
          | nil =>
            cases r with
            | int n =>
              simp only at w1
              by_cases z : -(2 ^ 62) ≤ n ∧ n < 2 ^ 62
              · rw [if_pos z] at w1
                refine ⟨n, rfl, z.1, z.2, for_range (fun i σ H => ∃ L ρ, EnvR X.K L H σ ρ ∧ Post X E D σ ρ L H (loopF g m (((List.range n.toNat).map fun (i : Nat) => PV.int i).drop i) ρ)) ⟨L1, ρ1, e1, w1⟩ ?_ ?_⟩
                · rintro i σ H hi ⟨L, ρ, er, w⟩
                  rw [drop_at (p := PV.int i) (by simp [hi])] at w
                  rw [Int.zero_add]
                  exact turn_of er (.int _) w fun σ' H' L' ρ' e' k w' => ⟨L', ρ', e', w'⟩
                · rintro σ H ⟨L, ρ, er, w⟩
                  have z2 : ((List.range n.toNat).map fun (i : Nat) => PV.int i).length = n.toNat := by simp
                  rw [List.drop_of_length_le (by rw [z2]; exact Nat.le_refl _)] at w
                  exact w σ H L er .refl
              · rw [if_neg z] at w1; exact w1.elim
            | _ => exact w1.elim
end
end PL
/-! PL7: defs and calls. -/
namespace PL
open PySem PySem.Spec L2

inductive Ag where
  | pv (p : PV) | own (o : Own)
abbrev Fn := List Ag → Res (Rv × List Own)
inductive ArgR (K : PySem.W.Frag) (L : Addr → Prop) (H : Hp) : List V → List Ag → Prop
  | nil : ArgR K L H [] []
  | pv {v : V} {vs : List V} {p : PV} {as : List Ag} : Rep K L H v p → ArgR K L H vs as → ArgR K L H (v :: vs) (.pv p :: as)
  | own {a : Addr} {vs : List V} {o : Own} {as : List Ag} : L a → RepO K L H o a → ArgR K L H vs as → ArgR K L H (.ref a :: vs) (.own o :: as)
inductive OutR (K : PySem.W.Frag) (L : Addr → Prop) (H : Hp) : List V → List Ag → List Own → Prop
  | nil : OutR K L H [] [] []
  | pv {v : V} {vs : List V} {p : PV} {as : List Ag} {os : List Own} : OutR K L H vs as os → OutR K L H (v :: vs) (.pv p :: as) os
  | own {a : Addr} {vs : List V} {o o' : Own} {as : List Ag} {os : List Own} : L a → RepO K L H o' a → OutR K L H vs as os → OutR K L H (.ref a :: vs) (.own o :: as) (o' :: os)
/-- the addresses of the containers that are handed on -/
def ownAd : List V → List Ag → List Addr
  | .ref a :: vs, .own _ :: as => a :: ownAd vs as
  | _ :: vs, _ :: as => ownAd vs as
  | _, _ => []
def RvF (K : PySem.W.Frag) (H : Hp) (L' : Addr → Prop) (H' : Hp) (v : V) : Rv → Prop
  | .pv p => Rep K L' H' v p
  | .own o => ∃ a, v = .ref a ∧ L' a ∧ RepO K L' H' o a ∧ H a = none
def ExtF (vs : List V) (as : List Ag) (L : Addr → Prop) (H : Hp) (L' : Addr → Prop) (H' : Hp) : Prop := ∀ a u, H a = some u → a ∉ ownAd vs as → H' a = some u ∧ (L a ↔ L' a)
def PostF (K : PySem.W.Frag) (mg : Str → Option Value) (vs : List V) (as : List Ag) (L : Addr → Prop) (H : Hp) (Q : VK) (E : XK) : Res (Rv × List Own) → Prop
  | .ok (r, os) => ∀ v H' L', ExtF vs as L H L' H' → (∀ a, L' a → H' a ≠ none) → OutR K L' H' vs as os → RvF K H L' H' v r → Q v H'
  | .err c xs => ∀ cls d H' L', ExtF vs as L H L' H' → (∀ a, L' a → H' a ≠ none) → XR K mg L' c xs cls d H' → E cls d H'
  | .bad => False
def SpF (K : PySem.W.Frag) (mg : Str → Option Value) (n : Nat) (f : Fn) : Sp := fun vs H Q E => vs.length = n ∧ ∃ L as, ArgR K L H vs as ∧ (ownAd vs as).Nodup ∧ (∀ a, L a → H a ≠ none) ∧ PostF K mg vs as L H Q E (f as)

/-! ### a def by its body -/
def toSl : Ag → Sl
  | .pv p => .pv p
  | .own o => .own true o
def outs : List Ag → Ev → List Own
  | .own _ :: as, .own _ o :: ρ => o :: outs as ρ
  | .pv _ :: as, _ :: ρ => outs as ρ
  | _, _ => []
def startE (n : Nat) (as : List Ag) : Ev := as.map toSl ++ List.replicate (n - as.length) .no
def endF (as : List Ag) : Res (Fl × Ev) → Res (Rv × List Own)
  | .ok (.nx, ρ') => .ok (.pv .non, outs as ρ')
  | .ok (.rt r, ρ') => .ok (r, outs as ρ')
  | .ok _ => .bad
  | .err c xs => .err c xs
  | .bad => .bad
def fnBody (n : Nat) (m : MS) : Fn := fun as => endF as (m (startE n as))
section
variable {K : PySem.W.Frag} {L L' : Addr → Prop} {H H' : Hp} {σ : St} {ρ ρ' : Ev}
theorem ArgR.length : ∀ {vs : List V} {as : List Ag}, ArgR K L H vs as → vs.length = as.length
  | _, _, .nil => rfl
  | _, _, .pv _ t => by simp [ArgR.length t]
  | _, _, .own _ _ t => by simp [ArgR.length t]
theorem ArgR.gpv : ∀ {vs : List V} {as : List Ag} {i : Nat} {p : PV}, ArgR K L H vs as → as[i]? = some (.pv p) → ∃ v, vs[i]? = some v ∧ Rep K L H v p
  | _, _, _, _, .nil, e => by simp at e
  | _, _, 0, _, .pv r t, e => by simp at e; subst e; exact ⟨_, rfl, r⟩
  | _, _, i + 1, _, .pv r t, e => by simpa using ArgR.gpv t (by simpa using e)
  | _, _, 0, _, .own _ _ t, e => by simp at e
  | _, _, i + 1, _, .own _ _ t, e => by simpa using ArgR.gpv t (by simpa using e)
theorem ArgR.gown : ∀ {vs : List V} {as : List Ag} {i : Nat} {o : Own}, ArgR K L H vs as → as[i]? = some (.own o) → ∃ a, vs[i]? = some (V.ref a) ∧ L a ∧ RepO K L H o a ∧ a ∈ ownAd vs as
  | _, _, _, _, .nil, e => by simp at e
  | _, _, 0, _, .pv r t, e => by simp at e
  | _, _, i + 1, _, .pv (v := v) r t, e => by
    obtain ⟨a, h1, h2, h3, h4⟩ := ArgR.gown t (by simpa using e)
    refine ⟨a, by simpa using h1, h2, h3, ?_⟩
    cases v <;> exact h4
  | _, _, 0, _, .own l r t, e => by simp at e; subst e; exact ⟨_, rfl, l, r, List.mem_cons_self ..⟩
  | _, _, i + 1, _, .own _ _ t, e => by
    obtain ⟨a, h1, h2, h3, h4⟩ := ArgR.gown t (by simpa using e)
    exact ⟨a, by simpa using h1, h2, h3, List.mem_cons_of_mem _ h4⟩
theorem ownAd_mem : ∀ {vs : List V} {as : List Ag} {a : Addr}, a ∈ ownAd vs as → ∃ (i : Nat) (o : Own), as[i]? = some (.own o) ∧ vs[i]? = some (V.ref a)
  | [], _, _, h => by simp [ownAd] at h
  | _ :: _, [], a, h => by simp [ownAd] at h
  | v :: vs, .pv p :: as, a, h => by
    have h' : a ∈ ownAd vs as := by cases v <;> exact h
    obtain ⟨i, o, h1, h2⟩ := ownAd_mem h'
    exact ⟨i + 1, o, by simpa using h1, by simpa using h2⟩
  | v :: vs, .own o :: as, a, h => by
    have key : a ∈ ownAd vs as → ∃ (i : Nat) (o' : Own), (Ag.own o :: as)[i]? = some (.own o') ∧ (v :: vs)[i]? = some (V.ref a) := fun h => by
      obtain ⟨i, o, h1, h2⟩ := ownAd_mem h
      exact ⟨i + 1, o, by simpa using h1, by simpa using h2⟩
    cases v with
    | ref b =>
      rcases List.mem_cons.mp (show a ∈ b :: ownAd vs as from h) with rfl | h
      · exact ⟨0, o, rfl, rfl⟩
      · exact key h
    | _ => exact key h
theorem ownAd_ne : ∀ {vs : List V} {as : List Ag} {i j : Nat} {a : Addr} {o o' : Own}, ArgR K L H vs as → (ownAd vs as).Nodup → as[i]? = some (.own o) → as[j]? = some (.own o') → vs[i]? = some (V.ref a) → vs[j]? = some (V.ref a) → i = j
  | _, _, _, _, _, _, _, .nil, _, e, _, _, _ => by simp at e
  | _, _, i, j, a, o, o', .pv (v := v) (vs := vs) (as := as) r t, nd, e1, e2, s1, s2 => by
    have nd' : (ownAd vs as).Nodup := by cases v <;> exact nd
    cases i with
    | zero => simp at e1
    | succ i =>
      cases j with
      | zero => simp at e2
      | succ j => exact congrArg (· + 1) (ownAd_ne t nd' (by simpa using e1) (by simpa using e2) (by simpa using s1) (by simpa using s2))
  | _, _, i, j, a, o, o', .own (a := b) (vs := vs) (as := as) l r t, nd, e1, e2, s1, s2 => by
    have nd' := List.nodup_cons.mp (show (b :: ownAd vs as).Nodup from nd)
    have out : ∀ {k : Nat} {o2 : Own}, as[k]? = some (.own o2) → vs[k]? = some (V.ref b) → False := fun {k o2} h1 h2 => by
      obtain ⟨a', g1, _, _, g4⟩ := ArgR.gown t h1
      rw [h2] at g1; cases g1
      exact nd'.1 g4
    cases i with
    | zero =>
      cases j with
      | zero => rfl
      | succ j =>
        simp at s1; subst s1
        exact (out (by simpa using e2) (by simpa using s2)).elim
    | succ i =>
      cases j with
      | zero =>
        simp at s2; subst s2
        exact (out (by simpa using e1) (by simpa using s1)).elim
      | succ j => exact congrArg (· + 1) (ownAd_ne t nd'.2 (by simpa using e1) (by simpa using e2) (by simpa using s1) (by simpa using s2))
theorem startE_get {n : Nat} {as : List Ag} {i : Nat} {s : Sl} (h : (startE n as)[i]? = some s) : (∃ a, as[i]? = some a ∧ s = toSl a) ∨ s = .no := by
  unfold startE at h
  by_cases hi : i < as.length
  · rw [List.getElem?_append_left (by simpa using hi), List.getElem?_map] at h
    obtain ⟨a, h1, h2⟩ := Option.map_eq_some_iff.mp h
    exact .inl ⟨a, h1, h2.symm⟩
  · rw [List.getElem?_append_right (by simpa using hi), List.getElem?_replicate] at h
    split at h
    · cases h; exact .inr rfl
    · cases h
theorem start_get {N : List Str} {vs : List V} {i : Nat} {v : V} (h : vs[i]? = some v) : (L2.start N vs)[i]? = some (some v) := by
  unfold L2.start
  have hi : i < vs.length := (List.getElem?_eq_some_iff.mp h).1
  rw [List.getElem?_append_left (by simpa using hi), List.getElem?_map, h]; rfl
theorem env_start {N : List Str} {vs : List V} {as : List Ag} (r : ArgR K L H vs as) (nd : (ownAd vs as).Nodup) (l : ∀ a, L a → H a ≠ none) (hn : vs.length ≤ N.length) : EnvR K L H (L2.start N vs) (startE N.length as) where
  len := by
    unfold L2.start startE
    rw [List.length_append, List.length_append, List.length_map, List.length_map, List.length_replicate, List.length_replicate, r.length]
  pvs := fun i p h => by
    rcases startE_get h with ⟨a, h1, h2⟩ | h
    · cases a with
      | pv q =>
        have h2 : Sl.pv p = Sl.pv q := h2
        cases h2
        obtain ⟨v, g1, g2⟩ := r.gpv h1
        exact ⟨v, start_get g1, g2⟩
      | own o => cases h2
    · cases h
  own := fun i b o h => by
    rcases startE_get h with ⟨a, h1, h2⟩ | h
    · cases a with
      | pv q => cases h2
      | own o' =>
        cases h2
        obtain ⟨a, g1, g2, g3, _⟩ := r.gown h1
        exact ⟨a, start_get g1, g2, g3⟩
    · cases h
  dis := fun i j b b' o o' a h1 h2 s1 s2 => by
    rcases startE_get h1 with ⟨x, e1, f1⟩ | h
    · rcases startE_get h2 with ⟨y, e2, f2⟩ | h
      · cases x with
        | pv q => cases f1
        | own p1 =>
          cases y with
          | pv q => cases f2
          | own p2 =>
            obtain ⟨a1, g1, _⟩ := r.gown e1
            obtain ⟨a2, g2, _⟩ := r.gown e2
            have z1 := start_get (N := N) g1
            have z2 := start_get (N := N) g2
            rw [s1] at z1; cases z1
            rw [s2] at z2; cases z2
            exact ownAd_ne r nd e1 e2 g1 g2
      · cases h
    · cases h
  liv := l
theorem oa_start {N : List Str} {vs : List V} {as : List Ag} {a : Addr} (r : ArgR K L H vs as) (h : OA (L2.start N vs) (startE N.length as) a) : a ∈ ownAd vs as := by
  obtain ⟨i, b, o, h1, h2⟩ := h
  rcases startE_get h1 with ⟨x, e1, f1⟩ | h
  · cases x with
    | pv q => cases f1
    | own p1 =>
      obtain ⟨a1, g1, _, _, g4⟩ := r.gown e1
      have z1 := start_get (N := N) g1
      rw [h2] at z1; cases z1
      exact g4
  · cases h
/-- what the callee leaves of its containers -/
theorem outs_of : ∀ {vs : List V} {as : List Ag} {σ' : St} {ρ' : Ev}, ArgR K L H vs as → (∀ (i : Nat) (o : Own), as[i]? = some (.own o) → σ'[i]? = (vs.map some)[i]? ∧ ∃ o', ρ'[i]? = some (Sl.own true o')) →
    (∀ (i : Nat) (b : Bool) (o : Own), ρ'[i]? = some (Sl.own b o) → ∃ a, σ'[i]? = some (some (V.ref a)) ∧ L' a ∧ RepO K L' H' o a) → as.length ≤ ρ'.length → OutR K L' H' vs as (outs as ρ')
  | _, _, _, _, .nil, _, _, _ => by
    unfold outs
    exact .nil
  | _, _, σ', ρ', .pv (p := p0) (vs := vs) (as := as) r t, hp, ho, hl => by
    cases ρ' with
    | nil => simp at hl
    | cons s ρ' =>
      have z : outs (Ag.pv p0 :: as) (s :: ρ') = outs as ρ' := by cases s <;> rfl
      rw [z]
      refine .pv (outs_of (σ' := σ'.tail) t (fun i o h => ?_) (fun i b o h => ?_) (by simpa using hl))
      · obtain ⟨h1, h2⟩ := hp (i + 1) o (by simpa using h)
        exact ⟨by simpa [List.getElem?_tail] using h1, by simpa using h2⟩
      · simpa [List.getElem?_tail] using ho (i + 1) b o (by simpa using h)
  | _, _, σ', ρ', .own (a := a) (vs := vs) (o := o0) (as := as) l r t, hp, ho, hl => by
    obtain ⟨h1, o', h2⟩ := hp 0 o0 rfl
    cases ρ' with
    | nil => simp at hl
    | cons s ρ' =>
      simp at h2; subst h2
      obtain ⟨a', g1, g2, g3⟩ := ho 0 true o' rfl
      rw [h1] at g1
      have g1 : some (some (V.ref a)) = some (some (V.ref a')) := g1
      cases g1
      have z : outs (Ag.own o0 :: as) (Sl.own true o' :: ρ') = o' :: outs as ρ' := rfl
      rw [z]
      refine .own g2 g3 (outs_of (σ' := σ'.tail) t (fun i o h => ?_) (fun i b o h => ?_) (by simpa using hl))
      · obtain ⟨h1, h2⟩ := hp (i + 1) o (by simpa using h)
        exact ⟨by simpa [List.getElem?_tail] using h1, by simpa using h2⟩
      · simpa [List.getElem?_tail] using ho (i + 1) b o (by simpa using h)
end
/-- the body's reading from the promise -/
theorem pure_body {X : Cx} {E : XK} {N : List Str} {n : Nat} {m : MS} {vs : List V} {H : Hp} {Q : VK} (hn : n ≤ N.length) (h : SpF X.K X.mg n (fnBody N.length m) vs H Q E) :
    SndS X E m { nx := fun _ H' => Q .non H', rt := Q } (L2.start N vs) H := by
  obtain ⟨hl, L, as, r, nd, l, w⟩ := h
  have er := env_start (N := N) r nd l (by rw [hl]; exact hn)
  refine ⟨L, startE N.length as, er, ?_⟩
  unfold fnBody at w
  have ext : ∀ {L' : Addr → Prop} {H' : Hp}, Ext (L2.start N vs) (startE N.length as) L H L' H' → ExtF vs as L H L' H' := fun x a u q hn => x a u q fun z => hn (oa_start r z)
  have out : ∀ {σ' : St} {ρ' : Ev} {L' : Addr → Prop} {H' : Hp}, EnvR X.K L' H' σ' ρ' → Stp (L2.start N vs) (startE N.length as) L H σ' ρ' L' H' → OutR X.K L' H' vs as (outs as ρ') := fun {σ' ρ' L' H'} e s => by
    have sz : ∀ {i : Nat} {o : Own}, as[i]? = some (.own o) → (startE N.length as)[i]? = some (Sl.own true o) := fun {i o} h => by
      unfold startE
      have hi : i < as.length := (List.getElem?_eq_some_iff.mp h).1
      rw [List.getElem?_append_left (by simpa using hi), List.getElem?_map, h]; rfl
    have hz : as.length ≤ ρ'.length := by
      rw [s.len]
      unfold startE
      rw [List.length_append, List.length_map]
      exact Nat.le_add_right _ _
    refine outs_of r (fun i o h => ?_) e.own hz
    obtain ⟨h1, h2⟩ := s.pin i o (sz h)
    obtain ⟨a, g1, _⟩ := r.gown h
    have g2 := start_get (N := N) g1
    refine ⟨?_, h2⟩
    rw [h1, g2, List.getElem?_map, g1]; rfl
  cases q : m (startE N.length as) with
  | bad => rw [q] at w; exact w
  | err c xs =>
    rw [q] at w
    exact fun cls d H' L' x l' xr => w cls d H' L' (ext x) l' xr
  | ok p =>
    obtain ⟨f, ρ'⟩ := p
    rw [q] at w
    cases f with
    | nx => exact fun σ' H' L' e s => w .non H' L' (ext s.ext) e.liv (out e s) .non
    | bk => exact w.elim
    | ct => exact w.elim
    | rt rv =>
      refine fun v σ' H' L' e s rr => w v H' L' (ext s.ext) e.liv (out e s) ?_
      cases rv with
      | pv p => exact rr
      | own o =>
        obtain ⟨a, h1, h2, h3, h4⟩ := rr
        refine ⟨a, h1, h2, h3, h4.elim id fun ⟨i, o', g1, _⟩ => ?_⟩
        rcases startE_get g1 with ⟨x, e1, f1⟩ | h
        · cases x with
          | pv q => cases f1
          | own p1 => cases f1
        · cases h
end PL
/-! PL8: calls of defs. -/
namespace PL
open PySem PySem.Spec L2

def toAg : Pk → Ev → Option Ag
  | .val p, _ => some (.pv p)
  | .at i, ρ => match ρ[i]? with
    | some (.pv p) => some (.pv p)
    | some (.own _ o) => some (.own o)
    | _ => none
def toAgs : List Pk → Ev → Option (List Ag)
  | [], _ => some []
  | k :: ks, ρ => match toAg k ρ, toAgs ks ρ with
    | some a, some as => some (a :: as)
    | _, _ => none
def ownIx : List Pk → Ev → List Nat
  | [], _ => []
  | .val _ :: ks, ρ => ownIx ks ρ
  | .at i :: ks, ρ => match ρ[i]? with
    | some (.own _ _) => i :: ownIx ks ρ
    | _ => ownIx ks ρ
def setO (ρ : Ev) (z : Nat × Own) : Ev := match ρ[z.1]? with
  | some (.own b _) => ρ.set z.1 (.own b z.2)
  | _ => ρ
def updO (zs : List (Nat × Own)) (ρ : Ev) : Ev := zs.foldl setO ρ
theorem setO_len (ρ : Ev) (z : Nat × Own) : (setO ρ z).length = ρ.length := by
  unfold setO; split <;> simp
theorem updO_len : ∀ (zs : List (Nat × Own)) (ρ : Ev), (updO zs ρ).length = ρ.length
  | [], _ => rfl
  | z :: zs, ρ => (updO_len zs (setO ρ z)).trans (setO_len ρ z)
theorem setO_ne {ρ : Ev} {z : Nat × Own} {j : Nat} (h : j ≠ z.1) : (setO ρ z)[j]? = ρ[j]? := by
  unfold setO; split
  · rw [List.getElem?_set_ne (Ne.symm h)]
  · rfl
theorem setO_eq {ρ : Ev} {i : Nat} {o o0 : Own} {b : Bool} (h : ρ[i]? = some (Sl.own b o0)) : (setO ρ (i, o))[i]? = some (Sl.own b o) := by
  have hi : i < ρ.length := (List.getElem?_eq_some_iff.mp h).1
  unfold setO
  simp only [h]
  rw [List.getElem?_set_self hi]
theorem updO_out : ∀ {zs : List (Nat × Own)} {ρ : Ev} {j : Nat}, (∀ o, (j, o) ∉ zs) → (updO zs ρ)[j]? = ρ[j]?
  | [], _, _, _ => rfl
  | z :: zs, ρ, j, h => by
    have e : j ≠ z.1 := fun e => h z.2 (by rw [e]; exact List.mem_cons_self ..)
    exact (updO_out (ρ := setO ρ z) fun o ho => h o (List.mem_cons_of_mem _ ho)).trans (setO_ne e)
theorem updO_in : ∀ {zs : List (Nat × Own)} {ρ : Ev} {j : Nat} {o o0 : Own} {b : Bool}, (zs.map (·.1)).Nodup → (j, o) ∈ zs → ρ[j]? = some (Sl.own b o0) → (updO zs ρ)[j]? = some (Sl.own b o)
  | [], _, _, _, _, _, _, h, _ => absurd h (by simp)
  | z :: zs, ρ, j, o, o0, b, nd, h, e => by
    have nd' := List.nodup_cons.mp (show (z.1 :: zs.map (·.1)).Nodup from nd)
    rcases List.mem_cons.mp h with rfl | h
    · have z1 := setO_eq (o := o) e
      refine (updO_out (ρ := setO ρ (j, o)) fun o' ho => nd'.1 (List.mem_map.mpr ⟨_, ho, rfl⟩)).trans z1
    · have ne : j ≠ z.1 := fun e => nd'.1 (List.mem_map.mpr ⟨(j, o), h, e⟩)
      exact updO_in (ρ := setO ρ z) nd'.2 h ((setO_ne ne).trans e)
section
variable {K : PySem.W.Frag} {L L' : Addr → Prop} {H H' : Hp} {σ : St} {ρ : Ev}
theorem args_of : ∀ {vs : List V} {ks : List Pk} {as : List Ag}, EnvR K L H σ ρ → PkRs K L H σ vs ks → toAgs ks ρ = some as →
    ArgR K L H vs as ∧ (∀ a, a ∈ ownAd vs as → ∃ (i : Nat) (b : Bool) (o : Own), i ∈ ownIx ks ρ ∧ ρ[i]? = some (Sl.own b o) ∧ σ[i]? = some (some (V.ref a))) ∧ ((ownIx ks ρ).Nodup → (ownAd vs as).Nodup)
  | _, _, _, er, .nil, e => by cases e; exact ⟨.nil, fun a h => absurd h (by simp [ownAd]), fun _ => List.nodup_nil⟩
  | _, _, as, er, .cons (v := v) (vs := vs) (k := k) (ks := ks) r t, e => by
    unfold toAgs at e
    cases q1 : toAg k ρ with
    | none => rw [q1] at e; cases e
    | some a0 =>
      rw [q1] at e
      cases q2 : toAgs ks ρ with
      | none => rw [q2] at e; cases e
      | some as0 =>
        rw [q2] at e
        cases e
        obtain ⟨h1, h2, h3⟩ := args_of er t q2
        cases k with
        | val p =>
          cases q1
          have z : ownAd (v :: vs) (Ag.pv p :: as0) = ownAd vs as0 := by cases v <;> rfl
          rw [z]
          exact ⟨.pv r h1, h2, h3⟩
        | «at» i =>
          have r : σ[i]? = some (some v) := r
          unfold toAg at q1
          cases q : ρ[i]? with
          | none => simp only [q] at q1; cases q1
          | some s =>
            cases s with
            | no => simp only [q] at q1; cases q1
            | pv p =>
              simp only [q] at q1
              cases q1
              obtain ⟨w, g1, g2⟩ := er.pvs i p q
              rw [r] at g1; cases g1
              have z : ownAd (v :: vs) (Ag.pv p :: as0) = ownAd vs as0 := by cases v <;> rfl
              have z2 : ownIx (.at i :: ks) ρ = ownIx ks ρ := by simp only [ownIx, q]
              rw [z, z2]
              exact ⟨.pv g2 h1, h2, h3⟩
            | own b o =>
              simp only [q] at q1
              cases q1
              obtain ⟨a, g1, g2, g3⟩ := er.own i b o q
              rw [r] at g1; cases g1
              have z2 : ownIx (.at i :: ks) ρ = i :: ownIx ks ρ := by simp only [ownIx, q]
              rw [z2]
              refine ⟨.own g2 g3 h1, fun a' h => ?_, fun nd => ?_⟩
              · rcases List.mem_cons.mp (show a' ∈ a :: ownAd vs as0 from h) with rfl | h
                · exact ⟨i, b, o, List.mem_cons_self .., q, r⟩
                · obtain ⟨j, b', o', f1, f2, f3⟩ := h2 a' h
                  exact ⟨j, b', o', List.mem_cons_of_mem _ f1, f2, f3⟩
              · have nd' := List.nodup_cons.mp nd
                refine List.nodup_cons.mpr ⟨fun h => ?_, h3 nd'.2⟩
                obtain ⟨j, b', o', f1, f2, f3⟩ := h2 a h
                have := er.dis i j b b' o o' a q f2 r f3
                subst this
                exact nd'.1 f1
theorem outs_zip : ∀ {vs : List V} {ks : List Pk} {as : List Ag} {os : List Own}, PkRs K L H σ vs ks → toAgs ks ρ = some as → OutR K L' H' vs as os →
    (ownIx ks ρ).length = os.length ∧ ∀ i o, (i, o) ∈ (ownIx ks ρ).zip os → (∃ b o0, ρ[i]? = some (Sl.own b o0)) ∧ ∃ a, σ[i]? = some (some (V.ref a)) ∧ L' a ∧ RepO K L' H' o a
  | _, _, _, os, .nil, e, h => by cases e; cases h; exact ⟨rfl, fun i o h => absurd h (by simp [ownIx])⟩
  | _, _, as, os, .cons (v := v) (vs := vs) (k := k) (ks := ks) r t, e, h => by
    unfold toAgs at e
    cases q1 : toAg k ρ with
    | none => rw [q1] at e; cases e
    | some a0 =>
      rw [q1] at e
      cases q2 : toAgs ks ρ with
      | none => rw [q2] at e; cases e
      | some as0 =>
        rw [q2] at e
        cases e
        cases k with
        | val p =>
          cases q1
          have z2 : ownIx (.val p :: ks) ρ = ownIx ks ρ := rfl
          rw [z2]
          cases h with
          | pv h => exact outs_zip t q2 h
        | «at» i =>
          have r : σ[i]? = some (some v) := r
          unfold toAg at q1
          cases q : ρ[i]? with
          | none => simp only [q] at q1; cases q1
          | some s =>
            cases s with
            | no => simp only [q] at q1; cases q1
            | pv p =>
              simp only [q] at q1
              cases q1
              have z2 : ownIx (.at i :: ks) ρ = ownIx ks ρ := by simp only [ownIx, q]
              rw [z2]
              cases h with
              | pv h => exact outs_zip t q2 h
            | own b o =>
              simp only [q] at q1
              cases q1
              have z2 : ownIx (.at i :: ks) ρ = i :: ownIx ks ρ := by simp only [ownIx, q]
              rw [z2]
              cases h with
              | own g1 g2 h =>
                obtain ⟨f1, f2⟩ := outs_zip t q2 h
                refine ⟨by simp [f1], fun j o2 hj => ?_⟩
                rcases List.mem_cons.mp (show (j, o2) ∈ (i, _) :: (ownIx ks ρ).zip _ from hj) with e | hj
                · cases e; exact ⟨⟨b, o, q⟩, _, r, g1, g2⟩
                · exact f2 j o2 hj
/-- behind a call -/
theorem env_called {vs : List V} {ks : List Pk} {as : List Ag} {os : List Own} (er : EnvR K L H σ ρ) (r : PkRs K L H σ vs ks) (e : toAgs ks ρ = some as) (nd : (ownIx ks ρ).Nodup) (x : ExtF vs as L H L' H') (l' : ∀ a, L' a → H' a ≠ none) (h : OutR K L' H' vs as os) :
    EnvR K L' H' σ (updO ((ownIx ks ρ).zip os) ρ) ∧ Stp σ ρ L H σ (updO ((ownIx ks ρ).zip os) ρ) L' H' := by
  obtain ⟨h1, h2, h3⟩ := args_of er r e
  obtain ⟨f1, f2⟩ := outs_zip (ρ := ρ) r e h
  have ndz : (((ownIx ks ρ).zip os).map (·.1)).Nodup := by rw [List.map_fst_zip (by omega)]; exact nd
  have notL : ∀ {a : Addr}, ¬ L a → a ∉ ownAd vs as := fun {a} hn h => by
    obtain ⟨i, b, o, _, g2, g3⟩ := h2 a h
    exact hn (er.oaL ⟨i, b, o, g2, g3⟩)
  have kk : Keeps L H L' H' := .of fun a u q n => by
    obtain ⟨z1, z2⟩ := x a u q (notL n)
    exact ⟨z1, fun z => n (z2.mpr z)⟩
  have cases_ : ∀ j, (∃ o b o0, (j, o) ∈ (ownIx ks ρ).zip os ∧ ρ[j]? = some (Sl.own b o0) ∧ (updO ((ownIx ks ρ).zip os) ρ)[j]? = some (Sl.own b o)) ∨ ((∀ o, (j, o) ∉ (ownIx ks ρ).zip os) ∧ (updO ((ownIx ks ρ).zip os) ρ)[j]? = ρ[j]?) := fun j => by
    by_cases q : ∃ o, (j, o) ∈ (ownIx ks ρ).zip os
    · obtain ⟨o, q⟩ := q
      obtain ⟨⟨b, o0, q1⟩, _⟩ := f2 j o q
      exact .inl ⟨o, b, o0, q, q1, updO_in ndz q q1⟩
    · have q' : ∀ o, (j, o) ∉ (ownIx ks ρ).zip os := fun o h => q ⟨o, h⟩
      exact .inr ⟨q', updO_out q'⟩
  have back : ∀ {j : Nat} {b : Bool} {o : Own}, (updO ((ownIx ks ρ).zip os) ρ)[j]? = some (Sl.own b o) → ∃ o0, ρ[j]? = some (Sl.own b o0) := fun {j b o} q => by
    rcases cases_ j with ⟨o1, b1, o2, _, g2, g3⟩ | ⟨_, g⟩
    · rw [q] at g3; cases g3; exact ⟨_, g2⟩
    · rw [g] at q; exact ⟨_, q⟩
  have mem : ∀ {j : Nat}, j ∈ ownIx ks ρ → ∃ o, (j, o) ∈ (ownIx ks ρ).zip os := fun {j} hj => by
    obtain ⟨n, hn, e⟩ := List.mem_iff_getElem.mp hj
    have hn2 : n < os.length := by omega
    refine ⟨os[n], List.mem_iff_getElem.mpr ⟨n, by rw [List.length_zip]; omega, ?_⟩⟩
    rw [List.getElem_zip, e]
  refine ⟨⟨by rw [updO_len]; exact er.len, fun j p q => ?_, fun j b o q => ?_, fun i j b b' o o' a q1 q2 s1 s2 => ?_, l'⟩, ⟨fun a u q n => ?_, fun a q => ?_, fun j o q => ?_, updO_len _ _⟩⟩
  · rcases cases_ j with ⟨o1, b1, o2, _, g2, g3⟩ | ⟨_, g⟩
    · rw [q] at g3; cases g3
    · rw [g] at q
      obtain ⟨v, z1, z2⟩ := er.pvs j p q
      exact ⟨v, z1, z2.keep kk⟩
  · rcases cases_ j with ⟨o1, b1, o2, g1, g2, g3⟩ | ⟨g0, g⟩
    · rw [q] at g3; cases g3
      exact (f2 j _ g1).2
    · rw [g] at q
      obtain ⟨a, z1, z2, z3⟩ := er.own j b o q
      have na : a ∉ ownAd vs as := fun h => by
        obtain ⟨i, b', o', y1, y2, y3⟩ := h2 a h
        have := er.dis i j b' b o' o a y2 q y3 z1
        subst this
        obtain ⟨o3, y4⟩ := mem y1
        exact g0 o3 y4
      obtain ⟨u, hu⟩ := z3.there
      obtain ⟨y1, y2⟩ := x a u hu na
      exact ⟨a, z1, y2.mp z2, z3.keep kk (y1.trans hu.symm)⟩
  · obtain ⟨o0, q1⟩ := back q1
    obtain ⟨o0', q2⟩ := back q2
    exact er.dis i j b b' o0 o0' a q1 q2 s1 s2
  · exact x a u q fun h => by
      obtain ⟨i, b', o', y1, y2, y3⟩ := h2 a h
      exact n ⟨i, b', o', y2, y3⟩
  · obtain ⟨i, b, o, y1, y2⟩ := q
    obtain ⟨o0, y3⟩ := back y1
    exact .inl ⟨i, b, o0, y3, y2⟩
  · refine ⟨rfl, ?_⟩
    rcases cases_ j with ⟨o1, b1, o2, g1, g2, g3⟩ | ⟨g0, g⟩
    · rw [q] at g2; cases g2; exact ⟨_, g3⟩
    · exact ⟨o, g.trans q⟩
end
/-- a reading whose value may be a container of one's own -/
abbrev MC := Ev → Res (Rv × Ev)
def SndC (X : Cx) (E : St → XK) (m : MC) : TE := fun σ H Q => ∃ L ρ, EnvR X.K L H σ ρ ∧
  match m ρ with
  | .ok (r, ρ') => ∀ v H' L', EnvR X.K L' H' σ ρ' → Stp σ ρ L H σ ρ' L' H' → RvR X.K σ ρ H L' H' v r → (∀ a, v = .ref a → (∃ o, r = .own o) → ∀ (j : Nat) (b : Bool) (o' : Own), ρ'[j]? = some (Sl.own b o') → σ[j]? ≠ some (some (V.ref a))) → Q v H'
  | .err c xs => Fails X E σ ρ L H c xs
  | .bad => False
def goCall (n : Nat) (f : Fn) (ks : List Pk) (ρ1 : Ev) : Res (Rv × Ev) := do
  let as ← Res.of (toAgs ks ρ1)
  if (ownIx ks ρ1).Nodup ∧ as.length = n then do
    let (r, os) ← f as
    .ok (r, updO ((ownIx ks ρ1).zip os) ρ1)
  else .bad
def mCall (n : Nat) (f : Fn) (ma : MA) : MC := fun ρ => do
  let (ks, ρ1) ← ma ρ
  goCall n f ks ρ1
section
variable {X : Cx} {E : XK} {E' : St → XK} {k : Nat} {f C : Addr} {fd : FuncData} {ps : List Str} {fn : Fn} {x m : Str} {p pos apos : Pos} {e o : Expr} {es : List Expr} {ma : MA}
/-- from the operands to the promise -/
theorem sp_of {n : Nat} {σ : St} {H H1 : Hp} {L L1 : Addr → Prop} {ρ ρ1 : Ev} {ks : List Pk} {vs : List V} {Q : VK} (e1 : EnvR X.K L1 H1 σ ρ1) (s1 : Stp σ ρ L H σ ρ1 L1 H1) (er : EnvR X.K L H σ ρ) (r1 : PkRs X.K L1 H1 σ vs ks)
    (w : match goCall n fn ks ρ1 with
      | .ok (r, ρ') => ∀ v H' L', EnvR X.K L' H' σ ρ' → Stp σ ρ L H σ ρ' L' H' → RvR X.K σ ρ H L' H' v r → (∀ a, v = .ref a → (∃ o, r = .own o) → ∀ (j : Nat) (b : Bool) (o' : Own), ρ'[j]? = some (Sl.own b o') → σ[j]? ≠ some (some (V.ref a))) → Q v H'
      | .err c xs => Fails X E' σ ρ L H c xs
      | .bad => False) : SpF X.K X.mg n fn vs H1 Q (E' σ) := by
  unfold goCall at w
  cases g : toAgs ks ρ1 with
  | none => rw [g] at w; exact w.elim
  | some as =>
    rw [g] at w
    simp only [Res.of_some, Res.ok_bind] at w
    by_cases nn : (ownIx ks ρ1).Nodup ∧ as.length = n
    · rw [if_pos nn] at w
      have nd := nn.1
      obtain ⟨h1, h2, h3⟩ := args_of e1 r1 g
      refine ⟨?_, L1, as, h1, h3 nd, e1.liv, ?_⟩
      · rw [h1.length]
        exact nn.2
      · cases q : fn as with
        | bad => rw [q] at w; exact w
        | err c xs =>
          rw [q] at w
          have w' := Fails.after w s1
          intro cls d H' L' x l' xr
          refine w' cls d H' L' (fun a u hu hn => x a u hu fun h => ?_) l' xr
          obtain ⟨i, b', o', y1, y2, y3⟩ := h2 a h
          exact hn ⟨i, b', o', y2, y3⟩
        | ok r =>
          obtain ⟨r, os⟩ := r
          rw [q] at w
          simp only [Res.ok_bind] at w
          intro v H' L' x l' ho hr
          obtain ⟨e2, s2⟩ := env_called e1 r1 g nd x l' ho
          refine w v H' L' e2 (s1.trans s2) ?_ ?_
          · cases r with
            | pv p => exact hr
            | own o =>
              obtain ⟨a, z1, z2, z3, z4⟩ := hr
              exact RvR.back er e1 s1 ⟨a, z1, z2, z3, .inl z4⟩
          · rintro a rfl ⟨o, rfl⟩ j b o' hj hs
            obtain ⟨a', z1, z2, z3, z4⟩ := hr
            cases z1
            rcases s2.oa a ⟨j, b, o', hj, hs⟩ with h | h
            · exact e1.liv a (e1.oaL h) z4
            · obtain ⟨i0, b0, o0, _⟩ : ∃ (i0 : Nat) (b0 : Bool) (o0 : Own), ρ1[i0]? = some (Sl.own b0 o0) ∧ σ[i0]? = some (some (V.ref a)) := by
                -- a slot that is a container's now was one before
                have z := e2.own j b o' hj
                have hl := s2.len
                by_cases y : ∃ (b0 : Bool) (o0 : Own), ρ1[j]? = some (Sl.own b0 o0)
                · obtain ⟨b0, o0, y⟩ := y; exact ⟨j, b0, o0, y, hs⟩
                · exfalso
                  have := (outs_zip (ρ := ρ1) r1 g ho).2
                  by_cases q5 : ∃ o5, (j, o5) ∈ (ownIx ks ρ1).zip os
                  · obtain ⟨o5, q5⟩ := q5
                    obtain ⟨⟨b6, o6, q6⟩, _⟩ := this j o5 q5
                    exact y ⟨b6, o6, q6⟩
                  · rw [updO_out fun o h => q5 ⟨o, h⟩] at hj
                    exact y ⟨b, o', hj⟩
              rename_i y1
              obtain ⟨a2, w1, w2, _⟩ := e1.own i0 b0 o0 y1.1
              rw [y1.2] at w1; cases w1
              exact e1.liv a w2 z4
    · rw [if_neg nn] at w; exact w.elim
end
end PL
/-! PL9: calls as values and statements, fields, stores. -/
namespace PL
open PySem PySem.Spec L2
section
variable {K : PySem.W.Frag} {L L' : Addr → Prop} {H H' : Hp} {σ : St} {ρ ρ' : Ev}
/-- a container of one's own is written -/
theorem EnvR.mut {i : Nat} {b : Bool} {o o' : Own} {a : Addr} {u : HO} (er : EnvR K L H σ ρ) (h : ρ[i]? = some (Sl.own b o)) (ha : σ[i]? = some (some (V.ref a))) (hu : Keeps L H L (upd H a u) → RepO K L (upd H a u) o' a) :
    EnvR K L (upd H a u) σ (ρ.set i (.own b o')) ∧ Stp σ ρ L H σ (ρ.set i (.own b o')) L (upd H a u) := by
  obtain ⟨a', h1, la, h3⟩ := er.own i b o h
  rw [ha] at h1; cases h1
  have hi : i < ρ.length := (List.getElem?_eq_some_iff.mp h).1
  have kk : Keeps L H L (upd H a u) := .of fun x w q n => ⟨(upd_ne fun z => n (by rw [z]; exact la)).trans q, n⟩
  have other : ∀ {j : Nat} {s : Sl}, j ≠ i → (ρ.set i (.own b o'))[j]? = some s → ρ[j]? = some s := fun {j s} e q => by
    rw [List.getElem?_set_ne (Ne.symm e)] at q; exact q
  have was : ∀ {j : Nat} {c : Bool} {o2 : Own}, (ρ.set i (.own b o'))[j]? = some (Sl.own c o2) → ∃ o3, ρ[j]? = some (Sl.own c o3) := fun {j c o2} q => by
    by_cases e : j = i
    · subst e
      rw [List.getElem?_set_self hi] at q; cases q; exact ⟨_, h⟩
    · exact ⟨_, other e q⟩
  refine ⟨⟨by rw [List.length_set]; exact er.len, fun j p q => ?_, fun j c o2 q => ?_, fun j k c c' o1 o2 x q1 q2 s1 s2 => ?_, fun x l => ?_⟩, ⟨fun x w q n => ⟨(upd_ne fun z => n ⟨i, b, o, h, by rw [z]; exact ha⟩).trans q, Iff.rfl⟩, fun x ⟨j, c, o2, q, s⟩ => ?_, fun j o2 q => ?_, List.length_set⟩⟩
  · by_cases e : j = i
    · subst e
      rw [List.getElem?_set_self hi] at q; cases q
    · obtain ⟨v, z1, z2⟩ := er.pvs j p (other e q)
      exact ⟨v, z1, z2.keep kk⟩
  · by_cases e : j = i
    · subst e
      rw [List.getElem?_set_self hi] at q; cases q
      exact ⟨a, ha, la, hu kk⟩
    · have q' := other e q
      obtain ⟨a2, z1, z2, z3⟩ := er.own j c o2 q'
      have ne : a2 ≠ a := fun z => e (er.dis j i c b o2 o a q' h (by rw [← z]; exact z1) ha)
      exact ⟨a2, z1, z2, z3.keep kk (upd_ne ne)⟩
  · obtain ⟨o3, q1⟩ := was q1
    obtain ⟨o4, q2⟩ := was q2
    exact er.dis j k c c' o3 o4 x q1 q2 s1 s2
  · by_cases e : x = a
    · rw [e, upd_same]; simp
    · rw [upd_ne e]; exact er.liv x l
  · obtain ⟨o3, q⟩ := was q
    exact .inl ⟨j, c, o3, q, s⟩
  · refine ⟨rfl, ?_⟩
    by_cases e : j = i
    · subst e
      rw [h] at q; cases q
      exact ⟨o', by rw [List.getElem?_set_self hi]⟩
    · exact ⟨o2, by rw [List.getElem?_set_ne (Ne.symm e)]; exact q⟩
/-- what came as one's own is let be a value -/
theorem own_val {σ0 : St} {ρ0 : Ev} {L0 : Addr → Prop} {H0 : Hp} {v : V} {o : Own} {p : PV} (er : EnvR K L H σ ρ) (s : Stp σ0 ρ0 L0 H0 σ ρ L H) (r : RvR K σ0 ρ0 H0 L H v (.own o)) (nf : ∀ a, v = .ref a → ∀ (j : Nat) (b : Bool) (o' : Own), ρ[j]? = some (Sl.own b o') → σ[j]? ≠ some (some (V.ref a))) (hp : o.pv = some p) :
    ∃ L', EnvR K L' H σ ρ ∧ Stp σ0 ρ0 L0 H0 σ ρ L' H ∧ Rep K L' H v p := by
  obtain ⟨a, rfl, la, ro, fr⟩ := r
  have kk : Keeps L H (fun b => L b ∧ b ≠ a) H := .of fun b u q n => ⟨q, fun z => n z.1⟩
  refine ⟨fun b => L b ∧ b ≠ a, ⟨er.len, fun j q h => ?_, fun j b o' h => ?_, er.dis, fun b z => er.liv b z.1⟩, ⟨fun x u q n => ?_, s.oa, s.pin, s.len⟩, ?_⟩
  · obtain ⟨w, z1, z2⟩ := er.pvs j q h
    exact ⟨w, z1, z2.keep kk⟩
  · obtain ⟨a2, z1, z2, z3⟩ := er.own j b o' h
    exact ⟨a2, z1, ⟨z2, fun z => nf a rfl j b o' h (by rw [← z]; exact z1)⟩, z3.keep kk rfl⟩
  · obtain ⟨z1, z2⟩ := s.ext x u q n
    refine ⟨z1, fun z => ⟨z2.mp z, fun e => ?_⟩, fun z => z2.mpr z.1⟩
    subst e
    rcases fr with f | ⟨i, o', f1, f2⟩
    · rw [q] at f; cases f
    · exact n ⟨i, false, o', f1, f2⟩
  · cases o with
    | lst ps => cases hp; obtain ⟨xs, q, r⟩ := ro; exact .lst ⟨q, fun z => z.2 rfl⟩ (r.keep kk)
    | dct ps => cases hp; obtain ⟨xs, q, r⟩ := ro; exact .dct ⟨.inl q, fun z => z.2 rfl⟩ (r.keep kk)
    | ins C ps => cases hp
end
section
variable {X : Cx} {E : XK} {E' : St → XK} {k : Nat} {f C : Addr} {fd : FuncData} {ps : List Str} {fn : Fn} {x m : Str} {p pos apos : Pos} {e o : Expr} {es : List Expr} {ma : MA} {mc : MC}
/-! ### calls -/
theorem snd_call {n : Nat} (F : FnOk X.prog X.w X.K X.mg X.base (L2.CX X.prog X.w) k f fd ps (SpF X.K X.mg n fn)) (hr : Room k X.A) (hg : Gl X x) (hm : X.mg x = some (.ref f)) (hk : PySem.W.keepIn X.K (.ref f) = true) (hb : Binds X.K fd ps [])
    (tk : Takes X (fun cls d σ H => E' σ cls d H)) (ha : PA X (e :: es) (SndA X E' ma)) (hdb : (x == ("__debug__" : Str)) = false := by decide) (he : starEach (e :: es) X.env = (false, eval e X.env) :: starEach es X.env := by rfl) (hpl : (backTo pos (starEach es X.env)).any (·.1) = false := by rfl) :
    PE X (.Call (.Name x p) (e :: es) [] pos) (SndC X E' (mCall n fn ma)) :=
  PE.imp (pe_callS (E := E') F hr hg hm hk hb (fun σ => passAt tk σ) ha hdb he hpl) fun σ H Q ⟨L, ρ, er, w⟩ => by
    refine ⟨L, ρ, er, ?_⟩
    unfold mCall at w
    cases q : ma ρ with
    | bad => rw [q] at w; exact w
    | err c xs => rw [q] at w; exact w
    | ok r =>
      obtain ⟨ks, ρ1⟩ := r
      rw [q] at w
      simp only [Res.ok_bind] at w
      exact fun vs H1 L1 e1 s1 r1 => sp_of e1 s1 er r1 w
theorem snd_call0 {n : Nat} (F : FnOk X.prog X.w X.K X.mg X.base (L2.CX X.prog X.w) k f fd ps (SpF X.K X.mg n fn)) (hr : Room k X.A) (hg : Gl X x) (hm : X.mg x = some (.ref f)) (hk : PySem.W.keepIn X.K (.ref f) = true) (hb : Binds X.K fd ps [])
    (tk : Takes X (fun cls d σ H => E' σ cls d H)) (hdb : (x == ("__debug__" : Str)) = false := by decide) :
    PE X (.Call (.Name x p) [] [] pos) (SndC X E' (mCall n fn toA0)) := by
  refine ⟨fun pins s σ H Q I ⟨L, ρ, er, w⟩ => ?_⟩
  refine wpAny_Call_Name_kw (ld_glob I hg hm ?_ hdb)
  refine PySem.W.callWith_K0 I.kIn hk (run_fnS (us := []) (vs := []) F hr hb (passAt tk σ) I .nil ?_)
  exact sp_of er .refl er .nil w
/-- o.m(e, ..) -/
def insAt (C : Addr) (nm : Str) : Pk → Ev → Bool
  | .at i, ρ => match ρ[i]? with
    | some (.own _ (.ins C' fs)) => decide (C' = C) && (fs.lookup nm).isNone
    | _ => false
  | .val _, _ => false
theorem insAt_of {C : Addr} {nm : Str} {k : Pk} {ρ : Ev} (h : insAt C nm k ρ = true) : ∃ i b fs, k = .at i ∧ ρ[i]? = some (Sl.own b (.ins C fs)) ∧ fs.lookup nm = none := by
  cases k with
  | val p => cases h
  | «at» i =>
    have h : (match ρ[i]? with
      | some (.own _ (.ins C' fs)) => decide (C' = C) && (fs.lookup nm).isNone
      | _ => false) = true := h
    split at h
    · rename_i b C' fs q
      rw [Bool.and_eq_true] at h
      obtain rfl := of_decide_eq_true h.1
      exact ⟨i, b, fs, rfl, q, Option.isNone_iff_eq_none.mp h.2⟩
    · cases h
def okIf (b : Bool) : Res Unit := if b then .ok () else .bad
def mMeth (C : Addr) (n : Nat) (nm : Str) (fn : Fn) (mo : MP) (ma : MA) : MC := fun ρ => do
  let (k, ρ1) ← mo ρ
  let _ ← okIf (insAt C nm k ρ1)
  let (ks, ρ2) ← ma ρ1
  goCall n fn (k :: ks) ρ2
theorem RepF.none {K : PySem.W.Frag} {L : Addr → Prop} {H : Hp} {nm : Str} : ∀ {fs : List (Str × V)} {l : List (Str × PV)}, RepF K L H fs l → l.lookup nm = none → fs.lookup nm = none
  | _, _, .nil, _ => rfl
  | _, _, .cons (k := k) r t, h => by
    rw [List.lookup_cons] at h ⊢
    cases q : nm == k with
    | true => rw [q] at h; cases h
    | false => rw [q] at h; exact RepF.none t h
theorem RepF.some {K : PySem.W.Frag} {L : Addr → Prop} {H : Hp} {nm : Str} {p : PV} : ∀ {fs : List (Str × V)} {l : List (Str × PV)}, RepF K L H fs l → l.lookup nm = some p → ∃ v, fs.lookup nm = some v ∧ Rep K L H v p
  | _, _, .nil, h => by cases h
  | _, _, .cons (k := k) r t, h => by
    rw [List.lookup_cons] at h ⊢
    cases q : nm == k with
    | true => rw [q] at h; cases h; exact ⟨_, rfl, r⟩
    | false => rw [q] at h; exact RepF.some t h
theorem meth_of {n : Nat} {mo : MP} {σ : St} {H : Hp} {Q : VK} (h : SndC X (cE E) (mMeth C n m fn mo ma) σ H Q) : tMeth C m (SpF X.K X.mg n fn) [] E (SndP X (cE E) mo) (SndA X (cE E) ma) σ H Q := by
  obtain ⟨L, ρ, er, w⟩ := h
  refine ⟨L, ρ, er, ?_⟩
  unfold mMeth at w
  cases q : mo ρ with
  | bad => rw [q] at w; exact w
  | err c xs => rw [q] at w; exact w
  | ok r =>
    obtain ⟨k, ρ1⟩ := r
    rw [q] at w
    simp only [Res.ok_bind] at w
    intro v H1 L1 e1 s1 r1
    cases hi : insAt C m k ρ1 with
    | false => rw [hi] at w; exact w.elim
    | true =>
      rw [hi] at w
      obtain ⟨i, b, fs, rfl, g, hl⟩ := insAt_of hi
      simp only [okIf, if_true, Res.ok_bind] at w
      obtain ⟨a, z1, z2, dx, vs0, z3, z4⟩ := e1.own i b _ g
      have r1 : σ[i]? = some (some v) := r1
      rw [z1] at r1; cases r1
      refine ⟨a, dx, vs0, rfl, z3, z4.none hl, L1, ρ1, e1, ?_⟩
      cases q2 : ma ρ1 with
      | bad => rw [q2] at w; exact w
      | err c xs => rw [q2] at w; exact Fails.after w s1
      | ok r =>
        obtain ⟨ks, ρ2⟩ := r
        rw [q2] at w
        simp only [Res.ok_bind] at w
        intro vs H2 L2 e2 s2 r2
        have z := sp_of (E' := cE E) (vs := V.ref a :: vs) (ks := .at i :: ks) e2 (s1.trans s2) er (.cons z1 r2) w
        rw [List.append_nil]
        exact z
theorem snd_meth {n : Nat} {pl : Sem Bool} {mo : MP} (he : PE X o (SndP X (cE E) mo)) (c : Cls X.K C) (hm : Meth X.K C m f) (F : FnOk X.prog X.w X.K X.mg X.base (L2.CX X.prog X.w) k f fd ps (SpF X.K X.mg n fn)) (hr : Room k X.A) (hb : Binds X.K fd ps []) (tk : Takes X (fun cls d _ H => E cls d H)) (ha : PA X (e :: es) (SndA X (cE E) ma))
    (hst : starEach (e :: es) X.env = (false, eval e X.env) :: starEach es X.env := by rfl) (hpl : (backTo pos (starEach es X.env)).any (·.1) = false := by rfl)
    (ht : eval (.Call (.Attribute o m apos) (e :: es) [] pos) X.env = (do
      let ov ← eval o X.env
      standAt apos.atName
      let (f, first) ← holding [ov] (getMethod ov m pl)
      callWith pos f first (backTo pos (starEach (e :: es) X.env)) (backToKw pos (keywordEach [] X.env))) := by rfl) :
    PE X (.Call (.Attribute o m apos) (e :: es) [] pos) (SndC X (cE E) (mMeth C n m fn mo ma)) :=
  PE.imp (pe_meth he c hm F hr hb .nil (passes_call tk fun _ _ _ _ h => h) ha hst hpl ht) fun _ _ _ => meth_of
theorem snd_meth0 {n : Nat} {pl : Sem Bool} {mo : MP} (he : PE X o (SndP X (cE E) mo)) (c : Cls X.K C) (hm : Meth X.K C m f) (F : FnOk X.prog X.w X.K X.mg X.base (L2.CX X.prog X.w) k f fd ps (SpF X.K X.mg n fn)) (hr : Room k X.A) (hb : Binds X.K fd ps []) (tk : Takes X (fun cls d _ H => E cls d H))
    (ht : eval (.Call (.Attribute o m apos) [] [] pos) X.env = (do
      let ov ← eval o X.env
      standAt apos.atName
      let (f, first) ← holding [ov] (getMethod ov m pl)
      callWith pos f first (backTo pos (starEach [] X.env)) (backToKw pos (keywordEach [] X.env))) := by rfl) :
    PE X (.Call (.Attribute o m apos) [] [] pos) (SndC X (cE E) (mMeth C n m fn mo toA0)) :=
  PE.imp (pe_meth0 he c hm F hr hb .nil (passes_call tk fun _ _ _ _ h => h) ht) fun σ H Q w => by
    obtain ⟨L, ρ, er, h⟩ := meth_of w
    refine ⟨L, ρ, er, ?_⟩
    cases q : mo ρ with
    | bad => rw [q] at h; exact h
    | err c xs => rw [q] at h; exact h
    | ok r =>
      obtain ⟨k, ρ1⟩ := r
      rw [q] at h
      intro v H1 L1 e1 s1 r1
      obtain ⟨a, dx, fs, h1, h2, h3, L2, ρ2, e2, h4⟩ := h v H1 L1 e1 s1 r1
      exact ⟨a, dx, fs, h1, h2, h3, h4 _ _ L2 e2 .refl .nil⟩
/-! ### what a call gives, as a value, into a slot, handed back -/
def mV (m : MC) : ME := fun ρ => do
  let (r, ρ1) ← m ρ
  match r with
  | .pv p => .ok (p, ρ1)
  | .own o => do let p ← Res.of o.pv; .ok (p, ρ1)
theorem snd_v (h : PE X e (SndC X E' mc)) : PE X e (Snd X E' (mV mc)) := PE.imp h fun σ H Q ⟨L, ρ, er, w⟩ => by
  refine ⟨L, ρ, er, ?_⟩
  unfold mV at w
  cases q : mc ρ with
  | bad => rw [q] at w; exact w
  | err c xs => rw [q] at w; exact w
  | ok r =>
    obtain ⟨r, ρ1⟩ := r
    rw [q] at w
    simp only [Res.ok_bind] at w
    intro v H1 L1 e1 s1 r1 nf
    cases r with
    | pv p => exact w v H1 L1 e1 s1 r1
    | own o =>
      simp only at w
      cases g : o.pv with
      | none => rw [g] at w; exact w.elim
      | some p =>
        rw [g] at w
        obtain ⟨L2, e2, s2, r2⟩ := own_val e1 s1 r1 (fun a ha => nf a ha ⟨o, rfl⟩) g
        exact w v H1 L2 e2 s2 r2
def mRetC (m : MC) : MS := fun ρ => do let (r, ρ1) ← m ρ; .ok (.rt r, ρ1)
theorem snd_retC (h : PE X e (SndC X (cE E) mc)) : PS X (.Return (some e) pos) (SndS X E (mRetC mc)) := PS.imp (ps_ret h) fun D σ H ⟨L, ρ, er, w⟩ => by
  refine ⟨L, ρ, er, ?_⟩
  unfold mRetC at w
  cases q : mc ρ with
  | bad => rw [q] at w; exact w
  | err c xs => rw [q] at w; exact w
  | ok r =>
    obtain ⟨r, ρ1⟩ := r
    rw [q] at w
    exact fun v H1 L1 e1 s1 r1 nf => w v σ H1 L1 e1 s1 r1
def mDropC (m : MC) : MS := fun ρ => do let (_, ρ1) ← m ρ; .ok (.nx, ρ1)
theorem snd_dropC (h : PE X e (SndC X (cE E) mc)) (hs : swapsWith e none pos.line X.env = pure false := by rfl) : PS X (.Expr e pos) (SndS X E (mDropC mc)) := PS.imp (ps_expr h hs) fun D σ H ⟨L, ρ, er, w⟩ => by
  refine ⟨L, ρ, er, ?_⟩
  unfold mDropC at w
  cases q : mc ρ with
  | bad => rw [q] at w; exact w
  | err c xs => rw [q] at w; exact w
  | ok r =>
    obtain ⟨r, ρ1⟩ := r
    rw [q] at w
    exact fun v H1 L1 e1 s1 r1 nf => w σ H1 L1 e1 s1
def gR (i : Nat) (r : Rv) (ρ : Ev) : Option Ev := match r with
  | .pv p => gN i p ρ
  | .own o => gO i o ρ
def mSetC (i : Nat) (m : MC) : MS := fun ρ => do let (r, ρ1) ← m ρ; let ρ2 ← Res.of (gR i r ρ1); .ok (.nx, ρ2)
theorem snd_setC {i : Nat} {y : Str} {pos' : Pos} (hN : X.N.Nodup) (hi : X.N[i]? = some y) (hx : Loc X.env.scope y) (h : PE X e (SndC X (cE E) mc)) (hs : swapsWith e (some (.Name y pos')) pos.line X.env = pure false := by rfl) (hf : X.fn y = true ∨ X.env.scope.names.lookup y = some .local := by first | exact .inl rfl | exact .inr rfl | assumption) :
    PS X (.Assign [.Name y pos'] e pos) (SndS X E (mSetC i mc)) := PS.imp (ps_set hN hi hx h hs hf) fun D σ H ⟨L, ρ, er, w⟩ => by
  refine ⟨L, ρ, er, ?_⟩
  unfold mSetC at w
  cases q : mc ρ with
  | bad => rw [q] at w; exact w
  | err c xs => rw [q] at w; exact w
  | ok r =>
    obtain ⟨r, ρ1⟩ := r
    rw [q] at w
    simp only [Res.ok_bind] at w
    intro v H1 L1 e1 s1 r1 nf
    cases g : gR i r ρ1 with
    | none => rw [g] at w; exact w.elim
    | some ρ2 =>
      rw [g] at w
      have w : ∀ σ' H' L', EnvR X.K L' H' σ' ρ2 → Stp σ ρ L H σ' ρ2 L' H' → D.nx σ' H' := w
      cases r with
      | pv p =>
        obtain ⟨e2, s2⟩ := e1.put (show Rep X.K L1 H1 v p from r1) g
        exact w _ H1 L1 e2 (s1.trans s2)
      | own o =>
        obtain ⟨a, rfl, la, ro, fr⟩ := r1
        obtain ⟨e2, pn, ln, oa⟩ := e1.putO la ro (nf a rfl ⟨o, rfl⟩) g
        refine w _ H1 L1 e2 ⟨s1.ext, fun z hz => ?_, fun j o' hj => ?_, ln.trans s1.len⟩
        · rcases oa z hz with h | h
          · exact s1.oa z h
          · subst h
            rcases fr with f | ⟨i, o', f1, f2⟩
            · exact .inr f
            · exact .inl ⟨i, false, o', f1, f2⟩
        · obtain ⟨y1, o1, y2⟩ := s1.pin j o' hj
          obtain ⟨y3, o2, y4⟩ := pn j o1 y2
          exact ⟨y3.trans y1, o2, y4⟩
/-! ### C(e, ..) -/
def mMake (C : Addr) (n : Nat) (fn : Fn) (ma : MA) : MC := fun ρ => do
  let (ks, ρ1) ← ma ρ
  let ps ← Res.of (getAll ks ρ1)
  if ps.length + 1 = n then do
    let (r, os) ← fn (.own (.ins C []) :: ps.map .pv)
    match r, os with
    | .pv .non, [o] => .ok (.own o, ρ1)
    | _, _ => .bad
  else .bad
theorem ArgR.vals {K : PySem.W.Frag} {L : Addr → Prop} {H : Hp} : ∀ {vs : List V} {ps : List PV}, RepAll K L H vs ps → ArgR K L H vs (ps.map .pv) ∧ ownAd vs (ps.map .pv) = [] ∧ ∀ {L' : Addr → Prop} {H' : Hp} {os : List Own}, OutR K L' H' vs (ps.map .pv) os → os = []
  | _, _, .nil => ⟨.nil, rfl, fun h => by cases h; rfl⟩
  | _, _, .cons (v := v) r t => by
    obtain ⟨h1, h2, h3⟩ := ArgR.vals t
    refine ⟨.pv r h1, ?_, fun h => by cases h with | pv h => exact h3 h⟩
    rw [← h2]; cases v <;> rfl
theorem snd_make {n : Nat} (M : Mk X.K C f) (F : FnOk X.prog X.w X.K X.mg X.base (L2.CX X.prog X.w) k f fd ps (SpF X.K X.mg n fn)) (hr : Room (k + 1) X.A) (hg : Gl X x) (hm : X.mg x = some (.ref C)) (hb : Binds X.K fd ps []) (tk : Takes X (fun cls d _ H => E cls d H))
    (ha : PA X (e :: es) (SndA X (cE E) ma)) (hdb : (x == ("__debug__" : Str)) = false := by decide) (he : starEach (e :: es) X.env = (false, eval e X.env) :: starEach es X.env := by rfl) (hpl : (backTo pos (starEach es X.env)).any (·.1) = false := by rfl) :
    PE X (.Call (.Name x p) (e :: es) [] pos) (SndC X (cE E) (mMake C n fn ma)) :=
  PE.imp (pe_make M F hr hg hm hb .nil (passes_call tk fun _ _ _ _ h => h) ha hdb he hpl) fun σ H Q ⟨L, ρ, er, w⟩ => by
    refine ⟨L, ρ, er, ?_⟩
    unfold mMake at w
    cases q : ma ρ with
    | bad => rw [q] at w; exact w
    | err c xs => rw [q] at w; exact w
    | ok r =>
      obtain ⟨ks, ρ1⟩ := r
      rw [q] at w
      simp only [Res.ok_bind] at w
      intro vs H1 L1 e1 s1 r1
      cases g : getAll ks ρ1 with
      | none => rw [g] at w; exact w.elim
      | some pv =>
        rw [g] at w
        simp only [Res.of_some, Res.ok_bind] at w
        have rr := r1.reps g
        by_cases hl : pv.length + 1 = n
        · rw [if_pos hl] at w
          intro y dx hy hdx hne
          have hy2 : upd H1 dx (.own y) y = none := (upd_ne (Ne.symm hne)).trans hy
          have ea : EnvR X.K (Ad L1 y) (upd (upd H1 dx (.own y)) y (.ins C dx [])) σ ρ1 := env_new (e1.alc (.upd hdx)) hy2
          have kk : Keeps L1 H1 (Ad L1 y) (upd (upd H1 dx (.own y)) y (.ins C dx [])) := (Keeps.alc (.upd hdx)).trans (keeps_new (K := X.K) hy2)
          obtain ⟨a1, a2, a3⟩ := ArgR.vals (rr.keep kk)
          have oad : ownAd (V.ref y :: vs) (Ag.own (.ins C []) :: pv.map .pv) = [y] := by
            show y :: ownAd vs (pv.map .pv) = [y]
            rw [a2]
          rw [List.append_nil]
          refine ⟨by rw [List.length_cons, rr.length]; exact hl, Ad L1 y, .own (.ins C []) :: pv.map .pv, .own (.inr rfl) ⟨dx, [], upd_same, .nil⟩ a1, by rw [oad]; simp, ea.liv, ?_⟩
          have alc : Alc H1 (upd (upd H1 dx (.own y)) y (.ins C dx [])) := fun a u h => Alc.upd hy2 a u (Alc.upd hdx a u h)
          have fwd : ∀ {L' : Addr → Prop} {H' : Hp}, ExtF (V.ref y :: vs) (Ag.own (.ins C []) :: pv.map .pv) (Ad L1 y) (upd (upd H1 dx (.own y)) y (.ins C dx [])) L' H' → ∀ a u, H1 a = some u → H' a = some u ∧ (L1 a ↔ L' a) := fun {L' H'} x a u h => by
            have ne : a ≠ y := fun z => by rw [z, hy] at h; cases h
            obtain ⟨z1, z2⟩ := x a u (alc a u h) (by rw [oad]; simpa using ne)
            exact ⟨z1, fun z => z2.mp (.inl z), fun z => (z2.mpr z).elim id fun z => absurd z ne⟩
          cases q2 : fn (.own (.ins C []) :: pv.map .pv) with
          | bad => rw [q2] at w; exact w
          | err c xs =>
            rw [q2] at w
            have w' := Fails.after w s1
            exact fun cls d H' L' x l' xr => w' cls d H' L' (fun a u h _ => fwd x a u h) l' xr
          | ok r =>
            obtain ⟨r, os⟩ := r
            rw [q2] at w
            simp only [Res.ok_bind] at w
            intro v H' L' x l' ho hr'
            cases ho with
            | own o1 o2 o3 =>
              rename_i o' os'
              obtain rfl := a3 o3
              cases r with
              | own o => exact w.elim
              | pv rp =>
                cases rp with
                | non =>
                  have hr' : Rep X.K L' H' v .non := hr'
                  cases hr'
                  have kp : Keeps L1 H1 L' H' := .of fun a u h n => let z := fwd x a u h; ⟨z.1, fun y => n (z.2.mpr y)⟩
                  have e2 : EnvR X.K L' H' σ ρ1 := {
                    len := e1.len
                    pvs := fun i p h => let ⟨v, z1, z2⟩ := e1.pvs i p h; ⟨v, z1, z2.keep kp⟩
                    own := fun i b o h => by
                      obtain ⟨a, z1, z2, z3⟩ := e1.own i b o h
                      obtain ⟨u, hu⟩ := z3.there
                      obtain ⟨z4, z5⟩ := fwd x a u hu
                      exact ⟨a, z1, z5.mp z2, z3.keep kp (z4.trans hu.symm)⟩
                    dis := e1.dis
                    liv := l' }
                  have s2 : Stp σ ρ1 L1 H1 σ ρ1 L' H' := ⟨fun a u h _ => fwd x a u h, fun _ h => .inl h, fun _ o h => ⟨rfl, o, h⟩, rfl⟩
                  refine ⟨rfl, w (.ref y) H' L' e2 (s1.trans s2) ⟨y, rfl, o1, o2, Fr.back er e1 s1 (.inl hy)⟩ ?_⟩
                  rintro a ha _ j b o'' hj hs
                  cases ha
                  obtain ⟨a', z1, z2, _⟩ := e1.own j b o'' hj
                  rw [hs] at z1; cases z1
                  exact e1.liv _ z2 hy
                | _ => exact w.elim
        · rw [if_neg hl] at w; exact w.elim
end
end PL
/-! PL10: fields, stores into lists and dicts, append, extend, slices, texts, built-in functions. -/
namespace PL
open PySem PySem.Spec L2
section
variable {X : Cx} {E : XK} {E' : St → XK} {C : Addr} {x f : Str} {p pos pos' apos cpos tpos : Pos} {e o a b value : Expr} {es rest : List Expr} {ma : MA} {mp mq : MP} {me : ME}
/-! ### fields -/
def fldOf (C : Addr) (f : Str) : Pk → Ev → Option PV
  | .at i, ρ => match ρ[i]? with
    | some (.own _ (.ins C' fs)) => if C' = C then fs.lookup f else none
    | _ => none
  | .val _, _ => none
theorem fldOf_of {C : Addr} {f : Str} {k : Pk} {ρ : Ev} {q : PV} (h : fldOf C f k ρ = some q) : ∃ i b fs, k = .at i ∧ ρ[i]? = some (Sl.own b (.ins C fs)) ∧ fs.lookup f = some q := by
  cases k with
  | val p => cases h
  | «at» i =>
    have h : (match ρ[i]? with
      | some (.own _ (.ins C' fs)) => if C' = C then fs.lookup f else none
      | _ => none) = some q := h
    split at h
    · rename_i b C' fs g
      split at h
      · rename_i z; subst z; exact ⟨i, b, fs, rfl, g, by assumption⟩
      · cases h
    · cases h
def mFld (C : Addr) (f : Str) (m : MP) : ME := fun ρ => do
  let (k, ρ1) ← m ρ
  let q ← Res.of (fldOf C f k ρ1)
  .ok (q, ρ1)
theorem snd_fld (c : Cls X.K C) (n : NoAttr X.K C f) (he : PE X e (SndP X E' mp)) (hb : attributeBase e f X.env (eval e X.env) = eval e X.env) : PE X (.Attribute e f pos) (Snd X E' (mFld C f mp)) :=
  PE.imp (pe_fld he hb) fun σ H Q ⟨L, ρ, er, w⟩ => by
    refine ⟨L, ρ, er, ?_⟩
    unfold mFld at w
    cases q : mp ρ with
    | bad => rw [q] at w; exact w
    | err c xs => rw [q] at w; exact w
    | ok r =>
      obtain ⟨k, ρ1⟩ := r
      rw [q] at w
      simp only [Res.ok_bind] at w
      intro v H1 L1 e1 s1 r1
      cases g : fldOf C f k ρ1 with
      | none => rw [g] at w; exact w.elim
      | some z =>
        rw [g] at w
        obtain ⟨i, b, fs, rfl, h1, h2⟩ := fldOf_of g
        obtain ⟨a, z1, z2, dx, vs, z3, z4⟩ := e1.own i b _ h1
        have r1 : σ[i]? = some (some v) := r1
        rw [z1] at r1; cases r1
        obtain ⟨u, y1, y2⟩ := z4.some h2
        exact ⟨a, C, dx, vs, u, rfl, z3, c, n, y1, w u H1 L1 e1 s1 y2⟩
def putP (f : Str) (v : PV) : List (Str × PV) → List (Str × PV)
  | [] => [(f, v)]
  | (g, x) :: r => if g = f then (g, v) :: r else (g, x) :: putP f v r
theorem RepF.put {K : PySem.W.Frag} {L : Addr → Prop} {H : Hp} {f : Str} {v : V} {p : PV} (r : Rep K L H v p) : ∀ {fs : List (Str × V)} {l : List (Str × PV)}, RepF K L H fs l → RepF K L H (putF f v fs) (putP f p l)
  | _, _, .nil => .cons r .nil
  | _, _, .cons (k := k) a t => by
    unfold putF putP
    split
    · exact .cons r t
    · exact .cons a (RepF.put r t)
theorem RepF.length {K : PySem.W.Frag} {L : Addr → Prop} {H : Hp} : ∀ {fs : List (Str × V)} {l : List (Str × PV)}, RepF K L H fs l → fs.length = l.length
  | _, _, .nil => rfl
  | _, _, .cons _ t => congrArg (· + 1) (RepF.length t)
/-- the store into a field of what stands at slot i -/
def putFld (C : Addr) (f : Str) (v : PV) : Pk → Ev → Option Ev
  | .at i, ρ => match ρ[i]? with
    | some (.own b (.ins C' fs)) => if C' = C ∧ fs.length < 1000 then some (ρ.set i (.own b (.ins C (putP f v fs)))) else none
    | _ => none
  | .val _, _ => none
theorem putFld_of {C : Addr} {f : Str} {v : PV} {k : Pk} {ρ ρ' : Ev} (h : putFld C f v k ρ = some ρ') : ∃ i b fs, k = .at i ∧ ρ[i]? = some (Sl.own b (.ins C fs)) ∧ fs.length < 1000 ∧ ρ' = ρ.set i (.own b (.ins C (putP f v fs))) := by
  cases k with
  | val p => cases h
  | «at» i =>
    have h : (match ρ[i]? with
      | some (.own b (.ins C' fs)) => if C' = C ∧ fs.length < 1000 then some (ρ.set i (.own b (.ins C (putP f v fs)))) else none
      | _ => none) = some ρ' := h
    split at h
    · rename_i b C' fs g
      split at h
      · rename_i z
        cases h
        obtain ⟨rfl, z⟩ := z
        exact ⟨i, b, fs, rfl, g, z, rfl⟩
      · cases h
    · cases h
theorem env_putFld {L : Addr → Prop} {H : Hp} {σ : St} {ρ : Ev} {i : Nat} {b : Bool} {fs : List (Str × PV)} {vs : List (Str × V)} {aa dx : Addr} {v : V} {q : PV} (er : EnvR X.K L H σ ρ) (h : ρ[i]? = some (Sl.own b (.ins C fs))) (ha : σ[i]? = some (some (V.ref aa))) (hv : RepF X.K L H vs fs) (r : Rep X.K L H v q) :
    EnvR X.K L (upd H aa (.ins C dx (putF f v vs))) σ (ρ.set i (.own b (.ins C (putP f q fs)))) ∧ Stp σ ρ L H σ (ρ.set i (.own b (.ins C (putP f q fs)))) L (upd H aa (.ins C dx (putF f v vs))) :=
  er.mut h ha fun k => ⟨dx, _, upd_same, (hv.put r).keep k⟩
def mPutF (C : Addr) (f : Str) (m : ME) (mo : MP) : MS := fun ρ => do
  let (q, ρ1) ← m ρ
  let (k, ρ2) ← mo ρ1
  let ρ3 ← Res.of (putFld C f q k ρ2)
  .ok (.nx, ρ3)
theorem snd_putF (c : Cls X.K C) (n : NoAttr X.K C f) (ha : PE X o (SndP X (cE E) mp)) (hv : PE X value (Snd X (cE E) me)) (hs : swapsWith value (some (.Attribute o f pos')) pos.line X.env = pure false) : PS X (.Assign [.Attribute o f pos'] value pos) (SndS X E (mPutF C f me mp)) :=
  PS.imp (ps_fld ha hv hs) fun D σ H ⟨L, ρ, er, w⟩ => by
    refine ⟨L, ρ, er, ?_⟩
    unfold mPutF at w
    cases q : me ρ with
    | bad => rw [q] at w; exact w
    | err c xs => rw [q] at w; exact w
    | ok r =>
      obtain ⟨y, ρ1⟩ := r
      rw [q] at w
      simp only [Res.ok_bind] at w
      intro v H1 L1 e1 s1 r1
      refine ⟨L1, ρ1, e1, ?_⟩
      have w1 := Post.after w er e1 s1
      cases q2 : mp ρ1 with
      | bad => rw [q2] at w1; exact w1
      | err c xs => rw [q2] at w1; exact w1
      | ok r =>
        obtain ⟨k, ρ2⟩ := r
        rw [q2] at w1
        simp only [Res.ok_bind] at w1
        intro u H2 L2 e2 s2 r2
        cases g : putFld C f y k ρ2 with
        | none => rw [g] at w1; exact w1.elim
        | some ρ3 =>
          rw [g] at w1
          obtain ⟨i, b, fs, rfl, h1, h2, rfl⟩ := putFld_of g
          obtain ⟨a, z1, z2, dx, vs, z3, z4⟩ := e2.own i b _ h1
          have r2 : σ[i]? = some (some u) := r2
          rw [z1] at r2; cases r2
          obtain ⟨e3, s3⟩ := env_putFld (X := X) (f := f) (dx := dx) e2 h1 z1 z4 (r1.keep (s2.keeps e1))
          exact ⟨a, C, dx, vs, rfl, z3, c, n, by rw [z4.length]; exact h2, w1 σ _ L2 e3 (s2.trans s3)⟩
def mAugF (C : Addr) (f : Str) (g : PV → PV → Option PV) (mo : MP) (m : MP) : MS := fun ρ => do
  let (k, ρ1) ← mo ρ
  let x ← Res.of (fldOf C f k ρ1)
  let (k2, ρ2) ← m ρ1
  let y ← Res.of (k2.get ρ2)
  let z ← Res.of (g x y)
  let ρ3 ← Res.of (putFld C f z k ρ2)
  .ok (.nx, ρ3)
theorem snd_augF {op : Operator} {rd : R2} {g : PV → PV → Option PV} (hop : OpR X (inplaceOp op) rd) (hg : PureR2 X.K rd g) (c : Cls X.K C) (n : NoAttr X.K C f) (ha : PE X o (SndP X (cE E) mp)) (hv : PE X value (SndP X (cE E) mq)) : PS X (.AugAssign (.Attribute o f tpos) op value pos) (SndS X E (mAugF C f g mp mq)) :=
  PS.imp (ps_fldaug ha hv fun pins s σ H x y u v Q I rx ry h => hop pins s σ H x y u v Q I rx ry h) fun D σ H ⟨L, ρ, er, w⟩ => by
    refine ⟨L, ρ, er, ?_⟩
    unfold mAugF at w
    cases q : mp ρ with
    | bad => rw [q] at w; exact w
    | err c xs => rw [q] at w; exact w
    | ok r =>
      obtain ⟨k, ρ1⟩ := r
      rw [q] at w
      simp only [Res.ok_bind] at w
      intro v H1 L1 e1 s1 r1
      cases g1 : fldOf C f k ρ1 with
      | none => rw [g1] at w; exact w.elim
      | some z =>
        rw [g1] at w
        simp only [Res.of_some, Res.ok_bind] at w
        obtain ⟨i, b, fs, rfl, h1, h2⟩ := fldOf_of g1
        obtain ⟨a, z1, z2, dx, vs, z3, z4⟩ := e1.own i b _ h1
        have r1 : σ[i]? = some (some v) := r1
        rw [z1] at r1; cases r1
        obtain ⟨u, y1, y2⟩ := z4.some h2
        refine ⟨a, C, dx, vs, u, rfl, z3, c, n, y1, L1, ρ1, e1, ?_⟩
        have w1 := Post.after w er e1 s1
        cases q2 : mq ρ1 with
        | bad => rw [q2] at w1; exact w1
        | err c xs => rw [q2] at w1; exact w1
        | ok r =>
          obtain ⟨k2, ρ2⟩ := r
          rw [q2] at w1
          simp only [Res.ok_bind] at w1
          intro v2 H2 L2 e2 s2 r2
          cases g2 : k2.get ρ2 with
          | none => rw [g2] at w1; exact w1.elim
          | some y =>
            rw [g2] at w1
            simp only [Res.of_some, Res.ok_bind] at w1
            cases g3 : g z y with
            | none => rw [g3] at w1; exact w1.elim
            | some zz =>
              rw [g3] at w1
              simp only [Res.of_some, Res.ok_bind] at w1
              cases g4 : putFld C f zz (.at i) ρ2 with
              | none => rw [g4] at w1; exact w1.elim
              | some ρ3 =>
                rw [g4] at w1
                refine hg L2 H2 u v2 z y zz _ e2.liv (y2.keep (s2.keeps e1)).c (r2.get e2 g2) g3 fun vz H3 al rz => ?_
                have e3 := e2.alc al
                obtain ⟨i', b', fs', hi, h1', h2', rfl⟩ := putFld_of g4
                cases hi
                obtain ⟨a', y1', y2', dx', vs', y3', y4'⟩ := e3.own i b' _ h1'
                rw [z1] at y1'; cases y1'
                obtain ⟨e4, s4⟩ := env_putFld (X := X) (f := f) (dx := dx') e3 h1' z1 y4' rz
                exact ⟨dx', vs', y3', by rw [y4'.length]; exact h2', w1 σ _ L2 e4 ((s2.trans (.alc al)).trans s4)⟩
/-! ### xs[i] = e, d[k] = e on containers of one's own -/
def putD (f : Str) (v : PV) (l : List (Str × PV)) : List (Str × PV) :=
  if l.any (fun kv => decide (kv.1 = f)) then l.map (fun kv => if kv.1 = f then (kv.1, v) else kv) else l ++ [(f, v)]
def putAt (p v : PV) : Pk → Ev → Option Ev
  | .at i, ρ => match ρ[i]?, p with
    | some (.own b (.lst l)), .int j => (ixN l.length j).map fun n => ρ.set i (.own b (.lst (l.set n v)))
    | some (.own b (.dct l)), .str s => if l.length < sizeLine then some (ρ.set i (.own b (.dct (putD s v l)))) else none
    | _, _ => none
  | .val _, _ => none
theorem RepKv.any {K : PySem.W.Frag} {L : Addr → Prop} {H : Hp} {f : Str} : ∀ {fs : List (Key × V)} {l : List (Str × PV)}, RepKv K L H fs l → (fs.any fun kv => decide (kv.1 = Sum.inr f)) = l.any fun kv => decide (kv.1 = f)
  | _, _, .nil => rfl
  | _, _, .cons _ t => by rw [List.any_cons, List.any_cons, RepKv.any t, key_rr]
theorem RepKv.repl {K : PySem.W.Frag} {L : Addr → Prop} {H : Hp} {f : Str} {v : V} {p : PV} (r : Rep K L H v p) : ∀ {fs : List (Key × V)} {l : List (Str × PV)}, RepKv K L H fs l → RepKv K L H (fs.map fun kv => if kv.1 = Sum.inr f then (kv.1, v) else kv) (l.map fun kv => if kv.1 = f then (kv.1, p) else kv)
  | _, _, .nil => .nil
  | _, _, .cons (k := k) a t => by
    rw [List.map_cons, List.map_cons]
    by_cases h : k = f
    · rw [if_pos (by rw [h]), if_pos h]; exact .cons r (RepKv.repl r t)
    · rw [if_neg (fun z => h (Sum.inr.inj z)), if_neg h]; exact .cons a (RepKv.repl r t)
theorem RepKv.app {K : PySem.W.Frag} {L : Addr → Prop} {H : Hp} {f : Str} {v : V} {p : PV} (r : Rep K L H v p) : ∀ {fs : List (Key × V)} {l : List (Str × PV)}, RepKv K L H fs l → RepKv K L H (fs ++ [(.inr f, v)]) (l ++ [(f, p)])
  | _, _, .nil => .cons r .nil
  | _, _, .cons a t => .cons a (RepKv.app r t)
theorem RepKv.put {K : PySem.W.Frag} {L : Addr → Prop} {H : Hp} {f : Str} {v : V} {p : PV} (r : Rep K L H v p) {fs : List (Key × V)} {l : List (Str × PV)} (h : RepKv K L H fs l) : RepKv K L H (putK fs (.inr f) v) (putD f p l) := by
  unfold putK putD
  rw [h.any]
  split
  · exact h.repl r
  · exact h.app r
theorem RepKv.length {K : PySem.W.Frag} {L : Addr → Prop} {H : Hp} : ∀ {fs : List (Key × V)} {l : List (Str × PV)}, RepKv K L H fs l → fs.length = l.length
  | _, _, .nil => rfl
  | _, _, .cons _ t => congrArg (· + 1) (RepKv.length t)
theorem putAt_of {p v : PV} {k : Pk} {ρ ρ' : Ev} (h : putAt p v k ρ = some ρ') : ∃ i b, k = .at i ∧ ((∃ l j n, ρ[i]? = some (Sl.own b (.lst l)) ∧ p = .int j ∧ ixN l.length j = some n ∧ ρ' = ρ.set i (.own b (.lst (l.set n v)))) ∨
    ∃ l s, ρ[i]? = some (Sl.own b (.dct l)) ∧ p = .str s ∧ l.length < sizeLine ∧ ρ' = ρ.set i (.own b (.dct (putD s v l)))) := by
  cases k with
  | val p => cases h
  | «at» i =>
    have h' : (match (generalizing := false) ρ[i]?, p with
      | some (.own b (.lst l)), .int j => (ixN l.length j).map fun n => ρ.set i (.own b (.lst (l.set n v)))
      | some (.own b (.dct l)), .str s => if l.length < sizeLine then some (ρ.set i (.own b (.dct (putD s v l)))) else none
      | _, _ => none) = some ρ' := h
    clear h
    split at h'
    · rename_i b l j g
      obtain ⟨n, h1, h2⟩ := Option.map_eq_some_iff.mp h'
      exact ⟨i, b, rfl, .inl ⟨l, j, n, g, rfl, h1, h2.symm⟩⟩
    · rename_i b l s g
      split at h'
      · rename_i z; cases h'; exact ⟨i, b, rfl, .inr ⟨l, s, g, rfl, z, rfl⟩⟩
      · cases h'
    · cases h'
def mPut (m : ME) (mo : MP) (mi : MP) : MS := fun ρ => do
  let (v, ρ1) ← m ρ
  let (k, ρ2) ← mo ρ1
  let (k2, ρ3) ← mi ρ2
  let p ← Res.of (k2.get ρ3)
  let ρ4 ← Res.of (putAt p v k ρ3)
  .ok (.nx, ρ4)
theorem ipUp {i : V} {L : Addr → Prop} {H : Hp} {j : Int} (r : CRep X.K L H i (.int j)) : i = .int j := r.int
theorem snd_put (hu : X.A.units + 1 < cLine) (ho : PE X o (SndP X (cE E) mp)) (hi : PE X a (SndP X (cE E) mq)) (hv : PE X value (Snd X (cE E) me)) (hs : swapsWithSole [.Subscript o a pos'] value pos.line X.env = pure false := by rfl) (hw : swappedStores [.Subscript o a pos'] value X.env = pure none := by rfl)
    (h1 : (assignEach [.Subscript o a pos'] X.env).map (·.2) = [assign (.Subscript o a pos') X.env] := by rfl)
    (ha : ∀ v, assign (.Subscript o a pos') X.env v = (do
      let ov ← holding [v] (eval o X.env)
      let iv ← holding [v, ov] (eval a X.env)
      standAt pos'
      holding [v, ov, iv] (setItem ov iv v)
      release [v, ov, iv] []) := by intro _; rfl) : PS X (.Assign [.Subscript o a pos'] value pos) (SndS X E (mPut me mp mq)) := by
  have hset : PSet X (fun o i v H Q => rSetL o i v H Q ∨ rSetD o i v H Q) := fun pins s σ H o i v ov iv u Q I ro ri rv h => h.elim (set_list pins s σ H o i v ov iv u Q I ro ri rv) (set_dict hu pins s σ H o i v ov iv u Q I ro ri rv)
  refine PS.imp (ps_asg hv (pg_sub ho hi hset ha) hs hw h1) fun D σ H ⟨L, ρ, er, w⟩ => ?_
  refine ⟨L, ρ, er, ?_⟩
  unfold mPut at w
  cases q : me ρ with
  | bad => rw [q] at w; exact w
  | err c xs => rw [q] at w; exact w
  | ok r =>
    obtain ⟨y, ρ1⟩ := r
    rw [q] at w
    simp only [Res.ok_bind] at w
    intro v H1 L1 e1 s1 r1
    refine ⟨L1, ρ1, e1, ?_⟩
    have w1 := Post.after w er e1 s1
    cases q2 : mp ρ1 with
    | bad => rw [q2] at w1; exact w1
    | err c xs => rw [q2] at w1; exact w1
    | ok r =>
      obtain ⟨k, ρ2⟩ := r
      rw [q2] at w1
      simp only [Res.ok_bind] at w1
      intro u H2 L2 e2 s2 r2
      refine ⟨L2, ρ2, e2, ?_⟩
      have w2 := Post.after w1 e1 e2 s2
      cases q3 : mq ρ2 with
      | bad => rw [q3] at w2; exact w2
      | err c xs => rw [q3] at w2; exact w2
      | ok r =>
        obtain ⟨k2, ρ3⟩ := r
        rw [q3] at w2
        simp only [Res.ok_bind] at w2
        intro iv H3 L3 e3 s3 r3
        cases g : k2.get ρ3 with
        | none => rw [g] at w2; exact w2.elim
        | some pp =>
          rw [g] at w2
          simp only [Res.of_some, Res.ok_bind] at w2
          cases g2 : putAt pp y k ρ3 with
          | none => rw [g2] at w2; exact w2.elim
          | some ρ4 =>
            rw [g2] at w2
            have ry := (r1.keep (s2.keeps e1)).keep (s3.keeps e2)
            obtain ⟨i, b, rfl, ⟨l, j, n, h1, rfl, h2, rfl⟩ | ⟨l, s, h1, rfl, h2, rfl⟩⟩ := putAt_of g2
            · obtain ⟨aa, z1, z2, xs, z3, z4⟩ := e3.own i b _ h1
              have r2 : σ[i]? = some (some u) := r2
              rw [z1] at r2; cases r2
              obtain rfl := (r3.get e3 g).int
              obtain ⟨e4, s4⟩ := e3.mut (u := .lst (xs.set n v)) (o' := .lst (l.set n y)) h1 z1 fun k => ⟨_, upd_same, (z4.set ry n).keep k⟩
              exact .inl ⟨aa, xs, j, n, rfl, rfl, z3, by rw [z4.length]; exact h2, w2 σ _ L3 e4 (s3.trans s4)⟩
            · obtain ⟨aa, z1, z2, kvs, z3, z4⟩ := e3.own i b _ h1
              have r2 : σ[i]? = some (some u) := r2
              rw [z1] at r2; cases r2
              obtain rfl := (r3.get e3 g).str
              obtain ⟨e4, s4⟩ := e3.mut (u := .dK (putK kvs (.inr s) v)) (o' := .dct (putD s y l)) h1 z1 fun k => by
                have z5 := RepKv.put (f := s) ry z4
                exact ⟨_, upd_same, RepKv.keep k z5⟩
              refine .inr ⟨aa, _, rfl, .k (k := .inr s) z3 (by rw [z4.length]; exact h2), ?_⟩
              exact w2 σ _ L3 e4 (s3.trans s4)
/-! ### append, extend -/
def appAt (v : PV) : Pk → Ev → Option Ev
  | .at i, ρ => match ρ[i]? with
    | some (.own b (.lst l)) => if l.length < sizeLine then some (ρ.set i (.own b (.lst (l ++ [v])))) else none
    | _ => none
  | .val _, _ => none
def isLstAt : Pk → Ev → Bool
  | .at i, ρ => match ρ[i]? with
    | some (.own _ (.lst _)) => true
    | _ => false
  | .val _, _ => false
theorem isLstAt_of {k : Pk} {ρ : Ev} (h : isLstAt k ρ = true) : ∃ i b l, k = .at i ∧ ρ[i]? = some (Sl.own b (.lst l)) := by
  cases k with
  | val p => cases h
  | «at» i =>
    have h' : (match ρ[i]? with
      | some (.own _ (.lst _)) => true
      | _ => false) = true := h
    clear h
    split at h'
    · rename_i b l g; exact ⟨i, b, l, rfl, g⟩
    · cases h'
theorem appAt_of {v : PV} {k : Pk} {ρ ρ' : Ev} (h : appAt v k ρ = some ρ') : ∃ i b l, k = .at i ∧ ρ[i]? = some (Sl.own b (.lst l)) ∧ l.length < sizeLine ∧ ρ' = ρ.set i (.own b (.lst (l ++ [v]))) := by
  cases k with
  | val p => cases h
  | «at» i =>
    have h' : (match ρ[i]? with
      | some (.own b (.lst l)) => if l.length < sizeLine then some (ρ.set i (.own b (.lst (l ++ [v])))) else none
      | _ => none) = some ρ' := h
    clear h
    split at h'
    · rename_i b l g
      split at h'
      · rename_i z; cases h'; exact ⟨i, b, l, rfl, g, z, rfl⟩
      · cases h'
    · cases h'
def mAppend (mo : MP) (m : MA) : ME := fun ρ => do
  let (k, ρ1) ← mo ρ
  let _ ← okIf (isLstAt k ρ1)
  let (ks, ρ2) ← m ρ1
  let ps ← Res.of (getAll ks ρ2)
  match ps with
  | [v] => do let ρ3 ← Res.of (appAt v k ρ2); .ok (.non, ρ3)
  | _ => .bad
theorem snd_append (ho : PE X o (SndP X E' mp)) (ha : PA X (e :: []) (SndA X E' ma)) (hbase : attributeBase o "append" X.env (eval o X.env) = eval o X.env := by rfl)
    (hfew : ((backTo cpos (starEach (e :: []) X.env)).all (fun x => !x.1) && (backToKw cpos (keywordEach [] X.env)).all (fun x => x.1.isSome)
      && decide ((e :: []).length + ([] : List Keyword).length + (if ([] : List Keyword).isEmpty then 0 else 1) < 30)) = true := by rfl)
    (hline : (apos.endLine == cpos.line) = true := by rfl) (hs : starEach (e :: []) X.env = (false, eval e X.env) :: starEach [] X.env := by rfl) (hplain : (backTo cpos (starEach [] X.env)).any (·.1) = false := by rfl) :
    PE X (.Call (.Attribute o "append" apos) (e :: []) [] cpos) (Snd X E' (mAppend mp ma)) :=
  PE.imp (pe_bm PySem.F.plainAttrs_list PySem.F.slot_list_append PySem.F.type_list_append mt_append ho ha hbase hfew hline hs hplain) fun σ H Q ⟨L, ρ, er, w⟩ => by
    refine ⟨L, ρ, er, ?_⟩
    unfold mAppend at w
    cases q : mp ρ with
    | bad => rw [q] at w; exact w
    | err c xs => rw [q] at w; exact w
    | ok r =>
      obtain ⟨k, ρ1⟩ := r
      rw [q] at w
      simp only [Res.ok_bind] at w
      intro v H1 L1 e1 s1 r1
      cases hi : isLstAt k ρ1 with
      | false => rw [hi] at w; exact w.elim
      | true =>
        rw [hi] at w
        obtain ⟨i, b, l, rfl, h1⟩ := isLstAt_of hi
        simp only [okIf, if_true, Res.ok_bind] at w
        obtain ⟨a, z1, z2, xs, z3, z4⟩ := e1.own i b _ h1
        have r1 : σ[i]? = some (some v) := r1
        rw [z1] at r1; cases r1
        refine ⟨.inl ⟨rfl, xs, .inl (.inl z3)⟩, L1, ρ1, e1, ?_⟩
        cases q2 : ma ρ1 with
        | bad => rw [q2] at w; exact w
        | err c xs => rw [q2] at w; exact Fails.after w s1
        | ok r =>
          obtain ⟨ks, ρ2⟩ := r
          rw [q2] at w
          simp only [Res.ok_bind] at w
          intro vs H2 L2 e2 s2 r2
          cases g : getAll ks ρ2 with
          | none => rw [g] at w; exact w.elim
          | some ps =>
            rw [g] at w
            simp only [Res.of_some, Res.ok_bind] at w
            have rr := r2.reps g
            cases rr with
            | nil => exact w.elim
            | @cons y ys p0 ps0 ry rys =>
              cases rys with
              | cons _ _ => exact w.elim
              | nil =>
                simp only at w
                cases g2 : appAt p0 (.at i) ρ2 with
                | none => rw [g2] at w; exact w.elim
                | some ρ3 =>
                  rw [g2] at w
                  obtain ⟨i', b', l', hi', h1', h2', rfl⟩ := appAt_of g2
                  cases hi'
                  obtain ⟨a', y1, y2, xs', y3, y4⟩ := e2.own i b' _ h1'
                  rw [z1] at y1; cases y1
                  obtain ⟨e4, s4⟩ := e2.mut (u := .lst (xs' ++ [y])) (o' := .lst (l' ++ [p0])) h1' z1 fun k => ⟨_, upd_same, (y4.append (.cons ry .nil)).keep k⟩
                  exact ⟨a, xs', y, rfl, rfl, y3, by rw [y4.length]; exact h2', w .non _ L2 e4 ((s1.trans s2).trans s4) .non⟩
def extAt (v : List PV) : Pk → Ev → Option Ev
  | .at i, ρ => match ρ[i]? with
    | some (.own b (.lst l)) => if l.length + v.length ≤ sizeLine then some (ρ.set i (.own b (.lst (l ++ v)))) else none
    | _ => none
  | .val _, _ => none
theorem extAt_of {v : List PV} {k : Pk} {ρ ρ' : Ev} (h : extAt v k ρ = some ρ') : ∃ i b l, k = .at i ∧ ρ[i]? = some (Sl.own b (.lst l)) ∧ l.length + v.length ≤ sizeLine ∧ ρ' = ρ.set i (.own b (.lst (l ++ v))) := by
  cases k with
  | val p => cases h
  | «at» i =>
    have h' : (match ρ[i]? with
      | some (.own b (.lst l)) => if l.length + v.length ≤ sizeLine then some (ρ.set i (.own b (.lst (l ++ v)))) else none
      | _ => none) = some ρ' := h
    clear h
    split at h'
    · rename_i b l g
      split at h'
      · rename_i z; cases h'; exact ⟨i, b, l, rfl, g, z, rfl⟩
      · cases h'
    · cases h'
def mExtend (mo : MP) (m : MA) : ME := fun ρ => do
  let (k, ρ1) ← mo ρ
  let _ ← okIf (isLstAt k ρ1)
  let (ks, ρ2) ← m ρ1
  let ps ← Res.of (getAll ks ρ2)
  match ps with
  | [.lst v] => do let ρ3 ← Res.of (extAt v k ρ2); .ok (.non, ρ3)
  | _ => .bad
theorem snd_extend (ho : PE X o (SndP X E' mp)) (ha : PA X (e :: []) (SndA X E' ma)) (hbase : attributeBase o "extend" X.env (eval o X.env) = eval o X.env := by rfl)
    (hfew : ((backTo cpos (starEach (e :: []) X.env)).all (fun x => !x.1) && (backToKw cpos (keywordEach [] X.env)).all (fun x => x.1.isSome)
      && decide ((e :: []).length + ([] : List Keyword).length + (if ([] : List Keyword).isEmpty then 0 else 1) < 30)) = true := by rfl)
    (hline : (apos.endLine == cpos.line) = true := by rfl) (hs : starEach (e :: []) X.env = (false, eval e X.env) :: starEach [] X.env := by rfl) (hplain : (backTo cpos (starEach [] X.env)).any (·.1) = false := by rfl) :
    PE X (.Call (.Attribute o "extend" apos) (e :: []) [] cpos) (Snd X E' (mExtend mp ma)) :=
  PE.imp (pe_bm PySem.F.plainAttrs_list PySem.F.slot_list_extend PySem.F.type_list_extend mt_extend ho ha hbase hfew hline hs hplain) fun σ H Q ⟨L, ρ, er, w⟩ => by
    refine ⟨L, ρ, er, ?_⟩
    unfold mExtend at w
    cases q : mp ρ with
    | bad => rw [q] at w; exact w
    | err c xs => rw [q] at w; exact w
    | ok r =>
      obtain ⟨k, ρ1⟩ := r
      rw [q] at w
      simp only [Res.ok_bind] at w
      intro v H1 L1 e1 s1 r1
      cases hi : isLstAt k ρ1 with
      | false => rw [hi] at w; exact w.elim
      | true =>
        rw [hi] at w
        obtain ⟨i, b, l, rfl, h1⟩ := isLstAt_of hi
        simp only [okIf, if_true, Res.ok_bind] at w
        obtain ⟨a, z1, z2, xs, z3, z4⟩ := e1.own i b _ h1
        have r1 : σ[i]? = some (some v) := r1
        rw [z1] at r1; cases r1
        refine ⟨.inl ⟨rfl, xs, .inl (.inl z3)⟩, L1, ρ1, e1, ?_⟩
        cases q2 : ma ρ1 with
        | bad => rw [q2] at w; exact w
        | err c xs => rw [q2] at w; exact Fails.after w s1
        | ok r =>
          obtain ⟨ks, ρ2⟩ := r
          rw [q2] at w
          simp only [Res.ok_bind] at w
          intro vs H2 L2 e2 s2 r2
          cases g : getAll ks ρ2 with
          | none => rw [g] at w; exact w.elim
          | some ps =>
            rw [g] at w
            simp only [Res.of_some, Res.ok_bind] at w
            have rr := r2.reps g
            cases rr with
            | nil => exact w.elim
            | @cons y ys p0 ps0 ry rys =>
              cases rys with
              | cons _ _ => cases p0 <;> exact w.elim
              | nil =>
                cases ry with
                | @lst ab zs v0 hab rzs =>
                  simp only at w
                  cases g2 : extAt v0 (.at i) ρ2 with
                  | none => rw [g2] at w; exact w.elim
                  | some ρ3 =>
                    rw [g2] at w
                    obtain ⟨i', b', l', hi', h1', h2', rfl⟩ := extAt_of g2
                    cases hi'
                    obtain ⟨a', y1, y2, xs', y3, y4⟩ := e2.own i b' _ h1'
                    rw [z1] at y1; cases y1
                    obtain ⟨e4, s4⟩ := e2.mut (u := .lst (xs' ++ zs)) (o' := .lst (l' ++ v0)) h1' z1 fun k => ⟨_, upd_same, (y4.append rzs).keep k⟩
                    exact ⟨a, ab, xs', zs, rfl, rfl, y3, hab.1, by rw [y4.length, rzs.length]; exact h2', w .non _ L2 e4 ((s1.trans s2).trans s4) .non⟩
                | _ => exact w.elim
end
end PL
/-! PL11: x op= e, slices, f-strings, methods of texts, built-in functions, chains. -/
namespace PL
open PySem PySem.Spec L2
section
variable {X : Cx} {E : XK} {E' : St → XK} {x y : Str} {p pos pos' apos cpos tpos : Pos} {e o a b c value : Expr} {es rest : List Expr} {ma : MA} {mp mq mr : MP} {me : ME}
/-! ### x op= e -/
def mAug (i : Nat) (g : PV → PV → Option PV) (m : MP) : MS := fun ρ => match ρ[i]? with
  | some (.pv x) => do
    let (k, ρ1) ← m ρ
    let y ← Res.of (k.get ρ1)
    let z ← Res.of (g x y)
    let ρ2 ← Res.of (gN i z ρ1)
    .ok (.nx, ρ2)
  | _ => .bad
theorem snd_aug {i : Nat} {op : Operator} {rd : R2} {g : PV → PV → Option PV} (hN : X.N.Nodup) (hi : X.N[i]? = some x) (hx : Loc X.env.scope x) (hop : OpR X (inplaceOp op) rd) (hg : PureR2 X.K rd g) (he : PE X e (SndP X (cE E) mp)) (hf : X.fn x = true ∨ X.env.scope.names.lookup x = some .local := by first | exact .inl rfl | exact .inr rfl | assumption) :
    PS X (.AugAssign (.Name x pos') op e pos) (SndS X E (mAug i g mp)) :=
  PS.imp (ps_aug (ti := rd) hN hi hx he (fun pins s σ H x y v u Q I rx ry h => hop pins s σ H x y v u Q I rx ry h) hf) fun D σ H ⟨L, ρ, er, w⟩ => by
    unfold mAug at w
    cases q0 : ρ[i]? with
    | none => simp only [q0] at w; exact w.elim
    | some s =>
      cases s with
      | no => simp only [q0] at w; exact w.elim
      | own b o => simp only [q0] at w; exact w.elim
      | pv xv =>
        simp only [q0] at w
        obtain ⟨v, hv, rv⟩ := er.pvs i xv q0
        refine ⟨v, hv, L, ρ, er, ?_⟩
        cases q : mp ρ with
        | bad => rw [q] at w; exact w
        | err c xs => rw [q] at w; exact w
        | ok r =>
          obtain ⟨k, ρ1⟩ := r
          rw [q] at w
          simp only [Res.ok_bind] at w
          intro u H1 L1 e1 s1 r1
          cases g1 : k.get ρ1 with
          | none => rw [g1] at w; exact w.elim
          | some yv =>
            rw [g1] at w
            simp only [Res.of_some, Res.ok_bind] at w
            cases g2 : g xv yv with
            | none => rw [g2] at w; exact w.elim
            | some z =>
              rw [g2] at w
              simp only [Res.of_some, Res.ok_bind] at w
              cases g3 : gN i z ρ1 with
              | none => rw [g3] at w; exact w.elim
              | some ρ2 =>
                rw [g3] at w
                refine hg L1 H1 v u xv yv z _ e1.liv (rv.keep (s1.keeps er)).c (r1.get e1 g1) g2 fun vz H2 al rz => ?_
                obtain ⟨e3, s3⟩ := (e1.alc al).put rz g3
                exact w _ H2 L1 e3 ((s1.trans (.alc al)).trans s3)
def rIAdd : R2 := fun x y H Q => rI0 (fun i j => .int (i + j)) x y H Q ∨ (fun x y H Q => ∃ i j, x = .str i ∧ y = .str j ∧ i.length + j.length ≤ sizeLine ∧ Q (.str (i ++ j)) H) x y H Q
theorem op_iadd2 : OpR X (inplaceOp .Add) rIAdd := iop_add.or iop_add_str
def fIAdd : PV → PV → Option PV
  | .int i, .int j => some (.int (i + j))
  | .str a, .str b => if a.length + b.length ≤ sizeLine then some (.str (a ++ b)) else none
  | _, _ => none
theorem pure_iadd {K : PySem.W.Frag} : PureR2 K rIAdd fIAdd := by
  intro L H x y p q z Q l a b e k
  unfold fIAdd at e
  split at e
  · cases e; cases a.int; cases b.int
    exact .inl ⟨_, _, rfl, rfl, k _ H .refl (.int _)⟩
  · split at e
    · rename_i h
      cases e; cases a.str; cases b.str
      exact .inr ⟨_, _, rfl, rfl, h, k _ H .refl (.str _)⟩
    · cases e
  · cases e
/-! ### slices -/
abbrev MO := Ev → Res (Option Int × Ev)
def SndO (X : Cx) (E : St → XK) (m : MO) : TO := fun σ H Q => ∃ L ρ, EnvR X.K L H σ ρ ∧
  match m ρ with
  | .ok (r, ρ') => ∀ H' L', EnvR X.K L' H' σ ρ' → Stp σ ρ L H σ ρ' L' H' → Q r H'
  | .err c xs => Fails X E σ ρ L H c xs
  | .bad => False
theorem PO.imp {X : Cx} {e : Option Expr} {t t' : TO} (h : PO X e t) (i : ∀ σ H Q, t' σ H Q → t σ H Q) : PO X e t' := ⟨fun pins s σ H Q I w => h.run pins s σ H Q I (i _ _ _ w)⟩
def moN : MO := fun ρ => .ok (none, ρ)
def moS (m : MP) : MO := fun ρ => do
  let (k, ρ1) ← m ρ
  let p ← Res.of (k.get ρ1)
  match p with
  | .int i => .ok (some i, ρ1)
  | _ => .bad
theorem snd_onone : PO X none (SndO X E' moN) := PO.imp po_none fun σ H Q ⟨L, ρ, er, w⟩ => w H L er .refl
theorem snd_osome (h : PE X e (SndP X E' mp)) : PO X (some e) (SndO X E' (moS mp)) := PO.imp (po_some h) fun σ H Q ⟨L, ρ, er, w⟩ => by
  refine ⟨L, ρ, er, ?_⟩
  unfold moS at w
  cases q : mp ρ with
  | bad => rw [q] at w; exact w
  | err c xs => rw [q] at w; exact w
  | ok r =>
    obtain ⟨k, ρ1⟩ := r
    rw [q] at w
    simp only [Res.ok_bind] at w
    intro u H1 L1 e1 s1 r1
    cases g1 : k.get ρ1 with
    | none => rw [g1] at w; exact w.elim
    | some yv =>
      rw [g1] at w
      simp only [Res.of_some, Res.ok_bind] at w
      have rr := r1.get e1 g1
      cases yv with
      | int i => exact ⟨i, rr.int, w H1 L1 e1 s1⟩
      | _ => exact w.elim
def cutP (xs : List PV) (lo hi : Option Int) : List PV := (xs.drop (HT.sIx xs.length 0 lo)).take (HT.sIx xs.length xs.length hi - HT.sIx xs.length 0 lo)
def fSl (lo hi : Option Int) : PV → Option PV
  | .str z => if z.length ≤ sizeLine then some (.str (cutS z lo hi)) else none
  | .tup l => some (.tup (cutP l lo hi))
  | .lst l => some (.lst (cutP l lo hi))
  | .scr l => some (.lst (cutP l lo hi))
  | _ => none
theorem RepAll.cut {K : PySem.W.Frag} {L : Addr → Prop} {H : Hp} {xs : List V} {l : List PV} (r : RepAll K L H xs l) (lo hi : Option Int) : RepAll K L H (cutV xs lo hi) (cutP l lo hi) := by
  unfold cutV cutP
  rw [r.length]
  exact (r.drop _).take _
def rSl4 (K : PySem.W.Frag) : V → Option Int → Option Int → Hp → VK → Prop := fun x lo hi H Q => rSlS x lo hi H Q ∨ rSlA K x lo hi H Q ∨ rSlL K x lo hi H Q
theorem sl_4 : SlR X (rSl4 X.K) := sl_str.or (sl_tupA.or sl_list)
theorem pure_sl {K : PySem.W.Frag} {L : Addr → Prop} {H : Hp} {v : V} {q z : PV} {lo hi : Option Int} {Q : VK} (l : ∀ a, L a → H a ≠ none) (r : CRep K L H v q) (h : fSl lo hi q = some z) (k : ∀ v H', Alc H H' → Rep K L H' v z → Q v H') : rSl4 K v lo hi H Q := by
  cases q with
  | str s =>
    have h : (if s.length ≤ sizeLine then some (PV.str (cutS s lo hi)) else none) = some z := h
    split at h
    · rename_i hz
      cases h; cases r.str
      exact .inl ⟨s, rfl, hz, k _ H .refl (.str _)⟩
    · cases h
  | tup ps =>
    cases h
    obtain ⟨a, xs, rfl, s, rr⟩ := r.tup
    refine .inr (.inl ⟨a, xs, rfl, sq_of s, fun hw => k _ H .refl ?_, fun _ p hp => k _ _ (.upd hp) (new_tup hp l (rr.cut lo hi))⟩)
    refine .tup s ?_
    have e : cutP ps lo hi = ps := by
      unfold cutP
      rw [← rr.length, hw.1, hw.2, List.drop_zero, Nat.sub_zero, rr.length, List.take_length]
    rw [e]; exact rr
  | lst ps =>
    cases h
    obtain ⟨a, xs, rfl, s, rr⟩ := r
    exact .inr (.inr ⟨a, xs, rfl, .inl (.inl s), fun p hp => k _ _ (.upd hp) (new_lst hp l (rr.cut lo hi))⟩)
  | scr ps =>
    cases h
    cases (show Rep K L H v (.scr ps) from r) with
    | scr s rr => exact .inr (.inr ⟨_, _, rfl, s.sq, fun p hp => k _ _ (.upd hp) (new_lst hp l (rr.cut lo hi))⟩)
  | _ => cases h
def mSlice (m : MP) (ml mh : MO) : ME := fun ρ => do
  let (k, ρ1) ← m ρ
  let (lo, ρ2) ← ml ρ1
  let (hi, ρ3) ← mh ρ2
  let q ← Res.of (k.get ρ3)
  let z ← Res.of (fSl lo hi q)
  .ok (z, ρ3)
theorem snd_slice {lo hi : Option Expr} {ml mh : MO} {p2 : Pos} (he : PE X e (SndP X E' mp)) (hl : PO X lo (SndO X E' ml)) (hu : PO X hi (SndO X E' mh)) : PE X (.Subscript e (.Slice lo hi none p2) pos) (Snd X E' (mSlice mp ml mh)) :=
  PE.imp (pe_slice sl_4 he hl hu) fun σ H Q ⟨L, ρ, er, w⟩ => by
    refine ⟨L, ρ, er, ?_⟩
    unfold mSlice at w
    cases q : mp ρ with
    | bad => rw [q] at w; exact w
    | err c xs => rw [q] at w; exact w
    | ok r =>
      obtain ⟨k, ρ1⟩ := r
      rw [q] at w
      simp only [Res.ok_bind] at w
      intro v H1 L1 e1 s1 r1
      refine ⟨L1, ρ1, e1, ?_⟩
      cases q2 : ml ρ1 with
      | bad => rw [q2] at w; exact w
      | err c xs => rw [q2] at w; exact Fails.after w s1
      | ok r =>
        obtain ⟨lo', ρ2⟩ := r
        rw [q2] at w
        simp only [Res.ok_bind] at w
        intro H2 L2 e2 s2
        refine ⟨L2, ρ2, e2, ?_⟩
        cases q3 : mh ρ2 with
        | bad => rw [q3] at w; exact w
        | err c xs => rw [q3] at w; exact Fails.after w (s1.trans s2)
        | ok r =>
          obtain ⟨hi', ρ3⟩ := r
          rw [q3] at w
          simp only [Res.ok_bind] at w
          intro H3 L3 e3 s3
          cases g : k.get ρ3 with
          | none => rw [g] at w; exact w.elim
          | some qv =>
            rw [g] at w
            simp only [Res.of_some, Res.ok_bind] at w
            cases g2 : fSl lo' hi' qv with
            | none => rw [g2] at w; exact w.elim
            | some z =>
              rw [g2] at w
              exact pure_sl e3.liv (((r1.keep (s2.keeps e1)).keep (s3.keeps e2)).get e3 g) g2 fun v' H' al rz => w v' H' L3 (e3.alc al) (((s1.trans s2).trans s3).trans (.alc al)) rz
/-! ### f-strings -/
def fFmt : PV → Option PV
  | .str s => if s.length ≤ sizeLine then some (.str s) else none
  | .int i => if i.natAbs.log2 < 1920 then some (.str (toString i)) else none
  | _ => none
theorem snd_fmt (he : PE X e (SndP X E' mp)) : PE X (.FormattedValue e (-1) none pos) (Snd X E' (mOp1 fFmt mp)) := PE.imp (pe_fmt he) fun σ H Q w => by
  have hr : PureR1 X.K (fun x H Q => (∃ y : Str, x = .str y ∧ y.length ≤ sizeLine ∧ Q (.str y) H) ∨ ∃ i : Int, x = .int i ∧ i.natAbs.log2 < 1920 ∧ Q (.str (toString i)) H) fFmt := by
    intro L H x p z Q l a e k
    unfold fFmt at e
    split at e
    · split at e
      · rename_i hz
        cases e; cases a.str
        exact .inl ⟨_, rfl, hz, k _ H .refl (.str _)⟩
      · cases e
    · split at e
      · rename_i hz
        cases e; cases a.int
        exact .inr ⟨_, rfl, hz, k _ H .refl (.str _)⟩
      · cases e
    · cases e
  exact tUn_of hr w
def goJ : List ME → Str → Ev → Res (PV × Ev)
  | [], acc, ρ => .ok (.str acc, ρ)
  | m :: ms, acc, ρ => do
    let (q, ρ1) ← m ρ
    match q with
    | .str s => if (acc ++ s).length ≤ sizeLine then goJ ms (acc ++ s) ρ1 else .bad
    | _ => .bad
def mJoined (ms : List ME) : ME := fun ρ => goJ ms Str.empty ρ
theorem js_of : ∀ {ms : List ME} {acc : Str} {σ : St} {H H1 : Hp} {L L1 : Addr → Prop} {ρ ρ1 : Ev} {Q : VK}, EnvR X.K L1 H1 σ ρ1 → Stp σ ρ L H σ ρ1 L1 H1 →
    (match goJ ms acc ρ1 with
      | .ok (b, ρ') => ∀ v H' L', EnvR X.K L' H' σ ρ' → Stp σ ρ L H σ ρ' L' H' → Rep X.K L' H' v b → Q v H'
      | .err c xs => Fails X E' σ ρ L H c xs
      | .bad => False) → tJs (ms.map (Snd X E')) acc σ H1 fun out H2 => Q (.str out) H2
  | [], acc, σ, H, H1, L, L1, ρ, ρ1, Q, e1, s1, w => w (.str acc) H1 L1 e1 s1 (.str acc)
  | m :: ms, acc, σ, H, H1, L, L1, ρ, ρ1, Q, e1, s1, w => by
    refine ⟨L1, ρ1, e1, ?_⟩
    unfold goJ at w
    cases q : m ρ1 with
    | bad => rw [q] at w; exact w
    | err c xs => rw [q] at w; exact Fails.after w s1
    | ok r =>
      obtain ⟨p, ρ2⟩ := r
      rw [q] at w
      simp only [Res.ok_bind] at w
      intro v H2 L2 e2 s2 r2
      cases p with
      | str s =>
        cases r2
        simp only at w
        by_cases hz : (acc ++ s).length ≤ sizeLine
        · rw [if_pos hz] at w
          exact ⟨s, rfl, hz, js_of e2 (s1.trans s2) w⟩
        · rw [if_neg hz] at w; exact w.elim
      | _ => exact w.elim
theorem snd_pjn : PJ X [] (([] : List ME).map (Snd X E')) := .nil
theorem snd_pjc {m : ME} {ms : List ME} (h : PE X e (Snd X E' m)) (r : PJ X es (ms.map (Snd X E'))) : PJ X (e :: es) ((m :: ms).map (Snd X E')) := .cons h r
theorem snd_joined {v1 v2 : Expr} {ms : List ME} (h : PJ X (v1 :: v2 :: rest) (ms.map (Snd X E'))) : PE X (.JoinedStr (v1 :: v2 :: rest) pos) (Snd X E' (mJoined ms)) := PE.imp (pe_joined h) fun σ H Q ⟨L, ρ, er, w⟩ => js_of er .refl w
theorem snd_joined1 {m : ME} (h : PE X e (Snd X E' m)) : PE X (.JoinedStr [e] pos) (Snd X E' m) := pe_joined1 h
/-! ### functions of values -/
inductive CReps (K : PySem.W.Frag) (L : Addr → Prop) (H : Hp) : List V → List PV → Prop
  | nil : CReps K L H [] []
  | cons {v : V} {vs : List V} {p : PV} {ps : List PV} : CRep K L H v p → CReps K L H vs ps → CReps K L H (v :: vs) (p :: ps)
def getC : List Pk → Ev → Option (List PV)
  | [], _ => some []
  | k :: ks, ρ => match k.get ρ, getC ks ρ with
    | some p, some ps => some (p :: ps)
    | _, _ => none
theorem PkRs.creps {K : PySem.W.Frag} {L : Addr → Prop} {H : Hp} {σ : St} {ρ : Ev} (er : EnvR K L H σ ρ) : ∀ {vs : List V} {ks : List Pk} {ps : List PV}, PkRs K L H σ vs ks → getC ks ρ = some ps → CReps K L H vs ps
  | _, _, _, .nil, e => by cases e; exact .nil
  | _, _, ps, .cons (k := k) (ks := ks) r t, e => by
    unfold getC at e
    cases q1 : k.get ρ with
    | none => rw [q1] at e; cases e
    | some p =>
      rw [q1] at e
      cases q2 : getC ks ρ with
      | none => rw [q2] at e; cases e
      | some qs =>
        rw [q2] at e; cases e
        exact .cons (r.get er q1) (PkRs.creps er t q2)
def PureRA (K : PySem.W.Frag) (r : List V → Hp → VK → Prop) (f : List PV → Option PV) : Prop := ∀ (L : Addr → Prop) (H : Hp) (xs : List V) (ps : List PV) (z : PV) (Q : VK), (∀ a, L a → H a ≠ none) → CReps K L H xs ps → f ps = some z → (∀ v H', Alc H H' → Rep K L H' v z → Q v H') → r xs H Q
def mFun (f : List PV → Option PV) (ma : MA) : ME := fun ρ => do
  let (ks, ρ1) ← ma ρ
  let ps ← Res.of (getC ks ρ1)
  let z ← Res.of (f ps)
  .ok (z, ρ1)
theorem fun_of {r : List V → Hp → VK → Prop} {f : List PV → Option PV} (hr : PureRA X.K r f) {σ : St} {H : Hp} {Q : VK} (h : Snd X E' (mFun f ma) σ H Q) : tCB r (SndA X E' ma) σ H Q := by
  obtain ⟨L, ρ, er, w⟩ := h
  refine ⟨L, ρ, er, ?_⟩
  unfold mFun at w
  cases q : ma ρ with
  | bad => rw [q] at w; exact w
  | err c xs => rw [q] at w; exact w
  | ok r =>
    obtain ⟨ks, ρ1⟩ := r
    rw [q] at w
    simp only [Res.ok_bind] at w
    intro vs H1 L1 e1 s1 r1
    cases g : getC ks ρ1 with
    | none => rw [g] at w; exact w.elim
    | some ps =>
      rw [g] at w
      simp only [Res.of_some, Res.ok_bind] at w
      cases g2 : f ps with
      | none => rw [g2] at w; exact w.elim
      | some z =>
        rw [g2] at w
        exact hr L1 H1 vs ps z Q e1.liv (r1.creps e1 g) g2 fun v H' al rz => w v H' L1 (e1.alc al) (s1.trans (.alc al)) rz
theorem snd_callB {r : List V → Hp → VK → Prop} {f : List PV → Option PV} {id : String} (hc : CallR X (.builtin id) r) (hr : PureRA X.K r f) (hg : Gl X x) (hm : X.mg x = none) (hv : bootBuiltins x = some (.builtin id)) (ha : PA X (e :: es) (SndA X E' ma)) (hn : x ≠ "__name__" := by decide) (hdb : (x == ("__debug__" : Str)) = false := by decide)
    (he : starEach (e :: es) X.env = (false, eval e X.env) :: starEach es X.env := by rfl) (hpl : (backTo pos (starEach es X.env)).any (·.1) = false := by rfl) : PE X (.Call (.Name x p) (e :: es) [] pos) (Snd X E' (mFun f ma)) :=
  PE.imp (pe_callB hc hg hm hv ha hn hdb he hpl) fun _ _ _ => fun_of hr
theorem snd_callTy {r : List V → Hp → VK → Prop} {f : List PV → Option PV} {T : String} (hc : CallR X (.type T) r) (hr : PureRA X.K r f) (hg : Gl X x) (hm : X.mg x = none) (hv : bootBuiltins x = some (.type T)) (ha : PA X (e :: es) (SndA X E' ma)) (hn : x ≠ "__name__" := by decide) (hdb : (x == ("__debug__" : Str)) = false := by decide)
    (he : starEach (e :: es) X.env = (false, eval e X.env) :: starEach es X.env := by rfl) (hpl : (backTo pos (starEach es X.env)).any (·.1) = false := by rfl) : PE X (.Call (.Name x p) (e :: es) [] pos) (Snd X E' (mFun f ma)) :=
  PE.imp (pe_callTy hc hg hm hv ha hn hdb he hpl) fun _ _ _ => fun_of hr
def fLen : List PV → Option PV
  | [.str s] => if s.length ≤ sizeLine then some (.int s.length) else none
  | [.tup l] => some (.int l.length)
  | [.lst l] => some (.int l.length)
  | [.scr l] => some (.int l.length)
  | _ => none
theorem CReps.one {K : PySem.W.Frag} {L : Addr → Prop} {H : Hp} {xs : List V} {p : PV} (h : CReps K L H xs [p]) : ∃ v, xs = [v] ∧ CRep K L H v p := by
  cases h with
  | cons r t => cases t; exact ⟨_, rfl, r⟩
theorem CReps.two {K : PySem.W.Frag} {L : Addr → Prop} {H : Hp} {xs : List V} {p q : PV} (h : CReps K L H xs [p, q]) : ∃ v w, xs = [v, w] ∧ CRep K L H v p ∧ CRep K L H w q := by
  cases h with
  | cons r t =>
    obtain ⟨w, rfl, r2⟩ := t.one
    exact ⟨_, _, rfl, r, r2⟩
theorem CRep.seq {K : PySem.W.Frag} {L : Addr → Prop} {H : Hp} {v : V} {l : List PV} (h : CRep K L H v (.lst l) ∨ CRep K L H v (.scr l)) : ∃ a xs, v = .ref a ∧ SqL K H a xs ∧ RepAll K L H xs l := by
  rcases h with ⟨a, xs, rfl, s, r⟩ | h
  · exact ⟨a, xs, rfl, .inl (.inl s), r⟩
  · cases (show Rep K L H v (.scr l) from h) with
    | scr s r => exact ⟨_, _, rfl, s.sq, r⟩
theorem pure_len {K : PySem.W.Frag} : PureRA K (fun xs H Q => ∃ x n, xs = [x] ∧ LenV K x H n ∧ Q (.int n) H) fLen := by
  intro L H xs ps z Q l a e k
  unfold fLen at e
  split at e
  · split at e
    · rename_i hz
      cases e
      obtain ⟨v, rfl, r⟩ := a.one
      cases r.str
      exact ⟨_, _, rfl, ⟨hz, rfl⟩, k _ H .refl (.int _)⟩
    · cases e
  · cases e
    obtain ⟨v, rfl, r⟩ := a.one
    obtain ⟨a, xs, rfl, s, rr⟩ := r.tup
    exact ⟨_, _, rfl, .inr ⟨xs, sq_of s, rr.length.symm⟩, k _ H .refl (.int _)⟩
  · cases e
    obtain ⟨v, rfl, r⟩ := a.one
    obtain ⟨a, xs, rfl, s, rr⟩ := CRep.seq (.inl r)
    exact ⟨_, _, rfl, .inl ⟨xs, s, rr.length.symm⟩, k _ H .refl (.int _)⟩
  · cases e
    obtain ⟨v, rfl, r⟩ := a.one
    obtain ⟨a, xs, rfl, s, rr⟩ := CRep.seq (.inr r)
    exact ⟨_, _, rfl, .inl ⟨xs, s, rr.length.symm⟩, k _ H .refl (.int _)⟩
  · cases e
def fAbs : List PV → Option PV
  | [.int i] => some (.int (if i < 0 then -i else i))
  | _ => none
theorem pure_abs {K : PySem.W.Frag} : PureRA K (fun xs H Q => ∃ i, xs = [.int i] ∧ Q (.int (if i < 0 then -i else i)) H) fAbs := by
  intro L H xs ps z Q l a e k
  unfold fAbs at e
  split at e
  · cases e
    obtain ⟨v, rfl, r⟩ := a.one
    cases r.int
    exact ⟨_, rfl, k _ H .refl (.int _)⟩
  · cases e
def fInt1 : List PV → Option PV
  | [.int i] => some (.int i)
  | _ => none
theorem pure_int1 {K : PySem.W.Frag} : PureRA K (fun xs H Q => (∃ i, xs = [.int i] ∧ Q (.int i) H) ∨ ∃ k, xs = [.bl k] ∧ Q (.int (if k then 1 else 0)) H) fInt1 := by
  intro L H xs ps z Q l a e k
  unfold fInt1 at e
  split at e
  · cases e
    obtain ⟨v, rfl, r⟩ := a.one
    cases r.int
    exact .inl ⟨_, rfl, k _ H .refl (.int _)⟩
  · cases e
def fListOf : List PV → Option PV
  | [.tup l] => some (.lst l)
  | [.lst l] => some (.lst l)
  | [.scr l] => some (.lst l)
  | _ => none
theorem pure_listOf {K : PySem.W.Frag} : PureRA K (fun xs H Q => ∃ p ys, xs = [.ref p] ∧ (SqL K H p ys ∨ SqT K H p ys) ∧ ∀ l, H l = none → Q (.ref l) (upd H l (.lst ys))) fListOf := by
  intro L H xs ps z Q l a e k
  unfold fListOf at e
  split at e
  · cases e
    obtain ⟨v, rfl, r⟩ := a.one
    obtain ⟨a, xs, rfl, s, rr⟩ := r.tup
    exact ⟨_, _, rfl, .inr (sq_of s), fun p hp => k _ _ (.upd hp) (new_lst hp l rr)⟩
  · cases e
    obtain ⟨v, rfl, r⟩ := a.one
    obtain ⟨a, xs, rfl, s, rr⟩ := CRep.seq (.inl r)
    exact ⟨_, _, rfl, .inl s, fun p hp => k _ _ (.upd hp) (new_lst hp l rr)⟩
  · cases e
    obtain ⟨v, rfl, r⟩ := a.one
    obtain ⟨a, xs, rfl, s, rr⟩ := CRep.seq (.inr r)
    exact ⟨_, _, rfl, .inl s, fun p hp => k _ _ (.upd hp) (new_lst hp l rr)⟩
  · cases e
def fTupOf : List PV → Option PV
  | [.tup l] => some (.tup l)
  | [.lst l] => some (.tup l)
  | [.scr l] => some (.tup l)
  | _ => none
theorem pure_tupOf {K : PySem.W.Frag} : PureRA K (fun xs H Q => ∃ p ys, xs = [.ref p] ∧ ((SqL K H p ys ∧ ∀ l, H l = none → Q (.ref l) (upd H l (.tup ys))) ∨ (SqT K H p ys ∧ Q (.ref p) H))) fTupOf := by
  intro L H xs ps z Q l a e k
  unfold fTupOf at e
  split at e
  · cases e
    obtain ⟨v, rfl, r⟩ := a.one
    obtain ⟨a, xs, rfl, s, rr⟩ := r.tup
    exact ⟨_, _, rfl, .inr ⟨sq_of s, k _ H .refl (.tup s rr)⟩⟩
  · cases e
    obtain ⟨v, rfl, r⟩ := a.one
    obtain ⟨a, xs, rfl, s, rr⟩ := CRep.seq (.inl r)
    exact ⟨_, _, rfl, .inl ⟨s, fun p hp => k _ _ (.upd hp) (new_tup hp l rr)⟩⟩
  · cases e
    obtain ⟨v, rfl, r⟩ := a.one
    obtain ⟨a, xs, rfl, s, rr⟩ := CRep.seq (.inr r)
    exact ⟨_, _, rfl, .inl ⟨s, fun p hp => k _ _ (.upd hp) (new_tup hp l rr)⟩⟩
  · cases e
/-- the bools of a list -/
def bls : List PV → Option (List Bool)
  | [] => some []
  | .bl b :: r => (bls r).map (b :: ·)
  | _ => none
theorem bls_of {K : PySem.W.Frag} {L : Addr → Prop} {H : Hp} : ∀ {xs : List V} {l : List PV} {bs : List Bool}, RepAll K L H xs l → bls l = some bs → xs = bs.map V.bl
  | _, _, _, .nil, e => by cases e; rfl
  | _, _, _, .cons (p := p) r t, e => by
    cases p with
    | bl b =>
      obtain ⟨bs, h1, rfl⟩ := Option.map_eq_some_iff.mp (show (bls _).map (b :: ·) = some _ from e)
      cases r
      rw [bls_of t h1]; rfl
    | _ => cases e
def fAny : List PV → Option PV
  | [.lst l] => (bls l).map fun bs => .bl (bs.any id)
  | _ => none
def fAll : List PV → Option PV
  | [.lst l] => (bls l).map fun bs => .bl (bs.all id)
  | _ => none
theorem pure_any {K : PySem.W.Frag} : PureRA K (rAny K) fAny := by
  intro L H xs ps z Q l a e k
  unfold fAny at e
  split at e
  · obtain ⟨bs, h1, rfl⟩ := Option.map_eq_some_iff.mp e
    obtain ⟨v, rfl, r⟩ := a.one
    obtain ⟨a, xs, rfl, s, rr⟩ := CRep.seq (.inl r)
    obtain rfl := bls_of rr h1
    exact ⟨_, _, rfl, s, k _ H .refl (.bl _)⟩
  · cases e
theorem pure_all {K : PySem.W.Frag} : PureRA K (rAll K) fAll := by
  intro L H xs ps z Q l a e k
  unfold fAll at e
  split at e
  · obtain ⟨bs, h1, rfl⟩ := Option.map_eq_some_iff.mp e
    obtain ⟨v, rfl, r⟩ := a.one
    obtain ⟨a, xs, rfl, s, rr⟩ := CRep.seq (.inl r)
    obtain rfl := bls_of rr h1
    exact ⟨_, _, rfl, s, k _ H .refl (.bl _)⟩
  · cases e
/-! ### methods of texts -/
def isStr : PV → Bool
  | .str _ => true
  | _ => false
def mStrM (f : List PV → Option PV) (mo : MP) (ma : MA) : ME := fun ρ => do
  let (k, ρ1) ← mo ρ
  let p ← Res.of (k.get ρ1)
  let _ ← okIf (isStr p)
  let (ks, ρ2) ← ma ρ1
  let ps ← Res.of (getC ks ρ2)
  let z ← Res.of (f (p :: ps))
  .ok (z, ρ2)
theorem strM_of {r : V → List V → Hp → VK → Prop} {f : List PV → Option PV} (hr : PureRA X.K (fun xs H Q => match xs with | x :: xs => r x xs H Q | [] => False) f) {σ : St} {H : Hp} {Q : VK} (h : Snd X E' (mStrM f mp ma) σ H Q) : tBM X.K "str" r (SndP X E' mp) (SndA X E' ma) σ H Q := by
  obtain ⟨L, ρ, er, w⟩ := h
  refine ⟨L, ρ, er, ?_⟩
  unfold mStrM at w
  cases q : mp ρ with
  | bad => rw [q] at w; exact w
  | err c xs => rw [q] at w; exact w
  | ok r =>
    obtain ⟨k, ρ1⟩ := r
    rw [q] at w
    simp only [Res.ok_bind] at w
    intro v H1 L1 e1 s1 r1
    cases g : k.get ρ1 with
    | none => rw [g] at w; exact w.elim
    | some p =>
      rw [g] at w
      simp only [Res.of_some, Res.ok_bind] at w
      cases p with
      | str s =>
        obtain rfl := (r1.get e1 g).str
        simp only [isStr, okIf, if_true, Res.ok_bind] at w
        refine ⟨rfl, L1, ρ1, e1, ?_⟩
        cases q2 : ma ρ1 with
        | bad => rw [q2] at w; exact w
        | err c xs => rw [q2] at w; exact Fails.after w s1
        | ok r =>
          obtain ⟨ks, ρ2⟩ := r
          rw [q2] at w
          simp only [Res.ok_bind] at w
          intro vs H2 L2 e2 s2 r2
          cases g2 : getC ks ρ2 with
          | none => rw [g2] at w; exact w.elim
          | some ps =>
            rw [g2] at w
            simp only [Res.of_some, Res.ok_bind] at w
            cases g3 : f (.str s :: ps) with
            | none => rw [g3] at w; exact w.elim
            | some z =>
              rw [g3] at w
              exact hr L2 H2 (.str s :: vs) (.str s :: ps) z Q e2.liv (.cons (Rep.c (.str s)) (r2.creps e2 g2)) g3 fun v H' al rz => w v H' L2 (e2.alc al) ((s1.trans s2).trans (.alc al)) rz
      | _ => exact w.elim
theorem snd_strM {r : V → List V → Hp → VK → Prop} {f : List PV → Option PV} {name : Str} {id : String} (slot : Slot "str" name id) (hty : typeOf (.builtin id) = pure (.type "method_descriptor")) (hm : MtR X id r) (hr : PureRA X.K (fun xs H Q => match xs with | x :: xs => r x xs H Q | [] => False) f) (ho : PE X o (SndP X E' mp)) (ha : PA X (e :: es) (SndA X E' ma))
    (hbase : attributeBase o name X.env (eval o X.env) = eval o X.env := by rfl)
    (hfew : ((backTo cpos (starEach (e :: es) X.env)).all (fun x => !x.1) && (backToKw cpos (keywordEach [] X.env)).all (fun x => x.1.isSome)
      && decide ((e :: es).length + ([] : List Keyword).length + (if ([] : List Keyword).isEmpty then 0 else 1) < 30)) = true := by rfl)
    (hline : (apos.endLine == cpos.line) = true := by rfl) (hs : starEach (e :: es) X.env = (false, eval e X.env) :: starEach es X.env := by rfl) (hplain : (backTo cpos (starEach es X.env)).any (·.1) = false := by rfl) :
    PE X (.Call (.Attribute o name apos) (e :: es) [] cpos) (Snd X E' (mStrM f mp ma)) :=
  PE.imp (pe_bm PySem.F.plainAttrs_str slot hty hm ho ha hbase hfew hline hs hplain) fun _ _ _ => strM_of hr
def fSw : List PV → Option PV
  | [.str a, .str b] => some (.bl (Txt.startswith a b))
  | _ => none
theorem pure_sw {K : PySem.W.Frag} : PureRA K (fun xs H Q => match xs with | x :: xs => (∃ a b, x = .str a ∧ xs = [.str b] ∧ Q (.bl (Txt.startswith a b)) H) | [] => False) fSw := by
  intro L H xs ps z Q l a e k
  unfold fSw at e
  split at e
  · cases e
    obtain ⟨v, w, rfl, r1, r2⟩ := a.two
    cases r1.str; cases r2.str
    exact ⟨_, _, rfl, rfl, k _ H .refl (.bl _)⟩
  · cases e
def fSw3 : List PV → Option PV
  | [.str a, .str b, .int i] => some (.bl (Txt.startswith3 a b i))
  | _ => none
theorem pure_sw3 {K : PySem.W.Frag} : PureRA K (fun xs H Q => match xs with | x :: xs => (∃ (a b : Str) (i : Int), x = .str a ∧ xs = [.str b, .int i] ∧ Q (.bl (Txt.startswith3 a b i)) H) | [] => False) fSw3 := by
  intro L H xs ps z Q l a e k
  unfold fSw3 at e
  split at e
  · cases e
    cases a with
    | cons r0 t =>
      obtain ⟨v, w, rfl, r1, r2⟩ := t.two
      cases r0.str; cases r1.str; cases r2.int
      exact ⟨_, _, _, rfl, rfl, k _ H .refl (.bl _)⟩
  · cases e
/-- the texts of a list -/
def txs : List PV → Option (List Str)
  | [] => some []
  | .str b :: r => (txs r).map (b :: ·)
  | _ => none
theorem txs_of {K : PySem.W.Frag} {L : Addr → Prop} {H : Hp} : ∀ {xs : List V} {l : List PV} {bs : List Str}, RepAll K L H xs l → txs l = some bs → xs = bs.map V.str
  | _, _, _, .nil, e => by cases e; rfl
  | _, _, _, .cons (p := p) r t, e => by
    cases p with
    | str b =>
      obtain ⟨bs, h1, rfl⟩ := Option.map_eq_some_iff.mp (show (txs _).map (b :: ·) = some _ from e)
      cases r
      rw [txs_of t h1]; rfl
    | _ => cases e
def joinP (a : Str) (l : List PV) : Option PV := (txs l).bind fun ys => if (ys.map (·.length)).sum + ys.length * a.length ≤ 16777216 then some (.str (Txt.join a ys)) else none
def fJoin : List PV → Option PV
  | [.str a, .lst l] => joinP a l
  | [.str a, .tup l] => joinP a l
  | _ => none
theorem pure_join {K : PySem.W.Frag} : PureRA K (fun xs H Q => match xs with | x :: xs => (∃ a p, ∃ ys : List Str, x = .str a ∧ xs = [.ref p] ∧ (SqL K H p (ys.map V.str) ∨ SqT K H p (ys.map V.str)) ∧
    (ys.map (·.length)).sum + ys.length * a.length ≤ 16777216 ∧ Q (.str (Txt.join a ys)) H) | [] => False) fJoin := by
  intro L H xs ps z Q l a e k
  unfold fJoin at e
  split at e
  · obtain ⟨ys, h1, h2⟩ := Option.bind_eq_some_iff.mp (show (txs _).bind _ = some z from e)
    split at h2
    · rename_i hz
      cases h2
      obtain ⟨v, w, rfl, r1, r2⟩ := a.two
      cases r1.str
      obtain ⟨a, xs, rfl, s, rr⟩ := CRep.seq (.inl r2)
      obtain rfl := txs_of rr h1
      exact ⟨_, _, ys, rfl, rfl, .inl s, hz, k _ H .refl (.str _)⟩
    · cases h2
  · obtain ⟨ys, h1, h2⟩ := Option.bind_eq_some_iff.mp (show (txs _).bind _ = some z from e)
    split at h2
    · rename_i hz
      cases h2
      obtain ⟨v, w, rfl, r1, r2⟩ := a.two
      cases r1.str
      obtain ⟨a, xs, rfl, s, rr⟩ := r2.tup
      obtain rfl := txs_of rr h1
      exact ⟨_, _, ys, rfl, rfl, .inr (sq_of s), hz, k _ H .refl (.str _)⟩
    · cases h2
  · cases e
/-! ### a op b op c -/
def mChain (f g : PV → PV → Option PV) (ma mb mc : MP) : ME := fun ρ => do
  let (k1, ρ1) ← ma ρ
  let (k2, ρ2) ← mb ρ1
  let x ← Res.of (k1.get ρ2)
  let y ← Res.of (k2.get ρ2)
  let t ← Res.of (f x y)
  match t with
  | .bl true => do
    let (k3, ρ3) ← mc ρ2
    let y' ← Res.of (k2.get ρ3)
    let w ← Res.of (k3.get ρ3)
    let z ← Res.of (g y' w)
    .ok (z, ρ3)
  | .bl false => .ok (.bl false, ρ2)
  | _ => .bad
theorem chain_of {r r' : R2} {f g : PV → PV → Option PV} (hr : PureR2 X.K r f) (hr' : PureR2 X.K r' g) {σ : St} {H : Hp} {Q : VK} (h : Snd X E' (mChain f g mp mq mr) σ H Q) : tChain r r' (SndP X E' mp) (SndP X E' mq) (SndP X E' mr) σ H Q := by
  obtain ⟨L, ρ, er, w⟩ := h
  refine ⟨L, ρ, er, ?_⟩
  unfold mChain at w
  cases q1 : mp ρ with
  | bad => rw [q1] at w; exact w
  | err c xs => rw [q1] at w; exact w
  | ok r1 =>
    obtain ⟨k1, ρ1⟩ := r1
    rw [q1] at w
    simp only [Res.ok_bind] at w
    intro x H1 L1 e1 s1 p1
    refine ⟨L1, ρ1, e1, ?_⟩
    cases q2 : mq ρ1 with
    | bad => rw [q2] at w; exact w
    | err c xs => rw [q2] at w; exact Fails.after w s1
    | ok r2 =>
      obtain ⟨k2, ρ2⟩ := r2
      rw [q2] at w
      simp only [Res.ok_bind] at w
      intro y H2 L2 e2 s2 p2
      cases g1 : k1.get ρ2 with
      | none => rw [g1] at w; exact w.elim
      | some pp =>
        rw [g1] at w
        cases g2 : k2.get ρ2 with
        | none => rw [g2] at w; exact w.elim
        | some qq =>
          rw [g2] at w
          simp only [Res.of_some, Res.ok_bind] at w
          cases g3 : f pp qq with
          | none => rw [g3] at w; exact w.elim
          | some t =>
            rw [g3] at w
            simp only [Res.of_some, Res.ok_bind] at w
            refine hr L2 H2 x y pp qq t _ e2.liv ((p1.keep (s2.keeps e1)).get e2 g1) (p2.get e2 g2) g3 fun v H3 al rep => ?_
            have e3 := e2.alc al
            have s3 := (s1.trans s2).trans (.alc al)
            cases t with
            | bl b =>
              cases rep
              refine ⟨b, rfl, ?_⟩
              cases b with
              | false => exact w _ H3 L2 e3 s3 (.bl _)
              | true =>
                rw [if_pos rfl]
                simp only at w
                refine ⟨L2, ρ2, e3, ?_⟩
                cases q3 : mr ρ2 with
                | bad => rw [q3] at w; exact w
                | err c xs => rw [q3] at w; exact Fails.after w s3
                | ok r2 =>
                  obtain ⟨k3, ρ3⟩ := r2
                  rw [q3] at w
                  simp only [Res.ok_bind] at w
                  intro u H4 L4 e4 s4 p4
                  cases g4 : k2.get ρ3 with
                  | none => rw [g4] at w; exact w.elim
                  | some y2 =>
                    rw [g4] at w
                    cases g5 : k3.get ρ3 with
                    | none => rw [g5] at w; exact w.elim
                    | some z2 =>
                      rw [g5] at w
                      simp only [Res.of_some, Res.ok_bind] at w
                      cases g6 : g y2 z2 with
                      | none => rw [g6] at w; exact w.elim
                      | some z =>
                        rw [g6] at w
                        exact hr' L4 H4 y u y2 z2 z Q e4.liv (((p2.keep (.alc al)).keep (s4.keeps e3)).get e4 g4) (p4.get e4 g5) g6 fun v' H' al' rz => w v' H' L4 (e4.alc al') ((s3.trans s4).trans (.alc al')) rz
            | _ => exact w.elim
theorem snd_chain {op op' : CmpOp} {r r' : R2} {f g : PV → PV → Option PV} (ho : OpR X (compareOp op) r) (hr : PureR2 X.K r f) (ho' : OpR X (compareOp op') r') (hr' : PureR2 X.K r' g) (ha : PE X a (SndP X E' mp)) (hb : PE X b (SndP X E' mq)) (hc : PE X c (SndP X E' mr))
    (hm : lastMarks [op, op'] [b, c] = false := by with_unfolding_all rfl) : PE X (.Compare a [op, op'] [b, c] pos) (Snd X E' (mChain f g mp mq mr)) := PE.imp (pe_chain ho ho' ha hb hc hm) fun _ _ _ => chain_of hr hr'
theorem snd_tchain {op op' : CmpOp} {r r' : R2} {f g : PV → PV → Option PV} (ho : OpR X (compareOp op) r) (hr : PureR2 X.K r f) (ho' : OpR X (compareOp op') r') (hr' : PureR2 X.K r' g) (ha : PE X a (SndP X E' mp)) (hb : PE X b (SndP X E' mq)) (hc : PE X c (SndP X E' mr))
    (hm : lastMarks [op, op'] [b, c] = false := by with_unfolding_all rfl) : PT X (.Compare a [op, op'] [b, c] pos) (SndT X E' (mtB (mChain f g mp mq mr))) := PT.imp (pt_chain ho ho' ha hb hc hm) fun σ H Q w => by
  obtain ⟨L, ρ, er, k⟩ := mtB_of w
  exact chain_of hr hr' ⟨L, ρ, er, k⟩
end
end PL
/-! PL12: list comprehensions. -/
namespace PL
open PySem PySem.Spec L2
def wipeE (ρ : Ev) : List Nat → Ev
  | [] => ρ
  | v :: vs => (wipeE ρ vs).set v .no
def backE (ρ1 ρ : Ev) : List Nat → Ev
  | [] => ρ
  | v :: vs => (backE ρ1 ρ vs).set v ((ρ1[v]?).getD .no)
def noOwn : Option Sl → Bool
  | some (.own _ _) => false
  | _ => true
def Res.nf {α : Type} : Res α → Res α
  | .ok a => .ok a
  | _ => .bad
def mtYes : MT := fun ρ => .ok (true, ρ)
def compF (g : MG) (t : MT) (e : ME) (vs : List Nat) : List PV → Ev → List PV → Res (List PV × Ev)
  | [], ρ, acc => .ok (acc, ρ)
  | p :: ps, ρ, acc => do
    let ρ2 ← Res.of (g p ρ)
    let (b, ρ3) ← (t ρ2).nf
    if b then do
      let (y, ρ4) ← (e ρ3).nf
      if acc.length < sizeLine then compF g t e vs ps (wipeE ρ4 vs) (acc ++ [y]) else .bad
    else compF g t e vs ps (wipeE ρ3 vs) acc
theorem Res.nf_ne {α : Type} (r : Res α) {c : Str} {xs : List (Str × PV)} : r.nf ≠ .err c xs := by cases r <;> simp [Res.nf]
theorem compF_ne (g : MG) (t : MT) (e : ME) (vs : List Nat) {c : Str} {xs : List (Str × PV)} : ∀ {ps : List PV} {ρ : Ev} {acc : List PV}, compF g t e vs ps ρ acc ≠ .err c xs
  | [], ρ, acc => by simp [compF]
  | p :: ps, ρ, acc => by
    unfold compF
    cases g p ρ with
    | none => simp
    | some ρ2 =>
      simp only [Res.of_some, Res.ok_bind]
      cases q : (t ρ2).nf with
      | bad => simp
      | err c xs => exact absurd q (Res.nf_ne _)
      | ok r =>
        obtain ⟨b, ρ3⟩ := r
        simp only [Res.ok_bind]
        cases b with
        | false => rw [if_neg Bool.false_ne_true]; exact compF_ne g t e vs
        | true =>
          rw [if_pos rfl]
          cases q2 : (e ρ3).nf with
          | bad => simp
          | err c xs => exact absurd q2 (Res.nf_ne _)
          | ok r =>
            obtain ⟨y, ρ4⟩ := r
            simp only [Res.ok_bind]
            split
            · exact compF_ne g t e vs
            · simp
def itL : PV → Option (List PV)
  | .lst l => some l
  | .scr l => some l
  | _ => none
def itT : PV → Option (List PV)
  | .tup l => some l
  | _ => none
def mLc (it : PV → Option (List PV)) (mi : ME) (g : MG) (t : MT) (e : ME) (vs : List Nat) : MC := fun ρ => do
  let (p, ρ1) ← mi ρ
  let ps ← Res.of (it p)
  let _ ← okIf (vs.all fun v => noOwn ρ1[v]?)
  let (ys, ρ2) ← compF g t e vs ps (wipeE ρ1 vs) []
  .ok (.own (.lst ys), backE ρ1 ρ2 vs)
section
variable {K : PySem.W.Frag} {L L' L1 : Addr → Prop} {H H' H1 : Hp} {σ σ' : St} {ρ ρ' ρ1 : Ev} {vs : List Nat}
theorem wipe_ne : ∀ {vs : List Nat} {j : Nat}, j ∉ vs → (wipe σ vs)[j]? = σ[j]?
  | [], _, _ => rfl
  | v :: vs, j, h => by
    unfold wipe
    rw [List.getElem?_set_ne (fun z => h (by rw [z]; exact List.mem_cons_self ..))]
    exact wipe_ne fun z => h (List.mem_cons_of_mem _ z)
theorem wipeE_len (ρ : Ev) : ∀ vs : List Nat, (wipeE ρ vs).length = ρ.length
  | [] => rfl
  | v :: vs => by unfold wipeE; rw [List.length_set, wipeE_len ρ vs]
theorem wipeE_ne : ∀ {vs : List Nat} {j : Nat}, j ∉ vs → (wipeE ρ vs)[j]? = ρ[j]?
  | [], _, _ => rfl
  | v :: vs, j, h => by
    unfold wipeE
    rw [List.getElem?_set_ne (fun z => h (by rw [z]; exact List.mem_cons_self ..))]
    exact wipeE_ne fun z => h (List.mem_cons_of_mem _ z)
theorem wipeE_some : ∀ {vs : List Nat} {j : Nat} {s : Sl}, (wipeE ρ vs)[j]? = some s → s ≠ .no → ρ[j]? = some s ∧ j ∉ vs
  | [], j, s, h, _ => ⟨h, by simp⟩
  | v :: vs, j, s, h, hn => by
    unfold wipeE at h
    by_cases hj : v = j
    · subst hj
      by_cases hv : v < (wipeE ρ vs).length
      · rw [List.getElem?_set_self hv] at h; cases h; exact absurd rfl hn
      · rw [List.getElem?_eq_none (by simpa using hv)] at h; cases h
    · rw [List.getElem?_set_ne hj] at h
      obtain ⟨h1, h2⟩ := wipeE_some h hn
      exact ⟨h1, by simp only [List.mem_cons, not_or]; exact ⟨fun z => hj z.symm, h2⟩⟩
theorem backE_len (ρ1 ρ : Ev) : ∀ vs : List Nat, (backE ρ1 ρ vs).length = ρ.length
  | [] => rfl
  | v :: vs => by unfold backE; rw [List.length_set, backE_len ρ1 ρ vs]
theorem backE_ne : ∀ {vs : List Nat} {j : Nat}, j ∉ vs → (backE ρ1 ρ vs)[j]? = ρ[j]?
  | [], _, _ => rfl
  | v :: vs, j, h => by
    unfold backE
    rw [List.getElem?_set_ne (fun z => h (by rw [z]; exact List.mem_cons_self ..))]
    exact backE_ne fun z => h (List.mem_cons_of_mem _ z)
theorem backE_in (hl : ρ.length = ρ1.length) : ∀ {vs : List Nat} {j : Nat}, j ∈ vs → (backE ρ1 ρ vs)[j]? = ρ1[j]?
  | [], _, h => absurd h (by simp)
  | v :: vs, j, h => by
    unfold backE
    by_cases hj : v = j
    · subst hj
      by_cases hv : v < ρ1.length
      · rw [List.getElem?_set_self (by rw [backE_len, hl]; exact hv)]
        rw [List.getElem?_eq_getElem hv]; rfl
      · rw [List.getElem?_eq_none (by rw [List.length_set, backE_len, hl]; omega), List.getElem?_eq_none (by omega)]
    · rw [List.getElem?_set_ne hj]
      rcases List.mem_cons.mp h with e | h
      · exact absurd e.symm hj
      · exact backE_in hl h
theorem EnvR.wipe (er : EnvR K L H σ ρ) (vs : List Nat) : EnvR K L H (wipe σ vs) (wipeE ρ vs) where
  len := by rw [wipe_length, wipeE_len]; exact er.len
  pvs := fun i p h => by
    obtain ⟨h1, h2⟩ := wipeE_some h (by simp)
    obtain ⟨v, z1, z2⟩ := er.pvs i p h1
    exact ⟨v, by rw [wipe_ne h2]; exact z1, z2⟩
  own := fun i b o h => by
    obtain ⟨h1, h2⟩ := wipeE_some h (by simp)
    obtain ⟨v, z1, z2, z3⟩ := er.own i b o h1
    exact ⟨v, by rw [wipe_ne h2]; exact z1, z2, z3⟩
  dis := fun i j b b' o o' a h1 h2 s1 s2 => by
    obtain ⟨y1, y2⟩ := wipeE_some h1 (by simp)
    obtain ⟨y3, y4⟩ := wipeE_some h2 (by simp)
    rw [wipe_ne y2] at s1
    rw [wipe_ne y4] at s2
    exact er.dis i j b b' o o' a y1 y3 s1 s2
  liv := er.liv
theorem OA.wipe {a : Addr} (h : OA (wipe σ vs) (wipeE ρ vs) a) : OA σ ρ a := by
  obtain ⟨i, b, o, h1, h2⟩ := h
  obtain ⟨y1, y2⟩ := wipeE_some h1 (by simp)
  rw [wipe_ne y2] at h2
  exact ⟨i, b, o, y1, h2⟩
theorem Stp.wipe (s : Stp σ ρ L H σ' ρ' L' H') (hv : ∀ (i : Nat) (b : Bool) (o : Own), ρ[i]? = some (Sl.own b o) → i ∉ vs) : Stp σ ρ L H (L2.wipe σ' vs) (wipeE ρ' vs) L' H' where
  ext := s.ext
  oa := fun a h => s.oa a h.wipe
  pin := fun i o h => by
    obtain ⟨h1, o', h2⟩ := s.pin i o h
    have n := hv i true o h
    exact ⟨by rw [wipe_ne n]; exact h1, o', by rw [wipeE_ne n]; exact h2⟩
  len := by rw [wipeE_len]; exact s.len
/-- behind the block -/
theorem env_back (e1 : EnvR K L1 H1 σ ρ1) (hn : ∀ v ∈ vs, noOwn ρ1[v]? = true) (er : EnvR K L H (wipe σ vs) ρ) (s : Stp (wipe σ vs) (wipeE ρ1 vs) L1 H1 (wipe σ vs) ρ L H) : EnvR K L H σ (backE ρ1 ρ vs) ∧ Stp σ ρ1 L1 H1 σ (backE ρ1 ρ vs) L H := by
  have hl : ρ.length = ρ1.length := s.len.trans (wipeE_len _ _)
  have ew : EnvR K L1 H1 (wipe σ vs) (wipeE ρ1 vs) := e1.wipe vs
  have kk := s.keeps ew
  have own : ∀ {i : Nat} {b : Bool} {o : Own}, (backE ρ1 ρ vs)[i]? = some (Sl.own b o) → ρ[i]? = some (Sl.own b o) ∧ i ∉ vs := fun {i b o} h => by
    by_cases hi : i ∈ vs
    · rw [backE_in hl hi] at h
      have := hn i hi
      rw [h] at this; cases this
    · rw [backE_ne hi] at h; exact ⟨h, hi⟩
  refine ⟨⟨by rw [backE_len, hl]; exact e1.len, fun i p h => ?_, fun i b o h => ?_, fun i j b b' o o' a h1 h2 s1 s2 => ?_, er.liv⟩, ⟨fun a u q n => s.ext a u q fun z => n z.wipe, fun a h => ?_, fun i o h => ?_, by rw [backE_len]; exact hl⟩⟩
  · by_cases hi : i ∈ vs
    · rw [backE_in hl hi] at h
      obtain ⟨v, z1, z2⟩ := e1.pvs i p h
      exact ⟨v, z1, z2.keep kk⟩
    · rw [backE_ne hi] at h
      obtain ⟨v, z1, z2⟩ := er.pvs i p h
      rw [wipe_ne hi] at z1
      exact ⟨v, z1, z2⟩
  · obtain ⟨h1, h2⟩ := own h
    obtain ⟨a, z1, z2, z3⟩ := er.own i b o h1
    rw [wipe_ne h2] at z1
    exact ⟨a, z1, z2, z3⟩
  · obtain ⟨y1, y2⟩ := own h1
    obtain ⟨y3, y4⟩ := own h2
    exact er.dis i j b b' o o' a y1 y3 (by rw [wipe_ne y2]; exact s1) (by rw [wipe_ne y4]; exact s2)
  · obtain ⟨i, b, o, h1, h2⟩ := h
    obtain ⟨y1, y2⟩ := own h1
    rcases s.oa a ⟨i, b, o, y1, by rw [wipe_ne y2]; exact h2⟩ with z | z
    · exact .inl z.wipe
    · exact .inr z
  · have ni : i ∉ vs := fun z => by
      have := hn i z
      rw [h] at this; cases this
    obtain ⟨_, o', h2⟩ := s.pin i o (by rw [wipeE_ne ni]; exact h)
    exact ⟨rfl, o', by rw [backE_ne ni]; exact h2⟩
/-- an object that no slot holds is written -/
theorem EnvR.side {D : Addr} {u : HO} (er : EnvR K L H σ ρ) (lD : L D) (nD : ¬ OA σ ρ D) : EnvR K L (upd H D u) σ ρ where
  len := er.len
  pvs := fun i p h => let ⟨v, z1, z2⟩ := er.pvs i p h; ⟨v, z1, z2.keep (.of fun a w q n => ⟨(upd_ne fun z => n (by rw [z]; exact lD)).trans q, n⟩)⟩
  own := fun i b o h => by
    obtain ⟨a, z1, z2, z3⟩ := er.own i b o h
    have ne : a ≠ D := fun z => nD ⟨i, b, o, h, by rw [← z]; exact z1⟩
    exact ⟨a, z1, z2, z3.keep (.of fun a w q n => ⟨(upd_ne fun z => n (by rw [z]; exact lD)).trans q, n⟩) (upd_ne ne)⟩
  dis := er.dis
  liv := fun a l => by
    by_cases e : a = D
    · rw [e, upd_same]; simp
    · rw [upd_ne e]; exact er.liv a l
end
theorem wipe_in {τ : St} : ∀ {vs : List Nat} {j : Nat}, j ∈ vs → (wipe τ vs)[j]? = if j < τ.length then some none else none
  | [], _, h => absurd h (by simp)
  | v :: vs, j, h => by
    unfold wipe
    by_cases e : v = j
    · subst e
      by_cases hv : v < τ.length
      · rw [List.getElem?_set_self (by rw [wipe_length]; exact hv), if_pos hv]
      · rw [List.getElem?_eq_none (by rw [List.length_set, wipe_length]; omega), if_neg hv]
    · rw [List.getElem?_set_ne e]
      rcases List.mem_cons.mp h with z | h
      · exact absurd z.symm e
      · exact wipe_in h
/-- between two turns -/
structure Mid (K : PySem.W.Frag) (σ : St) (ρ1 : Ev) (L1 : Addr → Prop) (H1 : Hp) (vs : List Nat) (D : Addr) (ac : List V) (acc : List PV) (ρ : Ev) (L : Addr → Prop) (H : Hp) : Prop where
  env : EnvR K L H (wipe σ vs) ρ
  stp : Stp (wipe σ vs) (wipeE ρ1 vs) L1 H1 (wipe σ vs) ρ L H
  noV : ∀ (i : Nat) (b : Bool) (o : Own), ρ[i]? = some (Sl.own b o) → i ∉ vs
  lD : L D
  nD : ¬ OA (wipe σ vs) ρ D
  hD : H D = some (.lst ac)
  rep : RepAll K L H ac acc
section
variable {X : Cx} {Y : Cx} {E' : St → XK} {σ : St} {ρ1 : Ev} {L1 : Addr → Prop} {H1 : Hp} {vs : List Nat} {D : Addr} {g : MG} {t : MT} {m : ME} {T : List Nat}
abbrev EF : St → XK := fun _ _ _ _ => False
/-- one turn -/
theorem comp_turn {ac : List V} {acc : List PV} {ρ : Ev} {L : Addr → Prop} {H : Hp} {x : V} {p : PV} {ps : List PV} {F : List PV × Ev} {N : Hp → Prop} (M : Mid X.K σ ρ1 L1 H1 vs D ac acc ρ L H) (hT : ∀ i ∈ T, i ∈ vs) (hD1 : H1 D = none) (rx : Rep X.K L H x p) (w : compF g t m vs (p :: ps) ρ acc = .ok F)
    (hY : Y.K = X.K) (hg : Y.mg = X.mg) (hN : ∀ H' L' ρ' ac' acc', Mid X.K σ ρ1 L1 H1 vs D ac' acc' ρ' L' H' → Keeps L H L' H' → compF g t m vs ps ρ' acc' = .ok F → N H') :
    SndG Y T g x (wipe σ vs) H fun σ2 H2 => wipe σ2 vs = wipe σ vs ∧ SndT Y EF t σ2 H2 fun b H3 => if b = true then Snd Y EF m σ2 H3 fun y H4 => ∃ acc, H4 D = some (.lst acc) ∧ acc.length < sizeLine ∧ N (upd H4 D (.lst (acc ++ [y]))) else N H3 := by
  unfold compF at w
  cases g1 : g p ρ with
  | none => rw [g1] at w; cases w
  | some ρ2 =>
    rw [g1] at w
    simp only [Res.of_some, Res.ok_bind] at w
    refine ⟨L, ρ, p, by rw [hY]; exact M.env, by rw [hY]; exact rx, ρ2, g1, fun σ2 e2 s2 t2 => ?_⟩
    rw [hY] at e2
    have hw : wipe σ2 vs = wipe σ vs := by
      have hl : σ2.length = σ.length := by
        have h1 := e2.len
        have h2 := s2.len
        have h3 := M.env.len
        rw [wipe_length] at h3
        omega
      refine List.ext_getElem? fun j => ?_
      by_cases hj : j ∈ vs
      · rw [wipe_in hj, wipe_in hj, hl]
      · rw [wipe_ne hj, wipe_ne hj, t2 j fun z => hj (hT j z), wipe_ne hj]
    refine ⟨hw, L, ρ2, by rw [hY]; exact e2, ?_⟩
    cases q : t ρ2 with
    | bad => rw [q] at w; cases w
    | err c xs => rw [q] at w; cases w
    | ok r =>
      obtain ⟨b, ρ3⟩ := r
      rw [q] at w
      simp only [Res.nf, Res.ok_bind] at w
      intro H3 L3 e3 s3
      rw [hY] at e3
      have s23 := s2.trans s3
      -- what a step from the turn's start leaves of the middle
      have mid : ∀ {ρ' : Ev} {L' : Addr → Prop} {H' : Hp}, EnvR X.K L' H' σ2 ρ' → Stp (wipe σ vs) ρ L H σ2 ρ' L' H' → Mid X.K σ ρ1 L1 H1 vs D ac acc (wipeE ρ' vs) L' H' := fun {ρ' L' H'} e' s' => by
        obtain ⟨z1, z2⟩ := s'.ext D _ M.hD M.nD
        have ew := e'.wipe vs
        have sw := s'.wipe M.noV
        rw [hw] at ew sw
        refine ⟨ew, M.stp.trans sw, fun i b o h => (wipeE_some h (by simp)).2, z2.mp M.lD, fun h => ?_, z1, M.rep.keep (s'.keeps M.env)⟩
        rcases sw.oa D h with h | h
        · exact M.nD h
        · rw [M.hD] at h; cases h
      cases b with
      | false =>
        rw [if_neg Bool.false_ne_true] at w
        rw [if_neg Bool.false_ne_true]
        exact hN H3 L3 _ ac acc (mid e3 s23) (s23.keeps M.env) w
      | true =>
        rw [if_pos rfl] at w
        rw [if_pos rfl]
        refine ⟨L3, ρ3, by rw [hY]; exact e3, ?_⟩
        cases q2 : m ρ3 with
        | bad => rw [q2] at w; cases w
        | err c xs => rw [q2] at w; cases w
        | ok r =>
          obtain ⟨y, ρ4⟩ := r
          rw [q2] at w
          simp only [Res.nf, Res.ok_bind] at w
          intro v H4 L4 e4 s4 r4
          rw [hY] at e4 r4
          have s24 := s23.trans s4
          have M4 := mid e4 s24
          by_cases hz : acc.length < sizeLine
          · rw [if_pos hz] at w
            have kD : Keeps L4 H4 L4 (upd H4 D (.lst (ac ++ [v]))) := .of fun a w q n => ⟨(upd_ne fun z => n (by rw [z]; exact M4.lD)).trans q, n⟩
            refine ⟨ac, M4.hD, by rw [M4.rep.length]; exact hz, hN _ L4 _ (ac ++ [v]) (acc ++ [y]) ⟨M4.env.side M4.lD M4.nD, ⟨fun a u q n => ?_, M4.stp.oa, M4.stp.pin, M4.stp.len⟩, M4.noV, M4.lD, M4.nD, upd_same, (M4.rep.append (.cons r4 .nil)).keep kD⟩ ((s24.keeps M.env).trans kD) w⟩
            have ne : a ≠ D := fun z => by rw [z, hD1] at q; cases q
            obtain ⟨z1, z2⟩ := M4.stp.ext a u q n
            exact ⟨(upd_ne ne).trans z1, z2⟩
          · rw [if_neg hz] at w; cases w
end
theorem mid_start {K : PySem.W.Frag} {L : Addr → Prop} {H : Hp} {σ : St} {ρ : Ev} {vs : List Nat} {D : Addr} (er : EnvR K L H σ ρ) (hD : H D = none) : Mid K σ ρ L H vs D [] [] (wipeE ρ vs) (Ad L D) (upd H D (.lst [])) where
  env := env_new (er.wipe vs) hD
  stp := ⟨ext_new hD, fun _ h => .inl h, fun _ o h => ⟨rfl, o, h⟩, rfl⟩
  noV := fun i b o h => (wipeE_some h (by simp)).2
  lD := .inr rfl
  nD := fun h => er.liv D (er.oaL h.wipe) hD
  hD := upd_same
  rep := .nil
section
variable {X : Cx} {E' : St → XK} {elt tg iter : Expr} {ifs : List Expr} {scope : Scope} {own : List (Str × Nat)} {pos : Pos} {mi : ME} {g : MG} {t : MT} {m : ME} {T : List Nat}
/-- what the block gives -/
theorem comp_end {L L1 : Addr → Prop} {H H1 : Hp} {σ : St} {ρ0 ρ1 ρ2 : Ev} {L0 : Addr → Prop} {H0 : Hp} {vs : List Nat} {D : Addr} {ac : List V} {ys : List PV} {Q : VK} (er : EnvR X.K L0 H0 σ ρ0) (s1 : Stp σ ρ0 L0 H0 σ ρ1 L1 H1) (e1 : EnvR X.K L1 H1 σ ρ1) (hn : ∀ v ∈ vs, noOwn ρ1[v]? = true) (hD : H1 D = none) (M : Mid X.K σ ρ1 L1 H1 vs D ac ys ρ2 L H)
    (w : ∀ v H' L', EnvR X.K L' H' σ (backE ρ1 ρ2 vs) → Stp σ ρ0 L0 H0 σ (backE ρ1 ρ2 vs) L' H' → RvR X.K σ ρ0 H0 L' H' v (.own (.lst ys)) → (∀ a, v = .ref a → (∃ o, Rv.own (.lst ys) = .own o) → ∀ (j : Nat) (b : Bool) (o' : Own), (backE ρ1 ρ2 vs)[j]? = some (Sl.own b o') → σ[j]? ≠ some (some (V.ref a))) → Q v H') : Q (.ref D) H := by
  obtain ⟨e2, s2⟩ := env_back e1 hn M.env M.stp
  refine w (.ref D) H L e2 (s1.trans s2) ⟨D, rfl, M.lD, ⟨ac, M.hD, M.rep⟩, Fr.back er e1 s1 (.inl hD)⟩ ?_
  rintro a ha _ j b o' hj hs
  cases ha
  by_cases hv : j ∈ vs
  · rw [backE_in (M.stp.len.trans (wipeE_len _ _)) hv] at hj
    have := hn j hv
    rw [hj] at this; cases this
  · rw [backE_ne hv] at hj
    exact M.nD ⟨j, b, o', hj, by rw [wipe_ne hv]; exact hs⟩
theorem snd_lcL (hc : X.calm = true) (hN : X.N.Nodup) (hi : PE X iter (Snd X E' mi)) (ok : BlkOk X.N X.env.scope scope own) (hT : ∀ i ∈ T, i ∈ own.map (·.2))
    (hg : ∀ (s : Shared) (H : Hp) (C : Addr) (cl : List (Str × Addr)) (fp : List Addr), PG (X.blk s H scope (compEnvC scope cl C X.env) fp) tg (SndG (X.blk s H scope (compEnvC scope cl C X.env) fp) T g))
    (ht : ∀ (s : Shared) (H : Hp) (C : Addr) (cl : List (Str × Addr)) (fp : List Addr), PTs (X.blk s H scope (compEnvC scope cl C X.env) fp) ifs (SndT (X.blk s H scope (compEnvC scope cl C X.env) fp) EF t))
    (he : ∀ (s : Shared) (H : Hp) (C : Addr) (cl : List (Str × Addr)) (fp : List Addr), PE (X.blk s H scope (compEnvC scope cl C X.env) fp) elt (Snd (X.blk s H scope (compEnvC scope cl C X.env) fp) EF m)) (hs : ∀ x, foldedSetIterable iter X.env x = pure x := by intro _; rfl) :
    PE X (.ListComp elt [⟨tg, iter, ifs, 0⟩] scope pos) (SndC X E' (mLc itL mi g t m (own.map (·.2)))) := by
  -- the readings hang on the block's K and mg alone
  refine PE.imp (pe_lc (g := SndG (X.blk X.s_0 X.H_0 scope X.env []) T g) (tt := SndT (X.blk X.s_0 X.H_0 scope X.env []) EF t) (te := Snd (X.blk X.s_0 X.H_0 scope X.env []) EF m) hc hN (pi_list hi) ok hg ht he hs) fun σ H Q ⟨L, ρ, er, w⟩ => ?_
  refine ⟨L, ρ, er, ?_⟩
  unfold mLc at w
  cases q : mi ρ with
  | bad => rw [q] at w; exact w
  | err c xs => rw [q] at w; exact w
  | ok r =>
    obtain ⟨p, ρ1⟩ := r
    rw [q] at w
    simp only [Res.ok_bind] at w
    intro v H1 L1 e1 s1 r1
    cases gi : itL p with
    | none => rw [gi] at w; exact w.elim
    | some ps =>
      rw [gi] at w
      simp only [Res.of_some, Res.ok_bind] at w
      have key : ∃ a xs, v = .ref a ∧ LRd X.K L1 H1 a xs ∧ RepAll X.K L1 H1 xs ps := by
        cases r1 with
        | lst s rs => cases gi; exact ⟨_, _, rfl, .inl s, rs⟩
        | scr s rs => cases gi; exact ⟨_, _, rfl, .inr s, rs⟩
        | _ => cases gi
      obtain ⟨a, xs, rfl, hl, hx⟩ := key
      cases hno : (own.map (·.2)).all fun v => noOwn ρ1[v]? with
      | false => rw [hno] at w; exact w.elim
      | true =>
        rw [hno] at w
        simp only [okIf, if_true, Res.ok_bind] at w
        have hn := List.all_eq_true.mp hno
        cases q2 : compF g t m (own.map (·.2)) ps (wipeE ρ1 (own.map (·.2))) [] with
        | bad => rw [q2] at w; exact w.elim
        | err c xs => exact absurd q2 (compF_ne _ _ _ _)
        | ok F =>
          rw [q2] at w
          simp only [Res.ok_bind] at w
          refine ⟨a, rfl, ⟨xs, hl.sq⟩, fun D hD => ?_⟩
          have M0 : Mid X.K σ ρ1 L1 H1 (own.map (·.2)) D [] [] _ _ _ := mid_start e1 hD
          refine lc_list (xs := xs) (fun i H => ∃ L ρ ac acc, Mid X.K σ ρ1 L1 H1 (own.map (·.2)) D ac acc ρ L H ∧ LRd X.K L H a xs ∧ RepAll X.K L H xs ps ∧ compF g t m (own.map (·.2)) (ps.drop i) ρ acc = .ok F)
            ⟨_, _, _, _, M0, hl.keep (keeps_new (K := X.K) hD), hx.keep (keeps_new (K := X.K) hD), q2⟩ (fun _ _ _ ⟨_, _, _, _, _, z, _⟩ => z.sq) ?_ ?_
          · rintro i x H hi ⟨L, ρ, ac, acc, M, hl, hx, w⟩
            obtain ⟨p, hp, rp⟩ := hx.get hi
            rw [drop_at hp] at w
            exact comp_turn M hT hD rp w rfl rfl fun H' L' ρ' ac' acc' M' k w' => ⟨L', ρ', ac', acc', M', hl.keep k, hx.keep k, w'⟩
          · rintro H ⟨L, ρ, ac, acc, M, hl, hx, w'⟩
            rw [hx.length, List.drop_length] at w'
            cases w'
            exact comp_end er s1 e1 hn hD M w
theorem snd_lcT (hc : X.calm = true) (hN : X.N.Nodup) (hi : PE X iter (Snd X E' mi)) (ok : BlkOk X.N X.env.scope scope own) (hT : ∀ i ∈ T, i ∈ own.map (·.2))
    (hg : ∀ (s : Shared) (H : Hp) (C : Addr) (cl : List (Str × Addr)) (fp : List Addr), PG (X.blk s H scope (compEnvC scope cl C X.env) fp) tg (SndG (X.blk s H scope (compEnvC scope cl C X.env) fp) T g))
    (ht : ∀ (s : Shared) (H : Hp) (C : Addr) (cl : List (Str × Addr)) (fp : List Addr), PTs (X.blk s H scope (compEnvC scope cl C X.env) fp) ifs (SndT (X.blk s H scope (compEnvC scope cl C X.env) fp) EF t))
    (he : ∀ (s : Shared) (H : Hp) (C : Addr) (cl : List (Str × Addr)) (fp : List Addr), PE (X.blk s H scope (compEnvC scope cl C X.env) fp) elt (Snd (X.blk s H scope (compEnvC scope cl C X.env) fp) EF m)) (hs : ∀ x, foldedSetIterable iter X.env x = pure x := by intro _; rfl) :
    PE X (.ListComp elt [⟨tg, iter, ifs, 0⟩] scope pos) (SndC X E' (mLc itT mi g t m (own.map (·.2)))) := by
  refine PE.imp (pe_lc (g := SndG (X.blk X.s_0 X.H_0 scope X.env []) T g) (tt := SndT (X.blk X.s_0 X.H_0 scope X.env []) EF t) (te := Snd (X.blk X.s_0 X.H_0 scope X.env []) EF m) hc hN (pi_tup hi) ok hg ht he hs) fun σ H Q ⟨L, ρ, er, w⟩ => ?_
  refine ⟨L, ρ, er, ?_⟩
  unfold mLc at w
  cases q : mi ρ with
  | bad => rw [q] at w; exact w
  | err c xs => rw [q] at w; exact w
  | ok r =>
    obtain ⟨p, ρ1⟩ := r
    rw [q] at w
    simp only [Res.ok_bind] at w
    intro v H1 L1 e1 s1 r1
    cases gi : itT p with
    | none => rw [gi] at w; exact w.elim
    | some ps =>
      rw [gi] at w
      simp only [Res.of_some, Res.ok_bind] at w
      have key : ∃ a xs, v = .ref a ∧ (At L1 H1 a (.tup xs) ∨ KTup X.K a xs) ∧ RepAll X.K L1 H1 xs ps := by
        cases r1 with
        | tup s rs => cases gi; exact ⟨_, _, rfl, s, rs⟩
        | _ => cases gi
      obtain ⟨a, xs, rfl, hl, hx⟩ := key
      cases hno : (own.map (·.2)).all fun v => noOwn ρ1[v]? with
      | false => rw [hno] at w; exact w.elim
      | true =>
        rw [hno] at w
        simp only [okIf, if_true, Res.ok_bind] at w
        have hn := List.all_eq_true.mp hno
        cases q2 : compF g t m (own.map (·.2)) ps (wipeE ρ1 (own.map (·.2))) [] with
        | bad => rw [q2] at w; exact w.elim
        | err c xs => exact absurd q2 (compF_ne _ _ _ _)
        | ok F =>
          rw [q2] at w
          simp only [Res.ok_bind] at w
          refine ⟨a, rfl, ⟨xs, sq_of hl⟩, fun D hD => ?_⟩
          have M0 : Mid X.K σ ρ1 L1 H1 (own.map (·.2)) D [] [] _ _ _ := mid_start e1 hD
          refine lc_tup (xs := xs) (fun i H => ∃ L ρ ac acc, Mid X.K σ ρ1 L1 H1 (own.map (·.2)) D ac acc ρ L H ∧ (At L H a (.tup xs) ∨ KTup X.K a xs) ∧ RepAll X.K L H xs ps ∧ compF g t m (own.map (·.2)) (ps.drop i) ρ acc = .ok F)
            ⟨_, _, _, _, M0, hl.imp ((keeps_new (K := X.K) hD).tup _ _) id, hx.keep (keeps_new (K := X.K) hD), q2⟩ (fun _ _ _ ⟨_, _, _, _, _, z, _⟩ => sq_of z) ?_ ?_
          · rintro i x H hi ⟨L, ρ, ac, acc, M, hl, hx, w⟩
            obtain ⟨p, hp, rp⟩ := hx.get hi
            rw [drop_at hp] at w
            exact comp_turn M hT hD rp w rfl rfl fun H' L' ρ' ac' acc' M' k w' => ⟨L', ρ', ac', acc', M', hl.imp (k.tup _ _) id, hx.keep k, w'⟩
          · rintro H ⟨L, ρ, ac, acc, M, hl, hx, w'⟩
            rw [hx.length, List.drop_length] at w'
            cases w'
            exact comp_end er s1 e1 hn hD M w
end
end PL
/-! PL13: an own exception whose __init__ begins with super().__init__(e), over ValueError. -/
namespace PL
open PySem PySem.Spec L2
open PySem.W (ksEnv ksFn ks_superIn ks_superObj kxs_mw KxsAt)

theorem lookup_of_mem {α : Type} : ∀ {l : List (Str × α)} {x : Str} {u : α}, (l.map (·.1)).Nodup → (x, u) ∈ l → l.lookup x = some u
  | [], _, _, _, h => absurd h (by simp)
  | (k, w) :: l, x, u, nd, h => by
    have nd' := List.nodup_cons.mp (show (k :: l.map (·.1)).Nodup from nd)
    rw [List.lookup_cons]
    rcases List.mem_cons.mp h with e | h
    · cases e; simp
    · have ne : x ≠ k := fun e => nd'.1 (List.mem_map.mpr ⟨(x, u), h, e⟩)
      have e : (x == k) = false := by simpa using ne
      rw [e]; exact lookup_of_mem nd'.2 h
theorem rev_lookup {α : Type} {P : List Str} {us : List α} {i : Nat} {x : Str} {u : α} (nd : P.Nodup) (hl : us.length = P.length) (hx : P[i]? = some x) (hu : us[i]? = some u) : (P.zip us).reverse.lookup x = some u := by
  refine lookup_of_mem ?_ ?_
  · rw [List.map_reverse, List.map_fst_zip (by omega)]
    exact (List.reverse_perm P).nodup_iff.mpr nd
  · rw [List.mem_reverse]
    have hi : i < P.length := (List.getElem?_eq_some_iff.mp hx).1
    refine List.mem_iff_getElem?.mpr ⟨i, ?_⟩
    rw [List.getElem?_zip_eq_some]
    exact ⟨hx, hu⟩
/-- the names of such an __init__ -/
structure SupScope (ps : List Str) (sc : Scope) : Prop where
  kind : sc.kind = .function
  co : sc.isCoroutine = false
  gen : sc.isGenerator = false
  nd : ps.Nodup
  par : ∀ x ∈ ps, sc.names.lookup x = some .local
  nocell : ∀ x ∈ sc.names, x.2 ≠ .cell
  sup : sc.names.lookup ("super" : Str) = some .globalImplicit
  cls : sc.names.lookup ("__class__" : Str) = some .free
  only : ∀ x ∈ sc.names, x.2 = .free → x.1 = "__class__"
/-- the context of its body -/
def cxS (CX : CXT) (P : Program) (w : World) (K : PySem.W.Frag) (mg : Str → Option Value) (base : Heap) (N : List Str) (qual : Str) (scope : Scope) (f : Addr) (cd : Value) (cc : Addr) (A : Around) (outer : List Env) (s : Shared) (H : Hp) (E : XK) : Cx where
  prog := P
  w := w
  K := K
  mg := mg
  base := base
  A := A.deeper (ksEnv qual scope s.heap.objs.size f cd cc)
  N := N
  s_0 := s
  H_0 := H
  env := ksEnv qual scope s.heap.objs.size f cd cc
  outer := outer
  stack := ksEnv qual scope s.heap.objs.size f cd cc :: outer
  ex := []
  calm := true
  fn := fun _ => false
  pn := []
  xe := fun e s' => wpAny (model P w) (A.deeper (ksEnv qual scope s.heap.objs.size f cd cc)) (leaving (ksEnv qual scope s.heap.objs.size f cd cc) e) (fun _ s'' => CX outer H s E e s'') (fun e' s'' => CX outer H s E e' s'') s'
/-- what the written part says of it -/
structure SupTxt (P : Program) (K : PySem.W.Frag) (mg : Str → Option Value) (C D cc cda : Addr) : Prop where
  code : ∃ ccl cdd vs ccs file tf, K.lookup cda = some ⟨ccl, cdd, .fields vs, ccs⟩ ∧ vs[2]? = some (.str file tf) ∧ ((P.main.file : Str) == file) = true
  cell : ∃ cl cld csl, K.lookup cc = some ⟨cl, cld, .cell (some (.ref D)), csl⟩
  dcl : ∃ cdD, PySem.W.clsIn K D = some cdD
  sub : PySem.W.mroIn K C (.ref D) = some true
  nosup : mg "super" = none
  top : (P.main.scope.names.lookup ("super" : Str)).isSome = false
  opq : PySem.W.nsIn K cStatics "thirdparty.any" = some none
  ini : ks_superIn K C D "__init__" = some (some (.builtin "ValueError.__init__"))
  isV : PySem.W.subIn K (.ref C) (.type "ValueError") = some true
theorem inv_startS {CX : CXT} {P : Program} {w : World} {K : PySem.W.Frag} {mg : Str → Option Value} {base : Heap} {ps : List Str} {qual : Str} {scope : Scope} {f : Addr} {cd : Value} {cc D : Addr} {A : Around} {outer : List Env} {s : Shared} {H : Hp} {E : XK} {us : List Value} {vs : List V} {h1 : Heap} {tk : Nat} {cl : Value} {cld : Option Addr} {csl : Array (Option Value)}
    (S : SupScope ps scope) (hc : K.lookup cc = some ⟨cl, cld, .cell (some (.ref D)), csl⟩) (hd : A.handled = none) (e0 : Env0 P w K mg base A outer s H) (hl : vs.length = ps.length) (r : Vals vs us)
    (hns : h1.Ns s.heap.objs.size (fun x => (ps.zip us).reverse.lookup x)) (hk : ∀ b o, s.heap.get? b = some o → h1.get? b = some o) :
    Inv (cxS CX P w K mg base ps qual scope f cd cc A outer s H E) [] (vs.map some) H { s with heap := h1, toks := tk } := by
  have noA : ∀ b : Addr, b ∉ (cxS CX P w K mg base ps qual scope f cd cc A outer s H E).ex := fun b z => absurd (show b ∈ ([] : List Addr) from z) (by simp)
  have cl1 : ∀ {y c}, ([(("__class__" : Str), cc)] : List (Str × Addr)).lookup y = some c → y = "__class__" ∧ c = cc := fun {y c} h => by
    rw [List.lookup_cons] at h
    split at h
    · rename_i q; cases h; exact ⟨by simpa using q, rfl⟩
    · cases h
  have bc := e0.mod.kin _ _ hc
  have hcs : s.heap.get? cc = some ⟨cl, cld, .cell (some (.ref D)), csl⟩ := (e0.bs _ _ bc).1
  have hcH : H cc = none := (e0.bs _ _ bc).2
  refine ⟨⟨e0.mod, S.kind, rfl, rfl, Nat.le_refl _, fun y z c h1 h2 => ?_, fun y hy => ?_, fun y c h _ => Bool.noConfusion (show false = true from h), fun _ => hd, Around.frames_deeper e0.frames, .inr ⟨rfl, rfl⟩, fun b z => absurd z (noA b), e0.bs, e0.bsz, fun b _ _ => noA b, fun b z => absurd z (noA b), e0.funs, e0.frf⟩,
    rfl, e0.bare, Un.kept hk, ⟨_, hns, fun i y v h1 h2 h3 => ?_⟩, fun y c h => ?_, e0.hok.fresh (Nat.le_refl _), fun y c h => ?_, fun p hp => absurd (show p ∈ ([] : List (Addr × Obj)) from hp) (by simp), e0.hok.kept hk, ?_⟩
  · rw [(cl1 h1).1, (cl1 h2).1]
  · rcases hy with hy | hy
    · exact absurd rfl (S.nocell _ (PySem.mem_of_lookup (show scope.names.lookup y = some .cell from hy)))
    · have hy : scope.names.lookup y = some .free := hy
      have e : y = "__class__" := S.only _ (PySem.mem_of_lookup hy) rfl
      exact ⟨cc, by rw [e]; rfl⟩
  · rw [List.getElem?_map] at h2
    obtain ⟨v', hv, e⟩ := Option.map_eq_some_iff.mp h2
    cases e
    obtain ⟨u, hu, ru⟩ := r.get hv
    refine ⟨u, ru, .inl ⟨S.par y (List.mem_of_getElem? h1), rev_lookup S.nd (by rw [← r.length]; exact hl) h1 hu⟩⟩
  · obtain ⟨_, rfl⟩ := cl1 h
    exact ⟨some (.ref D), ⟨_, hk _ _ hcs, rfl⟩⟩
  · obtain ⟨_, rfl⟩ := cl1 h
    exact hcH
  · rw [List.length_map]; exact hl

section
variable {P : Program} {w : World} {A : Around} {E : Value → Shared → Prop} {h : Heap} {g : Array GenState} {d : Drawn} {t : Nat} {os : OsState} {C N : Addr} {nm q : Str} {bs bm : List Value} {sn : List Str} {sub : List Value} {ab : Bool} {col : Option Bool} {dd : Option Addr} {k0 k1 k2 k3 k5 : Option Value}
/-- super().__init__(..) called: the exception's texts are laid anew -/
theorem call_bound {u e t0 : Addr} {rest : List Value} {Q : Value → Shared → Prop}
    (hC : h.get? C = some (PySem.excClassObj nm q C N bs bm true sn sub ab col dd k0 k1 k2 k3 k5 "ValueError.__new__")) (he : h.get? e = some ({ cls := .ref C, dict := none, data := .fields #[.ref t0, .none, .none, .none, .bool false, .none] } : Obj)) (hu : h.get? u = some (kxs_mw "ValueError.__init__" e)) (hrest : rest.length ≤ sizeLine)
    (hq : ∀ h' t1, (∀ b o, b ≠ e → h.get? b = some o → h'.get? b = some o) → h'.get? e = some ({ cls := .ref C, dict := none, data := .fields #[.ref t1, .none, .none, .none, .bool false, .none] } : Obj) → Q .none ⟨h', g, d, t, os⟩) :
    wpAny (model P w) A (call (.ref u) rest) Q E ⟨h, g, d, t, os⟩ := by
  refine wpAny_call (codeAny_of_tree ?_)
  show wpAny _ A.in1 (callAny (.ref u) ⟨rest, []⟩) _ _ _
  simp only [callAny]
  refine wpAny_bind (wpAny_load hu ?_)
  simp only [kxs_mw, show (Value.type "method-wrapper" == Value.type "method" || Value.type "method-wrapper" == Value.type "builtin_function_or_method" || Value.type "method-wrapper" == Value.type "method-wrapper") = true by decide, if_true]
  refine W.KFB.if_so (by decide) ?_
  refine wpAny_bind (ESX.check_bound F.excBase_ValueError hC he rfl ?_)
  refine wpAny_bind (wpAny_pure (wpAny_pure ?_))
  refine ⟨plainId_quiet F.excBase_ValueError.init.plain _, codeAny_builtin F.excBase_ValueError.initEntry ?_⟩
  refine PySem.W.exc_init_tree (cls := .ref C) (t0 := t0) (dv := none) (c2 := .none) (c3 := .none) (b4 := .bool false) he hrest fun h' k e' _ => hq h' _ k e'
end
/-- the rule -/
theorem fn_super {CX : CXT} {P : Program} {w : World} {K : PySem.W.Frag} {mg : Str → Option Value} {base : Heap} {k : Nat} {f C D cc cda : Addr} {name qual : Str} {params : Arguments} {e : Expr} {rest : List Stmt} {scope : Scope} {dV kV doc pm ct oc : Value} {an od : Option Addr}
    {osl : Array (Option Value)} {ps : List Str} {sp : Sp} {p0 p1 p2 p3 p4 : Pos} {ar : Arg} {pl : Sem Bool}
    (lk : K.lookup f = some ⟨oc, od, .func (ksFn name qual params (.Expr (.Call (.Attribute (.Call (.Name "super" p0) [] [] p1) "__init__" p2) [e] [] p3) p4 :: rest) scope dV kV doc pm an (.ref cda) ct cc), osl⟩) (hcd : PySem.W.codeIn K (.ref cda) qual = true) (S : SupScope ps scope)
    (T : OexC K C) (ST : SupTxt P K mg C D cc cda) (hp : (params.posonlyargs ++ params.args).head? = some ar) (hp0 : ps[0]? = some ar.arg)
    (len : ∀ vs H Q E, sp vs H Q E → vs.length = ps.length)
    (hbody : ∀ (A : Around) (outer : List Env) (s : Shared) (H : Hp) (vs : List V) (Q : VK) (E : XK), Room k (A.deeper (ksEnv qual scope s.heap.objs.size f (.ref cda) cc)) → sp vs H Q E →
      ∃ a ta t, vs[0]? = some (.ref a) ∧ H a = some (exo a C none) ∧ PA (cxS CX P w K mg base ps qual scope f (.ref cda) cc A outer s H E) [e] ta ∧ PSs (cxS CX P w K mg base ps qual scope f (.ref cda) cc A outer s H E) rest t ∧
        ta (vs.map some) H fun ws H1 => ws.length ≤ 1000 ∧ H1 a = some (exo a C none) ∧ t { nx := fun _ H' => Q .non H', rt := Q } (vs.map some) H1)
    (hst : ∀ env : Env, starEach [e] env = (false, eval e env) :: starEach [] env) (hev : ∀ L a cd cc, eval (.Call (.Attribute (.Call (.Name "super" p0) [] [] p1) "__init__" p2) [e] [] p3) (ksEnv qual scope L a cd cc) = (do
      let ov ← attributeBase (.Call (.Name "super" p0) [] [] p1) "__init__" (ksEnv qual scope L a cd cc) (eval (.Call (.Name "super" p0) [] [] p1) (ksEnv qual scope L a cd cc))
      standAt p2.atName
      let (f, first) ← holding [ov] (getMethod ov "__init__" pl)
      callWith p3 f first (backTo p3 (starEach [e] (ksEnv qual scope L a cd cc))) [])) :
    FnOk P w K mg base CX (k + 1) f (ksFn name qual params (.Expr (.Call (.Attribute (.Call (.Name "super" p0) [] [] p1) "__init__" p2) [e] [] p3) p4 :: rest) scope dV kV doc pm an (.ref cda) ct cc) ps sp := by
  refine ⟨len, fun A outer s H args us vs Q E hr e0 hb r hsp => ?_⟩
  have hl := len _ _ _ _ hsp
  have KX : K.In s.heap := e0.mod.kin.keeps fun b o e => (e0.bs b o e).1
  have lim : s.heap.NoLimit := e0.mod.nolimit.keeps fun b o e => (e0.bs b o e).1
  obtain ⟨a, ta, tb, hv0, ea, hpa, hpb, hq⟩ := hbody A outer s H vs Q E (hr.deeper _) hsp
  obtain ⟨cl, cld, csl, hcell⟩ := ST.cell
  obtain ⟨cdD, hD⟩ := ST.dcl
  obtain ⟨ccl, cdd, vsc, ccs, file, tf, hco, hvs, hfile⟩ := ST.code
  refine PySem.ks_codeAny_call_defAt (fd := ksFn name qual params _ scope dV kV doc pm an (.ref cda) ct cc) (binds := ps.zip us) hr.depth (KX _ _ lk) rfl lim (PySem.W.codeRec_of KX hcd) rfl hb S.nocell (fun x hx => S.par _ (List.of_mem_zip hx).1) (fun h1 hns hk1 => ?_) S.co S.gen S.kind
  show _root_.PySem.wpAt (model P w) (A.deeper (ksEnv qual scope s.heap.objs.size f (.ref cda) cc)) (.func _ (ksEnv qual scope s.heap.objs.size f (.ref cda) cc)) (execs _ (ksEnv qual scope s.heap.objs.size f (.ref cda) cc)) _ _ _
  have I := inv_startS (CX := CX) (qual := qual) (f := f) (cd := .ref cda) (E := E) (tk := s.toks + (ps.zip us).length) S hcell hr.hd e0 hl r hns hk1
  obtain ⟨t1, ho⟩ := exo_at I.hok ea
  have X1 : K.In h1 := I.kIn
  have hself : (ps.zip us).reverse.lookup ar.arg = some (Value.ref a) := by
    obtain ⟨u, hu, ru⟩ := r.get hv0
    cases ru
    exact rev_lookup S.nd (by rw [← r.length]; exact hl) hp0 hu
  obtain ⟨oD, hD1, hD2⟩ : ∃ oD, h1.get? D = some oD ∧ oD.data = .cls cdD := by
    unfold PySem.W.clsIn at hD
    split at hD
    · rename_i c d cd' sl ho
      cases hD
      exact ⟨_, X1 _ _ ho, rfl⟩
    · cases hD
  obtain ⟨mb, hmb, hbb⟩ := I.ok.mod.blt
  have haC : a ≠ C := fun z => by
    obtain ⟨nm, q, N, bs, bm, sn, sub, ab, col, dd, k0, k1, k2, k3, k5, hC, _⟩ := T.cls
    have y := X1 _ _ hC
    rw [← z, ho] at y
    cases y
  refine PySem.ks_wpAt_execs_cons (PySem.ks_wpAt_Expr_any (PySem.ks_wpAt_MethodCall (pl := pl) ?_ (hev _ _ _ _)) (by simp [interactive, S.kind]) rfl)
  refine PySem.ks_wpAt_super_base (env := ksEnv qual scope s.heap.objs.size f (.ref cda) cc) S.sup S.cls rfl rfl (X1 _ _ lk) rfl hp rfl (X1 _ _ hco) rfl hvs hfile ST.top ?_
  refine PySem.W.ks_loadName_global S.kind S.sup (PySem.Calls.loadGlobal_builtin (env := ksEnv qual scope s.heap.objs.size f (.ref cda) cc) (I.ok.mod.glob.keeps I.bk) ST.nosup (hmb.keeps I.bk) ((hbb _ (by decide +kernel)).trans (by decide +kernel)) ⟨rfl, ?_⟩)
  refine wpAny_loadName_free S.kind S.cls rfl ⟨_, X1 _ _ hcell, rfl⟩ ?_
  refine wpAny_loadName_local S.kind (S.par _ (List.mem_of_getElem? hp0)) hns hself ?_
  refine PySem.ks_wpAny_isType_cls hD1 hD2 ⟨rfl, ?_⟩
  refine PySem.ks_wpAny_call_super hD1 hD2 ho rfl (fun c e => by cases e) (PySem.W.looks_mroIn X1 ST.sub) (fun h2 e2 hk2 => ?_)
  have X2 : K.In h2 := X1.keeps hk2
  have ho2 := hk2 _ _ ho
  have hIA : PySem.W.InstAt h2 a { cls := .ref C, dict := none, data := .fields #[.ref t1, .none, .none, .none, .bool false, .none] } C none := ⟨ho2, rfl, rfl, trivial⟩
  have hI : PySem.W.Looks (model P w) h2 (isInstance (.ref a) (.type "ValueError")) true := hIA.type.andThen (PySem.W.looks_subIn X2 ST.isV)
  obtain ⟨nm, q, N, bs, bm, sn, sub, ab, col, dd, k0, k1, k2, k3, k5, hC, hbm⟩ := T.cls
  have hcl : PySem.W.clsIn K C = some { name := nm, bases := bs, mro := .ref C :: bm, ns := N, qualname := q, hasDict := true, slotNames := sn, subclasses := sub, abstract := ab, collection := col, hasDel := false } := by unfold PySem.W.clsIn; rw [hC] <;> rfl
  have hm := ST.ini
  unfold ks_superIn at hm
  rw [hcl] at hm
  refine PySem.W.kxs_getMethod PySem.W.kxs_ValueError e2 (PySem.W.looks_opaque X2 ST.opq) (l₀ := .ref C :: bm) (fun A Q E s k q => wpAny_bind ((PySem.W.looks_clsIn X2 hcl) A _ E s k (wpAny_pure q))) rfl X2 hm hI haC rfl ?_
  have I2 : Inv (cxS CX P w K mg base ps qual scope f (.ref cda) cc A outer s H E) [] (vs.map some) H { s with heap := h2.push (kxs_mw "ValueError.__init__" a), toks := s.toks + (ps.zip us).length + 1 } := I.kept (t' := s.toks + (ps.zip us).length + 1) fun b o z => Heap.get?_push_of_some _ (hk2 b o z)
  have hlt : h1.objs.size < h2.objs.size := Heap.lt_size e2
  have hL1 : s.heap.objs.size < h1.objs.size := I.lt
  have hget : (h2.push (kxs_mw "ValueError.__init__" a)).get? h2.objs.size = some (kxs_mw "ValueError.__init__" a) := Heap.get?_push_size _ rfl
  have I3 : Inv (cxS CX P w K mg base ps qual scope f (.ref cda) cc A outer s H E) [(h2.objs.size, kxs_mw "ValueError.__init__" a)] (vs.map some) H { s with heap := h2.push (kxs_mw "ValueError.__init__" a), toks := s.toks + (ps.zip us).length + 1 } := I2.pins_of fun p hp => by
    obtain rfl := List.mem_singleton.mp (show p ∈ [(h2.objs.size, kxs_mw "ValueError.__init__" a)] from hp)
    refine ⟨hget, I.hok.fresh (Nat.le_of_lt hlt), fun z => ?_, I.nofs (Nat.le_of_lt hlt), fun v z => by cases z⟩
    have z : h2.objs.size = s.heap.objs.size := z
    omega
  have hA := hpa.run p3 _ _ _ _ _ I3 hq
  rw [hst] at hA ⊢
  refine PySem.W.kxs_callWith (i := "ValueError.__init__") (x := a) rfl (PySem.Calls.evalArgs_plain (thn hA fun us' s4 hh => ?_))
  obtain ⟨ws, H1, I4, rv, hlen, ea1, q1⟩ := hh
  refine ⟨(I4.pin _ (List.mem_singleton_self _)).1, ?_⟩
  obtain ⟨t2, ho4⟩ := exo_at I4.hok ea1
  have hu4 := (I4.pin _ (List.mem_singleton_self _)).1
  obtain ⟨hp4, g4, d4, t4, os4⟩ := s4
  refine call_bound (rest := [] ++ us') (I4.kIn _ _ hC) ho4 hu4 (by rw [List.nil_append, ← Paired.length rv, sizeLine_eq]; omega) fun h' t5 k' e' => ?_
  have J := I4.write (t' := t4) (x := a) (e := a) (o := exo a C none) (by rw [ea1]; exact True.intro) (.inl rfl) k' ⟨_, e'⟩ (exo_ok e')
  have eu : upd H1 a (exo a C none) = H1 := by
    funext b
    by_cases hb : b = a
    · rw [hb, upd_same, ea1]
    · rw [upd_ne hb]
  rw [eu] at J
  refine wpAt_of_wpAny (wpAny_mono (hpb.run _ _ _ _ _ J q1) (fun fl s' hs => ?_) fun e s' hs => hs)
  have fin : ∀ {pins' : List (Addr × Obj)} {σ' : St} {H' : Hp} {v : V} {u : Value}, Inv (cxS CX P w K mg base ps qual scope f (.ref cda) cc A outer s H E) pins' σ' H' s' → RelV v u → Q v H' → CE outer P w H s Q u s' :=
    fun {pins' σ' H' v u} J rv q => ⟨v, H', J.os, J.bare, J.base, J.hok, rv, q⟩
  cases fl with
  | ret u =>
    obtain ⟨v, σ', H', J, rv, q⟩ := hs
    exact fin J rv q
  | next =>
    obtain ⟨σ', H', J, q⟩ := hs
    exact fin (v := V.non) (u := Value.none) J rfl q
  | brk =>
    obtain ⟨_, _, _, q⟩ := hs
    exact False.elim q
  | cont =>
    obtain ⟨_, _, _, q⟩ := hs
    exact False.elim q
end PL
/-! PL14: a def by its body; raise of an own error with two fields; try: return f(..) except X as e: return (e.f, e.g). -/
namespace PL
open PySem PySem.Spec L2
open PySem.W (ksEnv ksFn)
section
variable {P : Program} {w : World} {K : PySem.W.Frag} {mg : Str → Option Value} {base : Heap}
theorem fn_plain {x qual : Str} {st : Stmt} {f : Addr} {fd : FuncData} {N ps : List Str} {k : Nat} {m : MS} (F : L2.Fun K x qual st f fd) (S : FnScope N ps (defScope st))
    (hb : ∀ (cdv : Value) (A : Around) (outer : List Env) (s : Shared) (H : Hp) (E : XK), Room k (A.deeper (PyProof.Rows.envOfC qual (defScope st) s.heap.objs.size f cdv)) →
      PSs (cxOf (L2.CX P w) P w K mg base N qual (defScope st) f cdv A outer s H E) (defBody st) (SndS (cxOf (L2.CX P w) P w K mg base N qual (defScope st) f cdv A outer s H E) E m)) :
    FnOk P w K mg base (L2.CX P w) (k + 1) f fd ps (SpF K mg ps.length (fnBody N.length m)) :=
  F.okX S (fun vs H Q E h => h.1) fun cdv A outer s H vs Q E hr h => ⟨_, hb cdv A outer s H E hr, pure_body (X := cxOf (L2.CX P w) P w K mg base N qual (defScope st) f cdv A outer s H E) (by
    have := congrArg List.length S.pre
    rw [List.length_take] at this
    omega) h⟩
/-- nothing is promised -/
theorem fn_bad {f : Addr} {fd : FuncData} {ps : List Str} {k : Nat} : FnOk P w K mg base (L2.CX P w) k f fd ps (SpF K mg ps.length fun _ => .bad) :=
  ⟨fun vs H Q E h => h.1, fun A outer s H args us vs Q E _ _ _ _ h => by obtain ⟨_, L, as, _, _, _, z⟩ := h; exact z.elim⟩
end
/-! ### the making of an error of two fields -/
def fmtV (v : V) (t : Str) : Prop := (v = .str t ∧ t.length ≤ sizeLine) ∨ ∃ i : Int, v = .int i ∧ i.natAbs.log2 < 1920 ∧ t = toString i
/-- __init__(self, f1, f2): the base's text, then the fields -/
def spI2 (C : Addr) (f1 f2 : Str) (pre mid : Str) : Sp := fun vs H Q _ => ∃ a v w tv tw, vs = [.ref a, v, w] ∧ H a = some (exo a C none) ∧ fmtV v tv ∧ fmtV w tw ∧
  (Str.empty ++ pre).length ≤ sizeLine ∧ (Str.empty ++ pre ++ tv).length ≤ sizeLine ∧ (Str.empty ++ pre ++ tv ++ mid).length ≤ sizeLine ∧ (Str.empty ++ pre ++ tv ++ mid ++ tw).length ≤ sizeLine ∧
  ∀ dx, H dx = none → dx ≠ a → Q .non (upd (upd (upd H dx (exd dx [(f1, v)])) a (exo a C (some dx))) dx (exd dx [(f2, w), (f1, v)]))
theorem fmt_of {X : Cx} {te : TE} {σ : St} {H : Hp} {v : V} {t : Str} {Q : VK} (h : fmtV v t) (r : ∀ Q, Q v H → te σ H Q) (q : Q (.str t) H) : tFmt te σ H Q := by
  refine r _ ?_
  rcases h with ⟨rfl, hz⟩ | ⟨i, rfl, hz, rfl⟩
  · exact .inl ⟨t, rfl, hz, q⟩
  · exact .inr ⟨i, rfl, hz, q⟩
theorem fn_init2 {P : Program} {w : World} {K : PySem.W.Frag} {mg : Str → Option Value} {base : Heap} {f C D cc cda : Addr} {name qual : Str} {params : Arguments} {scope : Scope} {dV kV doc pm ct oc : Value} {an od : Option Addr}
    {osl : Array (Option Value)} {self f1 f2 pre mid : Str} {p0 p1 p2 p3 p4 q1 q2 q3 q4 q5 q6 q7 r1 r2 r3 r4 r5 r6 r7 r8 : Pos} {j1 j2 : Nat} {ar : Arg} {pl : Sem Bool}
    (lk : K.lookup f = some ⟨oc, od, .func (ksFn name qual params (.Expr (.Call (.Attribute (.Call (.Name "super" p0) [] [] p1) "__init__" p2) [.JoinedStr [.Constant (.str pre) j1 q1, .FormattedValue (.Name f1 q2) (-1) none q3, .Constant (.str mid) j2 q4, .FormattedValue (.Name f2 q5) (-1) none q6] q7] [] p3) p4 ::
      [.Assign [.Attribute (.Name self r1) f1 r2] (.Name f1 r3) r4, .Assign [.Attribute (.Name self r5) f2 r6] (.Name f2 r7) r8]) scope dV kV doc pm an (.ref cda) ct cc), osl⟩) (hcd : PySem.W.codeIn K (.ref cda) qual = true) (S : SupScope [self, f1, f2] scope)
    (T : OexC K C) (ST : SupTxt P K mg C D cc cda) (hp : (params.posonlyargs ++ params.args).head? = some ar) (hp0 : self = ar.arg) (n1 : PySem.W.findIn K (.ref C) f1 = some none) (n2 : PySem.W.findIn K (.ref C) f2 = some none)
    (d0 : (self == ("__debug__" : Str)) = false) (d1 : (f1 == ("__debug__" : Str)) = false) (d2 : (f2 == ("__debug__" : Str)) = false) (c0 : (self == ("__classdict__" : Str)) = false) (c1 : (f1 == ("__classdict__" : Str)) = false) (c2 : (f2 == ("__classdict__" : Str)) = false)
    (hev : ∀ L a cd cc, eval (.Call (.Attribute (.Call (.Name "super" p0) [] [] p1) "__init__" p2) [.JoinedStr [.Constant (.str pre) j1 q1, .FormattedValue (.Name f1 q2) (-1) none q3, .Constant (.str mid) j2 q4, .FormattedValue (.Name f2 q5) (-1) none q6] q7] [] p3) (ksEnv qual scope L a cd cc) = (do
      let ov ← attributeBase (.Call (.Name "super" p0) [] [] p1) "__init__" (ksEnv qual scope L a cd cc) (eval (.Call (.Name "super" p0) [] [] p1) (ksEnv qual scope L a cd cc))
      standAt p2.atName
      let (f, first) ← holding [ov] (getMethod ov "__init__" pl)
      callWith p3 f first (backTo p3 (starEach [.JoinedStr [.Constant (.str pre) j1 q1, .FormattedValue (.Name f1 q2) (-1) none q3, .Constant (.str mid) j2 q4, .FormattedValue (.Name f2 q5) (-1) none q6] q7] (ksEnv qual scope L a cd cc))) [])) :
    FnOk P w K mg base (L2.CX P w) 1 f (ksFn name qual params (.Expr (.Call (.Attribute (.Call (.Name "super" p0) [] [] p1) "__init__" p2) [.JoinedStr [.Constant (.str pre) j1 q1, .FormattedValue (.Name f1 q2) (-1) none q3, .Constant (.str mid) j2 q4, .FormattedValue (.Name f2 q5) (-1) none q6] q7] [] p3) p4 ::
      [.Assign [.Attribute (.Name self r1) f1 r2] (.Name f1 r3) r4, .Assign [.Attribute (.Name self r5) f2 r6] (.Name f2 r7) r8]) scope dV kV doc pm an (.ref cda) ct cc) [self, f1, f2] (spI2 C f1 f2 pre mid) := by
  have v0 := S.par self (by simp)
  have v1 := S.par f1 (by simp)
  have v2 := S.par f2 (by simp)
  refine fn_super lk hcd S T ST hp (by rw [hp0]; rfl) (fun vs H Q E h => by obtain ⟨a, v, w, tv, tw, rfl, _⟩ := h; rfl) (fun A outer s H vs Q E hr h => ?_) (fun _ => rfl) hev
  obtain ⟨a, v, y, tv, tw, rfl, ea, fv, fw, z0, z1, z2, z3, hq⟩ := h
  refine ⟨a, _, _, rfl, ea, pa_cons (pe_joined (.cons pe_str (.cons (pe_fmt (pe_var (i := 1) rfl (.inl v1) d1 c1)) (.cons pe_str (.cons (pe_fmt (pe_var (i := 2) rfl (.inl v2) d2 c2)) .nil))))) pa_nil,
    pss_cons (ps_ost (pe_var (i := 0) rfl (.inl v0) d0 c0) (pe_var (i := 1) rfl (.inl v1) d1 c1)) (pss_one (ps_ost (pe_var (i := 0) rfl (.inl v0) d0 c0) (pe_var (i := 2) rfl (.inl v2) d2 c2))), ?_⟩
  refine ⟨pre, rfl, z0, fmt_of (X := cxS (L2.CX P w) P w K mg base [self, f1, f2] qual scope f (.ref cda) cc A outer s H E) fv (fun Q q => ⟨v, rfl, q⟩) ⟨tv, rfl, z1, mid, rfl, z2, fmt_of (X := cxS (L2.CX P w) P w K mg base [self, f1, f2] qual scope f (.ref cda) cc A outer s H E) fw (fun Q q => ⟨y, rfl, q⟩) ⟨tw, rfl, z3, ?_⟩⟩⟩
  refine ⟨by simp, ea, ⟨v, rfl, .ref a, rfl, a, C, rfl, T, n1, .inl ⟨ea, fun dx hd ne => ?_⟩⟩⟩
  refine ⟨y, rfl, .ref a, rfl, a, C, rfl, T, n2, .inr ⟨dx, [(f1, v)], upd_same, ?_, by simp, hq dx hd ne⟩⟩
  rw [upd_ne ne, upd_same]
def strOf : PV → Option Str
  | .str s => some s
  | _ => none
def mkErr2 (c f1 f2 pre mid : Str) : List PV → Res (Fl × Ev)
  | [p, q] => do
    let tp ← Res.of ((fFmt p).bind strOf)
    let tq ← Res.of ((fFmt q).bind strOf)
    if (Str.empty ++ pre).length ≤ sizeLine ∧ (Str.empty ++ pre ++ tp).length ≤ sizeLine ∧ (Str.empty ++ pre ++ tp ++ mid).length ≤ sizeLine ∧ (Str.empty ++ pre ++ tp ++ mid ++ tq).length ≤ sizeLine then .err c [(f1, p), (f2, q)] else .bad
  | _ => .bad
def mRaise2 (c f1 f2 pre mid : Str) (ma : MA) : MS := fun ρ => do
  let (ks, ρ1) ← ma ρ
  let ps ← Res.of (getAll ks ρ1)
  mkErr2 c f1 f2 pre mid ps
theorem fmt_pv {K : PySem.W.Frag} {L : Addr → Prop} {H : Hp} {v : V} {p : PV} {t : Str} (r : Rep K L H v p) (h : (fFmt p).bind strOf = some t) : fmtV v t := by
  obtain ⟨z, h1, h2⟩ := Option.bind_eq_some_iff.mp h
  cases r with
  | str s =>
    have h1 : (if s.length ≤ sizeLine then some (PV.str s) else none) = some z := h1
    split at h1
    · rename_i hz; cases h1; cases h2; exact .inl ⟨rfl, hz⟩
    · cases h1
  | int i =>
    have h1 : (if i.natAbs.log2 < 1920 then some (PV.str (toString i)) else none) = some z := h1
    split at h1
    · rename_i hz; cases h1; cases h2; exact .inr ⟨i, rfl, hz, rfl⟩
    · cases h1
  | _ => cases h1
section
variable {X : Cx} {E : XK} {C fI : Addr} {fd : FuncData} {ps : List Str} {x f1 f2 pre mid : Str} {p pos pos2 : Pos} {e : Expr} {es : List Expr} {ma : MA}
theorem snd_raise2 (hc : X.calm = true) (hne : f1 ≠ f2) (T : OexC X.K C) (iC : PySem.W.findIn X.K (.ref C) "__init__" = some (some (.ref fI))) (tI : PySem.W.typeIn X.K (.ref fI) = some (.type "function")) (F1 : FnOk X.prog X.w X.K X.mg X.base (L2.CX X.prog X.w) 1 fI fd ps (spI2 C f1 f2 pre mid)) (hr : Room 2 X.A) (hb : Binds X.K fd ps [])
    (tk : Takes X (fun cls d _ H => E cls d H)) (hg : Gl X x) (hm : X.mg x = some (.ref C)) (ha : PA X (e :: es) (SndA X (cE E) ma)) (hdb : (x == ("__debug__" : Str)) = false := by decide) (he : starEach (e :: es) X.env = (false, eval e X.env) :: starEach es X.env := by rfl) (hpl : (backTo pos (starEach es X.env)).any (·.1) = false := by rfl) :
    PS X (.Raise (some (.Call (.Name x p) (e :: es) [] pos)) none pos2) (SndS X E (mRaise2 x f1 f2 pre mid ma)) :=
  PS.imp (ps_raise (W := fun cls d _ H => E cls d H) hc tk (pmk_oex T iC tI F1 hr hb .nil passL hg hm ha hdb he hpl)) fun D σ H ⟨L, ρ, er, w⟩ => by
    refine ⟨L, ρ, er, ?_⟩
    unfold mRaise2 at w
    cases q : ma ρ with
    | bad => rw [q] at w; exact w
    | err c xs => rw [q] at w; exact w
    | ok r =>
      obtain ⟨ks, ρ1⟩ := r
      rw [q] at w
      simp only [Res.ok_bind] at w
      intro vs H1 L1 e1 s1 r1
      cases g : getAll ks ρ1 with
      | none => rw [g] at w; exact w.elim
      | some pv =>
        rw [g] at w
        simp only [Res.of_some, Res.ok_bind] at w
        have rr := r1.reps g
        cases rr with
        | nil => exact w.elim
        | @cons v vs p0 ps0 rv rvs =>
          cases rvs with
          | nil => exact w.elim
          | @cons y ys p1 ps1 ry rys =>
            cases rys with
            | cons _ _ => exact w.elim
            | nil =>
              simp only [mkErr2] at w
              cases g1 : (fFmt p0).bind strOf with
              | none => rw [g1] at w; exact w.elim
              | some tp =>
                rw [g1] at w
                cases g2 : (fFmt p1).bind strOf with
                | none => rw [g2] at w; exact w.elim
                | some tq =>
                  rw [g2] at w
                  simp only [Res.of_some, Res.ok_bind] at w
                  by_cases hz : (Str.empty ++ pre).length ≤ sizeLine ∧ (Str.empty ++ pre ++ tp).length ≤ sizeLine ∧ (Str.empty ++ pre ++ tp ++ mid).length ≤ sizeLine ∧ (Str.empty ++ pre ++ tp ++ mid ++ tq).length ≤ sizeLine
                  · rw [if_pos hz] at w
                    refine ⟨by simp, fun a ha => ⟨a, v, y, tp, tq, rfl, upd_same, fmt_pv rv g1, fmt_pv ry g2, hz.1, hz.2.1, hz.2.2.1, hz.2.2.2, fun dx hd ne => ?_⟩⟩
                    have hd1 : H1 dx = none := by rw [upd_ne ne] at hd; exact hd
                    refine ⟨rfl, dx, [(f2, y), (f1, v)], ?_, upd_same, hd1, ?_⟩
                    · rw [upd_ne (Ne.symm ne), upd_same]
                    · have alc : ∀ b u, H1 b = some u → (upd (del (upd (upd (upd (upd H1 a (exo a C none)) dx (exd dx [(f1, v)])) a (exo a C (some dx))) dx (exd dx [(f2, y), (f1, v)])) a) dx (.xd [(f2, y), (f1, v)])) b = some u := fun b u h => by
                        have nb : b ≠ dx := fun z => by rw [z, hd1] at h; cases h
                        have na : b ≠ a := fun z => by rw [z, ha] at h; cases h
                        rw [upd_ne nb, del_ne na, upd_ne nb, upd_ne na, upd_ne nb, upd_ne na]; exact h
                      refine FailS.after w s1 (.ref C) (some dx) _ L1 (fun b u h _ => ⟨alc b u h, Iff.rfl⟩) (fun b l z => ?_) ⟨hm, fun _ => ⟨dx, _, rfl, upd_same, fun l => e1.liv dx l hd1, fun f pp hf => ?_⟩⟩
                      · cases h : H1 b with
                        | none => exact e1.liv b l h
                        | some u => rw [alc b u h] at z; cases z
                      · have kk : Keeps L1 H1 L1 _ := .of fun b u h n => ⟨alc b u h, n⟩
                        rw [List.lookup_cons] at hf
                        split at hf
                        · rename_i e
                          cases hf
                          obtain rfl : f = f1 := by simpa using e
                          refine ⟨v, ?_, rv.keep kk⟩
                          have : (f == f2) = false := by simpa using hne
                          rw [List.lookup_cons, this]; simp [List.lookup]
                        · rw [List.lookup_cons] at hf
                          split at hf
                          · rename_i e
                            cases hf
                            obtain rfl : f = f2 := by simpa using e
                            refine ⟨y, ?_, ry.keep kk⟩
                            simp [List.lookup]
                          · cases hf
                  · rw [if_neg hz] at w; exact w.elim
end
/-! ### try: return e; except X as n: return (n.f1, n.f2) -/
def mTry2 (i : Nat) (m : MC) (c f1 f2 : Str) : MS := fun ρ => match m ρ with
  | .ok (r, ρ1) => .ok (.rt r, ρ1)
  | .err c' xs => if c' = c ∧ i < ρ.length ∧ (ρ.all fun s => noOwn (some s)) then match xs.lookup f1, xs.lookup f2 with
      | some p, some q => .ok (.rt (.pv (.tup [p, q])), ρ)
      | _, _ => .bad
    else .bad
  | .bad => .bad
section
variable {X : Cx} {E : XK} {C : Addr} {x n f1 f2 : Str} {e : Expr} {mc : MC} {i k3 : Nat} {p1 p2 p3 p4 p5 p6 p7 p8 p9 p10 : Pos}
theorem snd_try2 (hs : X.stack = X.env :: X.outer) (hf : X.env.frame = some X.env.locals) (hN : X.N.Nodup) (hi : X.N[i]? = some n) (hln : X.env.kindOf n = some .local) (hg : Gl X x) (hdb : (x == ("__debug__" : Str)) = false) (hm : X.mg x = some (.ref C)) (te : PySem.W.exmOne X.K (.ref C) (.ref C) = some true) (T : XfC X.K C)
    (h1 : PySem.W.findIn X.K (.ref C) f1 = some none) (h2 : PySem.W.findIn X.K (.ref C) f2 = some none) (nd : (n == ("__debug__" : Str)) = false) (nc : (n == ("__classdict__" : Str)) = false)
    (hb : ∀ (W : WX) (pn : List (Addr × Obj)) (xe : Value → Shared → Prop), Takes (X.tr pn xe) W → PE (X.tr pn xe) e (SndC (X.tr pn xe) (WE W) mc))
    (hb1 : ∀ a pn, attributeBase (.Name n p5) f1 (X.suite a pn).env (eval (.Name n p5) (X.suite a pn).env) = eval (.Name n p5) (X.suite a pn).env := by intros; rfl)
    (hb2 : ∀ a pn, attributeBase (.Name n p7) f2 (X.suite a pn).env (eval (.Name n p7) (X.suite a pn).env) = eval (.Name n p7) (X.suite a pn).env := by intros; rfl) :
    PS X (.Try [.Return (some e) p1] [.ExceptHandler (some (.Name x p2)) (some n) [.Return (some (.Tuple [.Attribute (.Name n p5) f1 p6, .Attribute (.Name n p7) f2 p8] k3 p9)) p10] p3] [] [] p4) (SndS X E (mTry2 i mc x f1 f2)) := by
  refine PS.imp (ps_try_as (c := .ref C) (Wout := fun _ _ _ _ => False) (tb := fun W => tRet (SndC X (WE W) mc)) (ts := fun a cls d => tRet (tTup (tCons (tXf a cls d C f1 (tVar i)) (tCons (tXf a cls d C f2 (tVar i)) tNil)))) hs hf hN hi hln ⟨hg, hdb, .inl hm⟩ takes0
    (fun W pn xe tk _ => pss_one (ps_ret (hb W pn xe tk)))
    (fun a oe cls d pn hz hfv => pss_one (ps_ret (pe_tup (pa_cons (pe_xf T h1 hz hfv (pe_var hi (.inl hln) nd nc) (hb1 a pn)) (pa_cons (pe_xf T h2 hz hfv (pe_var hi (.inl hln) nd nc) (hb2 a pn)) pa_nil)))))) fun D σ H ⟨L, ρ, er, w⟩ => ?_
  refine ⟨L, ρ, er, ?_⟩
  unfold mTry2 at w
  cases q : mc ρ with
  | bad => rw [q] at w; exact w
  | ok r =>
    obtain ⟨r, ρ1⟩ := r
    rw [q] at w
    exact fun v H' L' e' s' r' _ => w v σ H' L' e' s' r'
  | err c' xs =>
    rw [q] at w
    by_cases hc : c' = x ∧ i < ρ.length ∧ (ρ.all fun s => noOwn (some s)) = true
    · simp only [hc, and_self, if_true] at w
      obtain ⟨rfl, hir, hno⟩ := hc
      have noO : ∀ (j : Nat) (b : Bool) (o : Own), ρ[j]? ≠ some (Sl.own b o) := fun j b o h => by
        have := List.all_eq_true.mp hno _ (List.mem_of_getElem? h)
        cases this
      cases g1 : xs.lookup f1 with
      | none => simp only [g1] at w; exact w.elim
      | some pv =>
        cases g2 : xs.lookup f2 with
        | none => simp only [g1, g2] at w; exact w.elim
        | some qv =>
          simp only [g1, g2] at w
          intro cls d H' L' x' l' xr
          obtain ⟨hcl, hxs⟩ := xr
          rw [hm] at hcl
          cases hcl
          obtain ⟨dd, fs, rfl, hdd, ndd, hfs⟩ := hxs (fun z => by rw [z] at g1; cases g1)
          obtain ⟨v1, y1, r1⟩ := hfs f1 pv g1
          obtain ⟨v2, y2, r2⟩ := hfs f2 qv g2
          have hil : i < σ.length := by rw [er.len]; exact hir
          refine ⟨true, te, fun _ a ha => ?_, fun z => Bool.noConfusion z⟩
          have hsi : (σ.set i (some (V.ref a)))[i]? = some (some (V.ref a)) := List.getElem?_set_self hil
          refine ⟨.ref a, hsi, rfl, rfl, dd, fs, v1, rfl, hdd, y1, .ref a, hsi, rfl, rfl, dd, fs, v2, rfl, hdd, y2, (by show 2 ≤ sizeLine; decide), fun p hp => ?_⟩
          have ext : Ext σ ρ L H L' (upd H' p (.tup [v1, v2])) := fun b u h n => let z := x' b u h n; ⟨Alc.upd hp b u z.1, z.2⟩
          have kk : Keeps L H L' (upd H' p (.tup [v1, v2])) := Ext.keeps ext er
          have ka : Keeps L' H' L' (upd H' p (.tup [v1, v2])) := .alc (.upd hp)
          refine w (.ref p) σ _ L' ⟨er.len, fun j pp h => let ⟨v, z1, z2⟩ := er.pvs j pp h; ⟨v, z1, z2.keep kk⟩, fun j b o h => absurd h (noO j b o), er.dis, fun b l z => ?_⟩ ⟨ext, fun b ⟨j, b', o, h, _⟩ => absurd h (noO j b' o), fun j o h => absurd h (noO j true o), rfl⟩ ?_
          · cases hb : H' b with
            | none => exact l' b l hb
            | some u => rw [Alc.upd hp b u hb] at z; cases z
          · exact new_tup hp l' (.cons r1 (.cons r2 .nil))
    · simp only [hc, if_false] at w; exact w.elim
end
end PL
/-! PL15: sorted(d.items()) of a dict with texts as keys; tuple(a text). -/
namespace PL
open PySem PySem.Spec L2
open SrtO (Swo Srtd Stb Cmp lt2 SortableO)
/-! ### texts in their order -/
def tLt (a b : Str) : Bool := decide (a.cps.toList < b.cps.toList)
theorem tLt_swo {α : Type} (k : α → Str) : Swo fun v u => tLt (k v) (k u) := by
  refine ⟨fun x y h => ?_, fun x y z h1 h2 => ?_⟩
  · have a := of_decide_eq_true h
    exact decide_eq_false fun b => List.lt_irrefl _ (List.lt_trans a b)
  · have a := of_decide_eq_false h1
    have b := of_decide_eq_false h2
    refine decide_eq_false ?_
    rw [List.not_lt] at a b ⊢
    exact List.le_trans a b
theorem tLt_tot {a b : Str} (h1 : tLt a b = false) (h2 : tLt b a = false) : a = b := by
  have x := of_decide_eq_false h1
  have y := of_decide_eq_false h2
  rw [List.not_lt] at x y
  have z : a.cps.toList = b.cps.toList := List.le_antisymm y x
  obtain ⟨⟨l⟩⟩ := a
  obtain ⟨⟨m⟩⟩ := b
  have z : l = m := z
  rw [z]
/-! ### pairs, a text first -/
def IsPairT (h : Heap) (v : Value) (x : Str) (y : Value) : Prop := ∃ a o t n, v = .ref a ∧ h.get? a = some o ∧ o.cls = .type "tuple" ∧ o.data = .seq #[.str x t, y] n
theorem IsPairT.keeps {h h' : Heap} {v : Value} {x : Str} {y : Value} (p : IsPairT h v x y) (k : ∀ b o, h.get? b = some o → o.cls = .type "tuple" → h'.get? b = some o) : IsPairT h' v x y := by
  obtain ⟨a, o, t, n, e, ho, hc, hd⟩ := p
  exact ⟨a, o, t, n, e, k _ _ ho hc, hc, hd⟩
section
variable {prog : Program} {w : World} {A : Around} {E : Value → Shared → Prop} {s : Shared}
theorem eqBool_same {v : Value} {Q : Bool → Shared → Prop} (h : Q true s) : wpAny (model prog w) A (eqBool v v) Q E s := by
  unfold eqBool
  refine wpAny_holding ?_
  rw [if_pos (by simp)]
  exact wpAny_bind (wpAny_rule (wpAny_pure h))
theorem pairT_cmp {vs : List Value} {k : Value → Str × Value} (hp : ∀ v ∈ vs, IsPairT s.heap v (k v).1 (k v).2) (inj : ∀ v ∈ vs, ∀ u ∈ vs, (k v).1 = (k u).1 → v = u) : Cmp prog w A s (PyProof.Rows.tuples' true) (fun p => p.1 ∈ vs) (lt2 fun v u => tLt (k v).1 (k u).1) := by
  intro p q hm hm'
  show wpAny (model prog w) A (PyProof.Rows.keyLt' (PyProof.Rows.tuples' true) p.1 q.1) (fun r s' => s' = s ∧ r = tLt (k p.1).1 (k q.1).1) (fun _ _ => False) s
  by_cases e1 : (k p.1).1 = (k q.1).1
  · have ev := inj _ hm _ hm' e1
    rw [← ev]
    have e3 : tLt (k p.1).1 (k p.1).1 = false := decide_eq_false (List.lt_irrefl _)
    rw [e3]
    obtain ⟨a, o, t, n, e, ho, hc, hd⟩ := hp _ hm
    rw [e]
    refine PySem.W.kat_lt ho hd ho hd ?_
    show PySem.W.KatLex prog w A true (decide (2 < 2)) _ [(.str (k p.1).1 t, .str (k p.1).1 t), ((k p.1).2, (k p.1).2)] 0 s
    exact PySem.W.kat_cons (eqBool_same (PySem.W.kat_yes (PySem.W.kat_cons (eqBool_same (PySem.W.kat_yes (PySem.W.kat_nil ⟨rfl, rfl⟩))))))
  · obtain ⟨a, o, t, n, e, ho, hc, hd⟩ := hp _ hm
    obtain ⟨a', o', t', n', e', ho', hc', hd'⟩ := hp _ hm'
    rw [e, e'] 
    rw [e] at e1 hd
    rw [e'] at e1 hd'
    refine PySem.W.kat_lt ho hd ho' hd' ?_
    show PySem.W.KatLex prog w A true (decide (2 < 2)) _ [(.str (k (.ref a)).1 t, .str (k (.ref a')).1 t'), ((k (.ref a)).2, (k (.ref a')).2)] 0 s
    refine PySem.W.kat_cons (PyProof.Rows.eqBool_str ?_)
    have eb : ((k (.ref a)).1 == (k (.ref a')).1) = false := by simpa using e1
    rw [eb]
    exact PySem.W.kat_no (PyProof.Rows.oneLt_str ⟨rfl, rfl⟩)
theorem firstsT_of {h : Heap} : ∀ {vs : List Value}, (∀ v ∈ vs, ∃ x y, IsPairT h v x y) → ∃ fs : List Value, PySem.W.KatTups h vs fs ∧ fs.length = vs.length ∧ ∀ f ∈ fs, ∃ x t, f = Value.str x t
  | [], _ => ⟨[], PySem.W.KatTups.nil, rfl, fun _ hm => by simp at hm⟩
  | v :: vs, hp => by
    obtain ⟨fs, h1, h2, h3⟩ := firstsT_of (vs := vs) fun v' hm => hp v' (List.mem_cons_of_mem _ hm)
    obtain ⟨x, y, a, o, t, n, e, ho, hc, hd⟩ := hp v (List.mem_cons_self ..)
    subst e
    refine ⟨.str x t :: fs, PySem.W.KatTups.cons ho hc hd rfl h1, by rw [List.length_cons, List.length_cons, h2], fun f hm => ?_⟩
    rcases List.mem_cons.mp hm with rfl | hm
    · exact ⟨x, t, rfl⟩
    · exact h3 f hm
theorem pairsT_sortable {a : Addr} {vs : List Value} {k : Value → Str × Value} (h0 : 0 < vs.length) (hp : ∀ v ∈ vs, IsPairT s.heap v (k v).1 (k v).2) (inj : ∀ v ∈ vs, ∀ u ∈ vs, (k v).1 = (k u).1 → v = u) (ha : ∀ o, s.heap.get? a = some o → o.cls ≠ .type "tuple") :
    SortableO prog w A s a vs fun v u => tLt (k v).1 (k u).1 := by
  intro h' keep
  have hp' : ∀ v ∈ vs, IsPairT h' v (k v).1 (k v).2 := fun v hm => (hp v hm).keeps fun b o e c => keep b o (fun z => by subst z; exact ha o e c) e
  obtain ⟨fs, h1, h2, h3⟩ := firstsT_of fun v hm => ⟨_, _, hp' v hm⟩
  refine ⟨PyProof.Rows.tuples' true, fun Q E hq => ?_, pairT_cmp hp' inj⟩
  refine PySem.W.kat_kind (T := .type "str") h1 (by omega) (fun f hm => ?_) (by rfl) ?_
  · obtain ⟨x, t, rfl⟩ := h3 f hm
    exact PySem.W.Looks.now
  · have e : (Value.type "str" != Value.type "tuple") = true := by first | decide +kernel | rfl | decide
    rw [e]
    exact hq
end
def strV : Value → Str
  | .str x _ => x
  | _ => Str.empty
def pairK (h : Heap) : Value → Str × Value
  | .ref b => match h.get? b with
    | some ob => match ob.data with
      | .seq its _ => (strV (its.getD 0 .none), its.getD 1 .none)
      | _ => (Str.empty, .none)
    | none => (Str.empty, .none)
  | _ => (Str.empty, .none)
theorem pairs_get {K' : Type} [DecidableEq K'] {prog : Program} {w : World} {knd : KeyKind prog w K'} : ∀ {es : List DictEntry} {ws : List (K' × Value)} {j : Nat} {en : DictEntry}, Pairs knd es ws → es[j]? = some en → ∃ kv, ws[j]? = some kv ∧ knd.is kv.1 en.key = true ∧ en.val = kv.2
  | _, _, _, _, .nil, h => by simp at h
  | _, _, 0, _, .cons h1 h2 t, h => by simp at h; subst h; exact ⟨_, rfl, h1, h2⟩
  | _, _, j + 1, _, .cons h1 h2 t, h => by simpa using pairs_get t (by simpa using h)
theorem perm_map_lift {α β : Type} {f : α → β} : ∀ {m : List β} {l : List α}, m.Perm (l.map f) → ∃ z : List α, z.map f = m ∧ z.Perm l := fun {m l} h => by
  generalize hn : l.map f = n at h
  induction h generalizing l with
  | nil =>
    cases l with
    | nil => exact ⟨[], rfl, .nil⟩
    | cons _ _ => cases hn
  | cons x h ih =>
    cases l with
    | nil => cases hn
    | cons a l =>
      injection hn with h1 h2
      subst h1
      obtain ⟨z, z1, z2⟩ := ih h2
      exact ⟨a :: z, by rw [List.map_cons, z1], .cons _ z2⟩
  | swap x y r =>
    cases l with
    | nil => cases hn
    | cons a l =>
      cases l with
      | nil => injection hn with _ h2; cases h2
      | cons b l =>
        injection hn with h1 h2
        injection h2 with h2 h3
        subst h1 h2 h3
        exact ⟨b :: a :: l, rfl, .swap _ _ _⟩
  | trans h1 h2 ih1 ih2 =>
    obtain ⟨z, z1, z2⟩ := ih2 hn
    obtain ⟨y, y1, y2⟩ := ih1 z1
    exact ⟨y, y1, y2.trans z2⟩
section
variable {X : Cx}
/-- d.items() -/
def rItemsK : V → List V → Hp → VK → Prop := fun x xs H Q => ∃ (a : Addr) (kvs : List (Key × V)), x = .ref a ∧ xs = [] ∧ H a = some (.dK kvs) ∧ ∀ p, H p = none → Q (.ref p) (upd H p (L2.DX.itemsO p a))
theorem mt_itemsK : MtR X "dict.items" rItemsK := by
  intro pins s σ H x xs v us Q I rx rxs h
  obtain ⟨a, kvs, rfl, rfl, ha, q⟩ := h
  cases rx
  cases rxs
  obtain ⟨z, hd, ws, rel, o, es, ep, ho, hx, hdat, _⟩ := (show ObjOk X.prog X.w H s.heap a (.dK kvs) from I.hok a _ ha)
  refine DT.callItems (es := es) (ep := ep) hd ⟨o, ho, hx, hdat⟩ ?_
  have hf : H s.heap.objs.size = none := I.hok.fresh (Nat.le_refl _)
  exact ⟨.ref s.heap.objs.size, upd H s.heap.objs.size (L2.DX.itemsO s.heap.objs.size a), I.laid (t' := s.toks) (fun b u e => Heap.get?_push_of_some _ e) (Nat.le_refl _) (L2.DX.itemsO_ok (Heap.get?_push_size _ rfl)), rfl, q _ hf⟩
/-- sorted(d.items()), the keys texts -/
def rSortK : List V → Hp → VK → Prop := fun vs H Q => ∃ (p a : Addr) (l : List (Str × V)), vs = [.ref p] ∧ H p = some (L2.DX.itemsO p a) ∧ H a = some (.dK (l.map fun e => (Sum.inr e.1, e.2))) ∧
  ∀ (H' : Hp) (q : Addr) (zs : List (Addr × Str × V)), Alc H H' → (l.map (·.1)).Nodup → (zs.map (·.2)).Perm l → (zs.map (·.2)).Pairwise (fun e f => tLt f.1 e.1 = false) → H q = none → H' q = some (.lst (zs.map fun z => V.ref z.1)) →
    (∀ z ∈ zs, H z.1 = none ∧ H' z.1 = some (.tup [.str z.2.1, z.2.2])) → Q (.ref q) H'
theorem cr_sortedK (hc : X.calm = true) : CallR X (.builtin "sorted") rSortK := by
  intro pins s σ H xs us Q I r h
  obtain ⟨p, a, l, rfl, hp, ha, q⟩ := h
  obtain rfl := Vals.ref1 r
  have view : s.heap.IsItemsView p a := (show ObjOk X.prog X.w H s.heap p (L2.DX.itemsO p a) from I.hok p _ hp).1
  obtain ⟨z, hd, ws, rel, o, es, ep, ho, hx, hdat, hko, hpr, hn⟩ := (show ObjOk X.prog X.w H s.heap a (.dK (l.map fun e => (Sum.inr e.1, e.2))) from I.hok a _ ha)
  have l1 : l.length = ws.length := by have := Paired.length rel; rw [List.length_map] at this; exact this
  have l2 : es.size = ws.length := by have := hpr.length; rw [Array.length_toList] at this; exact this
  have hz : es.size ≤ sizeLine := by rw [l2, ← l1]; rw [List.length_map] at z; exact z
  have hh : X.A.handled = none := I.ok.hd hc
  -- the keys are apart
  have key1 : ∀ {m : List (Key × V)} {ws : List (Key × Value)}, KV m ws → m.map (·.1) = ws.map (·.1) := by
    intro m ws h
    induction h with
    | nil => rfl
    | cons r _ ih => rw [List.map_cons, List.map_cons, r.1, ih]
  have nd : (l.map (·.1)).Nodup := by
    have e := key1 rel
    rw [List.map_map] at e
    rw [← e] at hn
    have e2 : (l.map ((fun kv : Key × V => kv.1) ∘ fun e => (Sum.inr e.1, e.2))) = (l.map (·.1)).map Sum.inr := by rw [List.map_map]; rfl
    rw [e2] at hn
    exact (List.pairwise_map.mp hn).imp fun h e => h (by rw [e])
  -- the entries
  have ent : ∀ (j : Nat) (en : DictEntry), es[j]? = some en → ∃ (e : Str × V) (t : Tok), l[j]? = some e ∧ en.key = .str e.1 t ∧ RelV e.2 en.val := by
    intro j en hj
    obtain ⟨kv, h1, h2, h3⟩ := pairs_get hpr (show es.toList[j]? = some en by rw [Array.getElem?_toList]; exact hj)
    have key2 : ∀ {m : List (Key × V)} {ws : List (Key × Value)} {j : Nat} {kv : Key × Value}, KV m ws → ws[j]? = some kv → ∃ mv, m[j]? = some mv ∧ mv.1 = kv.1 ∧ RelV mv.2 kv.2 := by
      intro m ws j kv h
      induction h generalizing j with
      | nil => intro e; simp at e
      | @cons x y xs ys r t ih =>
        intro e
        cases j with
        | zero => simp at e; subst e; exact ⟨_, rfl, r.1, r.2⟩
        | succ j => simpa using ih (by simpa using e)
    obtain ⟨mv, y1, y2, y3⟩ := key2 rel h1
    rw [List.getElem?_map] at y1
    obtain ⟨e, z1, rfl⟩ := Option.map_eq_some_iff.mp y1
    have y2 : Sum.inr e.1 = kv.1 := y2
    rw [← y2] at h2
    rcases keyIs_shape (show keyIs (Sum.inr e.1) en.key = true from h2) with ⟨i, t, f1, f2⟩ | ⟨x, t, f1, f2⟩
    · cases f1
    · cases f1
      exact ⟨e, t, z1, f2, by rw [h3]; exact y3⟩
  refine DT.sortedI (es := es) (ep := ep) hh view ⟨o, ho, hx, hdat⟩ hz fun h' tk as hk hlt hl hG => ?_
  have lak : as.length = l.length := by omega
  have nda : as.Nodup := List.Pairwise.imp (fun h => Nat.ne_of_lt h) hG.rise
  have pr : ∀ (j : Nat) (b : Addr), as[j]? = some b → ∃ (e : Str × V) (t : Tok) (u : Value), l[j]? = some e ∧ RelV e.2 u ∧ h'.get? b = some { cls := .type "tuple", data := .seq #[Value.str e.1 t, u] } := by
    intro j b hj
    obtain ⟨en, he, hg⟩ := hG.pairs j b hj
    obtain ⟨e, t, y1, y2, y3⟩ := ent j en he
    exact ⟨e, t, en.val, y1, y3, by rw [hg, y2]⟩
  -- the key of a made pair
  have hex : ∃ k : Value → Str × Value, ∀ (j : Nat) (b : Addr), as[j]? = some b → ∃ (e : Str × V) (t : Tok) (u : Value), l[j]? = some e ∧ RelV e.2 u ∧ k (.ref b) = (e.1, u) ∧ h'.get? b = some { cls := .type "tuple", data := .seq #[Value.str e.1 t, u] } := by
    refine ⟨pairK h', fun j b hj => ?_⟩
    obtain ⟨e, t, u, y1, y2, y3⟩ := pr j b hj
    exact ⟨e, t, u, y1, y2, by simp [pairK, strV, y3], y3⟩
  obtain ⟨k, hk2⟩ := hex
  have hob : (h'.push { cls := .type "list", data := .seq (as.map Value.ref).toArray }).get? h'.objs.size = some (PyProof.Rows.seqObj "list" (as.map Value.ref).toArray 0) := Heap.get?_push_size _ rfl
  have kb : ∀ b o, s.heap.get? b = some o → (h'.push { cls := .type "list", data := .seq (as.map Value.ref).toArray }).get? b = some o := fun b o e => Heap.get?_push_of_some _ (hk b o e)
  have ne0 : ∀ b o, h'.get? b = some o → b ≠ h'.objs.size := fun b o e => Nat.ne_of_lt (Heap.lt_size e)
  generalize hh2 : h'.push { cls := .type "list", data := .seq (as.map Value.ref).toArray } = h2 at hob kb ⊢
  have ka : ∀ b o, h'.get? b = some o → h2.get? b = some o := fun b o e => by rw [← hh2]; exact Heap.get?_push_of_some _ e
  have at_ : ∀ v ∈ as.map Value.ref, ∃ (j : Nat) (b : Addr), v = .ref b ∧ as[j]? = some b := by
    intro v hv'
    obtain ⟨b, hb, rfl⟩ := List.mem_map.mp hv'
    obtain ⟨j, hj⟩ := List.mem_iff_getElem?.mp hb
    exact ⟨j, b, rfl, hj⟩
  have hpp : ∀ v ∈ as.map Value.ref, IsPairT h2 v (k v).1 (k v).2 := by
    intro v hv'
    obtain ⟨j, b, rfl, hj⟩ := at_ v hv'
    obtain ⟨e, t, u, y1, y2, y3, y4⟩ := hk2 j b hj
    rw [y3]
    exact ⟨b, _, t, _, rfl, ka _ _ y4, rfl, rfl⟩
  have ixN2 : ∀ {i j : Nat} {x : Str}, (l.map (·.1))[i]? = some x → (l.map (·.1))[j]? = some x → i = j := fun {i j x} h1 h2 => (List.getElem?_inj (List.getElem?_eq_some_iff.mp h1).1 nd).mp (h1.trans h2.symm)
  have hinj : ∀ v ∈ as.map Value.ref, ∀ u ∈ as.map Value.ref, (k v).1 = (k u).1 → v = u := by
    intro v hv' u hu' hkk
    obtain ⟨j, b, rfl, hj⟩ := at_ v hv'
    obtain ⟨i, c, rfl, hi⟩ := at_ u hu'
    obtain ⟨e, t, w1, y1, y2, y3, y4⟩ := hk2 j b hj
    obtain ⟨e', t', w1', y1', y2', y3', y4'⟩ := hk2 i c hi
    rw [y3, y3'] at hkk
    have hkk : e.1 = e'.1 := hkk
    have ij : j = i := ixN2 (x := e.1) (by rw [List.getElem?_map, y1]; rfl) (by rw [List.getElem?_map, y1', hkk]; rfl)
    subst ij
    rw [hj] at hi; cases hi; rfl
  refine wpAny_call_entry PyProof.Rows.slot_list_sort ⟨_, hob, rfl⟩ PyProof.Rows.entry_list_sort
    (SrtO.list_sort_ord (s := { s with heap := h2, toks := tk }) (vs := as.map Value.ref) (ltv := fun v u => tLt (k v).1 (k u).1) (tLt_swo fun v => (k v).1) hob (by rw [List.length_map]; omega) (fun h2' => pairsT_sortable (by omega) hpp hinj fun o e => ?_) fun out hs hb => ⟨.none, rfl, ?_⟩) (PyProof.Rows.args_list_sort _)
  · have e' : some o = some (PyProof.Rows.seqObj "list" (as.map Value.ref).toArray 0) := e.symm.trans hob
    cases e'
    intro c
    exact absurd (Value.type.inj c) (by decide)
  · show EP X pins σ Q (.ref h'.objs.size) { s with heap := PyProof.Rows.sortedHeap h2 h'.objs.size (as.map Value.ref) out.toArray, toks := tk }
    have hperm0 : out.Perm (as.map Value.ref) := hb.perm
    -- the pairs in their new order
    have hlift : ∃ zs : List (Addr × Str × V), zs.Perm (as.zip l) ∧ zs.map (fun z => Value.ref z.1) = out := by
      have e1 : (as.zip l).map (fun z => Value.ref z.1) = as.map Value.ref := by
        have := congrArg (List.map Value.ref) (List.map_fst_zip (l₁ := as) (l₂ := l) (by omega))
        rw [List.map_map] at this
        exact this
      rw [← e1] at hperm0
      obtain ⟨zs, y1, y2⟩ := perm_map_lift (f := fun z : Addr × Str × V => Value.ref z.1) hperm0
      exact ⟨zs, y2, y1⟩
    obtain ⟨zs, pz, ez⟩ := hlift
    have idx : ∀ z ∈ zs, ∃ j : Nat, as[j]? = some z.1 ∧ l[j]? = some z.2 := by
      intro z' hz'
      obtain ⟨j, hj⟩ := List.mem_iff_getElem?.mp (pz.mem_iff.mp hz')
      exact ⟨j, List.getElem?_zip_eq_some.mp hj⟩
    have kz : ∀ z ∈ zs, (k (.ref z.1)).1 = z.2.1 := by
      intro z' hz'
      obtain ⟨j, j1, j2⟩ := idx z' hz'
      obtain ⟨e, t, u, y1, y2, y3, y4⟩ := hk2 j _ j1
      rw [j2] at y1; cases y1
      rw [y3]
    have hperm : (zs.map (·.2)).Perm l := by
      have e := pz.map (·.2)
      have m2 : (as.zip l).map (·.2) = l := List.map_snd_zip (by omega)
      rw [m2] at e
      exact e
    have hsort : (zs.map (·.2)).Pairwise (fun e f => tLt f.1 e.1 = false) := by
      rw [← ez] at hs
      have hs : List.Pairwise _ (zs.map fun z => Value.ref z.1) := hs
      rw [List.pairwise_map] at hs ⊢
      refine List.Pairwise.imp_of_mem (fun {x y} hx hy h => ?_) hs
      have h' : tLt (k (.ref y.1)).1 (k (.ref x.1)).1 = false := h
      rw [kz x hx, kz y hy] at h'
      exact h'
    have kF : ∀ b o, b ≠ h'.objs.size → h2.get? b = some o → (PyProof.Rows.sortedHeap h2 h'.objs.size (as.map Value.ref) out.toArray).get? b = some o := fun b o hb e => (PyProof.Rows.sortedHeap_old hb (Heap.lt_size e)).trans e
    have kS : ∀ b o, s.heap.get? b = some o → (PyProof.Rows.sortedHeap h2 h'.objs.size (as.map Value.ref) out.toArray).get? b = some o := fun b o e => kF b o (ne0 _ _ (hk b o e)) (kb b o e)
    obtain ⟨eF, heF⟩ := PyProof.Rows.sortedHeap_at (vs := as.map Value.ref) (out := out.toArray) hob
    have I1 : Inv X pins σ H { s with heap := PyProof.Rows.sortedHeap h2 h'.objs.size (as.map Value.ref) out.toArray, toks := tk } := I.kept (t' := tk) kS
    have hn0 : H h'.objs.size = none := I.hok.fresh (Nat.le_of_lt hlt)
    have hlen : (zs.map fun z => V.ref z.1).length ≤ sizeLine := by
      have e := hperm.length_eq
      rw [List.length_map] at e
      rw [List.length_map]
      omega
    have rv : Vals (zs.map fun z => V.ref z.1) out := by
      rw [← ez]
      exact vals_maps (fun z : Addr × Str × V => V.ref z.1) (fun z => Value.ref z.1) zs fun _ _ => rfl
    have I2 : Inv X pins σ (upd H h'.objs.size (.lst (zs.map fun z => V.ref z.1))) { s with heap := PyProof.Rows.sortedHeap h2 h'.objs.size (as.map Value.ref) out.toArray, toks := tk } :=
      I1.take (h' := PyProof.Rows.sortedHeap h2 h'.objs.size (as.map Value.ref) out.toArray) (t' := tk) (fun b ob _ e => e) (I.fpOk (Nat.le_of_lt hlt) hn0) ⟨hlen, out, eF, rv, heF⟩
    obtain ⟨H2, I3, g, qt⟩ := L2.DX.takeT (P := fun b vs => ∃ (j : Nat) (e : Str × V), as[j]? = some b ∧ l[j]? = some e ∧ vs = [.str e.1, e.2]) I as _ I2 nda fun b hb => by
      obtain ⟨j, hj⟩ := List.mem_iff_getElem?.mp hb
      obtain ⟨e, t, u, he, hru, hg⟩ := pr j b hj
      have hbl : s.heap.objs.size ≤ b := Nat.le_of_lt (hG.above b hb)
      refine ⟨hbl, ?_, [.str e.1, e.2], ⟨j, e, hj, he, rfl⟩, fun H3 => ⟨(by rw [sizeLine_eq]; show 2 ≤ 16777216; omega), [Value.str e.1 t, u], .cons ⟨t, rfl⟩ (.cons hru .nil), ⟨_, kF _ _ (ne0 _ _ hg) (ka _ _ hg), rfl, 0, rfl⟩⟩⟩
      rw [upd_ne (ne0 _ _ hg)]
      exact I.hok.fresh hbl
    have gr : ∀ b o, H b = some o → H2 b = some o := fun b o e => g b o (by rw [upd_ne (ne_of_none e hn0)]; exact e)
    refine ⟨.ref h'.objs.size, H2, I3, rfl, q H2 h'.objs.size zs gr nd hperm hsort hn0 (g _ _ upd_same) fun z' hz' => ?_⟩
    obtain ⟨i, i1, i2⟩ := idx z' hz'
    obtain ⟨vs, ⟨j, e, j1, j2, ev⟩, hH⟩ := qt z'.1 (List.mem_of_getElem? i1)
    have eij : i = j := (List.getElem?_inj (List.getElem?_eq_some_iff.mp i1).1 nda).mp (i1.trans j1.symm)
    subst eij
    have ee : e = z'.2 := Option.some.inj (j2.symm.trans i2)
    rw [ev, ee] at hH
    exact ⟨I.hok.fresh (Nat.le_of_lt (hG.above _ (List.mem_of_getElem? i1))), hH⟩
end
end PL
/-! PL16: sorted(d.items()) and tuple(text) as functions of the frame. -/
namespace PL
open PySem PySem.Spec L2
def insG {α : Type} (e : Str × α) : List (Str × α) → List (Str × α)
  | [] => [e]
  | f :: r => if tLt f.1 e.1 then f :: insG e r else e :: f :: r
def sortG {α : Type} : List (Str × α) → List (Str × α)
  | [] => []
  | e :: r => insG e (sortG r)
abbrev SrtG {α : Type} (l : List (Str × α)) : Prop := l.Pairwise fun e f => tLt f.1 e.1 = false
theorem tLt_irr (a : Str) : tLt a a = false := decide_eq_false (List.lt_irrefl _)
theorem tLt_asym {a b : Str} (h : tLt a b = true) : tLt b a = false := (tLt_swo (fun x : Str => x)).asym a b h
theorem tLt_tr {a b c : Str} (h1 : tLt b a = false) (h2 : tLt c b = false) : tLt c a = false := (tLt_swo (fun x : Str => x)).tr a b c h1 h2
theorem insG_perm {α : Type} (e : Str × α) : ∀ l : List (Str × α), (insG e l).Perm (e :: l)
  | [] => .refl _
  | f :: r => by
    unfold insG
    split
    · exact (List.Perm.cons f (insG_perm e r)).trans (.swap _ _ _)
    · exact .refl _
theorem sortG_perm {α : Type} : ∀ l : List (Str × α), (sortG l).Perm l
  | [] => .refl _
  | e :: r => (insG_perm e (sortG r)).trans (.cons e (sortG_perm r))
theorem insG_srt {α : Type} (e : Str × α) : ∀ {l : List (Str × α)}, SrtG l → SrtG (insG e l)
  | [], _ => List.pairwise_singleton _ _
  | f :: r, h => by
    have h' := List.pairwise_cons.mp h
    unfold insG
    split
    · rename_i q
      refine List.pairwise_cons.mpr ⟨fun x hx => ?_, insG_srt e h'.2⟩
      rcases List.mem_cons.mp ((insG_perm e r).mem_iff.mp hx) with rfl | hx
      · exact tLt_asym q
      · exact h'.1 x hx
    · rename_i q
      have q : tLt f.1 e.1 = false := by simpa using q
      refine List.pairwise_cons.mpr ⟨fun x hx => ?_, h⟩
      rcases List.mem_cons.mp hx with rfl | hx
      · exact q
      · exact tLt_tr q (h'.1 x hx)
theorem sortG_srt {α : Type} : ∀ l : List (Str × α), SrtG (sortG l)
  | [] => List.Pairwise.nil
  | e :: r => insG_srt e (sortG_srt r)
theorem nodup_eq {α : Type} : ∀ {l : List (Str × α)} {x y : Str × α}, (l.map (·.1)).Nodup → x ∈ l → y ∈ l → x.1 = y.1 → x = y
  | [], _, _, _, h, _, _ => absurd h (by simp)
  | z :: l, x, y, nd, hx, hy, e => by
    have nd' := List.nodup_cons.mp (show (z.1 :: l.map (·.1)).Nodup from nd)
    rcases List.mem_cons.mp hx with h1 | h1 <;> rcases List.mem_cons.mp hy with h2 | h2
    · rw [h1, h2]
    · exact absurd (List.mem_map.mpr ⟨y, h2, by rw [← e, h1]⟩) nd'.1
    · exact absurd (List.mem_map.mpr ⟨x, h1, by rw [e, h2]⟩) nd'.1
    · exact nodup_eq nd'.2 h1 h2 e
theorem srt_uniq {α : Type} : ∀ {l m : List (Str × α)}, (l.map (·.1)).Nodup → SrtG l → SrtG m → l.Perm m → l = m
  | [], m, _, _, _, p => (List.Perm.nil_eq p)
  | x :: l, [], _, _, _, p => absurd p.length_eq (by simp)
  | x :: l, y :: m, nd, h1, h2, p => by
    have xm : x ∈ y :: m := p.mem_iff.mp (List.mem_cons_self ..)
    have ym : y ∈ x :: l := p.mem_iff.mpr (List.mem_cons_self ..)
    have e : x = y := by
      have a : tLt y.1 x.1 = false := by
        rcases List.mem_cons.mp ym with rfl | h
        · exact tLt_irr _
        · exact (List.pairwise_cons.mp h1).1 y h
      have b : tLt x.1 y.1 = false := by
        rcases List.mem_cons.mp xm with rfl | h
        · exact tLt_irr _
        · exact (List.pairwise_cons.mp h2).1 x h
      exact nodup_eq nd (List.mem_cons_self ..) ym (tLt_tot b a)
    subst e
    have nd' := List.nodup_cons.mp (show (x.1 :: l.map (·.1)).Nodup from nd)
    rw [srt_uniq nd'.2 (List.pairwise_cons.mp h1).2 (List.pairwise_cons.mp h2).2 p.cons_inv]
section
variable {K : PySem.W.Frag} {L : Addr → Prop} {H : Hp}
theorem RepKv.split : ∀ {kvs : List (Key × V)} {l : List (Str × PV)}, RepKv K L H kvs l → ∃ m : List (Str × V), kvs = m.map (fun e => (Sum.inr e.1, e.2)) ∧ RepF K L H m l
  | _, _, .nil => ⟨[], rfl, .nil⟩
  | _, _, .cons (k := k) (v := v) r t => by
    obtain ⟨m, rfl, h⟩ := RepKv.split t
    exact ⟨(k, v) :: m, rfl, .cons r h⟩
theorem RepF.keys : ∀ {m : List (Str × V)} {l : List (Str × PV)}, RepF K L H m l → m.map (·.1) = l.map (·.1)
  | _, _, .nil => rfl
  | _, _, .cons _ t => by rw [List.map_cons, List.map_cons, RepF.keys t]
theorem RepF.ins {k : Str} {v : V} {p : PV} (r : Rep K L H v p) : ∀ {m : List (Str × V)} {l : List (Str × PV)}, RepF K L H m l → RepF K L H (insG (k, v) m) (insG (k, p) l)
  | _, _, .nil => .cons r .nil
  | _, _, .cons (k := k') a t => by
    unfold insG
    split
    · exact .cons a (RepF.ins r t)
    · exact .cons r (.cons a t)
theorem RepF.sort : ∀ {m : List (Str × V)} {l : List (Str × PV)}, RepF K L H m l → RepF K L H (sortG m) (sortG l)
  | _, _, .nil => .nil
  | _, _, .cons r t => (RepF.sort t).ins r
def itemP (e : Str × PV) : PV := .tup [.str e.1, e.2]
theorem items_of {H' : Hp} (k : Keeps L H L H') (nl : ∀ a, H a = none → ¬ L a) : ∀ {zs : List (Addr × Str × V)} {l : List (Str × PV)}, RepF K L H (zs.map (·.2)) l → (∀ z ∈ zs, H z.1 = none ∧ H' z.1 = some (.tup [.str z.2.1, z.2.2])) → RepAll K L H' (zs.map fun z => V.ref z.1) (l.map itemP)
  | [], _, .nil, _ => .nil
  | z :: zs, _, h, hz => by
    obtain ⟨a, x, v⟩ := z
    cases h with
    | cons r t =>
      obtain ⟨h1, h2⟩ := hz (a, x, v) (List.mem_cons_self ..)
      exact .cons (.tup (.inl ⟨h2, nl a h1⟩) (.cons (.str x) (.cons (r.keep k) .nil))) (items_of k nl t fun y hy => hz y (List.mem_cons_of_mem _ hy))
end
/-- the dict of one's own that stands at a slot -/
def dctAt : Pk → Ev → Option (List (Str × PV))
  | .at i, ρ => match ρ[i]? with
    | some (.own _ (.dct l)) => some l
    | _ => none
  | .val _, _ => none
theorem dctAt_of {k : Pk} {ρ : Ev} {l : List (Str × PV)} (h : dctAt k ρ = some l) : ∃ i b, k = .at i ∧ ρ[i]? = some (Sl.own b (.dct l)) := by
  cases k with
  | val p => cases h
  | «at» i =>
    have h' : (match ρ[i]? with
      | some (.own _ (.dct l)) => some l
      | _ => none) = some l := h
    clear h
    split at h'
    · rename_i b l' g; cases h'; exact ⟨i, b, rfl, g⟩
    · cases h'
def mSortItems (mo : MP) : ME := fun ρ => do
  let (k, ρ1) ← mo ρ
  let l ← Res.of (dctAt k ρ1)
  .ok (.lst ((sortG l).map itemP), ρ1)
section
variable {X : Cx} {E' : St → XK} {x : Str} {p pos apos cpos : Pos} {o : Expr} {mp : MP}
theorem snd_sortItems (hc : X.calm = true) (hg : Gl X x) (hm : X.mg x = none) (hv : bootBuiltins x = some (.builtin "sorted")) (ho : PE X o (SndP X E' mp)) (hn : x ≠ "__name__" := by decide) (hdb : (x == ("__debug__" : Str)) = false := by decide)
    (hbase : attributeBase o "items" X.env (eval o X.env) = eval o X.env := by rfl) (hline : (apos.endLine == cpos.line) = true := by rfl)
    (he : starEach [.Call (.Attribute o "items" apos) [] [] cpos] X.env = (false, eval (.Call (.Attribute o "items" apos) [] [] cpos) X.env) :: starEach [] X.env := by rfl) (hpl : (backTo pos (starEach [] X.env)).any (·.1) = false := by rfl) :
    PE X (.Call (.Name x p) [.Call (.Attribute o "items" apos) [] [] cpos] [] pos) (Snd X E' (mSortItems mp)) :=
  PE.imp (pe_callB (cr_sortedK hc) hg hm hv (pa_cons (pe_bm0 PySem.F.plainAttrs_dict PySem.F.slot_dict_items PySem.F.type_dict_items mt_itemsK ho hbase hline) pa_nil he) hn hdb he hpl) fun σ H Q ⟨L, ρ, er, w⟩ => by
    refine ⟨L, ρ, er, ?_⟩
    unfold mSortItems at w
    cases q : mp ρ with
    | bad => rw [q] at w; exact w
    | err c xs => rw [q] at w; exact w
    | ok r =>
      obtain ⟨k, ρ1⟩ := r
      rw [q] at w
      simp only [Res.ok_bind] at w
      intro v H1 L1 e1 s1 r1
      cases g : dctAt k ρ1 with
      | none => rw [g] at w; exact w.elim
      | some l =>
        rw [g] at w
        obtain ⟨i, b, rfl, h1⟩ := dctAt_of g
        obtain ⟨a, z1, z2, kvs, z3, z4⟩ := e1.own i b _ h1
        have r1 : σ[i]? = some (some v) := r1
        rw [z1] at r1; cases r1
        obtain ⟨m, rfl, hf⟩ := z4.split
        refine ⟨.inr (.inr (.inl ⟨rfl, .inl ⟨_, z3⟩⟩)), a, _, rfl, rfl, z3, fun pp hp => ⟨pp, a, m, rfl, upd_same, ?_, fun H' q zs alc nd perm srt hq hq' hz => ?_⟩⟩
        · rw [upd_ne (ne_of_none z3 hp)]; exact z3
        · have al : Alc H1 H' := fun b u h => alc b u (Alc.upd hp b u h)
          have hqn : H1 q = none := by
            cases hh : H1 q with
            | none => rfl
            | some u => rw [Alc.upd hp q u hh] at hq; cases hq
          have em : zs.map (·.2) = sortG m := srt_uniq (by rw [(perm.map (·.1)).nodup_iff]; exact nd) srt (sortG_srt m) (perm.trans (sortG_perm m).symm)
          have hzn : ∀ z ∈ zs, H1 z.1 = none ∧ H' z.1 = some (.tup [.str z.2.1, z.2.2]) := fun z hz2 => by
            obtain ⟨y1, y2⟩ := hz z hz2
            refine ⟨?_, y2⟩
            cases hh : H1 z.1 with
            | none => rfl
            | some u => rw [Alc.upd hp _ u hh] at y1; cases y1
          have ra := items_of (K := X.K) (.alc al) (fun a h l => e1.liv a l h) (zs := zs) (l := sortG l) (by rw [em]; exact hf.sort) hzn
          exact w (.ref q) H' L1 (e1.alc al) (s1.trans (.alc al)) (.lst ⟨hq', fun l => e1.liv q l hqn⟩ ra)
/-! ### tuple(a text) -/
def chr1 (c : Nat) : Str := ⟨#[c]⟩
def rTupS : List V → Hp → VK → Prop := fun xs H Q => ∃ s : Str, xs = [.str s] ∧ s.length ≤ sizeLine ∧ ∀ p, H p = none → Q (.ref p) (upd H p (.tup (s.cps.toList.map fun c => V.str (chr1 c))))
theorem chrs_of : ∀ {l : List Nat} {us : List Value}, us.length = l.length → (∀ (j : Nat) (v : Value), us[j]? = some v → ∃ (c : Nat) (t : Tok), l[j]? = some c ∧ v = .str (chr1 c) t) → Vals (l.map fun c => V.str (chr1 c)) us
  | [], [], _, _ => .nil
  | [], _ :: _, h, _ => by cases h
  | _ :: _, [], h, _ => by cases h
  | c :: l, u :: us, h, k => by
    obtain ⟨c', t, h1, h2⟩ := k 0 u rfl
    simp at h1; subst h1
    exact .cons ⟨t, h2⟩ (chrs_of (by simpa using h) fun j v hj => by simpa using k (j + 1) v (by simpa using hj))
theorem call_tupS (hc : X.calm = true) : CallR X (.type "tuple") rTupS := by
  intro pins s σ H xs us Q I r h
  obtain ⟨x, rfl, hz, q⟩ := h
  obtain ⟨u, rfl, ru⟩ := vals1 r
  obtain ⟨t, rfl⟩ := ru
  refine call_tuple_str (I.ok.hd hc) x t (fun h' tk acc hk hacc => ?_) hz
  have I1 : Inv X pins σ H { s with heap := h', toks := tk } := I.kept (t' := tk) hk
  have hv : Vals (x.cps.toList.map fun c => V.str (chr1 c)) acc.toList := by
    refine chrs_of (by rw [Array.length_toList, Array.length_toList]; exact hacc.1) fun j v hj => ?_
    obtain ⟨c, u, h1, h2⟩ := hacc.2 j v (by rw [Array.getElem?_toList] at hj; exact hj)
    exact ⟨c, u, by rw [Array.getElem?_toList]; exact h1, h2⟩
  have I2 := I1.laid (t' := tk) (o := .tup (x.cps.toList.map fun c => V.str (chr1 c))) (h' := h'.push { cls := .type "tuple", data := .seq acc }) (fun b o e => Heap.get?_push_of_some _ e) (Nat.le_refl _)
    ⟨by rw [List.length_map, Array.length_toList]; exact hz, acc.toList, hv, ⟨_, Heap.get?_push_size _ rfl, rfl, 0, by simp⟩⟩
  exact ⟨.ref h'.objs.size, _, I2, rfl, q _ (I1.hok.fresh (Nat.le_refl _))⟩
def fTupS : List PV → Option PV
  | [.str s] => if s.length ≤ sizeLine then some (.tup (s.cps.toList.map fun c => .str (chr1 c))) else none
  | _ => none
theorem reps_chr {K : PySem.W.Frag} {L : Addr → Prop} {H : Hp} : ∀ l : List Nat, RepAll K L H (l.map fun c => V.str (chr1 c)) (l.map fun c => PV.str (chr1 c))
  | [] => .nil
  | c :: l => .cons (.str _) (reps_chr l)
theorem pure_tupS {K : PySem.W.Frag} : PureRA K rTupS fTupS := by
  intro L H xs ps z Q l a e k
  unfold fTupS at e
  split at e
  · split at e
    · rename_i hz
      cases e
      obtain ⟨v, rfl, r⟩ := a.one
      cases r.str
      exact ⟨_, rfl, hz, fun p hp => k _ _ (.upd hp) (new_tup hp l (reps_chr _))⟩
    · cases e
  · cases e
end
end PL
/-! PL17: short words for printed derivations. -/
namespace PL
open PySem PySem.Spec L2
section
variable {X : Cx} {E : XK} {E' : St → XK} {e : Expr} {pos : Pos}
theorem w_v (i : Nat) {x : Str} (hN : X.N[i]? = some x := by rfl) (hv : Vis X.env.scope x := by first | exact Or.inl rfl | exact Or.inr (Or.inl rfl) | exact Or.inr (Or.inr rfl)) (hd : (x == ("__debug__" : Str)) = false := by decide) (hcd : (x == ("__classdict__" : Str)) = false := by decide) :
    PE X (.Name x pos) (Snd X E' (mVar i)) := snd_var hN hv hd hcd
theorem w_p (i : Nat) {x : Str} (hN : X.N[i]? = some x := by rfl) (hv : Vis X.env.scope x := by first | exact Or.inl rfl | exact Or.inr (Or.inl rfl) | exact Or.inr (Or.inr rfl)) (hd : (x == ("__debug__" : Str)) = false := by decide) (hcd : (x == ("__classdict__" : Str)) = false := by decide) :
    PE X (.Name x pos) (SndP X E' (mPeek i)) := snd_peek hN hv hd hcd
theorem w_g (i : Nat) {x : Str} (hN : X.N.Nodup) (hi : X.N[i]? = some x := by rfl) (hx : Loc X.env.scope x := by first | exact Or.inl rfl | exact Or.inr rfl) (hf : X.fn x = true ∨ X.env.scope.names.lookup x = some .local := by first | exact .inl rfl | exact .inr rfl | assumption) : PG X (.Name x pos) (SndG X [i] (gN i)) := snd_gname hN hi hx hf
theorem w_set (i : Nat) {x : Str} {m : ME} {pos' : Pos} (hN : X.N.Nodup) (he : PE X e (Snd X (cE E) m)) (hi : X.N[i]? = some x := by rfl) (hx : Loc X.env.scope x := by first | exact Or.inl rfl | exact Or.inr rfl) (hs : swapsWith e (some (.Name x pos')) pos.line X.env = pure false := by rfl) (hf : X.fn x = true ∨ X.env.scope.names.lookup x = some .local := by first | exact .inl rfl | exact .inr rfl | assumption) :
    PS X (.Assign [.Name x pos'] e pos) (SndS X E (mAsg m (gN i))) := snd_set hN hi hx he hs hf
theorem w_setC (i : Nat) {x : Str} {m : MC} {pos' : Pos} (hN : X.N.Nodup) (he : PE X e (SndC X (cE E) m)) (hi : X.N[i]? = some x := by rfl) (hx : Loc X.env.scope x := by first | exact Or.inl rfl | exact Or.inr rfl) (hs : swapsWith e (some (.Name x pos')) pos.line X.env = pure false := by rfl) (hf : X.fn x = true ∨ X.env.scope.names.lookup x = some .local := by first | exact .inl rfl | exact .inr rfl | assumption) :
    PS X (.Assign [.Name x pos'] e pos) (SndS X E (mSetC i m)) := snd_setC hN hi hx he hs hf
theorem w_setL (i : Nat) {x : Str} {es : List Expr} {m : MA} {pos' pos2 : Pos} (hN : X.N.Nodup) (he : PA X es (SndA X (cE E) m)) (hi : X.N[i]? = some x := by rfl) (hx : Loc X.env.scope x := by first | exact Or.inl rfl | exact Or.inr rfl) (hs : swapsWith (.List es pos2) (some (.Name x pos')) pos.line X.env = pure false := by rfl) (hf : X.fn x = true ∨ X.env.scope.names.lookup x = some .local := by first | exact .inl rfl | exact .inr rfl | assumption) :
    PS X (.Assign [.Name x pos'] (.List es pos2) pos) (SndS X E (mSetL i m)) := snd_setL hN hi hx he hs hf
/-- x = {} -/
def mSetD (i : Nat) : MS := fun ρ => do let ρ2 ← Res.of (gO i (.dct []) ρ); .ok (.nx, ρ2)
theorem w_setD (i : Nat) {x : Str} {pos' pos2 : Pos} (hN : X.N.Nodup) (hi : X.N[i]? = some x := by rfl) (hx : Loc X.env.scope x := by first | exact Or.inl rfl | exact Or.inr rfl) (hs : swapsWith (.Dict [] [] pos2) (some (.Name x pos')) pos.line X.env = pure false := by rfl) (hf : X.fn x = true ∨ X.env.scope.names.lookup x = some .local := by first | exact .inl rfl | exact .inr rfl | assumption) :
    PS X (.Assign [.Name x pos'] (.Dict [] [] pos2) pos) (SndS X E (mSetD i)) := PS.imp (ps_set hN hi hx pe_dnewK hs hf) fun D σ H ⟨L, ρ, er, w⟩ => by
  intro p hp
  unfold mSetD at w
  cases g : gO i (.dct []) ρ with
  | none => rw [g] at w; exact w.elim
  | some ρ2 =>
    rw [g] at w
    obtain ⟨e2, s2⟩ := er.putN (u := .dK []) hp (show RepO X.K (Ad L p) (upd H p (.dK [])) (.dct []) p from ⟨[], upd_same, .nil⟩) g
    exact w _ _ _ e2 s2
theorem w_aug (i : Nat) {x : Str} {op : Operator} {rd : R2} {g : PV → PV → Option PV} {mp : MP} {pos' : Pos} (hN : X.N.Nodup) (hop : OpR X (inplaceOp op) rd) (hg : PureR2 X.K rd g) (he : PE X e (SndP X (cE E) mp)) (hi : X.N[i]? = some x := by rfl) (hx : Loc X.env.scope x := by first | exact Or.inl rfl | exact Or.inr rfl) (hf : X.fn x = true ∨ X.env.scope.names.lookup x = some .local := by first | exact .inl rfl | exact .inr rfl | assumption) :
    PS X (.AugAssign (.Name x pos') op e pos) (SndS X E (mAug i g mp)) := snd_aug hN hi hx hop hg he hf
/-- iso: a test by value -/
theorem w_pt {t : MT} (h : PW X e (SndT X E' t)) : PT X e (SndT X E' t) := h.pt
theorem w_yes : PTs X [] (SndT X E' mtYes) := ⟨fun pins s σ H Q I ⟨L, ρ, er, w⟩ => (pts_nil (X := X)).run pins s σ H Q I (w H L er .refl)⟩
end
/-- a constant of the module's, a text -/
theorem kv_str {K : PySem.W.Frag} {mg : Str → Option Value} {x s : Str} {t : Tok} (h : mg x = some (.str s t)) : KVal K mg x (.str s) := ⟨_, .str s, h, ⟨t, rfl⟩, fun _ _ => .str s⟩
/-- an __init__ with two fields, its body told apart -/
theorem fn_init2b {P : Program} {w : World} {K : PySem.W.Frag} {mg : Str → Option Value} {base : Heap} {f C D cc cda : Addr} {name qual : Str} {params : Arguments} {scope : Scope} {body : List Stmt} {dV kV doc pm ct oc : Value} {an od : Option Addr}
    {osl : Array (Option Value)} {self f1 f2 pre mid : Str} {p0 p1 p2 p3 p4 q1 q2 q3 q4 q5 q6 q7 r1 r2 r3 r4 r5 r6 r7 r8 : Pos} {j1 j2 : Nat} {ar : Arg} {pl : Sem Bool}
    (lk : K.lookup f = some ⟨oc, od, .func (PySem.W.ksFn name qual params body scope dV kV doc pm an (.ref cda) ct cc), osl⟩) (hcd : PySem.W.codeIn K (.ref cda) qual = true) (S : SupScope [self, f1, f2] scope)
    (T : OexC K C) (ST : SupTxt P K mg C D cc cda) (n1 : PySem.W.findIn K (.ref C) f1 = some none) (n2 : PySem.W.findIn K (.ref C) f2 = some none)
    (hb : body = .Expr (.Call (.Attribute (.Call (.Name "super" p0) [] [] p1) "__init__" p2) [.JoinedStr [.Constant (.str pre) j1 q1, .FormattedValue (.Name f1 q2) (-1) none q3, .Constant (.str mid) j2 q4, .FormattedValue (.Name f2 q5) (-1) none q6] q7] [] p3) p4 ::
      [.Assign [.Attribute (.Name self r1) f1 r2] (.Name f1 r3) r4, .Assign [.Attribute (.Name self r5) f2 r6] (.Name f2 r7) r8])
    (hp : (params.posonlyargs ++ params.args).head? = some ar) (hp0 : self = ar.arg)
    (hev : ∀ L a cd cc, eval (.Call (.Attribute (.Call (.Name "super" p0) [] [] p1) "__init__" p2) [.JoinedStr [.Constant (.str pre) j1 q1, .FormattedValue (.Name f1 q2) (-1) none q3, .Constant (.str mid) j2 q4, .FormattedValue (.Name f2 q5) (-1) none q6] q7] [] p3) (PySem.W.ksEnv qual scope L a cd cc) = (do
      let ov ← attributeBase (.Call (.Name "super" p0) [] [] p1) "__init__" (PySem.W.ksEnv qual scope L a cd cc) (eval (.Call (.Name "super" p0) [] [] p1) (PySem.W.ksEnv qual scope L a cd cc))
      standAt p2.atName
      let (f, first) ← holding [ov] (getMethod ov "__init__" pl)
      callWith p3 f first (backTo p3 (starEach [.JoinedStr [.Constant (.str pre) j1 q1, .FormattedValue (.Name f1 q2) (-1) none q3, .Constant (.str mid) j2 q4, .FormattedValue (.Name f2 q5) (-1) none q6] q7] (PySem.W.ksEnv qual scope L a cd cc))) []))
    (d0 : (self == ("__debug__" : Str)) = false) (d1 : (f1 == ("__debug__" : Str)) = false) (d2 : (f2 == ("__debug__" : Str)) = false) (c0 : (self == ("__classdict__" : Str)) = false) (c1 : (f1 == ("__classdict__" : Str)) = false) (c2 : (f2 == ("__classdict__" : Str)) = false) :
    FnOk P w K mg base (L2.CX P w) 1 f (PySem.W.ksFn name qual params body scope dV kV doc pm an (.ref cda) ct cc) [self, f1, f2] (spI2 C f1 f2 pre mid) := by
  subst hb
  exact fn_init2 lk hcd S T ST hp hp0 n1 n2 d0 d1 d2 c0 c1 c2 hev
end PL
/-! Printed by gen.py: the meanings of the defs and the derivations of them. -/
namespace K03
open PySem PySem.Spec L2 PL
def top (i : Nat) : Stmt := PySem.Challenge.pw_tyloom_k03_whole_texts_of_types.main.body.getD i (.Pass ⟨0, 0, 0, 0⟩)
def c_VAR : Str := "var"
def c_CON : Str := "con"
def c_REC : Str := "rec"
def c_ALL : Str := "all"
def c_LOW : Str := "abcdefghijklmnopqrstuvwxyz"
def c_HIGH : Str := "ABCDEFGHIJKLMNOPQRSTUVWXYZ"
def c_DIGITS : Str := "0123456789"
def c_SHORT : Str := "(){}:,|."
def c_ARROW : Str := "->"
abbrev s_atom_text : Stmt := top 13
abbrev s_record_text : Stmt := top 14
abbrev s_format_type : Stmt := top 15
abbrev s_word_end : Stmt := top 16
abbrev s_words_in : Stmt := top 17
abbrev s_Reader_head : Stmt := inClass (top 18) 1
abbrev s_Reader_fail : Stmt := inClass (top 18) 2
abbrev s_Reader_need : Stmt := inClass (top 18) 3
abbrev s_Reader_is_variable : Stmt := inClass (top 18) 4
abbrev s_Reader_whole : Stmt := inClass (top 18) 5
abbrev s_Reader_applied : Stmt := inClass (top 18) 6
abbrev s_Reader_one : Stmt := inClass (top 18) 7
abbrev s_Reader_record : Stmt := inClass (top 18) 8
abbrev s_parse_type : Stmt := top 19
abbrev s__law_begin : Stmt := top 21
abbrev s__law_take : Stmt := top 22
abbrev s__law_pick : Stmt := top 23
abbrev s__law_fun : Stmt := top 24
abbrev s__law_int : Stmt := top 25
abbrev s__law_list : Stmt := top 26
abbrev s__law_type : Stmt := top 27
abbrev s__law_told : Stmt := top 28
abbrev s__law_text : Stmt := top 29
abbrev s_law : Stmt := top 30
abbrev s_Reader_init : Stmt := inClass (top 18) 0
abbrev s_TextError_init : Stmt := inClass (top 2) 0
theorem sc_atom_text : FnScope ["t"] ["t"] (defScope s_atom_text) := ⟨rfl, rfl, rfl, by decide +kernel, rfl, by decide +kernel, by decide +kernel⟩
theorem sc_record_text : FnScope ["t", "_", "fields", "tail", "text", "name", "own"] ["t"] (defScope s_record_text) := ⟨rfl, rfl, rfl, by decide +kernel, rfl, by decide +kernel, by decide +kernel⟩
theorem sc_format_type : FnScope ["t", "kind", "one", "other", "is_bound", "ahead", "own"] ["t"] (defScope s_format_type) := ⟨rfl, rfl, rfl, by decide +kernel, rfl, by decide +kernel, by decide +kernel⟩
theorem sc_word_end : FnScope ["text", "place"] ["text", "place"] (defScope s_word_end) := ⟨rfl, rfl, rfl, by decide +kernel, rfl, by decide +kernel, by decide +kernel⟩
theorem sc_words_in : FnScope ["text", "found", "place", "sign", "end"] ["text"] (defScope s_words_in) := ⟨rfl, rfl, rfl, by decide +kernel, rfl, by decide +kernel, by decide +kernel⟩
theorem sc_Reader_head : FnScope ["self"] ["self"] (defScope s_Reader_head) := ⟨rfl, rfl, rfl, by decide +kernel, rfl, by decide +kernel, by decide +kernel⟩
theorem sc_Reader_fail : FnScope ["self"] ["self"] (defScope s_Reader_fail) := ⟨rfl, rfl, rfl, by decide +kernel, rfl, by decide +kernel, by decide +kernel⟩
theorem sc_Reader_need : FnScope ["self", "word"] ["self", "word"] (defScope s_Reader_need) := ⟨rfl, rfl, rfl, by decide +kernel, rfl, by decide +kernel, by decide +kernel⟩
theorem sc_Reader_is_variable : FnScope ["self", "word"] ["self"] (defScope s_Reader_is_variable) := ⟨rfl, rfl, rfl, by decide +kernel, rfl, by decide +kernel, by decide +kernel⟩
theorem sc_Reader_whole : FnScope ["self", "name", "found"] ["self"] (defScope s_Reader_whole) := ⟨rfl, rfl, rfl, by decide +kernel, rfl, by decide +kernel, by decide +kernel⟩
theorem sc_Reader_applied : FnScope ["self", "word", "parts"] ["self"] (defScope s_Reader_applied) := ⟨rfl, rfl, rfl, by decide +kernel, rfl, by decide +kernel, by decide +kernel⟩
theorem sc_Reader_one : FnScope ["self", "word", "found"] ["self"] (defScope s_Reader_one) := ⟨rfl, rfl, rfl, by decide +kernel, rfl, by decide +kernel, by decide +kernel⟩
theorem sc_Reader_record : FnScope ["self", "fields", "name", "tail"] ["self"] (defScope s_Reader_record) := ⟨rfl, rfl, rfl, by decide +kernel, rfl, by decide +kernel, by decide +kernel⟩
theorem sc_parse_type : FnScope ["text", "reader", "found"] ["text"] (defScope s_parse_type) := ⟨rfl, rfl, rfl, by decide +kernel, rfl, by decide +kernel, by decide +kernel⟩
theorem sc__law_begin : FnScope ["script", "seed", "cell"] ["script"] (defScope s__law_begin) := ⟨rfl, rfl, rfl, by decide +kernel, rfl, by decide +kernel, by decide +kernel⟩
theorem sc__law_take : FnScope ["d", "many", "small", "digit"] ["d", "many"] (defScope s__law_take) := ⟨rfl, rfl, rfl, by decide +kernel, rfl, by decide +kernel, by decide +kernel⟩
theorem sc__law_pick : FnScope ["d", "menu"] ["d", "menu"] (defScope s__law_pick) := ⟨rfl, rfl, rfl, by decide +kernel, rfl, by decide +kernel, by decide +kernel⟩
theorem sc__law_fun : FnScope ["one", "other"] ["one", "other"] (defScope s__law_fun) := ⟨rfl, rfl, rfl, by decide +kernel, rfl, by decide +kernel, by decide +kernel⟩
theorem sc__law_int : FnScope [] [] (defScope s__law_int) := ⟨rfl, rfl, rfl, by decide +kernel, rfl, by decide +kernel, by decide +kernel⟩
theorem sc__law_list : FnScope ["t"] ["t"] (defScope s__law_list) := ⟨rfl, rfl, rfl, by decide +kernel, rfl, by decide +kernel, by decide +kernel⟩
theorem sc__law_type : FnScope ["d", "size", "names", "rows", "menu", "fields", "name"] ["d", "size", "names", "rows"] (defScope s__law_type) := ⟨rfl, rfl, rfl, by decide +kernel, rfl, by decide +kernel, by decide +kernel⟩
theorem sc__law_told : FnScope ["text", "e"] ["text"] (defScope s__law_told) := ⟨rfl, rfl, rfl, by decide +kernel, rfl, by decide +kernel, by decide +kernel⟩
theorem sc__law_text : FnScope ["t", "fields", "one", "text", "own", "part", "name"] ["t"] (defScope s__law_text) := ⟨rfl, rfl, rfl, by decide +kernel, rfl, by decide +kernel, by decide +kernel⟩
theorem sc_law : FnScope ["script", "d", "a", "known", "text", "t", "wrong", "k", "turn", "at", "sign", "bent", "told", "due"] ["script"] (defScope s_law) := ⟨rfl, rfl, rfl, by decide +kernel, rfl, by decide +kernel, by decide +kernel⟩
theorem sc_Reader_init : FnScope ["self", "words"] ["self", "words"] (defScope s_Reader_init) := ⟨rfl, rfl, rfl, by decide +kernel, rfl, by decide +kernel, by decide +kernel⟩
structure Fns where
  atom_text : Fn
  record_text : Fn
  format_type : Fn
  word_end : Fn
  words_in : Fn
  Reader_head : Fn
  Reader_fail : Fn
  Reader_need : Fn
  Reader_is_variable : Fn
  Reader_whole : Fn
  Reader_applied : Fn
  Reader_one : Fn
  Reader_record : Fn
  parse_type : Fn
  _law_begin : Fn
  _law_take : Fn
  _law_pick : Fn
  _law_fun : Fn
  _law_int : Fn
  _law_list : Fn
  _law_type : Fn
  _law_told : Fn
  _law_text : Fn
  law : Fn
structure Ads where
  a_atom_text : Addr
  a_record_text : Addr
  a_format_type : Addr
  a_word_end : Addr
  a_words_in : Addr
  a_Reader_head : Addr
  a_Reader_fail : Addr
  a_Reader_need : Addr
  a_Reader_is_variable : Addr
  a_Reader_whole : Addr
  a_Reader_applied : Addr
  a_Reader_one : Addr
  a_Reader_record : Addr
  a_parse_type : Addr
  a__law_begin : Addr
  a__law_take : Addr
  a__law_pick : Addr
  a__law_fun : Addr
  a__law_int : Addr
  a__law_list : Addr
  a__law_type : Addr
  a__law_told : Addr
  a__law_text : Addr
  a_law : Addr
  a_Reader_init : Addr
  a_TextError_init : Addr
  Reader : Addr
  TextError : Addr
structure Fds where
  d_atom_text : FuncData
  d_record_text : FuncData
  d_format_type : FuncData
  d_word_end : FuncData
  d_words_in : FuncData
  d_Reader_head : FuncData
  d_Reader_fail : FuncData
  d_Reader_need : FuncData
  d_Reader_is_variable : FuncData
  d_Reader_whole : FuncData
  d_Reader_applied : FuncData
  d_Reader_one : FuncData
  d_Reader_record : FuncData
  d_parse_type : FuncData
  d__law_begin : FuncData
  d__law_take : FuncData
  d__law_pick : FuncData
  d__law_fun : FuncData
  d__law_int : FuncData
  d__law_list : FuncData
  d__law_type : FuncData
  d__law_told : FuncData
  d__law_text : FuncData
  d_law : FuncData
  d_Reader_init : FuncData
  d_TextError_init : FuncData
def noF : Fns := ⟨fun _ => .bad, fun _ => .bad, fun _ => .bad, fun _ => .bad, fun _ => .bad, fun _ => .bad, fun _ => .bad, fun _ => .bad, fun _ => .bad, fun _ => .bad, fun _ => .bad, fun _ => .bad, fun _ => .bad, fun _ => .bad, fun _ => .bad, fun _ => .bad, fun _ => .bad, fun _ => .bad, fun _ => .bad, fun _ => .bad, fun _ => .bad, fun _ => .bad, fun _ => .bad, fun _ => .bad⟩
def m_Reader_init (A : Ads) (F : Fns) : MS :=
  (mSeq (mPutF A.Reader "words" (mVar 1) (mPeek 0))
  (mPutF A.Reader "at" (mC (.int 0)) (mPeek 0)))
def f_Reader_init (A : Ads) : Fn := fnBody 2 (m_Reader_init A noF)
def m_atom_text (A : Ads) (F : Fns) : MS :=
  (mSeq (mIf (mtOr (mtB (mOp2 fEq (toP (mOp2 fIx (mPeek 0) (toP (mC (.int 0))))) (toP (mC (.str c_ALL))))) (mtAnd (mtB (mOp2 fEq (toP (mOp2 fIx (mPeek 0) (toP (mC (.int 0))))) (toP (mC (.str c_CON))))) (mtV (toP (mOp2 fIx (mPeek 0) (toP (mC (.int 2))))))))
  (mRet (mOp2 fAdd (toP (mOp2 fAdd (toP (mC (.str "("))) (toP (mV (mCall 1 F.format_type (toA1 (toP (mVar 0)) toA0)))))) (toP (mC (.str ")")))))
  mNext)
  (mRetC (mCall 1 F.format_type (toA1 (toP (mVar 0)) toA0))))
def m_record_text (A : Ads) (F : Fns) : MS :=
  (mSeq (mAsg (mVar 0) (gTupM 3 (gsCons (gN 1) (gsCons (gN 2) (gsCons (gN 3) gsNil)))))
  (mSeq (mAsg (mStrM fJoin (toP (mC (.str ", "))) (toA1 (toP (mV (mLc itT (mVar 2) (gTupM 2 (gsCons (gN 5) (gsCons (gN 6) gsNil))) mtYes (mJoined [(mOp1 fFmt (mPeek 5)), (mC (.str " : ")), (mOp1 fFmt (toP (mV (mCall 1 F.format_type (toA1 (toP (mVar 6)) toA0)))))]) [5, 6]))) toA0)) (gN 4))
  (mSeq (mIf (mtB (mOp2 (fIs false) (mPeek 3) (toP (mC .non))))
  (mRet (mOp2 fAdd (toP (mOp2 fAdd (toP (mC (.str "{"))) (mPeek 4))) (toP (mC (.str "}")))))
  mNext)
  (mRet (mOp2 fAdd (toP (mOp2 fAdd (toP (mOp2 fAdd (toP (mC (.str "{"))) (toP (mIfE (mtV (mPeek 4)) (mOp2 fAdd (mPeek 4) (toP (mC (.str " | ")))) (mC (.str " | ")))))) (mPeek 3))) (toP (mC (.str "}"))))))))
def m_format_type (A : Ads) (F : Fns) : MS :=
  (mSeq (mAsg (mOp2 fIx (mPeek 0) (toP (mC (.int 0)))) (gN 1))
  (mSeq (mIf (mtB (mOp2 fEq (mPeek 1) (toP (mC (.str c_VAR)))))
  (mRet (mOp2 fIx (mPeek 0) (toP (mC (.int 1)))))
  mNext)
  (mSeq (mIf (mtB (mOp2 fEq (mPeek 1) (toP (mC (.str c_REC)))))
  (mRetC (mCall 1 F.record_text (toA1 (toP (mVar 0)) toA0)))
  mNext)
  (mSeq (mIf (mtB (mOp2 fEq (mPeek 1) (toP (mC (.str c_ALL)))))
  (mRet (mJoined [(mC (.str "all ")), (mOp1 fFmt (toP (mOp2 fIx (mPeek 0) (toP (mC (.int 1)))))), (mC (.str " . ")), (mOp1 fFmt (toP (mV (mCall 1 F.format_type (toA1 (toP (mOp2 fIx (mPeek 0) (toP (mC (.int 2))))) toA0)))))]))
  mNext)
  (mSeq (mIf (mtB (mOp2 fEq (toP (mOp2 fIx (mPeek 0) (toP (mC (.int 1))))) (toP (mC (.str "Fun")))))
  (mSeq (mAsg (mOp2 fIx (mPeek 0) (toP (mC (.int 2)))) (gTupM 2 (gsCons (gN 2) (gsCons (gN 3) gsNil))))
  (mSeq (mAsg (mOrV (mOp2 fEq (toP (mOp2 fIx (mPeek 2) (toP (mC (.int 0))))) (toP (mC (.str c_ALL)))) (mAndV (mOp2 fEq (toP (mOp2 fIx (mPeek 2) (toP (mC (.int 0))))) (toP (mC (.str c_CON)))) (mOp2 fEq (toP (mOp2 fIx (mPeek 2) (toP (mC (.int 1))))) (toP (mC (.str "Fun")))))) (gN 4))
  (mSeq (mAsg (mIfE (mtV (mPeek 4)) (mOp2 fAdd (toP (mOp2 fAdd (toP (mC (.str "("))) (toP (mV (mCall 1 F.format_type (toA1 (toP (mVar 2)) toA0)))))) (toP (mC (.str ")")))) (mV (mCall 1 F.format_type (toA1 (toP (mVar 2)) toA0)))) (gN 5))
  (mRet (mOp2 fAdd (toP (mOp2 fAdd (mPeek 5) (toP (mC (.str " -> "))))) (toP (mV (mCall 1 F.format_type (toA1 (toP (mVar 3)) toA0)))))))))
  mNext)
  (mRet (mStrM fJoin (toP (mC (.str " "))) (toA1 (toP (mOp2 fAdd (toP (mLst (toA1 (toP (mOp2 fIx (mPeek 0) (toP (mC (.int 1))))) toA0))) (toP (mV (mLc itT (mOp2 fIx (mPeek 0) (toP (mC (.int 2)))) (gN 6) mtYes (mV (mCall 1 F.atom_text (toA1 (toP (mVar 6)) toA0))) [6]))))) toA0))))))))
def m_word_end (A : Ads) (F : Fns) : MS :=
  (mSeq (loopW (mtAnd (mtB (mOp2 fLt (mPeek 1) (toP (mFun fLen (toA1 (mPeek 0) toA0))))) (mtB (mOp2 (fIn false) (toP (mOp2 fIx (mPeek 0) (mPeek 1))) (toP (mOp2 fAdd (toP (mOp2 fAdd (toP (mOp2 fAdd (toP (mC (.str c_LOW))) (toP (mC (.str c_HIGH))))) (toP (mC (.str c_DIGITS))))) (toP (mC (.str "'"))))))))
  (mAug 1 fIAdd (toP (mC (.int 1)))) 1000000)
  (mRet (mVar 1)))
def m_words_in (A : Ads) (F : Fns) : MS :=
  (mSeq (mSetL 1 toA0)
  (mSeq (mAsg (mC (.int 0)) (gN 2))
  (mSeq (loopW (mtB (mOp2 fLt (mPeek 2) (toP (mFun fLen (toA1 (mPeek 0) toA0)))))
  (mSeq (mAsg (mOp2 fIx (mPeek 0) (mPeek 2)) (gN 3))
  (mSeq (mIf (mtB (mOp2 fEq (mPeek 3) (toP (mC (.str " ")))))
  (mSeq (mAug 2 fIAdd (toP (mC (.int 1))))
  (fun ρ => .ok (.ct, ρ)))
  mNext)
  (mSeq (mIf (mtB (mOp2 (fIn false) (mPeek 3) (toP (mOp2 fAdd (toP (mC (.str c_LOW))) (toP (mC (.str c_HIGH)))))))
  (mSetC 4 (mCall 2 F.word_end (toA1 (toP (mVar 0)) (toA1 (toP (mVar 2)) toA0))))
  (mIf (mtB (mOp2 fEq (mPeek 3) (toP (mC (.str "^")))))
  (mSeq (mAsg (mOp2 fAdd (mPeek 2) (toP (mC (.int 1)))) (gN 4))
  (mSeq (loopW (mtAnd (mtB (mOp2 fLt (mPeek 4) (toP (mFun fLen (toA1 (mPeek 0) toA0))))) (mtB (mOp2 fEq (toP (mOp2 fIx (mPeek 0) (mPeek 4))) (toP (mC (.str "^"))))))
  (mAug 4 fIAdd (toP (mC (.int 1)))) 1000000)
  (mSetC 4 (mCall 2 F.word_end (toA1 (toP (mVar 0)) (toA1 (toP (mVar 4)) toA0))))))
  (mIf (mtV (toP (mStrM fSw3 (mPeek 0) (toA1 (toP (mC (.str c_ARROW))) (toA1 (mPeek 2) toA0)))))
  (mAsg (mOp2 fAdd (mPeek 2) (toP (mC (.int 2)))) (gN 4))
  (mIf (mtB (mOp2 (fIn false) (mPeek 3) (toP (mC (.str c_SHORT)))))
  (mAsg (mOp2 fAdd (mPeek 2) (toP (mC (.int 1)))) (gN 4))
  (mRaise2 "TextError" "code" "at" "refused: " ", " (toA1 (toP (mC (.str "sign"))) (toA1 (toP (mVar 2)) toA0)))))))
  (mSeq (mDrop (toP (mAppend (mPeek 1) (toA1 (toP (mSlice (mPeek 0) (moS (mPeek 2)) (moS (mPeek 4)))) toA0))))
  (mAsg (mVar 4) (gN 2)))))) 1000000)
  (mRet (mVar 1)))))
def m_Reader_head (A : Ads) (F : Fns) : MS :=
  (mRet (mIfE (mtB (mOp2 fLt (toP (mFld A.Reader "at" (mPeek 0))) (toP (mFun fLen (toA1 (toP (mFld A.Reader "words" (mPeek 0))) toA0))))) (mOp2 fIx (toP (mFld A.Reader "words" (mPeek 0))) (toP (mFld A.Reader "at" (mPeek 0)))) (mC (.str ""))))
def m_Reader_fail (A : Ads) (F : Fns) : MS :=
  (mRaise2 "TextError" "code" "at" "refused: " ", " (toA1 (toP (mC (.str "form"))) (toA1 (toP (mFld A.Reader "at" (mPeek 0))) toA0)))
def m_Reader_need (A : Ads) (F : Fns) : MS :=
  (mSeq (mIf (mtB (mOp2 fNe (toP (mV (mMeth A.Reader 1 "head" F.Reader_head (mPeek 0) toA0))) (mPeek 1)))
  (mDropC (mMeth A.Reader 1 "fail" F.Reader_fail (mPeek 0) toA0))
  mNext)
  (mAugF A.Reader "at" fIAdd (mPeek 0) (toP (mC (.int 1)))))
def m_Reader_is_variable (A : Ads) (F : Fns) : MS :=
  (mSeq (mSetC 1 (mMeth A.Reader 1 "head" F.Reader_head (mPeek 0) toA0))
  (mRet (mAndV (mOp2 fNe (mPeek 1) (toP (mC (.str "")))) (mAndV (mOp2 (fIn false) (toP (mOp2 fIx (mPeek 1) (toP (mC (.int 0))))) (toP (mC (.str c_LOW)))) (mOp2 fNe (mPeek 1) (toP (mC (.str "all"))))))))
def m_Reader_whole (A : Ads) (F : Fns) : MS :=
  (mSeq (mIf (mtB (mOp2 fEq (toP (mV (mMeth A.Reader 1 "head" F.Reader_head (mPeek 0) toA0))) (toP (mC (.str "all")))))
  (mSeq (mAugF A.Reader "at" fIAdd (mPeek 0) (toP (mC (.int 1))))
  (mSeq (mSetC 1 (mMeth A.Reader 1 "head" F.Reader_head (mPeek 0) toA0))
  (mSeq (mIf (mtNot (mtOr (mtV (toP (mV (mMeth A.Reader 1 "is_variable" F.Reader_is_variable (mPeek 0) toA0)))) (mtV (toP (mStrM fSw (mPeek 1) (toA1 (toP (mC (.str "^"))) toA0))))))
  (mDropC (mMeth A.Reader 1 "fail" F.Reader_fail (mPeek 0) toA0))
  mNext)
  (mSeq (mAugF A.Reader "at" fIAdd (mPeek 0) (toP (mC (.int 1))))
  (mSeq (mDropC (mMeth A.Reader 2 "need" F.Reader_need (mPeek 0) (toA1 (toP (mC (.str "."))) toA0)))
  (mRet (mTup (toA1 (toP (mC (.str c_ALL))) (toA1 (toP (mVar 1)) (toA1 (toP (mV (mMeth A.Reader 1 "whole" F.Reader_whole (mPeek 0) toA0))) toA0))))))))))
  mNext)
  (mSeq (mSetC 2 (mMeth A.Reader 1 "applied" F.Reader_applied (mPeek 0) toA0))
  (mSeq (mIf (mtB (mOp2 fEq (toP (mV (mMeth A.Reader 1 "head" F.Reader_head (mPeek 0) toA0))) (toP (mC (.str c_ARROW)))))
  (mSeq (mAugF A.Reader "at" fIAdd (mPeek 0) (toP (mC (.int 1))))
  (mRet (mTup (toA1 (toP (mC (.str c_CON))) (toA1 (toP (mC (.str "Fun"))) (toA1 (toP (mTup (toA1 (toP (mVar 2)) (toA1 (toP (mV (mMeth A.Reader 1 "whole" F.Reader_whole (mPeek 0) toA0))) toA0)))) toA0))))))
  mNext)
  (mRet (mVar 2)))))
def m_Reader_applied (A : Ads) (F : Fns) : MS :=
  (mSeq (mSetC 1 (mMeth A.Reader 1 "head" F.Reader_head (mPeek 0) toA0))
  (mSeq (mIf (mtOr (mtB (mOp2 fEq (mPeek 1) (toP (mC (.str ""))))) (mtB (mOp2 (fIn true) (toP (mOp2 fIx (mPeek 1) (toP (mC (.int 0))))) (toP (mC (.str c_HIGH))))))
  (mRetC (mMeth A.Reader 1 "one" F.Reader_one (mPeek 0) toA0))
  mNext)
  (mSeq (mAugF A.Reader "at" fIAdd (mPeek 0) (toP (mC (.int 1))))
  (mSeq (mSetL 2 toA0)
  (mSeq (loopW (mtOr (mtV (toP (mV (mMeth A.Reader 1 "is_variable" F.Reader_is_variable (mPeek 0) toA0)))) (mtOr (mtB (mOp2 (fIn false) (toP (mSlice (toP (mV (mMeth A.Reader 1 "head" F.Reader_head (mPeek 0) toA0))) moN (moS (toP (mC (.int 1)))))) (toP (mFun fTupS (toA1 (toP (mC (.str c_HIGH))) toA0))))) (mtB (mOp2 (fIn false) (toP (mV (mMeth A.Reader 1 "head" F.Reader_head (mPeek 0) toA0))) (toP (mTup (toA1 (toP (mC (.str "("))) (toA1 (toP (mC (.str "{"))) toA0))))))))
  (mDrop (toP (mAppend (mPeek 2) (toA1 (toP (mV (mMeth A.Reader 1 "one" F.Reader_one (mPeek 0) toA0))) toA0)))) 1000000)
  (mRet (mTup (toA1 (toP (mC (.str c_CON))) (toA1 (toP (mVar 1)) (toA1 (toP (mFun fTupOf (toA1 (mPeek 2) toA0))) toA0))))))))))
def m_Reader_one (A : Ads) (F : Fns) : MS :=
  (mSeq (mSetC 1 (mMeth A.Reader 1 "head" F.Reader_head (mPeek 0) toA0))
  (mSeq (mIf (mtV (toP (mV (mMeth A.Reader 1 "is_variable" F.Reader_is_variable (mPeek 0) toA0))))
  (mSeq (mAugF A.Reader "at" fIAdd (mPeek 0) (toP (mC (.int 1))))
  (mRet (mTup (toA1 (toP (mC (.str c_VAR))) (toA1 (toP (mVar 1)) toA0)))))
  mNext)
  (mSeq (mIf (mtB (mOp2 fEq (mPeek 1) (toP (mC (.str "(")))))
  (mSeq (mAugF A.Reader "at" fIAdd (mPeek 0) (toP (mC (.int 1))))
  (mSeq (mSetC 2 (mMeth A.Reader 1 "whole" F.Reader_whole (mPeek 0) toA0))
  (mSeq (mDropC (mMeth A.Reader 2 "need" F.Reader_need (mPeek 0) (toA1 (toP (mC (.str ")"))) toA0)))
  (mRet (mVar 2)))))
  mNext)
  (mSeq (mIf (mtB (mOp2 fEq (mPeek 1) (toP (mC (.str "{")))))
  (mRetC (mMeth A.Reader 1 "record" F.Reader_record (mPeek 0) toA0))
  mNext)
  (mSeq (mIf (mtOr (mtB (mOp2 fEq (mPeek 1) (toP (mC (.str ""))))) (mtB (mOp2 (fIn true) (toP (mOp2 fIx (mPeek 1) (toP (mC (.int 0))))) (toP (mC (.str c_HIGH))))))
  (mDropC (mMeth A.Reader 1 "fail" F.Reader_fail (mPeek 0) toA0))
  mNext)
  (mSeq (mAugF A.Reader "at" fIAdd (mPeek 0) (toP (mC (.int 1))))
  (mRet (mTup (toA1 (toP (mC (.str c_CON))) (toA1 (toP (mVar 1)) (toA1 (toP (mTup toA0)) toA0)))))))))))
def m_Reader_record (A : Ads) (F : Fns) : MS :=
  (mSeq (mAugF A.Reader "at" fIAdd (mPeek 0) (toP (mC (.int 1))))
  (mSeq (mSetD 1)
  (mSeq (loopW (mtV (toP (mV (mMeth A.Reader 1 "is_variable" F.Reader_is_variable (mPeek 0) toA0))))
  (mSeq (mSetC 2 (mMeth A.Reader 1 "head" F.Reader_head (mPeek 0) toA0))
  (mSeq (mIf (mtB (mOp2 (fIn false) (mPeek 2) (mPeek 1)))
  (mDropC (mMeth A.Reader 1 "fail" F.Reader_fail (mPeek 0) toA0))
  mNext)
  (mSeq (mAugF A.Reader "at" fIAdd (mPeek 0) (toP (mC (.int 1))))
  (mSeq (mDropC (mMeth A.Reader 2 "need" F.Reader_need (mPeek 0) (toA1 (toP (mC (.str ":"))) toA0)))
  (mSeq (mPut (mV (mMeth A.Reader 1 "whole" F.Reader_whole (mPeek 0) toA0)) (mPeek 1) (mPeek 2))
  (mSeq (mIf (mtB (mOp2 fNe (toP (mV (mMeth A.Reader 1 "head" F.Reader_head (mPeek 0) toA0))) (toP (mC (.str ",")))))
  (fun ρ => .ok (.bk, ρ))
  mNext)
  (mSeq (mAugF A.Reader "at" fIAdd (mPeek 0) (toP (mC (.int 1))))
  (mIf (mtNot (mtV (toP (mV (mMeth A.Reader 1 "is_variable" F.Reader_is_variable (mPeek 0) toA0)))))
  (mDropC (mMeth A.Reader 1 "fail" F.Reader_fail (mPeek 0) toA0))
  mNext)))))))) 1000000)
  (mSeq (mAsg (mC .non) (gN 3))
  (mSeq (mIf (mtB (mOp2 fEq (toP (mV (mMeth A.Reader 1 "head" F.Reader_head (mPeek 0) toA0))) (toP (mC (.str "|")))))
  (mSeq (mAugF A.Reader "at" fIAdd (mPeek 0) (toP (mC (.int 1))))
  (mSeq (mSetC 3 (mMeth A.Reader 1 "head" F.Reader_head (mPeek 0) toA0))
  (mSeq (mIf (mtNot (mtV (toP (mStrM fSw (mPeek 3) (toA1 (toP (mC (.str "^"))) toA0)))))
  (mDropC (mMeth A.Reader 1 "fail" F.Reader_fail (mPeek 0) toA0))
  mNext)
  (mAugF A.Reader "at" fIAdd (mPeek 0) (toP (mC (.int 1)))))))
  mNext)
  (mSeq (mDropC (mMeth A.Reader 2 "need" F.Reader_need (mPeek 0) (toA1 (toP (mC (.str "}"))) toA0)))
  (mRet (mTup (toA1 (toP (mC (.str c_REC))) (toA1 (toP (mFun fTupOf (toA1 (toP (mSortItems (mPeek 1))) toA0))) (toA1 (toP (mVar 3)) toA0)))))))))))
def m_parse_type (A : Ads) (F : Fns) : MS :=
  (mSeq (mSetC 1 (mMake A.Reader 2 (f_Reader_init A) (toA1 (toP (mV (mCall 1 F.words_in (toA1 (toP (mVar 0)) toA0)))) toA0)))
  (mSeq (mSetC 2 (mMeth A.Reader 1 "whole" F.Reader_whole (mPeek 1) toA0))
  (mSeq (mIf (mtV (toP (mV (mMeth A.Reader 1 "head" F.Reader_head (mPeek 1) toA0))))
  (mDropC (mMeth A.Reader 1 "fail" F.Reader_fail (mPeek 1) toA0))
  mNext)
  (mRet (mVar 2)))))
def m__law_begin (A : Ads) (F : Fns) : MS :=
  (mSeq (mAsg (mC (.int 1)) (gN 1))
  (mSeq (mForL (mVar 0) (gN 2)
  (mAsg (mOp2 fMod (toP (mOp2 fAdd (toP (mOp2 fAdd (toP (mOp2 fMul (mPeek 1) (toP (mC (.int 69621))))) (toP (mOp2 fMod (toP (mFun fInt1 (toA1 (mPeek 2) toA0))) (toP (mC (.int 2147483629))))))) (toP (mC (.int 7))))) (toP (mC (.int 2147483647)))) (gN 1)))
  (mRetL (toA1 (toP (mFun fListOf (toA1 (mPeek 0) toA0))) (toA1 (toP (mC (.int 0))) (toA1 (toP (mC (.int 0))) (toA1 (toP (mVar 1)) toA0)))))))
def m__law_take (A : Ads) (F : Fns) : MS :=
  (mSeq (mIf (mtAnd (mtB (mOp2 fEq (toP (mOp2 fIx (mPeek 0) (toP (mC (.int 2))))) (toP (mC (.int 0))))) (mtB (mOp2 fLt (toP (mOp2 fIx (mPeek 0) (toP (mC (.int 1))))) (toP (mFun fLen (toA1 (toP (mOp2 fIx (mPeek 0) (toP (mC (.int 0))))) toA0))))))
  (mSeq (mPut (mFun fAbs (toA1 (toP (mFun fInt1 (toA1 (toP (mOp2 fIx (toP (mOp2 fIx (mPeek 0) (toP (mC (.int 0))))) (toP (mOp2 fIx (mPeek 0) (toP (mC (.int 1))))))) toA0))) toA0)) (mPeek 0) (toP (mC (.int 2))))
  (mSeq (mPut (mOp2 fAdd (toP (mOp2 fIx (mPeek 0) (toP (mC (.int 1))))) (toP (mC (.int 1)))) (mPeek 0) (toP (mC (.int 1))))
  (mIf (mtB (mOp2 fLt (toP (mOp2 fIx (mPeek 0) (toP (mC (.int 2))))) (toP (mOp2 fPow (toP (mC (.int 10))) (toP (mC (.int 18)))))))
  (mSeq (mAsg (mFun fInt1 (toA1 (toP (mOp2 fIx (mPeek 0) (toP (mC (.int 2))))) toA0)) (gN 2))
  (mSeq (mPut (mC (.int 0)) (mPeek 0) (toP (mC (.int 2))))
  (mRet (mOp2 fMod (mPeek 2) (mPeek 1)))))
  mNext)))
  mNext)
  (mSeq (mIf (mtB (mOp2 fGt (toP (mOp2 fIx (mPeek 0) (toP (mC (.int 2))))) (toP (mC (.int 0)))))
  (mSeq (mAsg (mOp2 fMod (toP (mFun fInt1 (toA1 (toP (mOp2 fIx (mPeek 0) (toP (mC (.int 2))))) toA0))) (mPeek 1)) (gN 3))
  (mSeq (mPut (mOp2 fDiv (toP (mFun fInt1 (toA1 (toP (mOp2 fIx (mPeek 0) (toP (mC (.int 2))))) toA0))) (mPeek 1)) (mPeek 0) (toP (mC (.int 2))))
  (mRet (mVar 3))))
  mNext)
  (mSeq (mPut (mOp2 fMod (toP (mFun fInt1 (toA1 (toP (mOp2 fAdd (toP (mOp2 fMul (toP (mOp2 fIx (mPeek 0) (toP (mC (.int 3))))) (toP (mC (.int 48271))))) (toP (mC (.int 11))))) toA0))) (toP (mC (.int 2147483647)))) (mPeek 0) (toP (mC (.int 3))))
  (mRet (mOp2 fMod (toP (mFun fInt1 (toA1 (toP (mOp2 fDiv (toP (mOp2 fIx (mPeek 0) (toP (mC (.int 3))))) (toP (mC (.int 3))))) toA0))) (mPeek 1))))))
def m__law_pick (A : Ads) (F : Fns) : MS :=
  (mRet (mOp2 fIx (mPeek 1) (toP (mV (mCall 2 F._law_take (toA1 (mPeek 0) (toA1 (toP (mFun fLen (toA1 (mPeek 1) toA0))) toA0)))))))
def m__law_fun (A : Ads) (F : Fns) : MS :=
  (mRet (mTup (toA1 (toP (mC (.str "con"))) (toA1 (toP (mC (.str "Fun"))) (toA1 (toP (mTup (toA1 (toP (mVar 0)) (toA1 (toP (mVar 1)) toA0)))) toA0)))))
def m__law_int (A : Ads) (F : Fns) : MS :=
  (mRet (mTup (toA1 (toP (mC (.str "con"))) (toA1 (toP (mC (.str "Int"))) (toA1 (toP (mTup toA0)) toA0)))))
def m__law_list (A : Ads) (F : Fns) : MS :=
  (mRet (mTup (toA1 (toP (mC (.str "con"))) (toA1 (toP (mC (.str "List"))) (toA1 (toP (mTup (toA1 (toP (mVar 0)) toA0))) toA0)))))
def m__law_type (A : Ads) (F : Fns) : MS :=
  (mSeq (mSetC 4 (mCall 2 F._law_take (toA1 (mPeek 0) (toA1 (toP (mC (.int 8))) toA0))))
  (mSeq (mIf (mtOr (mtB (mOp2 fLe (mPeek 1) (toP (mC (.int 0))))) (mtB (mOp2 fLt (mPeek 4) (toP (mC (.int 3))))))
  (mRet (mIfE (mtAnd (mtB (mOp2 fGt (toP (mFun fLen (toA1 (mPeek 2) toA0))) (toP (mC (.int 0))))) (mtB (mOp2 fGt (toP (mV (mCall 2 F._law_take (toA1 (mPeek 0) (toA1 (toP (mC (.int 3))) toA0))))) (toP (mC (.int 0)))))) (mTup (toA1 (toP (mC (.str "var"))) (toA1 (toP (mV (mCall 2 F._law_pick (toA1 (mPeek 0) (toA1 (toP (mVar 2)) toA0))))) toA0))) (mV (mCall 2 F._law_pick (toA1 (mPeek 0) (toA1 (toP (mLst (toA1 (toP (mTup (toA1 (toP (mC (.str "con"))) (toA1 (toP (mC (.str "Int"))) (toA1 (toP (mTup toA0)) toA0))))) (toA1 (toP (mTup (toA1 (toP (mC (.str "con"))) (toA1 (toP (mC (.str "Bool"))) (toA1 (toP (mTup toA0)) toA0))))) toA0)))) toA0))))))
  mNext)
  (mSeq (mIf (mtB (mOp2 fLt (mPeek 4) (toP (mC (.int 5)))))
  (mRetC (mCall 2 F._law_fun (toA1 (toP (mV (mCall 4 F._law_type (toA1 (mPeek 0) (toA1 (toP (mOp2 fSub (mPeek 1) (toP (mC (.int 1))))) (toA1 (toP (mVar 2)) (toA1 (toP (mVar 3)) toA0))))))) (toA1 (toP (mV (mCall 4 F._law_type (toA1 (mPeek 0) (toA1 (toP (mOp2 fSub (mPeek 1) (toP (mC (.int 1))))) (toA1 (toP (mVar 2)) (toA1 (toP (mVar 3)) toA0))))))) toA0))))
  mNext)
  (mSeq (mIf (mtB (mOp2 fEq (mPeek 4) (toP (mC (.int 5)))))
  (mRet (mTup (toA1 (toP (mC (.str "con"))) (toA1 (toP (mV (mCall 2 F._law_pick (toA1 (mPeek 0) (toA1 (toP (mLst (toA1 (toP (mC (.str "List"))) (toA1 (toP (mC (.str "Box"))) toA0)))) toA0))))) (toA1 (toP (mTup (toA1 (toP (mV (mCall 4 F._law_type (toA1 (mPeek 0) (toA1 (toP (mOp2 fSub (mPeek 1) (toP (mC (.int 1))))) (toA1 (toP (mVar 2)) (toA1 (toP (mVar 3)) toA0))))))) toA0))) toA0)))))
  mNext)
  (mSeq (mSetL 5 toA0)
  (mSeq (mForT (mTup (toA1 (toP (mC (.str "p"))) (toA1 (toP (mC (.str "q"))) (toA1 (toP (mC (.str "x"))) toA0)))) (gN 6)
  (mIf (mtB (mOp2 fEq (toP (mV (mCall 2 F._law_take (toA1 (mPeek 0) (toA1 (toP (mC (.int 2))) toA0))))) (toP (mC (.int 0)))))
  (mDrop (toP (mAppend (mPeek 5) (toA1 (toP (mTup (toA1 (toP (mVar 6)) (toA1 (toP (mV (mCall 4 F._law_type (toA1 (mPeek 0) (toA1 (toP (mOp2 fSub (mPeek 1) (toP (mC (.int 2))))) (toA1 (toP (mVar 2)) (toA1 (toP (mVar 3)) toA0))))))) toA0)))) toA0))))
  mNext))
  (mRet (mTup (toA1 (toP (mC (.str "rec"))) (toA1 (toP (mFun fTupOf (toA1 (mPeek 5) toA0))) (toA1 (toP (mV (mCall 2 F._law_pick (toA1 (mPeek 0) (toA1 (toP (mOp2 fAdd (toP (mLst (toA1 (toP (mC .non)) toA0))) (toP (mFun fListOf (toA1 (mPeek 3) toA0))))) toA0))))) toA0)))))))))))
def m__law_told (A : Ads) (F : Fns) : MS :=
  (mTry2 1 (mCall 1 F.parse_type (toA1 (toP (mVar 0)) toA0)) "TextError" "code" "at")
def m__law_text (A : Ads) (F : Fns) : MS :=
  (mSeq (mIf (mtB (mOp2 fEq (toP (mOp2 fIx (mPeek 0) (toP (mC (.int 0))))) (toP (mC (.str "var")))))
  (mRet (mOp2 fIx (mPeek 0) (toP (mC (.int 1)))))
  mNext)
  (mSeq (mIf (mtB (mOp2 fEq (toP (mOp2 fIx (mPeek 0) (toP (mC (.int 0))))) (toP (mC (.str "all")))))
  (mRet (mOp2 fAdd (toP (mOp2 fAdd (toP (mOp2 fAdd (toP (mC (.str "all "))) (toP (mOp2 fIx (mPeek 0) (toP (mC (.int 1))))))) (toP (mC (.str " . "))))) (toP (mV (mCall 1 F._law_text (toA1 (toP (mOp2 fIx (mPeek 0) (toP (mC (.int 2))))) toA0))))))
  mNext)
  (mSeq (mIf (mtB (mOp2 fEq (toP (mOp2 fIx (mPeek 0) (toP (mC (.int 0))))) (toP (mC (.str "rec")))))
  (mSeq (mAsg (mStrM fJoin (toP (mC (.str ", "))) (toA1 (toP (mV (mLc itT (mOp2 fIx (mPeek 0) (toP (mC (.int 1)))) (gTupM 2 (gsCons (gN 6) (gsCons (gN 4) gsNil))) mtYes (mOp2 fAdd (toP (mOp2 fAdd (mPeek 6) (toP (mC (.str " : "))))) (toP (mV (mCall 1 F._law_text (toA1 (toP (mVar 4)) toA0))))) [6, 4]))) toA0)) (gN 1))
  (mSeq (mIf (mtB (mOp2 (fIs false) (toP (mOp2 fIx (mPeek 0) (toP (mC (.int 2))))) (toP (mC .non))))
  (mRet (mOp2 fAdd (toP (mOp2 fAdd (toP (mC (.str "{"))) (mPeek 1))) (toP (mC (.str "}")))))
  mNext)
  (mRet (mOp2 fAdd (toP (mOp2 fAdd (toP (mOp2 fAdd (toP (mOp2 fAdd (toP (mC (.str "{"))) (mPeek 1))) (toP (mC (.str " | "))))) (toP (mOp2 fIx (mPeek 0) (toP (mC (.int 2))))))) (toP (mC (.str "}")))))))
  mNext)
  (mSeq (mIf (mtB (mOp2 fEq (toP (mOp2 fIx (mPeek 0) (toP (mC (.int 1))))) (toP (mC (.str "Fun")))))
  (mSeq (mSetC 2 (mCall 1 F._law_text (toA1 (toP (mOp2 fIx (toP (mOp2 fIx (mPeek 0) (toP (mC (.int 2))))) (toP (mC (.int 0))))) toA0)))
  (mSeq (mIf (mtOr (mtB (mOp2 fEq (toP (mOp2 fIx (toP (mOp2 fIx (toP (mOp2 fIx (mPeek 0) (toP (mC (.int 2))))) (toP (mC (.int 0))))) (toP (mC (.int 0))))) (toP (mC (.str "all"))))) (mtB (mOp2 fEq (toP (mSlice (toP (mOp2 fIx (toP (mOp2 fIx (mPeek 0) (toP (mC (.int 2))))) (toP (mC (.int 0))))) moN (moS (toP (mC (.int 2)))))) (toP (mTup (toA1 (toP (mC (.str "con"))) (toA1 (toP (mC (.str "Fun"))) toA0)))))))
  (mAsg (mOp2 fAdd (toP (mOp2 fAdd (toP (mC (.str "("))) (mPeek 2))) (toP (mC (.str ")")))) (gN 2))
  mNext)
  (mRet (mOp2 fAdd (toP (mOp2 fAdd (mPeek 2) (toP (mC (.str " -> "))))) (toP (mV (mCall 1 F._law_text (toA1 (toP (mOp2 fIx (toP (mOp2 fIx (mPeek 0) (toP (mC (.int 2))))) (toP (mC (.int 1))))) toA0))))))))
  mNext)
  (mSeq (mAsg (mOp2 fIx (mPeek 0) (toP (mC (.int 1)))) (gN 3))
  (mSeq (mForT (mOp2 fIx (mPeek 0) (toP (mC (.int 2)))) (gN 4)
  (mSeq (mSetC 5 (mCall 1 F._law_text (toA1 (toP (mVar 4)) toA0)))
  (mAsg (mOp2 fAdd (toP (mOp2 fAdd (mPeek 3) (toP (mC (.str " "))))) (toP (mIfE (mtOr (mtB (mOp2 fEq (toP (mOp2 fIx (mPeek 4) (toP (mC (.int 0))))) (toP (mC (.str "all"))))) (mtAnd (mtB (mOp2 fEq (toP (mOp2 fIx (mPeek 4) (toP (mC (.int 0))))) (toP (mC (.str "con"))))) (mtB (mOp2 fGt (toP (mFun fLen (toA1 (toP (mOp2 fIx (mPeek 4) (toP (mC (.int 2))))) toA0))) (toP (mC (.int 0))))))) (mOp2 fAdd (toP (mOp2 fAdd (toP (mC (.str "("))) (mPeek 5))) (toP (mC (.str ")")))) (mVar 5)))) (gN 3))))
  (mRet (mVar 3))))))))
def m_law (A : Ads) (F : Fns) : MS :=
  (mSeq (mSetC 1 (mCall 1 F._law_begin (toA1 (toP (mVar 0)) toA0)))
  (mSeq (mAsg (mTup (toA1 (toP (mC (.str "var"))) (toA1 (toP (mC (.str "a"))) toA0))) (gN 2))
  (mSeq (mSetL 3 (toA1 (toP (mTup (toA1 (toP (mC (.str "a -> b -> a"))) (toA1 (toP (mV (mCall 2 F._law_fun (toA1 (toP (mVar 2)) (toA1 (toP (mV (mCall 2 F._law_fun (toA1 (toP (mTup (toA1 (toP (mC (.str "var"))) (toA1 (toP (mC (.str "b"))) toA0)))) (toA1 (toP (mVar 2)) toA0))))) toA0))))) toA0)))) (toA1 (toP (mTup (toA1 (toP (mC (.str "(a -> a) -> List (List Int)"))) (toA1 (toP (mV (mCall 2 F._law_fun (toA1 (toP (mV (mCall 2 F._law_fun (toA1 (toP (mVar 2)) (toA1 (toP (mVar 2)) toA0))))) (toA1 (toP (mV (mCall 1 F._law_list (toA1 (toP (mV (mCall 1 F._law_list (toA1 (toP (mV (mCall 0 F._law_int toA0))) toA0)))) toA0)))) toA0))))) toA0)))) toA0)))
  (mSeq (mDrop (toP (mExtend (mPeek 3) (toA1 (toP (mLst (toA1 (toP (mTup (toA1 (toP (mC (.str "{}"))) (toA1 (toP (mTup (toA1 (toP (mC (.str "rec"))) (toA1 (toP (mTup toA0)) (toA1 (toP (mC .non)) toA0))))) toA0)))) (toA1 (toP (mTup (toA1 (toP (mC (.str "{ | ^r}"))) (toA1 (toP (mTup (toA1 (toP (mC (.str "rec"))) (toA1 (toP (mTup toA0)) (toA1 (toP (mC (.str "^r"))) toA0))))) toA0)))) (toA1 (toP (mTup (toA1 (toP (mC (.str "{x : a, y : {} | ^^0}"))) (toA1 (toP (mTup (toA1 (toP (mC (.str "rec"))) (toA1 (toP (mTup (toA1 (toP (mTup (toA1 (toP (mC (.str "x"))) (toA1 (toP (mVar 2)) toA0)))) (toA1 (toP (mTup (toA1 (toP (mC (.str "y"))) (toA1 (toP (mTup (toA1 (toP (mC (.str "rec"))) (toA1 (toP (mTup toA0)) (toA1 (toP (mC .non)) toA0))))) toA0)))) toA0)))) (toA1 (toP (mC (.str "^^0"))) toA0))))) toA0)))) toA0))))) toA0))))
  (mSeq (mDrop (toP (mExtend (mPeek 3) (toA1 (toP (mLst (toA1 (toP (mTup (toA1 (toP (mC (.str "all a . all ^r . a"))) (toA1 (toP (mTup (toA1 (toP (mC (.str "all"))) (toA1 (toP (mC (.str "a"))) (toA1 (toP (mTup (toA1 (toP (mC (.str "all"))) (toA1 (toP (mC (.str "^r"))) (toA1 (toP (mVar 2)) toA0))))) toA0))))) toA0)))) (toA1 (toP (mTup (toA1 (toP (mC (.str "Pair a {x : Int}"))) (toA1 (toP (mTup (toA1 (toP (mC (.str "con"))) (toA1 (toP (mC (.str "Pair"))) (toA1 (toP (mTup (toA1 (toP (mVar 2)) (toA1 (toP (mTup (toA1 (toP (mC (.str "rec"))) (toA1 (toP (mTup (toA1 (toP (mTup (toA1 (toP (mC (.str "x"))) (toA1 (toP (mV (mCall 0 F._law_int toA0))) toA0)))) toA0))) (toA1 (toP (mC .non)) toA0))))) toA0)))) toA0))))) toA0)))) toA0)))) toA0))))
  (mSeq (mForL (mVar 3) (gTupM 2 (gsCons (gN 4) (gsCons (gN 5) gsNil)))
  (mIf (mtOr (mtB (mOp2 fNe (toP (mV (mCall 1 F.format_type (toA1 (toP (mVar 5)) toA0)))) (mPeek 4))) (mtB (mOp2 fNe (toP (mV (mCall 1 F._law_told (toA1 (toP (mVar 4)) toA0)))) (mPeek 5))))
  (mRet (mC (.bl false)))
  mNext))
  (mSeq (mSetL 6 (toA1 (toP (mTup (toA1 (toP (mC (.str ""))) (toA1 (toP (mTup (toA1 (toP (mC (.str "form"))) (toA1 (toP (mC (.int 0))) toA0)))) toA0)))) (toA1 (toP (mTup (toA1 (toP (mC (.str "a ->"))) (toA1 (toP (mTup (toA1 (toP (mC (.str "form"))) (toA1 (toP (mC (.int 2))) toA0)))) toA0)))) (toA1 (toP (mTup (toA1 (toP (mC (.str "(a"))) (toA1 (toP (mTup (toA1 (toP (mC (.str "form"))) (toA1 (toP (mC (.int 2))) toA0)))) toA0)))) (toA1 (toP (mTup (toA1 (toP (mC (.str "a b"))) (toA1 (toP (mTup (toA1 (toP (mC (.str "form"))) (toA1 (toP (mC (.int 1))) toA0)))) toA0)))) (toA1 (toP (mTup (toA1 (toP (mC (.str "{x a}"))) (toA1 (toP (mTup (toA1 (toP (mC (.str "form"))) (toA1 (toP (mC (.int 2))) toA0)))) toA0)))) (toA1 (toP (mTup (toA1 (toP (mC (.str "{x : a, }"))) (toA1 (toP (mTup (toA1 (toP (mC (.str "form"))) (toA1 (toP (mC (.int 5))) toA0)))) toA0)))) toA0)))))))
  (mSeq (mDrop (toP (mExtend (mPeek 6) (toA1 (toP (mLst (toA1 (toP (mTup (toA1 (toP (mC (.str "{x : a, x : a}"))) (toA1 (toP (mTup (toA1 (toP (mC (.str "form"))) (toA1 (toP (mC (.int 5))) toA0)))) toA0)))) (toA1 (toP (mTup (toA1 (toP (mC (.str "{x : a | y}"))) (toA1 (toP (mTup (toA1 (toP (mC (.str "form"))) (toA1 (toP (mC (.int 5))) toA0)))) toA0)))) (toA1 (toP (mTup (toA1 (toP (mC (.str "all . a"))) (toA1 (toP (mTup (toA1 (toP (mC (.str "form"))) (toA1 (toP (mC (.int 1))) toA0)))) toA0)))) (toA1 (toP (mTup (toA1 (toP (mC (.str "a ; b"))) (toA1 (toP (mTup (toA1 (toP (mC (.str "sign"))) (toA1 (toP (mC (.int 2))) toA0)))) toA0)))) (toA1 (toP (mTup (toA1 (toP (mC (.str "Int ->-> a"))) (toA1 (toP (mTup (toA1 (toP (mC (.str "form"))) (toA1 (toP (mC (.int 2))) toA0)))) toA0)))) toA0))))))) toA0))))
  (mSeq (mDrop (toP (mExtend (mPeek 6) (toA1 (toP (mLst (toA1 (toP (mTup (toA1 (toP (mC (.str "{^r}"))) (toA1 (toP (mTup (toA1 (toP (mC (.str "form"))) (toA1 (toP (mC (.int 1))) toA0)))) toA0)))) (toA1 (toP (mTup (toA1 (toP (mC (.str "^r"))) (toA1 (toP (mTup (toA1 (toP (mC (.str "form"))) (toA1 (toP (mC (.int 0))) toA0)))) toA0)))) toA0)))) toA0))))
  (mSeq (mIf (mtV (toP (mFun fAny (toA1 (toP (mV (mLc itL (mVar 6) (gTupM 2 (gsCons (gN 4) (gsCons (gN 13) gsNil))) mtYes (mOp2 fNe (toP (mV (mCall 1 F._law_told (toA1 (toP (mVar 4)) toA0)))) (mPeek 13)) [4, 13]))) toA0))))
  (mRet (mC (.bl false)))
  mNext)
  (mSeq (mIf (mtB (mOp2 fNe (toP (mV (mCall 1 F._law_told (toA1 (toP (mC (.str "{y : a,x:b}"))) toA0)))) (toP (mTup (toA1 (toP (mC (.str "rec"))) (toA1 (toP (mTup (toA1 (toP (mTup (toA1 (toP (mC (.str "x"))) (toA1 (toP (mTup (toA1 (toP (mC (.str "var"))) (toA1 (toP (mC (.str "b"))) toA0)))) toA0)))) (toA1 (toP (mTup (toA1 (toP (mC (.str "y"))) (toA1 (toP (mVar 2)) toA0)))) toA0)))) (toA1 (toP (mC .non)) toA0)))))))
  (mRet (mC (.bl false)))
  mNext)
  (mSeq (mSetC 5 (mCall 4 F._law_type (toA1 (mPeek 1) (toA1 (toP (mC (.int 3))) (toA1 (toP (mLst (toA1 (toP (mC (.str "a"))) (toA1 (toP (mC (.str "b"))) toA0)))) (toA1 (toP (mLst (toA1 (toP (mC (.str "^r"))) toA0))) toA0))))))
  (mSeq (mForR (toA1 (toP (mV (mCall 2 F._law_take (toA1 (mPeek 1) (toA1 (toP (mC (.int 3))) toA0))))) toA0) (gN 7)
  (mSetC 5 (mCall 2 F._law_pick (toA1 (mPeek 1) (toA1 (toP (mLst (toA1 (toP (mTup (toA1 (toP (mC (.str "all"))) (toA1 (toP (mC (.str "a"))) (toA1 (toP (mVar 5)) toA0))))) (toA1 (toP (mTup (toA1 (toP (mC (.str "all"))) (toA1 (toP (mC (.str "^r"))) (toA1 (toP (mVar 5)) toA0))))) (toA1 (toP (mV (mCall 2 F._law_fun (toA1 (toP (mVar 5)) (toA1 (toP (mVar 2)) toA0))))) (toA1 (toP (mV (mCall 1 F._law_list (toA1 (toP (mVar 5)) toA0)))) toA0)))))) toA0)))))
  (mSeq (mSetC 4 (mCall 1 F._law_text (toA1 (toP (mVar 5)) toA0)))
  (mSeq (mIf (mtOr (mtB (mOp2 fNe (toP (mV (mCall 1 F.format_type (toA1 (toP (mVar 5)) toA0)))) (mPeek 4))) (mtB (mOp2 fNe (toP (mV (mCall 1 F._law_told (toA1 (toP (mVar 4)) toA0)))) (mPeek 5))))
  (mRet (mC (.bl false)))
  mNext)
  (mSeq (mForR (toA1 (toP (mC (.int 6))) toA0) (gN 8)
  (mSeq (mSetC 9 (mCall 2 F._law_take (toA1 (mPeek 1) (toA1 (toP (mOp2 fAdd (toP (mFun fLen (toA1 (mPeek 4) toA0))) (toP (mC (.int 1))))) toA0))))
  (mSeq (mSetC 10 (mCall 2 F._law_pick (toA1 (mPeek 1) (toA1 (toP (mLst (toA1 (toP (mC (.str "a"))) (toA1 (toP (mC (.str "("))) (toA1 (toP (mC (.str ")"))) (toA1 (toP (mC (.str "{"))) (toA1 (toP (mC (.str "}"))) (toA1 (toP (mC (.str "|"))) (toA1 (toP (mC (.str ":"))) (toA1 (toP (mC (.str ","))) (toA1 (toP (mC (.str " "))) (toA1 (toP (mC (.str "I"))) (toA1 (toP (mC (.str "^"))) (toA1 (toP (mC (.str "."))) toA0)))))))))))))) toA0))))
  (mSeq (mSetC 11 (mCall 2 F._law_pick (toA1 (mPeek 1) (toA1 (toP (mLst (toA1 (toP (mOp2 fAdd (toP (mOp2 fAdd (toP (mSlice (mPeek 4) moN (moS (mPeek 9)))) (mPeek 10))) (toP (mSlice (mPeek 4) (moS (mPeek 9)) moN)))) (toA1 (toP (mOp2 fAdd (toP (mSlice (mPeek 4) moN (moS (mPeek 9)))) (toP (mSlice (mPeek 4) (moS (toP (mOp2 fAdd (mPeek 9) (toP (mC (.int 1)))))) moN)))) (toA1 (toP (mOp2 fAdd (toP (mOp2 fAdd (toP (mSlice (mPeek 4) moN (moS (mPeek 9)))) (mPeek 10))) (toP (mSlice (mPeek 4) (moS (toP (mOp2 fAdd (mPeek 9) (toP (mC (.int 1)))))) moN)))) toA0))))) toA0))))
  (mSeq (mSetC 12 (mCall 1 F._law_told (toA1 (toP (mVar 11)) toA0)))
  (mIf (mtAnd (mtB (mOp2 fEq (toP (mFun fLen (toA1 (mPeek 12) toA0))) (toP (mC (.int 2))))) (mtB (mOp2 (fIn false) (toP (mOp2 fIx (mPeek 12) (toP (mC (.int 0))))) (toP (mTup (toA1 (toP (mC (.str "form"))) (toA1 (toP (mC (.str "sign"))) toA0)))))))
  (mIf (mtNot (mtB (mChain fLe fLe (toP (mC (.int 0))) (toP (mOp2 fIx (mPeek 12) (toP (mC (.int 1))))) (toP (mFun fLen (toA1 (mPeek 11) toA0))))))
  (mRet (mC (.bl false)))
  mNext)
  (mIf (mtB (mOp2 fNe (toP (mV (mCall 1 F._law_told (toA1 (toP (mV (mCall 1 F.format_type (toA1 (toP (mVar 12)) toA0)))) toA0)))) (mPeek 12)))
  (mRet (mC (.bl false)))
  mNext)))))))
  (mRet (mC (.bl true)))))))))))))))))))
structure Txt (K : PySem.W.Frag) (mg : Str → Option Value) (A : Ads) : Prop where
  g_atom_text : mg "atom_text" = some (.ref A.a_atom_text)
  k_atom_text : PySem.W.keepIn K (.ref A.a_atom_text) = true
  g_record_text : mg "record_text" = some (.ref A.a_record_text)
  k_record_text : PySem.W.keepIn K (.ref A.a_record_text) = true
  g_format_type : mg "format_type" = some (.ref A.a_format_type)
  k_format_type : PySem.W.keepIn K (.ref A.a_format_type) = true
  g_word_end : mg "word_end" = some (.ref A.a_word_end)
  k_word_end : PySem.W.keepIn K (.ref A.a_word_end) = true
  g_words_in : mg "words_in" = some (.ref A.a_words_in)
  k_words_in : PySem.W.keepIn K (.ref A.a_words_in) = true
  m_Reader_head : Meth K A.Reader "head" A.a_Reader_head
  m_Reader_fail : Meth K A.Reader "fail" A.a_Reader_fail
  m_Reader_need : Meth K A.Reader "need" A.a_Reader_need
  m_Reader_is_variable : Meth K A.Reader "is_variable" A.a_Reader_is_variable
  m_Reader_whole : Meth K A.Reader "whole" A.a_Reader_whole
  m_Reader_applied : Meth K A.Reader "applied" A.a_Reader_applied
  m_Reader_one : Meth K A.Reader "one" A.a_Reader_one
  m_Reader_record : Meth K A.Reader "record" A.a_Reader_record
  g_parse_type : mg "parse_type" = some (.ref A.a_parse_type)
  k_parse_type : PySem.W.keepIn K (.ref A.a_parse_type) = true
  g__law_begin : mg "_law_begin" = some (.ref A.a__law_begin)
  k__law_begin : PySem.W.keepIn K (.ref A.a__law_begin) = true
  g__law_take : mg "_law_take" = some (.ref A.a__law_take)
  k__law_take : PySem.W.keepIn K (.ref A.a__law_take) = true
  g__law_pick : mg "_law_pick" = some (.ref A.a__law_pick)
  k__law_pick : PySem.W.keepIn K (.ref A.a__law_pick) = true
  g__law_fun : mg "_law_fun" = some (.ref A.a__law_fun)
  k__law_fun : PySem.W.keepIn K (.ref A.a__law_fun) = true
  g__law_int : mg "_law_int" = some (.ref A.a__law_int)
  k__law_int : PySem.W.keepIn K (.ref A.a__law_int) = true
  g__law_list : mg "_law_list" = some (.ref A.a__law_list)
  k__law_list : PySem.W.keepIn K (.ref A.a__law_list) = true
  g__law_type : mg "_law_type" = some (.ref A.a__law_type)
  k__law_type : PySem.W.keepIn K (.ref A.a__law_type) = true
  g__law_told : mg "_law_told" = some (.ref A.a__law_told)
  k__law_told : PySem.W.keepIn K (.ref A.a__law_told) = true
  g__law_text : mg "_law_text" = some (.ref A.a__law_text)
  k__law_text : PySem.W.keepIn K (.ref A.a__law_text) = true
  g_law : mg "law" = some (.ref A.a_law)
  k_law : PySem.W.keepIn K (.ref A.a_law) = true
  cl_Reader : Cls K A.Reader
  mk_Reader : Mk K A.Reader A.a_Reader_init
  gc_Reader : mg "Reader" = some (.ref A.Reader)
  n_Reader_words : NoAttr K A.Reader "words"
  n_Reader_at : NoAttr K A.Reader "at"
  oex_TextError : OexC K A.TextError
  ini_TextError : PySem.W.findIn K (.ref A.TextError) "__init__" = some (some (.ref A.a_TextError_init))
  tin_TextError : PySem.W.typeIn K (.ref A.a_TextError_init) = some (.type "function")
  gc_TextError : mg "TextError" = some (.ref A.TextError)
  te_TextError : PySem.W.exmOne K (.ref A.TextError) (.ref A.TextError) = some true
  xf_TextError : XfC K A.TextError
  ne_TextError_code : PySem.W.findIn K (.ref A.TextError) "code" = some none
  ne_TextError_at : PySem.W.findIn K (.ref A.TextError) "at" = some none
  c_VAR : KVal K mg "VAR" (.str c_VAR)
  c_CON : KVal K mg "CON" (.str c_CON)
  c_REC : KVal K mg "REC" (.str c_REC)
  c_ALL : KVal K mg "ALL" (.str c_ALL)
  c_LOW : KVal K mg "LOW" (.str c_LOW)
  c_HIGH : KVal K mg "HIGH" (.str c_HIGH)
  c_DIGITS : KVal K mg "DIGITS" (.str c_DIGITS)
  c_SHORT : KVal K mg "SHORT" (.str c_SHORT)
  c_ARROW : KVal K mg "ARROW" (.str c_ARROW)
  z_len : mg "len" = none
  z_int : mg "int" = none
  z_abs : mg "abs" = none
  z_list : mg "list" = none
  z_tuple : mg "tuple" = none
  z_any : mg "any" = none
  z_sorted : mg "sorted" = none
  z_range : mg "range" = none
structure Bds (K : PySem.W.Frag) (D : Fds) : Prop where
  atom_text : Binds K D.d_atom_text ["t"] []
  record_text : Binds K D.d_record_text ["t"] []
  format_type : Binds K D.d_format_type ["t"] []
  word_end : Binds K D.d_word_end ["text", "place"] []
  words_in : Binds K D.d_words_in ["text"] []
  Reader_head : Binds K D.d_Reader_head ["self"] []
  Reader_fail : Binds K D.d_Reader_fail ["self"] []
  Reader_need : Binds K D.d_Reader_need ["self", "word"] []
  Reader_is_variable : Binds K D.d_Reader_is_variable ["self"] []
  Reader_whole : Binds K D.d_Reader_whole ["self"] []
  Reader_applied : Binds K D.d_Reader_applied ["self"] []
  Reader_one : Binds K D.d_Reader_one ["self"] []
  Reader_record : Binds K D.d_Reader_record ["self"] []
  parse_type : Binds K D.d_parse_type ["text"] []
  _law_begin : Binds K D.d__law_begin ["script"] []
  _law_take : Binds K D.d__law_take ["d", "many"] []
  _law_pick : Binds K D.d__law_pick ["d", "menu"] []
  _law_fun : Binds K D.d__law_fun ["one", "other"] []
  _law_int : Binds K D.d__law_int [] []
  _law_list : Binds K D.d__law_list ["t"] []
  _law_type : Binds K D.d__law_type ["d", "size", "names", "rows"] []
  _law_told : Binds K D.d__law_told ["text"] []
  _law_text : Binds K D.d__law_text ["t"] []
  law : Binds K D.d_law ["script"] []
  Reader_init : Binds K D.d_Reader_init ["self", "words"] []
  TextError_init : Binds K D.d_TextError_init ["self", "code", "at"] []
structure Oks (P : Program) (w : World) (K : PySem.W.Frag) (mg : Str → Option Value) (base : Heap) (A : Ads) (D : Fds) (k : Nat) (F : Fns) : Prop where
  atom_text : FnOk P w K mg base (L2.CX P w) k A.a_atom_text D.d_atom_text ["t"] (SpF K mg 1 F.atom_text)
  record_text : FnOk P w K mg base (L2.CX P w) k A.a_record_text D.d_record_text ["t"] (SpF K mg 1 F.record_text)
  format_type : FnOk P w K mg base (L2.CX P w) k A.a_format_type D.d_format_type ["t"] (SpF K mg 1 F.format_type)
  word_end : FnOk P w K mg base (L2.CX P w) k A.a_word_end D.d_word_end ["text", "place"] (SpF K mg 2 F.word_end)
  words_in : FnOk P w K mg base (L2.CX P w) k A.a_words_in D.d_words_in ["text"] (SpF K mg 1 F.words_in)
  Reader_head : FnOk P w K mg base (L2.CX P w) k A.a_Reader_head D.d_Reader_head ["self"] (SpF K mg 1 F.Reader_head)
  Reader_fail : FnOk P w K mg base (L2.CX P w) k A.a_Reader_fail D.d_Reader_fail ["self"] (SpF K mg 1 F.Reader_fail)
  Reader_need : FnOk P w K mg base (L2.CX P w) k A.a_Reader_need D.d_Reader_need ["self", "word"] (SpF K mg 2 F.Reader_need)
  Reader_is_variable : FnOk P w K mg base (L2.CX P w) k A.a_Reader_is_variable D.d_Reader_is_variable ["self"] (SpF K mg 1 F.Reader_is_variable)
  Reader_whole : FnOk P w K mg base (L2.CX P w) k A.a_Reader_whole D.d_Reader_whole ["self"] (SpF K mg 1 F.Reader_whole)
  Reader_applied : FnOk P w K mg base (L2.CX P w) k A.a_Reader_applied D.d_Reader_applied ["self"] (SpF K mg 1 F.Reader_applied)
  Reader_one : FnOk P w K mg base (L2.CX P w) k A.a_Reader_one D.d_Reader_one ["self"] (SpF K mg 1 F.Reader_one)
  Reader_record : FnOk P w K mg base (L2.CX P w) k A.a_Reader_record D.d_Reader_record ["self"] (SpF K mg 1 F.Reader_record)
  parse_type : FnOk P w K mg base (L2.CX P w) k A.a_parse_type D.d_parse_type ["text"] (SpF K mg 1 F.parse_type)
  _law_begin : FnOk P w K mg base (L2.CX P w) k A.a__law_begin D.d__law_begin ["script"] (SpF K mg 1 F._law_begin)
  _law_take : FnOk P w K mg base (L2.CX P w) k A.a__law_take D.d__law_take ["d", "many"] (SpF K mg 2 F._law_take)
  _law_pick : FnOk P w K mg base (L2.CX P w) k A.a__law_pick D.d__law_pick ["d", "menu"] (SpF K mg 2 F._law_pick)
  _law_fun : FnOk P w K mg base (L2.CX P w) k A.a__law_fun D.d__law_fun ["one", "other"] (SpF K mg 2 F._law_fun)
  _law_int : FnOk P w K mg base (L2.CX P w) k A.a__law_int D.d__law_int [] (SpF K mg 0 F._law_int)
  _law_list : FnOk P w K mg base (L2.CX P w) k A.a__law_list D.d__law_list ["t"] (SpF K mg 1 F._law_list)
  _law_type : FnOk P w K mg base (L2.CX P w) k A.a__law_type D.d__law_type ["d", "size", "names", "rows"] (SpF K mg 4 F._law_type)
  _law_told : FnOk P w K mg base (L2.CX P w) k A.a__law_told D.d__law_told ["text"] (SpF K mg 1 F._law_told)
  _law_text : FnOk P w K mg base (L2.CX P w) k A.a__law_text D.d__law_text ["t"] (SpF K mg 1 F._law_text)
  law : FnOk P w K mg base (L2.CX P w) k A.a_law D.d_law ["script"] (SpF K mg 1 F.law)
structure OksI (P : Program) (w : World) (K : PySem.W.Frag) (mg : Str → Option Value) (base : Heap) (A : Ads) (D : Fds) : Prop where
  Reader_init : FnOk P w K mg base (L2.CX P w) 1 A.a_Reader_init D.d_Reader_init ["self", "words"] (SpF K mg 2 (f_Reader_init A))
  TextError_init : FnOk P w K mg base (L2.CX P w) 1 A.a_TextError_init D.d_TextError_init ["self", "code", "at"] (spI2 A.TextError "code" "at" "refused: " ", ")
section
variable {P : Program} {w : World} {K : PySem.W.Frag} {mg : Str → Option Value} {base : Heap} {A : Ads} {D : Fds} {F : Fns} {j : Nat}
theorem d_Reader_init (T : Txt K mg A) (B : Bds K D) (cdv : Value) (Ar : Around) (outer : List Env) (s : Shared) (H : Hp) (E : XK) (hr : Room 0 (Ar.deeper (PyProof.Rows.envOfC "Reader.__init__" (defScope s_Reader_init) s.heap.objs.size A.a_Reader_init cdv))) :
    PSs (cxOf (L2.CX P w) P w K mg base ["self", "words"] "Reader.__init__" (defScope s_Reader_init) A.a_Reader_init cdv Ar outer s H E) (defBody s_Reader_init) (SndS (cxOf (L2.CX P w) P w K mg base ["self", "words"] "Reader.__init__" (defScope s_Reader_init) A.a_Reader_init cdv Ar outer s H E) E (m_Reader_init A noF)) := by
  unfold m_Reader_init
  exact (by exact snd_seq (by exact snd_putF T.cl_Reader T.n_Reader_words (by exact w_p 0) (by exact w_v 1) (by rfl)) (by exact snd_one (by exact snd_putF T.cl_Reader T.n_Reader_at (by exact w_p 0) snd_int (by rfl))))
theorem d_atom_text (T : Txt K mg A) (B : Bds K D) (OI : OksI P w K mg base A D) (O : Oks P w K mg base A D (j + 3) F) (cdv : Value) (Ar : Around) (outer : List Env) (s : Shared) (H : Hp) (E : XK) (hr : Room (j + 3) (Ar.deeper (PyProof.Rows.envOfC "atom_text" (defScope s_atom_text) s.heap.objs.size A.a_atom_text cdv))) :
    PSs (cxOf (L2.CX P w) P w K mg base ["t"] "atom_text" (defScope s_atom_text) A.a_atom_text cdv Ar outer s H E) (defBody s_atom_text) (SndS (cxOf (L2.CX P w) P w K mg base ["t"] "atom_text" (defScope s_atom_text) A.a_atom_text cdv Ar outer s H E) E (m_atom_text A F)) := by
  unfold m_atom_text
  exact (by exact snd_seq (by exact snd_if (by exact w_pt (by exact snd_or (by exact snd_tcmp (op_eqD hr.units) pure_eq (by exact snd_p (by exact snd_ix (hu_of hr) (by exact w_p 0) (by exact snd_p snd_int) (fun _ _ => rfl))) (by exact snd_p (by exact snd_glob (by rfl) T.c_ALL)) (nomark _)) (snd_or1 (by exact w_pt (by exact snd_and (by exact snd_tcmp (op_eqD hr.units) pure_eq (by exact snd_p (by exact snd_ix (hu_of hr) (by exact w_p 0) (by exact snd_p snd_int) (fun _ _ => rfl))) (by exact snd_p (by exact snd_glob (by rfl) T.c_CON)) (nomark _)) (snd_and1 (by exact snd_truth (by exact snd_p (by exact snd_ix (hu_of hr) (by exact w_p 0) (by exact snd_p snd_int) (fun _ _ => rfl))) (fun _ => rfl)))))))) (by exact snd_one (by exact snd_ret (by exact snd_bin op_add4 pure_add (by exact snd_p (by exact snd_bin op_add4 pure_add (by exact snd_p snd_str) (by exact snd_p (by exact snd_v (by exact snd_call (by exact O.format_type) (by exact hr) (by rfl) T.g_format_type T.k_format_type (by exact B.format_type) (by exact takes_of rfl rfl rfl rfl) (by exact snd_cons (snd_p (by exact w_v 0)) snd_nil)))))) (by exact snd_p snd_str)))) snd_snil) (by exact snd_one (by exact snd_retC (by exact snd_call (by exact O.format_type) (by exact hr) (by rfl) T.g_format_type T.k_format_type (by exact B.format_type) (by exact takes_of rfl rfl rfl rfl) (by exact snd_cons (snd_p (by exact w_v 0)) snd_nil)))))
theorem d_record_text (T : Txt K mg A) (B : Bds K D) (OI : OksI P w K mg base A D) (O : Oks P w K mg base A D (j + 3) F) (cdv : Value) (Ar : Around) (outer : List Env) (s : Shared) (H : Hp) (E : XK) (hr : Room (j + 3) (Ar.deeper (PyProof.Rows.envOfC "record_text" (defScope s_record_text) s.heap.objs.size A.a_record_text cdv))) :
    PSs (cxOf (L2.CX P w) P w K mg base ["t", "_", "fields", "tail", "text", "name", "own"] "record_text" (defScope s_record_text) A.a_record_text cdv Ar outer s H E) (defBody s_record_text) (SndS (cxOf (L2.CX P w) P w K mg base ["t", "_", "fields", "tail", "text", "name", "own"] "record_text" (defScope s_record_text) A.a_record_text cdv Ar outer s H E) E (m_record_text A F)) := by
  unfold m_record_text
  exact (by exact snd_seq (by exact snd_asg (by exact w_v 0) (by exact snd_gtup (by rfl) (snd_gscons (by exact w_g 1 sc_record_text.nd) (snd_gscons (by exact w_g 2 sc_record_text.nd) (snd_gscons (by exact w_g 3 sc_record_text.nd) snd_gsnil))))) (by exact snd_seq (by exact w_set 4 sc_record_text.nd (by exact snd_strM PySem.F.slot_str_join PySem.F.type_str_join mt_join pure_join (by exact snd_p snd_str) (by exact snd_cons (by exact snd_p (by exact snd_v (by exact snd_lcT (T := ([5] ++ ([6] ++ []))) (own := [("name", 5), ("own", 6)]) (by rfl) sc_record_text.nd (by exact w_v 2) (blkOk_by (by show blkC ["t", "_", "fields", "tail", "text", "name", "own"] (defScope s_record_text) _ _ = true; decide +kernel)) (by decide) (fun _ _ _ _ _ => (by exact snd_gtup (by rfl) (snd_gscons (by exact w_g 5 sc_record_text.nd) (snd_gscons (by exact w_g 6 sc_record_text.nd) snd_gsnil)))) (fun _ _ _ _ _ => w_yes) (fun _ _ _ _ _ => (by exact snd_joined (snd_pjc (snd_fmt (by exact w_p 5)) (snd_pjc snd_str (snd_pjc (snd_fmt (by exact snd_p (by exact snd_v (by exact snd_call (by exact O.format_type) (by exact hr) (by rfl) T.g_format_type T.k_format_type (by exact B.format_type) takes0 (by exact snd_cons (snd_p (by exact w_v 6)) snd_nil))))) snd_pjn)))))))) snd_nil))) (by exact snd_seq (by exact snd_if (by exact snd_tcmp op_is2 pure_is (by exact w_p 3) (by exact snd_p snd_non) (nomark _)) (by exact snd_one (by exact snd_ret (by exact snd_bin op_add4 pure_add (by exact snd_p (by exact snd_bin op_add4 pure_add (by exact snd_p snd_str) (by exact w_p 4))) (by exact snd_p snd_str)))) snd_snil) (by exact snd_one (by exact snd_ret (by exact snd_bin op_add4 pure_add (by exact snd_p (by exact snd_bin op_add4 pure_add (by exact snd_p (by exact snd_bin op_add4 pure_add (by exact snd_p snd_str) (by exact snd_p (by exact snd_ifE (by exact snd_truth (by exact w_p 4) (fun _ => rfl)) (by exact snd_bin op_add4 pure_add (by exact w_p 4) (by exact snd_p snd_str)) snd_str)))) (by exact w_p 3))) (by exact snd_p snd_str)))))))
theorem d_format_type (T : Txt K mg A) (B : Bds K D) (OI : OksI P w K mg base A D) (O : Oks P w K mg base A D (j + 3) F) (cdv : Value) (Ar : Around) (outer : List Env) (s : Shared) (H : Hp) (E : XK) (hr : Room (j + 3) (Ar.deeper (PyProof.Rows.envOfC "format_type" (defScope s_format_type) s.heap.objs.size A.a_format_type cdv))) :
    PSs (cxOf (L2.CX P w) P w K mg base ["t", "kind", "one", "other", "is_bound", "ahead", "own"] "format_type" (defScope s_format_type) A.a_format_type cdv Ar outer s H E) (defBody s_format_type) (SndS (cxOf (L2.CX P w) P w K mg base ["t", "kind", "one", "other", "is_bound", "ahead", "own"] "format_type" (defScope s_format_type) A.a_format_type cdv Ar outer s H E) E (m_format_type A F)) := by
  unfold m_format_type
  exact (by exact snd_seq (by exact w_set 1 sc_format_type.nd (by exact snd_ix (hu_of hr) (by exact w_p 0) (by exact snd_p snd_int) (fun _ _ => rfl))) (by exact snd_seq (by exact snd_if (by exact snd_tcmp (op_eqD hr.units) pure_eq (by exact w_p 1) (by exact snd_p (by exact snd_glob (by rfl) T.c_VAR)) (nomark _)) (by exact snd_one (by exact snd_ret (by exact snd_ix (hu_of hr) (by exact w_p 0) (by exact snd_p snd_int) (fun _ _ => rfl)))) snd_snil) (by exact snd_seq (by exact snd_if (by exact snd_tcmp (op_eqD hr.units) pure_eq (by exact w_p 1) (by exact snd_p (by exact snd_glob (by rfl) T.c_REC)) (nomark _)) (by exact snd_one (by exact snd_retC (by exact snd_call (by exact O.record_text) (by exact hr) (by rfl) T.g_record_text T.k_record_text (by exact B.record_text) (by exact takes_of rfl rfl rfl rfl) (by exact snd_cons (snd_p (by exact w_v 0)) snd_nil)))) snd_snil) (by exact snd_seq (by exact snd_if (by exact snd_tcmp (op_eqD hr.units) pure_eq (by exact w_p 1) (by exact snd_p (by exact snd_glob (by rfl) T.c_ALL)) (nomark _)) (by exact snd_one (by exact snd_ret (by exact snd_joined (snd_pjc snd_str (snd_pjc (snd_fmt (by exact snd_p (by exact snd_ix (hu_of hr) (by exact w_p 0) (by exact snd_p snd_int) (fun _ _ => rfl)))) (snd_pjc snd_str (snd_pjc (snd_fmt (by exact snd_p (by exact snd_v (by exact snd_call (by exact O.format_type) (by exact hr) (by rfl) T.g_format_type T.k_format_type (by exact B.format_type) (by exact takes_of rfl rfl rfl rfl) (by exact snd_cons (snd_p (by exact snd_ix (hu_of hr) (by exact w_p 0) (by exact snd_p snd_int) (fun _ _ => rfl))) snd_nil))))) snd_pjn))))))) snd_snil) (by exact snd_seq (by exact snd_if (by exact snd_tcmp (op_eqD hr.units) pure_eq (by exact snd_p (by exact snd_ix (hu_of hr) (by exact w_p 0) (by exact snd_p snd_int) (fun _ _ => rfl))) (by exact snd_p snd_str) (nomark _)) (by exact snd_seq (by exact snd_asg (by exact snd_ix (hu_of hr) (by exact w_p 0) (by exact snd_p snd_int) (fun _ _ => rfl)) (by exact snd_gtup (by rfl) (snd_gscons (by exact w_g 2 sc_format_type.nd) (snd_gscons (by exact w_g 3 sc_format_type.nd) snd_gsnil)))) (by exact snd_seq (by exact w_set 4 sc_format_type.nd (by exact snd_orV (by exact snd_cmp (op_eqD hr.units) pure_eq (by exact snd_p (by exact snd_ix (hu_of hr) (by exact w_p 2) (by exact snd_p snd_int) (fun _ _ => rfl))) (by exact snd_p (by exact snd_glob (by rfl) T.c_ALL)) (nomark _)) (snd_one1 (by exact snd_andV (by exact snd_cmp (op_eqD hr.units) pure_eq (by exact snd_p (by exact snd_ix (hu_of hr) (by exact w_p 2) (by exact snd_p snd_int) (fun _ _ => rfl))) (by exact snd_p (by exact snd_glob (by rfl) T.c_CON)) (nomark _)) (snd_one1 (by exact snd_cmp (op_eqD hr.units) pure_eq (by exact snd_p (by exact snd_ix (hu_of hr) (by exact w_p 2) (by exact snd_p snd_int) (fun _ _ => rfl))) (by exact snd_p snd_str) (nomark _))))))) (by exact snd_seq (by exact w_set 5 sc_format_type.nd (by exact snd_ifE (by exact snd_truth (by exact w_p 4) (fun _ => rfl)) (by exact snd_bin op_add4 pure_add (by exact snd_p (by exact snd_bin op_add4 pure_add (by exact snd_p snd_str) (by exact snd_p (by exact snd_v (by exact snd_call (by exact O.format_type) (by exact hr) (by rfl) T.g_format_type T.k_format_type (by exact B.format_type) (by exact takes_of rfl rfl rfl rfl) (by exact snd_cons (snd_p (by exact w_v 2)) snd_nil)))))) (by exact snd_p snd_str)) (by exact snd_v (by exact snd_call (by exact O.format_type) (by exact hr) (by rfl) T.g_format_type T.k_format_type (by exact B.format_type) (by exact takes_of rfl rfl rfl rfl) (by exact snd_cons (snd_p (by exact w_v 2)) snd_nil))))) (by exact snd_one (by exact snd_ret (by exact snd_bin op_add4 pure_add (by exact snd_p (by exact snd_bin op_add4 pure_add (by exact w_p 5) (by exact snd_p snd_str))) (by exact snd_p (by exact snd_v (by exact snd_call (by exact O.format_type) (by exact hr) (by rfl) T.g_format_type T.k_format_type (by exact B.format_type) (by exact takes_of rfl rfl rfl rfl) (by exact snd_cons (snd_p (by exact w_v 3)) snd_nil)))))))))) snd_snil) (by exact snd_one (by exact snd_ret (by exact snd_strM PySem.F.slot_str_join PySem.F.type_str_join mt_join pure_join (by exact snd_p snd_str) (by exact snd_cons (by exact snd_p (by exact snd_bin op_add4 pure_add (by exact snd_p (by exact snd_lst (by exact snd_cons (snd_p (by exact snd_ix (hu_of hr) (by exact w_p 0) (by exact snd_p snd_int) (fun _ _ => rfl))) snd_nil))) (by exact snd_p (by exact snd_v (by exact snd_lcT (T := [6]) (own := [("own", 6)]) (by rfl) sc_format_type.nd (by exact snd_ix (hu_of hr) (by exact w_p 0) (by exact snd_p snd_int) (fun _ _ => rfl)) (blkOk_by (by show blkC ["t", "kind", "one", "other", "is_bound", "ahead", "own"] (defScope s_format_type) _ _ = true; decide +kernel)) (by decide) (fun _ _ _ _ _ => (by exact w_g 6 sc_format_type.nd)) (fun _ _ _ _ _ => w_yes) (fun _ _ _ _ _ => (by exact snd_v (by exact snd_call (by exact O.atom_text) (by exact hr) (by rfl) T.g_atom_text T.k_atom_text (by exact B.atom_text) takes0 (by exact snd_cons (snd_p (by exact w_v 6)) snd_nil))))))))) snd_nil)))))))))
theorem d_word_end (T : Txt K mg A) (B : Bds K D) (OI : OksI P w K mg base A D) (O : Oks P w K mg base A D (j + 3) F) (cdv : Value) (Ar : Around) (outer : List Env) (s : Shared) (H : Hp) (E : XK) (hr : Room (j + 3) (Ar.deeper (PyProof.Rows.envOfC "word_end" (defScope s_word_end) s.heap.objs.size A.a_word_end cdv))) :
    PSs (cxOf (L2.CX P w) P w K mg base ["text", "place"] "word_end" (defScope s_word_end) A.a_word_end cdv Ar outer s H E) (defBody s_word_end) (SndS (cxOf (L2.CX P w) P w K mg base ["text", "place"] "word_end" (defScope s_word_end) A.a_word_end cdv Ar outer s H E) E (m_word_end A F)) := by
  unfold m_word_end
  exact (by exact snd_seq (by exact snd_while 1000000 (by exact passes_of rfl) (by exact w_pt (by exact snd_and (by exact snd_tcmp op_lt pure_cmp (by exact w_p 1) (by exact snd_p (by exact snd_callB call_len pure_len (by rfl) T.z_len PySem.boot_len (by exact snd_cons (by exact w_p 0) snd_nil))) (nomark _)) (snd_and1 (by exact snd_tcmp (op_in4 (hu_of hr)) pure_in (by exact snd_p (by exact snd_ix (hu_of hr) (by exact w_p 0) (by exact w_p 1) (fun _ _ => rfl))) (by exact snd_p (by exact snd_bin op_add4 pure_add (by exact snd_p (by exact snd_bin op_add4 pure_add (by exact snd_p (by exact snd_bin op_add4 pure_add (by exact snd_p (by exact snd_glob (by rfl) T.c_LOW)) (by exact snd_p (by exact snd_glob (by rfl) T.c_HIGH)))) (by exact snd_p (by exact snd_glob (by rfl) T.c_DIGITS)))) (by exact snd_p snd_str))) (by with_unfolding_all rfl))))) (by exact snd_one (by exact w_aug 1 sc_word_end.nd op_iadd2 pure_iadd (by exact snd_p snd_int)))) (by exact snd_one (by exact snd_ret (by exact w_v 1))))
theorem d_words_in (T : Txt K mg A) (B : Bds K D) (OI : OksI P w K mg base A D) (O : Oks P w K mg base A D (j + 3) F) (cdv : Value) (Ar : Around) (outer : List Env) (s : Shared) (H : Hp) (E : XK) (hr : Room (j + 3) (Ar.deeper (PyProof.Rows.envOfC "words_in" (defScope s_words_in) s.heap.objs.size A.a_words_in cdv))) :
    PSs (cxOf (L2.CX P w) P w K mg base ["text", "found", "place", "sign", "end"] "words_in" (defScope s_words_in) A.a_words_in cdv Ar outer s H E) (defBody s_words_in) (SndS (cxOf (L2.CX P w) P w K mg base ["text", "found", "place", "sign", "end"] "words_in" (defScope s_words_in) A.a_words_in cdv Ar outer s H E) E (m_words_in A F)) := by
  unfold m_words_in
  exact (by exact snd_seq (by exact w_setL 1 sc_words_in.nd snd_nil) (by exact snd_seq (by exact w_set 2 sc_words_in.nd snd_int) (by exact snd_seq (by exact snd_while 1000000 (by exact passes_of rfl) (by exact snd_tcmp op_lt pure_cmp (by exact w_p 2) (by exact snd_p (by exact snd_callB call_len pure_len (by rfl) T.z_len PySem.boot_len (by exact snd_cons (by exact w_p 0) snd_nil))) (nomark _)) (by exact snd_seq (by exact w_set 3 sc_words_in.nd (by exact snd_ix (hu_of hr) (by exact w_p 0) (by exact w_p 2) (fun _ _ => rfl))) (by exact snd_seq (by exact snd_if (by exact snd_tcmp (op_eqD hr.units) pure_eq (by exact w_p 3) (by exact snd_p snd_str) (nomark _)) (by exact snd_seq (by exact w_aug 2 sc_words_in.nd op_iadd2 pure_iadd (by exact snd_p snd_int)) (by exact snd_one snd_cont)) snd_snil) (by exact snd_seq (by exact snd_if (by exact snd_tcmp (op_in4 (hu_of hr)) pure_in (by exact w_p 3) (by exact snd_p (by exact snd_bin op_add4 pure_add (by exact snd_p (by exact snd_glob (by rfl) T.c_LOW)) (by exact snd_p (by exact snd_glob (by rfl) T.c_HIGH)))) (by with_unfolding_all rfl)) (by exact snd_one (by exact w_setC 4 sc_words_in.nd (by exact snd_call (by exact O.word_end) (by exact hr) (by rfl) T.g_word_end T.k_word_end (by exact B.word_end) (by exact takes_of rfl rfl rfl rfl) (by exact snd_cons (snd_p (by exact w_v 0)) (snd_cons (snd_p (by exact w_v 2)) snd_nil))))) (by exact snd_one (by exact snd_if (by exact snd_tcmp (op_eqD hr.units) pure_eq (by exact w_p 3) (by exact snd_p snd_str) (nomark _)) (by exact snd_seq (by exact w_set 4 sc_words_in.nd (by exact snd_bin op_add4 pure_add (by exact w_p 2) (by exact snd_p snd_int))) (by exact snd_seq (by exact snd_while 1000000 (by exact passes_of rfl) (by exact w_pt (by exact snd_and (by exact snd_tcmp op_lt pure_cmp (by exact w_p 4) (by exact snd_p (by exact snd_callB call_len pure_len (by rfl) T.z_len PySem.boot_len (by exact snd_cons (by exact w_p 0) snd_nil))) (nomark _)) (snd_and1 (by exact snd_tcmp (op_eqD hr.units) pure_eq (by exact snd_p (by exact snd_ix (hu_of hr) (by exact w_p 0) (by exact w_p 4) (fun _ _ => rfl))) (by exact snd_p snd_str) (nomark _))))) (by exact snd_one (by exact w_aug 4 sc_words_in.nd op_iadd2 pure_iadd (by exact snd_p snd_int)))) (by exact snd_one (by exact w_setC 4 sc_words_in.nd (by exact snd_call (by exact O.word_end) (by exact hr) (by rfl) T.g_word_end T.k_word_end (by exact B.word_end) (by exact takes_of rfl rfl rfl rfl) (by exact snd_cons (snd_p (by exact w_v 0)) (snd_cons (snd_p (by exact w_v 4)) snd_nil))))))) (by exact snd_one (by exact snd_if (by exact snd_truth (by exact snd_p (by exact snd_strM PySem.F.slot_str_startswith PySem.F.type_str_startswith mt_startswith3 pure_sw3 (by exact w_p 0) (by exact snd_cons (by exact snd_p (by exact snd_glob (by rfl) T.c_ARROW)) (snd_cons (by exact w_p 2) snd_nil)))) (fun _ => rfl)) (by exact snd_one (by exact w_set 4 sc_words_in.nd (by exact snd_bin op_add4 pure_add (by exact w_p 2) (by exact snd_p snd_int)))) (by exact snd_one (by exact snd_if (by exact snd_tcmp (op_in4 (hu_of hr)) pure_in (by exact w_p 3) (by exact snd_p (by exact snd_glob (by rfl) T.c_SHORT)) (by with_unfolding_all rfl)) (by exact snd_one (by exact w_set 4 sc_words_in.nd (by exact snd_bin op_add4 pure_add (by exact w_p 2) (by exact snd_p snd_int)))) (by exact snd_one (by exact snd_raise2 (by rfl) (by decide) T.oex_TextError T.ini_TextError T.tin_TextError (by exact OI.TextError_init) (by exact hr.mono (by omega)) (by exact B.TextError_init) (by exact takes_of rfl rfl rfl rfl) (by rfl) T.gc_TextError (by exact snd_cons (snd_p snd_str) (snd_cons (snd_p (by exact w_v 2)) snd_nil))))))))))) (by exact snd_seq (by exact snd_drop (snd_p (by exact snd_append (by exact w_p 1) (by exact snd_cons (snd_p (by exact snd_slice (by exact w_p 0) (snd_osome (by exact w_p 2)) (snd_osome (by exact w_p 4)))) snd_nil)))) (by exact snd_one (by exact w_set 2 sc_words_in.nd (by exact w_v 4)))))))) (by exact snd_one (by exact snd_ret (by exact w_v 1))))))
theorem d_Reader_head (T : Txt K mg A) (B : Bds K D) (OI : OksI P w K mg base A D) (O : Oks P w K mg base A D (j + 3) F) (cdv : Value) (Ar : Around) (outer : List Env) (s : Shared) (H : Hp) (E : XK) (hr : Room (j + 3) (Ar.deeper (PyProof.Rows.envOfC "Reader.head" (defScope s_Reader_head) s.heap.objs.size A.a_Reader_head cdv))) :
    PSs (cxOf (L2.CX P w) P w K mg base ["self"] "Reader.head" (defScope s_Reader_head) A.a_Reader_head cdv Ar outer s H E) (defBody s_Reader_head) (SndS (cxOf (L2.CX P w) P w K mg base ["self"] "Reader.head" (defScope s_Reader_head) A.a_Reader_head cdv Ar outer s H E) E (m_Reader_head A F)) := by
  unfold m_Reader_head
  exact (by exact snd_one (by exact snd_ret (by exact snd_ifE (by exact snd_tcmp op_lt pure_cmp (by exact snd_p (by exact snd_fld T.cl_Reader T.n_Reader_at (by exact w_p 0) (by rfl))) (by exact snd_p (by exact snd_callB call_len pure_len (by rfl) T.z_len PySem.boot_len (by exact snd_cons (by exact snd_p (by exact snd_fld T.cl_Reader T.n_Reader_words (by exact w_p 0) (by rfl))) snd_nil))) (nomark _)) (by exact snd_ix (hu_of hr) (by exact snd_p (by exact snd_fld T.cl_Reader T.n_Reader_words (by exact w_p 0) (by rfl))) (by exact snd_p (by exact snd_fld T.cl_Reader T.n_Reader_at (by exact w_p 0) (by rfl))) (fun _ _ => rfl)) snd_str)))
theorem d_Reader_fail (T : Txt K mg A) (B : Bds K D) (OI : OksI P w K mg base A D) (O : Oks P w K mg base A D (j + 3) F) (cdv : Value) (Ar : Around) (outer : List Env) (s : Shared) (H : Hp) (E : XK) (hr : Room (j + 3) (Ar.deeper (PyProof.Rows.envOfC "Reader.fail" (defScope s_Reader_fail) s.heap.objs.size A.a_Reader_fail cdv))) :
    PSs (cxOf (L2.CX P w) P w K mg base ["self"] "Reader.fail" (defScope s_Reader_fail) A.a_Reader_fail cdv Ar outer s H E) (defBody s_Reader_fail) (SndS (cxOf (L2.CX P w) P w K mg base ["self"] "Reader.fail" (defScope s_Reader_fail) A.a_Reader_fail cdv Ar outer s H E) E (m_Reader_fail A F)) := by
  unfold m_Reader_fail
  exact (by exact snd_one (by exact snd_raise2 (by rfl) (by decide) T.oex_TextError T.ini_TextError T.tin_TextError (by exact OI.TextError_init) (by exact hr.mono (by omega)) (by exact B.TextError_init) (by exact takes_of rfl rfl rfl rfl) (by rfl) T.gc_TextError (by exact snd_cons (snd_p snd_str) (snd_cons (snd_p (by exact snd_fld T.cl_Reader T.n_Reader_at (by exact w_p 0) (by rfl))) snd_nil))))
theorem d_Reader_need (T : Txt K mg A) (B : Bds K D) (OI : OksI P w K mg base A D) (O : Oks P w K mg base A D (j + 3) F) (cdv : Value) (Ar : Around) (outer : List Env) (s : Shared) (H : Hp) (E : XK) (hr : Room (j + 3) (Ar.deeper (PyProof.Rows.envOfC "Reader.need" (defScope s_Reader_need) s.heap.objs.size A.a_Reader_need cdv))) :
    PSs (cxOf (L2.CX P w) P w K mg base ["self", "word"] "Reader.need" (defScope s_Reader_need) A.a_Reader_need cdv Ar outer s H E) (defBody s_Reader_need) (SndS (cxOf (L2.CX P w) P w K mg base ["self", "word"] "Reader.need" (defScope s_Reader_need) A.a_Reader_need cdv Ar outer s H E) E (m_Reader_need A F)) := by
  unfold m_Reader_need
  exact (by exact snd_seq (by exact snd_if (by exact snd_tcmp (op_neD hr.units) pure_ne (by exact snd_p (by exact snd_v (by exact snd_meth0 (by exact w_p 0) T.cl_Reader T.m_Reader_head (by exact O.Reader_head) (by exact hr) (by exact B.Reader_head) (by exact takes_of rfl rfl rfl rfl)))) (by exact w_p 1) (nomark _)) (by exact snd_one (by exact snd_dropC (by exact snd_meth0 (by exact w_p 0) T.cl_Reader T.m_Reader_fail (by exact O.Reader_fail) (by exact hr) (by exact B.Reader_fail) (by exact takes_of rfl rfl rfl rfl)))) snd_snil) (by exact snd_one (by exact snd_augF op_iadd2 pure_iadd T.cl_Reader T.n_Reader_at (by exact w_p 0) (by exact snd_p snd_int))))
theorem d_Reader_is_variable (T : Txt K mg A) (B : Bds K D) (OI : OksI P w K mg base A D) (O : Oks P w K mg base A D (j + 3) F) (cdv : Value) (Ar : Around) (outer : List Env) (s : Shared) (H : Hp) (E : XK) (hr : Room (j + 3) (Ar.deeper (PyProof.Rows.envOfC "Reader.is_variable" (defScope s_Reader_is_variable) s.heap.objs.size A.a_Reader_is_variable cdv))) :
    PSs (cxOf (L2.CX P w) P w K mg base ["self", "word"] "Reader.is_variable" (defScope s_Reader_is_variable) A.a_Reader_is_variable cdv Ar outer s H E) (defBody s_Reader_is_variable) (SndS (cxOf (L2.CX P w) P w K mg base ["self", "word"] "Reader.is_variable" (defScope s_Reader_is_variable) A.a_Reader_is_variable cdv Ar outer s H E) E (m_Reader_is_variable A F)) := by
  unfold m_Reader_is_variable
  exact (by exact snd_seq (by exact w_setC 1 sc_Reader_is_variable.nd (by exact snd_meth0 (by exact w_p 0) T.cl_Reader T.m_Reader_head (by exact O.Reader_head) (by exact hr) (by exact B.Reader_head) (by exact takes_of rfl rfl rfl rfl))) (by exact snd_one (by exact snd_ret (by exact snd_andV (by exact snd_cmp (op_neD hr.units) pure_ne (by exact w_p 1) (by exact snd_p snd_str) (nomark _)) (snd_andV (by exact snd_cmp (op_in4 (hu_of hr)) pure_in (by exact snd_p (by exact snd_ix (hu_of hr) (by exact w_p 1) (by exact snd_p snd_int) (fun _ _ => rfl))) (by exact snd_p (by exact snd_glob (by rfl) T.c_LOW)) (by with_unfolding_all rfl)) (snd_one1 (by exact snd_cmp (op_neD hr.units) pure_ne (by exact w_p 1) (by exact snd_p snd_str) (nomark _))))))))
theorem d_Reader_whole (T : Txt K mg A) (B : Bds K D) (OI : OksI P w K mg base A D) (O : Oks P w K mg base A D (j + 3) F) (cdv : Value) (Ar : Around) (outer : List Env) (s : Shared) (H : Hp) (E : XK) (hr : Room (j + 3) (Ar.deeper (PyProof.Rows.envOfC "Reader.whole" (defScope s_Reader_whole) s.heap.objs.size A.a_Reader_whole cdv))) :
    PSs (cxOf (L2.CX P w) P w K mg base ["self", "name", "found"] "Reader.whole" (defScope s_Reader_whole) A.a_Reader_whole cdv Ar outer s H E) (defBody s_Reader_whole) (SndS (cxOf (L2.CX P w) P w K mg base ["self", "name", "found"] "Reader.whole" (defScope s_Reader_whole) A.a_Reader_whole cdv Ar outer s H E) E (m_Reader_whole A F)) := by
  unfold m_Reader_whole
  exact (by exact snd_seq (by exact snd_if (by exact snd_tcmp (op_eqD hr.units) pure_eq (by exact snd_p (by exact snd_v (by exact snd_meth0 (by exact w_p 0) T.cl_Reader T.m_Reader_head (by exact O.Reader_head) (by exact hr) (by exact B.Reader_head) (by exact takes_of rfl rfl rfl rfl)))) (by exact snd_p snd_str) (nomark _)) (by exact snd_seq (by exact snd_augF op_iadd2 pure_iadd T.cl_Reader T.n_Reader_at (by exact w_p 0) (by exact snd_p snd_int)) (by exact snd_seq (by exact w_setC 1 sc_Reader_whole.nd (by exact snd_meth0 (by exact w_p 0) T.cl_Reader T.m_Reader_head (by exact O.Reader_head) (by exact hr) (by exact B.Reader_head) (by exact takes_of rfl rfl rfl rfl))) (by exact snd_seq (by exact snd_if (by exact snd_not (by exact w_pt (by exact snd_or (by exact snd_truth (by exact snd_p (by exact snd_v (by exact snd_meth0 (by exact w_p 0) T.cl_Reader T.m_Reader_is_variable (by exact O.Reader_is_variable) (by exact hr) (by exact B.Reader_is_variable) (by exact takes_of rfl rfl rfl rfl)))) (fun _ => rfl)) (snd_or1 (by exact snd_truth (by exact snd_p (by exact snd_strM PySem.F.slot_str_startswith PySem.F.type_str_startswith mt_startswith pure_sw (by exact w_p 1) (by exact snd_cons (by exact snd_p snd_str) snd_nil))) (fun _ => rfl)))))) (by exact snd_one (by exact snd_dropC (by exact snd_meth0 (by exact w_p 0) T.cl_Reader T.m_Reader_fail (by exact O.Reader_fail) (by exact hr) (by exact B.Reader_fail) (by exact takes_of rfl rfl rfl rfl)))) snd_snil) (by exact snd_seq (by exact snd_augF op_iadd2 pure_iadd T.cl_Reader T.n_Reader_at (by exact w_p 0) (by exact snd_p snd_int)) (by exact snd_seq (by exact snd_dropC (by exact snd_meth (by exact w_p 0) T.cl_Reader T.m_Reader_need (by exact O.Reader_need) (by exact hr) (by exact B.Reader_need) (by exact takes_of rfl rfl rfl rfl) (by exact snd_cons (snd_p snd_str) snd_nil))) (by exact snd_one (by exact snd_ret (by exact snd_tup (by exact snd_cons (snd_p (by exact snd_glob (by rfl) T.c_ALL)) (snd_cons (snd_p (by exact w_v 1)) (snd_cons (snd_p (by exact snd_v (by exact snd_meth0 (by exact w_p 0) T.cl_Reader T.m_Reader_whole (by exact O.Reader_whole) (by exact hr) (by exact B.Reader_whole) (by exact takes_of rfl rfl rfl rfl)))) snd_nil))))))))))) snd_snil) (by exact snd_seq (by exact w_setC 2 sc_Reader_whole.nd (by exact snd_meth0 (by exact w_p 0) T.cl_Reader T.m_Reader_applied (by exact O.Reader_applied) (by exact hr) (by exact B.Reader_applied) (by exact takes_of rfl rfl rfl rfl))) (by exact snd_seq (by exact snd_if (by exact snd_tcmp (op_eqD hr.units) pure_eq (by exact snd_p (by exact snd_v (by exact snd_meth0 (by exact w_p 0) T.cl_Reader T.m_Reader_head (by exact O.Reader_head) (by exact hr) (by exact B.Reader_head) (by exact takes_of rfl rfl rfl rfl)))) (by exact snd_p (by exact snd_glob (by rfl) T.c_ARROW)) (nomark _)) (by exact snd_seq (by exact snd_augF op_iadd2 pure_iadd T.cl_Reader T.n_Reader_at (by exact w_p 0) (by exact snd_p snd_int)) (by exact snd_one (by exact snd_ret (by exact snd_tup (by exact snd_cons (snd_p (by exact snd_glob (by rfl) T.c_CON)) (snd_cons (snd_p snd_str) (snd_cons (snd_p (by exact snd_tup (by exact snd_cons (snd_p (by exact w_v 2)) (snd_cons (snd_p (by exact snd_v (by exact snd_meth0 (by exact w_p 0) T.cl_Reader T.m_Reader_whole (by exact O.Reader_whole) (by exact hr) (by exact B.Reader_whole) (by exact takes_of rfl rfl rfl rfl)))) snd_nil)))) snd_nil))))))) snd_snil) (by exact snd_one (by exact snd_ret (by exact w_v 2))))))
theorem d_Reader_applied (T : Txt K mg A) (B : Bds K D) (OI : OksI P w K mg base A D) (O : Oks P w K mg base A D (j + 3) F) (cdv : Value) (Ar : Around) (outer : List Env) (s : Shared) (H : Hp) (E : XK) (hr : Room (j + 3) (Ar.deeper (PyProof.Rows.envOfC "Reader.applied" (defScope s_Reader_applied) s.heap.objs.size A.a_Reader_applied cdv))) :
    PSs (cxOf (L2.CX P w) P w K mg base ["self", "word", "parts"] "Reader.applied" (defScope s_Reader_applied) A.a_Reader_applied cdv Ar outer s H E) (defBody s_Reader_applied) (SndS (cxOf (L2.CX P w) P w K mg base ["self", "word", "parts"] "Reader.applied" (defScope s_Reader_applied) A.a_Reader_applied cdv Ar outer s H E) E (m_Reader_applied A F)) := by
  unfold m_Reader_applied
  exact (by exact snd_seq (by exact w_setC 1 sc_Reader_applied.nd (by exact snd_meth0 (by exact w_p 0) T.cl_Reader T.m_Reader_head (by exact O.Reader_head) (by exact hr) (by exact B.Reader_head) (by exact takes_of rfl rfl rfl rfl))) (by exact snd_seq (by exact snd_if (by exact w_pt (by exact snd_or (by exact snd_tcmp (op_eqD hr.units) pure_eq (by exact w_p 1) (by exact snd_p snd_str) (nomark _)) (snd_or1 (by exact snd_tcmp (op_notIn4 (hu_of hr)) pure_in (by exact snd_p (by exact snd_ix (hu_of hr) (by exact w_p 1) (by exact snd_p snd_int) (fun _ _ => rfl))) (by exact snd_p (by exact snd_glob (by rfl) T.c_HIGH)) (by with_unfolding_all rfl))))) (by exact snd_one (by exact snd_retC (by exact snd_meth0 (by exact w_p 0) T.cl_Reader T.m_Reader_one (by exact O.Reader_one) (by exact hr) (by exact B.Reader_one) (by exact takes_of rfl rfl rfl rfl)))) snd_snil) (by exact snd_seq (by exact snd_augF op_iadd2 pure_iadd T.cl_Reader T.n_Reader_at (by exact w_p 0) (by exact snd_p snd_int)) (by exact snd_seq (by exact w_setL 2 sc_Reader_applied.nd snd_nil) (by exact snd_seq (by exact snd_while 1000000 (by exact passes_of rfl) (by exact w_pt (by exact snd_or (by exact snd_truth (by exact snd_p (by exact snd_v (by exact snd_meth0 (by exact w_p 0) T.cl_Reader T.m_Reader_is_variable (by exact O.Reader_is_variable) (by exact hr) (by exact B.Reader_is_variable) (by exact takes_of rfl rfl rfl rfl)))) (fun _ => rfl)) (snd_or (by exact snd_tcmp (op_in4 (hu_of hr)) pure_in (by exact snd_p (by exact snd_slice (by exact snd_p (by exact snd_v (by exact snd_meth0 (by exact w_p 0) T.cl_Reader T.m_Reader_head (by exact O.Reader_head) (by exact hr) (by exact B.Reader_head) (by exact takes_of rfl rfl rfl rfl)))) snd_onone (snd_osome (by exact snd_p snd_int)))) (by exact snd_p (by exact snd_callTy (call_tupS (by rfl)) pure_tupS (by rfl) T.z_tuple (by decide +kernel) (by exact snd_cons (by exact snd_p (by exact snd_glob (by rfl) T.c_HIGH)) snd_nil))) (by with_unfolding_all rfl)) (snd_or1 (by exact snd_tcmp (op_in4 (hu_of hr)) pure_in (by exact snd_p (by exact snd_v (by exact snd_meth0 (by exact w_p 0) T.cl_Reader T.m_Reader_head (by exact O.Reader_head) (by exact hr) (by exact B.Reader_head) (by exact takes_of rfl rfl rfl rfl)))) (by exact snd_p (by exact snd_tup (by exact snd_cons (snd_p snd_str) (snd_cons (snd_p snd_str) snd_nil)))) (by with_unfolding_all rfl)))))) (by exact snd_one (by exact snd_drop (snd_p (by exact snd_append (by exact w_p 2) (by exact snd_cons (snd_p (by exact snd_v (by exact snd_meth0 (by exact w_p 0) T.cl_Reader T.m_Reader_one (by exact O.Reader_one) (by exact hr) (by exact B.Reader_one) (by exact takes_of rfl rfl rfl rfl)))) snd_nil)))))) (by exact snd_one (by exact snd_ret (by exact snd_tup (by exact snd_cons (snd_p (by exact snd_glob (by rfl) T.c_CON)) (snd_cons (snd_p (by exact w_v 1)) (snd_cons (snd_p (by exact snd_callTy call_tuple_of pure_tupOf (by rfl) T.z_tuple (by decide +kernel) (by exact snd_cons (by exact w_p 2) snd_nil))) snd_nil)))))))))))
theorem d_Reader_one (T : Txt K mg A) (B : Bds K D) (OI : OksI P w K mg base A D) (O : Oks P w K mg base A D (j + 3) F) (cdv : Value) (Ar : Around) (outer : List Env) (s : Shared) (H : Hp) (E : XK) (hr : Room (j + 3) (Ar.deeper (PyProof.Rows.envOfC "Reader.one" (defScope s_Reader_one) s.heap.objs.size A.a_Reader_one cdv))) :
    PSs (cxOf (L2.CX P w) P w K mg base ["self", "word", "found"] "Reader.one" (defScope s_Reader_one) A.a_Reader_one cdv Ar outer s H E) (defBody s_Reader_one) (SndS (cxOf (L2.CX P w) P w K mg base ["self", "word", "found"] "Reader.one" (defScope s_Reader_one) A.a_Reader_one cdv Ar outer s H E) E (m_Reader_one A F)) := by
  unfold m_Reader_one
  exact (by exact snd_seq (by exact w_setC 1 sc_Reader_one.nd (by exact snd_meth0 (by exact w_p 0) T.cl_Reader T.m_Reader_head (by exact O.Reader_head) (by exact hr) (by exact B.Reader_head) (by exact takes_of rfl rfl rfl rfl))) (by exact snd_seq (by exact snd_if (by exact snd_truth (by exact snd_p (by exact snd_v (by exact snd_meth0 (by exact w_p 0) T.cl_Reader T.m_Reader_is_variable (by exact O.Reader_is_variable) (by exact hr) (by exact B.Reader_is_variable) (by exact takes_of rfl rfl rfl rfl)))) (fun _ => rfl)) (by exact snd_seq (by exact snd_augF op_iadd2 pure_iadd T.cl_Reader T.n_Reader_at (by exact w_p 0) (by exact snd_p snd_int)) (by exact snd_one (by exact snd_ret (by exact snd_tup (by exact snd_cons (snd_p (by exact snd_glob (by rfl) T.c_VAR)) (snd_cons (snd_p (by exact w_v 1)) snd_nil)))))) snd_snil) (by exact snd_seq (by exact snd_if (by exact snd_tcmp (op_eqD hr.units) pure_eq (by exact w_p 1) (by exact snd_p snd_str) (nomark _)) (by exact snd_seq (by exact snd_augF op_iadd2 pure_iadd T.cl_Reader T.n_Reader_at (by exact w_p 0) (by exact snd_p snd_int)) (by exact snd_seq (by exact w_setC 2 sc_Reader_one.nd (by exact snd_meth0 (by exact w_p 0) T.cl_Reader T.m_Reader_whole (by exact O.Reader_whole) (by exact hr) (by exact B.Reader_whole) (by exact takes_of rfl rfl rfl rfl))) (by exact snd_seq (by exact snd_dropC (by exact snd_meth (by exact w_p 0) T.cl_Reader T.m_Reader_need (by exact O.Reader_need) (by exact hr) (by exact B.Reader_need) (by exact takes_of rfl rfl rfl rfl) (by exact snd_cons (snd_p snd_str) snd_nil))) (by exact snd_one (by exact snd_ret (by exact w_v 2)))))) snd_snil) (by exact snd_seq (by exact snd_if (by exact snd_tcmp (op_eqD hr.units) pure_eq (by exact w_p 1) (by exact snd_p snd_str) (nomark _)) (by exact snd_one (by exact snd_retC (by exact snd_meth0 (by exact w_p 0) T.cl_Reader T.m_Reader_record (by exact O.Reader_record) (by exact hr) (by exact B.Reader_record) (by exact takes_of rfl rfl rfl rfl)))) snd_snil) (by exact snd_seq (by exact snd_if (by exact w_pt (by exact snd_or (by exact snd_tcmp (op_eqD hr.units) pure_eq (by exact w_p 1) (by exact snd_p snd_str) (nomark _)) (snd_or1 (by exact snd_tcmp (op_notIn4 (hu_of hr)) pure_in (by exact snd_p (by exact snd_ix (hu_of hr) (by exact w_p 1) (by exact snd_p snd_int) (fun _ _ => rfl))) (by exact snd_p (by exact snd_glob (by rfl) T.c_HIGH)) (by with_unfolding_all rfl))))) (by exact snd_one (by exact snd_dropC (by exact snd_meth0 (by exact w_p 0) T.cl_Reader T.m_Reader_fail (by exact O.Reader_fail) (by exact hr) (by exact B.Reader_fail) (by exact takes_of rfl rfl rfl rfl)))) snd_snil) (by exact snd_seq (by exact snd_augF op_iadd2 pure_iadd T.cl_Reader T.n_Reader_at (by exact w_p 0) (by exact snd_p snd_int)) (by exact snd_one (by exact snd_ret (by exact snd_tup (by exact snd_cons (snd_p (by exact snd_glob (by rfl) T.c_CON)) (snd_cons (snd_p (by exact w_v 1)) (snd_cons (snd_p (by exact snd_tup snd_nil)) snd_nil))))))))))))
theorem d_Reader_record (T : Txt K mg A) (B : Bds K D) (OI : OksI P w K mg base A D) (O : Oks P w K mg base A D (j + 3) F) (cdv : Value) (Ar : Around) (outer : List Env) (s : Shared) (H : Hp) (E : XK) (hr : Room (j + 3) (Ar.deeper (PyProof.Rows.envOfC "Reader.record" (defScope s_Reader_record) s.heap.objs.size A.a_Reader_record cdv))) :
    PSs (cxOf (L2.CX P w) P w K mg base ["self", "fields", "name", "tail"] "Reader.record" (defScope s_Reader_record) A.a_Reader_record cdv Ar outer s H E) (defBody s_Reader_record) (SndS (cxOf (L2.CX P w) P w K mg base ["self", "fields", "name", "tail"] "Reader.record" (defScope s_Reader_record) A.a_Reader_record cdv Ar outer s H E) E (m_Reader_record A F)) := by
  unfold m_Reader_record
  exact (by exact snd_seq (by exact snd_augF op_iadd2 pure_iadd T.cl_Reader T.n_Reader_at (by exact w_p 0) (by exact snd_p snd_int)) (by exact snd_seq (by exact w_setD 1 sc_Reader_record.nd) (by exact snd_seq (by exact snd_while 1000000 (by exact passes_of rfl) (by exact snd_truth (by exact snd_p (by exact snd_v (by exact snd_meth0 (by exact w_p 0) T.cl_Reader T.m_Reader_is_variable (by exact O.Reader_is_variable) (by exact hr) (by exact B.Reader_is_variable) (by exact takes_of rfl rfl rfl rfl)))) (fun _ => rfl)) (by exact snd_seq (by exact w_setC 2 sc_Reader_record.nd (by exact snd_meth0 (by exact w_p 0) T.cl_Reader T.m_Reader_head (by exact O.Reader_head) (by exact hr) (by exact B.Reader_head) (by exact takes_of rfl rfl rfl rfl))) (by exact snd_seq (by exact snd_if (by exact snd_tcmp (op_in4 (hu_of hr)) pure_in (by exact w_p 2) (by exact w_p 1) (by with_unfolding_all rfl)) (by exact snd_one (by exact snd_dropC (by exact snd_meth0 (by exact w_p 0) T.cl_Reader T.m_Reader_fail (by exact O.Reader_fail) (by exact hr) (by exact B.Reader_fail) (by exact takes_of rfl rfl rfl rfl)))) snd_snil) (by exact snd_seq (by exact snd_augF op_iadd2 pure_iadd T.cl_Reader T.n_Reader_at (by exact w_p 0) (by exact snd_p snd_int)) (by exact snd_seq (by exact snd_dropC (by exact snd_meth (by exact w_p 0) T.cl_Reader T.m_Reader_need (by exact O.Reader_need) (by exact hr) (by exact B.Reader_need) (by exact takes_of rfl rfl rfl rfl) (by exact snd_cons (snd_p snd_str) snd_nil))) (by exact snd_seq (by exact snd_put (hu_of hr) (by exact w_p 1) (by exact w_p 2) (by exact snd_v (by exact snd_meth0 (by exact w_p 0) T.cl_Reader T.m_Reader_whole (by exact O.Reader_whole) (by exact hr) (by exact B.Reader_whole) (by exact takes_of rfl rfl rfl rfl)))) (by exact snd_seq (by exact snd_if (by exact snd_tcmp (op_neD hr.units) pure_ne (by exact snd_p (by exact snd_v (by exact snd_meth0 (by exact w_p 0) T.cl_Reader T.m_Reader_head (by exact O.Reader_head) (by exact hr) (by exact B.Reader_head) (by exact takes_of rfl rfl rfl rfl)))) (by exact snd_p snd_str) (nomark _)) (by exact snd_one snd_break) snd_snil) (by exact snd_seq (by exact snd_augF op_iadd2 pure_iadd T.cl_Reader T.n_Reader_at (by exact w_p 0) (by exact snd_p snd_int)) (by exact snd_one (by exact snd_if (by exact snd_not (by exact snd_truth (by exact snd_p (by exact snd_v (by exact snd_meth0 (by exact w_p 0) T.cl_Reader T.m_Reader_is_variable (by exact O.Reader_is_variable) (by exact hr) (by exact B.Reader_is_variable) (by exact takes_of rfl rfl rfl rfl)))) (fun _ => rfl))) (by exact snd_one (by exact snd_dropC (by exact snd_meth0 (by exact w_p 0) T.cl_Reader T.m_Reader_fail (by exact O.Reader_fail) (by exact hr) (by exact B.Reader_fail) (by exact takes_of rfl rfl rfl rfl)))) snd_snil)))))))))) (by exact snd_seq (by exact w_set 3 sc_Reader_record.nd snd_non) (by exact snd_seq (by exact snd_if (by exact snd_tcmp (op_eqD hr.units) pure_eq (by exact snd_p (by exact snd_v (by exact snd_meth0 (by exact w_p 0) T.cl_Reader T.m_Reader_head (by exact O.Reader_head) (by exact hr) (by exact B.Reader_head) (by exact takes_of rfl rfl rfl rfl)))) (by exact snd_p snd_str) (nomark _)) (by exact snd_seq (by exact snd_augF op_iadd2 pure_iadd T.cl_Reader T.n_Reader_at (by exact w_p 0) (by exact snd_p snd_int)) (by exact snd_seq (by exact w_setC 3 sc_Reader_record.nd (by exact snd_meth0 (by exact w_p 0) T.cl_Reader T.m_Reader_head (by exact O.Reader_head) (by exact hr) (by exact B.Reader_head) (by exact takes_of rfl rfl rfl rfl))) (by exact snd_seq (by exact snd_if (by exact snd_not (by exact snd_truth (by exact snd_p (by exact snd_strM PySem.F.slot_str_startswith PySem.F.type_str_startswith mt_startswith pure_sw (by exact w_p 3) (by exact snd_cons (by exact snd_p snd_str) snd_nil))) (fun _ => rfl))) (by exact snd_one (by exact snd_dropC (by exact snd_meth0 (by exact w_p 0) T.cl_Reader T.m_Reader_fail (by exact O.Reader_fail) (by exact hr) (by exact B.Reader_fail) (by exact takes_of rfl rfl rfl rfl)))) snd_snil) (by exact snd_one (by exact snd_augF op_iadd2 pure_iadd T.cl_Reader T.n_Reader_at (by exact w_p 0) (by exact snd_p snd_int)))))) snd_snil) (by exact snd_seq (by exact snd_dropC (by exact snd_meth (by exact w_p 0) T.cl_Reader T.m_Reader_need (by exact O.Reader_need) (by exact hr) (by exact B.Reader_need) (by exact takes_of rfl rfl rfl rfl) (by exact snd_cons (snd_p snd_str) snd_nil))) (by exact snd_one (by exact snd_ret (by exact snd_tup (by exact snd_cons (snd_p (by exact snd_glob (by rfl) T.c_REC)) (snd_cons (snd_p (by exact snd_callTy call_tuple_of pure_tupOf (by rfl) T.z_tuple (by decide +kernel) (by exact snd_cons (by exact snd_p (by exact snd_sortItems (by rfl) (by rfl) T.z_sorted (by decide +kernel) (by exact w_p 1))) snd_nil))) (snd_cons (snd_p (by exact w_v 3)) snd_nil))))))))))))
theorem d_parse_type (T : Txt K mg A) (B : Bds K D) (OI : OksI P w K mg base A D) (O : Oks P w K mg base A D (j + 3) F) (cdv : Value) (Ar : Around) (outer : List Env) (s : Shared) (H : Hp) (E : XK) (hr : Room (j + 3) (Ar.deeper (PyProof.Rows.envOfC "parse_type" (defScope s_parse_type) s.heap.objs.size A.a_parse_type cdv))) :
    PSs (cxOf (L2.CX P w) P w K mg base ["text", "reader", "found"] "parse_type" (defScope s_parse_type) A.a_parse_type cdv Ar outer s H E) (defBody s_parse_type) (SndS (cxOf (L2.CX P w) P w K mg base ["text", "reader", "found"] "parse_type" (defScope s_parse_type) A.a_parse_type cdv Ar outer s H E) E (m_parse_type A F)) := by
  unfold m_parse_type
  exact (by exact snd_seq (by exact w_setC 1 sc_parse_type.nd (by exact snd_make T.mk_Reader (by exact OI.Reader_init) (by exact hr.mono (by omega)) (by rfl) T.gc_Reader (by exact B.Reader_init) (by exact takes_of rfl rfl rfl rfl) (by exact snd_cons (snd_p (by exact snd_v (by exact snd_call (by exact O.words_in) (by exact hr) (by rfl) T.g_words_in T.k_words_in (by exact B.words_in) (by exact takes_of rfl rfl rfl rfl) (by exact snd_cons (snd_p (by exact w_v 0)) snd_nil)))) snd_nil))) (by exact snd_seq (by exact w_setC 2 sc_parse_type.nd (by exact snd_meth0 (by exact w_p 1) T.cl_Reader T.m_Reader_whole (by exact O.Reader_whole) (by exact hr) (by exact B.Reader_whole) (by exact takes_of rfl rfl rfl rfl))) (by exact snd_seq (by exact snd_if (by exact snd_truth (by exact snd_p (by exact snd_v (by exact snd_meth0 (by exact w_p 1) T.cl_Reader T.m_Reader_head (by exact O.Reader_head) (by exact hr) (by exact B.Reader_head) (by exact takes_of rfl rfl rfl rfl)))) (fun _ => rfl)) (by exact snd_one (by exact snd_dropC (by exact snd_meth0 (by exact w_p 1) T.cl_Reader T.m_Reader_fail (by exact O.Reader_fail) (by exact hr) (by exact B.Reader_fail) (by exact takes_of rfl rfl rfl rfl)))) snd_snil) (by exact snd_one (by exact snd_ret (by exact w_v 2))))))
theorem d__law_begin (T : Txt K mg A) (B : Bds K D) (OI : OksI P w K mg base A D) (O : Oks P w K mg base A D (j + 3) F) (cdv : Value) (Ar : Around) (outer : List Env) (s : Shared) (H : Hp) (E : XK) (hr : Room (j + 3) (Ar.deeper (PyProof.Rows.envOfC "_law_begin" (defScope s__law_begin) s.heap.objs.size A.a__law_begin cdv))) :
    PSs (cxOf (L2.CX P w) P w K mg base ["script", "seed", "cell"] "_law_begin" (defScope s__law_begin) A.a__law_begin cdv Ar outer s H E) (defBody s__law_begin) (SndS (cxOf (L2.CX P w) P w K mg base ["script", "seed", "cell"] "_law_begin" (defScope s__law_begin) A.a__law_begin cdv Ar outer s H E) E (m__law_begin A F)) := by
  unfold m__law_begin
  exact (by exact snd_seq (by exact w_set 1 sc__law_begin.nd snd_int) (by exact snd_seq (by exact snd_forL (by exact passes_of rfl) (by rfl) (by exact w_v 0) (by exact w_g 2 sc__law_begin.nd) (by exact snd_one (by exact w_set 1 sc__law_begin.nd (by exact snd_bin op_mod pure_mod (by exact snd_p (by exact snd_bin op_add4 pure_add (by exact snd_p (by exact snd_bin op_add4 pure_add (by exact snd_p (by exact snd_bin op_mul pure_mul (by exact w_p 1) (by exact snd_p snd_int))) (by exact snd_p (by exact snd_bin op_mod pure_mod (by exact snd_p (by exact snd_callTy call_int1 pure_int1 (by rfl) T.z_int (by decide +kernel) (by exact snd_cons (by exact w_p 2) snd_nil))) (by exact snd_p snd_int))))) (by exact snd_p snd_int))) (by exact snd_p snd_int))))) (by exact snd_one (by exact snd_retL (by exact snd_cons (snd_p (by exact snd_callTy call_list_of pure_listOf (by rfl) T.z_list (by decide +kernel) (by exact snd_cons (by exact w_p 0) snd_nil))) (snd_cons (snd_p snd_int) (snd_cons (snd_p snd_int) (snd_cons (snd_p (by exact w_v 1)) snd_nil))))))))
theorem d__law_take (T : Txt K mg A) (B : Bds K D) (OI : OksI P w K mg base A D) (O : Oks P w K mg base A D (j + 3) F) (cdv : Value) (Ar : Around) (outer : List Env) (s : Shared) (H : Hp) (E : XK) (hr : Room (j + 3) (Ar.deeper (PyProof.Rows.envOfC "_law_take" (defScope s__law_take) s.heap.objs.size A.a__law_take cdv))) :
    PSs (cxOf (L2.CX P w) P w K mg base ["d", "many", "small", "digit"] "_law_take" (defScope s__law_take) A.a__law_take cdv Ar outer s H E) (defBody s__law_take) (SndS (cxOf (L2.CX P w) P w K mg base ["d", "many", "small", "digit"] "_law_take" (defScope s__law_take) A.a__law_take cdv Ar outer s H E) E (m__law_take A F)) := by
  unfold m__law_take
  exact (by exact snd_seq (by exact snd_if (by exact w_pt (by exact snd_and (by exact snd_tcmp (op_eqD hr.units) pure_eq (by exact snd_p (by exact snd_ix (hu_of hr) (by exact w_p 0) (by exact snd_p snd_int) (fun _ _ => rfl))) (by exact snd_p snd_int) (nomark _)) (snd_and1 (by exact snd_tcmp op_lt pure_cmp (by exact snd_p (by exact snd_ix (hu_of hr) (by exact w_p 0) (by exact snd_p snd_int) (fun _ _ => rfl))) (by exact snd_p (by exact snd_callB call_len pure_len (by rfl) T.z_len PySem.boot_len (by exact snd_cons (by exact snd_p (by exact snd_ix (hu_of hr) (by exact w_p 0) (by exact snd_p snd_int) (fun _ _ => rfl))) snd_nil))) (nomark _))))) (by exact snd_seq (by exact snd_put (hu_of hr) (by exact w_p 0) (by exact snd_p snd_int) (by exact snd_callB call_abs pure_abs (by rfl) T.z_abs (by decide +kernel) (by exact snd_cons (by exact snd_p (by exact snd_callTy call_int1 pure_int1 (by rfl) T.z_int (by decide +kernel) (by exact snd_cons (by exact snd_p (by exact snd_ix (hu_of hr) (by exact snd_p (by exact snd_ix (hu_of hr) (by exact w_p 0) (by exact snd_p snd_int) (fun _ _ => rfl))) (by exact snd_p (by exact snd_ix (hu_of hr) (by exact w_p 0) (by exact snd_p snd_int) (fun _ _ => rfl))) (fun _ _ => rfl))) snd_nil))) snd_nil))) (by exact snd_seq (by exact snd_put (hu_of hr) (by exact w_p 0) (by exact snd_p snd_int) (by exact snd_bin op_add4 pure_add (by exact snd_p (by exact snd_ix (hu_of hr) (by exact w_p 0) (by exact snd_p snd_int) (fun _ _ => rfl))) (by exact snd_p snd_int))) (by exact snd_one (by exact snd_if (by exact snd_tcmp op_lt pure_cmp (by exact snd_p (by exact snd_ix (hu_of hr) (by exact w_p 0) (by exact snd_p snd_int) (fun _ _ => rfl))) (by exact snd_p (by exact snd_bin op_pow pure_pow (by exact snd_p snd_int) (by exact snd_p snd_int))) (nomark _)) (by exact snd_seq (by exact w_set 2 sc__law_take.nd (by exact snd_callTy call_int1 pure_int1 (by rfl) T.z_int (by decide +kernel) (by exact snd_cons (by exact snd_p (by exact snd_ix (hu_of hr) (by exact w_p 0) (by exact snd_p snd_int) (fun _ _ => rfl))) snd_nil))) (by exact snd_seq (by exact snd_put (hu_of hr) (by exact w_p 0) (by exact snd_p snd_int) snd_int) (by exact snd_one (by exact snd_ret (by exact snd_bin op_mod pure_mod (by exact w_p 2) (by exact w_p 1)))))) snd_snil)))) snd_snil) (by exact snd_seq (by exact snd_if (by exact snd_tcmp op_gt pure_cmp (by exact snd_p (by exact snd_ix (hu_of hr) (by exact w_p 0) (by exact snd_p snd_int) (fun _ _ => rfl))) (by exact snd_p snd_int) (nomark _)) (by exact snd_seq (by exact w_set 3 sc__law_take.nd (by exact snd_bin op_mod pure_mod (by exact snd_p (by exact snd_callTy call_int1 pure_int1 (by rfl) T.z_int (by decide +kernel) (by exact snd_cons (by exact snd_p (by exact snd_ix (hu_of hr) (by exact w_p 0) (by exact snd_p snd_int) (fun _ _ => rfl))) snd_nil))) (by exact w_p 1))) (by exact snd_seq (by exact snd_put (hu_of hr) (by exact w_p 0) (by exact snd_p snd_int) (by exact snd_bin op_fdiv pure_div (by exact snd_p (by exact snd_callTy call_int1 pure_int1 (by rfl) T.z_int (by decide +kernel) (by exact snd_cons (by exact snd_p (by exact snd_ix (hu_of hr) (by exact w_p 0) (by exact snd_p snd_int) (fun _ _ => rfl))) snd_nil))) (by exact w_p 1))) (by exact snd_one (by exact snd_ret (by exact w_v 3))))) snd_snil) (by exact snd_seq (by exact snd_put (hu_of hr) (by exact w_p 0) (by exact snd_p snd_int) (by exact snd_bin op_mod pure_mod (by exact snd_p (by exact snd_callTy call_int1 pure_int1 (by rfl) T.z_int (by decide +kernel) (by exact snd_cons (by exact snd_p (by exact snd_bin op_add4 pure_add (by exact snd_p (by exact snd_bin op_mul pure_mul (by exact snd_p (by exact snd_ix (hu_of hr) (by exact w_p 0) (by exact snd_p snd_int) (fun _ _ => rfl))) (by exact snd_p snd_int))) (by exact snd_p snd_int))) snd_nil))) (by exact snd_p snd_int))) (by exact snd_one (by exact snd_ret (by exact snd_bin op_mod pure_mod (by exact snd_p (by exact snd_callTy call_int1 pure_int1 (by rfl) T.z_int (by decide +kernel) (by exact snd_cons (by exact snd_p (by exact snd_bin op_fdiv pure_div (by exact snd_p (by exact snd_ix (hu_of hr) (by exact w_p 0) (by exact snd_p snd_int) (fun _ _ => rfl))) (by exact snd_p snd_int))) snd_nil))) (by exact w_p 1)))))))
theorem d__law_pick (T : Txt K mg A) (B : Bds K D) (OI : OksI P w K mg base A D) (O : Oks P w K mg base A D (j + 3) F) (cdv : Value) (Ar : Around) (outer : List Env) (s : Shared) (H : Hp) (E : XK) (hr : Room (j + 3) (Ar.deeper (PyProof.Rows.envOfC "_law_pick" (defScope s__law_pick) s.heap.objs.size A.a__law_pick cdv))) :
    PSs (cxOf (L2.CX P w) P w K mg base ["d", "menu"] "_law_pick" (defScope s__law_pick) A.a__law_pick cdv Ar outer s H E) (defBody s__law_pick) (SndS (cxOf (L2.CX P w) P w K mg base ["d", "menu"] "_law_pick" (defScope s__law_pick) A.a__law_pick cdv Ar outer s H E) E (m__law_pick A F)) := by
  unfold m__law_pick
  exact (by exact snd_one (by exact snd_ret (by exact snd_ix (hu_of hr) (by exact w_p 1) (by exact snd_p (by exact snd_v (by exact snd_call (by exact O._law_take) (by exact hr) (by rfl) T.g__law_take T.k__law_take (by exact B._law_take) (by exact takes_of rfl rfl rfl rfl) (by exact snd_cons (by exact w_p 0) (snd_cons (snd_p (by exact snd_callB call_len pure_len (by rfl) T.z_len PySem.boot_len (by exact snd_cons (by exact w_p 1) snd_nil))) snd_nil))))) (fun _ _ => rfl))))
theorem d__law_fun (T : Txt K mg A) (B : Bds K D) (OI : OksI P w K mg base A D) (O : Oks P w K mg base A D (j + 3) F) (cdv : Value) (Ar : Around) (outer : List Env) (s : Shared) (H : Hp) (E : XK) (hr : Room (j + 3) (Ar.deeper (PyProof.Rows.envOfC "_law_fun" (defScope s__law_fun) s.heap.objs.size A.a__law_fun cdv))) :
    PSs (cxOf (L2.CX P w) P w K mg base ["one", "other"] "_law_fun" (defScope s__law_fun) A.a__law_fun cdv Ar outer s H E) (defBody s__law_fun) (SndS (cxOf (L2.CX P w) P w K mg base ["one", "other"] "_law_fun" (defScope s__law_fun) A.a__law_fun cdv Ar outer s H E) E (m__law_fun A F)) := by
  unfold m__law_fun
  exact (by exact snd_one (by exact snd_ret (by exact snd_tup (by exact snd_cons (snd_p snd_str) (snd_cons (snd_p snd_str) (snd_cons (snd_p (by exact snd_tup (by exact snd_cons (snd_p (by exact w_v 0)) (snd_cons (snd_p (by exact w_v 1)) snd_nil)))) snd_nil))))))
theorem d__law_int (T : Txt K mg A) (B : Bds K D) (OI : OksI P w K mg base A D) (O : Oks P w K mg base A D (j + 3) F) (cdv : Value) (Ar : Around) (outer : List Env) (s : Shared) (H : Hp) (E : XK) (hr : Room (j + 3) (Ar.deeper (PyProof.Rows.envOfC "_law_int" (defScope s__law_int) s.heap.objs.size A.a__law_int cdv))) :
    PSs (cxOf (L2.CX P w) P w K mg base [] "_law_int" (defScope s__law_int) A.a__law_int cdv Ar outer s H E) (defBody s__law_int) (SndS (cxOf (L2.CX P w) P w K mg base [] "_law_int" (defScope s__law_int) A.a__law_int cdv Ar outer s H E) E (m__law_int A F)) := by
  unfold m__law_int
  exact (by exact snd_one (by exact snd_ret (by exact snd_tup (by exact snd_cons (snd_p snd_str) (snd_cons (snd_p snd_str) (snd_cons (snd_p (by exact snd_tup snd_nil)) snd_nil))))))
theorem d__law_list (T : Txt K mg A) (B : Bds K D) (OI : OksI P w K mg base A D) (O : Oks P w K mg base A D (j + 3) F) (cdv : Value) (Ar : Around) (outer : List Env) (s : Shared) (H : Hp) (E : XK) (hr : Room (j + 3) (Ar.deeper (PyProof.Rows.envOfC "_law_list" (defScope s__law_list) s.heap.objs.size A.a__law_list cdv))) :
    PSs (cxOf (L2.CX P w) P w K mg base ["t"] "_law_list" (defScope s__law_list) A.a__law_list cdv Ar outer s H E) (defBody s__law_list) (SndS (cxOf (L2.CX P w) P w K mg base ["t"] "_law_list" (defScope s__law_list) A.a__law_list cdv Ar outer s H E) E (m__law_list A F)) := by
  unfold m__law_list
  exact (by exact snd_one (by exact snd_ret (by exact snd_tup (by exact snd_cons (snd_p snd_str) (snd_cons (snd_p snd_str) (snd_cons (snd_p (by exact snd_tup (by exact snd_cons (snd_p (by exact w_v 0)) snd_nil))) snd_nil))))))
theorem d__law_type (T : Txt K mg A) (B : Bds K D) (OI : OksI P w K mg base A D) (O : Oks P w K mg base A D (j + 3) F) (cdv : Value) (Ar : Around) (outer : List Env) (s : Shared) (H : Hp) (E : XK) (hr : Room (j + 3) (Ar.deeper (PyProof.Rows.envOfC "_law_type" (defScope s__law_type) s.heap.objs.size A.a__law_type cdv))) :
    PSs (cxOf (L2.CX P w) P w K mg base ["d", "size", "names", "rows", "menu", "fields", "name"] "_law_type" (defScope s__law_type) A.a__law_type cdv Ar outer s H E) (defBody s__law_type) (SndS (cxOf (L2.CX P w) P w K mg base ["d", "size", "names", "rows", "menu", "fields", "name"] "_law_type" (defScope s__law_type) A.a__law_type cdv Ar outer s H E) E (m__law_type A F)) := by
  unfold m__law_type
  exact (by exact snd_seq (by exact w_setC 4 sc__law_type.nd (by exact snd_call (by exact O._law_take) (by exact hr) (by rfl) T.g__law_take T.k__law_take (by exact B._law_take) (by exact takes_of rfl rfl rfl rfl) (by exact snd_cons (by exact w_p 0) (snd_cons (snd_p snd_int) snd_nil)))) (by exact snd_seq (by exact snd_if (by exact w_pt (by exact snd_or (by exact snd_tcmp op_le pure_cmp (by exact w_p 1) (by exact snd_p snd_int) (nomark _)) (snd_or1 (by exact snd_tcmp op_lt pure_cmp (by exact w_p 4) (by exact snd_p snd_int) (nomark _))))) (by exact snd_one (by exact snd_ret (by exact snd_ifE (by exact w_pt (by exact snd_and (by exact snd_tcmp op_gt pure_cmp (by exact snd_p (by exact snd_callB call_len pure_len (by rfl) T.z_len PySem.boot_len (by exact snd_cons (by exact w_p 2) snd_nil))) (by exact snd_p snd_int) (nomark _)) (snd_and1 (by exact snd_tcmp op_gt pure_cmp (by exact snd_p (by exact snd_v (by exact snd_call (by exact O._law_take) (by exact hr) (by rfl) T.g__law_take T.k__law_take (by exact B._law_take) (by exact takes_of rfl rfl rfl rfl) (by exact snd_cons (by exact w_p 0) (snd_cons (snd_p snd_int) snd_nil))))) (by exact snd_p snd_int) (nomark _))))) (by exact snd_tup (by exact snd_cons (snd_p snd_str) (snd_cons (snd_p (by exact snd_v (by exact snd_call (by exact O._law_pick) (by exact hr) (by rfl) T.g__law_pick T.k__law_pick (by exact B._law_pick) (by exact takes_of rfl rfl rfl rfl) (by exact snd_cons (by exact w_p 0) (snd_cons (snd_p (by exact w_v 2)) snd_nil))))) snd_nil))) (by exact snd_v (by exact snd_call (by exact O._law_pick) (by exact hr) (by rfl) T.g__law_pick T.k__law_pick (by exact B._law_pick) (by exact takes_of rfl rfl rfl rfl) (by exact snd_cons (by exact w_p 0) (snd_cons (snd_p (by exact snd_lst (by exact snd_cons (snd_p (by exact snd_tup (by exact snd_cons (snd_p snd_str) (snd_cons (snd_p snd_str) (snd_cons (snd_p (by exact snd_tup snd_nil)) snd_nil))))) (snd_cons (snd_p (by exact snd_tup (by exact snd_cons (snd_p snd_str) (snd_cons (snd_p snd_str) (snd_cons (snd_p (by exact snd_tup snd_nil)) snd_nil))))) snd_nil)))) snd_nil))))))) snd_snil) (by exact snd_seq (by exact snd_if (by exact snd_tcmp op_lt pure_cmp (by exact w_p 4) (by exact snd_p snd_int) (nomark _)) (by exact snd_one (by exact snd_retC (by exact snd_call (by exact O._law_fun) (by exact hr) (by rfl) T.g__law_fun T.k__law_fun (by exact B._law_fun) (by exact takes_of rfl rfl rfl rfl) (by exact snd_cons (snd_p (by exact snd_v (by exact snd_call (by exact O._law_type) (by exact hr) (by rfl) T.g__law_type T.k__law_type (by exact B._law_type) (by exact takes_of rfl rfl rfl rfl) (by exact snd_cons (by exact w_p 0) (snd_cons (snd_p (by exact snd_bin op_sub pure_sub (by exact w_p 1) (by exact snd_p snd_int))) (snd_cons (snd_p (by exact w_v 2)) (snd_cons (snd_p (by exact w_v 3)) snd_nil))))))) (snd_cons (snd_p (by exact snd_v (by exact snd_call (by exact O._law_type) (by exact hr) (by rfl) T.g__law_type T.k__law_type (by exact B._law_type) (by exact takes_of rfl rfl rfl rfl) (by exact snd_cons (by exact w_p 0) (snd_cons (snd_p (by exact snd_bin op_sub pure_sub (by exact w_p 1) (by exact snd_p snd_int))) (snd_cons (snd_p (by exact w_v 2)) (snd_cons (snd_p (by exact w_v 3)) snd_nil))))))) snd_nil))))) snd_snil) (by exact snd_seq (by exact snd_if (by exact snd_tcmp (op_eqD hr.units) pure_eq (by exact w_p 4) (by exact snd_p snd_int) (nomark _)) (by exact snd_one (by exact snd_ret (by exact snd_tup (by exact snd_cons (snd_p snd_str) (snd_cons (snd_p (by exact snd_v (by exact snd_call (by exact O._law_pick) (by exact hr) (by rfl) T.g__law_pick T.k__law_pick (by exact B._law_pick) (by exact takes_of rfl rfl rfl rfl) (by exact snd_cons (by exact w_p 0) (snd_cons (snd_p (by exact snd_lst (by exact snd_cons (snd_p snd_str) (snd_cons (snd_p snd_str) snd_nil)))) snd_nil))))) (snd_cons (snd_p (by exact snd_tup (by exact snd_cons (snd_p (by exact snd_v (by exact snd_call (by exact O._law_type) (by exact hr) (by rfl) T.g__law_type T.k__law_type (by exact B._law_type) (by exact takes_of rfl rfl rfl rfl) (by exact snd_cons (by exact w_p 0) (snd_cons (snd_p (by exact snd_bin op_sub pure_sub (by exact w_p 1) (by exact snd_p snd_int))) (snd_cons (snd_p (by exact w_v 2)) (snd_cons (snd_p (by exact w_v 3)) snd_nil))))))) snd_nil))) snd_nil)))))) snd_snil) (by exact snd_seq (by exact w_setL 5 sc__law_type.nd snd_nil) (by exact snd_seq (by exact snd_forT (by exact passes_of rfl) (by rfl) (by exact snd_tup (by exact snd_cons (snd_p snd_str) (snd_cons (snd_p snd_str) (snd_cons (snd_p snd_str) snd_nil)))) (by exact w_g 6 sc__law_type.nd) (by exact snd_one (by exact snd_if (by exact snd_tcmp (op_eqD hr.units) pure_eq (by exact snd_p (by exact snd_v (by exact snd_call (by exact O._law_take) (by exact hr) (by rfl) T.g__law_take T.k__law_take (by exact B._law_take) (by exact takes_of rfl rfl rfl rfl) (by exact snd_cons (by exact w_p 0) (snd_cons (snd_p snd_int) snd_nil))))) (by exact snd_p snd_int) (nomark _)) (by exact snd_one (by exact snd_drop (snd_p (by exact snd_append (by exact w_p 5) (by exact snd_cons (snd_p (by exact snd_tup (by exact snd_cons (snd_p (by exact w_v 6)) (snd_cons (snd_p (by exact snd_v (by exact snd_call (by exact O._law_type) (by exact hr) (by rfl) T.g__law_type T.k__law_type (by exact B._law_type) (by exact takes_of rfl rfl rfl rfl) (by exact snd_cons (by exact w_p 0) (snd_cons (snd_p (by exact snd_bin op_sub pure_sub (by exact w_p 1) (by exact snd_p snd_int))) (snd_cons (snd_p (by exact w_v 2)) (snd_cons (snd_p (by exact w_v 3)) snd_nil))))))) snd_nil)))) snd_nil))))) snd_snil))) (by exact snd_one (by exact snd_ret (by exact snd_tup (by exact snd_cons (snd_p snd_str) (snd_cons (snd_p (by exact snd_callTy call_tuple_of pure_tupOf (by rfl) T.z_tuple (by decide +kernel) (by exact snd_cons (by exact w_p 5) snd_nil))) (snd_cons (snd_p (by exact snd_v (by exact snd_call (by exact O._law_pick) (by exact hr) (by rfl) T.g__law_pick T.k__law_pick (by exact B._law_pick) (by exact takes_of rfl rfl rfl rfl) (by exact snd_cons (by exact w_p 0) (snd_cons (snd_p (by exact snd_bin op_add4 pure_add (by exact snd_p (by exact snd_lst (by exact snd_cons (snd_p snd_non) snd_nil))) (by exact snd_p (by exact snd_callTy call_list_of pure_listOf (by rfl) T.z_list (by decide +kernel) (by exact snd_cons (by exact w_p 3) snd_nil))))) snd_nil))))) snd_nil))))))))))))
theorem d__law_told (T : Txt K mg A) (B : Bds K D) (OI : OksI P w K mg base A D) (O : Oks P w K mg base A D (j + 3) F) (cdv : Value) (Ar : Around) (outer : List Env) (s : Shared) (H : Hp) (E : XK) (hr : Room (j + 3) (Ar.deeper (PyProof.Rows.envOfC "_law_told" (defScope s__law_told) s.heap.objs.size A.a__law_told cdv))) :
    PSs (cxOf (L2.CX P w) P w K mg base ["text", "e"] "_law_told" (defScope s__law_told) A.a__law_told cdv Ar outer s H E) (defBody s__law_told) (SndS (cxOf (L2.CX P w) P w K mg base ["text", "e"] "_law_told" (defScope s__law_told) A.a__law_told cdv Ar outer s H E) E (m__law_told A F)) := by
  unfold m__law_told
  exact (by exact snd_one (by exact snd_try2 rfl rfl sc__law_told.nd rfl rfl rfl (by rfl) T.gc_TextError T.te_TextError T.xf_TextError T.ne_TextError_code T.ne_TextError_at (by rfl) (by rfl) (fun W pn xe tk => (by exact snd_call (by exact O.parse_type) (by exact hr) (by rfl) T.g_parse_type T.k_parse_type (by exact B.parse_type) tk (by exact snd_cons (snd_p (by exact w_v 0)) snd_nil)))))
theorem d__law_text (T : Txt K mg A) (B : Bds K D) (OI : OksI P w K mg base A D) (O : Oks P w K mg base A D (j + 3) F) (cdv : Value) (Ar : Around) (outer : List Env) (s : Shared) (H : Hp) (E : XK) (hr : Room (j + 3) (Ar.deeper (PyProof.Rows.envOfC "_law_text" (defScope s__law_text) s.heap.objs.size A.a__law_text cdv))) :
    PSs (cxOf (L2.CX P w) P w K mg base ["t", "fields", "one", "text", "own", "part", "name"] "_law_text" (defScope s__law_text) A.a__law_text cdv Ar outer s H E) (defBody s__law_text) (SndS (cxOf (L2.CX P w) P w K mg base ["t", "fields", "one", "text", "own", "part", "name"] "_law_text" (defScope s__law_text) A.a__law_text cdv Ar outer s H E) E (m__law_text A F)) := by
  unfold m__law_text
  exact (by exact snd_seq (by exact snd_if (by exact snd_tcmp (op_eqD hr.units) pure_eq (by exact snd_p (by exact snd_ix (hu_of hr) (by exact w_p 0) (by exact snd_p snd_int) (fun _ _ => rfl))) (by exact snd_p snd_str) (nomark _)) (by exact snd_one (by exact snd_ret (by exact snd_ix (hu_of hr) (by exact w_p 0) (by exact snd_p snd_int) (fun _ _ => rfl)))) snd_snil) (by exact snd_seq (by exact snd_if (by exact snd_tcmp (op_eqD hr.units) pure_eq (by exact snd_p (by exact snd_ix (hu_of hr) (by exact w_p 0) (by exact snd_p snd_int) (fun _ _ => rfl))) (by exact snd_p snd_str) (nomark _)) (by exact snd_one (by exact snd_ret (by exact snd_bin op_add4 pure_add (by exact snd_p (by exact snd_bin op_add4 pure_add (by exact snd_p (by exact snd_bin op_add4 pure_add (by exact snd_p snd_str) (by exact snd_p (by exact snd_ix (hu_of hr) (by exact w_p 0) (by exact snd_p snd_int) (fun _ _ => rfl))))) (by exact snd_p snd_str))) (by exact snd_p (by exact snd_v (by exact snd_call (by exact O._law_text) (by exact hr) (by rfl) T.g__law_text T.k__law_text (by exact B._law_text) (by exact takes_of rfl rfl rfl rfl) (by exact snd_cons (snd_p (by exact snd_ix (hu_of hr) (by exact w_p 0) (by exact snd_p snd_int) (fun _ _ => rfl))) snd_nil))))))) snd_snil) (by exact snd_seq (by exact snd_if (by exact snd_tcmp (op_eqD hr.units) pure_eq (by exact snd_p (by exact snd_ix (hu_of hr) (by exact w_p 0) (by exact snd_p snd_int) (fun _ _ => rfl))) (by exact snd_p snd_str) (nomark _)) (by exact snd_seq (by exact w_set 1 sc__law_text.nd (by exact snd_strM PySem.F.slot_str_join PySem.F.type_str_join mt_join pure_join (by exact snd_p snd_str) (by exact snd_cons (by exact snd_p (by exact snd_v (by exact snd_lcT (T := ([6] ++ ([4] ++ []))) (own := [("name", 6), ("own", 4)]) (by rfl) sc__law_text.nd (by exact snd_ix (hu_of hr) (by exact w_p 0) (by exact snd_p snd_int) (fun _ _ => rfl)) (blkOk_by (by show blkC ["t", "fields", "one", "text", "own", "part", "name"] (defScope s__law_text) _ _ = true; decide +kernel)) (by decide) (fun _ _ _ _ _ => (by exact snd_gtup (by rfl) (snd_gscons (by exact w_g 6 sc__law_text.nd) (snd_gscons (by exact w_g 4 sc__law_text.nd) snd_gsnil)))) (fun _ _ _ _ _ => w_yes) (fun _ _ _ _ _ => (by exact snd_bin op_add4 pure_add (by exact snd_p (by exact snd_bin op_add4 pure_add (by exact w_p 6) (by exact snd_p snd_str))) (by exact snd_p (by exact snd_v (by exact snd_call (by exact O._law_text) (by exact hr) (by rfl) T.g__law_text T.k__law_text (by exact B._law_text) takes0 (by exact snd_cons (snd_p (by exact w_v 4)) snd_nil))))))))) snd_nil))) (by exact snd_seq (by exact snd_if (by exact snd_tcmp op_is2 pure_is (by exact snd_p (by exact snd_ix (hu_of hr) (by exact w_p 0) (by exact snd_p snd_int) (fun _ _ => rfl))) (by exact snd_p snd_non) (nomark _)) (by exact snd_one (by exact snd_ret (by exact snd_bin op_add4 pure_add (by exact snd_p (by exact snd_bin op_add4 pure_add (by exact snd_p snd_str) (by exact w_p 1))) (by exact snd_p snd_str)))) snd_snil) (by exact snd_one (by exact snd_ret (by exact snd_bin op_add4 pure_add (by exact snd_p (by exact snd_bin op_add4 pure_add (by exact snd_p (by exact snd_bin op_add4 pure_add (by exact snd_p (by exact snd_bin op_add4 pure_add (by exact snd_p snd_str) (by exact w_p 1))) (by exact snd_p snd_str))) (by exact snd_p (by exact snd_ix (hu_of hr) (by exact w_p 0) (by exact snd_p snd_int) (fun _ _ => rfl))))) (by exact snd_p snd_str)))))) snd_snil) (by exact snd_seq (by exact snd_if (by exact snd_tcmp (op_eqD hr.units) pure_eq (by exact snd_p (by exact snd_ix (hu_of hr) (by exact w_p 0) (by exact snd_p snd_int) (fun _ _ => rfl))) (by exact snd_p snd_str) (nomark _)) (by exact snd_seq (by exact w_setC 2 sc__law_text.nd (by exact snd_call (by exact O._law_text) (by exact hr) (by rfl) T.g__law_text T.k__law_text (by exact B._law_text) (by exact takes_of rfl rfl rfl rfl) (by exact snd_cons (snd_p (by exact snd_ix (hu_of hr) (by exact snd_p (by exact snd_ix (hu_of hr) (by exact w_p 0) (by exact snd_p snd_int) (fun _ _ => rfl))) (by exact snd_p snd_int) (fun _ _ => rfl))) snd_nil))) (by exact snd_seq (by exact snd_if (by exact w_pt (by exact snd_or (by exact snd_tcmp (op_eqD hr.units) pure_eq (by exact snd_p (by exact snd_ix (hu_of hr) (by exact snd_p (by exact snd_ix (hu_of hr) (by exact snd_p (by exact snd_ix (hu_of hr) (by exact w_p 0) (by exact snd_p snd_int) (fun _ _ => rfl))) (by exact snd_p snd_int) (fun _ _ => rfl))) (by exact snd_p snd_int) (fun _ _ => rfl))) (by exact snd_p snd_str) (nomark _)) (snd_or1 (by exact snd_tcmp (op_eqD hr.units) pure_eq (by exact snd_p (by exact snd_slice (by exact snd_p (by exact snd_ix (hu_of hr) (by exact snd_p (by exact snd_ix (hu_of hr) (by exact w_p 0) (by exact snd_p snd_int) (fun _ _ => rfl))) (by exact snd_p snd_int) (fun _ _ => rfl))) snd_onone (snd_osome (by exact snd_p snd_int)))) (by exact snd_p (by exact snd_tup (by exact snd_cons (snd_p snd_str) (snd_cons (snd_p snd_str) snd_nil)))) (nomark _))))) (by exact snd_one (by exact w_set 2 sc__law_text.nd (by exact snd_bin op_add4 pure_add (by exact snd_p (by exact snd_bin op_add4 pure_add (by exact snd_p snd_str) (by exact w_p 2))) (by exact snd_p snd_str)))) snd_snil) (by exact snd_one (by exact snd_ret (by exact snd_bin op_add4 pure_add (by exact snd_p (by exact snd_bin op_add4 pure_add (by exact w_p 2) (by exact snd_p snd_str))) (by exact snd_p (by exact snd_v (by exact snd_call (by exact O._law_text) (by exact hr) (by rfl) T.g__law_text T.k__law_text (by exact B._law_text) (by exact takes_of rfl rfl rfl rfl) (by exact snd_cons (snd_p (by exact snd_ix (hu_of hr) (by exact snd_p (by exact snd_ix (hu_of hr) (by exact w_p 0) (by exact snd_p snd_int) (fun _ _ => rfl))) (by exact snd_p snd_int) (fun _ _ => rfl))) snd_nil))))))))) snd_snil) (by exact snd_seq (by exact w_set 3 sc__law_text.nd (by exact snd_ix (hu_of hr) (by exact w_p 0) (by exact snd_p snd_int) (fun _ _ => rfl))) (by exact snd_seq (by exact snd_forT (by exact passes_of rfl) (by rfl) (by exact snd_ix (hu_of hr) (by exact w_p 0) (by exact snd_p snd_int) (fun _ _ => rfl)) (by exact w_g 4 sc__law_text.nd) (by exact snd_seq (by exact w_setC 5 sc__law_text.nd (by exact snd_call (by exact O._law_text) (by exact hr) (by rfl) T.g__law_text T.k__law_text (by exact B._law_text) (by exact takes_of rfl rfl rfl rfl) (by exact snd_cons (snd_p (by exact w_v 4)) snd_nil))) (by exact snd_one (by exact w_set 3 sc__law_text.nd (by exact snd_bin op_add4 pure_add (by exact snd_p (by exact snd_bin op_add4 pure_add (by exact w_p 3) (by exact snd_p snd_str))) (by exact snd_p (by exact snd_ifE (by exact w_pt (by exact snd_or (by exact snd_tcmp (op_eqD hr.units) pure_eq (by exact snd_p (by exact snd_ix (hu_of hr) (by exact w_p 4) (by exact snd_p snd_int) (fun _ _ => rfl))) (by exact snd_p snd_str) (nomark _)) (snd_or1 (by exact w_pt (by exact snd_and (by exact snd_tcmp (op_eqD hr.units) pure_eq (by exact snd_p (by exact snd_ix (hu_of hr) (by exact w_p 4) (by exact snd_p snd_int) (fun _ _ => rfl))) (by exact snd_p snd_str) (nomark _)) (snd_and1 (by exact snd_tcmp op_gt pure_cmp (by exact snd_p (by exact snd_callB call_len pure_len (by rfl) T.z_len PySem.boot_len (by exact snd_cons (by exact snd_p (by exact snd_ix (hu_of hr) (by exact w_p 4) (by exact snd_p snd_int) (fun _ _ => rfl))) snd_nil))) (by exact snd_p snd_int) (nomark _)))))))) (by exact snd_bin op_add4 pure_add (by exact snd_p (by exact snd_bin op_add4 pure_add (by exact snd_p snd_str) (by exact w_p 5))) (by exact snd_p snd_str)) (by exact w_v 5)))))))) (by exact snd_one (by exact snd_ret (by exact w_v 3)))))))))
theorem d_law (T : Txt K mg A) (B : Bds K D) (OI : OksI P w K mg base A D) (O : Oks P w K mg base A D (j + 3) F) (cdv : Value) (Ar : Around) (outer : List Env) (s : Shared) (H : Hp) (E : XK) (hr : Room (j + 3) (Ar.deeper (PyProof.Rows.envOfC "law" (defScope s_law) s.heap.objs.size A.a_law cdv))) :
    PSs (cxOf (L2.CX P w) P w K mg base ["script", "d", "a", "known", "text", "t", "wrong", "k", "turn", "at", "sign", "bent", "told", "due"] "law" (defScope s_law) A.a_law cdv Ar outer s H E) (defBody s_law) (SndS (cxOf (L2.CX P w) P w K mg base ["script", "d", "a", "known", "text", "t", "wrong", "k", "turn", "at", "sign", "bent", "told", "due"] "law" (defScope s_law) A.a_law cdv Ar outer s H E) E (m_law A F)) := by
  unfold m_law
  exact (by exact snd_seq (by exact w_setC 1 sc_law.nd (by exact snd_call (by exact O._law_begin) (by exact hr) (by rfl) T.g__law_begin T.k__law_begin (by exact B._law_begin) (by exact takes_of rfl rfl rfl rfl) (by exact snd_cons (snd_p (by exact w_v 0)) snd_nil))) (by exact snd_seq (by exact w_set 2 sc_law.nd (by exact snd_tup (by exact snd_cons (snd_p snd_str) (snd_cons (snd_p snd_str) snd_nil)))) (by exact snd_seq (by exact w_setL 3 sc_law.nd (by exact snd_cons (snd_p (by exact snd_tup (by exact snd_cons (snd_p snd_str) (snd_cons (snd_p (by exact snd_v (by exact snd_call (by exact O._law_fun) (by exact hr) (by rfl) T.g__law_fun T.k__law_fun (by exact B._law_fun) (by exact takes_of rfl rfl rfl rfl) (by exact snd_cons (snd_p (by exact w_v 2)) (snd_cons (snd_p (by exact snd_v (by exact snd_call (by exact O._law_fun) (by exact hr) (by rfl) T.g__law_fun T.k__law_fun (by exact B._law_fun) (by exact takes_of rfl rfl rfl rfl) (by exact snd_cons (snd_p (by exact snd_tup (by exact snd_cons (snd_p snd_str) (snd_cons (snd_p snd_str) snd_nil)))) (snd_cons (snd_p (by exact w_v 2)) snd_nil))))) snd_nil))))) snd_nil)))) (snd_cons (snd_p (by exact snd_tup (by exact snd_cons (snd_p snd_str) (snd_cons (snd_p (by exact snd_v (by exact snd_call (by exact O._law_fun) (by exact hr) (by rfl) T.g__law_fun T.k__law_fun (by exact B._law_fun) (by exact takes_of rfl rfl rfl rfl) (by exact snd_cons (snd_p (by exact snd_v (by exact snd_call (by exact O._law_fun) (by exact hr) (by rfl) T.g__law_fun T.k__law_fun (by exact B._law_fun) (by exact takes_of rfl rfl rfl rfl) (by exact snd_cons (snd_p (by exact w_v 2)) (snd_cons (snd_p (by exact w_v 2)) snd_nil))))) (snd_cons (snd_p (by exact snd_v (by exact snd_call (by exact O._law_list) (by exact hr) (by rfl) T.g__law_list T.k__law_list (by exact B._law_list) (by exact takes_of rfl rfl rfl rfl) (by exact snd_cons (snd_p (by exact snd_v (by exact snd_call (by exact O._law_list) (by exact hr) (by rfl) T.g__law_list T.k__law_list (by exact B._law_list) (by exact takes_of rfl rfl rfl rfl) (by exact snd_cons (snd_p (by exact snd_v (by exact snd_call0 (by exact O._law_int) (by exact hr) (by rfl) T.g__law_int T.k__law_int (by exact B._law_int) (by exact takes_of rfl rfl rfl rfl)))) snd_nil)))) snd_nil)))) snd_nil))))) snd_nil)))) snd_nil))) (by exact snd_seq (by exact snd_drop (snd_p (by exact snd_extend (by exact w_p 3) (by exact snd_cons (snd_p (by exact snd_lst (by exact snd_cons (snd_p (by exact snd_tup (by exact snd_cons (snd_p snd_str) (snd_cons (snd_p (by exact snd_tup (by exact snd_cons (snd_p snd_str) (snd_cons (snd_p (by exact snd_tup snd_nil)) (snd_cons (snd_p snd_non) snd_nil))))) snd_nil)))) (snd_cons (snd_p (by exact snd_tup (by exact snd_cons (snd_p snd_str) (snd_cons (snd_p (by exact snd_tup (by exact snd_cons (snd_p snd_str) (snd_cons (snd_p (by exact snd_tup snd_nil)) (snd_cons (snd_p snd_str) snd_nil))))) snd_nil)))) (snd_cons (snd_p (by exact snd_tup (by exact snd_cons (snd_p snd_str) (snd_cons (snd_p (by exact snd_tup (by exact snd_cons (snd_p snd_str) (snd_cons (snd_p (by exact snd_tup (by exact snd_cons (snd_p (by exact snd_tup (by exact snd_cons (snd_p snd_str) (snd_cons (snd_p (by exact w_v 2)) snd_nil)))) (snd_cons (snd_p (by exact snd_tup (by exact snd_cons (snd_p snd_str) (snd_cons (snd_p (by exact snd_tup (by exact snd_cons (snd_p snd_str) (snd_cons (snd_p (by exact snd_tup snd_nil)) (snd_cons (snd_p snd_non) snd_nil))))) snd_nil)))) snd_nil)))) (snd_cons (snd_p snd_str) snd_nil))))) snd_nil)))) snd_nil))))) snd_nil)))) (by exact snd_seq (by exact snd_drop (snd_p (by exact snd_extend (by exact w_p 3) (by exact snd_cons (snd_p (by exact snd_lst (by exact snd_cons (snd_p (by exact snd_tup (by exact snd_cons (snd_p snd_str) (snd_cons (snd_p (by exact snd_tup (by exact snd_cons (snd_p snd_str) (snd_cons (snd_p snd_str) (snd_cons (snd_p (by exact snd_tup (by exact snd_cons (snd_p snd_str) (snd_cons (snd_p snd_str) (snd_cons (snd_p (by exact w_v 2)) snd_nil))))) snd_nil))))) snd_nil)))) (snd_cons (snd_p (by exact snd_tup (by exact snd_cons (snd_p snd_str) (snd_cons (snd_p (by exact snd_tup (by exact snd_cons (snd_p snd_str) (snd_cons (snd_p snd_str) (snd_cons (snd_p (by exact snd_tup (by exact snd_cons (snd_p (by exact w_v 2)) (snd_cons (snd_p (by exact snd_tup (by exact snd_cons (snd_p snd_str) (snd_cons (snd_p (by exact snd_tup (by exact snd_cons (snd_p (by exact snd_tup (by exact snd_cons (snd_p snd_str) (snd_cons (snd_p (by exact snd_v (by exact snd_call0 (by exact O._law_int) (by exact hr) (by rfl) T.g__law_int T.k__law_int (by exact B._law_int) (by exact takes_of rfl rfl rfl rfl)))) snd_nil)))) snd_nil))) (snd_cons (snd_p snd_non) snd_nil))))) snd_nil)))) snd_nil))))) snd_nil)))) snd_nil)))) snd_nil)))) (by exact snd_seq (by exact snd_forL (by exact passes_of rfl) (by rfl) (by exact w_v 3) (by exact snd_gtup (by rfl) (snd_gscons (by exact w_g 4 sc_law.nd) (snd_gscons (by exact w_g 5 sc_law.nd) snd_gsnil))) (by exact snd_one (by exact snd_if (by exact w_pt (by exact snd_or (by exact snd_tcmp (op_neD hr.units) pure_ne (by exact snd_p (by exact snd_v (by exact snd_call (by exact O.format_type) (by exact hr) (by rfl) T.g_format_type T.k_format_type (by exact B.format_type) (by exact takes_of rfl rfl rfl rfl) (by exact snd_cons (snd_p (by exact w_v 5)) snd_nil)))) (by exact w_p 4) (nomark _)) (snd_or1 (by exact snd_tcmp (op_neD hr.units) pure_ne (by exact snd_p (by exact snd_v (by exact snd_call (by exact O._law_told) (by exact hr) (by rfl) T.g__law_told T.k__law_told (by exact B._law_told) (by exact takes_of rfl rfl rfl rfl) (by exact snd_cons (snd_p (by exact w_v 4)) snd_nil)))) (by exact w_p 5) (nomark _))))) (by exact snd_one (by exact snd_ret snd_bl)) snd_snil))) (by exact snd_seq (by exact w_setL 6 sc_law.nd (by exact snd_cons (snd_p (by exact snd_tup (by exact snd_cons (snd_p snd_str) (snd_cons (snd_p (by exact snd_tup (by exact snd_cons (snd_p snd_str) (snd_cons (snd_p snd_int) snd_nil)))) snd_nil)))) (snd_cons (snd_p (by exact snd_tup (by exact snd_cons (snd_p snd_str) (snd_cons (snd_p (by exact snd_tup (by exact snd_cons (snd_p snd_str) (snd_cons (snd_p snd_int) snd_nil)))) snd_nil)))) (snd_cons (snd_p (by exact snd_tup (by exact snd_cons (snd_p snd_str) (snd_cons (snd_p (by exact snd_tup (by exact snd_cons (snd_p snd_str) (snd_cons (snd_p snd_int) snd_nil)))) snd_nil)))) (snd_cons (snd_p (by exact snd_tup (by exact snd_cons (snd_p snd_str) (snd_cons (snd_p (by exact snd_tup (by exact snd_cons (snd_p snd_str) (snd_cons (snd_p snd_int) snd_nil)))) snd_nil)))) (snd_cons (snd_p (by exact snd_tup (by exact snd_cons (snd_p snd_str) (snd_cons (snd_p (by exact snd_tup (by exact snd_cons (snd_p snd_str) (snd_cons (snd_p snd_int) snd_nil)))) snd_nil)))) (snd_cons (snd_p (by exact snd_tup (by exact snd_cons (snd_p snd_str) (snd_cons (snd_p (by exact snd_tup (by exact snd_cons (snd_p snd_str) (snd_cons (snd_p snd_int) snd_nil)))) snd_nil)))) snd_nil))))))) (by exact snd_seq (by exact snd_drop (snd_p (by exact snd_extend (by exact w_p 6) (by exact snd_cons (snd_p (by exact snd_lst (by exact snd_cons (snd_p (by exact snd_tup (by exact snd_cons (snd_p snd_str) (snd_cons (snd_p (by exact snd_tup (by exact snd_cons (snd_p snd_str) (snd_cons (snd_p snd_int) snd_nil)))) snd_nil)))) (snd_cons (snd_p (by exact snd_tup (by exact snd_cons (snd_p snd_str) (snd_cons (snd_p (by exact snd_tup (by exact snd_cons (snd_p snd_str) (snd_cons (snd_p snd_int) snd_nil)))) snd_nil)))) (snd_cons (snd_p (by exact snd_tup (by exact snd_cons (snd_p snd_str) (snd_cons (snd_p (by exact snd_tup (by exact snd_cons (snd_p snd_str) (snd_cons (snd_p snd_int) snd_nil)))) snd_nil)))) (snd_cons (snd_p (by exact snd_tup (by exact snd_cons (snd_p snd_str) (snd_cons (snd_p (by exact snd_tup (by exact snd_cons (snd_p snd_str) (snd_cons (snd_p snd_int) snd_nil)))) snd_nil)))) (snd_cons (snd_p (by exact snd_tup (by exact snd_cons (snd_p snd_str) (snd_cons (snd_p (by exact snd_tup (by exact snd_cons (snd_p snd_str) (snd_cons (snd_p snd_int) snd_nil)))) snd_nil)))) snd_nil))))))) snd_nil)))) (by exact snd_seq (by exact snd_drop (snd_p (by exact snd_extend (by exact w_p 6) (by exact snd_cons (snd_p (by exact snd_lst (by exact snd_cons (snd_p (by exact snd_tup (by exact snd_cons (snd_p snd_str) (snd_cons (snd_p (by exact snd_tup (by exact snd_cons (snd_p snd_str) (snd_cons (snd_p snd_int) snd_nil)))) snd_nil)))) (snd_cons (snd_p (by exact snd_tup (by exact snd_cons (snd_p snd_str) (snd_cons (snd_p (by exact snd_tup (by exact snd_cons (snd_p snd_str) (snd_cons (snd_p snd_int) snd_nil)))) snd_nil)))) snd_nil)))) snd_nil)))) (by exact snd_seq (by exact snd_if (by exact snd_truth (by exact snd_p (by exact snd_callB (cr_any (by rfl)) pure_any (by rfl) T.z_any (by decide +kernel) (by exact snd_cons (by exact snd_p (by exact snd_v (by exact snd_lcL (T := ([4] ++ ([13] ++ []))) (own := [("text", 4), ("due", 13)]) (by rfl) sc_law.nd (by exact w_v 6) (blkOk_by (by show blkC ["script", "d", "a", "known", "text", "t", "wrong", "k", "turn", "at", "sign", "bent", "told", "due"] (defScope s_law) _ _ = true; decide +kernel)) (by decide) (fun _ _ _ _ _ => (by exact snd_gtup (by rfl) (snd_gscons (by exact w_g 4 sc_law.nd) (snd_gscons (by exact w_g 13 sc_law.nd) snd_gsnil)))) (fun _ _ _ _ _ => w_yes) (fun _ _ _ _ _ => (by exact snd_cmp (op_neD hr.units) pure_ne (by exact snd_p (by exact snd_v (by exact snd_call (by exact O._law_told) (by exact hr) (by rfl) T.g__law_told T.k__law_told (by exact B._law_told) takes0 (by exact snd_cons (snd_p (by exact w_v 4)) snd_nil)))) (by exact w_p 13) (nomark _)))))) snd_nil))) (fun _ => rfl)) (by exact snd_one (by exact snd_ret snd_bl)) snd_snil) (by exact snd_seq (by exact snd_if (by exact snd_tcmp (op_neD hr.units) pure_ne (by exact snd_p (by exact snd_v (by exact snd_call (by exact O._law_told) (by exact hr) (by rfl) T.g__law_told T.k__law_told (by exact B._law_told) (by exact takes_of rfl rfl rfl rfl) (by exact snd_cons (snd_p snd_str) snd_nil)))) (by exact snd_p (by exact snd_tup (by exact snd_cons (snd_p snd_str) (snd_cons (snd_p (by exact snd_tup (by exact snd_cons (snd_p (by exact snd_tup (by exact snd_cons (snd_p snd_str) (snd_cons (snd_p (by exact snd_tup (by exact snd_cons (snd_p snd_str) (snd_cons (snd_p snd_str) snd_nil)))) snd_nil)))) (snd_cons (snd_p (by exact snd_tup (by exact snd_cons (snd_p snd_str) (snd_cons (snd_p (by exact w_v 2)) snd_nil)))) snd_nil)))) (snd_cons (snd_p snd_non) snd_nil))))) (nomark _)) (by exact snd_one (by exact snd_ret snd_bl)) snd_snil) (by exact snd_seq (by exact w_setC 5 sc_law.nd (by exact snd_call (by exact O._law_type) (by exact hr) (by rfl) T.g__law_type T.k__law_type (by exact B._law_type) (by exact takes_of rfl rfl rfl rfl) (by exact snd_cons (by exact w_p 1) (snd_cons (snd_p snd_int) (snd_cons (snd_p (by exact snd_lst (by exact snd_cons (snd_p snd_str) (snd_cons (snd_p snd_str) snd_nil)))) (snd_cons (snd_p (by exact snd_lst (by exact snd_cons (snd_p snd_str) snd_nil))) snd_nil)))))) (by exact snd_seq (by exact snd_forR (by exact passes_of rfl) (by rfl) (by rfl) T.z_range (by exact snd_cons (snd_p (by exact snd_v (by exact snd_call (by exact O._law_take) (by exact hr) (by rfl) T.g__law_take T.k__law_take (by exact B._law_take) (by exact takes_of rfl rfl rfl rfl) (by exact snd_cons (by exact w_p 1) (snd_cons (snd_p snd_int) snd_nil))))) snd_nil) (by exact w_g 7 sc_law.nd) (by exact snd_one (by exact w_setC 5 sc_law.nd (by exact snd_call (by exact O._law_pick) (by exact hr) (by rfl) T.g__law_pick T.k__law_pick (by exact B._law_pick) (by exact takes_of rfl rfl rfl rfl) (by exact snd_cons (by exact w_p 1) (snd_cons (snd_p (by exact snd_lst (by exact snd_cons (snd_p (by exact snd_tup (by exact snd_cons (snd_p snd_str) (snd_cons (snd_p snd_str) (snd_cons (snd_p (by exact w_v 5)) snd_nil))))) (snd_cons (snd_p (by exact snd_tup (by exact snd_cons (snd_p snd_str) (snd_cons (snd_p snd_str) (snd_cons (snd_p (by exact w_v 5)) snd_nil))))) (snd_cons (snd_p (by exact snd_v (by exact snd_call (by exact O._law_fun) (by exact hr) (by rfl) T.g__law_fun T.k__law_fun (by exact B._law_fun) (by exact takes_of rfl rfl rfl rfl) (by exact snd_cons (snd_p (by exact w_v 5)) (snd_cons (snd_p (by exact w_v 2)) snd_nil))))) (snd_cons (snd_p (by exact snd_v (by exact snd_call (by exact O._law_list) (by exact hr) (by rfl) T.g__law_list T.k__law_list (by exact B._law_list) (by exact takes_of rfl rfl rfl rfl) (by exact snd_cons (snd_p (by exact w_v 5)) snd_nil)))) snd_nil)))))) snd_nil)))))) (by exact snd_seq (by exact w_setC 4 sc_law.nd (by exact snd_call (by exact O._law_text) (by exact hr) (by rfl) T.g__law_text T.k__law_text (by exact B._law_text) (by exact takes_of rfl rfl rfl rfl) (by exact snd_cons (snd_p (by exact w_v 5)) snd_nil))) (by exact snd_seq (by exact snd_if (by exact w_pt (by exact snd_or (by exact snd_tcmp (op_neD hr.units) pure_ne (by exact snd_p (by exact snd_v (by exact snd_call (by exact O.format_type) (by exact hr) (by rfl) T.g_format_type T.k_format_type (by exact B.format_type) (by exact takes_of rfl rfl rfl rfl) (by exact snd_cons (snd_p (by exact w_v 5)) snd_nil)))) (by exact w_p 4) (nomark _)) (snd_or1 (by exact snd_tcmp (op_neD hr.units) pure_ne (by exact snd_p (by exact snd_v (by exact snd_call (by exact O._law_told) (by exact hr) (by rfl) T.g__law_told T.k__law_told (by exact B._law_told) (by exact takes_of rfl rfl rfl rfl) (by exact snd_cons (snd_p (by exact w_v 4)) snd_nil)))) (by exact w_p 5) (nomark _))))) (by exact snd_one (by exact snd_ret snd_bl)) snd_snil) (by exact snd_seq (by exact snd_forR (by exact passes_of rfl) (by rfl) (by rfl) T.z_range (by exact snd_cons (snd_p snd_int) snd_nil) (by exact w_g 8 sc_law.nd) (by exact snd_seq (by exact w_setC 9 sc_law.nd (by exact snd_call (by exact O._law_take) (by exact hr) (by rfl) T.g__law_take T.k__law_take (by exact B._law_take) (by exact takes_of rfl rfl rfl rfl) (by exact snd_cons (by exact w_p 1) (snd_cons (snd_p (by exact snd_bin op_add4 pure_add (by exact snd_p (by exact snd_callB call_len pure_len (by rfl) T.z_len PySem.boot_len (by exact snd_cons (by exact w_p 4) snd_nil))) (by exact snd_p snd_int))) snd_nil)))) (by exact snd_seq (by exact w_setC 10 sc_law.nd (by exact snd_call (by exact O._law_pick) (by exact hr) (by rfl) T.g__law_pick T.k__law_pick (by exact B._law_pick) (by exact takes_of rfl rfl rfl rfl) (by exact snd_cons (by exact w_p 1) (snd_cons (snd_p (by exact snd_lst (by exact snd_cons (snd_p snd_str) (snd_cons (snd_p snd_str) (snd_cons (snd_p snd_str) (snd_cons (snd_p snd_str) (snd_cons (snd_p snd_str) (snd_cons (snd_p snd_str) (snd_cons (snd_p snd_str) (snd_cons (snd_p snd_str) (snd_cons (snd_p snd_str) (snd_cons (snd_p snd_str) (snd_cons (snd_p snd_str) (snd_cons (snd_p snd_str) snd_nil)))))))))))))) snd_nil)))) (by exact snd_seq (by exact w_setC 11 sc_law.nd (by exact snd_call (by exact O._law_pick) (by exact hr) (by rfl) T.g__law_pick T.k__law_pick (by exact B._law_pick) (by exact takes_of rfl rfl rfl rfl) (by exact snd_cons (by exact w_p 1) (snd_cons (snd_p (by exact snd_lst (by exact snd_cons (snd_p (by exact snd_bin op_add4 pure_add (by exact snd_p (by exact snd_bin op_add4 pure_add (by exact snd_p (by exact snd_slice (by exact w_p 4) snd_onone (snd_osome (by exact w_p 9)))) (by exact w_p 10))) (by exact snd_p (by exact snd_slice (by exact w_p 4) (snd_osome (by exact w_p 9)) snd_onone)))) (snd_cons (snd_p (by exact snd_bin op_add4 pure_add (by exact snd_p (by exact snd_slice (by exact w_p 4) snd_onone (snd_osome (by exact w_p 9)))) (by exact snd_p (by exact snd_slice (by exact w_p 4) (snd_osome (by exact snd_p (by exact snd_bin op_add4 pure_add (by exact w_p 9) (by exact snd_p snd_int)))) snd_onone)))) (snd_cons (snd_p (by exact snd_bin op_add4 pure_add (by exact snd_p (by exact snd_bin op_add4 pure_add (by exact snd_p (by exact snd_slice (by exact w_p 4) snd_onone (snd_osome (by exact w_p 9)))) (by exact w_p 10))) (by exact snd_p (by exact snd_slice (by exact w_p 4) (snd_osome (by exact snd_p (by exact snd_bin op_add4 pure_add (by exact w_p 9) (by exact snd_p snd_int)))) snd_onone)))) snd_nil))))) snd_nil)))) (by exact snd_seq (by exact w_setC 12 sc_law.nd (by exact snd_call (by exact O._law_told) (by exact hr) (by rfl) T.g__law_told T.k__law_told (by exact B._law_told) (by exact takes_of rfl rfl rfl rfl) (by exact snd_cons (snd_p (by exact w_v 11)) snd_nil))) (by exact snd_one (by exact snd_if (by exact w_pt (by exact snd_and (by exact snd_tcmp (op_eqD hr.units) pure_eq (by exact snd_p (by exact snd_callB call_len pure_len (by rfl) T.z_len PySem.boot_len (by exact snd_cons (by exact w_p 12) snd_nil))) (by exact snd_p snd_int) (nomark _)) (snd_and1 (by exact snd_tcmp (op_in4 (hu_of hr)) pure_in (by exact snd_p (by exact snd_ix (hu_of hr) (by exact w_p 12) (by exact snd_p snd_int) (fun _ _ => rfl))) (by exact snd_p (by exact snd_tup (by exact snd_cons (snd_p snd_str) (snd_cons (snd_p snd_str) snd_nil)))) (by with_unfolding_all rfl))))) (by exact snd_one (by exact snd_if (by exact snd_not (by exact snd_tchain op_le pure_cmp op_le pure_cmp (by exact snd_p snd_int) (by exact snd_p (by exact snd_ix (hu_of hr) (by exact w_p 12) (by exact snd_p snd_int) (fun _ _ => rfl))) (by exact snd_p (by exact snd_callB call_len pure_len (by rfl) T.z_len PySem.boot_len (by exact snd_cons (by exact w_p 11) snd_nil))))) (by exact snd_one (by exact snd_ret snd_bl)) snd_snil)) (by exact snd_one (by exact snd_if (by exact snd_tcmp (op_neD hr.units) pure_ne (by exact snd_p (by exact snd_v (by exact snd_call (by exact O._law_told) (by exact hr) (by rfl) T.g__law_told T.k__law_told (by exact B._law_told) (by exact takes_of rfl rfl rfl rfl) (by exact snd_cons (snd_p (by exact snd_v (by exact snd_call (by exact O.format_type) (by exact hr) (by rfl) T.g_format_type T.k_format_type (by exact B.format_type) (by exact takes_of rfl rfl rfl rfl) (by exact snd_cons (snd_p (by exact w_v 12)) snd_nil)))) snd_nil)))) (by exact w_p 12) (nomark _)) (by exact snd_one (by exact snd_ret snd_bl)) snd_snil))))))))) (by exact snd_one (by exact snd_ret snd_bl))))))))))))))))))
def step (A : Ads) (F : Fns) : Fns where
  atom_text := fnBody 1 (m_atom_text A F)
  record_text := fnBody 7 (m_record_text A F)
  format_type := fnBody 7 (m_format_type A F)
  word_end := fnBody 2 (m_word_end A F)
  words_in := fnBody 5 (m_words_in A F)
  Reader_head := fnBody 1 (m_Reader_head A F)
  Reader_fail := fnBody 1 (m_Reader_fail A F)
  Reader_need := fnBody 2 (m_Reader_need A F)
  Reader_is_variable := fnBody 2 (m_Reader_is_variable A F)
  Reader_whole := fnBody 3 (m_Reader_whole A F)
  Reader_applied := fnBody 3 (m_Reader_applied A F)
  Reader_one := fnBody 3 (m_Reader_one A F)
  Reader_record := fnBody 4 (m_Reader_record A F)
  parse_type := fnBody 3 (m_parse_type A F)
  _law_begin := fnBody 3 (m__law_begin A F)
  _law_take := fnBody 4 (m__law_take A F)
  _law_pick := fnBody 2 (m__law_pick A F)
  _law_fun := fnBody 2 (m__law_fun A F)
  _law_int := fnBody 0 (m__law_int A F)
  _law_list := fnBody 1 (m__law_list A F)
  _law_type := fnBody 7 (m__law_type A F)
  _law_told := fnBody 2 (m__law_told A F)
  _law_text := fnBody 7 (m__law_text A F)
  law := fnBody 14 (m_law A F)
def FN (A : Ads) : Nat → Fns
  | 0 => noF
  | j + 1 => step A (FN A j)
structure Funs (K : PySem.W.Frag) (A : Ads) (D : Fds) : Prop where
  atom_text : L2.Fun K "atom_text" "atom_text" s_atom_text A.a_atom_text D.d_atom_text
  record_text : L2.Fun K "record_text" "record_text" s_record_text A.a_record_text D.d_record_text
  format_type : L2.Fun K "format_type" "format_type" s_format_type A.a_format_type D.d_format_type
  word_end : L2.Fun K "word_end" "word_end" s_word_end A.a_word_end D.d_word_end
  words_in : L2.Fun K "words_in" "words_in" s_words_in A.a_words_in D.d_words_in
  Reader_head : L2.Fun K "head" "Reader.head" s_Reader_head A.a_Reader_head D.d_Reader_head
  Reader_fail : L2.Fun K "fail" "Reader.fail" s_Reader_fail A.a_Reader_fail D.d_Reader_fail
  Reader_need : L2.Fun K "need" "Reader.need" s_Reader_need A.a_Reader_need D.d_Reader_need
  Reader_is_variable : L2.Fun K "is_variable" "Reader.is_variable" s_Reader_is_variable A.a_Reader_is_variable D.d_Reader_is_variable
  Reader_whole : L2.Fun K "whole" "Reader.whole" s_Reader_whole A.a_Reader_whole D.d_Reader_whole
  Reader_applied : L2.Fun K "applied" "Reader.applied" s_Reader_applied A.a_Reader_applied D.d_Reader_applied
  Reader_one : L2.Fun K "one" "Reader.one" s_Reader_one A.a_Reader_one D.d_Reader_one
  Reader_record : L2.Fun K "record" "Reader.record" s_Reader_record A.a_Reader_record D.d_Reader_record
  parse_type : L2.Fun K "parse_type" "parse_type" s_parse_type A.a_parse_type D.d_parse_type
  _law_begin : L2.Fun K "_law_begin" "_law_begin" s__law_begin A.a__law_begin D.d__law_begin
  _law_take : L2.Fun K "_law_take" "_law_take" s__law_take A.a__law_take D.d__law_take
  _law_pick : L2.Fun K "_law_pick" "_law_pick" s__law_pick A.a__law_pick D.d__law_pick
  _law_fun : L2.Fun K "_law_fun" "_law_fun" s__law_fun A.a__law_fun D.d__law_fun
  _law_int : L2.Fun K "_law_int" "_law_int" s__law_int A.a__law_int D.d__law_int
  _law_list : L2.Fun K "_law_list" "_law_list" s__law_list A.a__law_list D.d__law_list
  _law_type : L2.Fun K "_law_type" "_law_type" s__law_type A.a__law_type D.d__law_type
  _law_told : L2.Fun K "_law_told" "_law_told" s__law_told A.a__law_told D.d__law_told
  _law_text : L2.Fun K "_law_text" "_law_text" s__law_text A.a__law_text D.d__law_text
  law : L2.Fun K "law" "law" s_law A.a_law D.d_law
  Reader_init : L2.Fun K "__init__" "Reader.__init__" s_Reader_init A.a_Reader_init D.d_Reader_init
theorem ok_Reader_init (U : Funs K A D) (T : Txt K mg A) (B : Bds K D) : FnOk P w K mg base (L2.CX P w) 1 A.a_Reader_init D.d_Reader_init ["self", "words"] (SpF K mg 2 (f_Reader_init A)) := fn_plain U.Reader_init sc_Reader_init fun cdv Ar outer s H E hr => d_Reader_init T B cdv Ar outer s H E hr
theorem oks (U : Funs K A D) (T : Txt K mg A) (B : Bds K D) (OI : OksI P w K mg base A D) : ∀ j : Nat, Oks P w K mg base A D (j + 3) (FN A j)
  | 0 => ⟨fn_bad, fn_bad, fn_bad, fn_bad, fn_bad, fn_bad, fn_bad, fn_bad, fn_bad, fn_bad, fn_bad, fn_bad, fn_bad, fn_bad, fn_bad, fn_bad, fn_bad, fn_bad, fn_bad, fn_bad, fn_bad, fn_bad, fn_bad, fn_bad⟩
  | j + 1 => ⟨fn_plain U.atom_text sc_atom_text fun cdv Ar outer s H E hr => d_atom_text T B OI (oks U T B OI j) cdv Ar outer s H E hr,
    fn_plain U.record_text sc_record_text fun cdv Ar outer s H E hr => d_record_text T B OI (oks U T B OI j) cdv Ar outer s H E hr,
    fn_plain U.format_type sc_format_type fun cdv Ar outer s H E hr => d_format_type T B OI (oks U T B OI j) cdv Ar outer s H E hr,
    fn_plain U.word_end sc_word_end fun cdv Ar outer s H E hr => d_word_end T B OI (oks U T B OI j) cdv Ar outer s H E hr,
    fn_plain U.words_in sc_words_in fun cdv Ar outer s H E hr => d_words_in T B OI (oks U T B OI j) cdv Ar outer s H E hr,
    fn_plain U.Reader_head sc_Reader_head fun cdv Ar outer s H E hr => d_Reader_head T B OI (oks U T B OI j) cdv Ar outer s H E hr,
    fn_plain U.Reader_fail sc_Reader_fail fun cdv Ar outer s H E hr => d_Reader_fail T B OI (oks U T B OI j) cdv Ar outer s H E hr,
    fn_plain U.Reader_need sc_Reader_need fun cdv Ar outer s H E hr => d_Reader_need T B OI (oks U T B OI j) cdv Ar outer s H E hr,
    fn_plain U.Reader_is_variable sc_Reader_is_variable fun cdv Ar outer s H E hr => d_Reader_is_variable T B OI (oks U T B OI j) cdv Ar outer s H E hr,
    fn_plain U.Reader_whole sc_Reader_whole fun cdv Ar outer s H E hr => d_Reader_whole T B OI (oks U T B OI j) cdv Ar outer s H E hr,
    fn_plain U.Reader_applied sc_Reader_applied fun cdv Ar outer s H E hr => d_Reader_applied T B OI (oks U T B OI j) cdv Ar outer s H E hr,
    fn_plain U.Reader_one sc_Reader_one fun cdv Ar outer s H E hr => d_Reader_one T B OI (oks U T B OI j) cdv Ar outer s H E hr,
    fn_plain U.Reader_record sc_Reader_record fun cdv Ar outer s H E hr => d_Reader_record T B OI (oks U T B OI j) cdv Ar outer s H E hr,
    fn_plain U.parse_type sc_parse_type fun cdv Ar outer s H E hr => d_parse_type T B OI (oks U T B OI j) cdv Ar outer s H E hr,
    fn_plain U._law_begin sc__law_begin fun cdv Ar outer s H E hr => d__law_begin T B OI (oks U T B OI j) cdv Ar outer s H E hr,
    fn_plain U._law_take sc__law_take fun cdv Ar outer s H E hr => d__law_take T B OI (oks U T B OI j) cdv Ar outer s H E hr,
    fn_plain U._law_pick sc__law_pick fun cdv Ar outer s H E hr => d__law_pick T B OI (oks U T B OI j) cdv Ar outer s H E hr,
    fn_plain U._law_fun sc__law_fun fun cdv Ar outer s H E hr => d__law_fun T B OI (oks U T B OI j) cdv Ar outer s H E hr,
    fn_plain U._law_int sc__law_int fun cdv Ar outer s H E hr => d__law_int T B OI (oks U T B OI j) cdv Ar outer s H E hr,
    fn_plain U._law_list sc__law_list fun cdv Ar outer s H E hr => d__law_list T B OI (oks U T B OI j) cdv Ar outer s H E hr,
    fn_plain U._law_type sc__law_type fun cdv Ar outer s H E hr => d__law_type T B OI (oks U T B OI j) cdv Ar outer s H E hr,
    fn_plain U._law_told sc__law_told fun cdv Ar outer s H E hr => d__law_told T B OI (oks U T B OI j) cdv Ar outer s H E hr,
    fn_plain U._law_text sc__law_text fun cdv Ar outer s H E hr => d__law_text T B OI (oks U T B OI j) cdv Ar outer s H E hr,
    fn_plain U.law sc_law fun cdv Ar outer s H E hr => d_law T B OI (oks U T B OI j) cdv Ar outer s H E hr⟩
end
end K03
namespace K03
open PySem PySem.Spec L2 PL
def rd (A : Ads) (ws : List Str) (n : Nat) : Own := .ins A.Reader [("words", .lst (ws.map .str)), ("at", .int n)]
def hd (ws : List Str) (n : Nat) : Str := ws[n]?.getD ""
theorem lk_w {a b : PV} : List.lookup ("words" : Str) [(("words" : Str), a), ("at", b)] = some a := by simp [List.lookup]
theorem lk_a {a b : PV} : List.lookup ("at" : Str) [(("words" : Str), a), ("at", b)] = some b := by
  have : (("at" : Str) == ("words" : Str)) = false := by decide
  simp [List.lookup, this]
theorem fld_w {A : Ads} {ws : List Str} {n : Nat} {b : Bool} {r : Ev} : mFld A.Reader "words" (mPeek 0) (.own b (rd A ws n) :: r) = .ok (.lst (ws.map .str), .own b (rd A ws n) :: r) := by
  simp [mFld, mPeek, fldOf, rd, lk_w]
theorem fld_a {A : Ads} {ws : List Str} {n : Nat} {b : Bool} {r : Ev} : mFld A.Reader "at" (mPeek 0) (.own b (rd A ws n) :: r) = .ok (.int n, .own b (rd A ws n) :: r) := by
  simp [mFld, mPeek, fldOf, rd, lk_a]
theorem ix_of {l : List PV} {n : Nat} {p : PV} (h : l[n]? = some p) : fIx (.lst l) (.int n) = some p := by
  have hn := (List.getElem?_eq_some_iff.mp h).1
  have e := (List.getElem?_eq_some_iff.mp h).2
  simp [fIx, atI, ixN, hn, e]
theorem run_head (A : Ads) (j : Nat) (ws : List Str) (n : Nat) : (FN A (j + 1)).Reader_head [.own (rd A ws n)] = .ok (.pv (.str (hd ws n)), [rd A ws n]) := by
  show endF [.own (rd A ws n)] (m_Reader_head A (FN A j) (startE 1 [.own (rd A ws n)])) = _
  have hs : startE 1 [.own (rd A ws n)] = [.own true (rd A ws n)] := by simp [startE, toSl]
  rw [hs]
  by_cases h : n < ws.length
  · have h2 : (ws.map PV.str)[n]? = some (.str (hd ws n)) := by simp [hd, h]
    have h3 : decide ((n : Int) < (ws.length : Int)) = true := by simpa using h
    simp [m_Reader_head, mRet, mIfE, mtB, mOp2, toP, mFun, toA1, toA0, fld_w, fld_a, Pk.get, getC, fLen, fLt, fCmp, ix_of h2, h, endF, outs]
  · have h2 : hd ws n = "" := by simp [hd, h]
    simp [m_Reader_head, mRet, mIfE, mtB, mOp2, toP, mFun, toA1, toA0, fld_w, fld_a, Pk.get, getC, fLen, fLt, fCmp, h, h2, mC, endF, outs]
theorem beq_dec {a b : Str} : (a == b) = decide (a = b) := by
  by_cases h : a = b <;> simp [h]
abbrev Ok (s : Str) : Prop := PyData.strOk s = true
theorem eq_str {a b : Str} (ha : Ok a) (hb : Ok b) : fEq (.str a) (.str b) = some (.bl (decide (a = b))) := by
  simp [fEq, eqOk, PV.flat, PV.toD, SeqAt.shaped, PyData.eqv, PyData.canLay0, PyData.depth, beq_dec, ha, hb]
theorem ne_str {a b : Str} (ha : Ok a) (hb : Ok b) : fNe (.str a) (.str b) = some (.bl (!decide (a = b))) := by
  simp [fNe, eqOk, PV.flat, PV.toD, SeqAt.shaped, PyData.eqv, PyData.canLay0, PyData.depth, beq_dec, ha, hb]
def WOk (ws : List Str) : Prop := ∀ w ∈ ws, Ok w
theorem hd_ok {ws : List Str} (h : WOk ws) (n : Nat) : Ok (hd ws n) := by
  unfold hd
  cases q : ws[n]? with
  | none => exact (by decide +kernel : Ok ("" : Str))
  | some w => exact h w (List.mem_of_getElem? q)
theorem len_app (a b : Str) : (a ++ b).length = a.length + b.length := by
  show (a.cps ++ b.cps).size = _
  rw [Array.size_append]; rfl
theorem num_len : ∀ n : Nat, n < 700 → ((toString (n : Int) : Str)).length ≤ 10 := by decide +kernel
theorem log_small {n : Nat} (h : n < 700) : (n : Int).natAbs.log2 < 1920 := by
  have : (n : Int).natAbs = n := Int.natAbs_natCast n
  rw [this]
  exact Nat.lt_of_le_of_lt (Nat.log2_le_self n) (by omega)
theorem err_form {n : Nat} (h : n < 700) (c : Str) (hc : c.length ≤ 1000) : mkErr2 "TextError" "code" "at" "refused: " ", " [.str c, .int n] = .err "TextError" [("code", .str c), ("at", .int n)] := by
  have z : (1000000 : Nat) ≤ sizeLine := by rw [sizeLine_eq]; decide
  have e1 : fFmt (.str c) = some (.str c) := by
    have : c.length ≤ sizeLine := by omega
    simp [fFmt, this]
  have e2 : fFmt (.int n) = some (.str (toString (n : Int))) := by
    simp only [fFmt, log_small h, if_true]
  have l1 : ("refused: " : Str).length = 9 := by decide
  have l2 : (", " : Str).length = 2 := by decide
  have l0 : Str.empty.length = 0 := by decide
  have l3 := num_len n h
  simp only [mkErr2, e1, e2, Option.bind_some, strOf, Res.of_some, Res.ok_bind, len_app, l0, l1, l2]
  rw [if_pos ⟨by omega, by omega, by omega, by omega⟩]
theorem st1 {o : Own} : startE 1 [.own o] = [.own true o] := by simp [startE, toSl]
theorem run_fail (A : Ads) (j : Nat) (ws : List Str) {n : Nat} (h : n < 700) : (FN A (j + 1)).Reader_fail [.own (rd A ws n)] = .err "TextError" [("code", .str "form"), ("at", .int n)] := by
  show endF [.own (rd A ws n)] (m_Reader_fail A (FN A j) (startE 1 [.own (rd A ws n)])) = _
  rw [st1]
  have e := err_form h "form" (by decide)
  simp [m_Reader_fail, mRaise2, toP, toA1, toA0, mC, fld_a, getAll, e, endF]
/-! ### a method of one's own called -/
theorem meth0 {A : Ads} {nm : Str} {fn : Fn} {ws ws' : List Str} {n n' : Nat} {b : Bool} {r : Ev} {v : Rv} (hnm : List.lookup nm [(("words" : Str), PV.lst (ws.map .str)), (("at" : Str), PV.int n)] = none) (h : fn [.own (rd A ws n)] = .ok (v, [rd A ws' n'])) :
    mMeth A.Reader 1 nm fn (mPeek 0) toA0 (.own b (rd A ws n) :: r) = .ok (v, .own b (rd A ws' n') :: r) := by
  have e : (Own.ins A.Reader [("words", .lst (ws.map .str)), ("at", .int n)]) = rd A ws n := rfl
  simp [mMeth, mPeek, insAt, rd, hnm, okIf, toA0, goCall, toAgs, toAg, ownIx, updO, setO]
  rw [e, h]
  simp [rd, setO]
theorem meth0_err {A : Ads} {nm : Str} {fn : Fn} {ws : List Str} {n : Nat} {b : Bool} {r : Ev} {c : Str} {xs : List (Str × PV)} (hnm : List.lookup nm [(("words" : Str), PV.lst (ws.map .str)), (("at" : Str), PV.int n)] = none) (h : fn [.own (rd A ws n)] = .err c xs) :
    mMeth A.Reader 1 nm fn (mPeek 0) toA0 (.own b (rd A ws n) :: r) = .err c xs := by
  have e : (Own.ins A.Reader [("words", .lst (ws.map .str)), ("at", .int n)]) = rd A ws n := rfl
  simp [mMeth, mPeek, insAt, rd, hnm, okIf, toA0, goCall, toAgs, toAg, ownIx, updO, setO]
  rw [e, h]
  simp
end K03
namespace K03
open PySem PySem.Spec L2 PL
/-! M2: the reader's small methods -/
theorem lkn {nm : Str} {a b : PV} (h1 : nm ≠ "words") (h2 : nm ≠ "at") : List.lookup nm [(("words" : Str), a), (("at" : Str), b)] = none := by
  have e1 : (nm == ("words" : Str)) = false := by simpa using h1
  have e2 : (nm == ("at" : Str)) = false := by simpa using h2
  simp [List.lookup, e1, e2]
/-- self.at += 1 -/
theorem run_inc {A : Ads} {ws : List Str} {n : Nat} {b : Bool} {r : Ev} : mAugF A.Reader "at" fIAdd (mPeek 0) (toP (mC (.int 1))) (.own b (rd A ws n) :: r) = .ok (.nx, .own b (rd A ws (n + 1)) :: r) := by
  have e : (("words" : Str) = ("at" : Str)) = False := by simp; decide
  simp [mAugF, mPeek, fldOf, rd, lk_a, toP, mC, Pk.get, fIAdd, putFld, putP, e]
/-- a word's first sign -/
def c0 (w : Str) : Option Nat := w.cps.toList.head?
def inS (w s : Str) : Bool := match c0 w with
  | some c => decide (c ∈ s.cps.toList)
  | none => false
theorem c0_none {w : Str} (h : c0 w = none) : w = "" := by
  obtain ⟨⟨l⟩⟩ := w
  cases l with
  | nil => decide
  | cons a l => cases h
theorem c0_some {w : Str} (h : w ≠ "") : ∃ c, c0 w = some c := by
  cases q : c0 w with
  | none => exact absurd (c0_none q) h
  | some c => exact ⟨c, rfl⟩
theorem ix_str {w : Str} {c : Nat} (hl : w.length ≤ sizeLine) (h : c0 w = some c) : fIx (.str w) (.int 0) = some (.str ⟨#[c]⟩) := by
  obtain ⟨⟨l⟩⟩ := w
  cases l with
  | nil => cases h
  | cons a l =>
    have h : some a = some c := h
    cases h
    simp [fIx, hl, atI, ixN]
theorem in_chr {c : Nat} {s : Str} {neg : Bool} : fIn neg (.str ⟨#[c]⟩) (.str s) = some (.bl (if neg then !decide (c ∈ s.cps.toList) else decide (c ∈ s.cps.toList))) := by
  simp [fIn, inP]
def isV (w : Str) : Bool := inS w c_LOW && decide (w ≠ "all")
/-- words as they come: their signs small, not long -/
structure Wd (w : Str) : Prop where
  ok : Ok w
  len : w.length ≤ 1000
def Wds (ws : List Str) : Prop := ∀ w ∈ ws, Wd w
theorem hd_wd {ws : List Str} (h : Wds ws) (n : Nat) : Wd (hd ws n) := by
  unfold hd
  cases q : ws[n]? with
  | none => exact ⟨(by decide +kernel : Ok ("" : Str)), (by decide +kernel : ("" : Str).length ≤ 1000)⟩
  | some w => exact h w (List.mem_of_getElem? q)
theorem z1000 {n : Nat} (h : n ≤ 1000) : n ≤ sizeLine := by rw [sizeLine_eq]; omega
theorem trv_bl {b : Bool} : trv (.bl b) = some b := rfl
theorem run_isV (A : Ads) (j : Nat) (ws : List Str) (n : Nat) (hw : Wds ws) : (FN A (j + 2)).Reader_is_variable [.own (rd A ws n)] = .ok (.pv (.bl (isV (hd ws n))), [rd A ws n]) := by
  show endF [.own (rd A ws n)] (m_Reader_is_variable A (FN A (j + 1)) (startE 2 [.own (rd A ws n)])) = _
  have hs : startE 2 [.own (rd A ws n)] = [.own true (rd A ws n), .no] := by simp [startE, toSl]
  rw [hs]
  have w := hd_wd hw n
  have hm := meth0 (A := A) (nm := "head") (b := true) (r := [.no]) (lkn (by decide) (by decide)) (run_head A j ws n)
  have k1 : Ok ("" : Str) := by decide +kernel
  have k2 : Ok ("all" : Str) := by decide +kernel
  by_cases h : hd ws n = ""
  · have e : isV (hd ws n) = false := by rw [h]; decide +kernel
    rw [e]
    simp [m_Reader_is_variable, mSeq, mSetC, hm, gR, gN, thenS, mRet, mAndV, mOp2, mPeek, toP, mC, Pk.get, Sl.cnt, h, ne_str k1 k1, trv_bl, endF, outs]
  · obtain ⟨c, hc⟩ := c0_some h
    have e1 := ix_str (z1000 w.len) hc
    by_cases h2 : c ∈ c_LOW.cps.toList
    · have e : isV (hd ws n) = !decide (hd ws n = "all") := by simp [isV, inS, hc, h2]
      rw [e]
      simp [m_Reader_is_variable, mSeq, mSetC, hm, gR, gN, thenS, mRet, mAndV, mOp2, mPeek, toP, mC, Pk.get, Sl.cnt, ne_str w.ok k1, ne_str w.ok k2, h, trv_bl, e1, in_chr, h2, endF, outs]
    · have e : isV (hd ws n) = false := by simp [isV, inS, hc, h2]
      rw [e]
      simp [m_Reader_is_variable, mSeq, mSetC, hm, gR, gN, thenS, mRet, mAndV, mOp2, mPeek, toP, mC, Pk.get, Sl.cnt, ne_str w.ok k1, ne_str w.ok k2, h, trv_bl, e1, in_chr, h2, endF, outs]
end K03
namespace K03
open PySem PySem.Spec L2 PL
/-! M3: need; the parser's mirror; whole, one -/
abbrev fErr (n : Nat) : Res (Rv × List Own) := .err "TextError" [("code", .str "form"), ("at", .int n)]
theorem run_need (A : Ads) (j : Nat) (ws : List Str) {n : Nat} (hw : Wds ws) (hn : n < 700) {w : Str} (ok : Ok w) : (FN A (j + 2)).Reader_need [.own (rd A ws n), .pv (.str w)] = if hd ws n = w then .ok (.pv .non, [rd A ws (n + 1)]) else fErr n := by
  show endF [.own (rd A ws n), .pv (.str w)] (m_Reader_need A (FN A (j + 1)) (startE 2 [.own (rd A ws n), .pv (.str w)])) = _
  have hs : startE 2 [.own (rd A ws n), .pv (.str w)] = [.own true (rd A ws n), .pv (.str w)] := by simp [startE, toSl]
  rw [hs]
  have d := hd_wd hw n
  have hm := meth0 (A := A) (nm := "head") (b := true) (r := [.pv (.str w)]) (lkn (by decide) (by decide)) (run_head A j ws n)
  have hf := meth0_err (A := A) (nm := "fail") (b := true) (r := [.pv (.str w)]) (lkn (by decide) (by decide)) (run_fail A j ws hn)
  by_cases h : hd ws n = w
  · rw [if_pos h]
    simp [m_Reader_need, mSeq, mIf, mtB, mOp2, toP, mV, hm, mPeek, Pk.get, Sl.cnt, h, ne_str ok ok, mNext, thenS, run_inc, endF, outs]
  · rw [if_neg h]
    simp [m_Reader_need, mSeq, mIf, mtB, mOp2, toP, mV, hm, mPeek, Pk.get, Sl.cnt, ne_str d.ok ok, h, mDropC, hf, thenS, endF]
theorem meth1 {A : Ads} {nm w : Str} {fn : Fn} {ws ws' : List Str} {n n' : Nat} {b : Bool} {r : Ev} {v : Rv} (h1 : nm ≠ "words") (h2 : nm ≠ "at") (h : fn [.own (rd A ws n), .pv (.str w)] = .ok (v, [rd A ws' n'])) :
    mMeth A.Reader 2 nm fn (mPeek 0) (toA1 (toP (mC (.str w))) toA0) (.own b (rd A ws n) :: r) = .ok (v, .own b (rd A ws' n') :: r) := by
  have hnm := lkn (a := PV.lst (ws.map .str)) (b := PV.int n) h1 h2
  have e : (Own.ins A.Reader [("words", .lst (ws.map .str)), ("at", .int n)]) = rd A ws n := rfl
  simp [mMeth, mPeek, insAt, rd, hnm, okIf, toA1, toP, mC, toA0, goCall, toAgs, toAg, ownIx, updO, setO]
  rw [e, h]
  simp [rd, setO]
theorem meth1_err {A : Ads} {nm w : Str} {fn : Fn} {ws : List Str} {n : Nat} {b : Bool} {r : Ev} {c : Str} {xs : List (Str × PV)} (h1 : nm ≠ "words") (h2 : nm ≠ "at") (h : fn [.own (rd A ws n), .pv (.str w)] = .err c xs) :
    mMeth A.Reader 2 nm fn (mPeek 0) (toA1 (toP (mC (.str w))) toA0) (.own b (rd A ws n) :: r) = .err c xs := by
  have hnm := lkn (a := PV.lst (ws.map .str)) (b := PV.int n) h1 h2
  have e : (Own.ins A.Reader [("words", .lst (ws.map .str)), ("at", .int n)]) = rd A ws n := rfl
  simp [mMeth, mPeek, insAt, rd, hnm, okIf, toA1, toP, mC, toA0, goCall, toAgs, toAg, ownIx, updO, setO]
  rw [e, h]
  simp
/-! ### types, as trees -/
inductive T where
  | var (s : Str) | con (s : Str) (l : List T) | rcd (l : List (Str × T)) (tl : Option Str) | all (s : Str) (t : T)
mutual
def enc : T → PV
  | .var s => .tup [.str "var", .str s]
  | .con s l => .tup [.str "con", .str s, .tup (encs l)]
  | .rcd l tl => .tup [.str "rec", .tup (encf l), match tl with | some s => .str s | none => .non]
  | .all s t => .tup [.str "all", .str s, enc t]
def encs : List T → List PV
  | [] => []
  | t :: r => enc t :: encs r
def encf : List (Str × T) → List PV
  | [] => []
  | (k, t) :: r => .tup [.str k, enc t] :: encf r
end
/-! ### the parser's mirror -/
inductive PR (α : Type) where
  | ok (a : α) (n : Nat) | err (n : Nat) | bad
def isH (w : Str) : Bool := inS w c_HIGH
def isTail (w : Str) : Bool := Txt.startswith w "^"
def more (w : Str) : Bool := isV w || isH w || decide (w = "(") || decide (w = "{")
def pL (one : Nat → PR T) (ws : List Str) : Nat → Nat → List T → PR (List T)
  | 0, _, _ => .bad
  | f + 1, n, acc => if more (hd ws n) then match one n with
      | .ok t m => pL one ws f m (acc ++ [t])
      | .err m => .err m
      | .bad => .bad
    else .ok acc n
/-- fields; .ok: behind them -/
def pF (whole : Nat → PR T) (ws : List Str) : Nat → Nat → List (Str × T) → PR (List (Str × T))
  | 0, _, _ => .bad
  | f + 1, n, acc => if isV (hd ws n) then
      if acc.any (fun e => decide (e.1 = hd ws n)) then .err n
      else if hd ws (n + 1) = ":" then match whole (n + 2) with
        | .ok t m => if hd ws m = "," then if isV (hd ws (m + 1)) then pF whole ws f (m + 1) (acc ++ [(hd ws n, t)]) else .err (m + 1) else .ok (acc ++ [(hd ws n, t)]) m
        | .err m => .err m
        | .bad => .bad
      else .err (n + 1)
    else .ok acc n
structure PS4 where
  w : Nat → PR T
  a : Nat → PR T
  o : Nat → PR T
  r : Nat → PR T
def pStep (ws : List Str) (p : PS4) : PS4 where
  w := fun n => if hd ws n = "all" then
      if isV (hd ws (n + 1)) || isTail (hd ws (n + 1)) then
        if hd ws (n + 2) = "." then match p.w (n + 3) with
          | .ok t m => .ok (.all (hd ws (n + 1)) t) m
          | .err m => .err m
          | .bad => .bad
        else .err (n + 2)
      else .err (n + 1)
    else match p.a n with
      | .ok f m => if hd ws m = "->" then match p.w (m + 1) with
          | .ok t m' => .ok (.con "Fun" [f, t]) m'
          | .err m => .err m
          | .bad => .bad
        else .ok f m
      | .err m => .err m
      | .bad => .bad
  a := fun n => if isH (hd ws n) then match pL p.o ws 1000 (n + 1) [] with
      | .ok l m => .ok (.con (hd ws n) l) m
      | .err m => .err m
      | .bad => .bad
    else p.o n
  o := fun n => if isV (hd ws n) then .ok (.var (hd ws n)) (n + 1)
    else if hd ws n = "(" then match p.w (n + 1) with
      | .ok t m => if hd ws m = ")" then .ok t (m + 1) else .err m
      | .err m => .err m
      | .bad => .bad
    else if hd ws n = "{" then p.r n
    else if isH (hd ws n) then .ok (.con (hd ws n) []) (n + 1) else .err n
  r := fun n => match pF p.w ws 1000 (n + 1) [] with
    | .ok l m => if hd ws m = "|" then
        if isTail (hd ws (m + 1)) then if hd ws (m + 2) = "}" then .ok (.rcd (sortG l) (some (hd ws (m + 1)))) (m + 3) else .err (m + 2)
        else .err (m + 1)
      else if hd ws m = "}" then .ok (.rcd (sortG l) none) (m + 1) else .err m
    | .err m => .err m
    | .bad => .bad
def pAt (ws : List Str) : Nat → PS4
  | 0 => ⟨fun _ => .bad, fun _ => .bad, fun _ => .bad, fun _ => .bad⟩
  | k + 1 => pStep ws (pAt ws k)
/-- what the mirror's answer is as the reader's -/
def Ans (A : Ads) (ws : List Str) (r : Res (Rv × List Own)) : PR T → Prop
  | .ok t m => r = .ok (.pv (enc t), [rd A ws m]) ∧ m ≤ ws.length
  | .err m => r = fErr m ∧ m ≤ ws.length
  | .bad => True
end K03
namespace K03
open PySem PySem.Spec L2 PL
/-! M4: the reader is the mirror -/
theorem hd_lt {ws : List Str} {n : Nat} (h : hd ws n ≠ "") : n < ws.length := by
  by_cases q : n < ws.length
  · exact q
  · exfalso
    apply h
    simp [hd, q]
theorem isV_ne {w : Str} (h : isV w = true) : w ≠ "" := by
  rintro rfl
  revert h; decide +kernel
theorem isH_ne {w : Str} (h : isH w = true) : w ≠ "" := by
  rintro rfl
  revert h; decide +kernel
theorem isTail_ne {w : Str} (h : isTail w = true) : w ≠ "" := by
  rintro rfl
  revert h; decide +kernel
theorem two_le : 2 ≤ sizeLine := by decide
theorem three_le : 3 ≤ sizeLine := by decide
theorem cALL : c_ALL = "all" := rfl
theorem cCON : c_CON = "con" := rfl
theorem cREC : c_REC = "rec" := rfl
theorem cVAR : c_VAR = "var" := rfl
theorem cARROW : c_ARROW = "->" := rfl
section
variable {A : Ads} {ws : List Str} {k : Nat}
/-- what stands at a level -/
structure At4 (A : Ads) (ws : List Str) (F : Fns) (p : PS4) : Prop where
  w : ∀ n, n ≤ ws.length → Ans A ws (F.Reader_whole [.own (rd A ws n)]) (p.w n)
  a : ∀ n, n ≤ ws.length → Ans A ws (F.Reader_applied [.own (rd A ws n)]) (p.a n)
  o : ∀ n, n ≤ ws.length → Ans A ws (F.Reader_one [.own (rd A ws n)]) (p.o n)
  r : ∀ n, n < ws.length → hd ws n = "{" → Ans A ws (F.Reader_record [.own (rd A ws n)]) (p.r n)
/-- the small methods at a level -/
structure Sm (A : Ads) (ws : List Str) (F : Fns) : Prop where
  head : ∀ n, F.Reader_head [.own (rd A ws n)] = .ok (.pv (.str (hd ws n)), [rd A ws n])
  fail : ∀ n, n < 700 → F.Reader_fail [.own (rd A ws n)] = fErr n
  isv : ∀ n, F.Reader_is_variable [.own (rd A ws n)] = .ok (.pv (.bl (isV (hd ws n))), [rd A ws n])
  need : ∀ n w, n < 700 → Ok w → F.Reader_need [.own (rd A ws n), .pv (.str w)] = if hd ws n = w then .ok (.pv .non, [rd A ws (n + 1)]) else fErr n
theorem sm_of (hw : Wds ws) (j : Nat) : Sm A ws (FN A (j + 3)) := ⟨fun n => run_head A (j + 2) ws n, fun n h => run_fail A (j + 2) ws h, fun n => run_isV A (j + 1) ws n hw, fun n w h o => run_need A (j + 1) ws hw h o⟩
section
variable {F : Fns} {b : Bool} {r : Ev} {n m : Nat}
theorem Sm_mh (s : Sm A ws F) : mMeth A.Reader 1 "head" F.Reader_head (mPeek 0) toA0 (.own b (rd A ws n) :: r) = .ok (.pv (.str (hd ws n)), .own b (rd A ws n) :: r) := meth0 (lkn (by decide) (by decide)) (s.head n)
theorem Sm_mf (s : Sm A ws F) (h : n < 700) : mMeth A.Reader 1 "fail" F.Reader_fail (mPeek 0) toA0 (.own b (rd A ws n) :: r) = .err "TextError" [("code", .str "form"), ("at", .int n)] := meth0_err (lkn (by decide) (by decide)) (s.fail n h)
theorem Sm_mv (s : Sm A ws F) : mMeth A.Reader 1 "is_variable" F.Reader_is_variable (mPeek 0) toA0 (.own b (rd A ws n) :: r) = .ok (.pv (.bl (isV (hd ws n))), .own b (rd A ws n) :: r) := meth0 (lkn (by decide) (by decide)) (s.isv n)
theorem Sm_mn (s : Sm A ws F) {w : Str} (h : n < 700) (o : Ok w) (e : hd ws n = w) : mMeth A.Reader 2 "need" F.Reader_need (mPeek 0) (toA1 (toP (mC (.str w))) toA0) (.own b (rd A ws n) :: r) = .ok (.pv .non, .own b (rd A ws (n + 1)) :: r) :=
  meth1 (by decide) (by decide) (by rw [s.need n w h o, if_pos e])
theorem Sm_mne (s : Sm A ws F) {w : Str} (h : n < 700) (o : Ok w) (e : hd ws n ≠ w) : mMeth A.Reader 2 "need" F.Reader_need (mPeek 0) (toA1 (toP (mC (.str w))) toA0) (.own b (rd A ws n) :: r) = .err "TextError" [("code", .str "form"), ("at", .int n)] :=
  meth1_err (by decide) (by decide) (by rw [s.need n w h o, if_neg e])
theorem inc' : mAugF A.Reader "at" fIAdd (mPeek 0) (toP (mC (.int 1))) (.own b (rd A ws n) :: r) = .ok (.nx, .own b (rd A ws (n + 1)) :: r) := run_inc
end
/-- whole -/
theorem step_w (hw : Wds ws) (hl : ws.length ≤ 600) {F : Fns} {p : PS4} (s : Sm A ws F) (q : At4 A ws F p) {n : Nat} (hn : n ≤ ws.length) : Ans A ws (fnBody 3 (m_Reader_whole A F) [.own (rd A ws n)]) ((pStep ws p).w n) := by
  have hs : startE 3 [.own (rd A ws n)] = [.own true (rd A ws n), .no, .no] := by simp [startE, toSl]
  have d := hd_wd hw n
  have ka : Ok ("all" : Str) := by decide +kernel
  have kr : Ok ("->" : Str) := by decide +kernel
  have kd : Ok ("." : Str) := by decide +kernel
  by_cases h : hd ws n = "all"
  · have n1 : n < ws.length := hd_lt (by rw [h]; decide)
    have d1 := hd_wd hw (n + 1)
    by_cases h1 : (isV (hd ws (n + 1)) || isTail (hd ws (n + 1))) = true
    · have n2 : n + 1 < ws.length := hd_lt (by
        rcases Bool.or_eq_true_iff.mp h1 with z | z
        · exact isV_ne z
        · exact isTail_ne z)
      have h1' : isV (hd ws (n + 1)) = true ∨ Txt.startswith (hd ws (n + 1)) "^" = true := Bool.or_eq_true_iff.mp h1
      by_cases h2 : hd ws (n + 2) = "."
      · have n3 : n + 2 < ws.length := hd_lt (by rw [h2]; decide)
        have e := q.w (n + 3) (by omega)
        have em : (pStep ws p).w n = (match p.w (n + 3) with
          | .ok t m => .ok (.all (hd ws (n + 1)) t) m
          | .err m => .err m
          | .bad => .bad) := by simp only [pStep, h, if_true, h1, h2] <;> rfl
        rw [em]
        have mn := Sm_mn s (n := n + 1 + 1) (by omega) kd h2 (b := true) (r := [.pv (.str (hd ws (n + 1))), .no])
        cases hp : p.w (n + 3) with
        | bad => exact trivial
        | err m =>
          rw [hp] at e
          obtain ⟨e, hm⟩ := e
          have mw := meth0_err (A := A) (nm := "whole") (b := true) (r := [.pv (.str (hd ws (n + 1))), .no]) (lkn (by decide) (by decide)) e
          refine ⟨?_, hm⟩
          show endF _ (m_Reader_whole A F (startE 3 [.own (rd A ws n)])) = _
          rw [hs]
          rcases h1' with z | z
          · simp [m_Reader_whole, mSeq, mIf, mtB, mtOr, mtNot, mtV, mOp2, toP, mV, mC, mPeek, mVar, Pk.get, Sl.cnt, Own.pv, mSetC, gR, gN, thenS, mNext, trv_bl, mStrM, isStr, okIf, toA1, toA0, getC, fSw, mDropC, mRet, mRetC, mTup, endF, outs, getAll, Res.of, two_le, three_le, cALL, cCON, cREC, cVAR, inc', Sm_mh s, Sm_mv s, h, eq_str ka ka, z, mn, mw]
          · by_cases y : isV (hd ws (n + 1)) = true <;> simp [m_Reader_whole, mSeq, mIf, mtB, mtOr, mtNot, mtV, mOp2, toP, mV, mC, mPeek, mVar, Pk.get, Sl.cnt, Own.pv, mSetC, gR, gN, thenS, mNext, trv_bl, mStrM, isStr, okIf, toA1, toA0, getC, fSw, mDropC, mRet, mRetC, mTup, endF, outs, getAll, Res.of, two_le, three_le, cALL, cCON, cREC, cVAR, inc', Sm_mh s, Sm_mv s, h, eq_str ka ka, z, y, mn, mw]
        | ok t m =>
          rw [hp] at e
          obtain ⟨e, hm⟩ := e
          have mw := meth0 (A := A) (nm := "whole") (b := true) (r := [.pv (.str (hd ws (n + 1))), .no]) (lkn (by decide) (by decide)) e
          refine ⟨?_, hm⟩
          show endF _ (m_Reader_whole A F (startE 3 [.own (rd A ws n)])) = _
          rw [hs]
          rcases h1' with z | z
          · simp [m_Reader_whole, mSeq, mIf, mtB, mtOr, mtNot, mtV, mOp2, toP, mV, mC, mPeek, mVar, Pk.get, Sl.cnt, Own.pv, mSetC, gR, gN, thenS, mNext, trv_bl, mStrM, isStr, okIf, toA1, toA0, getC, fSw, mDropC, mRet, mRetC, mTup, endF, outs, getAll, Res.of, two_le, three_le, cALL, cCON, cREC, cVAR, inc', Sm_mh s, Sm_mv s, h, eq_str ka ka, z, mn, mw, enc]
          · by_cases y : isV (hd ws (n + 1)) = true <;> simp [m_Reader_whole, mSeq, mIf, mtB, mtOr, mtNot, mtV, mOp2, toP, mV, mC, mPeek, mVar, Pk.get, Sl.cnt, Own.pv, mSetC, gR, gN, thenS, mNext, trv_bl, mStrM, isStr, okIf, toA1, toA0, getC, fSw, mDropC, mRet, mRetC, mTup, endF, outs, getAll, Res.of, two_le, three_le, cALL, cCON, cREC, cVAR, inc', Sm_mh s, Sm_mv s, h, eq_str ka ka, z, y, mn, mw, enc]
      · have em : (pStep ws p).w n = .err (n + 2) := by simp only [pStep, h, if_true, h1, h2, if_false]
        rw [em]
        have mn := Sm_mne s (n := n + 1 + 1) (by omega) kd h2 (b := true) (r := [.pv (.str (hd ws (n + 1))), .no])
        refine ⟨?_, by omega⟩
        show endF _ (m_Reader_whole A F (startE 3 [.own (rd A ws n)])) = _
        rw [hs]
        rcases h1' with z | z
        · simp [m_Reader_whole, mSeq, mIf, mtB, mtOr, mtNot, mtV, mOp2, toP, mV, mC, mPeek, mVar, Pk.get, Sl.cnt, Own.pv, mSetC, gR, gN, thenS, mNext, trv_bl, mStrM, isStr, okIf, toA1, toA0, getC, fSw, mDropC, mRet, mRetC, mTup, endF, outs, getAll, Res.of, two_le, three_le, cALL, cCON, cREC, cVAR, inc', Sm_mh s, Sm_mv s, h, eq_str ka ka, z, mn]; omega
        · by_cases y : isV (hd ws (n + 1)) = true <;> (simp [m_Reader_whole, mSeq, mIf, mtB, mtOr, mtNot, mtV, mOp2, toP, mV, mC, mPeek, mVar, Pk.get, Sl.cnt, Own.pv, mSetC, gR, gN, thenS, mNext, trv_bl, mStrM, isStr, okIf, toA1, toA0, getC, fSw, mDropC, mRet, mRetC, mTup, endF, outs, getAll, Res.of, two_le, three_le, cALL, cCON, cREC, cVAR, inc', Sm_mh s, Sm_mv s, h, eq_str ka ka, z, y, mn]; omega)
    · have em : (pStep ws p).w n = .err (n + 1) := by simp only [pStep, h, if_true, if_neg h1]
      rw [em]
      have mf := Sm_mf s (n := n + 1) (by omega) (b := true) (r := [.pv (.str (hd ws (n + 1))), .no])
      simp only [Bool.or_eq_true, not_or, isTail] at h1
      refine ⟨?_, by omega⟩
      show endF _ (m_Reader_whole A F (startE 3 [.own (rd A ws n)])) = _
      rw [hs]
      simp [m_Reader_whole, mSeq, mIf, mtB, mtOr, mtNot, mtV, mOp2, toP, mV, mC, mPeek, mVar, Pk.get, Sl.cnt, Own.pv, mSetC, gR, gN, thenS, mNext, trv_bl, mStrM, isStr, okIf, toA1, toA0, getC, fSw, mDropC, mRet, mRetC, mTup, endF, outs, getAll, Res.of, two_le, three_le, cALL, cCON, cREC, cVAR, inc', Sm_mh s, Sm_mv s, h, eq_str ka ka, h1.1, h1.2, mf]
  · have e := q.a n hn
    cases hp : p.a n with
    | bad =>
      have em : (pStep ws p).w n = .bad := by simp only [pStep, h, if_false, hp]
      rw [em]
      exact trivial
    | err m =>
      have em : (pStep ws p).w n = .err m := by simp only [pStep, h, if_false, hp]
      rw [hp] at e
      obtain ⟨e, hm⟩ := e
      rw [em]
      have ma := meth0_err (A := A) (nm := "applied") (b := true) (r := [.no, .no]) (lkn (by decide) (by decide)) e
      refine ⟨?_, hm⟩
      show endF _ (m_Reader_whole A F (startE 3 [.own (rd A ws n)])) = _
      rw [hs]
      simp [m_Reader_whole, mSeq, mIf, mtB, mtOr, mtNot, mtV, mOp2, toP, mV, mC, mPeek, mVar, Pk.get, Sl.cnt, Own.pv, mSetC, gR, gN, thenS, mNext, trv_bl, mStrM, isStr, okIf, toA1, toA0, getC, fSw, mDropC, mRet, mRetC, mTup, endF, outs, getAll, Res.of, two_le, three_le, cALL, cCON, cREC, cVAR, inc', Sm_mh s, Sm_mv s, h, eq_str d.ok ka, ma]
    | ok f m =>
      rw [hp] at e
      obtain ⟨e, hm⟩ := e
      have ma := meth0 (A := A) (nm := "applied") (b := true) (r := [.no, .no]) (lkn (by decide) (by decide)) e
      have dm := hd_wd hw m
      by_cases h2 : hd ws m = "->"
      · have m1 : m < ws.length := hd_lt (by rw [h2]; decide)
        have e2 := q.w (m + 1) (by omega)
        have em : (pStep ws p).w n = (match p.w (m + 1) with
          | .ok t m' => .ok (.con "Fun" [f, t]) m'
          | .err m => .err m
          | .bad => .bad) := by simp only [pStep, h, if_false, hp, h2] <;> rfl
        rw [em]
        cases hp2 : p.w (m + 1) with
        | bad => exact trivial
        | err m2 =>
          rw [hp2] at e2
          obtain ⟨e2, hm2⟩ := e2
          have mw := meth0_err (A := A) (nm := "whole") (b := true) (r := [.no, .pv (enc f)]) (lkn (by decide) (by decide)) e2
          refine ⟨?_, hm2⟩
          show endF _ (m_Reader_whole A F (startE 3 [.own (rd A ws n)])) = _
          rw [hs]
          simp [m_Reader_whole, mSeq, mIf, mtB, mtOr, mtNot, mtV, mOp2, toP, mV, mC, mPeek, mVar, Pk.get, Sl.cnt, Own.pv, mSetC, gR, gN, thenS, mNext, trv_bl, mStrM, isStr, okIf, toA1, toA0, getC, fSw, mDropC, mRet, mRetC, mTup, endF, outs, getAll, Res.of, two_le, three_le, cALL, cCON, cREC, cVAR, inc', Sm_mh s, Sm_mv s, h, eq_str d.ok ka, ma, cARROW, h2, eq_str kr kr, mw]
        | ok t m2 =>
          rw [hp2] at e2
          obtain ⟨e2, hm2⟩ := e2
          have mw := meth0 (A := A) (nm := "whole") (b := true) (r := [.no, .pv (enc f)]) (lkn (by decide) (by decide)) e2
          refine ⟨?_, hm2⟩
          show endF _ (m_Reader_whole A F (startE 3 [.own (rd A ws n)])) = _
          rw [hs]
          simp [m_Reader_whole, mSeq, mIf, mtB, mtOr, mtNot, mtV, mOp2, toP, mV, mC, mPeek, mVar, Pk.get, Sl.cnt, Own.pv, mSetC, gR, gN, thenS, mNext, trv_bl, mStrM, isStr, okIf, toA1, toA0, getC, fSw, mDropC, mRet, mRetC, mTup, endF, outs, getAll, Res.of, two_le, three_le, cALL, cCON, cREC, cVAR, inc', Sm_mh s, Sm_mv s, h, eq_str d.ok ka, ma, cARROW, h2, eq_str kr kr, mw, enc, encs]
      · have em : (pStep ws p).w n = .ok f m := by simp only [pStep, h, if_false, hp, h2]
        rw [em]
        refine ⟨?_, hm⟩
        show endF _ (m_Reader_whole A F (startE 3 [.own (rd A ws n)])) = _
        rw [hs]
        simp [m_Reader_whole, mSeq, mIf, mtB, mtOr, mtNot, mtV, mOp2, toP, mV, mC, mPeek, mVar, Pk.get, Sl.cnt, Own.pv, mSetC, gR, gN, thenS, mNext, trv_bl, mStrM, isStr, okIf, toA1, toA0, getC, fSw, mDropC, mRet, mRetC, mTup, endF, outs, getAll, Res.of, two_le, three_le, cALL, cCON, cREC, cVAR, inc', Sm_mh s, Sm_mv s, h, eq_str d.ok ka, ma, cARROW, h2, eq_str dm.ok kr]
end
end K03
namespace K03
open PySem PySem.Spec L2 PL
/-! M5: one; applied -/
theorem em_ok : Ok ("" : Str) := by decide +kernel
theorem po_ok : Ok ("(" : Str) := by decide +kernel
theorem pc_ok : Ok (")" : Str) := by decide +kernel
theorem bo_ok : Ok ("{" : Str) := by decide +kernel
/-- the test on a word's first sign -/
theorem eq_t1 {w v : Str} (h : Ok w) (h2 : Ok v) {x : Sl} {r : Ev} : mtB (mOp2 fEq (mPeek 1) (toP (mC (.str v)))) (x :: .pv (.str w) :: r) = .ok (decide (w = v), x :: .pv (.str w) :: r) := by
  simp [mtB, mOp2, mPeek, toP, mC, Pk.get, Sl.cnt, eq_str h h2]
theorem high_t {w : Str} (h : Wd w) {i : Nat} {ρ : Ev} (hi : ρ[i]? = some (.pv (.str w))) : mtOr (mtB (mOp2 fEq (mPeek i) (toP (mC (.str ""))))) (mtB (mOp2 (fIn true) (toP (mOp2 fIx (mPeek i) (toP (mC (.int 0))))) (toP (mC (.str c_HIGH))))) ρ = .ok (!isH w, ρ) := by
  by_cases e : w = ""
  · subst e
    have : isH "" = false := by decide +kernel
    rw [this]
    simp [mtOr, mtB, mOp2, mPeek, hi, toP, mC, Pk.get, Sl.cnt, eq_str em_ok em_ok]
  · obtain ⟨c, hc⟩ := c0_some e
    have e1 := ix_str (z1000 h.len) hc
    have : isH w = decide (c ∈ c_HIGH.cps.toList) := by simp [isH, inS, hc]
    rw [this]
    simp [mtOr, mtB, mOp2, mPeek, hi, toP, mC, Pk.get, Sl.cnt, eq_str h.ok em_ok, e, e1, in_chr]
section
variable {A : Ads} {ws : List Str} {k : Nat}
theorem step_o (hw : Wds ws) (hl : ws.length ≤ 600) {F : Fns} {p : PS4} (s : Sm A ws F) (q : At4 A ws F p) {n : Nat} (hn : n ≤ ws.length) : Ans A ws (fnBody 3 (m_Reader_one A F) [.own (rd A ws n)]) ((pStep ws p).o n) := by
  have hs : startE 3 [.own (rd A ws n)] = [.own true (rd A ws n), .no, .no] := by simp [startE, toSl]
  have d := hd_wd hw n
  by_cases h : isV (hd ws n) = true
  · have n1 : n < ws.length := hd_lt (isV_ne h)
    have em : (pStep ws p).o n = .ok (.var (hd ws n)) (n + 1) := by simp only [pStep, h, if_true]
    rw [em]
    refine ⟨?_, by omega⟩
    show endF _ (m_Reader_one A F (startE 3 [.own (rd A ws n)])) = _
    rw [hs]
    simp [m_Reader_one, mSeq, mIf, mtB, mtOr, mtNot, mtV, mOp2, toP, mV, mC, mPeek, mVar, Pk.get, Sl.cnt, Own.pv, mSetC, gR, gN, thenS, mNext, trv_bl, mStrM, isStr, okIf, toA1, toA0, getC, fSw, mDropC, mRet, mRetC, mTup, endF, outs, getAll, Res.of, two_le, three_le, cALL, cCON, cREC, cVAR, inc', Sm_mh s, Sm_mv s, h, enc]
  · have h : isV (hd ws n) = false := by simpa using h
    by_cases h2 : hd ws n = "("
    · have n1 : n < ws.length := hd_lt (by rw [h2]; decide)
      have e := q.w (n + 1) (by omega)
      have em : (pStep ws p).o n = (match p.w (n + 1) with
        | .ok t m => if hd ws m = ")" then .ok t (m + 1) else .err m
        | .err m => .err m
        | .bad => .bad) := by simp only [pStep, h, h2] <;> rfl
      rw [em]
      cases hp : p.w (n + 1) with
      | bad => exact trivial
      | err m =>
        rw [hp] at e
        obtain ⟨e, hm⟩ := e
        have mw := meth0_err (A := A) (nm := "whole") (b := true) (r := [.pv (.str (hd ws n)), .no]) (lkn (by decide) (by decide)) e
        refine ⟨?_, hm⟩
        show endF _ (m_Reader_one A F (startE 3 [.own (rd A ws n)])) = _
        rw [hs]
        rw [h2] at mw h
        simp [m_Reader_one, mSeq, mIf, mtB, mtOr, mtNot, mtV, mOp2, toP, mV, mC, mPeek, mVar, Pk.get, Sl.cnt, Own.pv, mSetC, gR, gN, thenS, mNext, trv_bl, mStrM, isStr, okIf, toA1, toA0, getC, fSw, mDropC, mRet, mRetC, mTup, endF, outs, getAll, Res.of, two_le, three_le, cALL, cCON, cREC, cVAR, inc', Sm_mh s, Sm_mv s, h2, h, eq_str po_ok po_ok, mw]
      | ok t m =>
        rw [hp] at e
        obtain ⟨e, hm⟩ := e
        have mw := meth0 (A := A) (nm := "whole") (b := true) (r := [.pv (.str (hd ws n)), .no]) (lkn (by decide) (by decide)) e
        by_cases h3 : hd ws m = ")"
        · have m1 : m < ws.length := hd_lt (by rw [h3]; decide)
          have mn := Sm_mn s (n := m) (by omega) pc_ok h3 (b := true) (r := [.pv (.str (hd ws n)), .pv (enc t)])
          show Ans _ _ _ (if hd ws m = ")" then .ok t (m + 1) else .err m)
          rw [if_pos h3]
          refine ⟨?_, by omega⟩
          show endF _ (m_Reader_one A F (startE 3 [.own (rd A ws n)])) = _
          rw [hs]
          rw [h2] at mw mn h
          simp [m_Reader_one, mSeq, mIf, mtB, mtOr, mtNot, mtV, mOp2, toP, mV, mC, mPeek, mVar, Pk.get, Sl.cnt, Own.pv, mSetC, gR, gN, thenS, mNext, trv_bl, mStrM, isStr, okIf, toA1, toA0, getC, fSw, mDropC, mRet, mRetC, mTup, endF, outs, getAll, Res.of, two_le, three_le, cALL, cCON, cREC, cVAR, inc', Sm_mh s, Sm_mv s, h2, h, eq_str po_ok po_ok, mw, mn]
        · have mn := Sm_mne s (n := m) (by omega) pc_ok h3 (b := true) (r := [.pv (.str (hd ws n)), .pv (enc t)])
          show Ans _ _ _ (if hd ws m = ")" then .ok t (m + 1) else .err m)
          rw [if_neg h3]
          refine ⟨?_, by omega⟩
          show endF _ (m_Reader_one A F (startE 3 [.own (rd A ws n)])) = _
          rw [hs]
          rw [h2] at mw mn h
          simp [m_Reader_one, mSeq, mIf, mtB, mtOr, mtNot, mtV, mOp2, toP, mV, mC, mPeek, mVar, Pk.get, Sl.cnt, Own.pv, mSetC, gR, gN, thenS, mNext, trv_bl, mStrM, isStr, okIf, toA1, toA0, getC, fSw, mDropC, mRet, mRetC, mTup, endF, outs, getAll, Res.of, two_le, three_le, cALL, cCON, cREC, cVAR, inc', Sm_mh s, Sm_mv s, h2, h, eq_str po_ok po_ok, mw, mn]
    · by_cases h3 : hd ws n = "{"
      · have n1 : n < ws.length := hd_lt (by rw [h3]; decide)
        have e := q.r n n1 h3
        have em : (pStep ws p).o n = p.r n := by
          have ha : isV "{" = false := by decide +kernel
          have hb : ("{" : Str) ≠ "(" := by decide
          simp [pStep, h3, ha, hb]
        rw [em]
        have hx : ("{" : Str) ≠ "(" := by decide
        cases hp : p.r n with
        | bad => exact trivial
        | err m =>
          rw [hp] at e
          obtain ⟨e, hm⟩ := e
          have mw := meth0_err (A := A) (nm := "record") (b := true) (r := [.pv (.str (hd ws n)), .no]) (lkn (by decide) (by decide)) e
          refine ⟨?_, hm⟩
          show endF _ (m_Reader_one A F (startE 3 [.own (rd A ws n)])) = _
          rw [hs]
          rw [h3] at mw h
          simp [m_Reader_one, mSeq, mIf, mtB, mtOr, mtNot, mtV, mOp2, toP, mV, mC, mPeek, mVar, Pk.get, Sl.cnt, Own.pv, mSetC, gR, gN, thenS, mNext, trv_bl, mStrM, isStr, okIf, toA1, toA0, getC, fSw, mDropC, mRet, mRetC, mTup, endF, outs, getAll, Res.of, two_le, three_le, cALL, cCON, cREC, cVAR, inc', Sm_mh s, Sm_mv s, h3, h, eq_str bo_ok po_ok, eq_str bo_ok bo_ok, hx, mw]
        | ok t m =>
          rw [hp] at e
          obtain ⟨e, hm⟩ := e
          have mw := meth0 (A := A) (nm := "record") (b := true) (r := [.pv (.str (hd ws n)), .no]) (lkn (by decide) (by decide)) e
          refine ⟨?_, hm⟩
          show endF _ (m_Reader_one A F (startE 3 [.own (rd A ws n)])) = _
          rw [hs]
          rw [h3] at mw h
          simp [m_Reader_one, mSeq, mIf, mtB, mtOr, mtNot, mtV, mOp2, toP, mV, mC, mPeek, mVar, Pk.get, Sl.cnt, Own.pv, mSetC, gR, gN, thenS, mNext, trv_bl, mStrM, isStr, okIf, toA1, toA0, getC, fSw, mDropC, mRet, mRetC, mTup, endF, outs, getAll, Res.of, two_le, three_le, cALL, cCON, cREC, cVAR, inc', Sm_mh s, Sm_mv s, h3, h, eq_str bo_ok po_ok, eq_str bo_ok bo_ok, hx, mw]
      · have hh := high_t d (i := 1) (ρ := [.own true (rd A ws n), .pv (.str (hd ws n)), .no]) rfl
        have e1 := eq_t1 d.ok po_ok (x := .own true (rd A ws n)) (r := [.no])
        have e2 := eq_t1 d.ok bo_ok (x := .own true (rd A ws n)) (r := [.no])
        by_cases h4 : isH (hd ws n) = true
        · have n1 : n < ws.length := hd_lt (isH_ne h4)
          have em : (pStep ws p).o n = .ok (.con (hd ws n) []) (n + 1) := by simp [pStep, h, h2, h3, h4]
          rw [em]
          refine ⟨?_, by omega⟩
          show endF _ (m_Reader_one A F (startE 3 [.own (rd A ws n)])) = _
          rw [hs]
          simp [m_Reader_one, mSeq, mIf, mtNot, mtV, toP, mV, mC, mPeek, mVar, Pk.get, Sl.cnt, Own.pv, mSetC, gR, gN, thenS, mNext, trv_bl, mStrM, isStr, okIf, toA1, toA0, getC, fSw, mDropC, mRet, mRetC, mTup, endF, outs, getAll, Res.of, two_le, three_le, cALL, cCON, cREC, cVAR, inc', Sm_mh s, Sm_mv s, h, e1, e2, hh, h2, h3, h4, enc, encs]
        · have h4 : isH (hd ws n) = false := by simpa using h4
          have em : (pStep ws p).o n = .err n := by simp [pStep, h, h2, h3, h4]
          have mf := Sm_mf s (n := n) (by omega) (b := true) (r := [.pv (.str (hd ws n)), .no])
          rw [em]
          refine ⟨?_, hn⟩
          show endF _ (m_Reader_one A F (startE 3 [.own (rd A ws n)])) = _
          rw [hs]
          simp [m_Reader_one, mSeq, mIf, mtNot, mtV, toP, mV, mC, mPeek, mVar, Pk.get, Sl.cnt, Own.pv, mSetC, gR, gN, thenS, mNext, trv_bl, mStrM, isStr, okIf, toA1, toA0, getC, fSw, mDropC, mRet, mRetC, mTup, endF, outs, getAll, Res.of, two_le, three_le, cALL, cCON, cREC, cVAR, inc', Sm_mh s, Sm_mv s, h, e1, e2, hh, h2, h3, h4, mf]
end
end K03
namespace K03
open PySem PySem.Spec L2 PL
/-! M6: applied -/
theorem cut1_nil : cutS "" none (some 1) = "" := by decide +kernel
theorem cut1 {w : Str} {c : Nat} (h : c0 w = some c) : cutS w none (some 1) = chr1 c := by
  obtain ⟨⟨l⟩⟩ := w
  cases l with
  | nil => cases h
  | cons a l =>
    have h : some a = some c := h
    cases h
    have e : (⟨⟨c :: l⟩⟩ : Str).length = l.length + 1 := rfl
    simp [cutS, chr1, e, HT.sIx]
theorem eqS_str {a b : Str} : eqS (.str a) (.str b) = (a == b) := rfl
theorem chr_beq {a c : Nat} : (chr1 a == chr1 c) = decide (a = c) := by
  by_cases h : a = c
  · subst h; simp
  · have : chr1 a ≠ chr1 c := by
      intro e
      apply h
      simpa [chr1] using e
    simp [this, h]
theorem any_chr {c : Nat} : ∀ l : List Nat, (l.map fun a => PV.str (chr1 a)).any (fun y => eqS y (.str (chr1 c))) = decide (c ∈ l)
  | [] => by simp
  | a :: l => by
    have ih := any_chr (c := c) l
    rw [List.map_cons, List.any_cons, ih, eqS_str, chr_beq]
    simp only [List.mem_cons]
    by_cases h : a = c
    · simp [h]
    · have h' : ¬ c = a := fun e => h e.symm
      simp [h, h']
theorem any_nil : ∀ l : List Nat, (l.map fun a => PV.str (chr1 a)).any (fun y => eqS y (.str "")) = false
  | [] => rfl
  | a :: l => by
    have : (chr1 a == "") = false := by
      have : chr1 a ≠ "" := by
        intro e
        have : (chr1 a).cps.toList = ("" : Str).cps.toList := by rw [e]
        have h2 : ("" : Str).cps.toList = [] := by decide +kernel
        rw [h2] at this
        simp [chr1] at this
      simp [this]
    rw [List.map_cons, List.any_cons, any_nil l, eqS_str, this]; rfl
theorem all_chr : ∀ l : List Nat, (l.map fun a => PV.str (chr1 a)).all sca = true
  | [] => rfl
  | a :: l => by simp [List.map_cons, List.all_cons, all_chr l, sca]
theorem in_high {w : Str} : fIn false (.str (cutS w none (some 1))) (.tup (c_HIGH.cps.toList.map fun a => .str (chr1 a))) = some (.bl (isH w)) := by
  by_cases e : w = ""
  · subst e
    have : isH "" = false := by decide +kernel
    rw [this, cut1_nil]
    simp only [fIn, inP, all_chr, any_nil, sca]
    simp
  · obtain ⟨c, hc⟩ := c0_some e
    have : isH w = decide (c ∈ c_HIGH.cps.toList) := by simp [isH, inS, hc]
    rw [this, cut1 hc]
    simp only [fIn, inP, all_chr, any_chr, sca]
    simp
theorem hi_len : c_HIGH.length ≤ sizeLine := by decide +kernel
theorem in_open {w : Str} : fIn false (.str w) (.tup [.str "(", .str "{"]) = some (.bl (decide (w = "(") || decide (w = "{"))) := by
  have e1 : (("(" : Str) == w) = decide (w = "(") := by
    by_cases h : w = "("
    · subst h; simp
    · have : ¬ ("(" : Str) = w := fun e => h e.symm
      simp [h, this]
  have e2 : (("{" : Str) == w) = decide (w = "{") := by
    by_cases h : w = "{"
    · subst h; simp
    · have : ¬ ("{" : Str) = w := fun e => h e.symm
      simp [h, this]
  simp [fIn, inP, sca, eqS, e1, e2]
section
variable {A : Ads} {ws : List Str} {k : Nat} {F : Fns} {p : PS4}
/-- the test of the parts' loop -/
theorem more_t (hw : Wds ws) (s : Sm A ws F) {n : Nat} {b : Bool} {r : Ev} : mtOr (mtV (toP (mV (mMeth A.Reader 1 "is_variable" F.Reader_is_variable (mPeek 0) toA0)))) (mtOr (mtB (mOp2 (fIn false) (toP (mSlice (toP (mV (mMeth A.Reader 1 "head" F.Reader_head (mPeek 0) toA0))) moN (moS (toP (mC (.int 1)))))) (toP (mFun fTupS (toA1 (toP (mC (.str c_HIGH))) toA0))))) (mtB (mOp2 (fIn false) (toP (mV (mMeth A.Reader 1 "head" F.Reader_head (mPeek 0) toA0))) (toP (mTup (toA1 (toP (mC (.str "("))) (toA1 (toP (mC (.str "{"))) toA0))))))) (.own b (rd A ws n) :: r) = .ok (more (hd ws n), .own b (rd A ws n) :: r) := by
  have d := hd_wd hw n
  have z := z1000 d.len
  simp [mSeq, mIf, mtB, mtOr, mtNot, mtV, mOp2, toP, mV, mC, mPeek, mVar, Pk.get, Sl.cnt, Own.pv, mSetC, gR, gN, thenS, mNext, trv_bl, mStrM, isStr, okIf, toA1, toA0, getC, fSw, mDropC, mRet, mRetC, mTup, endF, outs, getAll, Res.of, two_le, three_le, cALL, cCON, cREC, cVAR, inc', Sm_mh s, Sm_mv s, mSlice, moN, moS, fSl, z, mFun, fTupS, hi_len, in_high, in_open]
  cases h1 : isV (hd ws n) <;> cases h2 : isH (hd ws n) <;> simp [more, h1, h2]
theorem loopW_f {t : MT} {m : MS} {n : Nat} {ρ ρ1 : Ev} (h : t ρ = .ok (false, ρ1)) : loopW t m (n + 1) ρ = .ok (.nx, ρ1) := by
  simp [loopW, h]
theorem loopW_nx {t : MT} {m : MS} {n : Nat} {ρ ρ1 ρ2 : Ev} (h : t ρ = .ok (true, ρ1)) (h2 : m ρ1 = .ok (.nx, ρ2)) : loopW t m (n + 1) ρ = loopW t m n ρ2 := by
  simp [loopW, h, h2, stepW]
theorem loopW_bk {t : MT} {m : MS} {n : Nat} {ρ ρ1 ρ2 : Ev} (h : t ρ = .ok (true, ρ1)) (h2 : m ρ1 = .ok (.bk, ρ2)) : loopW t m (n + 1) ρ = .ok (.nx, ρ2) := by
  simp [loopW, h, h2, stepW]
theorem loopW_err {t : MT} {m : MS} {n : Nat} {ρ ρ1 : Ev} {c : Str} {xs : List (Str × PV)} (h : t ρ = .ok (true, ρ1)) (h2 : m ρ1 = .err c xs) : loopW t m (n + 1) ρ = .err c xs := by
  simp [loopW, h, h2]
theorem encs_app : ∀ (l : List T) (t : T), encs (l ++ [t]) = encs l ++ [enc t]
  | [], t => by simp [encs]
  | a :: l, t => by simp [encs, encs_app l t]
theorem encs_len : ∀ l : List T, (encs l).length = l.length
  | [] => rfl
  | a :: l => by simp [encs, encs_len l]
theorem z2000 {n : Nat} (h : n < 1000) : n < sizeLine := by rw [sizeLine_eq]; omega
def tA (A : Ads) (F : Fns) : MT := (mtOr (mtV (toP (mV (mMeth A.Reader 1 "is_variable" F.Reader_is_variable (mPeek 0) toA0)))) (mtOr (mtB (mOp2 (fIn false) (toP (mSlice (toP (mV (mMeth A.Reader 1 "head" F.Reader_head (mPeek 0) toA0))) moN (moS (toP (mC (.int 1)))))) (toP (mFun fTupS (toA1 (toP (mC (.str c_HIGH))) toA0))))) (mtB (mOp2 (fIn false) (toP (mV (mMeth A.Reader 1 "head" F.Reader_head (mPeek 0) toA0))) (toP (mTup (toA1 (toP (mC (.str "("))) (toA1 (toP (mC (.str "{"))) toA0))))))))
def bA (A : Ads) (F : Fns) : MS := (mDrop (toP (mAppend (mPeek 2) (toA1 (toP (mV (mMeth A.Reader 1 "one" F.Reader_one (mPeek 0) toA0))) toA0))))
theorem loop_a (hw : Wds ws) (s : Sm A ws F) (q : At4 A ws F p) {w : Str} : ∀ (f fuel : Nat), f ≤ fuel → ∀ (n : Nat) (acc : List T), n ≤ ws.length → acc.length + f ≤ 1000 →
    (match pL p.o ws f n acc with
    | .ok l m => loopW (tA A F) (bA A F) fuel [.own true (rd A ws n), .pv (.str w), .own false (.lst (encs acc))] = .ok (.nx, [.own true (rd A ws m), .pv (.str w), .own false (.lst (encs l))]) ∧ m ≤ ws.length ∧ l.length ≤ 1000
    | .err m => loopW (tA A F) (bA A F) fuel [.own true (rd A ws n), .pv (.str w), .own false (.lst (encs acc))] = .err "TextError" [("code", .str "form"), ("at", .int m)] ∧ m ≤ ws.length
    | .bad => True) := by
  intro f
  induction f with
  | zero => intro fuel h n acc hn ha; exact trivial
  | succ f ih =>
    intro fuel h n acc hn ha
    obtain ⟨fuel, rfl⟩ : ∃ g, fuel = g + 1 := ⟨fuel - 1, by omega⟩
    have ht : tA A F [.own true (rd A ws n), .pv (.str w), .own false (.lst (encs acc))] = .ok (more (hd ws n), [.own true (rd A ws n), .pv (.str w), .own false (.lst (encs acc))]) := more_t hw s
    cases hm : more (hd ws n) with
    | false =>
      have e : pL p.o ws (f + 1) n acc = .ok acc n := by simp [pL, hm]
      rw [e]
      refine ⟨?_, hn, by omega⟩
      exact loopW_f (by rw [ht, hm])
    | true =>
      have e : pL p.o ws (f + 1) n acc = (match p.o n with
        | .ok t m => pL p.o ws f m (acc ++ [t])
        | .err m => .err m
        | .bad => .bad) := by simp only [pL, hm]; rfl
      rw [e]
      have o := q.o n hn
      cases hp : p.o n with
      | bad => exact trivial
      | err m =>
        rw [hp] at o
        obtain ⟨o, hm'⟩ := o
        have mo := meth0_err (A := A) (nm := "one") (b := true) (r := [.pv (.str w), .own false (.lst (encs acc))]) (lkn (by decide) (by decide)) o
        refine ⟨?_, hm'⟩
        refine loopW_err (by rw [ht, hm]) ?_
        simp [bA, mSeq, mIf, mtB, mtOr, mtNot, mtV, mOp2, toP, mV, mC, mPeek, mVar, Pk.get, Sl.cnt, Own.pv, mSetC, gR, gN, thenS, mNext, trv_bl, mStrM, isStr, okIf, toA1, toA0, getC, fSw, mDropC, mRet, mRetC, mTup, endF, outs, getAll, Res.of, two_le, three_le, cALL, cCON, cREC, cVAR, inc', Sm_mh s, Sm_mv s, mDrop, mAppend, isLstAt, mo]
      | ok t m =>
        rw [hp] at o
        obtain ⟨o, hm'⟩ := o
        have mo := meth0 (A := A) (nm := "one") (b := true) (r := [.pv (.str w), .own false (.lst (encs acc))]) (lkn (by decide) (by decide)) o
        have hb : bA A F [.own true (rd A ws n), .pv (.str w), .own false (.lst (encs acc))] = .ok (.nx, [.own true (rd A ws m), .pv (.str w), .own false (.lst (encs (acc ++ [t])))]) := by
          have z : (encs acc).length < sizeLine := by rw [encs_len]; exact z2000 (by omega)
          simp [bA, mSeq, mIf, mtB, mtOr, mtNot, mtV, mOp2, toP, mV, mC, mPeek, mVar, Pk.get, Sl.cnt, Own.pv, mSetC, gR, gN, thenS, mNext, trv_bl, mStrM, isStr, okIf, toA1, toA0, getC, fSw, mDropC, mRet, mRetC, mTup, endF, outs, getAll, Res.of, two_le, three_le, cALL, cCON, cREC, cVAR, inc', Sm_mh s, Sm_mv s, mDrop, mAppend, isLstAt, mo, appAt, z, encs_app]
        have := ih fuel (by omega) m (acc ++ [t]) hm' (by simp; omega)
        have hl : loopW (tA A F) (bA A F) (fuel + 1) [.own true (rd A ws n), .pv (.str w), .own false (.lst (encs acc))] = loopW (tA A F) (bA A F) fuel [.own true (rd A ws m), .pv (.str w), .own false (.lst (encs (acc ++ [t])))] := by
          exact loopW_nx (by rw [ht, hm]) hb
        rw [hl]
        exact this
end
end K03
namespace K03
open PySem PySem.Spec L2 PL
/-! M7: applied -/
section
variable {A : Ads} {ws : List Str} {k : Nat} {F : Fns} {p : PS4}
theorem z2001 {n : Nat} (h : n ≤ 1000) : n ≤ sizeLine := by rw [sizeLine_eq]; omega
theorem step_a (hw : Wds ws) (hl : ws.length ≤ 600) (s : Sm A ws F) (q : At4 A ws F p) {n : Nat} (hn : n ≤ ws.length) : Ans A ws (fnBody 3 (m_Reader_applied A F) [.own (rd A ws n)]) ((pStep ws p).a n) := by
  have hs : startE 3 [.own (rd A ws n)] = [.own true (rd A ws n), .no, .no] := by simp [startE, toSl]
  have d := hd_wd hw n
  have hh := high_t d (i := 1) (ρ := [.own true (rd A ws n), .pv (.str (hd ws n)), .no]) rfl
  by_cases h : isH (hd ws n) = true
  · have n1 : n < ws.length := hd_lt (isH_ne h)
    have em : (pStep ws p).a n = (match pL p.o ws 1000 (n + 1) [] with
      | .ok l m => .ok (.con (hd ws n) l) m
      | .err m => .err m
      | .bad => .bad) := by simp only [pStep, h, if_true] <;> rfl
    rw [em]
    have lp := loop_a hw s q (w := hd ws n) 1000 1000000 (by omega) (n + 1) [] (by omega) (by simp)
    cases hp : pL p.o ws 1000 (n + 1) [] with
    | bad => exact trivial
    | err m =>
      rw [hp] at lp
      obtain ⟨lp, hm⟩ := lp
      refine ⟨?_, hm⟩
      show endF _ (m_Reader_applied A F (startE 3 [.own (rd A ws n)])) = _
      rw [hs]
      unfold m_Reader_applied
      change loopW (mtOr (mtV _) _) (mDrop _) 1000000 _ = _ at lp
      simp only [encs] at lp
      simp [mSeq, mIf, mtNot, mtV, toP, mV, mC, mPeek, mVar, Pk.get, Sl.cnt, Own.pv, mSetC, gR, gN, thenS, mNext, trv_bl, mStrM, isStr, okIf, toA1, toA0, getC, fSw, mDropC, mRet, mRetC, mTup, endF, outs, getAll, Res.of, two_le, three_le, cALL, cCON, cREC, cVAR, inc', Sm_mh s, Sm_mv s, hh, h, mSetL, gO, lp]
    | ok l m =>
      rw [hp] at lp
      obtain ⟨lp, hm, hl'⟩ := lp
      refine ⟨?_, hm⟩
      show endF _ (m_Reader_applied A F (startE 3 [.own (rd A ws n)])) = _
      rw [hs]
      unfold m_Reader_applied
      change loopW (mtOr (mtV _) _) (mDrop _) 1000000 _ = _ at lp
      simp only [encs] at lp
      simp [mSeq, mIf, mtNot, mtV, toP, mV, mC, mPeek, mVar, Pk.get, Sl.cnt, Own.pv, mSetC, gR, gN, thenS, mNext, trv_bl, mStrM, isStr, okIf, toA1, toA0, getC, fSw, mDropC, mRet, mRetC, mTup, endF, outs, getAll, Res.of, two_le, three_le, cALL, cCON, cREC, cVAR, inc', Sm_mh s, Sm_mv s, hh, h, mSetL, gO, lp, mFun, fTupOf, enc]
  · have h : isH (hd ws n) = false := by simpa using h
    have em : (pStep ws p).a n = p.o n := by simp [pStep, h]
    rw [em]
    have e := q.o n hn
    cases hp : p.o n with
    | bad => exact trivial
    | err m =>
      rw [hp] at e
      obtain ⟨e, hm⟩ := e
      have mw := meth0_err (A := A) (nm := "one") (b := true) (r := [.pv (.str (hd ws n)), .no]) (lkn (by decide) (by decide)) e
      refine ⟨?_, hm⟩
      show endF _ (m_Reader_applied A F (startE 3 [.own (rd A ws n)])) = _
      rw [hs]
      simp [m_Reader_applied, mSeq, mIf, mtNot, mtV, toP, mV, mC, mPeek, mVar, Pk.get, Sl.cnt, Own.pv, mSetC, gR, gN, thenS, mNext, trv_bl, mStrM, isStr, okIf, toA1, toA0, getC, fSw, mDropC, mRet, mRetC, mTup, endF, outs, getAll, Res.of, two_le, three_le, cALL, cCON, cREC, cVAR, inc', Sm_mh s, Sm_mv s, hh, h, mw]
    | ok t m =>
      rw [hp] at e
      obtain ⟨e, hm⟩ := e
      have mw := meth0 (A := A) (nm := "one") (b := true) (r := [.pv (.str (hd ws n)), .no]) (lkn (by decide) (by decide)) e
      refine ⟨?_, hm⟩
      show endF _ (m_Reader_applied A F (startE 3 [.own (rd A ws n)])) = _
      rw [hs]
      simp [m_Reader_applied, mSeq, mIf, mtNot, mtV, toP, mV, mC, mPeek, mVar, Pk.get, Sl.cnt, Own.pv, mSetC, gR, gN, thenS, mNext, trv_bl, mStrM, isStr, okIf, toA1, toA0, getC, fSw, mDropC, mRet, mRetC, mTup, endF, outs, getAll, Res.of, two_le, three_le, cALL, cCON, cREC, cVAR, inc', Sm_mh s, Sm_mv s, hh, h, mw]
end
end K03
namespace K03
open PySem PySem.Spec L2 PL
/-! M8: records -/
def encd (l : List (Str × T)) : List (Str × PV) := l.map fun e => (e.1, enc e.2)
theorem encd_len (l : List (Str × T)) : (encd l).length = l.length := by simp [encd]
def has (a : Str) (l : List (Str × T)) : Bool := l.any (fun e => decide (e.1 = a))
theorem encd_any (a : Str) : ∀ l : List (Str × T), (encd l).any (fun kv => decide (kv.1 = a)) = l.any (fun e => decide (e.1 = a))
  | [] => rfl
  | e :: l => by
    have ih := encd_any a l
    simp only [encd] at ih
    simp [encd, ih]
theorem lookP_any (a : Str) : ∀ l : List (Str × T), (lookP a (encd l)).isSome = l.any (fun e => decide (e.1 = a))
  | [] => rfl
  | e :: l => by
    have ih := lookP_any a l
    simp only [encd, lookP] at ih
    by_cases h : a = e.1
    · subst h
      simp [encd, lookP, List.lookup]
    · have h2 : ¬ e.1 = a := fun x => h x.symm
      have h3 : (a == e.1) = false := by simpa using h
      simp [encd, lookP, List.lookup, h3, h2, ih]
theorem in_dct {a : Str} {l : List (Str × T)} : fIn false (.str a) (.dct (encd l)) = some (.bl (has a l)) := by
  simp [fIn, inP, lookP_any, has]
theorem putD_new {a : Str} {l : List (Str × T)} {t : T} (h : has a l = false) : putD a (enc t) (encd l) = encd (l ++ [(a, t)]) := by
  have h2 := encd_any a l
  rw [show l.any (fun e => decide (e.1 = a)) = false from h] at h2
  simp only [putD, h2]
  simp [encd]
theorem co_ok : Ok (":" : Str) := by decide +kernel
theorem cm_ok : Ok ("," : Str) := by decide +kernel
section
variable {A : Ads} {ws : List Str} {k : Nat} {F : Fns} {p : PS4}
def tR (A : Ads) (F : Fns) : MT := mtV (toP (mV (mMeth A.Reader 1 "is_variable" F.Reader_is_variable (mPeek 0) toA0)))
def bR (A : Ads) (F : Fns) : MS := (mSeq (mSetC 2 (mMeth A.Reader 1 "head" F.Reader_head (mPeek 0) toA0))
  (mSeq (mIf (mtB (mOp2 (fIn false) (mPeek 2) (mPeek 1)))
  (mDropC (mMeth A.Reader 1 "fail" F.Reader_fail (mPeek 0) toA0))
  mNext)
  (mSeq (mAugF A.Reader "at" fIAdd (mPeek 0) (toP (mC (.int 1))))
  (mSeq (mDropC (mMeth A.Reader 2 "need" F.Reader_need (mPeek 0) (toA1 (toP (mC (.str ":"))) toA0)))
  (mSeq (mPut (mV (mMeth A.Reader 1 "whole" F.Reader_whole (mPeek 0) toA0)) (mPeek 1) (mPeek 2))
  (mSeq (mIf (mtB (mOp2 fNe (toP (mV (mMeth A.Reader 1 "head" F.Reader_head (mPeek 0) toA0))) (toP (mC (.str ",")))))
  (fun ρ => .ok (.bk, ρ))
  mNext)
  (mSeq (mAugF A.Reader "at" fIAdd (mPeek 0) (toP (mC (.int 1))))
  (mIf (mtNot (mtV (toP (mV (mMeth A.Reader 1 "is_variable" F.Reader_is_variable (mPeek 0) toA0)))))
  (mDropC (mMeth A.Reader 1 "fail" F.Reader_fail (mPeek 0) toA0))
  mNext))))))))
/-- one turn of the loop -/
theorem turn_r (hw : Wds ws) (hl : ws.length ≤ 600) (s : Sm A ws F) (q : At4 A ws F p) {n : Nat} {acc : List (Str × T)} {x : Sl} (hx : x = .no ∨ ∃ v, x = .pv v) (hn : n ≤ ws.length) (ha : acc.length < 1000) (hv : isV (hd ws n) = true) :
    (if has (hd ws n) acc then bR A F [.own true (rd A ws n), .own false (.dct (encd acc)), x, .no] = .err "TextError" [("code", .str "form"), ("at", .int n)]
    else if hd ws (n + 1) = ":" then match p.w (n + 2) with
      | .ok t m => m ≤ ws.length ∧ (if hd ws m = "," then if isV (hd ws (m + 1)) then bR A F [.own true (rd A ws n), .own false (.dct (encd acc)), x, .no] = .ok (.nx, [.own true (rd A ws (m + 1)), .own false (.dct (encd (acc ++ [(hd ws n, t)]))), .pv (.str (hd ws n)), .no])
          else bR A F [.own true (rd A ws n), .own false (.dct (encd acc)), x, .no] = .err "TextError" [("code", .str "form"), ("at", .int (m + 1 : Nat))]
        else bR A F [.own true (rd A ws n), .own false (.dct (encd acc)), x, .no] = .ok (.bk, [.own true (rd A ws m), .own false (.dct (encd (acc ++ [(hd ws n, t)]))), .pv (.str (hd ws n)), .no]))
      | .err m => m ≤ ws.length ∧ bR A F [.own true (rd A ws n), .own false (.dct (encd acc)), x, .no] = .err "TextError" [("code", .str "form"), ("at", .int m)]
      | .bad => True
    else bR A F [.own true (rd A ws n), .own false (.dct (encd acc)), x, .no] = .err "TextError" [("code", .str "form"), ("at", .int (n + 1 : Nat))]) := by
  have n1 : n < ws.length := hd_lt (isV_ne hv)
  have z : (encd acc).length < sizeLine := by rw [encd_len]; exact z2000 (by omega)
  have hset : ∀ ρ : Ev, mSetC 2 (mMeth A.Reader 1 "head" F.Reader_head (mPeek 0) toA0) [.own true (rd A ws n), .own false (.dct (encd acc)), x, .no] = .ok (.nx, [.own true (rd A ws n), .own false (.dct (encd acc)), .pv (.str (hd ws n)), .no]) := by
    intro _
    rcases hx with rfl | ⟨v, rfl⟩ <;> simp [mSeq, mIf, mtB, mtOr, mtNot, mtV, mOp2, toP, mV, mC, mPeek, mVar, Pk.get, Sl.cnt, Own.pv, mSetC, gR, gN, thenS, mNext, trv_bl, mStrM, isStr, okIf, toA1, toA0, getC, fSw, mDropC, mRet, mRetC, mTup, endF, outs, getAll, Res.of, two_le, three_le, cALL, cCON, cREC, cVAR, inc', Sm_mh s, Sm_mv s,]
  have hset := hset []
  by_cases h1 : has (hd ws n) acc = true
  · rw [if_pos h1]
    have mf := Sm_mf s (n := n) (by omega) (b := true) (r := [.own false (.dct (encd acc)), .pv (.str (hd ws n)), .no])
    unfold bR
    rw [mSeq, hset]
    simp [mSeq, mIf, mtB, mtOr, mtNot, mtV, mOp2, toP, mV, mC, mPeek, mVar, Pk.get, Sl.cnt, Own.pv, mSetC, gR, gN, thenS, mNext, trv_bl, mStrM, isStr, okIf, toA1, toA0, getC, fSw, mDropC, mRet, mRetC, mTup, endF, outs, getAll, Res.of, two_le, three_le, cALL, cCON, cREC, cVAR, inc', Sm_mh s, Sm_mv s, in_dct, h1, mf]
  · rw [if_neg h1]
    have h1 : has (hd ws n) acc = false := by simpa using h1
    by_cases h2 : hd ws (n + 1) = ":"
    · rw [if_pos h2]
      have n2 : n + 1 < ws.length := hd_lt (by rw [h2]; decide)
      have mn := Sm_mn s (n := n + 1) (by omega) co_ok h2 (b := true) (r := [.own false (.dct (encd acc)), .pv (.str (hd ws n)), .no])
      have e := q.w (n + 2) (by omega)
      cases hp : p.w (n + 2) with
      | bad => exact trivial
      | err m =>
        rw [hp] at e
        obtain ⟨e, hm⟩ := e
        refine ⟨hm, ?_⟩
        have mw := meth0_err (A := A) (nm := "whole") (b := true) (r := [.own false (.dct (encd acc)), .pv (.str (hd ws n)), .no]) (lkn (by decide) (by decide)) e
        unfold bR
        rw [mSeq, hset]
        simp [mSeq, mIf, mtB, mtOr, mtNot, mtV, mOp2, toP, mV, mC, mPeek, mVar, Pk.get, Sl.cnt, Own.pv, mSetC, gR, gN, thenS, mNext, trv_bl, mStrM, isStr, okIf, toA1, toA0, getC, fSw, mDropC, mRet, mRetC, mTup, endF, outs, getAll, Res.of, two_le, three_le, cALL, cCON, cREC, cVAR, inc', Sm_mh s, Sm_mv s, in_dct, h1, mn, mPut, mw]
      | ok t m =>
        rw [hp] at e
        obtain ⟨e, hm⟩ := e
        refine ⟨hm, ?_⟩
        have dm := hd_wd hw m
        have mw := meth0 (A := A) (nm := "whole") (b := true) (r := [.own false (.dct (encd acc)), .pv (.str (hd ws n)), .no]) (lkn (by decide) (by decide)) e
        by_cases h3 : hd ws m = ","
        · rw [if_pos h3]
          have m1 : m < ws.length := hd_lt (by rw [h3]; decide)
          by_cases h4 : isV (hd ws (m + 1)) = true
          · rw [if_pos h4]
            unfold bR
            rw [mSeq, hset]
            simp [mSeq, mIf, mtB, mtOr, mtNot, mtV, mOp2, toP, mV, mC, mPeek, mVar, Pk.get, Sl.cnt, Own.pv, mSetC, gR, gN, thenS, mNext, trv_bl, mStrM, isStr, okIf, toA1, toA0, getC, fSw, mDropC, mRet, mRetC, mTup, endF, outs, getAll, Res.of, two_le, three_le, cALL, cCON, cREC, cVAR, inc', Sm_mh s, Sm_mv s, in_dct, h1, mn, mPut, mw, PL.putAt, z, putD_new h1, h3, ne_str cm_ok cm_ok, h4]
          · rw [if_neg h4]
            have mf := Sm_mf s (n := m + 1) (by omega) (b := true) (r := [.own false (.dct (encd (acc ++ [(hd ws n, t)]))), .pv (.str (hd ws n)), .no])
            have h4 : isV (hd ws (m + 1)) = false := by simpa using h4
            unfold bR
            rw [mSeq, hset]
            simp [mSeq, mIf, mtB, mtOr, mtNot, mtV, mOp2, toP, mV, mC, mPeek, mVar, Pk.get, Sl.cnt, Own.pv, mSetC, gR, gN, thenS, mNext, trv_bl, mStrM, isStr, okIf, toA1, toA0, getC, fSw, mDropC, mRet, mRetC, mTup, endF, outs, getAll, Res.of, two_le, three_le, cALL, cCON, cREC, cVAR, inc', Sm_mh s, Sm_mv s, in_dct, h1, mn, mPut, mw, PL.putAt, z, putD_new h1, h3, ne_str cm_ok cm_ok, h4, mf]
        · rw [if_neg h3]
          unfold bR
          rw [mSeq, hset]
          simp [mSeq, mIf, mtB, mtOr, mtNot, mtV, mOp2, toP, mV, mC, mPeek, mVar, Pk.get, Sl.cnt, Own.pv, mSetC, gR, gN, thenS, mNext, trv_bl, mStrM, isStr, okIf, toA1, toA0, getC, fSw, mDropC, mRet, mRetC, mTup, endF, outs, getAll, Res.of, two_le, three_le, cALL, cCON, cREC, cVAR, inc', Sm_mh s, Sm_mv s, in_dct, h1, mn, mPut, mw, PL.putAt, z, putD_new h1, ne_str dm.ok cm_ok, h3]
    · rw [if_neg h2]
      have mn := Sm_mne s (n := n + 1) (by omega) co_ok h2 (b := true) (r := [.own false (.dct (encd acc)), .pv (.str (hd ws n)), .no])
      unfold bR
      rw [mSeq, hset]
      simp [mSeq, mIf, mtB, mtOr, mtNot, mtV, mOp2, toP, mV, mC, mPeek, mVar, Pk.get, Sl.cnt, Own.pv, mSetC, gR, gN, thenS, mNext, trv_bl, mStrM, isStr, okIf, toA1, toA0, getC, fSw, mDropC, mRet, mRetC, mTup, endF, outs, getAll, Res.of, two_le, three_le, cALL, cCON, cREC, cVAR, inc', Sm_mh s, Sm_mv s, in_dct, h1, mn]
end
end K03
namespace K03
open PySem PySem.Spec L2 PL
/-! M9: records, the whole reader -/
theorem bc_ok : Ok ("}" : Str) := by decide +kernel
theorem bar_ok : Ok ("|" : Str) := by decide +kernel
theorem encf_eq : ∀ l : List (Str × T), encf l = (encd l).map itemP
  | [] => rfl
  | (k, t) :: l => by
    have ih := encf_eq l
    simp only [encd] at ih
    simp [encf, encd, itemP, ih]
theorem sort_encd (l : List (Str × T)) : sortG (encd l) = encd (sortG l) := by
  have ins : ∀ (e : Str × T) (l : List (Str × T)), insG (e.1, enc e.2) (encd l) = encd (insG e l) := by
    intro e l
    induction l with
    | nil => rfl
    | cons f r ih =>
      simp only [encd, List.map_cons] at ih ⊢
      simp only [insG]
      split
      · simp [ih]
      · rfl
  induction l with
  | nil => rfl
  | cons e r ih =>
    simp only [sortG, ← ins e (sortG r), ← ih]
    rfl
section
variable {A : Ads} {ws : List Str} {k : Nat} {F : Fns} {p : PS4}
theorem loop_r (hw : Wds ws) (hl : ws.length ≤ 600) (s : Sm A ws F) (q : At4 A ws F p) : ∀ (f fuel : Nat), f ≤ fuel → ∀ (n : Nat) (acc : List (Str × T)) (x : Sl), (x = .no ∨ ∃ v, x = .pv v) → n ≤ ws.length → acc.length + f ≤ 1000 →
    (match pF p.w ws f n acc with
    | .ok l m => (∃ y, (y = .no ∨ ∃ v, y = Sl.pv v) ∧ loopW (tR A F) (bR A F) fuel [.own true (rd A ws n), .own false (.dct (encd acc)), x, .no] = .ok (.nx, [.own true (rd A ws m), .own false (.dct (encd l)), y, .no])) ∧ m ≤ ws.length ∧ l.length ≤ 1000
    | .err m => loopW (tR A F) (bR A F) fuel [.own true (rd A ws n), .own false (.dct (encd acc)), x, .no] = .err "TextError" [("code", .str "form"), ("at", .int m)] ∧ m ≤ ws.length
    | .bad => True) := by
  intro f
  induction f with
  | zero => intro fuel h n acc x hx hn ha; exact trivial
  | succ f ih =>
    intro fuel h n acc x hx hn ha
    obtain ⟨fuel, rfl⟩ : ∃ g, fuel = g + 1 := ⟨fuel - 1, by omega⟩
    have ht : tR A F [.own true (rd A ws n), .own false (.dct (encd acc)), x, .no] = .ok (isV (hd ws n), [.own true (rd A ws n), .own false (.dct (encd acc)), x, .no]) := by
      simp [tR, mSeq, mIf, mtB, mtOr, mtNot, mtV, mOp2, toP, mV, mC, mPeek, mVar, Pk.get, Sl.cnt, Own.pv, mSetC, gR, gN, thenS, mNext, trv_bl, mStrM, isStr, okIf, toA1, toA0, getC, fSw, mDropC, mRet, mRetC, mTup, endF, outs, getAll, Res.of, two_le, three_le, cALL, cCON, cREC, cVAR, inc', Sm_mh s, Sm_mv s, trv]
    cases hv : isV (hd ws n) with
    | false =>
      have e : pF p.w ws (f + 1) n acc = .ok acc n := by simp [pF, hv]
      rw [e]
      exact ⟨⟨x, hx, loopW_f (by rw [ht, hv])⟩, hn, by omega⟩
    | true =>
      have n1 : n < ws.length := hd_lt (isV_ne hv)
      have ht : tR A F [.own true (rd A ws n), .own false (.dct (encd acc)), x, .no] = .ok (true, [.own true (rd A ws n), .own false (.dct (encd acc)), x, .no]) := by rw [ht, hv]
      have tn := turn_r hw hl s q (acc := acc) hx hn (by omega) hv
      by_cases h1 : has (hd ws n) acc = true
      · rw [if_pos h1] at tn
        have e : pF p.w ws (f + 1) n acc = .err n := by
          simp only [pF, hv, if_true]
          exact if_pos h1
        rw [e]
        exact ⟨loopW_err ht tn, hn⟩
      · rw [if_neg h1] at tn
        by_cases h2 : hd ws (n + 1) = ":"
        · have n2 : n + 1 < ws.length := hd_lt (by rw [h2]; decide)
          rw [if_pos h2] at tn
          have e : pF p.w ws (f + 1) n acc = (match p.w (n + 2) with
            | .ok t m => if hd ws m = "," then if isV (hd ws (m + 1)) then pF p.w ws f (m + 1) (acc ++ [(hd ws n, t)]) else .err (m + 1) else .ok (acc ++ [(hd ws n, t)]) m
            | .err m => .err m
            | .bad => .bad) := by
            simp only [pF, hv, if_true]
            exact (if_neg h1).trans (if_pos h2)
          rw [e]
          cases hp : p.w (n + 2) with
          | bad => exact trivial
          | err m =>
            rw [hp] at tn
            exact ⟨loopW_err ht tn.2, tn.1⟩
          | ok t m =>
            rw [hp] at tn
            obtain ⟨hm, tn⟩ := tn
            by_cases h3 : hd ws m = ","
            · have m1 : m < ws.length := hd_lt (by rw [h3]; decide)
              rw [if_pos h3] at tn
              show (match (if hd ws m = "," then _ else _ : PR (List (Str × T))) with
                | .ok l m => _ ∧ m ≤ ws.length ∧ l.length ≤ 1000
                | .err m => _ ∧ m ≤ ws.length
                | .bad => True)
              rw [if_pos h3]
              by_cases h4 : isV (hd ws (m + 1)) = true
              · rw [if_pos h4] at tn ⊢
                rw [loopW_nx ht tn]
                exact ih fuel (by omega) (m + 1) _ _ (.inr ⟨_, rfl⟩) (by omega) (by simp; omega)
              · rw [if_neg h4] at tn ⊢
                exact ⟨loopW_err ht tn, by omega⟩
            · rw [if_neg h3] at tn
              show (match (if hd ws m = "," then _ else _ : PR (List (Str × T))) with
                | .ok l m => _ ∧ m ≤ ws.length ∧ l.length ≤ 1000
                | .err m => _ ∧ m ≤ ws.length
                | .bad => True)
              rw [if_neg h3]
              exact ⟨⟨_, .inr ⟨_, rfl⟩, loopW_bk ht tn⟩, hm, by simp; omega⟩
        · rw [if_neg h2] at tn
          have e : pF p.w ws (f + 1) n acc = .err (n + 1) := by
            simp only [pF, hv, if_true]
            exact (if_neg h1).trans (if_neg h2)
          rw [e]
          exact ⟨loopW_err ht tn, by omega⟩
theorem step_r (hw : Wds ws) (hl : ws.length ≤ 600) (s : Sm A ws F) (q : At4 A ws F p) {n : Nat} (hn : n < ws.length) : Ans A ws (fnBody 4 (m_Reader_record A F) [.own (rd A ws n)]) ((pStep ws p).r n) := by
  have hs : startE 4 [.own (rd A ws n)] = [.own true (rd A ws n), .no, .no, .no] := by simp [startE, toSl]
  have em : (pStep ws p).r n = (match pF p.w ws 1000 (n + 1) [] with
    | .ok l m => if hd ws m = "|" then
        if isTail (hd ws (m + 1)) then if hd ws (m + 2) = "}" then .ok (.rcd (sortG l) (some (hd ws (m + 1)))) (m + 3) else .err (m + 2)
        else .err (m + 1)
      else if hd ws m = "}" then .ok (.rcd (sortG l) none) (m + 1) else .err m
    | .err m => .err m
    | .bad => .bad) := rfl
  rw [em]
  have lp := loop_r hw hl s q 1000 1000000 (by omega) (n + 1) [] .no (.inl rfl) (by omega) (by simp)
  cases hp : pF p.w ws 1000 (n + 1) [] with
  | bad => exact trivial
  | err m =>
    rw [hp] at lp
    obtain ⟨lp, hm⟩ := lp
    refine ⟨?_, hm⟩
    show endF _ (m_Reader_record A F (startE 4 [.own (rd A ws n)])) = _
    rw [hs]
    unfold m_Reader_record
    change loopW (mtV _) (mSeq _ _) 1000000 _ = _ at lp
    simp only [encd, List.map_nil] at lp
    simp [mSeq, mIf, mtB, mtOr, mtNot, mtV, mOp2, toP, mV, mC, mPeek, mVar, Pk.get, Sl.cnt, Own.pv, mSetC, gR, gN, thenS, mNext, trv_bl, mStrM, isStr, okIf, toA1, toA0, getC, fSw, mDropC, mRet, mRetC, mTup, endF, outs, getAll, Res.of, two_le, three_le, cALL, cCON, cREC, cVAR, inc', Sm_mh s, Sm_mv s, mSetD, gO, lp]
  | ok l m =>
    rw [hp] at lp
    obtain ⟨⟨y, hy, lp⟩, hm, hl'⟩ := lp
    change loopW (mtV _) (mSeq _ _) 1000000 _ = _ at lp
    simp only [encd, List.map_nil] at lp
    have dm := hd_wd hw m
    have rt : ∀ (m' : Nat) (v : PV) , (mRet (mTup (toA1 (toP (mC (.str "rec"))) (toA1 (toP (mFun fTupOf (toA1 (toP (mSortItems (mPeek 1))) toA0))) (toA1 (toP (mVar 3)) toA0))))) [.own true (rd A ws m'), .own false (.dct (encd l)), y, .pv v] = .ok (.rt (.pv (.tup [.str "rec", .tup (encf (sortG l)), v])), [.own true (rd A ws m'), .own false (.dct (encd l)), y, .pv v]) := by
      intro m' v
      simp [mSeq, mIf, mtB, mtOr, mtNot, mtV, mOp2, toP, mV, mC, mPeek, mVar, Pk.get, Sl.cnt, Own.pv, mSetC, gR, gN, thenS, mNext, trv_bl, mStrM, isStr, okIf, toA1, toA0, getC, fSw, mDropC, mRet, mRetC, mTup, endF, outs, getAll, Res.of, two_le, three_le, cALL, cCON, cREC, cVAR, inc', Sm_mh s, Sm_mv s, mFun, fTupOf, mSortItems, dctAt, sort_encd, encf_eq]
    simp only [encd] at rt
    by_cases h1 : hd ws m = "|"
    · have m1 : m < ws.length := hd_lt (by rw [h1]; decide)
      show Ans _ _ _ (if hd ws m = "|" then _ else _)
      rw [if_pos h1]
      by_cases h2 : isTail (hd ws (m + 1)) = true
      · have m2 : m + 1 < ws.length := hd_lt (isTail_ne h2)
        rw [if_pos h2]
        have h2 : Txt.startswith (hd ws (m + 1)) "^" = true := h2
        by_cases h3 : hd ws (m + 2) = "}"
        · have m3 : m + 2 < ws.length := hd_lt (by rw [h3]; decide)
          rw [if_pos h3]
          have mn := Sm_mn s (n := m + 1 + 1) (by omega) bc_ok h3 (b := true) (r := [.own false (.dct (encd l)), y, .pv (.str (hd ws (m + 1)))])
          refine ⟨?_, by omega⟩
          show endF _ (m_Reader_record A F (startE 4 [.own (rd A ws n)])) = _
          rw [hs]
          unfold m_Reader_record
          simp only [encd] at mn
          simp [mSeq, mIf, mtB, mtOr, mtNot, mtV, mOp2, toP, mV, mC, mPeek, mVar, Pk.get, Sl.cnt, Own.pv, mSetC, gR, gN, thenS, mNext, trv_bl, mStrM, isStr, okIf, toA1, toA0, getC, fSw, mDropC, mRetC, endF, outs, getAll, Res.of, two_le, three_le, cALL, cCON, cREC, cVAR, inc', Sm_mh s, Sm_mv s, mSetD, gO, lp, mAsg, h1, eq_str bar_ok bar_ok, h2, mn, rt, enc]
        · rw [if_neg h3]
          have mn := Sm_mne s (n := m + 1 + 1) (by omega) bc_ok h3 (b := true) (r := [.own false (.dct (encd l)), y, .pv (.str (hd ws (m + 1)))])
          refine ⟨?_, by omega⟩
          show endF _ (m_Reader_record A F (startE 4 [.own (rd A ws n)])) = _
          rw [hs]
          unfold m_Reader_record
          simp only [encd] at mn
          simp [mSeq, mIf, mtB, mtOr, mtNot, mtV, mOp2, toP, mV, mC, mPeek, mVar, Pk.get, Sl.cnt, Own.pv, mSetC, gR, gN, thenS, mNext, trv_bl, mStrM, isStr, okIf, toA1, toA0, getC, fSw, mDropC, mRetC, endF, outs, getAll, Res.of, two_le, three_le, cALL, cCON, cREC, cVAR, inc', Sm_mh s, Sm_mv s, mSetD, gO, lp, mAsg, h1, eq_str bar_ok bar_ok, h2, mn]
          omega
      · rw [if_neg h2]
        have h2 : Txt.startswith (hd ws (m + 1)) "^" = false := by simpa [isTail] using h2
        have mf := Sm_mf s (n := m + 1) (by omega) (b := true) (r := [.own false (.dct (encd l)), y, .pv (.str (hd ws (m + 1)))])
        refine ⟨?_, by omega⟩
        show endF _ (m_Reader_record A F (startE 4 [.own (rd A ws n)])) = _
        rw [hs]
        unfold m_Reader_record
        simp only [encd] at mf
        simp [mSeq, mIf, mtB, mtOr, mtNot, mtV, mOp2, toP, mV, mC, mPeek, mVar, Pk.get, Sl.cnt, Own.pv, mSetC, gR, gN, thenS, mNext, trv_bl, mStrM, isStr, okIf, toA1, toA0, getC, fSw, mDropC, mRetC, endF, outs, getAll, Res.of, two_le, three_le, cALL, cCON, cREC, cVAR, inc', Sm_mh s, Sm_mv s, mSetD, gO, lp, mAsg, h1, eq_str bar_ok bar_ok, h2, mf]
    · show Ans _ _ _ (if hd ws m = "|" then _ else _)
      rw [if_neg h1]
      by_cases h3 : hd ws m = "}"
      · have m3 : m < ws.length := hd_lt (by rw [h3]; decide)
        rw [if_pos h3]
        have mn := Sm_mn s (n := m) (by omega) bc_ok h3 (b := true) (r := [.own false (.dct (encd l)), y, .pv .non])
        refine ⟨?_, by omega⟩
        show endF _ (m_Reader_record A F (startE 4 [.own (rd A ws n)])) = _
        rw [hs]
        unfold m_Reader_record
        simp only [encd] at mn
        simp [mSeq, mIf, mtB, mtOr, mtNot, mtV, mOp2, toP, mV, mC, mPeek, mVar, Pk.get, Sl.cnt, Own.pv, mSetC, gR, gN, thenS, mNext, trv_bl, mStrM, isStr, okIf, toA1, toA0, getC, fSw, mDropC, mRetC, endF, outs, getAll, Res.of, two_le, three_le, cALL, cCON, cREC, cVAR, inc', Sm_mh s, Sm_mv s, mSetD, gO, lp, mAsg, h1, eq_str dm.ok bar_ok, mn, rt, enc]
      · rw [if_neg h3]
        have mn := Sm_mne s (n := m) (by omega) bc_ok h3 (b := true) (r := [.own false (.dct (encd l)), y, .pv .non])
        refine ⟨?_, by omega⟩
        show endF _ (m_Reader_record A F (startE 4 [.own (rd A ws n)])) = _
        rw [hs]
        unfold m_Reader_record
        simp only [encd] at mn
        simp [mSeq, mIf, mtB, mtOr, mtNot, mtV, mOp2, toP, mV, mC, mPeek, mVar, Pk.get, Sl.cnt, Own.pv, mSetC, gR, gN, thenS, mNext, trv_bl, mStrM, isStr, okIf, toA1, toA0, getC, fSw, mDropC, mRetC, endF, outs, getAll, Res.of, two_le, three_le, cALL, cCON, cREC, cVAR, inc', Sm_mh s, Sm_mv s, mSetD, gO, lp, mAsg, h1, eq_str dm.ok bar_ok, mn]
/-! ### the reader is the mirror, at every level -/
theorem at4 (hw : Wds ws) (hl : ws.length ≤ 600) : ∀ k, At4 A ws (FN A (k + 3)) (pAt ws k)
  | 0 => ⟨fun _ _ => trivial, fun _ _ => trivial, fun _ _ => trivial, fun _ _ _ => trivial⟩
  | k + 1 => by
    have q := at4 hw hl k
    have s := sm_of (A := A) hw k
    exact ⟨fun n hn => step_w hw hl s q hn, fun n hn => step_a hw hl s q hn, fun n hn => step_o hw hl s q hn, fun n hn _ => step_r hw hl s q hn⟩
end
end K03
namespace K03
open PySem PySem.Spec L2 PL
/-! M10: words -/
abbrev sg (s : Str) : List Nat := s.cps.toList
theorem sg_len (s : Str) : (sg s).length = s.length := rfl
theorem sg_ext {a b : Str} (h : sg a = sg b) : a = b := by
  obtain ⟨⟨l⟩⟩ := a
  obtain ⟨⟨m⟩⟩ := b
  have h : l = m := h
  rw [h]
theorem sg_app (a b : Str) : sg (a ++ b) = sg a ++ sg b := by
  show (a ++ b).cps.toList = _
  rw [PySem.Str.cps_append, Array.toList_append]
theorem ixS {s : Str} {i : Nat} {c : Nat} (hl : s.length ≤ sizeLine) (h : (sg s)[i]? = some c) : fIx (.str s) (.int i) = some (.str (chr1 c)) := by
  have hi : i < (sg s).length := (List.getElem?_eq_some_iff.mp h).1
  have h1 : atI (sg s) (i : Int) = some c := by
    unfold atI ixN
    rw [if_pos (by omega), if_pos (by omega)]
    exact h
  show (if s.length ≤ sizeLine then (atI (sg s) (i : Int)).map fun c => PV.str ⟨#[c]⟩ else none) = _
  rw [if_pos hl, h1]
  rfl
/-! ### word_end -/
def inWord (c : Nat) : Bool := decide (c ∈ sg (c_LOW ++ c_HIGH ++ c_DIGITS ++ "'"))
/-- where a word that goes on at i ends; the list: what is from i on -/
def wEnd : List Nat → Nat → Nat
  | [], i => i
  | c :: r, i => if inWord c then wEnd r (i + 1) else i
section
variable {A : Ads} {F : Fns}
def tW : MT := (mtAnd (mtB (mOp2 fLt (mPeek 1) (toP (mFun fLen (toA1 (mPeek 0) toA0))))) (mtB (mOp2 (fIn false) (toP (mOp2 fIx (mPeek 0) (mPeek 1))) (toP (mOp2 fAdd (toP (mOp2 fAdd (toP (mOp2 fAdd (toP (mC (.str c_LOW))) (toP (mC (.str c_HIGH))))) (toP (mC (.str c_DIGITS))))) (toP (mC (.str "'"))))))))
theorem in_chr1 {c : Nat} {s : Str} : fIn false (.str (chr1 c)) (.str s) = some (.bl (decide (c ∈ sg s))) := in_chr
theorem f_add {a b : Str} (h : a.length + b.length ≤ sizeLine) : fAdd (.str a) (.str b) = some (.str (a ++ b)) := by
  simp [fAdd, h]
theorem add1 : fAdd (.str c_LOW) (.str c_HIGH) = some (.str (c_LOW ++ c_HIGH)) := f_add (by decide +kernel)
theorem add2 : fAdd (.str (c_LOW ++ c_HIGH)) (.str c_DIGITS) = some (.str (c_LOW ++ c_HIGH ++ c_DIGITS)) := f_add (by decide +kernel)
theorem add3 : fAdd (.str (c_LOW ++ c_HIGH ++ c_DIGITS)) (.str "'") = some (.str (c_LOW ++ c_HIGH ++ c_DIGITS ++ "'")) := f_add (by decide +kernel)
theorem run_tW {s : Str} {i : Nat} {r : Ev} (hl : s.length ≤ sizeLine) : tW (.pv (.str s) :: .pv (.int i) :: r) = .ok (match (sg s)[i]? with
    | some c => inWord c
    | none => false, .pv (.str s) :: .pv (.int i) :: r) := by
  cases h : (sg s)[i]? with
  | none =>
    have h1 : ¬ i < s.length := by
      rw [List.getElem?_eq_none_iff] at h
      exact Nat.not_lt.mpr h
    simp [tW, mSeq, mIf, mtB, mtOr, mtNot, mtV, mOp2, toP, mV, mC, mPeek, mVar, Pk.get, Sl.cnt, Own.pv, mSetC, gR, gN, thenS, mNext, trv_bl, mStrM, isStr, okIf, toA1, toA0, getC, fSw, mDropC, mRet, mRetC, mTup, endF, outs, getAll, Res.of, two_le, three_le, cALL, cCON, cREC, cVAR,  mtAnd, mFun, fLen, hl, fLt, fCmp, h1]
  | some c =>
    have h1 : i < s.length := (List.getElem?_eq_some_iff.mp h).1
    simp [tW, mSeq, mIf, mtB, mtOr, mtNot, mtV, mOp2, toP, mV, mC, mPeek, mVar, Pk.get, Sl.cnt, Own.pv, mSetC, gR, gN, thenS, mNext, trv_bl, mStrM, isStr, okIf, toA1, toA0, getC, fSw, mDropC, mRet, mRetC, mTup, endF, outs, getAll, Res.of, two_le, three_le, cALL, cCON, cREC, cVAR,  mtAnd, mFun, fLen, hl, fLt, fCmp, h1, ixS hl h, add1, add2, add3, in_chr1, inWord]
theorem loop_word {s : Str} (hl : s.length ≤ 1000) {r : Ev} : ∀ (k fuel i : Nat), s.length - i = k → i ≤ s.length → k < fuel →
    loopW tW (mAug 1 fIAdd (toP (mC (.int 1)))) fuel (.pv (.str s) :: .pv (.int i) :: r) = .ok (.nx, .pv (.str s) :: .pv (.int (wEnd ((sg s).drop i) i : Nat)) :: r) := by
  intro k
  induction k with
  | zero =>
    intro fuel i hk hi hf
    obtain ⟨fuel, rfl⟩ : ∃ g, fuel = g + 1 := ⟨fuel - 1, by omega⟩
    have e : i = s.length := by omega
    subst e
    have h0 : (sg s)[s.length]? = none := List.getElem?_eq_none_iff.mpr (Nat.le_refl _)
    have h1 : (sg s).drop s.length = [] := List.drop_eq_nil_of_le (Nat.le_refl _)
    have t := run_tW (s := s) (i := s.length) (r := r) (z2001 hl)
    rw [h0] at t
    rw [h1]
    exact loopW_f t
  | succ k ih =>
    intro fuel i hk hi hf
    obtain ⟨fuel, rfl⟩ : ∃ g, fuel = g + 1 := ⟨fuel - 1, by omega⟩
    have hi' : i < (sg s).length := by rw [sg_len]; omega
    have t := run_tW (s := s) (i := i) (r := r) (z2001 hl)
    rw [List.getElem?_eq_getElem hi'] at t
    rw [List.drop_eq_getElem_cons hi']
    cases hc : inWord (sg s)[i] with
    | false =>
      simp only [hc] at t
      simp only [wEnd, hc]
      exact loopW_f t
    | true =>
      simp only [hc] at t
      simp only [wEnd, hc, if_true]
      have b : mAug 1 fIAdd (toP (mC (.int 1))) (.pv (.str s) :: .pv (.int i) :: r) = .ok (.nx, .pv (.str s) :: .pv (.int (i + 1 : Nat)) :: r) := by
        simp [mAug, mSeq, mIf, mtB, mtOr, mtNot, mtV, mOp2, toP, mV, mC, mPeek, mVar, Pk.get, Sl.cnt, Own.pv, mSetC, gR, gN, thenS, mNext, trv_bl, mStrM, isStr, okIf, toA1, toA0, getC, fSw, mDropC, mRet, mRetC, mTup, endF, outs, getAll, Res.of, two_le, three_le, cALL, cCON, cREC, cVAR,  fIAdd]
      rw [loopW_nx t b]
      exact ih fuel (i + 1) (by omega) (by omega) (by omega)
theorem run_word_end (A : Ads) (j : Nat) {s : Str} {i : Nat} (hl : s.length ≤ 1000) (hi : i ≤ s.length) : (FN A (j + 1)).word_end [.pv (.str s), .pv (.int i)] = .ok (.pv (.int (wEnd ((sg s).drop i) i : Nat)), []) := by
  show endF _ (m_word_end A (FN A j) (startE 2 [.pv (.str s), .pv (.int i)])) = _
  have hs : startE 2 [.pv (.str s), .pv (.int i)] = [.pv (.str s), .pv (.int i)] := by simp [startE, toSl]
  rw [hs]
  have l := loop_word hl (r := []) (s.length - i) 1000000 i rfl hi (by omega)
  unfold m_word_end
  change loopW (mtAnd _ _) _ 1000000 _ = _ at l
  simp [mSeq, mIf, mtB, mtOr, mtNot, mtV, mOp2, toP, mV, mC, mPeek, mVar, Pk.get, Sl.cnt, Own.pv, mSetC, gR, gN, thenS, mNext, trv_bl, mStrM, isStr, okIf, toA1, toA0, getC, fSw, mDropC, mRet, mRetC, mTup, endF, outs, getAll, Res.of, two_le, three_le, cALL, cCON, cREC, cVAR,  l]
end
end K03
namespace K03
open PySem PySem.Spec L2 PL
/-! M11: the words of a text -/
def mkS (l : List Nat) : Str := ⟨⟨l⟩⟩
theorem sg_mk (l : List Nat) : sg (mkS l) = l := rfl
theorem mk_sg (s : Str) : mkS (sg s) = s := sg_ext rfl
theorem cut_mid {s : Str} {i e : Nat} (h1 : i ≤ e) (h2 : e ≤ s.length) : cutS s (some (i : Int)) (some (e : Int)) = mkS (((sg s).drop i).take (e - i)) := by
  have a1 : min i s.length = i := by omega
  have a2 : min e s.length = e := by omega
  apply sg_ext
  simp [cutS, HT.sIx_nat, a1, a2, sg_mk]
def carets : List Nat → Nat
  | [] => 0
  | c :: r => if c = 94 then carets r + 1 else 0
def wlen : List Nat → Nat
  | [] => 0
  | c :: r => if inWord c then wlen r + 1 else 0
theorem wEnd_eq : ∀ (l : List Nat) (i : Nat), wEnd l i = i + wlen l
  | [], i => rfl
  | c :: r, i => by
    unfold wEnd wlen
    split
    · rw [wEnd_eq r (i + 1)]; omega
    · rfl
def inLH (c : Nat) : Bool := decide (c ∈ sg (c_LOW ++ c_HIGH))
/-- how many signs the next word has; the first sign is not a blank -/
def nxt : List Nat → Option Nat
  | [] => none
  | c :: r => if inLH c then some (wlen (c :: r))
    else if c = 94 then some (1 + carets r + wlen (r.drop (carets r)))
    else if c = 45 ∧ r.head? = some 62 then some 2
    else if c ∈ sg c_SHORT then some 1 else none
inductive WR where
  | ok (ws : List Str) | err (n : Nat) | bad
def WR.cons (w : Str) : WR → WR
  | .ok ws => .ok (w :: ws)
  | .err n => .err n
  | .bad => .bad
def tok : Nat → List Nat → Nat → WR
  | 0, _, _ => .bad
  | _ + 1, [], _ => .ok []
  | f + 1, c :: r, p => if c = 32 then tok f r (p + 1) else match nxt (c :: r) with
    | some n => (tok f ((c :: r).drop n) (p + n)).cons (mkS ((c :: r).take n))
    | none => .err p
theorem wlen_le : ∀ l : List Nat, wlen l ≤ l.length
  | [] => Nat.le_refl _
  | c :: r => by
    have := wlen_le r
    unfold wlen
    split <;> simp only [List.length_cons] <;> omega
theorem carets_le : ∀ l : List Nat, carets l ≤ l.length
  | [] => Nat.le_refl _
  | c :: r => by
    have := carets_le r
    unfold carets
    split <;> simp only [List.length_cons] <;> omega
theorem inLH_word {c : Nat} (h : inLH c = true) : inWord c = true := by
  have h : c ∈ sg (c_LOW ++ c_HIGH) := of_decide_eq_true h
  refine decide_eq_true ?_
  rw [sg_app, sg_app]
  exact List.mem_append_left _ (List.mem_append_left _ h)
theorem nxt_le {l : List Nat} {n : Nat} (h : nxt l = some n) : 1 ≤ n ∧ n ≤ l.length := by
  cases l with
  | nil => cases h
  | cons c r =>
    have e : nxt (c :: r) = if inLH c then some (wlen (c :: r))
      else if c = 94 then some (1 + carets r + wlen (r.drop (carets r)))
      else if c = 45 ∧ r.head? = some 62 then some 2
      else if c ∈ sg c_SHORT then some 1 else none := rfl
    rw [e] at h
    have lc : (c :: r).length = r.length + 1 := rfl
    by_cases h1 : inLH c = true
    · rw [if_pos h1] at h
      have h2 : wlen (c :: r) = wlen r + 1 := if_pos (inLH_word h1)
      have h3 := wlen_le (c :: r)
      have h : wlen (c :: r) = n := Option.some.inj h
      omega
    · rw [if_neg h1] at h
      by_cases h2 : c = 94
      · rw [if_pos h2] at h
        have h := Option.some.inj h
        have h3 := carets_le r
        have h4 := wlen_le (r.drop (carets r))
        rw [List.length_drop] at h4
        omega
      · rw [if_neg h2] at h
        by_cases h3 : c = 45 ∧ r.head? = some 62
        · rw [if_pos h3] at h
          have h := Option.some.inj h
          cases r with
          | nil => cases h3.2
          | cons d r => simp only [List.length_cons]; omega
        · rw [if_neg h3] at h
          by_cases h4 : c ∈ sg c_SHORT
          · rw [if_pos h4] at h
            have h := Option.some.inj h
            omega
          · rw [if_neg h4] at h
            cases h
end K03
namespace K03
open PySem PySem.Spec L2 PL
/-! M12: words_in -/
theorem ok_of {s : Str} (h : ∀ c ∈ sg s, c < 1114112) : Ok s := by
  show s.cps.all (· < 0x110000) = true
  rw [Array.all_eq_true_iff_forall_mem]
  intro c hc
  exact decide_eq_true (h c (by simpa using hc))
theorem of_ok {s : Str} (h : Ok s) : ∀ c ∈ sg s, c < 1114112 := by
  have h : s.cps.all (· < 0x110000) = true := h
  rw [Array.all_eq_true_iff_forall_mem] at h
  intro c hc
  exact of_decide_eq_true (h c (by simpa using hc))
theorem ok_chr {c : Nat} (h : c < 1114112) : Ok (chr1 c) := ok_of (by
  intro d hd
  have : d = c := by simpa [chr1] using hd
  omega)
theorem chr_eq {c d : Nat} : (chr1 c = chr1 d) = (c = d) := by
  apply propext
  constructor
  · intro e
    have : sg (chr1 c) = sg (chr1 d) := by rw [e]
    simpa [chr1] using this
  · rintro rfl; rfl
theorem sp_chr : (" " : Str) = chr1 32 := by decide +kernel
theorem up_chr : ("^" : Str) = chr1 94 := by decide +kernel
theorem add_LH : fAdd (.str c_LOW) (.str c_HIGH) = some (.str (c_LOW ++ c_HIGH)) := add1
theorem arrow_mk : c_ARROW = mkS [45, 62] := by decide +kernel
theorem take2 {l : List Nat} {i : Nat} : (l.drop i).take 2 = [45, 62] ↔ l[i]? = some 45 ∧ l[i + 1]? = some 62 := by
  have e0 : l[i]? = (l.drop i)[0]? := by simp
  have e1 : l[i + 1]? = (l.drop i)[1]? := by simp
  rw [e0, e1]
  cases l.drop i with
  | nil => simp
  | cons a m => cases m with
    | nil => simp
    | cons b m => simp
theorem from_nat {n i : Nat} : fromIndex n (i : Int) = i := by
  unfold fromIndex
  rw [if_neg (by omega)]
  omega
theorem sw3_arrow {s : Str} {i : Nat} (hi : i < s.length) : Txt.startswith3 s c_ARROW i = decide ((sg s)[i]? = some 45 ∧ (sg s)[i + 1]? = some 62) := by
  have ha : c_ARROW.length = 2 := by decide +kernel
  have hb : c_ARROW.cps = ⟨[45, 62]⟩ := by decide +kernel
  have hx : Builtin.Str.subAt s c_ARROW i = decide ((sg s)[i]? = some 45 ∧ (sg s)[i + 1]? = some 62) := by
    unfold Builtin.Str.subAt
    rw [ha, hb]
    have e : (s.cps.extract i (i + 2)).toList = ((sg s).drop i).take 2 := by
      rw [Array.toList_extract, List.extract_eq_take_drop]
      congr 1
      omega
    by_cases h : (sg s)[i]? = some 45 ∧ (sg s)[i + 1]? = some 62
    · rw [decide_eq_true h, beq_iff_eq]
      apply Array.toList_inj.mp
      rw [e]
      exact take2.mpr h
    · rw [decide_eq_false h, beq_eq_false_iff_ne]
      intro k
      apply h
      apply take2.mp
      rw [← e, k]
  unfold Txt.startswith3
  rw [from_nat, ha, hx]
  by_cases h : i + 2 ≤ s.length
  · simp [h]
  · have : (sg s)[i + 1]? = none := List.getElem?_eq_none_iff.mpr (by rw [sg_len]; omega)
    simp [this]
section
variable {A : Ads} {F : Fns}
def tC : MT := (mtAnd (mtB (mOp2 fLt (mPeek 4) (toP (mFun fLen (toA1 (mPeek 0) toA0))))) (mtB (mOp2 fEq (toP (mOp2 fIx (mPeek 0) (mPeek 4))) (toP (mC (.str "^"))))))
theorem run_tC {s : Str} {i : Nat} {a b c : Sl} (hl : s.length ≤ sizeLine) (ok : Ok s) : tC [.pv (.str s), a, b, c, .pv (.int i)] = .ok (decide ((sg s)[i]? = some 94), [.pv (.str s), a, b, c, .pv (.int i)]) := by
  have k94 : Ok (chr1 94) := by decide +kernel
  cases h : (sg s)[i]? with
  | none =>
    have h1 : ¬ i < s.length := by
      rw [List.getElem?_eq_none_iff] at h
      exact Nat.not_lt.mpr h
    simp [tC, mSeq, mIf, mtB, mtOr, mtNot, mtV, mOp2, toP, mV, mC, mPeek, mVar, Pk.get, Sl.cnt, Own.pv, mSetC, gR, gN, thenS, mNext, trv_bl, mStrM, isStr, okIf, toA1, toA0, getC, fSw, mDropC, mRet, mRetC, mTup, endF, outs, getAll, Res.of, two_le, three_le, cALL, cCON, cREC, cVAR,  mtAnd, mFun, fLen, hl, fLt, fCmp, h1]
  | some d =>
    have h1 : i < s.length := (List.getElem?_eq_some_iff.mp h).1
    have kd : Ok (chr1 d) := ok_chr (of_ok ok d (List.mem_of_getElem? h))
    simp [tC, mSeq, mIf, mtB, mtOr, mtNot, mtV, mOp2, toP, mV, mC, mPeek, mVar, Pk.get, Sl.cnt, Own.pv, mSetC, gR, gN, thenS, mNext, trv_bl, mStrM, isStr, okIf, toA1, toA0, getC, fSw, mDropC, mRet, mRetC, mTup, endF, outs, getAll, Res.of, two_le, three_le, cALL, cCON, cREC, cVAR,  mtAnd, mFun, fLen, hl, fLt, fCmp, h1, ixS hl h, up_chr, eq_str kd k94, chr_eq]
theorem loop_caret {s : Str} (hl : s.length ≤ 1000) (ok : Ok s) {a b c : Sl} : ∀ (k fuel i : Nat), s.length - i = k → i ≤ s.length → k < fuel →
    loopW tC (mAug 4 fIAdd (toP (mC (.int 1)))) fuel [.pv (.str s), a, b, c, .pv (.int i)] = .ok (.nx, [.pv (.str s), a, b, c, .pv (.int (i + carets ((sg s).drop i) : Nat))]) := by
  intro k
  induction k with
  | zero =>
    intro fuel i hk hi hf
    obtain ⟨fuel, rfl⟩ : ∃ g, fuel = g + 1 := ⟨fuel - 1, by omega⟩
    have e : i = s.length := by omega
    subst e
    have h0 : (sg s)[s.length]? = none := List.getElem?_eq_none_iff.mpr (Nat.le_refl _)
    have h1 : (sg s).drop s.length = [] := List.drop_eq_nil_of_le (Nat.le_refl _)
    have t := run_tC (s := s) (i := s.length) (a := a) (b := b) (c := c) (z2001 hl) ok
    rw [h0] at t
    rw [h1]
    exact loopW_f t
  | succ k ih =>
    intro fuel i hk hi hf
    obtain ⟨fuel, rfl⟩ : ∃ g, fuel = g + 1 := ⟨fuel - 1, by omega⟩
    have hi' : i < (sg s).length := by rw [sg_len]; omega
    have t := run_tC (s := s) (i := i) (a := a) (b := b) (c := c) (z2001 hl) ok
    rw [List.getElem?_eq_getElem hi'] at t
    rw [List.drop_eq_getElem_cons hi']
    by_cases hc : (sg s)[i] = 94
    · have t2 : decide (some (sg s)[i] = some 94) = true := decide_eq_true (congrArg some hc)
      rw [t2] at t
      have e : carets ((sg s)[i] :: (sg s).drop (i + 1)) = carets ((sg s).drop (i + 1)) + 1 := if_pos hc
      rw [e]
      have b' : mAug 4 fIAdd (toP (mC (.int 1))) [.pv (.str s), a, b, c, .pv (.int i)] = .ok (.nx, [.pv (.str s), a, b, c, .pv (.int (i + 1 : Nat))]) := by
        simp [mAug, mSeq, mIf, mtB, mtOr, mtNot, mtV, mOp2, toP, mV, mC, mPeek, mVar, Pk.get, Sl.cnt, Own.pv, mSetC, gR, gN, thenS, mNext, trv_bl, mStrM, isStr, okIf, toA1, toA0, getC, fSw, mDropC, mRet, mRetC, mTup, endF, outs, getAll, Res.of, two_le, three_le, cALL, cCON, cREC, cVAR,  fIAdd]
      rw [loopW_nx t b']
      have := ih fuel (i + 1) (by omega) (by omega) (by omega)
      rw [this]
      have e2 : i + 1 + carets ((sg s).drop (i + 1)) = i + (carets ((sg s).drop (i + 1)) + 1) := by omega
      rw [e2]
    · have t2 : decide (some (sg s)[i] = some 94) = false := decide_eq_false fun e => hc (Option.some.inj e)
      rw [t2] at t
      have e : carets ((sg s)[i] :: (sg s).drop (i + 1)) = 0 := if_neg hc
      rw [e]
      exact loopW_f t
end
end K03
namespace K03
open PySem PySem.Spec L2 PL
/-! M13: words_in, one turn -/
theorem addI {a b : Int} : fAdd (.int a) (.int b) = some (.int (a + b)) := rfl
theorem short_ok : Ok c_SHORT := by decide +kernel
section
variable {A : Ads} {F : Fns}
/-- the choice of the word's end -/
def mE (A : Ads) (F : Fns) : MS := (mIf (mtB (mOp2 (fIn false) (mPeek 3) (toP (mOp2 fAdd (toP (mC (.str c_LOW))) (toP (mC (.str c_HIGH)))))))
  (mSetC 4 (mCall 2 F.word_end (toA1 (toP (mVar 0)) (toA1 (toP (mVar 2)) toA0))))
  (mIf (mtB (mOp2 fEq (mPeek 3) (toP (mC (.str "^")))))
  (mSeq (mAsg (mOp2 fAdd (mPeek 2) (toP (mC (.int 1)))) (gN 4))
  (mSeq (loopW (mtAnd (mtB (mOp2 fLt (mPeek 4) (toP (mFun fLen (toA1 (mPeek 0) toA0))))) (mtB (mOp2 fEq (toP (mOp2 fIx (mPeek 0) (mPeek 4))) (toP (mC (.str "^"))))))
  (mAug 4 fIAdd (toP (mC (.int 1)))) 1000000)
  (mSetC 4 (mCall 2 F.word_end (toA1 (toP (mVar 0)) (toA1 (toP (mVar 4)) toA0))))))
  (mIf (mtV (toP (mStrM fSw3 (mPeek 0) (toA1 (toP (mC (.str c_ARROW))) (toA1 (mPeek 2) toA0)))))
  (mAsg (mOp2 fAdd (mPeek 2) (toP (mC (.int 2)))) (gN 4))
  (mIf (mtB (mOp2 (fIn false) (mPeek 3) (toP (mC (.str c_SHORT)))))
  (mAsg (mOp2 fAdd (mPeek 2) (toP (mC (.int 1)))) (gN 4))
  (mRaise2 "TextError" "code" "at" "refused: " ", " (toA1 (toP (mC (.str "sign"))) (toA1 (toP (mVar 2)) toA0)))))))
def WE (F : Fns) : Prop := ∀ (s : Str) (i : Nat), s.length ≤ 1000 → i ≤ s.length → F.word_end [.pv (.str s), .pv (.int i)] = .ok (.pv (.int (wEnd ((sg s).drop i) i : Nat)), [])
def pvno (x : Sl) : Prop := x = .no ∨ ∃ v, x = .pv v
theorem run_mE (we : WE F) {s : Str} {i c : Nat} {w : Own} {x : Sl} (hl : s.length ≤ 1000) (ok : Ok s) (hx : pvno x) (h3 : s.length < 700) (hc : (sg s)[i]? = some c) :
    (match nxt ((sg s).drop i) with
    | some n => mE A F [.pv (.str s), .own false w, .pv (.int i), .pv (.str (chr1 c)), x] = .ok (.nx, [.pv (.str s), .own false w, .pv (.int i), .pv (.str (chr1 c)), .pv (.int (i + n : Nat))])
    | none => mE A F [.pv (.str s), .own false w, .pv (.int i), .pv (.str (chr1 c)), x] = .err "TextError" [("code", .str "sign"), ("at", .int i)]) := by
  have hi : i < s.length := (List.getElem?_eq_some_iff.mp hc).1
  have hd : (sg s).drop i = c :: (sg s).drop (i + 1) := by
    obtain ⟨h0, h1⟩ := List.getElem?_eq_some_iff.mp hc
    exact (List.drop_eq_getElem_cons h0).trans (congrArg (· :: _) h1)
  have kc : Ok (chr1 c) := ok_chr (of_ok ok c (List.mem_of_getElem? hc))
  have k94 : Ok (chr1 94) := by decide +kernel
  have e : nxt ((sg s).drop i) = if inLH c then some (wlen ((sg s).drop i))
      else if c = 94 then some (1 + carets ((sg s).drop (i + 1)) + wlen (((sg s).drop (i + 1)).drop (carets ((sg s).drop (i + 1)))))
      else if c = 45 ∧ ((sg s).drop (i + 1)).head? = some 62 then some 2
      else if c ∈ sg c_SHORT then some 1 else none := by rw [hd]; rfl
  rw [e]
  by_cases h1 : inLH c = true
  · rw [if_pos h1]
    have w0 := we s i hl (by omega)
    rw [wEnd_eq] at w0
    have h1 : c ∈ sg (c_LOW ++ c_HIGH) := of_decide_eq_true h1
    rcases hx with rfl | ⟨v, rfl⟩ <;> simp [mE, mSeq, mIf, mtB, mtOr, mtNot, mtV, mOp2, toP, mV, mC, mPeek, mVar, Pk.get, Sl.cnt, Own.pv, mSetC, gR, gN, thenS, mNext, trv_bl, mStrM, isStr, okIf, toA1, toA0, getC, fSw, mDropC, mRet, mRetC, mTup, endF, outs, getAll, Res.of, two_le, three_le, cALL, cCON, cREC, cVAR,  add1, in_chr1, h1, mCall, goCall, toAgs, toAg, ownIx, w0, updO]
  · rw [if_neg h1]
    have h1 : c ∉ sg (c_LOW ++ c_HIGH) := fun k => h1 (decide_eq_true k)
    have hh : ((sg s).drop (i + 1)).head? = (sg s)[i + 1]? := by simp
    by_cases h2 : c = 94
    · rw [if_pos h2]
      have lc := loop_caret hl ok (a := .own false w) (b := .pv (.int i)) (c := .pv (.str (chr1 c))) (s.length - (i + 1)) 1000000 (i + 1) rfl (by omega) (by omega)
      have cl := carets_le ((sg s).drop (i + 1))
      rw [List.length_drop, sg_len] at cl
      have w0 := we s (i + 1 + carets ((sg s).drop (i + 1))) hl (by omega)
      have dd : (sg s).drop (i + 1 + carets ((sg s).drop (i + 1))) = ((sg s).drop (i + 1)).drop (carets ((sg s).drop (i + 1))) := (List.drop_drop ..).symm
      rw [wEnd_eq, dd] at w0
      have e3 : i + 1 + carets ((sg s).drop (i + 1)) + wlen (((sg s).drop (i + 1)).drop (carets ((sg s).drop (i + 1)))) = i + (1 + carets ((sg s).drop (i + 1)) + wlen (((sg s).drop (i + 1)).drop (carets ((sg s).drop (i + 1))))) := by omega
      rw [e3] at w0
      change loopW (mtAnd _ _) _ 1000000 _ = _ at lc
      subst h2
      rw [up_chr] at lc
      push_cast at lc w0
      simp only [← dd] at w0
      rcases hx with rfl | ⟨v, rfl⟩ <;> simp [mE, mSeq, mIf, mtB, mtOr, mtNot, mtV, mOp2, toP, mV, mC, mPeek, mVar, Pk.get, Sl.cnt, Own.pv, mSetC, gR, gN, thenS, mNext, trv_bl, mStrM, isStr, okIf, toA1, toA0, getC, fSw, mDropC, mRet, mRetC, mTup, endF, outs, getAll, Res.of, two_le, three_le, cALL, cCON, cREC, cVAR,  add1, in_chr1, h1, up_chr, eq_str k94 k94, mAsg, addI, lc, mCall, goCall, toAgs, toAg, ownIx, w0, updO]
    · rw [if_neg h2]
      have e4 := sw3_arrow hi
      rw [hc] at e4
      by_cases h3 : c = 45 ∧ ((sg s).drop (i + 1)).head? = some 62
      · rw [if_pos h3]
        have e5 : Txt.startswith3 s c_ARROW i = true := by rw [e4]; rw [hh] at h3; exact decide_eq_true ⟨congrArg some h3.1, h3.2⟩
        rcases hx with rfl | ⟨v, rfl⟩ <;> simp [mE, mSeq, mIf, mtB, mtOr, mtNot, mtV, mOp2, toP, mV, mC, mPeek, mVar, Pk.get, Sl.cnt, Own.pv, mSetC, gR, gN, thenS, mNext, trv_bl, mStrM, isStr, okIf, toA1, toA0, getC, fSw, mDropC, mRet, mRetC, mTup, endF, outs, getAll, Res.of, two_le, three_le, cALL, cCON, cREC, cVAR,  add1, in_chr1, h1, up_chr, eq_str kc k94, chr_eq, h2, fSw3, e5, mAsg, addI]
      · rw [if_neg h3]
        have e5 : Txt.startswith3 s c_ARROW i = false := by rw [e4]; exact decide_eq_false fun k => h3 ⟨Option.some.inj k.1, hh.trans k.2⟩
        by_cases h4 : c ∈ sg c_SHORT
        · rw [if_pos h4]
          rcases hx with rfl | ⟨v, rfl⟩ <;> simp [mE, mSeq, mIf, mtB, mtOr, mtNot, mtV, mOp2, toP, mV, mC, mPeek, mVar, Pk.get, Sl.cnt, Own.pv, mSetC, gR, gN, thenS, mNext, trv_bl, mStrM, isStr, okIf, toA1, toA0, getC, fSw, mDropC, mRet, mRetC, mTup, endF, outs, getAll, Res.of, two_le, three_le, cALL, cCON, cREC, cVAR,  add1, in_chr1, h1, up_chr, eq_str kc k94, chr_eq, h2, fSw3, e5, h4, mAsg, addI]
        · rw [if_neg h4]
          have er : mkErr2 "TextError" "code" "at" "refused: " ", " [.str "sign", .int i] = .err "TextError" [("code", .str "sign"), ("at", .int i)] := err_form (by omega) "sign" (by decide)
          rcases hx with rfl | ⟨v, rfl⟩ <;> simp [mE, mSeq, mIf, mtB, mtOr, mtNot, mtV, mOp2, toP, mV, mC, mPeek, mVar, Pk.get, Sl.cnt, Own.pv, mSetC, gR, gN, thenS, mNext, trv_bl, mStrM, isStr, okIf, toA1, toA0, getC, fSw, mDropC, mRet, mRetC, mTup, endF, outs, getAll, Res.of, two_le, three_le, cALL, cCON, cREC, cVAR,  add1, in_chr1, h1, up_chr, eq_str kc k94, chr_eq, h2, fSw3, e5, h4, mRaise2, er]
end
end K03
namespace K03
open PySem PySem.Spec L2 PL
/-! M14: words_in is tok -/
theorem loopW_ct {t : MT} {m : MS} {n : Nat} {ρ ρ1 ρ2 : Ev} (h : t ρ = .ok (true, ρ1)) (h2 : m ρ1 = .ok (.ct, ρ2)) : loopW t m (n + 1) ρ = loopW t m n ρ2 := by
  simp [loopW, h, h2, stepW]
section
variable {A : Ads} {F : Fns}
def tI : MT := (mtB (mOp2 fLt (mPeek 2) (toP (mFun fLen (toA1 (mPeek 0) toA0)))))
def bI (A : Ads) (F : Fns) : MS := (mSeq (mAsg (mOp2 fIx (mPeek 0) (mPeek 2)) (gN 3))
  (mSeq (mIf (mtB (mOp2 fEq (mPeek 3) (toP (mC (.str " ")))))
  (mSeq (mAug 2 fIAdd (toP (mC (.int 1))))
  (fun ρ => .ok (.ct, ρ)))
  mNext)
  (mSeq (mE A F)
  (mSeq (mDrop (toP (mAppend (mPeek 1) (toA1 (toP (mSlice (mPeek 0) (moS (mPeek 2)) (moS (mPeek 4)))) toA0))))
  (mAsg (mVar 4) (gN 2))))))
theorem turn_i (we : WE F) {s : Str} {i c : Nat} {ws : List PV} {x y : Sl} (hl : s.length < 700) (ok : Ok s) (hx : pvno x) (hy : pvno y) (hw : ws.length < 1000) (hc : (sg s)[i]? = some c) :
    (if c = 32 then bI A F [.pv (.str s), .own false (.lst ws), .pv (.int i), y, x] = .ok (.ct, [.pv (.str s), .own false (.lst ws), .pv (.int (i + 1 : Nat)), .pv (.str (chr1 c)), x])
    else match nxt ((sg s).drop i) with
    | some n => bI A F [.pv (.str s), .own false (.lst ws), .pv (.int i), y, x] = .ok (.nx, [.pv (.str s), .own false (.lst (ws ++ [.str (mkS (((sg s).drop i).take n))])), .pv (.int (i + n : Nat)), .pv (.str (chr1 c)), .pv (.int (i + n : Nat))])
    | none => bI A F [.pv (.str s), .own false (.lst ws), .pv (.int i), y, x] = .err "TextError" [("code", .str "sign"), ("at", .int i)]) := by
  have hi : i < s.length := (List.getElem?_eq_some_iff.mp hc).1
  have kc : Ok (chr1 c) := ok_chr (of_ok ok c (List.mem_of_getElem? hc))
  have k32 : Ok (chr1 32) := by decide +kernel
  have z : s.length ≤ sizeLine := z2001 (by omega)
  have zw : ws.length < sizeLine := z2000 hw
  by_cases h : c = 32
  · rw [if_pos h]
    subst h
    rcases hy with rfl | ⟨v, rfl⟩ <;> simp [bI, mSeq, mIf, mtB, mtOr, mtNot, mtV, mOp2, toP, mV, mC, mPeek, mVar, Pk.get, Sl.cnt, Own.pv, mSetC, gR, gN, thenS, mNext, trv_bl, mStrM, isStr, okIf, toA1, toA0, getC, fSw, mDropC, mRet, mRetC, mTup, endF, outs, getAll, Res.of, two_le, three_le, cALL, cCON, cREC, cVAR,  mAsg, ixS z hc, sp_chr, eq_str k32 k32, mAug, fIAdd]
  · rw [if_neg h]
    have m := run_mE we (A := A) (w := .lst ws) (x := x) (by omega) ok hx hl hc
    cases hn : nxt ((sg s).drop i) with
    | none =>
      rw [hn] at m
      rcases hy with rfl | ⟨v, rfl⟩ <;> simp [bI, mSeq, mIf, mtB, mtOr, mtNot, mtV, mOp2, toP, mV, mC, mPeek, mVar, Pk.get, Sl.cnt, Own.pv, mSetC, gR, gN, thenS, mNext, trv_bl, mStrM, isStr, okIf, toA1, toA0, getC, fSw, mDropC, mRet, mRetC, mTup, endF, outs, getAll, Res.of, two_le, three_le, cALL, cCON, cREC, cVAR,  mAsg, ixS z hc, sp_chr, eq_str kc k32, chr_eq, h, m]
    | some n =>
      rw [hn] at m
      have nl := nxt_le hn
      rw [List.length_drop, sg_len] at nl
      have cm := cut_mid (s := s) (i := i) (e := i + n) (by omega) (by omega)
      rw [show i + n - i = n by omega] at cm
      push_cast at cm m
      rcases hy with rfl | ⟨v, rfl⟩ <;> simp [bI, mSeq, mIf, mtB, mtOr, mtNot, mtV, mOp2, toP, mV, mC, mPeek, mVar, Pk.get, Sl.cnt, Own.pv, mSetC, gR, gN, thenS, mNext, trv_bl, mStrM, isStr, okIf, toA1, toA0, getC, fSw, mDropC, mRet, mRetC, mTup, endF, outs, getAll, Res.of, two_le, three_le, cALL, cCON, cREC, cVAR,  mAsg, ixS z hc, sp_chr, eq_str kc k32, chr_eq, h, m, mDrop, mAppend, isLstAt, mSlice, moS, fSl, z, cm, appAt, zw]
theorem run_tI {s : Str} {i : Nat} {w : Own} {x y : Sl} (hl : s.length ≤ sizeLine) : tI [.pv (.str s), .own false w, .pv (.int i), y, x] = .ok (decide (i < s.length), [.pv (.str s), .own false w, .pv (.int i), y, x]) := by
  by_cases h : i < s.length <;> simp [tI, mSeq, mIf, mtB, mtOr, mtNot, mtV, mOp2, toP, mV, mC, mPeek, mVar, Pk.get, Sl.cnt, Own.pv, mSetC, gR, gN, thenS, mNext, trv_bl, mStrM, isStr, okIf, toA1, toA0, getC, fSw, mDropC, mRet, mRetC, mTup, endF, outs, getAll, Res.of, two_le, three_le, cALL, cCON, cREC, cVAR,  mFun, fLen, hl, fLt, fCmp, h]
theorem loop_i (we : WE F) {s : Str} (hl : s.length < 700) (ok : Ok s) : ∀ (f fuel : Nat), f ≤ fuel → ∀ (i : Nat) (acc : List PV) (x y : Sl), pvno x → pvno y → i ≤ s.length → acc.length + f ≤ 1000 →
    (match tok f ((sg s).drop i) i with
    | .ok l => ∃ a y' x', loopW tI (bI A F) fuel [.pv (.str s), .own false (.lst acc), .pv (.int i), y, x] = .ok (.nx, [.pv (.str s), .own false (.lst (acc ++ l.map .str)), a, y', x'])
    | .err m => loopW tI (bI A F) fuel [.pv (.str s), .own false (.lst acc), .pv (.int i), y, x] = .err "TextError" [("code", .str "sign"), ("at", .int m)]
    | .bad => True) := by
  intro f
  induction f with
  | zero => intro fuel h i acc x y hx hy hi ha; exact trivial
  | succ f ih =>
    intro fuel h i acc x y hx hy hi ha
    obtain ⟨fuel, rfl⟩ : ∃ g, fuel = g + 1 := ⟨fuel - 1, by omega⟩
    have t := run_tI (s := s) (i := i) (w := .lst acc) (x := x) (y := y) (z2001 (by omega))
    cases hc : (sg s)[i]? with
    | none =>
      have h1 : s.length ≤ i := List.getElem?_eq_none_iff.mp hc
      have h2 : (sg s).drop i = [] := List.drop_eq_nil_of_le h1
      rw [decide_eq_false (by omega)] at t
      rw [h2]
      refine ⟨.pv (.int i), y, x, (loopW_f t).trans ?_⟩
      simp
    | some c =>
      obtain ⟨h0, h1⟩ := List.getElem?_eq_some_iff.mp hc
      have hi' : i < s.length := h0
      have hd : (sg s).drop i = c :: (sg s).drop (i + 1) := (List.drop_eq_getElem_cons h0).trans (congrArg (· :: _) h1)
      rw [decide_eq_true hi'] at t
      have tn := turn_i (A := A) we (ws := acc) hl ok hx hy (by omega) hc
      have e : tok (f + 1) ((sg s).drop i) i = if c = 32 then tok f ((sg s).drop (i + 1)) (i + 1) else match nxt ((sg s).drop i) with
        | some n => (tok f (((sg s).drop i).drop n) (i + n)).cons (mkS (((sg s).drop i).take n))
        | none => .err i := by rw [hd]; rfl
      rw [e]
      by_cases h2 : c = 32
      · rw [if_pos h2] at tn ⊢
        rw [loopW_ct t tn]
        exact ih fuel (by omega) (i + 1) acc _ _ hx (.inr ⟨_, rfl⟩) (by omega) (by omega)
      · rw [if_neg h2] at tn ⊢
        cases hn : nxt ((sg s).drop i) with
        | none =>
          rw [hn] at tn
          exact loopW_err t tn
        | some n =>
          rw [hn] at tn
          have nl := nxt_le hn
          rw [List.length_drop, sg_len] at nl
          rw [loopW_nx t tn]
          have := ih fuel (by omega) (i + n) (acc ++ [.str (mkS (((sg s).drop i).take n))]) (.pv (.int (i + n : Nat))) (.pv (.str (chr1 c))) (.inr ⟨_, rfl⟩) (.inr ⟨_, rfl⟩) (by omega) (by simp; omega)
          rw [← List.drop_drop] at this
          dsimp only
          cases hk : tok f (((sg s).drop i).drop n) (i + n) with
          | bad => exact trivial
          | err m => rw [hk] at this; exact this
          | ok l =>
            rw [hk] at this
            obtain ⟨a, y', x', this⟩ := this
            refine ⟨a, y', x', this.trans ?_⟩
            simp
end
end K03
namespace K03
open PySem PySem.Spec L2 PL
/-! M15: words_in -/
theorem tok_lt : ∀ (f : Nat) (l : List Nat) (p : Nat), l.length < f → tok f l p ≠ .bad
  | 0, _, _, h => by omega
  | f + 1, [], _, _ => by simp [tok]
  | f + 1, c :: r, p, h => by
    simp only [tok]
    by_cases h2 : c = 32
    · rw [if_pos h2]
      exact tok_lt f r (p + 1) (by simp at h; omega)
    · rw [if_neg h2]
      cases hn : nxt (c :: r) with
      | none => simp
      | some n =>
        have nl := nxt_le hn
        dsimp only
        have := tok_lt f ((c :: r).drop n) (p + n) (by rw [List.length_drop]; simp at h ⊢; omega)
        cases hk : tok f ((c :: r).drop n) (p + n) with
        | bad => exact absurd hk this
        | err m => simp [WR.cons]
        | ok l => simp [WR.cons]
theorem we_of (A : Ads) (j : Nat) : WE (FN A (j + 1)) := fun s i hl hi => run_word_end A j hl hi
theorem run_words_in (A : Ads) (j : Nat) {s : Str} (hl : s.length < 700) (ok : Ok s) :
    (match tok 1000 (sg s) 0 with
    | .ok l => (FN A (j + 2)).words_in [.pv (.str s)] = .ok (.pv (.lst (l.map .str)), [])
    | .err m => (FN A (j + 2)).words_in [.pv (.str s)] = .err "TextError" [("code", .str "sign"), ("at", .int m)]
    | .bad => True) := by
  have lp := loop_i (A := A) (we_of A j) hl ok 1000 1000000 (by omega) 0 [] .no .no (.inl rfl) (.inl rfl) (by omega) (by simp)
  have hs : startE 5 [.pv (.str s)] = [.pv (.str s), .no, .no, .no, .no] := by simp [startE, toSl]
  rw [List.drop_zero] at lp
  cases hk : tok 1000 (sg s) 0 with
  | bad => exact trivial
  | err m =>
    rw [hk] at lp
    show endF _ (m_words_in A (FN A (j + 1)) (startE 5 [.pv (.str s)])) = _
    rw [hs]
    unfold m_words_in
    change loopW (mtB _) (mSeq _ _) 1000000 _ = _ at lp
    simp only [mE, show ((0 : Nat) : Int) = 0 from rfl, List.nil_append] at lp
    simp [mSeq, mIf, mtB, mtOr, mtNot, mtV, mOp2, toP, mV, mC, mPeek, mVar, Pk.get, Sl.cnt, Own.pv, mSetC, gR, gN, thenS, mNext, trv_bl, mStrM, isStr, okIf, toA1, toA0, getC, fSw, mDropC, mRet, mRetC, mTup, endF, outs, getAll, Res.of, two_le, three_le, cALL, cCON, cREC, cVAR,  mSetL, gO, mAsg, lp]
  | ok l =>
    rw [hk] at lp
    obtain ⟨a, y, x, lp⟩ := lp
    show endF _ (m_words_in A (FN A (j + 1)) (startE 5 [.pv (.str s)])) = _
    rw [hs]
    unfold m_words_in
    change loopW (mtB _) (mSeq _ _) 1000000 _ = _ at lp
    simp only [mE, show ((0 : Nat) : Int) = 0 from rfl, List.nil_append] at lp
    simp [mSeq, mIf, mtB, mtOr, mtNot, mtV, mOp2, toP, mV, mC, mPeek, mVar, Pk.get, Sl.cnt, Own.pv, mSetC, gR, gN, thenS, mNext, trv_bl, mStrM, isStr, okIf, toA1, toA0, getC, fSw, mDropC, mRet, mRetC, mTup, endF, outs, getAll, Res.of, two_le, three_le, cALL, cCON, cREC, cVAR,  mSetL, gO, mAsg, lp]
end K03
namespace K03
open PySem PySem.Spec L2 PL
/-! M16: what tok gives -/
theorem tok_wds : ∀ (f : Nat) (l : List Nat) (p : Nat) (ws : List Str), tok f l p = .ok ws → (∀ c ∈ l, c < 1114112) → l.length ≤ 1000 → Wds ws ∧ ws.length ≤ l.length
  | 0, _, _, _, h, _, _ => by cases h
  | f + 1, [], _, ws, h, _, _ => by
    have h : WR.ok [] = .ok ws := h
    cases h
    exact ⟨(fun w hw => nomatch hw), Nat.le_refl _⟩
  | f + 1, c :: r, p, ws, h, hc, hl => by
    simp only [tok] at h
    by_cases h2 : c = 32
    · rw [if_pos h2] at h
      have := tok_wds f r (p + 1) ws h (fun d hd => hc d (List.mem_cons_of_mem _ hd)) (by simp at hl; omega)
      exact ⟨this.1, by simp; omega⟩
    · rw [if_neg h2] at h
      cases hn : nxt (c :: r) with
      | none => rw [hn] at h; cases h
      | some n =>
        rw [hn] at h
        dsimp only at h
        have nl := nxt_le hn
        cases hk : tok f ((c :: r).drop n) (p + n) with
        | bad => rw [hk] at h; cases h
        | err m => rw [hk] at h; cases h
        | ok vs =>
          rw [hk] at h
          have h : WR.ok (mkS ((c :: r).take n) :: vs) = .ok ws := h
          cases h
          have := tok_wds f ((c :: r).drop n) (p + n) vs hk (fun d hd => hc d (List.mem_of_mem_drop hd)) (by rw [List.length_drop]; omega)
          rw [List.length_drop] at this
          refine ⟨fun w hw => ?_, by simp only [List.length_cons] at nl this ⊢; omega⟩
          rcases List.mem_cons.mp hw with rfl | hw
          · refine ⟨ok_of fun d hd => hc d (List.mem_of_mem_take hd), ?_⟩
            show ((c :: r).take n).length ≤ 1000
            rw [List.length_take]
            omega
          · exact this.1 w hw
end K03
namespace K03
open PySem PySem.Spec L2 PL
/-! M17: parse_type -/
theorem meth0b {A : Ads} {nm : Str} {fn : Fn} {ws ws' : List Str} {n n' : Nat} {b : Bool} {x : Sl} {r : Ev} {v : Rv} (hnm : List.lookup nm [(("words" : Str), PV.lst (ws.map .str)), (("at" : Str), PV.int n)] = none) (h : fn [.own (rd A ws n)] = .ok (v, [rd A ws' n'])) :
    mMeth A.Reader 1 nm fn (mPeek 1) toA0 (x :: .own b (rd A ws n) :: r) = .ok (v, x :: .own b (rd A ws' n') :: r) := by
  have e : (Own.ins A.Reader [("words", .lst (ws.map .str)), ("at", .int n)]) = rd A ws n := rfl
  simp [mMeth, mPeek, insAt, rd, hnm, okIf, toA0, goCall, toAgs, toAg, ownIx, updO, setO]
  rw [e, h]
  simp [rd, setO]
theorem meth0b_err {A : Ads} {nm : Str} {fn : Fn} {ws : List Str} {n : Nat} {b : Bool} {x : Sl} {r : Ev} {c : Str} {xs : List (Str × PV)} (hnm : List.lookup nm [(("words" : Str), PV.lst (ws.map .str)), (("at" : Str), PV.int n)] = none) (h : fn [.own (rd A ws n)] = .err c xs) :
    mMeth A.Reader 1 nm fn (mPeek 1) toA0 (x :: .own b (rd A ws n) :: r) = .err c xs := by
  have e : (Own.ins A.Reader [("words", .lst (ws.map .str)), ("at", .int n)]) = rd A ws n := rfl
  simp [mMeth, mPeek, insAt, rd, hnm, okIf, toA0, goCall, toAgs, toAg, ownIx, updO, setO]
  rw [e, h]
  simp
theorem run_init {A : Ads} {ws : List Str} : f_Reader_init A [.own (.ins A.Reader []), .pv (.lst (ws.map .str))] = .ok (.pv .non, [rd A ws 0]) := by
  have hs : startE 2 [.own (.ins A.Reader []), .pv (.lst (ws.map .str))] = [.own true (.ins A.Reader []), .pv (.lst (ws.map .str))] := by simp [startE, toSl]
  show endF _ (m_Reader_init A noF (startE 2 _)) = _
  rw [hs]
  have e : (("words" : Str) = ("at" : Str)) = False := by simp; decide
  simp [m_Reader_init, mSeq, mIf, mtB, mtOr, mtNot, mtV, mOp2, toP, mV, mC, mPeek, mVar, Pk.get, Sl.cnt, Own.pv, mSetC, gR, gN, thenS, mNext, trv_bl, mStrM, isStr, okIf, toA1, toA0, getC, fSw, mDropC, mRet, mRetC, mTup, endF, outs, getAll, Res.of, two_le, three_le, cALL, cCON, cREC, cVAR,  mPutF, putFld, putP, e, rd]
theorem len0 {w : Str} : (w.length = 0) = (w = "") := by
  apply propext
  constructor
  · intro h
    have : sg w = [] := List.eq_nil_of_length_eq_zero h
    exact sg_ext (this.trans (by decide +kernel : [] = sg ("" : Str)))
  · rintro rfl
    decide +kernel
theorem trv_str {w : Str} (h : w.length ≤ sizeLine) : trv (.str w) = some (!decide (w = "")) := by
  simp only [trv, h, if_true]
  congr 1
  by_cases e : w = ""
  · subst e
    decide +kernel
  · have : w.length ≠ 0 := fun k => e (len0.mp k)
    simp [e]
    omega
theorem run_parse (A : Ads) (k : Nat) {s : Str} (hl : s.length ≤ 600) (ok : Ok s) :
    (match tok 1000 (sg s) 0 with
    | .err m => (FN A (k + 4)).parse_type [.pv (.str s)] = .err "TextError" [("code", .str "sign"), ("at", .int m)]
    | .ok ws => (match (pAt ws k).w 0 with
      | .ok t m => (FN A (k + 4)).parse_type [.pv (.str s)] = if hd ws m = "" then .ok (.pv (enc t), []) else fErr m
      | .err m => (FN A (k + 4)).parse_type [.pv (.str s)] = fErr m
      | .bad => True)
    | .bad => True) := by
  have hs : startE 3 [.pv (.str s)] = [.pv (.str s), .no, .no] := by simp [startE, toSl]
  have rw' := run_words_in A (k + 1) (s := s) (by omega) ok
  cases hk : tok 1000 (sg s) 0 with
  | bad => exact trivial
  | err m =>
    rw [hk] at rw'
    show endF _ (m_parse_type A (FN A (k + 3)) (startE 3 [.pv (.str s)])) = _
    rw [hs]
    simp [m_parse_type, mSeq, mIf, mtB, mtOr, mtNot, mtV, mOp2, toP, mV, mC, mPeek, mVar, Pk.get, Sl.cnt, Own.pv, mSetC, gR, gN, thenS, mNext, trv_bl, mStrM, isStr, okIf, toA1, toA0, getC, fSw, mDropC, mRet, mRetC, mTup, endF, outs, getAll, Res.of, two_le, three_le, cALL, cCON, cREC, cVAR,  mMake, mCall, goCall, toAgs, toAg, ownIx, rw', updO]
  | ok ws =>
    rw [hk] at rw'
    have tw := tok_wds 1000 (sg s) 0 ws hk (of_ok ok) (by rw [sg_len]; omega)
    rw [sg_len] at tw
    have a4 := (at4 (A := A) tw.1 (by omega) k).w 0 (by omega)
    have sm := sm_of (A := A) (ws := ws) tw.1 k
    have mk : ∀ ρ : Ev, ρ = [.pv (.str s), .no, .no] → mSetC 1 (mMake A.Reader 2 (f_Reader_init A) (toA1 (toP (mV (mCall 1 (FN A (k + 3)).words_in (toA1 (toP (mVar 0)) toA0)))) toA0)) ρ = .ok (.nx, [.pv (.str s), .own false (rd A ws 0), .no]) := by
      rintro ρ rfl
      simp [mSeq, mIf, mtB, mtOr, mtNot, mtV, mOp2, toP, mV, mC, mPeek, mVar, Pk.get, Sl.cnt, Own.pv, mSetC, gR, gN, thenS, mNext, trv_bl, mStrM, isStr, okIf, toA1, toA0, getC, fSw, mDropC, mRet, mRetC, mTup, endF, outs, getAll, Res.of, two_le, three_le, cALL, cCON, cREC, cVAR,  mMake, mCall, goCall, toAgs, toAg, ownIx, rw', updO, run_init, gO]
    have mk := mk _ rfl
    show (match (pAt ws k).w 0 with
      | .ok t m => _
      | .err m => _
      | .bad => True)
    cases hp : (pAt ws k).w 0 with
    | bad => exact trivial
    | err m =>
      rw [hp] at a4
      obtain ⟨a4, hm⟩ := a4
      have mw := meth0b_err (A := A) (nm := "whole") (b := false) (x := .pv (.str s)) (r := [.no]) (lkn (by decide) (by decide)) a4
      show endF _ (m_parse_type A (FN A (k + 3)) (startE 3 [.pv (.str s)])) = _
      rw [hs]
      unfold m_parse_type
      rw [mSeq, mk]
      simp [mSeq, mIf, mtB, mtOr, mtNot, mtV, mOp2, toP, mV, mC, mPeek, mVar, Pk.get, Sl.cnt, Own.pv, mSetC, gR, gN, thenS, mNext, trv_bl, mStrM, isStr, okIf, toA1, toA0, getC, fSw, mDropC, mRet, mRetC, mTup, endF, outs, getAll, Res.of, two_le, three_le, cALL, cCON, cREC, cVAR,  mw]
    | ok t m =>
      rw [hp] at a4
      obtain ⟨a4, hm⟩ := a4
      have d := hd_wd tw.1 m
      have mw := meth0b (A := A) (nm := "whole") (b := false) (x := .pv (.str s)) (r := [.no]) (lkn (by decide) (by decide)) a4
      have mh := meth0b (A := A) (nm := "head") (b := false) (x := .pv (.str s)) (r := [.pv (enc t)]) (lkn (by decide) (by decide)) (sm.head m)
      have mf := meth0b_err (A := A) (nm := "fail") (b := false) (x := .pv (.str s)) (r := [.pv (enc t)]) (lkn (by decide) (by decide)) (sm.fail m (by omega))
      show endF _ (m_parse_type A (FN A (k + 3)) (startE 3 [.pv (.str s)])) = _
      rw [hs]
      unfold m_parse_type
      rw [mSeq, mk]
      by_cases h : hd ws m = ""
      · have z0 : trv (.str ("" : Str)) = some false := by decide +kernel
        simp [mSeq, mIf, mtB, mtOr, mtNot, mtV, mOp2, toP, mV, mC, mPeek, mVar, Pk.get, Sl.cnt, Own.pv, mSetC, gR, gN, thenS, mNext, trv_bl, mStrM, isStr, okIf, toA1, toA0, getC, fSw, mDropC, mRet, mRetC, mTup, endF, outs, getAll, Res.of, two_le, three_le, cALL, cCON, cREC, cVAR,  mw, mh, h, z0]
      · simp [mSeq, mIf, mtB, mtOr, mtNot, mtV, mOp2, toP, mV, mC, mPeek, mVar, Pk.get, Sl.cnt, Own.pv, mSetC, gR, gN, thenS, mNext, trv_bl, mStrM, isStr, okIf, toA1, toA0, getC, fSw, mDropC, mRet, mRetC, mTup, endF, outs, getAll, Res.of, two_le, three_le, cALL, cCON, cREC, cVAR,  mw, mh, trv_str (z1000 d.len), h, mf]
end K03
namespace K03
open PySem PySem.Spec L2 PL
/-! M18: texts of types, as they are printed -/
def isAll : T → Bool
  | .all _ _ => true
  | _ => false
def isFun : T → Bool
  | .con s _ => decide (s = "Fun")
  | _ => false
def argd : T → Bool
  | .con _ (_ :: _) => true
  | _ => false
def par (b : Bool) (s : Str) : Str := if b then "(" ++ s ++ ")" else s
mutual
def fmt : T → Str
  | .var s => s
  | .con s l => if s = "Fun" then (match l, fmts l with
      | a :: _, x :: y :: _ => par (isAll a || isFun a) x ++ " -> " ++ y
      | _, _ => "") else Txt.join " " (s :: fmta l)
  | .rcd l tl => "{" ++ Txt.join ", " (fmtf l) ++ (match tl with | some s => " | " ++ s | none => "") ++ "}"
  | .all s t => "all " ++ s ++ " . " ++ fmt t
def fmts : List T → List Str
  | [] => []
  | t :: r => fmt t :: fmts r
def fmta : List T → List Str
  | [] => []
  | t :: r => par (isAll t || argd t) (fmt t) :: fmta r
def fmtf : List (Str × T) → List Str
  | [] => []
  | (k, t) :: r => (k ++ " : " ++ fmt t) :: fmtf r
end
/-! how deep the value is -/
mutual
def dp : T → Nat
  | .var _ => 1
  | .con _ l => 2 + dps l
  | .rcd l _ => 3 + dpf l
  | .all _ t => 1 + dp t
def dps : List T → Nat
  | [] => 0
  | t :: r => max (dp t) (dps r)
def dpf : List (Str × T) → Nat
  | [] => 0
  | (_, t) :: r => max (dp t) (dpf r)
end
/-- behind a word may stand: nothing, a blank, a closing sign, a comma -/
def Brk (r : List Nat) : Prop := ∀ c, r.head? = some c → c = 32 ∨ c = 41 ∨ c = 125 ∨ c = 44
/-- a word: read as one wherever it stands -/
structure Wo (s : Str) : Prop where
  ok : Ok s
  len : s.length ≤ 1000
  nx : ∀ r, Brk r → nxt (sg s ++ r) = some s.length
/-! types as they are read -/
mutual
def Wf : T → Prop
  | .var s => isV s = true ∧ Wo s
  | .con s l => (s = "Fun" → l.length = 2) ∧ isH s = true ∧ Wo s ∧ Wfs l
  | .rcd l tl => Wff l ∧ sortG l = l ∧ (l.map (·.1)).Nodup ∧ ∀ s, tl = some s → isTail s = true ∧ Wo s
  | .all s t => (isV s = true ∨ isTail s = true) ∧ Wo s ∧ Wf t
def Wfs : List T → Prop
  | [] => True
  | t :: r => Wf t ∧ Wfs r
def Wff : List (Str × T) → Prop
  | [] => True
  | (k, t) :: r => (isV k = true ∧ Wo k) ∧ Wf t ∧ Wff r
end
theorem dp_pos (t : T) : 1 ≤ dp t := by
  cases t <;> simp only [dp] <;> omega
/-! ### kinds -/
theorem kvar : Ok ("var" : Str) := by decide +kernel
theorem kcon : Ok ("con" : Str) := by decide +kernel
theorem krec : Ok ("rec" : Str) := by decide +kernel
theorem kall : Ok ("all" : Str) := by decide +kernel
theorem kfun : Ok ("Fun" : Str) := by decide +kernel
theorem eqk {a b : Str} {v : Bool} (ha : Ok a) (hb : Ok b) (h : decide (a = b) = v) : fEq (.str a) (.str b) = some (.bl v) := by rw [eq_str ha hb, h]
theorem e_vv : fEq (.str "var") (.str "var") = some (.bl true) := eqk kvar kvar (by decide)
theorem e_vc : fEq (.str "var") (.str "con") = some (.bl false) := eqk kvar kcon (by decide)
theorem e_vr : fEq (.str "var") (.str "rec") = some (.bl false) := eqk kvar krec (by decide)
theorem e_va : fEq (.str "var") (.str "all") = some (.bl false) := eqk kvar kall (by decide)
theorem e_cv : fEq (.str "con") (.str "var") = some (.bl false) := eqk kcon kvar (by decide)
theorem e_cc : fEq (.str "con") (.str "con") = some (.bl true) := eqk kcon kcon (by decide)
theorem e_cr : fEq (.str "con") (.str "rec") = some (.bl false) := eqk kcon krec (by decide)
theorem e_ca : fEq (.str "con") (.str "all") = some (.bl false) := eqk kcon kall (by decide)
theorem e_rv : fEq (.str "rec") (.str "var") = some (.bl false) := eqk krec kvar (by decide)
theorem e_rc : fEq (.str "rec") (.str "con") = some (.bl false) := eqk krec kcon (by decide)
theorem e_rr : fEq (.str "rec") (.str "rec") = some (.bl true) := eqk krec krec (by decide)
theorem e_ra : fEq (.str "rec") (.str "all") = some (.bl false) := eqk krec kall (by decide)
theorem e_av : fEq (.str "all") (.str "var") = some (.bl false) := eqk kall kvar (by decide)
theorem e_ac : fEq (.str "all") (.str "con") = some (.bl false) := eqk kall kcon (by decide)
theorem e_ar : fEq (.str "all") (.str "rec") = some (.bl false) := eqk kall krec (by decide)
theorem e_aa : fEq (.str "all") (.str "all") = some (.bl true) := eqk kall kall (by decide)
theorem ix0 {a : PV} {l : List PV} : fIx (.tup (a :: l)) (.int 0) = some a := by simp [fIx, atI, ixN]
theorem ix1 {a b : PV} {l : List PV} : fIx (.tup (a :: b :: l)) (.int 1) = some b := by
  have : (1 : Int) < (l.length : Int) + 1 + 1 := by omega
  simp [fIx, atI, ixN, this]
theorem ix2 {a b c : PV} {l : List PV} : fIx (.tup (a :: b :: c :: l)) (.int 2) = some c := by
  have : (2 : Int) < (l.length : Int) + 1 + 1 + 1 := by omega
  simp [fIx, atI, ixN, this]
theorem call1 {f : Fn} {p : PV} {r : Rv} {os : List Own} {ρ : Ev} (h : f [.pv p] = .ok (r, os)) : goCall 1 f [.val p] ρ = .ok (r, ρ) := by
  simp [goCall, toAgs, toAg, ownIx, h, updO]
theorem mV_ok {m : MC} {ρ ρ' : Ev} {p : PV} (h : m ρ = .ok (.pv p, ρ')) : mV m ρ = .ok (p, ρ') := by simp [mV, h]
/-- a list comprehension that keeps all -/
theorem comp_map {α : Type} {g : MG} {e : ME} {vs : List Nat} {ρ : Ev} (h f : α → PV) (k : α → Ev) : ∀ (l : List α) (acc : List PV), (∀ a ∈ l, g (h a) ρ = some (k a) ∧ e (k a) = .ok (f a, k a) ∧ wipeE (k a) vs = ρ) → acc.length + l.length ≤ sizeLine →
    compF g mtYes e vs (l.map h) ρ acc = .ok (acc ++ l.map f, ρ)
  | [], acc, _, _ => by simp [compF]
  | a :: l, acc, ha, hl => by
    obtain ⟨h1, h2, h3⟩ := ha a (List.mem_cons_self ..)
    have ih := comp_map (g := g) (e := e) (vs := vs) (ρ := ρ) h f k l (acc ++ [f a]) (fun b hb => ha b (List.mem_cons_of_mem _ hb)) (by simp at hl ⊢; omega)
    have z : acc.length < sizeLine := by simp at hl; omega
    simp only [List.map_cons, compF, h1, Res.of_some, Res.ok_bind, mtYes, Res.nf, if_true, h2, h3, if_pos z, ih]
    simp
end K03
namespace K03
open PySem PySem.Spec L2 PL
/-! M19: format_type, the mirror -/
theorem fmts_eq : ∀ l : List T, fmts l = l.map fmt
  | [] => by simp [fmts]
  | t :: l => by simp [fmts, fmts_eq l]
theorem fmta_eq : ∀ l : List T, fmta l = l.map fun t => par (isAll t || argd t) (fmt t)
  | [] => by simp [fmta]
  | t :: l => by simp [fmta, fmta_eq l]
theorem fmtf_eq : ∀ l : List (Str × T), fmtf l = l.map fun e => e.1 ++ " : " ++ fmt e.2
  | [] => by simp [fmtf]
  | (k, t) :: l => by simp [fmtf, fmtf_eq l]
theorem encs_eq : ∀ l : List T, encs l = l.map enc
  | [] => by simp [encs]
  | t :: l => by simp [encs, encs_eq l]
theorem encf_map : ∀ l : List (Str × T), encf l = l.map fun e => PV.tup [.str e.1, enc e.2]
  | [] => by simp [encf]
  | (k, t) :: l => by simp [encf, encf_map l]
theorem wfs_iff : ∀ l : List T, Wfs l ↔ ∀ t ∈ l, Wf t
  | [] => by simp [Wfs]
  | t :: l => by simp [Wfs, wfs_iff l]
theorem wff_iff : ∀ l : List (Str × T), Wff l ↔ ∀ e ∈ l, (isV e.1 = true ∧ Wo e.1) ∧ Wf e.2
  | [] => by simp [Wff]
  | (k, t) :: l => by simp [Wff, wff_iff l, and_assoc]
theorem dps_le : ∀ {l : List T} {t : T}, t ∈ l → dp t ≤ dps l
  | [], _, h => nomatch h
  | u :: l, t, h => by
    simp only [dps]
    rcases List.mem_cons.mp h with rfl | h
    · omega
    · have := dps_le h; omega
theorem dpf_le : ∀ {l : List (Str × T)} {e : Str × T}, e ∈ l → dp e.2 ≤ dpf l
  | [], _, h => nomatch h
  | (k, u) :: l, e, h => by
    simp only [dpf]
    rcases List.mem_cons.mp h with rfl | h
    · show dp u ≤ _; omega
    · have := dpf_le h; omega
theorem par_len (b : Bool) (s : Str) : (par b s).length = s.length + if b then 2 else 0 := by
  have l1 : ("(" : Str).length = 1 := by decide
  have l2 : (")" : Str).length = 1 := by decide
  cases b
  · simp [par]
  · simp only [par, if_true, len_app, l1, l2]; omega
theorem joinEq (a : Str) (l : List Str) : Txt.join a l = Str.join a l := PySem.StrLaws.glued_eq_join a l
theorem join_nil1 {a x : Str} : Txt.join a [x] = x := by rw [joinEq]; rfl
theorem join_two {a x y : Str} {l : List Str} : Txt.join a (x :: y :: l) = x ++ a ++ Txt.join a (y :: l) := by rw [joinEq, joinEq]; rfl
theorem join_len (a : Str) : ∀ (x : Str) (l : List Str), (Txt.join a (x :: l)).length + a.length = ((x :: l).map (·.length)).sum + (x :: l).length * a.length
  | x, [] => by simp [join_nil1]
  | x, y :: l => by
    have ih := join_len a y l
    rw [join_two, len_app, len_app]
    simp only [List.map_cons, List.sum_cons, List.length_cons, Nat.add_mul] at ih ⊢
    omega
theorem join_mem {a : Str} {l : List Str} {x : Str} (h : x ∈ l) : x.length ≤ (Txt.join a l).length := by
  cases l with
  | nil => cases h
  | cons y l =>
    have e := join_len a y l
    have s : x.length ≤ ((y :: l).map (·.length)).sum := by
      clear e
      generalize y :: l = m at h
      induction m with
      | nil => cases h
      | cons z m ih =>
        simp only [List.map_cons, List.sum_cons]
        rcases List.mem_cons.mp h with rfl | h
        · omega
        · have := ih h; omega
    have : a.length ≤ (y :: l).length * a.length := by simp only [List.length_cons, Nat.add_mul]; omega
    omega
theorem txs_map : ∀ l : List Str, txs (l.map .str) = some l
  | [] => rfl
  | x :: l => by simp [txs, txs_map l]
theorem join_ok {a : Str} {l : List Str} (ha : a.length ≤ 10) (h : (Txt.join a l).length ≤ 100000) : joinP a (l.map .str) = some (.str (Txt.join a l)) := by
  unfold joinP
  rw [txs_map]
  have : (l.map (·.length)).sum + l.length * a.length ≤ 16777216 := by
    cases l with
    | nil => simp
    | cons x l => have := join_len a x l; omega
  simp [this]
theorem fmt_con {s : Str} {l : List T} (h : s ≠ "Fun") : fmt (.con s l) = Txt.join " " (s :: fmta l) := by simp [fmt, h]
theorem fmt_fun {a b : T} : fmt (.con "Fun" [a, b]) = par (isAll a || isFun a) (fmt a) ++ " -> " ++ fmt b := by simp [fmt, fmts]
theorem f_fmt {s : Str} (h : s.length ≤ 100000) : fFmt (.str s) = some (.str s) := by
  have z : (1000000 : Nat) ≤ sizeLine := by rw [sizeLine_eq]; decide
  simp [fFmt]; omega
theorem f_add' {a b : Str} (h : a.length + b.length ≤ 100100) : fAdd (.str a) (.str b) = some (.str (a ++ b)) := by
  have z : (1000000 : Nat) ≤ sizeLine := by rw [sizeLine_eq]; decide
  exact f_add (by omega)
theorem z6 {n : Nat} (h : n ≤ 1000000) : n ≤ sizeLine := by rw [sizeLine_eq]; exact Nat.le_trans h (by decide)
theorem str_assoc (a b c : Str) : a ++ b ++ c = a ++ (b ++ c) := sg_ext (by simp [sg_app])
theorem empty_app (a : Str) : Str.empty ++ a = a := sg_ext (by rw [sg_app]; rfl)
theorem app_nil (a : Str) : a ++ ("" : Str) = a := sg_ext (by rw [sg_app]; simp; decide +kernel)
def tlP : Option Str → PV
  | some s => .str s
  | none => .non
theorem encR (l : List (Str × T)) (tl : Option Str) : enc (.rcd l tl) = .tup [.str "rec", .tup (encf l), tlP tl] := by
  cases tl <;> simp [enc, tlP]
/-- atom_text by format_type -/
theorem run_atom {A : Ads} {F : Fns} {t : T} (h : F.format_type [.pv (enc t)] = .ok (.pv (.str (fmt t)), [])) (w : Wf t) (hl : (fmt t).length ≤ 100000) :
    fnBody 1 (m_atom_text A F) [.pv (enc t)] = .ok (.pv (.str (par (isAll t || argd t) (fmt t))), []) := by
  have hs : startE 1 [.pv (enc t)] = [.pv (enc t)] := by simp [startE, toSl]
  show endF _ (m_atom_text A F (startE 1 [.pv (enc t)])) = _
  rw [hs]
  have c : ∀ ρ, goCall 1 F.format_type [.val (enc t)] ρ = .ok (.pv (.str (fmt t)), ρ) := fun ρ => call1 h
  have l1 : ("(" : Str).length = 1 := by decide
  have l2 : (")" : Str).length = 1 := by decide
  have a1 : fAdd (.str "(") (.str (fmt t)) = some (.str ("(" ++ fmt t)) := f_add' (by omega)
  have a2 : fAdd (.str ("(" ++ fmt t)) (.str ")") = some (.str ("(" ++ fmt t ++ ")")) := f_add' (by rw [len_app]; omega)
  cases t with
  | var s =>
    have e : enc (.var s) = .tup [.str "var", .str s] := by simp [enc]
    rw [e] at c ⊢
    simp [m_atom_text, mSeq, mIf, mtB, mtOr, mtNot, mtV, mOp2, toP, mV, mC, mPeek, mVar, Pk.get, Sl.cnt, Own.pv, mSetC, gR, gN, thenS, mNext, trv_bl, mStrM, isStr, okIf, toA1, toA0, getC, fSw, mDropC, mRet, mRetC, mTup, endF, outs, getAll, Res.of, two_le, three_le, cALL, cCON, cREC, cVAR,  mtAnd, mCall, ix0, ix1, e_va, e_vc, c, isAll, argd, par]
  | con s l =>
    have e : enc (.con s l) = .tup [.str "con", .str s, .tup (encs l)] := by simp [enc]
    rw [e] at c ⊢
    cases l with
    | nil =>
      simp only [encs] at c ⊢
      simp [m_atom_text, mSeq, mIf, mtB, mtOr, mtNot, mtV, mOp2, toP, mV, mC, mPeek, mVar, Pk.get, Sl.cnt, Own.pv, mSetC, gR, gN, thenS, mNext, trv_bl, mStrM, isStr, okIf, toA1, toA0, getC, fSw, mDropC, mRet, mRetC, mTup, endF, outs, getAll, Res.of, two_le, three_le, cALL, cCON, cREC, cVAR,  mtAnd, mCall, ix0, ix1, ix2, e_ca, e_cc, c, isAll, argd, par, encs, trv]
    | cons u l =>
      simp only [encs] at c ⊢
      simp [m_atom_text, mSeq, mIf, mtB, mtOr, mtNot, mtV, mOp2, toP, mV, mC, mPeek, mVar, Pk.get, Sl.cnt, Own.pv, mSetC, gR, gN, thenS, mNext, trv_bl, mStrM, isStr, okIf, toA1, toA0, getC, fSw, mDropC, mRet, mRetC, mTup, endF, outs, getAll, Res.of, two_le, three_le, cALL, cCON, cREC, cVAR,  mtAnd, mCall, ix0, ix1, ix2, e_ca, e_cc, c, isAll, argd, par, encs, trv, a1, a2]
  | rcd l tl =>
    have e := encR l tl
    rw [e] at c ⊢
    simp [m_atom_text, mSeq, mIf, mtB, mtOr, mtNot, mtV, mOp2, toP, mV, mC, mPeek, mVar, Pk.get, Sl.cnt, Own.pv, mSetC, gR, gN, thenS, mNext, trv_bl, mStrM, isStr, okIf, toA1, toA0, getC, fSw, mDropC, mRet, mRetC, mTup, endF, outs, getAll, Res.of, two_le, three_le, cALL, cCON, cREC, cVAR,  mtAnd, mCall, ix0, ix1, e_ra, e_rc, c, isAll, argd, par]
  | all s u =>
    have e : enc (.all s u) = .tup [.str "all", .str s, enc u] := by simp [enc]
    rw [e] at c ⊢
    simp [m_atom_text, mSeq, mIf, mtB, mtOr, mtNot, mtV, mOp2, toP, mV, mC, mPeek, mVar, Pk.get, Sl.cnt, Own.pv, mSetC, gR, gN, thenS, mNext, trv_bl, mStrM, isStr, okIf, toA1, toA0, getC, fSw, mDropC, mRet, mRetC, mTup, endF, outs, getAll, Res.of, two_le, three_le, cALL, cCON, cREC, cVAR,  mtAnd, mCall, ix0, ix1, e_aa, c, isAll, argd, par, a1, a2]
end K03
namespace K03
open PySem PySem.Spec L2 PL
/-! M20: format_type is the mirror -/
theorem sum_le {l : List Str} {n : Nat} (h : l.length ≤ n) : l.length ≤ n := h
theorem fmtf_ne {l : List (Str × T)} (h : l ≠ []) : Txt.join ", " (fmtf l) ≠ "" := by
  intro k
  have z := len0.mpr k
  cases l with
  | nil => exact h rfl
  | cons e l =>
    obtain ⟨k', t⟩ := e
    have m : (k' ++ " : " ++ fmt t) ∈ fmtf ((k', t) :: l) := by simp [fmtf]
    have := join_mem (a := ", ") m
    rw [len_app, len_app] at this
    have l1 : (" : " : Str).length = 3 := by decide
    omega
theorem join_count (a : Str) (l : List Str) (ha : 1 ≤ a.length) : l.length ≤ (Txt.join a l).length + 1 := by
  cases l with
  | nil => exact Nat.zero_le _
  | cons x l =>
    have := join_len a x l
    have h2 : (x :: l).length * 1 ≤ (x :: l).length * a.length := Nat.mul_le_mul_left _ ha
    have h3 : l.length * a.length + a.length = (x :: l).length * a.length := by simp [Nat.add_mul]
    have h4 : l.length * 1 ≤ l.length * a.length := Nat.mul_le_mul_left _ ha
    have : (x :: l).length = l.length + 1 := rfl
    omega
/-- record_text by format_type -/
theorem run_rec {A : Ads} {F : Fns} {l : List (Str × T)} {tl : Option Str} (h : ∀ e ∈ l, F.format_type [.pv (enc e.2)] = .ok (.pv (.str (fmt e.2)), [])) (w : Wf (.rcd l tl)) (hl : (fmt (.rcd l tl)).length ≤ 100000) :
    fnBody 7 (m_record_text A F) [.pv (enc (.rcd l tl))] = .ok (.pv (.str (fmt (.rcd l tl))), []) := by
  rw [encR]
  have hs : startE 7 [.pv (.tup [.str "rec", .tup (encf l), tlP tl])] = [.pv (.tup [.str "rec", .tup (encf l), tlP tl]), .no, .no, .no, .no, .no, .no] := by simp [startE, toSl]
  show endF _ (m_record_text A F (startE 7 _)) = _
  rw [hs]
  simp only [fmt] at hl ⊢
  rw [len_app, len_app, len_app] at hl
  have l1 : ("{" : Str).length = 1 := by decide
  have l2 : ("}" : Str).length = 1 := by decide
  have l3 : (" | " : Str).length = 3 := by decide
  have l4 : (", " : Str).length = 2 := by decide
  have l5 : (" : " : Str).length = 3 := by decide
  have hj : (Txt.join ", " (fmtf l)).length ≤ 100000 := by omega
  have hc : (fmtf l).length ≤ (Txt.join ", " (fmtf l)).length + 1 := join_count _ _ (by omega)
  have ef : encf l = l.map fun e => PV.tup [.str e.1, enc e.2] := encf_map l
  rw [ef]
  have hn : l.length = (fmtf l).length := by rw [fmtf_eq, List.length_map]
  have cm := comp_map (g := gTupM 2 (gsCons (gN 5) (gsCons (gN 6) gsNil))) (e := mJoined [(mOp1 fFmt (mPeek 5)), (mC (.str " : ")), (mOp1 fFmt (toP (mV (mCall 1 F.format_type (toA1 (toP (mVar 6)) toA0)))))]) (vs := [5, 6])
    (ρ := [.pv (.tup [.str "rec", .tup (l.map fun e => PV.tup [.str e.1, enc e.2]), tlP tl]), .pv (.str "rec"), .pv (.tup (l.map fun e => PV.tup [.str e.1, enc e.2])), .pv (tlP tl), .no, .no, .no])
    (fun e : Str × T => PV.tup [.str e.1, enc e.2]) (fun e => .str (e.1 ++ " : " ++ fmt e.2)) (fun e => [.pv (.tup [.str "rec", .tup (l.map fun e => PV.tup [.str e.1, enc e.2]), tlP tl]), .pv (.str "rec"), .pv (.tup (l.map fun e => PV.tup [.str e.1, enc e.2])), .pv (tlP tl), .no, .pv (.str e.1), .pv (enc e.2)]) l [] (fun e he => by
      have m : (e.1 ++ " : " ++ fmt e.2) ∈ fmtf l := by rw [fmtf_eq]; exact List.mem_map_of_mem he
      have m := join_mem (a := ", ") m
      rw [len_app, len_app] at m
      have c : ∀ ρ, goCall 1 F.format_type [.val (enc e.2)] ρ = .ok (.pv (.str (fmt e.2)), ρ) := fun ρ => call1 (h e he)
      have f1 := f_fmt (s := e.1) (by omega)
      have f2 := f_fmt (s := fmt e.2) (by omega)
      have z1 : (Str.empty ++ e.1).length ≤ sizeLine := z6 (by rw [empty_app]; omega)
      have z2 : (Str.empty ++ e.1 ++ " : ").length ≤ sizeLine := z6 (by rw [empty_app, len_app]; omega)
      have z3 : (Str.empty ++ e.1 ++ " : " ++ fmt e.2).length ≤ sizeLine := z6 (by rw [empty_app, len_app, len_app]; omega)
      refine ⟨by simp [gTupM, gsCons, gsNil, gN], ?_, by simp [wipeE]⟩
      simp [mSeq, mIf, mtB, mtOr, mtNot, mtV, mOp2, toP, mV, mC, mPeek, mVar, Pk.get, Sl.cnt, Own.pv, mSetC, gR, gN, thenS, mNext, trv_bl, mStrM, isStr, okIf, toA1, toA0, getC, fSw, mDropC, mRet, mRetC, mTup, endF, outs, getAll, Res.of, two_le, three_le, cALL, cCON, cREC, cVAR,  mJoined, goJ, mOp1, mCall, f1, f2, c, z1, z2, z3]
      rw [empty_app]) (by simp only [List.length_nil]; exact z6 (by omega))
  have e0 : (", " : Str).length ≤ 10 := by omega
  have jn := join_ok (a := ", ") (l := fmtf l) e0 hj
  rw [fmtf_eq, List.map_map] at jn
  have e1 : ((fun x => PV.str x) ∘ fun (e : Str × T) => e.1 ++ " : " ++ fmt e.2) = fun e => PV.str (e.1 ++ " : " ++ fmt e.2) := rfl
  rw [e1, ← fmtf_eq] at jn
  have jl : (Txt.join ", " (fmtf l)).length ≤ sizeLine := z6 (by omega)
  have tj : trv (.str (Txt.join ", " (fmtf l))) = some (!decide (Txt.join ", " (fmtf l) = "")) := trv_str jl
  cases tl with
  | none =>
    have a1 : fAdd (.str "{") (.str (Txt.join ", " (fmtf l))) = some (.str ("{" ++ Txt.join ", " (fmtf l))) := f_add' (by omega)
    have a2 : fAdd (.str ("{" ++ Txt.join ", " (fmtf l))) (.str "}") = some (.str ("{" ++ Txt.join ", " (fmtf l) ++ "}")) := f_add' (by rw [len_app]; omega)
    simp only [tlP] at cm ⊢
    simp [m_record_text, mSeq, mIf, mtB, mtOr, mtNot, mtV, mOp2, toP, mV, mC, mPeek, mVar, Pk.get, Sl.cnt, Own.pv, mSetC, gR, gN, thenS, mNext, trv_bl, mStrM, isStr, okIf, toA1, toA0, getC, fSw, mDropC, mRet, mRetC, mTup, endF, outs, getAll, Res.of, two_le, three_le, cALL, cCON, cREC, cVAR,  mAsg, gTupM, gsCons, gsNil, mLc, itT, noOwn, wipeE, backE, cm, fJoin, jn, fIs, a1, a2, app_nil]
  | some s =>
    have hls : s.length ≤ 100000 := by simp only [len_app] at hl; omega
    simp only [tlP] at cm ⊢
    by_cases hn : l = []
    · subst hn
      have ej : Txt.join ", " (fmtf []) = "" := by simp [fmtf]; decide +kernel
      rw [ej] at jn tj hl ⊢
      simp only [List.map_nil] at cm jn
      have tj : trv (.str ("" : Str)) = some false := by rw [tj]; simp
      have a1 : fAdd (.str "{") (.str " | ") = some (.str ("{" ++ " | ")) := f_add' (by omega)
      have a2 : fAdd (.str ("{" ++ " | ")) (.str s) = some (.str ("{" ++ " | " ++ s)) := f_add' (by rw [len_app]; omega)
      have a3 : fAdd (.str ("{" ++ " | " ++ s)) (.str "}") = some (.str ("{" ++ " | " ++ s ++ "}")) := f_add' (by rw [len_app, len_app]; omega)
      have ee : ("{" ++ " | " ++ s ++ "}" : Str) = "{" ++ "" ++ (" | " ++ s) ++ "}" := sg_ext (by simp [sg_app]; decide +kernel)
      rw [← ee]
      simp [m_record_text, mSeq, mIf, mtB, mtOr, mtNot, mtV, mOp2, toP, mV, mC, mPeek, mVar, Pk.get, Sl.cnt, Own.pv, mSetC, gR, gN, thenS, mNext, trv_bl, mStrM, isStr, okIf, toA1, toA0, getC, fSw, mDropC, mRet, mRetC, mTup, endF, outs, getAll, Res.of, two_le, three_le, cALL, cCON, cREC, cVAR,  mAsg, gTupM, gsCons, gsNil, mLc, itT, noOwn, wipeE, backE, cm, fJoin, jn, fIs, mIfE, tj, a1, a2, a3]
    · have hj' := fmtf_ne hn
      simp only [len_app] at hl
      have a0 : fAdd (.str (Txt.join ", " (fmtf l))) (.str " | ") = some (.str (Txt.join ", " (fmtf l) ++ " | ")) := f_add' (by omega)
      have a1 : fAdd (.str "{") (.str (Txt.join ", " (fmtf l) ++ " | ")) = some (.str ("{" ++ (Txt.join ", " (fmtf l) ++ " | "))) := f_add' (by rw [len_app]; omega)
      have a2 : fAdd (.str ("{" ++ (Txt.join ", " (fmtf l) ++ " | "))) (.str s) = some (.str ("{" ++ (Txt.join ", " (fmtf l) ++ " | ") ++ s)) := f_add' (by simp only [len_app]; omega)
      have a3 : fAdd (.str ("{" ++ (Txt.join ", " (fmtf l) ++ " | ") ++ s)) (.str "}") = some (.str ("{" ++ (Txt.join ", " (fmtf l) ++ " | ") ++ s ++ "}")) := f_add' (by simp only [len_app]; omega)
      have ee : ("{" ++ (Txt.join ", " (fmtf l) ++ " | ") ++ s ++ "}" : Str) = "{" ++ Txt.join ", " (fmtf l) ++ (" | " ++ s) ++ "}" := sg_ext (by simp [sg_app])
      rw [← ee]
      simp [m_record_text, mSeq, mIf, mtB, mtOr, mtNot, mtV, mOp2, toP, mV, mC, mPeek, mVar, Pk.get, Sl.cnt, Own.pv, mSetC, gR, gN, thenS, mNext, trv_bl, mStrM, isStr, okIf, toA1, toA0, getC, fSw, mDropC, mRet, mRetC, mTup, endF, outs, getAll, Res.of, two_le, three_le, cALL, cCON, cREC, cVAR,  mAsg, gTupM, gsCons, gsNil, mLc, itT, noOwn, wipeE, backE, cm, fJoin, jn, fIs, mIfE, tj, hj', a0, a1, a2, a3]
end K03
namespace K03
open PySem PySem.Spec L2 PL
/-! M21: format_type, all of it -/
theorem seq_nx {m1 m2 : MS} {ρ ρ1 : Ev} (h : m1 ρ = .ok (.nx, ρ1)) : mSeq m1 m2 ρ = m2 ρ1 := by simp [mSeq, h, thenS]
theorem seq_rt {m1 m2 : MS} {ρ ρ1 : Ev} {r : Rv} (h : m1 ρ = .ok (.rt r, ρ1)) : mSeq m1 m2 ρ = .ok (.rt r, ρ1) := by simp [mSeq, h, thenS]
theorem if_t {t : MT} {m1 m2 : MS} {ρ ρ1 : Ev} (h : t ρ = .ok (true, ρ1)) : mIf t m1 m2 ρ = m1 ρ1 := by simp [mIf, h]
theorem if_f {t : MT} {m1 m2 : MS} {ρ ρ1 : Ev} (h : t ρ = .ok (false, ρ1)) : mIf t m1 m2 ρ = m2 ρ1 := by simp [mIf, h]
theorem if_n {t : MT} {m1 : MS} {ρ : Ev} (h : t ρ = .ok (false, ρ)) : mIf t m1 mNext ρ = .ok (.nx, ρ) := by simp [mIf, h, mNext]
theorem asg_n {m : ME} {g : MG} {ρ ρ1 ρ2 : Ev} {p : PV} (h : m ρ = .ok (p, ρ1)) (h2 : g p ρ1 = some ρ2) : mAsg m g ρ = .ok (.nx, ρ2) := by simp [mAsg, h, h2, Res.of]
theorem ret_n {m : ME} {ρ ρ1 : Ev} {p : PV} (h : m ρ = .ok (p, ρ1)) : mRet m ρ = .ok (.rt (.pv p), ρ1) := by simp [mRet, h]
/-- is_bound, as it is reckoned -/
theorem bound_v {t : T} (w : Wf t) {ρ : Ev} (h : ρ[2]? = some (.pv (enc t))) : (mOrV (mOp2 fEq (toP (mOp2 fIx (mPeek 2) (toP (mC (.int 0))))) (toP (mC (.str c_ALL)))) (mAndV (mOp2 fEq (toP (mOp2 fIx (mPeek 2) (toP (mC (.int 0))))) (toP (mC (.str c_CON)))) (mOp2 fEq (toP (mOp2 fIx (mPeek 2) (toP (mC (.int 1))))) (toP (mC (.str "Fun")))))) ρ = .ok (.bl (isAll t || isFun t), ρ) := by
  cases t with
  | var s =>
    simp only [enc] at h
    simp [mSeq, mIf, mtB, mtOr, mtNot, mtV, mOp2, toP, mV, mC, mPeek, mVar, Pk.get, Sl.cnt, Own.pv, mSetC, gR, gN, thenS, mNext, trv_bl, mStrM, isStr, okIf, toA1, toA0, getC, fSw, mDropC, mRet, mRetC, mTup, endF, outs, getAll, Res.of, two_le, three_le, cALL, cCON, cREC, cVAR,  mOrV, mAndV, h, ix0, ix1, e_va, e_vc, isAll, isFun]
  | con s l =>
    simp only [enc] at h
    simp only [Wf] at w
    simp [mSeq, mIf, mtB, mtOr, mtNot, mtV, mOp2, toP, mV, mC, mPeek, mVar, Pk.get, Sl.cnt, Own.pv, mSetC, gR, gN, thenS, mNext, trv_bl, mStrM, isStr, okIf, toA1, toA0, getC, fSw, mDropC, mRet, mRetC, mTup, endF, outs, getAll, Res.of, two_le, three_le, cALL, cCON, cREC, cVAR,  mOrV, mAndV, h, ix0, ix1, e_ca, e_cc, eq_str w.2.2.1.ok kfun, isAll, isFun]
  | rcd l tl =>
    rw [encR] at h
    simp [mSeq, mIf, mtB, mtOr, mtNot, mtV, mOp2, toP, mV, mC, mPeek, mVar, Pk.get, Sl.cnt, Own.pv, mSetC, gR, gN, thenS, mNext, trv_bl, mStrM, isStr, okIf, toA1, toA0, getC, fSw, mDropC, mRet, mRetC, mTup, endF, outs, getAll, Res.of, two_le, three_le, cALL, cCON, cREC, cVAR,  mOrV, mAndV, h, ix0, ix1, e_ra, e_rc, isAll, isFun]
  | all s u =>
    simp only [enc] at h
    simp [mSeq, mIf, mtB, mtOr, mtNot, mtV, mOp2, toP, mV, mC, mPeek, mVar, Pk.get, Sl.cnt, Own.pv, mSetC, gR, gN, thenS, mNext, trv_bl, mStrM, isStr, okIf, toA1, toA0, getC, fSw, mDropC, mRet, mRetC, mTup, endF, outs, getAll, Res.of, two_le, three_le, cALL, cCON, cREC, cVAR,  mOrV, mAndV, h, ix0, ix1, e_aa, isAll, isFun]
theorem run_fmt {A : Ads} : ∀ (j : Nat) (t : T), Wf t → dp t ≤ j → (fmt t).length ≤ 100000 → (FN A j).format_type [.pv (enc t)] = .ok (.pv (.str (fmt t)), []) := by
  intro j
  induction j using Nat.strongRecOn with
  | ind j ih =>
    intro t w d hl
    obtain ⟨j, rfl⟩ : ∃ i, j = i + 1 := ⟨j - 1, by have := dp_pos t; omega⟩
    have cf : ∀ t', Wf t' → dp t' ≤ j → (fmt t').length ≤ 100000 → ∀ ρ, goCall 1 (FN A j).format_type [.val (enc t')] ρ = .ok (.pv (.str (fmt t')), ρ) := fun t' w' d' l' ρ => call1 (ih j (by omega) t' w' d' l')
    have hs : startE 7 [.pv (enc t)] = [.pv (enc t), .no, .no, .no, .no, .no, .no] := by simp [startE, toSl]
    show endF _ (m_format_type A (FN A j) (startE 7 [.pv (enc t)])) = _
    rw [hs]
    cases t with
    | var s =>
      simp only [enc, fmt]
      simp [m_format_type, mSeq, mIf, mtB, mtOr, mtNot, mtV, mOp2, toP, mV, mC, mPeek, mVar, Pk.get, Sl.cnt, Own.pv, mSetC, gR, gN, thenS, mNext, trv_bl, mStrM, isStr, okIf, toA1, toA0, getC, fSw, mDropC, mRet, mRetC, mTup, endF, outs, getAll, Res.of, two_le, three_le, cALL, cCON, cREC, cVAR,  mAsg, ix0, ix1, e_vv]
    | rcd l tl =>
      obtain ⟨j, rfl⟩ : ∃ i, j = i + 1 := ⟨j - 1, by simp only [dp] at d; omega⟩
      have c : ∀ ρ, goCall 1 (FN A (j + 1)).record_text [.val (enc (.rcd l tl))] ρ = .ok (.pv (.str (fmt (.rcd l tl))), ρ) := fun ρ => call1 (run_rec (A := A) (F := FN A j) (fun e he => ih j (by omega) e.2 (by
          simp only [Wf] at w
          exact ((wff_iff l).mp w.1 e he).2) (by simp only [dp] at d; have := dpf_le he; omega) (by
          have m : (e.1 ++ " : " ++ fmt e.2) ∈ fmtf l := by rw [fmtf_eq]; exact List.mem_map_of_mem he
          have m := join_mem (a := ", ") m
          simp only [fmt, len_app] at m hl
          omega)) w hl)
      rw [encR] at c ⊢
      simp [m_format_type, mSeq, mIf, mtB, mtOr, mtNot, mtV, mOp2, toP, mV, mC, mPeek, mVar, Pk.get, Sl.cnt, Own.pv, mSetC, gR, gN, thenS, mNext, trv_bl, mStrM, isStr, okIf, toA1, toA0, getC, fSw, mDropC, mRet, mRetC, mTup, endF, outs, getAll, Res.of, two_le, three_le, cALL, cCON, cREC, cVAR,  mAsg, mCall, ix0, ix1, e_rv, e_rr, c]
    | all s u =>
      simp only [Wf] at w
      simp only [dp] at d
      simp only [fmt, len_app] at hl
      have l1 : ("all " : Str).length = 4 := by decide
      have l2 : (" . " : Str).length = 3 := by decide
      have c := cf u w.2.2 (by omega) (by omega)
      have f1 := f_fmt (s := s) (by omega)
      have f2 := f_fmt (s := fmt u) (by omega)
      have z0 : (Str.empty ++ "all " : Str).length ≤ sizeLine := z6 (by rw [empty_app]; omega)
      have z1 : (Str.empty ++ "all " ++ s).length ≤ sizeLine := z6 (by rw [empty_app]; simp only [len_app]; omega)
      have z2 : (Str.empty ++ "all " ++ s ++ " . ").length ≤ sizeLine := z6 (by rw [empty_app]; simp only [len_app]; omega)
      have z3 : (Str.empty ++ "all " ++ s ++ " . " ++ fmt u).length ≤ sizeLine := z6 (by rw [empty_app]; simp only [len_app]; omega)
      simp only [enc, fmt]
      simp [m_format_type, mSeq, mIf, mtB, mtOr, mtNot, mtV, mOp2, toP, mV, mC, mPeek, mVar, Pk.get, Sl.cnt, Own.pv, mSetC, gR, gN, thenS, mNext, trv_bl, mStrM, isStr, okIf, toA1, toA0, getC, fSw, mDropC, mRet, mRetC, mTup, endF, outs, getAll, Res.of, two_le, three_le, cALL, cCON, cREC, cVAR,  mAsg, mCall, ix0, ix1, ix2, e_av, e_ar, e_aa, mJoined, goJ, mOp1, f1, f2, c, z0, z1, z2, z3]
      rw [empty_app]
    | con s l =>
      have w0 := w
      simp only [Wf] at w
      by_cases hf : s = "Fun"
      · subst hf
        obtain ⟨a, b, rfl⟩ : ∃ a b, l = [a, b] := by
          have := w.1 rfl
          match l, this with
          | [a, b], _ => exact ⟨a, b, rfl⟩
        have wa : Wf a := (wfs_iff _).mp w.2.2.2 a (by simp)
        have wb : Wf b := (wfs_iff _).mp w.2.2.2 b (by simp)
        simp only [dp, dps] at d
        rw [fmt_fun] at hl ⊢
        simp only [len_app] at hl
        have pl := par_len (isAll a || isFun a) (fmt a)
        have l1 : (" -> " : Str).length = 4 := by decide
        have l2 : ("(" : Str).length = 1 := by decide
        have l3 : (")" : Str).length = 1 := by decide
        have ca := cf a wa (by omega) (by omega)
        have cb := cf b wb (by omega) (by omega)
        simp only [enc, encs]
        have bv := bound_v (t := a) wa (ρ := [.pv (.tup [.str "con", .str "Fun", .tup [enc a, enc b]]), .pv (.str "con"), .pv (enc a), .pv (enc b), .no, .no, .no]) rfl
        have a1 : fAdd (.str (par (isAll a || isFun a) (fmt a))) (.str " -> ") = some (.str (par (isAll a || isFun a) (fmt a) ++ " -> ")) := f_add' (by omega)
        have a2 : fAdd (.str (par (isAll a || isFun a) (fmt a) ++ " -> ")) (.str (fmt b)) = some (.str (par (isAll a || isFun a) (fmt a) ++ " -> " ++ fmt b)) := f_add' (by simp only [len_app]; omega)
        have ef : fEq (.str "Fun") (.str "Fun") = some (.bl true) := eqk kfun kfun (by decide)
        generalize hb : (isAll a || isFun a) = v at *
        have hF : ∀ x y : Sl, ∀ r : PV, endF [.pv (.tup [.str "con", .str "Fun", .tup [enc a, enc b]])] (.ok (.rt (.pv r), [.pv (.tup [.str "con", .str "Fun", .tup [enc a, enc b]]), .pv (.str "con"), .pv (enc a), .pv (enc b), x, y, .no])) = .ok (.pv r, []) := fun x y r => by simp [endF, outs]
        refine Eq.trans (congrArg _ ?_) (hF (.pv (.bl v)) (.pv (.str (par v (fmt a)))) _)
        unfold m_format_type
        refine (seq_nx (ρ1 := [.pv (.tup [.str "con", .str "Fun", .tup [enc a, enc b]]), .pv (.str "con"), .no, .no, .no, .no, .no]) (by simp [mSeq, mIf, mtB, mtOr, mtNot, mtV, mOp2, toP, mV, mC, mPeek, mVar, Pk.get, Sl.cnt, Own.pv, mSetC, gR, gN, thenS, mNext, trv_bl, mStrM, isStr, okIf, toA1, toA0, getC, fSw, mDropC, mRet, mRetC, mTup, endF, outs, getAll, Res.of, two_le, three_le, cALL, cCON, cREC, cVAR,  mAsg, ix0])).trans ?_
        refine (seq_nx (if_n (by simp [mSeq, mIf, mtB, mtOr, mtNot, mtV, mOp2, toP, mV, mC, mPeek, mVar, Pk.get, Sl.cnt, Own.pv, mSetC, gR, gN, thenS, mNext, trv_bl, mStrM, isStr, okIf, toA1, toA0, getC, fSw, mDropC, mRet, mRetC, mTup, endF, outs, getAll, Res.of, two_le, three_le, cALL, cCON, cREC, cVAR,  e_cv]))).trans ?_
        refine (seq_nx (if_n (by simp [mSeq, mIf, mtB, mtOr, mtNot, mtV, mOp2, toP, mV, mC, mPeek, mVar, Pk.get, Sl.cnt, Own.pv, mSetC, gR, gN, thenS, mNext, trv_bl, mStrM, isStr, okIf, toA1, toA0, getC, fSw, mDropC, mRet, mRetC, mTup, endF, outs, getAll, Res.of, two_le, three_le, cALL, cCON, cREC, cVAR,  e_cr]))).trans ?_
        refine (seq_nx (if_n (by simp [mSeq, mIf, mtB, mtOr, mtNot, mtV, mOp2, toP, mV, mC, mPeek, mVar, Pk.get, Sl.cnt, Own.pv, mSetC, gR, gN, thenS, mNext, trv_bl, mStrM, isStr, okIf, toA1, toA0, getC, fSw, mDropC, mRet, mRetC, mTup, endF, outs, getAll, Res.of, two_le, three_le, cALL, cCON, cREC, cVAR,  e_ca]))).trans ?_
        refine seq_rt ?_
        refine (if_t (ρ1 := [.pv (.tup [.str "con", .str "Fun", .tup [enc a, enc b]]), .pv (.str "con"), .no, .no, .no, .no, .no]) (by simp [mSeq, mIf, mtB, mtOr, mtNot, mtV, mOp2, toP, mV, mC, mPeek, mVar, Pk.get, Sl.cnt, Own.pv, mSetC, gR, gN, thenS, mNext, trv_bl, mStrM, isStr, okIf, toA1, toA0, getC, fSw, mDropC, mRet, mRetC, mTup, endF, outs, getAll, Res.of, two_le, three_le, cALL, cCON, cREC, cVAR,  ix1, ef])).trans ?_
        refine (seq_nx (ρ1 := [.pv (.tup [.str "con", .str "Fun", .tup [enc a, enc b]]), .pv (.str "con"), .pv (enc a), .pv (enc b), .no, .no, .no]) (by simp [mSeq, mIf, mtB, mtOr, mtNot, mtV, mOp2, toP, mV, mC, mPeek, mVar, Pk.get, Sl.cnt, Own.pv, mSetC, gR, gN, thenS, mNext, trv_bl, mStrM, isStr, okIf, toA1, toA0, getC, fSw, mDropC, mRet, mRetC, mTup, endF, outs, getAll, Res.of, two_le, three_le, cALL, cCON, cREC, cVAR,  mAsg, ix2, gTupM, gsCons, gsNil])).trans ?_
        refine (seq_nx (asg_n bv (ρ2 := [.pv (.tup [.str "con", .str "Fun", .tup [enc a, enc b]]), .pv (.str "con"), .pv (enc a), .pv (enc b), .pv (.bl v), .no, .no]) (by simp [gN]))).trans ?_
        refine (seq_nx (ρ1 := [.pv (.tup [.str "con", .str "Fun", .tup [enc a, enc b]]), .pv (.str "con"), .pv (enc a), .pv (enc b), .pv (.bl v), .pv (.str (par v (fmt a))), .no]) ?_).trans ?_
        · cases v with
          | true =>
            simp only [if_true] at pl
            have a3 : fAdd (.str "(") (.str (fmt a)) = some (.str ("(" ++ fmt a)) := f_add' (by omega)
            have a4 : fAdd (.str ("(" ++ fmt a)) (.str ")") = some (.str ("(" ++ fmt a ++ ")")) := f_add' (by simp only [len_app]; omega)
            simp [mSeq, mIf, mtB, mtOr, mtNot, mtV, mOp2, toP, mV, mC, mPeek, mVar, Pk.get, Sl.cnt, Own.pv, mSetC, gR, gN, thenS, mNext, trv_bl, mStrM, isStr, okIf, toA1, toA0, getC, fSw, mDropC, mRet, mRetC, mTup, endF, outs, getAll, Res.of, two_le, three_le, cALL, cCON, cREC, cVAR,  mAsg, mIfE, mCall, ca, a3, a4, par]
          | false => simp [mSeq, mIf, mtB, mtOr, mtNot, mtV, mOp2, toP, mV, mC, mPeek, mVar, Pk.get, Sl.cnt, Own.pv, mSetC, gR, gN, thenS, mNext, trv_bl, mStrM, isStr, okIf, toA1, toA0, getC, fSw, mDropC, mRet, mRetC, mTup, endF, outs, getAll, Res.of, two_le, three_le, cALL, cCON, cREC, cVAR,  mAsg, mIfE, mCall, ca, par]
        · simp [mSeq, mIf, mtB, mtOr, mtNot, mtV, mOp2, toP, mV, mC, mPeek, mVar, Pk.get, Sl.cnt, Own.pv, mSetC, gR, gN, thenS, mNext, trv_bl, mStrM, isStr, okIf, toA1, toA0, getC, fSw, mDropC, mRet, mRetC, mTup, endF, outs, getAll, Res.of, two_le, three_le, cALL, cCON, cREC, cVAR,  mCall, a1, a2, cb]
      · have ef : fEq (.str s) (.str "Fun") = some (.bl false) := eqk w.2.2.1.ok kfun (by simpa using hf)
        obtain ⟨j, rfl⟩ : ∃ i, j = i + 1 := ⟨j - 1, by simp only [dp] at d; omega⟩
        rw [fmt_con hf] at hl ⊢
        have hm : ∀ t ∈ l, (fmt t).length ≤ 100000 := fun t ht => by
          have m : par (isAll t || argd t) (fmt t) ∈ s :: fmta l := List.mem_cons_of_mem _ (by rw [fmta_eq]; exact List.mem_map_of_mem ht)
          have m := join_mem (a := " ") m
          rw [par_len] at m
          omega
        have hat : ∀ t ∈ l, ∀ ρ, goCall 1 (FN A (j + 1)).atom_text [.val (enc t)] ρ = .ok (.pv (.str (par (isAll t || argd t) (fmt t))), ρ) := fun t ht ρ => call1 (run_atom (A := A) (F := FN A j) (ih j (by omega) t ((wfs_iff _).mp w.2.2.2 t ht) (by simp only [dp] at d; have := dps_le ht; omega) (hm t ht)) ((wfs_iff _).mp w.2.2.2 t ht) (hm t ht))
        have hc := join_count " " (s :: fmta l) (by decide)
        have e0 : (" " : Str).length ≤ 10 := by decide
        have jn := join_ok (a := " ") (l := s :: fmta l) e0 hl
        have hle : (fmta l).length = l.length := by rw [fmta_eq, List.length_map]
        simp only [List.length_cons] at hc
        simp only [enc]
        rw [encs_eq]
        have cm := comp_map (g := gN 6) (e := mV (mCall 1 (FN A (j + 1)).atom_text (toA1 (toP (mVar 6)) toA0))) (vs := [6]) (ρ := [.pv (.tup [.str "con", .str s, .tup (l.map enc)]), .pv (.str "con"), .no, .no, .no, .no, .no]) enc (fun t => .str (par (isAll t || argd t) (fmt t)))
          (fun t => [.pv (.tup [.str "con", .str s, .tup (l.map enc)]), .pv (.str "con"), .no, .no, .no, .no, .pv (enc t)]) l [] (fun t ht => ⟨by simp [gN], by simp [mSeq, mIf, mtB, mtOr, mtNot, mtV, mOp2, toP, mV, mC, mPeek, mVar, Pk.get, Sl.cnt, Own.pv, mSetC, gR, gN, thenS, mNext, trv_bl, mStrM, isStr, okIf, toA1, toA0, getC, fSw, mDropC, mRet, mRetC, mTup, endF, outs, getAll, Res.of, two_le, three_le, cALL, cCON, cREC, cVAR,  mCall, hat t ht], by simp [wipeE]⟩) (z6 (by simp only [List.length_nil]; omega))
        have e1 : l.map (fun t => PV.str (par (isAll t || argd t) (fmt t))) = (fmta l).map .str := by rw [fmta_eq, List.map_map]; rfl
        rw [e1, List.nil_append] at cm
        have al : fAdd (.lst [.str s]) (.lst ((fmta l).map .str)) = some (.lst (.str s :: (fmta l).map .str)) := by
          have z : (1 : Nat) + l.length ≤ sizeLine := z6 (by omega)
          simp [fAdd, hle, z]
        have one : 1 ≤ sizeLine := z6 (by omega)
        simp only [List.map_cons] at jn
        simp [m_format_type, mSeq, mIf, mtB, mtOr, mtNot, mtV, mOp2, toP, mV, mC, mPeek, mVar, Pk.get, Sl.cnt, Own.pv, mSetC, gR, gN, thenS, mNext, trv_bl, mStrM, isStr, okIf, toA1, toA0, getC, fSw, mDropC, mRet, mRetC, mTup, endF, outs, getAll, Res.of, two_le, three_le, cALL, cCON, cREC, cVAR,  mAsg, ix0, ix1, ix2, e_cv, e_cr, e_ca, ef, mLc, itT, noOwn, wipeE, backE, cm, mLst, one, al, fJoin, jn]
end K03
namespace K03
open PySem PySem.Spec L2 PL
/-! M22: what may be compared -/
structure Sh (p : PV) (n : Nat) : Prop where
  fl : p.flat = true
  cl : p.toD.canLay0 = true
  dp : p.toD.depth ≤ n
theorem Sh.str {s : Str} (h : Ok s) (n : Nat) : Sh (.str s) n := ⟨by simp [PV.flat], by simpa [PV.toD, PyData.canLay0] using h, by simp [PV.toD, PyData.depth]⟩
theorem Sh.non (n : Nat) : Sh .non n := ⟨by simp [PV.flat], by simp [PV.toD, PyData.canLay0], by simp [PV.toD, PyData.depth]⟩
theorem Sh.int (i : Int) (n : Nat) : Sh (.int i) n := ⟨by simp [PV.flat], by simp [PV.toD, PyData.canLay0], by simp [PV.toD, PyData.depth]⟩
theorem Sh.mono {p : PV} {n m : Nat} (h : Sh p n) (le : n ≤ m) : Sh p m := ⟨h.fl, h.cl, Nat.le_trans h.dp le⟩
theorem sh_all {n : Nat} : ∀ {l : List PV}, (∀ p ∈ l, Sh p n) → PV.flats l = true ∧ PyData.canLayAll0 (PV.toDs l) = true ∧ PyData.depthAll (PV.toDs l) ≤ n
  | [], _ => by simp [PV.flats, PV.toDs, PyData.canLayAll0, PyData.depthAll]
  | p :: l, h => by
    have a := h p (List.mem_cons_self ..)
    have b := sh_all fun q hq => h q (List.mem_cons_of_mem _ hq)
    have a3 := a.dp
    have b3 := b.2.2
    simp only [PV.flats, PV.toDs, PyData.canLayAll0, PyData.depthAll, a.fl, a.cl, b.1, b.2.1, Bool.and_self, true_and]
    omega
theorem Sh.tup {l : List PV} {n : Nat} (h : ∀ p ∈ l, Sh p n) : Sh (.tup l) (n + 1) := by
  have a := sh_all h
  refine ⟨by simpa [PV.flat] using a.1, by simpa [PV.toD, PyData.canLay0] using a.2.1, ?_⟩
  have := a.2.2
  simp only [PV.toD, PyData.depth]
  omega
theorem Sh.shaped {p : PV} (h : Sh p 64) : SeqAt.shaped p.toD = true := by
  simp [SeqAt.shaped, h.cl, h.dp]
theorem fEq_of {p q : PV} (h : Sh p 64) (k : Sh q 64) : fEq p q = some (.bl (PyData.eqv p.toD q.toD)) := by
  simp [fEq, eqOk, h.fl, k.fl, h.shaped, k.shaped]
theorem fNe_of {p q : PV} (h : Sh p 64) (k : Sh q 64) : fNe p q = some (.bl (!PyData.eqv p.toD q.toD)) := by
  simp [fNe, eqOk, h.fl, k.fl, h.shaped, k.shaped]
mutual
theorem eqv_refl : ∀ d : PyData, d.canLay0 = true → PyData.eqv d d = true
  | .none, _ => by simp [PyData.eqv]
  | .bool _, _ => by simp [PyData.eqv]
  | .int _, _ => by simp [PyData.eqv]
  | .str _, _ => by simp [PyData.eqv]
  | .list xs, h => by simpa [PyData.eqv] using eqvAll_refl xs (by simpa [PyData.canLay0] using h)
  | .tuple xs, h => by simpa [PyData.eqv] using eqvAll_refl xs (by simpa [PyData.canLay0] using h)
  | .dict _, h => by simp [PyData.canLay0] at h
theorem eqvAll_refl : ∀ d : List PyData, PyData.canLayAll0 d = true → PyData.eqvAll d d = true
  | [], _ => by simp [PyData.eqvAll]
  | d :: r, h => by
    simp only [PyData.canLayAll0, Bool.and_eq_true] at h
    simp [PyData.eqvAll, eqv_refl d h.1, eqvAll_refl r h.2]
end
theorem ne_self {p : PV} (h : Sh p 64) : fNe p p = some (.bl false) := by
  rw [fNe_of h h, eqv_refl _ h.cl]; rfl
theorem T.ind {P : T → Prop} (hv : ∀ s, P (.var s)) (hc : ∀ s l, (∀ t ∈ l, P t) → P (.con s l)) (hr : ∀ l tl, (∀ e ∈ l, P e.2) → P (.rcd l tl)) (ha : ∀ s t, P t → P (.all s t)) : ∀ t, P t := by
  have cons {α : Type} {Q : α → Prop} {x : α} {l : List α} (h1 : Q x) (h2 : ∀ y ∈ l, Q y) : ∀ y ∈ x :: l, Q y := fun y hy => by
    rcases List.mem_cons.mp hy with rfl | hy
    · exact h1
    · exact h2 y hy
  intro t
  exact T.rec (motive_1 := P) (motive_2 := fun l => ∀ t ∈ l, P t) (motive_3 := fun l => ∀ e ∈ l, P e.2) (motive_4 := fun e => P e.2) hv hc hr ha
    (fun t h => nomatch h) (fun t l h1 h2 => cons (Q := P) h1 h2) (fun t h => nomatch h) (fun e l h1 h2 => cons (Q := fun e : Str × T => P e.2) h1 h2) (fun a b h => h) t
theorem sh_enc (t : T) : Wf t → Sh (enc t) (dp t) := by
  induction t using T.ind with
  | hv s =>
    intro w
    simp only [Wf] at w
    simp only [enc, dp]
    exact Sh.tup (n := 0) (by simp; exact ⟨Sh.str kvar _, Sh.str w.2.ok _⟩)
  | hc s l ih =>
    intro w
    simp only [Wf] at w
    simp only [enc, dp]
    rw [Nat.add_comm 2, encs_eq]
    refine Sh.tup (by
      intro p hp
      rcases List.mem_cons.mp hp with rfl | hp
      · exact Sh.str kcon _
      rcases List.mem_cons.mp hp with rfl | hp
      · exact Sh.str w.2.2.1.ok _
      rcases List.mem_cons.mp hp with rfl | hp
      · refine Sh.tup fun p hp => ?_
        obtain ⟨t, ht, rfl⟩ := List.mem_map.mp hp
        exact (ih t ht ((wfs_iff _).mp w.2.2.2 t ht)).mono (dps_le ht)
      cases hp)
  | hr l tl ih =>
    intro w
    simp only [Wf] at w
    rw [encR, encf_map]
    simp only [dp]
    rw [Nat.add_comm 3]
    refine Sh.tup (by
      intro p hp
      rcases List.mem_cons.mp hp with rfl | hp
      · exact Sh.str krec _
      rcases List.mem_cons.mp hp with rfl | hp
      · refine Sh.tup fun p hp => ?_
        obtain ⟨e, he, rfl⟩ := List.mem_map.mp hp
        have we := (wff_iff _).mp w.1 e he
        refine Sh.tup fun p hp => ?_
        rcases List.mem_cons.mp hp with rfl | hp
        · exact Sh.str we.1.2.ok _
        rcases List.mem_cons.mp hp with rfl | hp
        · exact (ih e he we.2).mono (dpf_le he)
        cases hp
      rcases List.mem_cons.mp hp with rfl | hp
      · cases tl with
        | none => exact Sh.non _
        | some s => exact Sh.str (w.2.2.2 s rfl).2.ok _
      cases hp)
  | ha s t ih =>
    intro w
    simp only [Wf] at w
    simp only [enc, dp]
    rw [Nat.add_comm 1]
    refine Sh.tup (by
      intro p hp
      rcases List.mem_cons.mp hp with rfl | hp
      · exact Sh.str kall _
      rcases List.mem_cons.mp hp with rfl | hp
      · exact Sh.str w.2.1.ok _
      rcases List.mem_cons.mp hp with rfl | hp
      · exact ih w.2.2
      cases hp)
end K03
namespace K03
open PySem PySem.Spec L2 PL
/-! M23: the law's own text of a type -/
theorem cut2 {a b : PV} {l : List PV} : cutP (a :: b :: l) none (some 2) = [a, b] := by
  have e : HT.sIx (l.length + 1 + 1) (l.length + 1 + 1) (some 2) = 2 := by
    have := HT.sIx_nat (l.length + 1 + 1) (l.length + 1 + 1) 2
    have e : min 2 (l.length + 1 + 1) = 2 := by omega
    rw [e] at this
    exact this
  have e0 : HT.sIx (l.length + 1 + 1) 0 none = 0 := rfl
  simp [cutP, e, e0]
theorem Sh.conFun : Sh (.tup [.str "con", .str "Fun"]) 64 := (Sh.tup (n := 0) (by simp; exact ⟨Sh.str kcon _, Sh.str kfun _⟩)).mono (by omega)
/-- the test of the law's text: does what stands ahead of the arrow need its signs -/
theorem bound_t {t b : T} (w : Wf t) (h64 : dp t ≤ 60) {r : Ev} : (mtOr (mtB (mOp2 fEq (toP (mOp2 fIx (toP (mOp2 fIx (toP (mOp2 fIx (mPeek 0) (toP (mC (.int 2))))) (toP (mC (.int 0))))) (toP (mC (.int 0))))) (toP (mC (.str "all"))))) (mtB (mOp2 fEq (toP (mSlice (toP (mOp2 fIx (toP (mOp2 fIx (mPeek 0) (toP (mC (.int 2))))) (toP (mC (.int 0))))) moN (moS (toP (mC (.int 2)))))) (toP (mTup (toA1 (toP (mC (.str "con"))) (toA1 (toP (mC (.str "Fun"))) toA0)))))))
    (.pv (.tup [.str "con", .str "Fun", .tup [enc t, enc b]]) :: r) = .ok (isAll t || isFun t, .pv (.tup [.str "con", .str "Fun", .tup [enc t, enc b]]) :: r) := by
  have sh := sh_enc t w
  cases t with
  | var s =>
    simp only [Wf] at w
    have f : fEq (.tup [.str "var", .str s]) (.tup [.str "con", .str "Fun"]) = some (.bl false) := by
      rw [fEq_of ((Sh.tup (n := 0) (by simp; exact ⟨Sh.str kvar _, Sh.str w.2.ok _⟩)).mono (by omega)) Sh.conFun]
      have : (("var" : Str) == ("con" : Str)) = false := by decide
      simp [PV.toD, PV.toDs, PyData.eqv, PyData.eqvAll, this]
    simp only [enc]
    simp [mSeq, mIf, mtB, mtOr, mtNot, mtV, mOp2, toP, mV, mC, mPeek, mVar, Pk.get, Sl.cnt, Own.pv, mSetC, gR, gN, thenS, mNext, trv_bl, mStrM, isStr, okIf, toA1, toA0, getC, fSw, mDropC, mRet, mRetC, mTup, endF, outs, getAll, Res.of, two_le, three_le, cALL, cCON, cREC, cVAR,  mSlice, moN, moS, ix0, ix1, ix2, e_va, fSl, cut2, f, isAll, isFun]
  | con s l =>
    simp only [Wf] at w
    have f : fEq (.tup [.str "con", .str s]) (.tup [.str "con", .str "Fun"]) = some (.bl (decide (s = "Fun"))) := by
      rw [fEq_of ((Sh.tup (n := 0) (by simp; exact ⟨Sh.str kcon _, Sh.str w.2.2.1.ok _⟩)).mono (by omega)) Sh.conFun]
      simp [PV.toD, PV.toDs, PyData.eqv, PyData.eqvAll, beq_dec]
    simp only [enc]
    simp [mSeq, mIf, mtB, mtOr, mtNot, mtV, mOp2, toP, mV, mC, mPeek, mVar, Pk.get, Sl.cnt, Own.pv, mSetC, gR, gN, thenS, mNext, trv_bl, mStrM, isStr, okIf, toA1, toA0, getC, fSw, mDropC, mRet, mRetC, mTup, endF, outs, getAll, Res.of, two_le, three_le, cALL, cCON, cREC, cVAR,  mSlice, moN, moS, ix0, ix1, ix2, e_ca, fSl, cut2, f, isAll, isFun]
  | rcd l tl =>
    rw [encR] at sh ⊢
    have f : fEq (.tup [.str "rec", .tup (encf l)]) (.tup [.str "con", .str "Fun"]) = some (.bl false) := by
      have sh2 : Sh (.tup [.str "rec", .tup (encf l)]) 64 := by
        have d := sh.dp
        have c := sh.cl
        have f := sh.fl
        simp only [PV.toD, PV.toDs, PyData.depth, PyData.depthAll] at d
        simp only [PV.toD, PV.toDs, PyData.canLay0, PyData.canLayAll0, Bool.and_eq_true] at c
        simp only [PV.flat, PV.flats, Bool.and_eq_true] at f
        refine ⟨by simp [PV.flat, PV.flats, f], by simp [PV.toD, PV.toDs, PyData.canLay0, PyData.canLayAll0, c], ?_⟩
        simp only [PV.toD, PV.toDs, PyData.depth, PyData.depthAll]
        omega
      rw [fEq_of sh2 Sh.conFun]
      have : (("rec" : Str) == ("con" : Str)) = false := by decide
      simp [PV.toD, PV.toDs, PyData.eqv, PyData.eqvAll, this]
    simp [mSeq, mIf, mtB, mtOr, mtNot, mtV, mOp2, toP, mV, mC, mPeek, mVar, Pk.get, Sl.cnt, Own.pv, mSetC, gR, gN, thenS, mNext, trv_bl, mStrM, isStr, okIf, toA1, toA0, getC, fSw, mDropC, mRet, mRetC, mTup, endF, outs, getAll, Res.of, two_le, three_le, cALL, cCON, cREC, cVAR,  mSlice, moN, moS, ix0, ix1, ix2, e_ra, fSl, cut2, f, isAll, isFun]
  | all s u =>
    simp only [enc]
    simp [mSeq, mIf, mtB, mtOr, mtNot, mtV, mOp2, toP, mV, mC, mPeek, mVar, Pk.get, Sl.cnt, Own.pv, mSetC, gR, gN, thenS, mNext, trv_bl, mStrM, isStr, okIf, toA1, toA0, getC, fSw, mDropC, mRet, mRetC, mTup, endF, outs, getAll, Res.of, two_le, three_le, cALL, cCON, cREC, cVAR,  mSlice, moN, moS, ix0, ix1, ix2, e_aa, isAll, isFun]
theorem join_step {a x y : Str} {l : List Str} : Txt.join a (x :: y :: l) = Txt.join a ((x ++ a ++ y) :: l) := by
  cases l with
  | nil => rw [join_two, join_nil1, join_nil1]
  | cons z l => rw [join_two, join_two, join_two]; exact sg_ext (by simp [sg_app])
section
variable {A : Ads} {F : Fns}
def bT (A : Ads) (F : Fns) : MS := (mSeq (mSetC 5 (mCall 1 F._law_text (toA1 (toP (mVar 4)) toA0)))
  (mAsg (mOp2 fAdd (toP (mOp2 fAdd (mPeek 3) (toP (mC (.str " "))))) (toP (mIfE (mtOr (mtB (mOp2 fEq (toP (mOp2 fIx (mPeek 4) (toP (mC (.int 0))))) (toP (mC (.str "all"))))) (mtAnd (mtB (mOp2 fEq (toP (mOp2 fIx (mPeek 4) (toP (mC (.int 0))))) (toP (mC (.str "con"))))) (mtB (mOp2 fGt (toP (mFun fLen (toA1 (toP (mOp2 fIx (mPeek 4) (toP (mC (.int 2))))) toA0))) (toP (mC (.int 0))))))) (mOp2 fAdd (toP (mOp2 fAdd (toP (mC (.str "("))) (mPeek 5))) (toP (mC (.str ")")))) (mVar 5)))) (gN 3)))
theorem turn_t {v : PV} {u : Str} {t : T} {y : Sl} (hy : pvno y) (w : Wf t) (h : F._law_text [.pv (enc t)] = .ok (.pv (.str (fmt t)), [])) (hl : (u ++ " " ++ par (isAll t || argd t) (fmt t)).length ≤ 100000) :
    bT A F [.pv v, .no, .no, .pv (.str u), .pv (enc t), y, .no] = .ok (.nx, [.pv v, .no, .no, .pv (.str (u ++ " " ++ par (isAll t || argd t) (fmt t))), .pv (enc t), .pv (.str (fmt t)), .no]) := by
  have c : ∀ ρ, goCall 1 F._law_text [.val (enc t)] ρ = .ok (.pv (.str (fmt t)), ρ) := fun ρ => call1 h
  have l1 : ("(" : Str).length = 1 := by decide
  have l2 : (")" : Str).length = 1 := by decide
  have l3 : (" " : Str).length = 1 := by decide
  rw [len_app, len_app, par_len] at hl
  have b1 : fAdd (.str u) (.str " ") = some (.str (u ++ " ")) := f_add' (by omega)
  have a1 : fAdd (.str "(") (.str (fmt t)) = some (.str ("(" ++ fmt t)) := f_add' (by omega)
  have a2 : fAdd (.str ("(" ++ fmt t)) (.str ")") = some (.str ("(" ++ fmt t ++ ")")) := f_add' (by rw [len_app]; omega)
  have b2 : (isAll t || argd t) = true → fAdd (.str (u ++ " ")) (.str ("(" ++ fmt t ++ ")")) = some (.str (u ++ " " ++ ("(" ++ fmt t ++ ")"))) := fun k => f_add' (by rw [k, if_pos rfl] at hl; simp only [len_app]; omega)
  have b3 : fAdd (.str (u ++ " ")) (.str (fmt t)) = some (.str (u ++ " " ++ fmt t)) := f_add' (by simp only [len_app]; omega)
  cases t with
  | var s =>
    simp only [enc] at c ⊢
    rcases hy with rfl | ⟨y, rfl⟩ <;> simp [bT, mSeq, mIf, mtB, mtOr, mtNot, mtV, mOp2, toP, mV, mC, mPeek, mVar, Pk.get, Sl.cnt, Own.pv, mSetC, gR, gN, thenS, mNext, trv_bl, mStrM, isStr, okIf, toA1, toA0, getC, fSw, mDropC, mRet, mRetC, mTup, endF, outs, getAll, Res.of, two_le, three_le, cALL, cCON, cREC, cVAR,  mAsg, mIfE, mtAnd, mFun, mCall, ix0, ix1, e_va, e_vc, c, isAll, argd, par, b1, b3]
  | con s l =>
    simp only [enc] at c ⊢
    cases l with
    | nil =>
      simp only [encs] at c ⊢
      rcases hy with rfl | ⟨y, rfl⟩ <;> simp [bT, mSeq, mIf, mtB, mtOr, mtNot, mtV, mOp2, toP, mV, mC, mPeek, mVar, Pk.get, Sl.cnt, Own.pv, mSetC, gR, gN, thenS, mNext, trv_bl, mStrM, isStr, okIf, toA1, toA0, getC, fSw, mDropC, mRet, mRetC, mTup, endF, outs, getAll, Res.of, two_le, three_le, cALL, cCON, cREC, cVAR,  mAsg, mIfE, mtAnd, mFun, fLen, fGt, fCmp, mCall, ix0, ix1, ix2, e_ca, e_cc, c, isAll, argd, par, b1, b3]
    | cons x l =>
      have b2 := b2 (by simp [argd])
      simp only [encs] at c ⊢
      have z : (0 : Int) < (encs l).length + 1 := by omega
      rcases hy with rfl | ⟨y, rfl⟩ <;> simp [bT, mSeq, mIf, mtB, mtOr, mtNot, mtV, mOp2, toP, mV, mC, mPeek, mVar, Pk.get, Sl.cnt, Own.pv, mSetC, gR, gN, thenS, mNext, trv_bl, mStrM, isStr, okIf, toA1, toA0, getC, fSw, mDropC, mRet, mRetC, mTup, endF, outs, getAll, Res.of, two_le, three_le, cALL, cCON, cREC, cVAR,  mAsg, mIfE, mtAnd, mFun, fLen, fGt, fCmp, z, mCall, ix0, ix1, ix2, e_ca, e_cc, c, isAll, argd, par, a1, a2, b1, b2]
  | rcd l tl =>
    rw [encR] at c ⊢
    rcases hy with rfl | ⟨y, rfl⟩ <;> simp [bT, mSeq, mIf, mtB, mtOr, mtNot, mtV, mOp2, toP, mV, mC, mPeek, mVar, Pk.get, Sl.cnt, Own.pv, mSetC, gR, gN, thenS, mNext, trv_bl, mStrM, isStr, okIf, toA1, toA0, getC, fSw, mDropC, mRet, mRetC, mTup, endF, outs, getAll, Res.of, two_le, three_le, cALL, cCON, cREC, cVAR,  mAsg, mIfE, mtAnd, mFun, mCall, ix0, ix1, e_ra, e_rc, c, isAll, argd, par, b1, b3]
  | all s x =>
    have b2 := b2 (by simp [isAll])
    simp only [enc] at c ⊢
    rcases hy with rfl | ⟨y, rfl⟩ <;> simp [bT, mSeq, mIf, mtB, mtOr, mtNot, mtV, mOp2, toP, mV, mC, mPeek, mVar, Pk.get, Sl.cnt, Own.pv, mSetC, gR, gN, thenS, mNext, trv_bl, mStrM, isStr, okIf, toA1, toA0, getC, fSw, mDropC, mRet, mRetC, mTup, endF, outs, getAll, Res.of, two_le, three_le, cALL, cCON, cREC, cVAR,  mAsg, mIfE, mtAnd, mFun, mCall, ix0, ix1, e_aa, c, isAll, argd, par, a1, a2, b1, b2]
theorem loop_t {v : PV} : ∀ (l : List T) (u : Str) (x y : Sl), pvno x → pvno y → (∀ t ∈ l, Wf t) → (∀ t ∈ l, F._law_text [.pv (enc t)] = .ok (.pv (.str (fmt t)), [])) → (Txt.join " " (u :: fmta l)).length ≤ 100000 →
    ∃ x' y', loopF (gN 4) (bT A F) (l.map enc) [.pv v, .no, .no, .pv (.str u), x, y, .no] = .ok (.nx, [.pv v, .no, .no, .pv (.str (Txt.join " " (u :: fmta l))), x', y', .no])
  | [], u, x, y, hx, hy, w, h, hl => ⟨x, y, by simp [loopF, fmta, join_nil1]⟩
  | t :: l, u, x, y, hx, hy, w, h, hl => by
    have e : Txt.join " " (u :: fmta (t :: l)) = Txt.join " " ((u ++ " " ++ par (isAll t || argd t) (fmt t)) :: fmta l) := by
      simp only [fmta]
      exact join_step
    rw [e] at hl ⊢
    have hm := join_mem (a := " ") (l := (u ++ " " ++ par (isAll t || argd t) (fmt t)) :: fmta l) (List.mem_cons_self ..)
    have tn := turn_t (A := A) (F := F) (v := v) (u := u) hy (w t (List.mem_cons_self ..)) (h t (List.mem_cons_self ..)) (by omega)
    obtain ⟨x', y', ih⟩ := loop_t (v := v) l (u ++ " " ++ par (isAll t || argd t) (fmt t)) (.pv (enc t)) (.pv (.str (fmt t))) (.inr ⟨_, rfl⟩) (.inr ⟨_, rfl⟩) (fun s hs => w s (List.mem_cons_of_mem _ hs)) (fun s hs => h s (List.mem_cons_of_mem _ hs)) hl
    refine ⟨x', y', ?_⟩
    rcases hx with rfl | ⟨x, rfl⟩ <;> simp [loopF, gN, tn, stepW, ih]
end
end K03
namespace K03
open PySem PySem.Spec L2 PL
/-! M24: the law's own text of a type, all of it -/
theorem run_ltext {A : Ads} : ∀ (j : Nat) (t : T), Wf t → dp t ≤ j → dp t ≤ 60 → (fmt t).length ≤ 100000 → (FN A j)._law_text [.pv (enc t)] = .ok (.pv (.str (fmt t)), []) := by
  intro j
  induction j with
  | zero => intro t w d; have := dp_pos t; omega
  | succ j ih =>
    intro t w d d60 hl
    have cf : ∀ t', Wf t' → dp t' ≤ j → dp t' ≤ 60 → (fmt t').length ≤ 100000 → ∀ ρ, goCall 1 (FN A j)._law_text [.val (enc t')] ρ = .ok (.pv (.str (fmt t')), ρ) := fun t' w' d' d2 l' ρ => call1 (ih t' w' d' d2 l')
    have hs : startE 7 [.pv (enc t)] = [.pv (enc t), .no, .no, .no, .no, .no, .no] := by simp [startE, toSl]
    show endF _ (m__law_text A (FN A j) (startE 7 [.pv (enc t)])) = _
    rw [hs]
    cases t with
    | var s =>
      simp only [enc, fmt]
      simp [m__law_text, mSeq, mIf, mtB, mtOr, mtNot, mtV, mOp2, toP, mV, mC, mPeek, mVar, Pk.get, Sl.cnt, Own.pv, mSetC, gR, gN, thenS, mNext, trv_bl, mStrM, isStr, okIf, toA1, toA0, getC, fSw, mDropC, mRet, mRetC, mTup, endF, outs, getAll, Res.of, two_le, three_le, cALL, cCON, cREC, cVAR,  ix0, ix1, e_vv]
    | all s u =>
      simp only [Wf] at w
      simp only [dp] at d d60
      simp only [fmt, len_app] at hl
      have l1 : ("all " : Str).length = 4 := by decide
      have l2 : (" . " : Str).length = 3 := by decide
      have c := cf u w.2.2 (by omega) (by omega) (by omega)
      have a1 : fAdd (.str "all ") (.str s) = some (.str ("all " ++ s)) := f_add' (by omega)
      have a2 : fAdd (.str ("all " ++ s)) (.str " . ") = some (.str ("all " ++ s ++ " . ")) := f_add' (by simp only [len_app]; omega)
      have a3 : fAdd (.str ("all " ++ s ++ " . ")) (.str (fmt u)) = some (.str ("all " ++ s ++ " . " ++ fmt u)) := f_add' (by simp only [len_app]; omega)
      simp only [enc, fmt]
      simp [m__law_text, mSeq, mIf, mtB, mtOr, mtNot, mtV, mOp2, toP, mV, mC, mPeek, mVar, Pk.get, Sl.cnt, Own.pv, mSetC, gR, gN, thenS, mNext, trv_bl, mStrM, isStr, okIf, toA1, toA0, getC, fSw, mDropC, mRet, mRetC, mTup, endF, outs, getAll, Res.of, two_le, three_le, cALL, cCON, cREC, cVAR,  mCall, ix0, ix1, ix2, e_av, e_aa, c, a1, a2, a3]
    | rcd l tl =>
      simp only [Wf] at w
      simp only [dp] at d d60
      rw [encR]
      simp only [fmt] at hl ⊢
      rw [len_app, len_app, len_app] at hl
      have l1 : ("{" : Str).length = 1 := by decide
      have l2 : ("}" : Str).length = 1 := by decide
      have l3 : (" | " : Str).length = 3 := by decide
      have l4 : (", " : Str).length = 2 := by decide
      have l5 : (" : " : Str).length = 3 := by decide
      have hj : (Txt.join ", " (fmtf l)).length ≤ 100000 := by omega
      have hc : (fmtf l).length ≤ (Txt.join ", " (fmtf l)).length + 1 := join_count _ _ (by omega)
      have ef : encf l = l.map fun e => PV.tup [.str e.1, enc e.2] := encf_map l
      rw [ef]
      have hn : l.length = (fmtf l).length := by rw [fmtf_eq, List.length_map]
      have cm := comp_map (g := gTupM 2 (gsCons (gN 6) (gsCons (gN 4) gsNil))) (e := (mOp2 fAdd (toP (mOp2 fAdd (mPeek 6) (toP (mC (.str " : "))))) (toP (mV (mCall 1 (FN A j)._law_text (toA1 (toP (mVar 4)) toA0)))))) (vs := [6, 4])
        (ρ := [.pv (.tup [.str "rec", .tup (l.map fun e => PV.tup [.str e.1, enc e.2]), tlP tl]), .no, .no, .no, .no, .no, .no])
        (fun e : Str × T => PV.tup [.str e.1, enc e.2]) (fun e => .str (e.1 ++ " : " ++ fmt e.2)) (fun e => [.pv (.tup [.str "rec", .tup (l.map fun e => PV.tup [.str e.1, enc e.2]), tlP tl]), .no, .no, .no, .pv (enc e.2), .no, .pv (.str e.1)]) l [] (fun e he => by
          have m : (e.1 ++ " : " ++ fmt e.2) ∈ fmtf l := by rw [fmtf_eq]; exact List.mem_map_of_mem he
          have m := join_mem (a := ", ") m
          rw [len_app, len_app] at m
          have dl := dpf_le he
          have c := cf e.2 ((wff_iff l).mp w.1 e he).2 (by omega) (by omega) (by omega)
          have a1 : fAdd (.str e.1) (.str " : ") = some (.str (e.1 ++ " : ")) := f_add' (by omega)
          have a2 : fAdd (.str (e.1 ++ " : ")) (.str (fmt e.2)) = some (.str (e.1 ++ " : " ++ fmt e.2)) := f_add' (by simp only [len_app]; omega)
          refine ⟨by simp [gTupM, gsCons, gsNil, gN], ?_, by simp [wipeE]⟩
          simp [mSeq, mIf, mtB, mtOr, mtNot, mtV, mOp2, toP, mV, mC, mPeek, mVar, Pk.get, Sl.cnt, Own.pv, mSetC, gR, gN, thenS, mNext, trv_bl, mStrM, isStr, okIf, toA1, toA0, getC, fSw, mDropC, mRet, mRetC, mTup, endF, outs, getAll, Res.of, two_le, three_le, cALL, cCON, cREC, cVAR,  mCall, c, a1, a2]) (by simp only [List.length_nil]; exact z6 (by omega))
      have e0 : (", " : Str).length ≤ 10 := by omega
      have jn := join_ok (a := ", ") (l := fmtf l) e0 hj
      rw [fmtf_eq, List.map_map] at jn
      have e1 : ((fun x => PV.str x) ∘ fun (e : Str × T) => e.1 ++ " : " ++ fmt e.2) = fun e => PV.str (e.1 ++ " : " ++ fmt e.2) := rfl
      rw [e1, ← fmtf_eq] at jn
      cases tl with
      | none =>
        have a1 : fAdd (.str "{") (.str (Txt.join ", " (fmtf l))) = some (.str ("{" ++ Txt.join ", " (fmtf l))) := f_add' (by omega)
        have a2 : fAdd (.str ("{" ++ Txt.join ", " (fmtf l))) (.str "}") = some (.str ("{" ++ Txt.join ", " (fmtf l) ++ "}")) := f_add' (by rw [len_app]; omega)
        simp only [tlP] at cm ⊢
        simp [m__law_text, mSeq, mIf, mtB, mtOr, mtNot, mtV, mOp2, toP, mV, mC, mPeek, mVar, Pk.get, Sl.cnt, Own.pv, mSetC, gR, gN, thenS, mNext, trv_bl, mStrM, isStr, okIf, toA1, toA0, getC, fSw, mDropC, mRet, mRetC, mTup, endF, outs, getAll, Res.of, two_le, three_le, cALL, cCON, cREC, cVAR,  mAsg, ix0, ix1, ix2, e_rv, e_ra, e_rr, mLc, itT, noOwn, wipeE, backE, cm, fJoin, jn, fIs, a1, a2, app_nil]
      | some s =>
        simp only [len_app] at hl
        simp only [tlP] at cm ⊢
        have a1 : fAdd (.str "{") (.str (Txt.join ", " (fmtf l))) = some (.str ("{" ++ Txt.join ", " (fmtf l))) := f_add' (by omega)
        have a2 : fAdd (.str ("{" ++ Txt.join ", " (fmtf l))) (.str " | ") = some (.str ("{" ++ Txt.join ", " (fmtf l) ++ " | ")) := f_add' (by rw [len_app]; omega)
        have a3 : fAdd (.str ("{" ++ Txt.join ", " (fmtf l) ++ " | ")) (.str s) = some (.str ("{" ++ Txt.join ", " (fmtf l) ++ " | " ++ s)) := f_add' (by simp only [len_app]; omega)
        have a4 : fAdd (.str ("{" ++ Txt.join ", " (fmtf l) ++ " | " ++ s)) (.str "}") = some (.str ("{" ++ Txt.join ", " (fmtf l) ++ " | " ++ s ++ "}")) := f_add' (by simp only [len_app]; omega)
        have ee : ("{" ++ Txt.join ", " (fmtf l) ++ " | " ++ s ++ "}" : Str) = "{" ++ Txt.join ", " (fmtf l) ++ (" | " ++ s) ++ "}" := sg_ext (by simp [sg_app])
        rw [← ee]
        simp [m__law_text, mSeq, mIf, mtB, mtOr, mtNot, mtV, mOp2, toP, mV, mC, mPeek, mVar, Pk.get, Sl.cnt, Own.pv, mSetC, gR, gN, thenS, mNext, trv_bl, mStrM, isStr, okIf, toA1, toA0, getC, fSw, mDropC, mRet, mRetC, mTup, endF, outs, getAll, Res.of, two_le, three_le, cALL, cCON, cREC, cVAR,  mAsg, ix0, ix1, ix2, e_rv, e_ra, e_rr, mLc, itT, noOwn, wipeE, backE, cm, fJoin, jn, fIs, a1, a2, a3, a4]
    | con s l =>
      have w0 := w
      simp only [Wf] at w
      by_cases hf : s = "Fun"
      · subst hf
        obtain ⟨a, b, rfl⟩ : ∃ a b, l = [a, b] := by
          have := w.1 rfl
          match l, this with
          | [a, b], _ => exact ⟨a, b, rfl⟩
        have wa : Wf a := (wfs_iff _).mp w.2.2.2 a (by simp)
        have wb : Wf b := (wfs_iff _).mp w.2.2.2 b (by simp)
        simp only [dp, dps] at d d60
        rw [fmt_fun] at hl ⊢
        simp only [len_app] at hl
        have pl := par_len (isAll a || isFun a) (fmt a)
        have l1 : (" -> " : Str).length = 4 := by decide
        have l2 : ("(" : Str).length = 1 := by decide
        have l3 : (")" : Str).length = 1 := by decide
        have ca := cf a wa (by omega) (by omega) (by omega)
        have cb := cf b wb (by omega) (by omega) (by omega)
        simp only [enc, encs]
        have bv := bound_t (t := a) (b := b) wa (by omega) (r := [.no, .pv (.str (fmt a)), .no, .no, .no, .no])
        have a1 : fAdd (.str (par (isAll a || isFun a) (fmt a))) (.str " -> ") = some (.str (par (isAll a || isFun a) (fmt a) ++ " -> ")) := f_add' (by omega)
        have a2 : fAdd (.str (par (isAll a || isFun a) (fmt a) ++ " -> ")) (.str (fmt b)) = some (.str (par (isAll a || isFun a) (fmt a) ++ " -> " ++ fmt b)) := f_add' (by simp only [len_app]; omega)
        have ef : fEq (.str "Fun") (.str "Fun") = some (.bl true) := eqk kfun kfun (by decide)
        generalize hb : (isAll a || isFun a) = v at *
        have hF : ∀ r : PV, endF [.pv (.tup [.str "con", .str "Fun", .tup [enc a, enc b]])] (.ok (.rt (.pv r), [.pv (.tup [.str "con", .str "Fun", .tup [enc a, enc b]]), .no, .pv (.str (par v (fmt a))), .no, .no, .no, .no])) = .ok (.pv r, []) := fun r => by simp [endF, outs]
        refine Eq.trans (congrArg _ ?_) (hF _)
        unfold m__law_text
        refine (seq_nx (if_n (by simp [mSeq, mIf, mtB, mtOr, mtNot, mtV, mOp2, toP, mV, mC, mPeek, mVar, Pk.get, Sl.cnt, Own.pv, mSetC, gR, gN, thenS, mNext, trv_bl, mStrM, isStr, okIf, toA1, toA0, getC, fSw, mDropC, mRet, mRetC, mTup, endF, outs, getAll, Res.of, two_le, three_le, cALL, cCON, cREC, cVAR,  ix0, e_cv]))).trans ?_
        refine (seq_nx (if_n (by simp [mSeq, mIf, mtB, mtOr, mtNot, mtV, mOp2, toP, mV, mC, mPeek, mVar, Pk.get, Sl.cnt, Own.pv, mSetC, gR, gN, thenS, mNext, trv_bl, mStrM, isStr, okIf, toA1, toA0, getC, fSw, mDropC, mRet, mRetC, mTup, endF, outs, getAll, Res.of, two_le, three_le, cALL, cCON, cREC, cVAR,  ix0, e_ca]))).trans ?_
        refine (seq_nx (if_n (by simp [mSeq, mIf, mtB, mtOr, mtNot, mtV, mOp2, toP, mV, mC, mPeek, mVar, Pk.get, Sl.cnt, Own.pv, mSetC, gR, gN, thenS, mNext, trv_bl, mStrM, isStr, okIf, toA1, toA0, getC, fSw, mDropC, mRet, mRetC, mTup, endF, outs, getAll, Res.of, two_le, three_le, cALL, cCON, cREC, cVAR,  ix0, e_cr]))).trans ?_
        refine seq_rt ?_
        refine (if_t (ρ1 := [.pv (.tup [.str "con", .str "Fun", .tup [enc a, enc b]]), .no, .no, .no, .no, .no, .no]) (by simp [mSeq, mIf, mtB, mtOr, mtNot, mtV, mOp2, toP, mV, mC, mPeek, mVar, Pk.get, Sl.cnt, Own.pv, mSetC, gR, gN, thenS, mNext, trv_bl, mStrM, isStr, okIf, toA1, toA0, getC, fSw, mDropC, mRet, mRetC, mTup, endF, outs, getAll, Res.of, two_le, three_le, cALL, cCON, cREC, cVAR,  ix1, ef])).trans ?_
        refine (seq_nx (ρ1 := [.pv (.tup [.str "con", .str "Fun", .tup [enc a, enc b]]), .no, .pv (.str (fmt a)), .no, .no, .no, .no]) (by simp [mSeq, mIf, mtB, mtOr, mtNot, mtV, mOp2, toP, mV, mC, mPeek, mVar, Pk.get, Sl.cnt, Own.pv, mSetC, gR, gN, thenS, mNext, trv_bl, mStrM, isStr, okIf, toA1, toA0, getC, fSw, mDropC, mRet, mRetC, mTup, endF, outs, getAll, Res.of, two_le, three_le, cALL, cCON, cREC, cVAR,  mCall, ix0, ix2, ca])).trans ?_
        refine (seq_nx (ρ1 := [.pv (.tup [.str "con", .str "Fun", .tup [enc a, enc b]]), .no, .pv (.str (par v (fmt a))), .no, .no, .no, .no]) ?_).trans ?_
        · cases v with
          | true =>
            simp only [if_true] at pl
            have a3 : fAdd (.str "(") (.str (fmt a)) = some (.str ("(" ++ fmt a)) := f_add' (by omega)
            have a4 : fAdd (.str ("(" ++ fmt a)) (.str ")") = some (.str ("(" ++ fmt a ++ ")")) := f_add' (by simp only [len_app]; omega)
            refine (if_t bv).trans ?_
            simp [mSeq, mIf, mtB, mtOr, mtNot, mtV, mOp2, toP, mV, mC, mPeek, mVar, Pk.get, Sl.cnt, Own.pv, mSetC, gR, gN, thenS, mNext, trv_bl, mStrM, isStr, okIf, toA1, toA0, getC, fSw, mDropC, mRet, mRetC, mTup, endF, outs, getAll, Res.of, two_le, three_le, cALL, cCON, cREC, cVAR,  mAsg, a3, a4, par]
          | false => exact if_n bv
        · simp [mSeq, mIf, mtB, mtOr, mtNot, mtV, mOp2, toP, mV, mC, mPeek, mVar, Pk.get, Sl.cnt, Own.pv, mSetC, gR, gN, thenS, mNext, trv_bl, mStrM, isStr, okIf, toA1, toA0, getC, fSw, mDropC, mRet, mRetC, mTup, endF, outs, getAll, Res.of, two_le, three_le, cALL, cCON, cREC, cVAR,  mCall, ix1, ix2, a1, a2, cb]
      · have ef : fEq (.str s) (.str "Fun") = some (.bl false) := eqk w.2.2.1.ok kfun (by simpa using hf)
        simp only [dp] at d d60
        rw [fmt_con hf] at hl ⊢
        have hm : ∀ t ∈ l, (fmt t).length ≤ 100000 := fun t ht => by
          have m : par (isAll t || argd t) (fmt t) ∈ s :: fmta l := List.mem_cons_of_mem _ (by rw [fmta_eq]; exact List.mem_map_of_mem ht)
          have m := join_mem (a := " ") m
          rw [par_len] at m
          omega
        simp only [enc]
        rw [encs_eq]
        obtain ⟨x', y', lp⟩ := loop_t (A := A) (F := FN A j) (v := .tup [.str "con", .str s, .tup (l.map enc)]) l s .no .no (.inl rfl) (.inl rfl) (fun t ht => (wfs_iff _).mp w.2.2.2 t ht)
          (fun t ht => ih t ((wfs_iff _).mp w.2.2.2 t ht) (by have := dps_le ht; omega) (by have := dps_le ht; omega) (hm t ht)) hl
        have hF : ∀ (r : PV) (ρ : Ev), endF [.pv (.tup [.str "con", .str s, .tup (l.map enc)])] (.ok (.rt (.pv r), .pv (.tup [.str "con", .str s, .tup (l.map enc)]) :: ρ)) = .ok (.pv r, []) := fun r ρ => by simp [endF, outs]
        refine Eq.trans (congrArg _ ?_) (hF _ [.no, .no, .pv (.str (Txt.join " " (s :: fmta l))), x', y', .no])
        unfold m__law_text
        refine (seq_nx (if_n (by simp [mSeq, mIf, mtB, mtOr, mtNot, mtV, mOp2, toP, mV, mC, mPeek, mVar, Pk.get, Sl.cnt, Own.pv, mSetC, gR, gN, thenS, mNext, trv_bl, mStrM, isStr, okIf, toA1, toA0, getC, fSw, mDropC, mRet, mRetC, mTup, endF, outs, getAll, Res.of, two_le, three_le, cALL, cCON, cREC, cVAR,  ix0, e_cv]))).trans ?_
        refine (seq_nx (if_n (by simp [mSeq, mIf, mtB, mtOr, mtNot, mtV, mOp2, toP, mV, mC, mPeek, mVar, Pk.get, Sl.cnt, Own.pv, mSetC, gR, gN, thenS, mNext, trv_bl, mStrM, isStr, okIf, toA1, toA0, getC, fSw, mDropC, mRet, mRetC, mTup, endF, outs, getAll, Res.of, two_le, three_le, cALL, cCON, cREC, cVAR,  ix0, e_ca]))).trans ?_
        refine (seq_nx (if_n (by simp [mSeq, mIf, mtB, mtOr, mtNot, mtV, mOp2, toP, mV, mC, mPeek, mVar, Pk.get, Sl.cnt, Own.pv, mSetC, gR, gN, thenS, mNext, trv_bl, mStrM, isStr, okIf, toA1, toA0, getC, fSw, mDropC, mRet, mRetC, mTup, endF, outs, getAll, Res.of, two_le, three_le, cALL, cCON, cREC, cVAR,  ix0, e_cr]))).trans ?_
        refine (seq_nx (if_n (by simp [mSeq, mIf, mtB, mtOr, mtNot, mtV, mOp2, toP, mV, mC, mPeek, mVar, Pk.get, Sl.cnt, Own.pv, mSetC, gR, gN, thenS, mNext, trv_bl, mStrM, isStr, okIf, toA1, toA0, getC, fSw, mDropC, mRet, mRetC, mTup, endF, outs, getAll, Res.of, two_le, three_le, cALL, cCON, cREC, cVAR,  ix1, ef]))).trans ?_
        refine (seq_nx (ρ1 := [.pv (.tup [.str "con", .str s, .tup (l.map enc)]), .no, .no, .pv (.str s), .no, .no, .no]) (by simp [mSeq, mIf, mtB, mtOr, mtNot, mtV, mOp2, toP, mV, mC, mPeek, mVar, Pk.get, Sl.cnt, Own.pv, mSetC, gR, gN, thenS, mNext, trv_bl, mStrM, isStr, okIf, toA1, toA0, getC, fSw, mDropC, mRet, mRetC, mTup, endF, outs, getAll, Res.of, two_le, three_le, cALL, cCON, cREC, cVAR,  mAsg, ix1])).trans ?_
        refine (seq_nx (ρ1 := [.pv (.tup [.str "con", .str s, .tup (l.map enc)]), .no, .no, .pv (.str (Txt.join " " (s :: fmta l))), x', y', .no]) ?_).trans ?_
        · refine Eq.trans ?_ lp
          unfold bT
          generalize (mSeq (mSetC 5 _) _) = m
          simp [mForT, mSeq, mIf, mtB, mtOr, mtNot, mtV, mOp2, toP, mV, mC, mPeek, mVar, Pk.get, Sl.cnt, Own.pv, mSetC, gR, gN, thenS, mNext, trv_bl, mStrM, isStr, okIf, toA1, toA0, getC, fSw, mDropC, mRet, mRetC, mTup, endF, outs, getAll, Res.of, two_le, three_le, cALL, cCON, cREC, cVAR,  ix2]
        · simp [mSeq, mIf, mtB, mtOr, mtNot, mtV, mOp2, toP, mV, mC, mPeek, mVar, Pk.get, Sl.cnt, Own.pv, mSetC, gR, gN, thenS, mNext, trv_bl, mStrM, isStr, okIf, toA1, toA0, getC, fSw, mDropC, mRet, mRetC, mTup, endF, outs, getAll, Res.of, two_le, three_le, cALL, cCON, cREC, cVAR,  endF]
end K03
namespace K03
open PySem PySem.Spec L2 PL
/-! M25: the words of a printed text -/
inductive Tk : List Nat → List Str → Prop
  | nil : Tk [] []
  | sp {r : List Nat} {ws : List Str} : Tk r ws → Tk (32 :: r) ws
  | w {c : Nat} {r : List Nat} {n : Nat} {ws : List Str} : c ≠ 32 → nxt (c :: r) = some n → Tk ((c :: r).drop n) ws → Tk (c :: r) (mkS ((c :: r).take n) :: ws)
theorem tok_of {l : List Nat} {ws : List Str} (h : Tk l ws) : ∀ f p, l.length < f → tok f l p = .ok ws := by
  induction h with
  | nil =>
    intro f p hf
    obtain ⟨f, rfl⟩ : ∃ g, f = g + 1 := ⟨f - 1, by omega⟩
    rfl
  | sp t ih =>
    intro f p hf
    obtain ⟨f, rfl⟩ : ∃ g, f = g + 1 := ⟨f - 1, by omega⟩
    simp only [tok, if_true]
    exact ih f (p + 1) (by simp at hf; omega)
  | w hc hn t ih =>
    intro f p hf
    obtain ⟨f, rfl⟩ : ∃ g, f = g + 1 := ⟨f - 1, by omega⟩
    have nl := nxt_le hn
    simp only [tok, if_neg hc, hn]
    rw [ih f _ (by rw [List.length_drop]; omega)]
    rfl
theorem nx_if (c : Nat) (r : List Nat) : nxt (c :: r) = if inLH c then some (wlen (c :: r))
    else if c = 94 then some (1 + carets r + wlen (r.drop (carets r)))
    else if c = 45 ∧ r.head? = some 62 then some 2
    else if c ∈ sg c_SHORT then some 1 else none := rfl
theorem nxt32 (r : List Nat) : nxt (32 :: r) = none := by
  have a : inLH 32 = false := by decide +kernel
  have b : (32 : Nat) ∉ sg c_SHORT := by decide +kernel
  simp [nx_if, a, b]
theorem nxt_short {c : Nat} (r : List Nat) (h1 : inLH c = false) (h2 : c ≠ 94) (h3 : c ≠ 45) (h4 : c ∈ sg c_SHORT) : nxt (c :: r) = some 1 := by
  simp [nx_if, h1, h2, h3, h4]
theorem nxt_arrow (r : List Nat) : nxt (45 :: 62 :: r) = some 2 := by
  have a : inLH 45 = false := by decide +kernel
  simp [nx_if, a]
theorem Tk.word {s : Str} {r : List Nat} {ws : List Str} (h : Wo s) (b : Brk r) (t : Tk r ws) : Tk (sg s ++ r) (s :: ws) := by
  have n := h.nx r b
  have nl := nxt_le n
  have ls : (sg s).length = s.length := rfl
  cases hs : sg s with
  | nil => rw [hs] at ls; simp at ls; omega
  | cons c q =>
    rw [hs] at n ls
    have e : s = mkS ((c :: (q ++ r)).take s.length) := by
      rw [← ls]
      have : (c :: (q ++ r)).take (c :: q).length = c :: q := List.take_left' (l₁ := c :: q) rfl
      rw [this, ← hs]
      exact (mk_sg s).symm
    have d : (c :: (q ++ r)).drop s.length = r := by
      rw [← ls]
      exact List.drop_left' (l₁ := c :: q) rfl
    have k := Tk.w (c := c) (r := q ++ r) (n := s.length) (ws := ws) (by
      rintro rfl
      rw [List.cons_append, nxt32] at n
      cases n) n (by rw [d]; exact t)
    rw [← e] at k
    exact k
theorem Tk.sgn {c : Nat} {r : List Nat} {ws : List Str} (t : Tk r ws) (h1 : inLH c = false := by decide +kernel) (h2 : c ≠ 94 := by decide) (h3 : c ≠ 45 := by decide) (h4 : c ∈ sg c_SHORT := by decide +kernel) : Tk (c :: r) (mkS [c] :: ws) :=
  Tk.w (n := 1) (by rintro rfl; revert h4; decide +kernel) (nxt_short r h1 h2 h3 h4) t
theorem Tk.arrow {r : List Nat} {ws : List Str} (t : Tk r ws) : Tk (45 :: 62 :: r) ("->" :: ws) :=
  Tk.w (n := 2) (by decide) (nxt_arrow r) t
theorem brk_c {c : Nat} {r : List Nat} (h : c = 32 ∨ c = 41 ∨ c = 125 ∨ c = 44) : Brk (c :: r) := fun d hd => by
  cases hd; exact h
theorem brk_nil : Brk [] := fun d hd => nomatch hd
theorem wlen_brk {r : List Nat} (h : Brk r) : wlen r = 0 := by
  cases r with
  | nil => rfl
  | cons c r =>
    have : inWord c = false := by
      rcases h c rfl with rfl | rfl | rfl | rfl <;> decide +kernel
    simp [wlen, this]
theorem wlen_app : ∀ {l r : List Nat}, (∀ c ∈ l, inWord c = true) → Brk r → wlen (l ++ r) = l.length
  | [], r, _, b => wlen_brk b
  | c :: l, r, h, b => by
    have := wlen_app (l := l) (r := r) (fun d hd => h d (List.mem_cons_of_mem _ hd)) b
    simp [wlen, h c (List.mem_cons_self ..), this]
theorem wo_letters {s : Str} (ok : Ok s) (hl : s.length ≤ 1000) (h : ∀ c ∈ sg s, inWord c = true) (h1 : ∃ c q, sg s = c :: q ∧ inLH c = true) : Wo s := by
  refine ⟨ok, hl, fun r b => ?_⟩
  obtain ⟨c, q, e, k⟩ := h1
  have ls : (sg s).length = s.length := rfl
  rw [e, List.cons_append, nx_if, if_pos k, ← List.cons_append, ← e, wlen_app h b, ls]
theorem wo_all : Wo "all" := wo_letters kall (by decide +kernel) (by decide +kernel) ⟨97, [108, 108], by decide +kernel, by decide +kernel⟩
/-! words of a type -/
def parw (b : Bool) (l : List Str) : List Str := if b then ("(" : Str) :: (l ++ [(")" : Str)]) else l
mutual
def fw : T → List Str
  | .var s => [s]
  | .con s l => if s = "Fun" then (match l, fws l with
      | a :: _, x :: y :: _ => parw (isAll a || isFun a) x ++ ("->" : Str) :: y
      | _, _ => []) else s :: fwa l
  | .rcd l tl => "{" :: ((fwf l).drop 1 ++ (match tl with | some s => ["|", s, "}"] | none => ["}"]))
  | .all s t => "all" :: s :: "." :: fw t
def fws : List T → List (List Str)
  | [] => []
  | t :: r => fw t :: fws r
def fwa : List T → List Str
  | [] => []
  | t :: r => parw (isAll t || argd t) (fw t) ++ fwa r
def fwf : List (Str × T) → List Str
  | [] => []
  | (k, t) :: r => "," :: k :: ":" :: (fw t ++ fwf r)
end
theorem fw_con {s : Str} {l : List T} (h : s ≠ "Fun") : fw (.con s l) = s :: fwa l := by simp [fw, h]
theorem fw_fun {a b : T} : fw (.con "Fun" [a, b]) = parw (isAll a || isFun a) (fw a) ++ ("->" : Str) :: fw b := by simp [fw, fws]
def TkP (t : T) : Prop := ∀ r ws, Brk r → Tk r ws → Tk (sg (fmt t) ++ r) (fw t ++ ws)
theorem tk_par {t : T} (h : TkP t) (b : Bool) {r : List Nat} {ws : List Str} (k : Brk r) (t' : Tk r ws) : Tk (sg (par b (fmt t)) ++ r) (parw b (fw t) ++ ws) := by
  cases b with
  | false => exact h r ws k t'
  | true =>
    have e : sg (par true (fmt t)) ++ r = 40 :: (sg (fmt t) ++ 41 :: r) := by
      simp only [par, if_true, sg_app]
      have a : sg ("(" : Str) = [40] := by decide +kernel
      have b : sg (")" : Str) = [41] := by decide +kernel
      rw [a, b]; simp
    have e2 : parw true (fw t) ++ ws = mkS [40] :: (fw t ++ mkS [41] :: ws) := by
      have a : ("(" : Str) = mkS [40] := by decide +kernel
      have b : (")" : Str) = mkS [41] := by decide +kernel
      simp [parw, a, b]
    rw [e, e2]
    exact (h _ _ (brk_c (by omega)) t'.sgn).sgn
theorem sg_join (a : Str) : ∀ (x : Str) (l : List Str), sg (Txt.join a (x :: l)) = sg x ++ l.flatMap fun y => sg a ++ sg y
  | x, [] => by simp [join_nil1]
  | x, y :: l => by
    rw [join_two, sg_app, sg_app, sg_join a y l]
    simp
theorem tk_atoms {r : List Nat} {ws : List Str} (k : Brk r) (t' : Tk r ws) : ∀ l : List T, (∀ t ∈ l, TkP t) → Tk (((fmta l).flatMap fun y => sg " " ++ sg y) ++ r) (fwa l ++ ws) ∧ Brk (((fmta l).flatMap fun y => sg " " ++ sg y) ++ r)
  | [], _ => by simp only [fmta, fwa, List.flatMap_nil, List.nil_append]; exact ⟨t', k⟩
  | t :: l, h => by
    obtain ⟨h1, h2⟩ := tk_atoms k t' l fun u hu => h u (List.mem_cons_of_mem _ hu)
    have a : sg (" " : Str) = [32] := by decide +kernel
    simp only [fmta, fwa, List.flatMap_cons, a, List.append_assoc, List.singleton_append, List.cons_append] at h1 h2 ⊢
    exact ⟨.sp (tk_par (h t (List.mem_cons_self ..)) _ h2 h1), brk_c (.inl rfl)⟩
theorem tk_fields {r : List Nat} {ws : List Str} (k : Brk r) (t' : Tk r ws) : ∀ l : List (Str × T), (∀ e ∈ l, TkP e.2) → (∀ e ∈ l, Wo e.1) → Tk (((fmtf l).flatMap fun y => sg ", " ++ sg y) ++ r) (fwf l ++ ws) ∧ Brk (((fmtf l).flatMap fun y => sg ", " ++ sg y) ++ r)
  | [], _, _ => by simp only [fmtf, fwf, List.flatMap_nil, List.nil_append]; exact ⟨t', k⟩
  | (n, t) :: l, h, hw => by
    obtain ⟨h1, h2⟩ := tk_fields k t' l (fun u hu => h u (List.mem_cons_of_mem _ hu)) fun u hu => hw u (List.mem_cons_of_mem _ hu)
    have a : sg (", " : Str) = [44, 32] := by decide +kernel
    have b : sg (" : " : Str) = [32, 58, 32] := by decide +kernel
    have c : (":" : Str) = mkS [58] := by decide +kernel
    have d : ("," : Str) = mkS [44] := by decide +kernel
    simp only [fmtf, fwf, List.flatMap_cons, a, b, c, d, sg_app, List.append_assoc, List.cons_append, List.nil_append] at h1 h2 ⊢
    exact ⟨.sgn (.sp (.word (hw _ (List.mem_cons_self ..)) (brk_c (.inl rfl)) (.sp (.sgn (.sp (h _ (List.mem_cons_self ..) _ _ h2 h1)))))), brk_c (by omega)⟩
theorem wo_fun : Wo "Fun" := wo_letters kfun (by decide +kernel) (by decide +kernel) ⟨70, [117, 110], by decide +kernel, by decide +kernel⟩
theorem tk_fmt (t : T) : Wf t → TkP t := by
  induction t using T.ind with
  | hv s =>
    intro w r ws b k
    simp only [Wf] at w
    simp only [fmt, fw]
    exact .word w.2 b k
  | ha s t ih =>
    intro w r ws b k
    simp only [Wf] at w
    have a1 : sg ("all " : Str) = sg ("all" : Str) ++ [32] := by decide +kernel
    have a2 : sg (" . " : Str) = [32, 46, 32] := by decide +kernel
    have a3 : ("." : Str) = mkS [46] := by decide +kernel
    simp only [fmt, fw, sg_app, a1, a2, a3, List.append_assoc, List.cons_append, List.nil_append]
    exact .word wo_all (brk_c (.inl rfl)) (.sp (.word w.2.1 (brk_c (.inl rfl)) (.sp (.sgn (.sp (ih w.2.2 _ _ b k))))))
  | hc s l ih =>
    intro w r ws b k
    simp only [Wf] at w
    have hw := (wfs_iff _).mp w.2.2.2
    by_cases hf : s = "Fun"
    · subst hf
      obtain ⟨x, y, rfl⟩ : ∃ a b, l = [a, b] := by
        have := w.1 rfl
        match l, this with
        | [a, b], _ => exact ⟨a, b, rfl⟩
      rw [fmt_fun, fw_fun]
      have a1 : sg (" -> " : Str) = [32, 45, 62, 32] := by decide +kernel
      simp only [sg_app, a1, List.append_assoc, List.cons_append, List.nil_append]
      exact tk_par (ih x (by simp) (hw x (by simp))) _ (brk_c (.inl rfl)) (.sp (.arrow (.sp (ih y (by simp) (hw y (by simp)) _ _ b k))))
    · rw [fmt_con hf, fw_con hf, sg_join, List.append_assoc, List.cons_append]
      have a := tk_atoms b k l fun t ht => ih t ht (hw t ht)
      exact .word w.2.2.1 a.2 a.1
  | hr l tl ih =>
    intro w r ws b k
    simp only [Wf] at w
    have hw := (wff_iff _).mp w.1
    have a1 : sg ("{" : Str) = [123] := by decide +kernel
    have a2 : sg ("}" : Str) = [125] := by decide +kernel
    have a3 : sg (" | " : Str) = [32, 124, 32] := by decide +kernel
    have a4 : ("{" : Str) = mkS [123] := by decide +kernel
    have a5 : ("}" : Str) = mkS [125] := by decide +kernel
    have a6 : ("|" : Str) = mkS [124] := by decide +kernel
    have a7 : sg ("" : Str) = [] := by decide +kernel
    have tlk : ∃ rr ww, Brk rr ∧ Tk rr ww ∧ sg (fmt (.rcd l tl)) ++ r = 123 :: (sg (Txt.join ", " (fmtf l)) ++ rr) ∧ fw (.rcd l tl) ++ ws = mkS [123] :: ((fwf l).drop 1 ++ ww) := by
      cases tl with
      | none =>
        refine ⟨125 :: r, mkS [125] :: ws, brk_c (by omega), .sgn k, ?_, ?_⟩
        · simp only [fmt, sg_app, a1, a2, a7, List.append_assoc, List.cons_append, List.nil_append]
        · simp only [fw, a4, a5, List.append_assoc, List.cons_append, List.nil_append]
      | some s =>
        refine ⟨32 :: 124 :: 32 :: (sg s ++ 125 :: r), mkS [124] :: s :: mkS [125] :: ws, brk_c (by omega), .sp (.sgn (.sp (.word (w.2.2.2 s rfl).2 (brk_c (by omega)) (.sgn k)))), ?_, ?_⟩
        · simp only [fmt, sg_app, a1, a2, a3, List.append_assoc, List.cons_append, List.nil_append]
        · simp only [fw, a4, a5, a6, List.append_assoc, List.cons_append, List.nil_append]
    obtain ⟨rr, ww, b', k', e1, e2⟩ := tlk
    rw [e1, e2]
    refine .sgn ?_
    cases l with
    | nil =>
      have : sg (Txt.join ", " (fmtf [])) = [] := by simp only [fmtf]; decide +kernel
      rw [this]
      simpa [fwf] using k'
    | cons e l =>
      obtain ⟨n, t⟩ := e
      have c1 := tk_fields b' k' l (fun e he => ih e (List.mem_cons_of_mem _ he) (hw e (List.mem_cons_of_mem _ he)).2) fun e he => (hw e (List.mem_cons_of_mem _ he)).1.2
      have b1 : sg (" : " : Str) = [32, 58, 32] := by decide +kernel
      have c : (":" : Str) = mkS [58] := by decide +kernel
      simp only [fmtf, fwf, sg_join, b1, c, sg_app, List.append_assoc, List.cons_append, List.nil_append, List.drop_succ_cons, List.drop_zero]
      have h0 := hw (n, t) (List.mem_cons_self ..)
      exact .word h0.1.2 (brk_c (.inl rfl)) (.sp (.sgn (.sp (ih (n, t) (List.mem_cons_self ..) h0.2 _ _ c1.2 c1.1))))
end K03
namespace K03
open PySem PySem.Spec L2 PL
/-! M26: what is told of the words of any text -/
theorem take_wlen : ∀ l : List Nat, ∀ d ∈ l.take (wlen l), inWord d = true
  | [], d, h => by simp at h
  | c :: r, d, h => by
    unfold wlen at h
    by_cases k : inWord c = true
    · rw [if_pos k] at h
      rcases List.mem_cons.mp (by simpa using h : d ∈ c :: r.take (wlen r)) with rfl | h
      · exact k
      · exact take_wlen r d h
    · rw [if_neg k] at h
      simp at h
theorem carets_app : ∀ (l q : List Nat), carets (l.take (carets l) ++ q) = carets l + carets q
  | [], q => by simp [carets]
  | c :: r, q => by
    by_cases k : c = 94
    · have e : carets (c :: r) = carets r + 1 := if_pos k
      have e2 : carets ((c :: r).take (carets r + 1) ++ q) = carets (r.take (carets r) ++ q) + 1 := if_pos k
      rw [e, e2, carets_app r q]
      omega
    · have e : carets (c :: r) = 0 := if_neg k
      rw [e]
      simp
theorem carets_0 {q r : List Nat} (h : ∀ d ∈ q, inWord d = true) (b : Brk r) : carets (q ++ r) = 0 := by
  cases q with
  | nil =>
    cases r with
    | nil => rfl
    | cons c r =>
      have : c ≠ 94 := by rcases b c rfl with rfl | rfl | rfl | rfl <;> decide
      simp [carets, this]
  | cons c q =>
    have : c ≠ 94 := by
      rintro rfl
      have := h 94 (List.mem_cons_self ..)
      revert this; decide +kernel
    simp [carets, this]
theorem nxt_loc {c : Nat} {r : List Nat} {n : Nat} (h : nxt (c :: r) = some n) {r' : List Nat} (b : Brk r') : nxt ((c :: r).take n ++ r') = some n := by
  have nl := nxt_le h
  have hl : ((c :: r).take n).length = n := by rw [List.length_take]; omega
  have ht : (c :: r).take n = c :: r.take (n - 1) := by
    obtain ⟨m, rfl⟩ : ∃ m, n = m + 1 := ⟨n - 1, by omega⟩
    simp
  rw [nx_if] at h
  by_cases h1 : inLH c = true
  · rw [if_pos h1] at h
    have h := Option.some.inj h
    have w : ∀ d ∈ (c :: r).take n, inWord d = true := by rw [← h]; exact take_wlen _
    have e := wlen_app w b
    rw [ht, List.cons_append, nx_if, if_pos h1, ← List.cons_append, ← ht, e, hl]
  · rw [if_neg h1] at h
    by_cases h2 : c = 94
    · rw [if_pos h2] at h
      have h := Option.some.inj h
      rw [ht, List.cons_append, nx_if, if_neg h1, if_pos h2]
      have e : r.take (n - 1) = r.take (carets r) ++ (r.drop (carets r)).take (wlen (r.drop (carets r))) := by
        have : n - 1 = carets r + wlen (r.drop (carets r)) := by omega
        rw [this, List.take_add]
      have cl := carets_le r
      have l1 : (r.take (carets r)).length = carets r := by rw [List.length_take]; omega
      have wl := wlen_le (r.drop (carets r))
      have l2 : ((r.drop (carets r)).take (wlen (r.drop (carets r)))).length = wlen (r.drop (carets r)) := by rw [List.length_take]; omega
      have c0 : carets (r.take (n - 1) ++ r') = carets r := by
        rw [e, List.append_assoc, carets_app, carets_0 (take_wlen _) b]; rfl
      rw [c0, e, List.append_assoc, List.drop_left' l1, wlen_app (take_wlen _) b, l2, h]
    · rw [if_neg h2] at h
      by_cases h3 : c = 45 ∧ r.head? = some 62
      · rw [if_pos h3] at h
        have h := Option.some.inj h
        obtain ⟨h3, h4⟩ := h3
        cases r with
        | nil => cases h4
        | cons d r =>
          cases h4
          subst h
          subst h3
          exact nxt_arrow r'
      · rw [if_neg h3] at h
        by_cases h4 : c ∈ sg c_SHORT
        · rw [if_pos h4] at h
          have h := Option.some.inj h
          subst h
          have h1 : inLH c = false := by simpa using h1
          have h5 : c ≠ 45 := by rintro rfl; revert h4; decide +kernel
          exact nxt_short r' h1 h2 h5 h4
        · rw [if_neg h4] at h
          cases h
def wE (w : Str) : Nat := if w = "(" then 3 else if w = "{" then 5 else if w = "->" then 2 else if w = "." then 1 else 0
def eW (ws : List Str) : Nat := (ws.map wE).sum
def gW (ws : List Str) : Nat := (ws.map fun w => w.length + 2).sum
def cE (c : Nat) : Nat := if c = 40 then 3 else if c = 123 then 5 else if c = 62 then 2 else if c = 46 then 1 else 0
def eS (l : List Nat) : Nat := (l.map cE).sum
theorem eS_app (a b : List Nat) : eS (a ++ b) = eS a + eS b := by simp [eS]
theorem wE_le (w : Str) : wE w ≤ eS (sg w) := by
  unfold wE
  split
  · rename_i h; subst h; decide +kernel
  · split
    · rename_i h; subst h; decide +kernel
    · split
      · rename_i h; subst h; decide +kernel
      · split
        · rename_i h; subst h; decide +kernel
        · omega
theorem tok_ms : ∀ (f : Nat) (l : List Nat) (p : Nat) (ws : List Str), tok f l p = .ok ws → (∀ c ∈ l, c < 1114112) → l.length ≤ 1000 → 70 ∉ l →
    (∀ w ∈ ws, Wo w ∧ w ≠ "Fun") ∧ eW ws ≤ eS l ∧ gW ws ≤ 3 * l.length
  | 0, _, _, _, h, _, _, _ => by cases h
  | f + 1, [], _, ws, h, _, _, _ => by
    have h : WR.ok [] = .ok ws := h
    cases h
    exact ⟨(fun w hw => nomatch hw), Nat.le_refl _, Nat.le_refl _⟩
  | f + 1, c :: r, p, ws, h, hc, hl, hF => by
    simp only [tok] at h
    by_cases h2 : c = 32
    · rw [if_pos h2] at h
      have := tok_ms f r (p + 1) ws h (fun d hd => hc d (List.mem_cons_of_mem _ hd)) (by simp at hl; omega) (fun k => hF (List.mem_cons_of_mem _ k))
      refine ⟨this.1, ?_, ?_⟩
      · have := this.2.1
        simp only [eS, List.map_cons, List.sum_cons] at this ⊢
        omega
      · have := this.2.2
        simp only [List.length_cons]
        omega
    · rw [if_neg h2] at h
      cases hn : nxt (c :: r) with
      | none => rw [hn] at h; cases h
      | some n =>
        rw [hn] at h
        dsimp only at h
        have nl := nxt_le hn
        cases hk : tok f ((c :: r).drop n) (p + n) with
        | bad => rw [hk] at h; cases h
        | err m => rw [hk] at h; cases h
        | ok vs =>
          rw [hk] at h
          have h : WR.ok (mkS ((c :: r).take n) :: vs) = .ok ws := h
          cases h
          have ih := tok_ms f ((c :: r).drop n) (p + n) vs hk (fun d hd => hc d (List.mem_of_mem_drop hd)) (by rw [List.length_drop]; omega) (fun k => hF (List.mem_of_mem_drop k))
          have lt : ((c :: r).take n).length = n := by rw [List.length_take]; omega
          have lw : (mkS ((c :: r).take n)).length = n := lt
          refine ⟨fun w hw => ?_, ?_, ?_⟩
          · rcases List.mem_cons.mp hw with rfl | hw
            · refine ⟨⟨ok_of fun d hd => hc d (List.mem_of_mem_take hd), by omega, fun r' b => ?_⟩, fun k => hF ?_⟩
              · rw [lw]
                exact nxt_loc hn b
              · have m : 70 ∈ sg (mkS ((c :: r).take n)) := by rw [k]; decide +kernel
                exact List.mem_of_mem_take m
            · exact ih.1 w hw
          · have e : eS (c :: r) = eS ((c :: r).take n) + eS ((c :: r).drop n) := by rw [← eS_app, List.take_append_drop]
            have e2 := wE_le (mkS ((c :: r).take n))
            have e3 : eW (mkS ((c :: r).take n) :: vs) = wE (mkS ((c :: r).take n)) + eW vs := rfl
            have e4 : sg (mkS ((c :: r).take n)) = (c :: r).take n := rfl
            rw [e4] at e2
            have := ih.2.1
            omega
          · have e3 : gW (mkS ((c :: r).take n) :: vs) = (mkS ((c :: r).take n)).length + 2 + gW vs := rfl
            have := ih.2.2
            rw [List.length_drop] at this
            rw [e3, lw]
            omega
theorem tok_err : ∀ (f : Nat) (l : List Nat) (p m : Nat), tok f l p = .err m → m ≤ p + l.length
  | 0, _, _, _, h => by cases h
  | f + 1, [], _, _, h => by cases h
  | f + 1, c :: r, p, m, h => by
    simp only [tok] at h
    by_cases h2 : c = 32
    · rw [if_pos h2] at h
      have := tok_err f r (p + 1) m h
      simp only [List.length_cons]
      omega
    · rw [if_neg h2] at h
      cases hn : nxt (c :: r) with
      | none =>
        rw [hn] at h
        cases h
        omega
      | some n =>
        rw [hn] at h
        dsimp only at h
        have nl := nxt_le hn
        cases hk : tok f ((c :: r).drop n) (p + n) with
        | bad => rw [hk] at h; cases h
        | ok vs => rw [hk] at h; cases h
        | err k =>
          rw [hk] at h
          have h : WR.err k = .err m := h
          cases h
          have := tok_err f ((c :: r).drop n) (p + n) m hk
          rw [List.length_drop] at this
          omega
end K03
namespace K03
open PySem PySem.Spec L2 PL
/-! M27: what the mirror of the reader tells: never bad, and what it reads is a type -/
structure WsOk (ws : List Str) : Prop where
  wo : ∀ w ∈ ws, Wo w ∧ w ≠ "Fun"
  len : ws.length ≤ 600
section
variable {ws : List Str}
theorem hd_mem {n : Nat} (h : n < ws.length) : hd ws n ∈ ws := by
  have : hd ws n = ws[n] := by simp [hd, h]
  rw [this]
  exact List.getElem_mem h
theorem drop_hd {n : Nat} (h : n < ws.length) : ws.drop n = hd ws n :: ws.drop (n + 1) := by
  have : hd ws n = ws[n] := by simp [hd, h]
  rw [this]
  exact List.drop_eq_getElem_cons h
abbrev eN (ws : List Str) (n : Nat) : Nat := eW (ws.drop n)
def vW (v : Str → Nat) (ws : List Str) : Nat := (ws.map v).sum
abbrev vN (v : Str → Nat) (ws : List Str) (n : Nat) : Nat := vW v (ws.drop n)
theorem vW_app (v : Str → Nat) (a b : List Str) : vW v (a ++ b) = vW v a + vW v b := by simp [vW]
theorem vW_cons (v : Str → Nat) (a : Str) (b : List Str) : vW v (a :: b) = v a + vW v b := by simp [vW]
theorem vW_nil (v : Str → Nat) : vW v [] = 0 := rfl
theorem eN_s {n : Nat} (h : n < ws.length) : eN ws n = wE (hd ws n) + eN ws (n + 1) := by
  unfold eN
  rw [drop_hd h]
  rfl
theorem vN_s (v : Str → Nat) {n : Nat} (h : n < ws.length) : vN v ws n = v (hd ws n) + vN v ws (n + 1) := by
  unfold vN
  rw [drop_hd h]
  rfl
theorem eN_mono {n : Nat} : ∀ d, eN ws (n + d) ≤ eN ws n
  | 0 => Nat.le_refl _
  | d + 1 => by
    have ih := eN_mono (n := n) d
    by_cases h : n + d < ws.length
    · have := eN_s h
      have e : n + (d + 1) = n + d + 1 := rfl
      rw [e]
      omega
    · have : ws.drop (n + (d + 1)) = [] := List.drop_eq_nil_of_le (by omega)
      unfold eN
      rw [this]
      exact Nat.zero_le _
theorem eN_le {n m : Nat} (h : n ≤ m) : eN ws m ≤ eN ws n := by
  have := eN_mono (ws := ws) (n := n) (m - n)
  rwa [show n + (m - n) = m by omega] at this
theorem vN_mono (v : Str → Nat) {n : Nat} : ∀ d, vN v ws (n + d) ≤ vN v ws n
  | 0 => Nat.le_refl _
  | d + 1 => by
    have ih := vN_mono v (n := n) d
    by_cases h : n + d < ws.length
    · have := vN_s v h
      have e : n + (d + 1) = n + d + 1 := rfl
      rw [e]
      omega
    · have : ws.drop (n + (d + 1)) = [] := List.drop_eq_nil_of_le (by omega)
      unfold vN
      rw [this]
      exact Nat.zero_le _
theorem vN_le (v : Str → Nat) {n m : Nat} (h : n ≤ m) : vN v ws m ≤ vN v ws n := by
  have := vN_mono (ws := ws) v (n := n) (m - n)
  rwa [show n + (m - n) = m by omega] at this
theorem fwf_len : ∀ l : List (Str × T), l.length ≤ (fwf l).length
  | [] => Nat.zero_le _
  | (u, t) :: l => by
    have := fwf_len l
    simp only [fwf, List.length_cons, List.length_append]; omega
def tlw : Option Str → List Str
  | some s => [("|" : Str), s, ("}" : Str)]
  | none => [("}" : Str)]
theorem fw_rcd (l : List (Str × T)) (tl : Option Str) : fw (.rcd l tl) = ("{" : Str) :: ((fwf l).drop 1 ++ tlw tl) := by
  cases tl <;> simp [fw, tlw]
def Ro (v : Str → Nat) (ws : List Str) (n c : Nat) (pe : T → Nat) : PR T → Prop
  | .ok t m => n < m ∧ m ≤ ws.length ∧ Wf t ∧ dp t + eN ws m ≤ c + eN ws n ∧ vW v (fw t) + pe t + vN v ws m ≤ vN v ws n
  | .err _ => True
  | .bad => False
def pa (v : Str → Nat) (t : T) : Nat := if isAll t || isFun t then v "(" + v ")" else 0
def po (v : Str → Nat) (t : T) : Nat := if isAll t || argd t then v "(" + v ")" else 0
structure Snd4 (v : Str → Nat) (ws : List Str) (k : Nat) (p : PS4) : Prop where
  w : ∀ n, n ≤ ws.length → 4 + eN ws n ≤ k → Ro v ws n 4 (fun _ => 0) (p.w n)
  a : ∀ n, n ≤ ws.length → 3 + eN ws n ≤ k → Ro v ws n 4 (pa v) (p.a n)
  o : ∀ n, n ≤ ws.length → 2 + eN ws n ≤ k → Ro v ws n 2 (po v) (p.o n)
  r : ∀ n, n < ws.length → hd ws n = "{" → 1 + eN ws n ≤ k → Ro v ws n 2 (po v) (p.r n)
variable {v : Str → Nat}
theorem vW_par (b : Bool) (l : List Str) : vW v (parw b l) = vW v l + if b then v "(" + v ")" else 0 := by
  cases b
  · simp [parw]
  · simp only [parw, if_true, vW_cons, vW_app, vW_nil]; omega
theorem pa_po {t : T} (w : Wf t) : pa v t ≤ po v t := by
  have : isFun t = true → argd t = true := by
    intro h
    cases t with
    | con s l =>
      simp only [Wf] at w
      have := w.1 (by simpa [isFun] using h)
      cases l with
      | nil => cases this
      | cons a l => rfl
    | _ => cases h
  unfold pa po
  cases isAll t <;> cases h : isFun t <;> simp [h]
  have := this h
  simp [this]
theorem la_snoc (l : List T) (t : T) : vW v (fwa (l ++ [t])) = vW v (fwa l) + (vW v (fw t) + po v t) := by
  induction l with
  | nil => simp only [List.nil_append, fwa, vW_app, vW_par, vW_nil, po]; omega
  | cons u l ih => simp only [List.cons_append, fwa, vW_app, ih]; omega
theorem sd_L {k : Nat} {p : PS4} (ho : ∀ n, n ≤ ws.length → 2 + eN ws n ≤ k → Ro v ws n 2 (po v) (p.o n)) {E0 G0 : Nat} : ∀ (f n : Nat) (acc : List T), n ≤ ws.length → ws.length < f + n → 2 + eN ws n ≤ k → eN ws n ≤ E0 →
    (∀ t ∈ acc, Wf t ∧ dp t + eN ws n ≤ 2 + E0) → vW v (fwa acc) + vN v ws n ≤ G0 →
    (match pL p.o ws f n acc with
    | .ok l m => n ≤ m ∧ m ≤ ws.length ∧ (∀ t ∈ l, Wf t ∧ dp t + eN ws m ≤ 2 + E0) ∧ vW v (fwa l) + vN v ws m ≤ G0
    | .err _ => True
    | .bad => False)
  | 0, n, acc, hn, hf, _, _, _, _ => by omega
  | f + 1, n, acc, hn, hf, hk, he, ha, hg => by
    unfold pL
    by_cases hm : more (hd ws n) = true
    · rw [if_pos hm]
      have h := ho n hn hk
      cases hp : p.o n with
      | bad => rw [hp] at h; exact h.elim
      | err m => exact trivial
      | ok t m =>
        rw [hp] at h
        obtain ⟨h1, h2, h3, h4, h5⟩ := h
        have mo := eN_le (ws := ws) (Nat.le_of_lt h1)
        have ih := sd_L ho (E0 := E0) (G0 := G0) f m (acc ++ [t]) h2 (by omega) (by omega) (by omega) (fun u hu => by
          rcases List.mem_append.mp hu with hu | hu
          · have := ha u hu; exact ⟨this.1, by omega⟩
          · obtain rfl := List.mem_singleton.mp hu
            exact ⟨h3, by omega⟩) (by rw [la_snoc]; omega)
        dsimp only
        cases hq : pL p.o ws f m (acc ++ [t]) with
        | bad => rw [hq] at ih; exact ih.elim
        | err _ => exact trivial
        | ok l m' =>
          rw [hq] at ih
          exact ⟨by omega, ih.2⟩
    · rw [if_neg hm]
      exact ⟨Nat.le_refl _, hn, ha, hg⟩
theorem lf_snoc (l : List (Str × T)) (u : Str) (t : T) : vW v (fwf (l ++ [(u, t)])) = vW v (fwf l) + (v "," + v u + v ":" + vW v (fw t)) := by
  induction l with
  | nil => simp only [List.nil_append, fwf, vW_cons, vW_app, vW_nil]; omega
  | cons e l ih => obtain ⟨u', t'⟩ := e; simp only [List.cons_append, fwf, vW_cons, vW_app, ih]; omega
theorem fwf_sum : ∀ l : List (Str × T), vW v (fwf l) = (l.map fun e => v "," + v e.1 + v ":" + vW v (fw e.2)).sum
  | [] => by simp [fwf, vW]
  | (u, t) :: l => by
    have := fwf_sum l
    simp only [fwf, vW_cons, vW_app, List.map_cons, List.sum_cons]
    omega
theorem fwf_d1 : ∀ {l : List (Str × T)}, l ≠ [] → vW v (fwf l) = v "," + vW v ((fwf l).drop 1)
  | [], h => absurd rfl h
  | (u, t) :: l, _ => by simp [fwf, vW_cons]
theorem fwf_d1_le (l : List (Str × T)) : vW v ((fwf l).drop 1) ≤ vW v (fwf l) := by
  cases l with
  | nil => simp [fwf]
  | cons e l => have := fwf_d1 (v := v) (l := e :: l) (by simp); omega
theorem lf_perm {l m : List (Str × T)} (h : l.Perm m) : vW v ((fwf l).drop 1) = vW v ((fwf m).drop 1) := by
  have e : vW v (fwf l) = vW v (fwf m) := by
    rw [fwf_sum, fwf_sum]
    exact (h.map _).sum_nat
  by_cases k : l = []
  · subst k
    have := h.nil_eq
    subst this
    rfl
  · have k2 : m ≠ [] := fun z => k (by subst z; exact h.eq_nil)
    rw [fwf_d1 k, fwf_d1 k2] at e
    omega
theorem sd_F (ok : WsOk ws) {k : Nat} {p : PS4} (hw : ∀ n, n ≤ ws.length → 4 + eN ws n ≤ k → Ro v ws n 4 (fun _ => 0) (p.w n)) {E0 G0 : Nat} : ∀ (f n : Nat) (acc : List (Str × T)), n ≤ ws.length → ws.length < f + n → 4 + eN ws n ≤ k → eN ws n ≤ E0 →
    (∀ e ∈ acc, ((isV e.1 = true ∧ Wo e.1) ∧ Wf e.2) ∧ dp e.2 + eN ws n ≤ 4 + E0) → (acc.map (·.1)).Nodup → vW v (fwf acc) + vN v ws n ≤ G0 →
    (match pF p.w ws f n acc with
    | .ok l m => n ≤ m ∧ m ≤ ws.length ∧ (∀ e ∈ l, ((isV e.1 = true ∧ Wo e.1) ∧ Wf e.2) ∧ dp e.2 + eN ws m ≤ 4 + E0) ∧ (l.map (·.1)).Nodup ∧ vW v ((fwf l).drop 1) + vN v ws m ≤ G0
    | .err _ => True
    | .bad => False)
  | 0, n, acc, hn, hf, _, _, _, _, _ => by omega
  | f + 1, n, acc, hn, hf, hk, he, ha, hd', hg => by
    unfold pF
    by_cases hv : isV (hd ws n) = true
    · rw [if_pos hv]
      have n1 : n < ws.length := hd_lt (isV_ne hv)
      by_cases h1 : (acc.any fun e => decide (e.1 = hd ws n)) = true
      · rw [if_pos h1]; exact trivial
      · rw [if_neg h1]
        by_cases h2 : hd ws (n + 1) = ":"
        · rw [if_pos h2]
          have n2 : n + 1 < ws.length := hd_lt (by rw [h2]; decide)
          have e2 : eN ws (n + 2) ≤ eN ws n := eN_le (by omega)
          have h := hw (n + 2) (by omega) (by omega)
          cases hp : p.w (n + 2) with
          | bad => rw [hp] at h; exact h.elim
          | err m => exact trivial
          | ok t m =>
            rw [hp] at h
            obtain ⟨k1, k2, k3, k4, k5⟩ := h
            have mo : eN ws m ≤ eN ws n := eN_le (by omega)
            have g1 := vN_s v n1
            have g2 : vN v ws (n + 1) = v (hd ws (n + 1)) + vN v ws (n + 2) := vN_s v n2
            have k5 : vW v (fw t) + 0 + vN v ws m ≤ vN v ws (n + 2) := k5
            rw [h2] at g2
            have hA : ∀ e ∈ acc ++ [(hd ws n, t)], ((isV e.1 = true ∧ Wo e.1) ∧ Wf e.2) ∧ dp e.2 + eN ws m ≤ 4 + E0 := fun e hm => by
              rcases List.mem_append.mp hm with hm | hm
              · have := ha e hm; exact ⟨this.1, by omega⟩
              · obtain rfl := List.mem_singleton.mp hm
                exact ⟨⟨⟨hv, (ok.wo _ (hd_mem n1)).1⟩, k3⟩, by show dp t + _ ≤ _; omega⟩
            have hN : ((acc ++ [(hd ws n, t)]).map (·.1)).Nodup := by
              rw [List.map_append, List.nodup_append]
              refine ⟨hd', by simp, fun a hq b hb => ?_⟩
              have hb : b = hd ws n := by simpa using hb
              rintro rfl
              obtain ⟨e, he, rfl⟩ := List.mem_map.mp hq
              exact h1 (List.any_eq_true.mpr ⟨e, he, decide_eq_true hb⟩)
            have hG : vW v (fwf (acc ++ [(hd ws n, t)])) + vN v ws m ≤ G0 + v "," := by
              rw [lf_snoc]
              omega
            dsimp only
            by_cases h3 : hd ws m = ","
            · rw [if_pos h3]
              have m1 : m < ws.length := hd_lt (by rw [h3]; decide)
              by_cases h4 : isV (hd ws (m + 1)) = true
              · rw [if_pos h4]
                have mo2 : eN ws (m + 1) ≤ eN ws m := eN_le (by omega)
                have mo3 : vN v ws m = v (hd ws m) + vN v ws (m + 1) := vN_s v m1
                rw [h3] at mo3
                have ih := sd_F ok hw (E0 := E0) (G0 := G0) f (m + 1) (acc ++ [(hd ws n, t)]) m1 (by omega) (by omega) (by omega) (fun e hm => ⟨(hA e hm).1, by have := (hA e hm).2; omega⟩) hN (by omega)
                cases hq : pF p.w ws f (m + 1) (acc ++ [(hd ws n, t)]) with
                | bad => rw [hq] at ih; exact ih.elim
                | err _ => exact trivial
                | ok l m' =>
                  rw [hq] at ih
                  exact ⟨by omega, ih.2⟩
              · rw [if_neg h4]; exact trivial
            · rw [if_neg h3]
              have := fwf_d1 (v := v) (l := acc ++ [(hd ws n, t)]) (by simp)
              exact ⟨by omega, k2, hA, hN, by omega⟩
        · rw [if_neg h2]; exact trivial
    · rw [if_neg hv]
      have := fwf_d1_le (v := v) acc
      exact ⟨Nat.le_refl _, hn, ha, hd', by omega⟩
end
end K03
namespace K03
open PySem PySem.Spec L2 PL
/-! M28: the mirror of the reader, all levels -/
section
variable {ws : List Str} {k : Nat} {p : PS4} {v : Str → Nat}
theorem sd_w (ok : WsOk ws) (q : Snd4 v ws k p) {n : Nat} (hn : n ≤ ws.length) (hk : 4 + eN ws n ≤ k + 1) : Ro v ws n 4 (fun _ => 0) ((pStep ws p).w n) := by
  by_cases h : hd ws n = "all"
  · have n1 : n < ws.length := hd_lt (by rw [h]; decide)
    by_cases h1 : (isV (hd ws (n + 1)) || isTail (hd ws (n + 1))) = true
    · have n2 : n + 1 < ws.length := hd_lt (by
        rcases Bool.or_eq_true_iff.mp h1 with z | z
        · exact isV_ne z
        · exact isTail_ne z)
      by_cases h2 : hd ws (n + 2) = "."
      · have n3 : n + 2 < ws.length := hd_lt (by rw [h2]; decide)
        have em : (pStep ws p).w n = (match p.w (n + 3) with
          | .ok t m => .ok (.all (hd ws (n + 1)) t) m
          | .err m => .err m
          | .bad => .bad) := by simp only [pStep, h, if_true, h1, h2] <;> rfl
        rw [em]
        have e1 := eN_s n1
        have e2 : eN ws (n + 1) = wE (hd ws (n + 1)) + eN ws (n + 2) := eN_s n2
        have e3 : eN ws (n + 2) = wE (hd ws (n + 2)) + eN ws (n + 3) := eN_s n3
        have w1 : wE "." = 1 := by decide
        rw [h2, w1] at e3
        have g1 := vN_s v n1
        have g2 : vN v ws (n + 1) = v (hd ws (n + 1)) + vN v ws (n + 2) := vN_s v n2
        have g3 : vN v ws (n + 2) = v (hd ws (n + 2)) + vN v ws (n + 3) := vN_s v n3
        rw [h] at g1
        rw [h2] at g3
        have hw := q.w (n + 3) (by omega) (by omega)
        cases hp : p.w (n + 3) with
        | bad => rw [hp] at hw; exact hw.elim
        | err m => exact trivial
        | ok t m =>
          rw [hp] at hw
          obtain ⟨k1, k2, k3, k4, k5⟩ := hw
          have k5 : vW v (fw t) + 0 + vN v ws m ≤ vN v ws (n + 3) := k5
          refine ⟨by omega, k2, ?_, ?_, ?_⟩
          · simp only [Wf]
            exact ⟨Bool.or_eq_true_iff.mp h1, (ok.wo _ (hd_mem n2)).1, k3⟩
          · simp only [dp]; omega
          · simp only [fw, vW_cons]; omega
      · have em : (pStep ws p).w n = .err (n + 2) := by simp only [pStep, h, if_true, h1, h2, if_false]
        rw [em]; exact trivial
    · have em : (pStep ws p).w n = .err (n + 1) := by simp only [pStep, h, if_true, h1] <;> rfl
      rw [em]; exact trivial
  · have em : (pStep ws p).w n = (match p.a n with
      | .ok f m => if hd ws m = "->" then match p.w (m + 1) with
          | .ok t m' => .ok (.con "Fun" [f, t]) m'
          | .err m => .err m
          | .bad => .bad
        else .ok f m
      | .err m => .err m
      | .bad => .bad) := by simp only [pStep, h, if_false] <;> rfl
    rw [em]
    have ha := q.a n hn (by omega)
    cases hp : p.a n with
    | bad => rw [hp] at ha; exact ha.elim
    | err m => exact trivial
    | ok f m =>
      rw [hp] at ha
      obtain ⟨k1, k2, k3, k4, k5⟩ := ha
      show Ro v ws n 4 (fun _ => 0) (if hd ws m = "->" then _ else _)
      by_cases h1 : hd ws m = "->"
      · rw [if_pos h1]
        have m1 : m < ws.length := hd_lt (by rw [h1]; decide)
        have e1 := eN_s m1
        have g1 := vN_s v m1
        have w1 : wE "->" = 2 := by decide
        rw [h1, w1] at e1
        rw [h1] at g1
        have mo : eN ws m ≤ eN ws n := eN_le (Nat.le_of_lt k1)
        have hw := q.w (m + 1) m1 (by omega)
        cases hq : p.w (m + 1) with
        | bad => rw [hq] at hw; exact hw.elim
        | err _ => exact trivial
        | ok t m' =>
          rw [hq] at hw
          obtain ⟨j1, j2, j3, j4, j5⟩ := hw
          have j5 : vW v (fw t) + 0 + vN v ws m' ≤ vN v ws (m + 1) := j5
          have mo2 : eN ws m' ≤ eN ws (m + 1) := eN_le (Nat.le_of_lt j1)
          refine ⟨by omega, j2, ?_, ?_, ?_⟩
          · simp only [Wf]
            exact ⟨fun _ => rfl, by decide +kernel, wo_fun, (wfs_iff _).mpr (by simp; exact ⟨k3, j3⟩)⟩
          · simp only [dp, dps]; omega
          · rw [fw_fun]
            simp only [vW_app, vW_cons, vW_par]
            unfold pa at k5
            omega
      · rw [if_neg h1]
        have k5 : vW v (fw f) + pa v f + vN v ws m ≤ vN v ws n := k5
        exact ⟨k1, k2, k3, k4, by show vW v (fw f) + 0 + _ ≤ _; omega⟩
theorem sd_a (ok : WsOk ws) (q : Snd4 v ws k p) {n : Nat} (hn : n ≤ ws.length) (hk : 3 + eN ws n ≤ k + 1) : Ro v ws n 4 (pa v) ((pStep ws p).a n) := by
  by_cases h : isH (hd ws n) = true
  · have n1 : n < ws.length := hd_lt (isH_ne h)
    have em : (pStep ws p).a n = (match pL p.o ws 1000 (n + 1) [] with
      | .ok l m => .ok (.con (hd ws n) l) m
      | .err m => .err m
      | .bad => .bad) := by simp only [pStep, h, if_true] <;> rfl
    rw [em]
    have wo := ok.wo _ (hd_mem n1)
    have e1 := eN_s n1
    have g1 := vN_s v n1
    have hl := ok.len
    have lp := sd_L (ws := ws) (k := k) (p := p) (v := v) q.o (E0 := eN ws (n + 1)) (G0 := vN v ws (n + 1)) 1000 (n + 1) [] n1 (by omega) (by omega) (Nat.le_refl _) (fun t ht => nomatch ht) (by simp [fwa, vW])
    cases hp : pL p.o ws 1000 (n + 1) [] with
    | bad => rw [hp] at lp; exact lp.elim
    | err m => exact trivial
    | ok l m =>
      rw [hp] at lp
      obtain ⟨k1, k2, k3, k4⟩ := lp
      have mo : eN ws m ≤ eN ws (n + 1) := eN_le k1
      have hds : ∀ l : List T, (∀ t ∈ l, dp t + eN ws m ≤ 2 + eN ws (n + 1)) → dps l + eN ws m ≤ 2 + eN ws (n + 1) := by
        intro l hl
        induction l with
        | nil => simp only [dps]; omega
        | cons t l ih =>
          have a := hl t (List.mem_cons_self ..)
          have b := ih fun u hu => hl u (List.mem_cons_of_mem _ hu)
          simp only [dps]
          omega
      have d := hds l fun t ht => (k3 t ht).2
      refine ⟨by omega, k2, ?_, ?_, ?_⟩
      · simp only [Wf]
        exact ⟨fun z => absurd z wo.2, h, wo.1, (wfs_iff _).mpr fun t ht => (k3 t ht).1⟩
      · simp only [dp]; omega
      · have : pa v (.con (hd ws n) l) = 0 := by simp [pa, isAll, isFun, wo.2]
        rw [this, fw_con wo.2, vW_cons]
        omega
  · have em : (pStep ws p).a n = p.o n := by simp only [pStep, h] <;> rfl
    rw [em]
    have ho := q.o n hn (by omega)
    cases hp : p.o n with
    | bad => rw [hp] at ho; exact ho.elim
    | err m => exact trivial
    | ok t m =>
      rw [hp] at ho
      obtain ⟨k1, k2, k3, k4, k5⟩ := ho
      have := pa_po (v := v) k3
      exact ⟨k1, k2, k3, by omega, by omega⟩
theorem sd_o (ok : WsOk ws) (q : Snd4 v ws k p) {n : Nat} (hn : n ≤ ws.length) (hk : 2 + eN ws n ≤ k + 1) : Ro v ws n 2 (po v) ((pStep ws p).o n) := by
  by_cases h : isV (hd ws n) = true
  · have n1 : n < ws.length := hd_lt (isV_ne h)
    have em : (pStep ws p).o n = .ok (.var (hd ws n)) (n + 1) := by simp only [pStep, h, if_true]
    rw [em]
    have e1 := eN_s n1
    have g1 := vN_s v n1
    refine ⟨by omega, n1, ?_, ?_, ?_⟩
    · simp only [Wf]; exact ⟨h, (ok.wo _ (hd_mem n1)).1⟩
    · simp only [dp]; omega
    · simp only [fw, po, isAll, argd, Bool.or_self, if_false, Bool.false_eq_true, vW_cons, vW_nil]; omega
  · by_cases h1 : hd ws n = "("
    · have n1 : n < ws.length := hd_lt (by rw [h1]; decide)
      have em : (pStep ws p).o n = (match p.w (n + 1) with
        | .ok t m => if hd ws m = ")" then .ok t (m + 1) else .err m
        | .err m => .err m
        | .bad => .bad) := by
        have hv : isV "(" = false := by decide +kernel
        simp only [pStep, h1, if_true, hv]
        rfl
      rw [em]
      have e1 := eN_s n1
      have g1 := vN_s v n1
      have w1 : wE "(" = 3 := by decide
      rw [h1, w1] at e1
      rw [h1] at g1
      have hw := q.w (n + 1) n1 (by omega)
      cases hp : p.w (n + 1) with
      | bad => rw [hp] at hw; exact hw.elim
      | err m => exact trivial
      | ok t m =>
        rw [hp] at hw
        obtain ⟨k1, k2, k3, k4, k5⟩ := hw
        have k5 : vW v (fw t) + 0 + vN v ws m ≤ vN v ws (n + 1) := k5
        show Ro v ws n 2 (po v) (if hd ws m = ")" then _ else _)
        by_cases h2 : hd ws m = ")"
        · rw [if_pos h2]
          have m1 : m < ws.length := hd_lt (by rw [h2]; decide)
          have e2 := eN_s m1
          have g2 := vN_s v m1
          rw [h2] at g2
          have : po v t ≤ v "(" + v ")" := by unfold po; split <;> omega
          exact ⟨by omega, m1, k3, by omega, by omega⟩
        · rw [if_neg h2]; exact trivial
    · by_cases h2 : hd ws n = "{"
      · have n1 : n < ws.length := hd_lt (by rw [h2]; decide)
        have em : (pStep ws p).o n = p.r n := by
          have hv : isV "{" = false := by decide +kernel
          have hb : (("{" : Str) = "(") = False := by simp; decide
          simp only [pStep, h2, if_true, hv, hb]
          rfl
        rw [em]
        exact q.r n n1 h2 (by omega)
      · by_cases h3 : isH (hd ws n) = true
        · have n1 : n < ws.length := hd_lt (isH_ne h3)
          have em : (pStep ws p).o n = .ok (.con (hd ws n) []) (n + 1) := by simp only [pStep, h, h1, h2, h3, if_true, if_false, Bool.false_eq_true]
          rw [em]
          have wo := ok.wo _ (hd_mem n1)
          have e1 := eN_s n1
          have g1 := vN_s v n1
          refine ⟨by omega, n1, ?_, ?_, ?_⟩
          · simp only [Wf]; exact ⟨fun z => absurd z wo.2, h3, wo.1, trivial⟩
          · simp only [dp, dps]; omega
          · rw [fw_con wo.2]
            simp only [fwa, po, isAll, argd, Bool.or_self, if_false, Bool.false_eq_true, vW_cons, vW_nil]; omega
        · have em : (pStep ws p).o n = .err n := by simp only [pStep, h, h1, h2, h3, if_true, if_false, Bool.false_eq_true]
          rw [em]; exact trivial
theorem srt_fix {α : Type} : ∀ {l : List (Str × α)}, SrtG l → sortG l = l
  | [], _ => rfl
  | e :: r, h => by
    obtain ⟨h1, h2⟩ := List.pairwise_cons.mp h
    show insG e (sortG r) = e :: r
    rw [srt_fix h2]
    cases r with
    | nil => rfl
    | cons f r =>
      have : tLt f.1 e.1 = false := h1 f (List.mem_cons_self ..)
      simp [insG, this]
theorem sd_r (ok : WsOk ws) (q : Snd4 v ws k p) {n : Nat} (hn : n < ws.length) (hh : hd ws n = "{") (hk : 1 + eN ws n ≤ k + 1) : Ro v ws n 2 (po v) ((pStep ws p).r n) := by
  have em : (pStep ws p).r n = (match pF p.w ws 1000 (n + 1) [] with
    | .ok l m => if hd ws m = "|" then
        if isTail (hd ws (m + 1)) then if hd ws (m + 2) = "}" then .ok (.rcd (sortG l) (some (hd ws (m + 1)))) (m + 3) else .err (m + 2)
        else .err (m + 1)
      else if hd ws m = "}" then .ok (.rcd (sortG l) none) (m + 1) else .err m
    | .err m => .err m
    | .bad => .bad) := rfl
  rw [em]
  have hl := ok.len
  have e1 := eN_s hn
  have g1 := vN_s v hn
  have w1 : wE "{" = 5 := by decide
  rw [hh, w1] at e1
  rw [hh] at g1
  have lp := sd_F (k := k) (p := p) (v := v) ok q.w (E0 := eN ws (n + 1)) (G0 := vN v ws (n + 1)) 1000 (n + 1) [] hn (by omega) (by omega) (Nat.le_refl _) (fun t ht => nomatch ht) (by simp) (by simp [fwf, vW])
  cases hp : pF p.w ws 1000 (n + 1) [] with
  | bad => rw [hp] at lp; exact lp.elim
  | err m => exact trivial
  | ok l m =>
    rw [hp] at lp
    obtain ⟨k1, k2, k3, k4, k5⟩ := lp
    have mo : eN ws m ≤ eN ws (n + 1) := eN_le k1
    have pm := sortG_perm l
    have hds : ∀ l : List (Str × T), (∀ e ∈ l, dp e.2 + eN ws m ≤ 4 + eN ws (n + 1)) → dpf l + eN ws m ≤ 4 + eN ws (n + 1) := by
      intro l hl
      induction l with
      | nil => simp only [dpf]; omega
      | cons t l ih =>
        obtain ⟨u, t⟩ := t
        have a : dp t + _ ≤ _ := hl (u, t) (List.mem_cons_self ..)
        have b := ih fun u hu => hl u (List.mem_cons_of_mem _ hu)
        simp only [dpf]
        omega
    have d := hds (sortG l) fun e he => (k3 e (pm.mem_iff.mp he)).2
    have wf : ∀ tl : Option Str, (∀ s, tl = some s → isTail s = true ∧ Wo s) → Wf (.rcd (sortG l) tl) := fun tl ht => by
      simp only [Wf]
      exact ⟨(wff_iff _).mpr fun e he => (k3 e (pm.mem_iff.mp he)).1, srt_fix (sortG_srt l), (pm.map (·.1)).nodup_iff.mpr k4, ht⟩
    have lj := lf_perm (v := v) pm
    show Ro v ws n 2 (po v) (if hd ws m = "|" then _ else _)
    by_cases h1 : hd ws m = "|"
    · rw [if_pos h1]
      have m1 : m < ws.length := hd_lt (by rw [h1]; decide)
      by_cases h2 : isTail (hd ws (m + 1)) = true
      · rw [if_pos h2]
        have m2 : m + 1 < ws.length := hd_lt (isTail_ne h2)
        by_cases h3 : hd ws (m + 2) = "}"
        · rw [if_pos h3]
          have m3 : m + 2 < ws.length := hd_lt (by rw [h3]; decide)
          have g2 := vN_s v m1
          have g3 : vN v ws (m + 1) = v (hd ws (m + 1)) + vN v ws (m + 2) := vN_s v m2
          have g4 : vN v ws (m + 2) = v (hd ws (m + 2)) + vN v ws (m + 3) := vN_s v m3
          rw [h1] at g2
          rw [h3] at g4
          have mo2 : eN ws (m + 3) ≤ eN ws m := eN_le (by omega)
          refine ⟨by omega, m3, wf _ fun s hs => ?_, ?_, ?_⟩
          · cases hs; exact ⟨h2, (ok.wo _ (hd_mem m2)).1⟩
          · simp only [dp]; omega
          · simp only [fw_rcd, tlw, vW_cons, vW_app, vW_nil, po, isAll, argd, Bool.or_self, if_false, Bool.false_eq_true]; omega
        · rw [if_neg h3]; exact trivial
      · rw [if_neg h2]; exact trivial
    · rw [if_neg h1]
      by_cases h3 : hd ws m = "}"
      · rw [if_pos h3]
        have m1 : m < ws.length := hd_lt (by rw [h3]; decide)
        have g2 := vN_s v m1
        rw [h3] at g2
        have mo2 : eN ws (m + 1) ≤ eN ws m := eN_le (by omega)
        refine ⟨by omega, m1, wf none (fun s hs => by cases hs), ?_, ?_⟩
        · simp only [dp]; omega
        · simp only [fw_rcd, tlw, vW_cons, vW_app, vW_nil, po, isAll, argd, Bool.or_self, if_false, Bool.false_eq_true]; omega
      · rw [if_neg h3]; exact trivial
theorem sd4 (ok : WsOk ws) : ∀ k, Snd4 v ws k (pAt ws k)
  | 0 => ⟨fun _ _ h => by omega, fun _ _ h => by omega, fun _ _ h => by omega, fun _ _ _ h => by omega⟩
  | k + 1 => by
    have q := sd4 ok k
    exact ⟨fun n hn h => sd_w ok q hn h, fun n hn h => sd_a ok q hn h, fun n hn h => sd_o ok q hn h, fun n hn hh h => sd_r ok q hn hh h⟩
end
end K03
namespace K03
open PySem PySem.Spec L2 PL
/-! M29: a printed type is read back -/
section
variable {ws : List Str}
theorem dr1 {n : Nat} {w : Str} {r : List Str} (h : ws.drop n = w :: r) : hd ws n = w ∧ n < ws.length ∧ ws.drop (n + 1) = r := by
  have l : n < ws.length := by
    by_cases k : n < ws.length
    · exact k
    · rw [List.drop_eq_nil_of_le (by omega)] at h; cases h
  have e := drop_hd l
  rw [h] at e
  injection e with e1 e2
  exact ⟨e1.symm, l, e2.symm⟩
theorem drA {n : Nat} {l r : List Str} (h : ws.drop n = l ++ r) : ws.drop (n + l.length) = r := by
  rw [← List.drop_drop, h, List.drop_left]
/-- what goes on no further -/
structure Stop (w : Str) : Prop where
  mo : more w = false
  ar : w ≠ "->"
theorem stop_of {w : Str} (h : w = "" ∨ w = ")" ∨ w = "," ∨ w = "|" ∨ w = "}") : Stop w := by
  rcases h with rfl | rfl | rfl | rfl | rfl <;> exact ⟨by decide +kernel, by decide⟩
structure RT (ws : List Str) (t : T) : Prop where
  w : ∀ n post k, ws.drop n = fw t ++ post → Stop (hd ws (n + (fw t).length)) → 4 + eN ws n ≤ k → (pAt ws k).w n = .ok t (n + (fw t).length)
  a : ∀ n post k, ws.drop n = parw (isAll t || isFun t) (fw t) ++ post → more (hd ws (n + (parw (isAll t || isFun t) (fw t)).length)) = false → 3 + eN ws n ≤ k → (pAt ws k).a n = .ok t (n + (parw (isAll t || isFun t) (fw t)).length)
  o : ∀ n post k, ws.drop n = parw (isAll t || argd t) (fw t) ++ post → 2 + eN ws n ≤ k → (pAt ws k).o n = .ok t (n + (parw (isAll t || argd t) (fw t)).length)
theorem a_o {n k : Nat} (h : isH (hd ws n) = false) : (pAt ws (k + 1)).a n = (pAt ws k).o n := by
  show (pStep ws (pAt ws k)).a n = _
  simp only [pStep, h] <;> rfl
theorem w_a {n k m : Nat} {t : T} (h : hd ws n ≠ "all") (ha : (pAt ws k).a n = .ok t m) (h2 : hd ws m ≠ "->") : (pAt ws (k + 1)).w n = .ok t m := by
  show (pStep ws (pAt ws k)).w n = _
  simp only [pStep, h, if_false, ha, h2]
/-- in brackets -/
theorem o_par {t : T} (hw : ∀ n post k, ws.drop n = fw t ++ post → Stop (hd ws (n + (fw t).length)) → 4 + eN ws n ≤ k → (pAt ws k).w n = .ok t (n + (fw t).length)) {n k : Nat} {post : List Str} (h : ws.drop n = parw true (fw t) ++ post) (hk : 2 + eN ws n ≤ k) : (pAt ws k).o n = .ok t (n + (parw true (fw t)).length) := by
  have h' : ws.drop n = ("(" : Str) :: (fw t ++ (")" : Str) :: post) := by rw [h]; simp [parw]
  obtain ⟨h1, h2, h3⟩ := dr1 h'
  have e1 := eN_s h2
  have w1 : wE "(" = 3 := by decide
  rw [h1, w1] at e1
  have d := drA h3
  obtain ⟨h4, h5, h6⟩ := dr1 d
  obtain ⟨k, rfl⟩ : ∃ j, k = j + 1 := ⟨k - 1, by omega⟩
  have r := hw (n + 1) _ k h3 (by rw [h4]; exact stop_of (by simp)) (by omega)
  have hv : isV "(" = false := by decide +kernel
  have l : n + (parw true (fw t)).length = n + 1 + (fw t).length + 1 := by simp [parw]; omega
  rw [l]
  show (pStep ws (pAt ws k)).o n = _
  simp only [pStep, h1, if_true, hv, r, h4]
  rfl
theorem parH {b : Bool} {l : List Str} {n : Nat} {post : List Str} (hb : b = true) (h : ws.drop n = parw b l ++ post) : isH (hd ws n) = false := by
  subst hb
  have h' : ws.drop n = ("(" : Str) :: (l ++ (")" : Str) :: post) := by rw [h]; simp [parw]
  rw [(dr1 h').1]
  decide +kernel
theorem isV_facts {s : Str} (h : isV s = true) : isH s = false ∧ s ≠ "all" ∧ more s = true := by
  have h0 := h
  unfold isV at h
  obtain ⟨h1, h2⟩ := Bool.and_eq_true_iff.mp h
  have h2 : s ≠ "all" := by simpa using h2
  refine ⟨?_, h2, by simp [more, h0]⟩
  unfold inS at h1
  unfold isH inS
  cases hc : c0 s with
  | none => rfl
  | some c =>
    rw [hc] at h1
    have h1 : c ∈ c_LOW.cps.toList := of_decide_eq_true h1
    have key : ∀ c ∈ c_LOW.cps.toList, decide (c ∈ c_HIGH.cps.toList) = false := by decide +kernel
    exact key c h1
theorem isH_facts {s : Str} (h : isH s = true) : isV s = false ∧ s ≠ "all" ∧ more s = true ∧ s ≠ "(" ∧ s ≠ "{" := by
  refine ⟨?_, ?_, by simp [more, h], ?_, ?_⟩
  · cases hv : isV s with
    | false => rfl
    | true => rw [(isV_facts hv).1] at h; cases h
  · rintro rfl; revert h; decide +kernel
  · rintro rfl; revert h; decide +kernel
  · rintro rfl; revert h; decide +kernel
/-- the first word of what stands behind a data type -/
theorem atom_more {t : T} (w : Wf t) {n : Nat} {post : List Str} (h : ws.drop n = parw (isAll t || argd t) (fw t) ++ post) : more (hd ws n) = true := by
  have mp : more "(" = true := by decide +kernel
  cases t with
  | var s =>
    simp only [Wf] at w
    have h' : ws.drop n = s :: post := by rw [h]; simp [parw, isAll, argd, fw]
    rw [(dr1 h').1]
    exact (isV_facts w.1).2.2
  | all s u =>
    have h' : ws.drop n = ("(" : Str) :: (fw (.all s u) ++ (")" : Str) :: post) := by rw [h]; simp [parw, isAll, argd]
    rw [(dr1 h').1]
    exact mp
  | rcd l tl =>
    have h' : ∃ r, ws.drop n = ("{" : Str) :: r := ⟨_, by rw [h]; simp only [parw, isAll, argd, fw, Bool.or_self, Bool.false_eq_true, if_false, List.cons_append]; rfl⟩
    obtain ⟨r, h'⟩ := h'
    rw [(dr1 h').1]
    decide +kernel
  | con s l =>
    simp only [Wf] at w
    cases l with
    | nil =>
      by_cases hf : s = "Fun"
      · exact absurd (w.1 hf) (by simp)
      · have h' : ws.drop n = s :: post := by rw [h]; simp [parw, isAll, argd, fw, hf, fwa]
        rw [(dr1 h').1]
        exact (isH_facts w.2.1).2.2.1
    | cons x l =>
      have h' : ws.drop n = ("(" : Str) :: (fw (.con s (x :: l)) ++ (")" : Str) :: post) := by rw [h]; simp [parw, isAll, argd]
      rw [(dr1 h').1]
      exact mp
theorem rt_L {k : Nat} {post : List Str} : ∀ (l : List T) (f n : Nat) (acc : List T), (∀ t ∈ l, Wf t) → (∀ t ∈ l, RT ws t) → ws.drop n = fwa l ++ post → more (hd ws (n + (fwa l).length)) = false → 2 + eN ws n ≤ k → l.length < f →
    pL (pAt ws k).o ws f n acc = .ok (acc ++ l) (n + (fwa l).length)
  | l, 0, n, acc, _, _, _, _, _, hf => by omega
  | [], f + 1, n, acc, _, _, h, hs, hk, hf => by
    have hs : more (hd ws n) = false := hs
    simp [pL, hs, fwa]
  | t :: l, f + 1, n, acc, hw, hr, h, hs, hk, hf => by
    have h' : ws.drop n = parw (isAll t || argd t) (fw t) ++ (fwa l ++ post) := by rw [h]; simp [fwa]
    have m := atom_more (hw t (List.mem_cons_self ..)) h'
    have o := (hr t (List.mem_cons_self ..)).o n _ k h' hk
    have d := drA h'
    have mo : eN ws (n + (parw (isAll t || argd t) (fw t)).length) ≤ eN ws n := eN_le (by omega)
    have ln : (fwa (t :: l)).length = (parw (isAll t || argd t) (fw t)).length + (fwa l).length := by simp [fwa]
    rw [ln, ← Nat.add_assoc] at hs ⊢
    have ih := rt_L (k := k) (post := post) l f (n + (parw (isAll t || argd t) (fw t)).length) (acc ++ [t]) (fun u hu => hw u (List.mem_cons_of_mem _ hu)) (fun u hu => hr u (List.mem_cons_of_mem _ hu)) d hs (by omega) (by simp at hf; omega)
    simp only [pL, m, if_true, o, ih]
    simp
theorem rt_F {k : Nat} {post : List Str} (hp : ∃ w r, post = w :: r ∧ (w = "|" ∨ w = "}")) : ∀ (l : List (Str × T)) (u : Str) (t : T) (f n : Nat) (acc : List (Str × T)), (∀ e ∈ (u, t) :: l, isV e.1 = true) → (∀ e ∈ (u, t) :: l, RT ws e.2) → ((acc ++ (u, t) :: l).map (·.1)).Nodup →
    ws.drop n = u :: (":" : Str) :: (fw t ++ (fwf l ++ post)) → 4 + eN ws n ≤ k → l.length + 1 < f →
    pF (pAt ws k).w ws f n acc = .ok (acc ++ (u, t) :: l) (n + 2 + (fw t).length + (fwf l).length)
  | l, u, t, 0, n, acc, _, _, _, _, _, hf => by omega
  | l, u, t, f + 1, n, acc, hv, hr, hd', h, hk, hf => by
    obtain ⟨h1, h2, h3⟩ := dr1 h
    obtain ⟨h4, h5, h6⟩ := dr1 h3
    have v := hv (u, t) (List.mem_cons_self ..)
    have v : isV u = true := v
    have d := drA h6
    have na : ¬ (acc.any fun e => decide (e.1 = u)) = true := by
      intro q
      obtain ⟨e, he, k⟩ := List.any_eq_true.mp q
      have k : e.1 = u := of_decide_eq_true k
      rw [List.map_append, List.nodup_append] at hd'
      exact hd'.2.2 e.1 (List.mem_map_of_mem he) u (by simp) k
    have mo : eN ws (n + 1 + 1) ≤ eN ws n := eN_le (by omega)
    have rt := hr (u, t) (List.mem_cons_self ..)
    cases l with
    | nil =>
      obtain ⟨w, r, rfl, hw⟩ := hp
      have d : ws.drop (n + 1 + 1 + (fw t).length) = w :: r := by rw [d]; simp [fwf]
      obtain ⟨k1, k2, k3⟩ := dr1 d
      have nc : w ≠ "," := by rcases hw with rfl | rfl <;> decide
      have rw' := rt.w (n + 1 + 1) _ k h6 (by rw [k1]; exact stop_of (by rcases hw with rfl | rfl <;> simp)) (by omega)
      have e : n + 2 + (fw t).length + (fwf []).length = n + 1 + 1 + (fw t).length := by simp [fwf]
      rw [e]
      have rw' : (pAt ws k).w (n + 2) = _ := rw'
      simp only [pF, h1, v, if_true, if_neg na, h4, rw', k1, if_neg nc]
    | cons e l =>
      obtain ⟨u2, t2⟩ := e
      have d : ws.drop (n + 1 + 1 + (fw t).length) = ("," : Str) :: (u2 :: (":" : Str) :: (fw t2 ++ (fwf l ++ post))) := by rw [d]; simp [fwf]
      obtain ⟨k1, k2, k3⟩ := dr1 d
      have j1 := (dr1 k3).1
      have v2 : isV u2 = true := hv (u2, t2) (by simp)
      have rw' := rt.w (n + 1 + 1) _ k h6 (by rw [k1]; exact stop_of (by simp)) (by omega)
      have rw' : (pAt ws k).w (n + 2) = _ := rw'
      have mo2 : eN ws (n + 1 + 1 + (fw t).length + 1) ≤ eN ws n := eN_le (by omega)
      have ih := rt_F (k := k) hp l u2 t2 f (n + 1 + 1 + (fw t).length + 1) (acc ++ [(u, t)]) (fun e he => hv e (List.mem_cons_of_mem _ he)) (fun e he => hr e (List.mem_cons_of_mem _ he)) (by simpa using hd') k3 (by omega) (by simp at hf; omega)
      have ln : n + 2 + (fw t).length + (fwf ((u2, t2) :: l)).length = n + 1 + 1 + (fw t).length + 1 + 2 + (fw t2).length + (fwf l).length := by simp [fwf]; omega
      rw [ln]
      simp only [pF, h1, v, if_true, if_neg na, h4, rw', k1, j1, v2, ih]
      simp
end
end K03
namespace K03
open PySem PySem.Spec L2 PL
/-! M30: a printed type is read back, all of it -/
section
variable {ws : List Str}
theorem rt_atom {t : T} (ha : isAll t = false) (hf : isFun t = false) (hg : argd t = false) (h0 : ∃ w r, fw t = w :: r ∧ isH w = false ∧ w ≠ "all") (o : ∀ n post k, ws.drop n = fw t ++ post → 2 + eN ws n ≤ k → (pAt ws k).o n = .ok t (n + (fw t).length)) : RT ws t := by
  have a : ∀ n post k, ws.drop n = fw t ++ post → 3 + eN ws n ≤ k → (pAt ws k).a n = .ok t (n + (fw t).length) := fun n post k h hk => by
    obtain ⟨k, rfl⟩ : ∃ j, k = j + 1 := ⟨k - 1, by omega⟩
    obtain ⟨w, r, e, h1, h2⟩ := h0
    have h' := h
    rw [e] at h'
    rw [a_o (by rw [(dr1 h').1]; exact h1)]
    exact o n post k h (by omega)
  have e1 : parw (isAll t || isFun t) (fw t) = fw t := by simp [ha, hf, parw]
  have e2 : parw (isAll t || argd t) (fw t) = fw t := by simp [ha, hg, parw]
  refine ⟨fun n post k h hs hk => ?_, fun n post k h hs hk => ?_, fun n post k h hk => ?_⟩
  · obtain ⟨k, rfl⟩ : ∃ j, k = j + 1 := ⟨k - 1, by omega⟩
    obtain ⟨w, r, e, h1, h2⟩ := h0
    have h' := h
    rw [e] at h'
    exact w_a (by rw [(dr1 h').1]; exact h2) (a n post k h (by omega)) hs.ar
  · rw [e1] at h ⊢; exact a n post k h hk
  · rw [e2] at h ⊢; exact o n post k h hk
theorem rt_bent {t : T} (h1 : (isAll t || isFun t) = true) (h2 : (isAll t || argd t) = true) (hw : ∀ n post k, ws.drop n = fw t ++ post → Stop (hd ws (n + (fw t).length)) → 4 + eN ws n ≤ k → (pAt ws k).w n = .ok t (n + (fw t).length)) : RT ws t := by
  refine ⟨hw, fun n post k h hs hk => ?_, fun n post k h hk => ?_⟩
  · have q := parH h1 h
    obtain ⟨k, rfl⟩ : ∃ j, k = j + 1 := ⟨k - 1, by omega⟩
    rw [a_o q]
    rw [h1] at h ⊢
    exact o_par hw h (by omega)
  · rw [h2] at h ⊢
    exact o_par hw h hk
theorem pL_len {n : Nat} {l : List T} (hws : ws.length ≤ 600) {post : List Str} (h : ws.drop n = fwa l ++ post) (hf : ∀ t ∈ l, 1 ≤ (parw (isAll t || argd t) (fw t)).length) : l.length < 1000 := by
  have l1 : ∀ l : List T, (∀ t ∈ l, 1 ≤ (parw (isAll t || argd t) (fw t)).length) → l.length ≤ (fwa l).length := by
    intro l
    induction l with
    | nil => intro _; exact Nat.zero_le _
    | cons t l ih =>
      intro hf
      have := ih fun u hu => hf u (List.mem_cons_of_mem _ hu)
      have := hf t (List.mem_cons_self ..)
      simp only [fwa, List.length_append, List.length_cons]
      omega
  have e : (ws.drop n).length = (fwa l).length + post.length := by rw [h, List.length_append]
  rw [List.length_drop] at e
  have := l1 l hf
  omega
theorem fw_ne {t : T} (w : Wf t) : 1 ≤ (fw t).length := by
  cases t with
  | var s => simp [fw]
  | all s u => simp [fw]
  | rcd l tl => simp [fw]
  | con s l =>
    simp only [Wf] at w
    by_cases hf : s = "Fun"
    · subst hf
      obtain ⟨x, y, rfl⟩ : ∃ a b, l = [a, b] := by
        have := w.1 rfl
        match l, this with
        | [a, b], _ => exact ⟨a, b, rfl⟩
      rw [fw_fun]; simp only [List.length_append, List.length_cons]; omega
    · rw [fw_con hf]; simp
theorem rt (hws : ws.length ≤ 600) (t : T) : Wf t → RT ws t := by
  induction t using T.ind with
  | hv s =>
    intro w
    simp only [Wf] at w
    have f := isV_facts w.1
    refine rt_atom rfl rfl rfl ⟨s, [], by simp [fw], f.1, f.2.1⟩ fun n post k h hk => ?_
    have h' : ws.drop n = s :: post := by rw [h]; simp [fw]
    obtain ⟨k, rfl⟩ : ∃ j, k = j + 1 := ⟨k - 1, by omega⟩
    show (pStep ws (pAt ws k)).o n = _
    simp only [pStep, (dr1 h').1, w.1, if_true, fw]
    rfl
  | ha s t ih =>
    intro w
    simp only [Wf] at w
    refine rt_bent rfl rfl fun n post k h hs hk => ?_
    have h' : ws.drop n = ("all" : Str) :: s :: ("." : Str) :: (fw t ++ post) := by rw [h]; simp [fw]
    obtain ⟨a1, a2, a3⟩ := dr1 h'
    obtain ⟨b1, b2, b3⟩ := dr1 a3
    obtain ⟨c1, c2, c3⟩ := dr1 b3
    have e1 := eN_s c2
    have w1 : wE "." = 1 := by decide
    rw [c1, w1] at e1
    have mo : eN ws (n + 1 + 1) ≤ eN ws n := eN_le (by omega)
    obtain ⟨k, rfl⟩ : ∃ j, k = j + 1 := ⟨k - 1, by omega⟩
    have ln : n + (fw (.all s t)).length = n + 1 + 1 + 1 + (fw t).length := by simp [fw]; omega
    rw [ln] at hs ⊢
    have r := (ih w.2.2).w (n + 1 + 1 + 1) post k c3 hs (by omega)
    have r : (pAt ws k).w (n + 3) = _ := r
    have c1 : hd ws (n + 2) = "." := c1
    have b' : (isV s || isTail s) = true := Bool.or_eq_true_iff.mpr w.1
    show (pStep ws (pAt ws k)).w n = _
    simp only [pStep, a1, b1, c1, b', if_true, r]
  | hc s l ih =>
    intro w
    have w0 := w
    simp only [Wf] at w
    have hw := (wfs_iff _).mp w.2.2.2
    by_cases hf : s = "Fun"
    · subst hf
      obtain ⟨x, y, rfl⟩ : ∃ a b, l = [a, b] := by
        have := w.1 rfl
        match l, this with
        | [a, b], _ => exact ⟨a, b, rfl⟩
      have wx := hw x (by simp)
      have wy := hw y (by simp)
      refine rt_bent (by simp [isAll, isFun]) (by simp [isAll, argd]) fun n post k h hs hk => ?_
      rw [fw_fun] at h hs ⊢
      have h' : ws.drop n = parw (isAll x || isFun x) (fw x) ++ (("->" : Str) :: (fw y ++ post)) := by rw [h]; simp
      have d := drA h'
      obtain ⟨a1, a2, a3⟩ := dr1 d
      have e1 := eN_s a2
      have w1 : wE "->" = 2 := by decide
      rw [a1, w1] at e1
      have mo : eN ws (n + (parw (isAll x || isFun x) (fw x)).length) ≤ eN ws n := eN_le (by omega)
      obtain ⟨k, rfl⟩ : ∃ j, k = j + 1 := ⟨k - 1, by omega⟩
      have ra := (ih x (by simp) wx).a n _ k h' (by rw [a1]; decide +kernel) (by omega)
      have ln : n + (parw (isAll x || isFun x) (fw x) ++ ("->" : Str) :: fw y).length = n + (parw (isAll x || isFun x) (fw x)).length + 1 + (fw y).length := by simp; omega
      rw [ln] at hs ⊢
      have rw' := (ih y (by simp) wy).w _ post k a3 hs (by omega)
      have h0 : hd ws n ≠ "all" := by
        cases hb : (isAll x || isFun x) with
        | true =>
          have h2 : ws.drop n = ("(" : Str) :: (fw x ++ (")" : Str) :: ("->" : Str) :: (fw y ++ post)) := by rw [h', hb]; simp [parw]
          rw [(dr1 h2).1]; decide
        | false =>
          cases x with
          | all _ _ => simp [isAll] at hb
          | var s =>
            simp only [Wf] at wx
            have h2 : ws.drop n = s :: (("->" : Str) :: (fw y ++ post)) := by rw [h', hb]; simp [parw, fw]
            rw [(dr1 h2).1]; exact (isV_facts wx.1).2.1
          | rcd l tl =>
            have h2 : ∃ r, ws.drop n = ("{" : Str) :: r := ⟨_, by rw [h', hb]; simp only [parw, fw, Bool.false_eq_true, if_false, List.cons_append]; rfl⟩
            obtain ⟨r, h2⟩ := h2
            rw [(dr1 h2).1]; decide
          | con s l =>
            simp only [Wf] at wx
            have hf : s ≠ "Fun" := by simpa [isAll, isFun] using hb
            have h2 : ws.drop n = s :: (fwa l ++ (("->" : Str) :: (fw y ++ post))) := by rw [h', hb, fw_con hf]; simp [parw]
            rw [(dr1 h2).1]; exact (isH_facts wx.2.1).2.1
      show (pStep ws (pAt ws k)).w n = _
      simp only [pStep, h0, if_false, ra, a1, if_true, rw']
    · have hH := isH_facts w.2.1
      have af : isFun (.con s l) = false := by simp [isFun, hf]
      have a : ∀ n post k, ws.drop n = fw (.con s l) ++ post → more (hd ws (n + (fw (.con s l)).length)) = false → 3 + eN ws n ≤ k → (pAt ws k).a n = .ok (.con s l) (n + (fw (.con s l)).length) := fun n post k h hm hk => by
        rw [fw_con hf] at h hm ⊢
        obtain ⟨a1, a2, a3⟩ := dr1 (show ws.drop n = s :: (fwa l ++ post) from h)
        obtain ⟨k, rfl⟩ : ∃ j, k = j + 1 := ⟨k - 1, by omega⟩
        have mo : eN ws (n + 1) ≤ eN ws n := eN_le (by omega)
        have ln : n + (s :: fwa l).length = n + 1 + (fwa l).length := by simp; omega
        rw [ln] at hm ⊢
        have lp := rt_L (k := k) (post := post) l 1000 (n + 1) [] hw (fun t ht => ih t ht (hw t ht)) a3 hm (by omega) (pL_len hws a3 fun t ht => by
          have := fw_ne (hw t ht)
          unfold parw
          split
          · simp
          · exact this)
        show (pStep ws (pAt ws k)).a n = _
        simp only [pStep, a1, w.2.1, if_true, lp, List.nil_append]
      have wp : ∀ n post k, ws.drop n = fw (.con s l) ++ post → Stop (hd ws (n + (fw (.con s l)).length)) → 4 + eN ws n ≤ k → (pAt ws k).w n = .ok (.con s l) (n + (fw (.con s l)).length) := fun n post k h hs hk => by
        obtain ⟨k, rfl⟩ : ∃ j, k = j + 1 := ⟨k - 1, by omega⟩
        have h' := h
        rw [fw_con hf] at h'
        exact w_a (by rw [(dr1 (show ws.drop n = s :: (fwa l ++ post) from h')).1]; exact hH.2.1) (a n post k h hs.mo (by omega)) hs.ar
      refine ⟨wp, fun n post k h hm hk => ?_, fun n post k h hk => ?_⟩
      · have e : parw (isAll (.con s l) || isFun (.con s l)) (fw (.con s l)) = fw (.con s l) := by simp [af, isAll, parw]
        rw [e] at h hm ⊢
        exact a n post k h hm hk
      · cases l with
        | nil =>
          have e : parw (isAll (.con s []) || argd (.con s [])) (fw (.con s [])) = [s] := by simp [isAll, argd, parw, fw_con hf, fwa]
          rw [e] at h ⊢
          obtain ⟨a1, a2, a3⟩ := dr1 (show ws.drop n = s :: post from h)
          obtain ⟨k, rfl⟩ : ∃ j, k = j + 1 := ⟨k - 1, by omega⟩
          show (pStep ws (pAt ws k)).o n = _
          simp only [pStep, a1, hH.1, hH.2.2.2.1, hH.2.2.2.2, w.2.1, if_true, if_false, Bool.false_eq_true]
          rfl
        | cons x l =>
          have e : (isAll (.con s (x :: l)) || argd (.con s (x :: l))) = true := by simp [argd]
          rw [e] at h ⊢
          exact o_par wp h hk
  | hr l tl ih =>
    intro w
    simp only [Wf] at w
    have hw := (wff_iff _).mp w.1
    refine rt_atom rfl rfl rfl ⟨"{", _, by simp only [fw]; rfl, by decide +kernel, by decide⟩ fun n post k h hk => ?_
    have h' : ws.drop n = ("{" : Str) :: ((fwf l).drop 1 ++ (tlw tl ++ post)) := by rw [h, fw_rcd]; simp only [List.cons_append, List.append_assoc]
    obtain ⟨a1, a2, a3⟩ := dr1 h'
    have e1 := eN_s a2
    have w1 : wE "{" = 5 := by decide
    rw [a1, w1] at e1
    obtain ⟨k, rfl⟩ : ∃ j, k = j + 1 := ⟨k - 1, by omega⟩
    obtain ⟨k, rfl⟩ : ∃ j, k = j + 1 := ⟨k - 1, by omega⟩
    have hv : isV "{" = false := by decide +kernel
    have hb : (("{" : Str) = "(") = False := by simp; decide
    have eo : (pAt ws (k + 1 + 1)).o n = (pAt ws (k + 1)).r n := by
      show (pStep ws (pAt ws (k + 1))).o n = _
      simp only [pStep, a1, hv, hb, if_true, if_false, Bool.false_eq_true]
    rw [eo]
    generalize hT : tlw tl = tw at *
    have hp : ∃ w r, tw ++ post = w :: r ∧ (w = "|" ∨ w = "}") := by
      cases tl with
      | none => subst hT; exact ⟨_, _, rfl, .inr rfl⟩
      | some s => subst hT; exact ⟨_, _, rfl, .inl rfl⟩
    have hF : pF (pAt ws k).w ws 1000 (n + 1) [] = .ok l (n + 1 + ((fwf l).drop 1).length) := by
      cases l with
      | nil =>
        obtain ⟨w, r, e, hw'⟩ := hp
        have a3 : ws.drop (n + 1) = w :: r := by rw [a3]; simpa [fwf] using e
        have nv : isV w = false := by rcases hw' with rfl | rfl <;> decide +kernel
        simp [pF, (dr1 a3).1, nv, fwf]
      | cons e l =>
        obtain ⟨u, t⟩ := e
        have a3 : ws.drop (n + 1) = u :: (":" : Str) :: (fw t ++ (fwf l ++ (tw ++ post))) := by rw [a3]; simp [fwf]
        have ll := fwf_len l
        have l2 : (ws.drop (n + 1)).length = _ := congrArg List.length a3
        rw [List.length_drop] at l2
        simp only [List.length_cons, List.length_append] at l2
        have := rt_F (k := k) hp l u t 1000 (n + 1) [] (fun e he => (hw e he).1.1) (fun e he => ih e he (hw e he).2) (by simpa using w.2.2.1) a3 (by omega) (by omega)
        rw [this]
        simp [fwf]
        omega
    have d := drA a3
    show (pStep ws (pAt ws k)).r n = _
    have ln : n + (fw (.rcd l tl)).length = n + 1 + ((fwf l).drop 1).length + tw.length := by
      subst hT
      rw [fw_rcd]; simp only [List.length_cons, List.length_append]; omega
    rw [ln]
    cases tl with
    | none =>
      subst hT
      obtain ⟨b1, b2, b3⟩ := dr1 (show ws.drop (n + 1 + ((fwf l).drop 1).length) = ("}" : Str) :: post from d)
      have nb : (("}" : Str) = "|") = False := by simp; decide
      simp only [pStep, hF, b1, nb, if_true, if_false, w.2.1]
      rfl
    | some s =>
      subst hT
      obtain ⟨b1, b2, b3⟩ := dr1 (show ws.drop (n + 1 + ((fwf l).drop 1).length) = ("|" : Str) :: s :: ("}" : Str) :: post from d)
      obtain ⟨c1, c2, c3⟩ := dr1 b3
      have d1 : hd ws (n + 1 + ((fwf l).drop 1).length + 2) = "}" := (dr1 c3).1
      simp only [pStep, hF, b1, c1, d1, (w.2.2.2 s rfl).1, if_true, w.2.1]
      rfl
end
end K03
namespace K03
open PySem PySem.Spec L2 PL
/-! M31: the two ways together -/
theorem tk_ms {l : List Nat} {ws : List Str} (h : Tk l ws) : eW ws ≤ eS l ∧ ws.length ≤ l.length := by
  induction h with
  | nil => exact ⟨Nat.le_refl _, Nat.le_refl _⟩
  | sp t ih =>
    refine ⟨?_, by have := ih.2; simp only [List.length_cons]; omega⟩
    have := ih.1
    simp only [eS, List.map_cons, List.sum_cons] at this ⊢
    omega
  | @w c r n ws hc hn t ih =>
    have nl := nxt_le hn
    have e : eS (c :: r) = eS ((c :: r).take n) + eS ((c :: r).drop n) := by rw [← eS_app, List.take_append_drop]
    have e2 := wE_le (mkS ((c :: r).take n))
    have e3 : eW (mkS ((c :: r).take n) :: ws) = wE (mkS ((c :: r).take n)) + eW ws := rfl
    have e4 : sg (mkS ((c :: r).take n)) = (c :: r).take n := rfl
    rw [e4] at e2
    have i1 := ih.1
    have i2 := ih.2
    rw [List.length_drop] at i2
    refine ⟨by omega, by simp only [List.length_cons] at nl i2 ⊢; omega⟩
theorem ok_app {a b : Str} (ha : Ok a) (hb : Ok b) : Ok (a ++ b) := ok_of fun c hc => by
  rw [sg_app] at hc
  rcases List.mem_append.mp hc with hc | hc
  · exact of_ok ha c hc
  · exact of_ok hb c hc
theorem ok_join {a : Str} (ha : Ok a) : ∀ {l : List Str}, (∀ x ∈ l, Ok x) → Ok (Txt.join a l)
  | [], _ => (by decide +kernel : Ok ("" : Str))
  | x :: l, h => ok_of fun c hc => by
    rw [sg_join] at hc
    rcases List.mem_append.mp hc with hc | hc
    · exact of_ok (h x (List.mem_cons_self ..)) c hc
    · obtain ⟨y, hy, hc⟩ := List.mem_flatMap.mp hc
      rcases List.mem_append.mp hc with hc | hc
      · exact of_ok ha c hc
      · exact of_ok (h y (List.mem_cons_of_mem _ hy)) c hc
theorem ok_par {b : Bool} {s : Str} (h : Ok s) : Ok (par b s) := by
  cases b
  · exact h
  · exact ok_app (ok_app (by decide +kernel) h) (by decide +kernel)
theorem wf_ok (t : T) : Wf t → Ok (fmt t) := by
  induction t using T.ind with
  | hv s => intro w; simp only [Wf] at w; simp only [fmt]; exact w.2.ok
  | ha s t ih => intro w; simp only [Wf] at w; simp only [fmt]; exact ok_app (ok_app (ok_app (by decide +kernel) w.2.1.ok) (by decide +kernel)) (ih w.2.2)
  | hc s l ih =>
    intro w
    simp only [Wf] at w
    have hw := (wfs_iff _).mp w.2.2.2
    by_cases hf : s = "Fun"
    · subst hf
      obtain ⟨x, y, rfl⟩ : ∃ a b, l = [a, b] := by
        have := w.1 rfl
        match l, this with
        | [a, b], _ => exact ⟨a, b, rfl⟩
      rw [fmt_fun]
      exact ok_app (ok_app (ok_par (ih x (by simp) (hw x (by simp)))) (by decide +kernel)) (ih y (by simp) (hw y (by simp)))
    · rw [fmt_con hf]
      refine ok_join (by decide +kernel) fun x hx => ?_
      rcases List.mem_cons.mp hx with rfl | hx
      · exact w.2.2.1.ok
      · rw [fmta_eq] at hx
        obtain ⟨t, ht, rfl⟩ := List.mem_map.mp hx
        exact ok_par (ih t ht (hw t ht))
  | hr l tl ih =>
    intro w
    simp only [Wf] at w
    have hw := (wff_iff _).mp w.1
    simp only [fmt]
    refine ok_app (ok_app (ok_app (by decide +kernel) (ok_join (by decide +kernel) fun x hx => ?_)) ?_) (by decide +kernel)
    · rw [fmtf_eq] at hx
      obtain ⟨e, he, rfl⟩ := List.mem_map.mp hx
      exact ok_app (ok_app (hw e he).1.2.ok (by decide +kernel)) (ih e he (hw e he).2)
    · cases tl with
      | none => exact (by decide +kernel : Ok ("" : Str))
      | some s => exact ok_app (by decide +kernel) (w.2.2.2 s rfl).2.ok
theorem join_la (s : Str) (l : List Str) : (Txt.join " " (s :: l)).length = s.length + (l.map fun x => x.length + 1).sum := by
  have e := join_len " " s l
  have l1 : (" " : Str).length = 1 := by decide
  rw [l1] at e
  have : ∀ l : List Str, (l.map fun x => x.length + 1).sum = (l.map (·.length)).sum + l.length := by
    intro l
    induction l with
    | nil => rfl
    | cons x l ih => simp only [List.map_cons, List.sum_cons, List.length_cons, ih]; omega
  rw [this]
  simp only [List.map_cons, List.sum_cons, List.length_cons] at e
  omega
abbrev wl : Str → Nat := fun w => w.length + 2
theorem gw_par (b : Bool) (l : List Str) : vW wl (parw b l) = vW wl l + if b then 6 else 0 := by
  rw [vW_par]
  have a : wl "(" = 3 := by decide
  have c : wl ")" = 3 := by decide
  rw [a, c]
theorem fmt_len (t : T) : Wf t → (fmt t).length + 1 ≤ vW wl (fw t) := by
  induction t using T.ind with
  | hv s => intro w; simp only [fmt, fw, vW_cons, vW_nil, wl]; omega
  | ha s t ih =>
    intro w
    simp only [Wf] at w
    have := ih w.2.2
    have l1 : ("all " : Str).length = 4 := by decide
    have l2 : (" . " : Str).length = 3 := by decide
    have l3 : ("all" : Str).length = 3 := by decide
    have l4 : ("." : Str).length = 1 := by decide
    simp only [fmt, fw, vW_cons, len_app, l1, l2, l3, l4, wl]; omega
  | hc s l ih =>
    intro w
    simp only [Wf] at w
    have hw := (wfs_iff _).mp w.2.2.2
    by_cases hf : s = "Fun"
    · subst hf
      obtain ⟨x, y, rfl⟩ : ∃ a b, l = [a, b] := by
        have := w.1 rfl
        match l, this with
        | [a, b], _ => exact ⟨a, b, rfl⟩
      have h1 := ih x (by simp) (hw x (by simp))
      have h2 := ih y (by simp) (hw y (by simp))
      have l1 : (" -> " : Str).length = 4 := by decide
      have l2 : ("->" : Str).length = 2 := by decide
      rw [fmt_fun, fw_fun]
      simp only [vW_app, vW_cons, gw_par, len_app, par_len, l1, l2, wl] at h1 h2 ⊢
      split <;> omega
    · rw [fmt_con hf, fw_con hf, join_la, vW_cons]
      have : ∀ l : List T, (∀ t ∈ l, (fmt t).length + 1 ≤ vW wl (fw t)) → ((fmta l).map fun x => x.length + 1).sum ≤ vW wl (fwa l) := by
        intro l
        induction l with
        | nil => intro _; simp [fmta]
        | cons t l ih2 =>
          intro h
          have a := ih2 fun u hu => h u (List.mem_cons_of_mem _ hu)
          have b := h t (List.mem_cons_self ..)
          simp only [fmta, fwa, List.map_cons, List.sum_cons, vW_app, gw_par, par_len]
          split <;> omega
      have := this l fun t ht => ih t ht (hw t ht)
      simp only [wl] at this ⊢
      omega
  | hr l tl ih =>
    intro w
    simp only [Wf] at w
    have hw := (wff_iff _).mp w.1
    have l1 : ("{" : Str).length = 1 := by decide
    have l2 : ("}" : Str).length = 1 := by decide
    have l3 : (" | " : Str).length = 3 := by decide
    have l4 : ("|" : Str).length = 1 := by decide
    have l5 : ("" : Str).length = 0 := by decide
    have l6 : ("," : Str).length = 1 := by decide
    have l7 : (":" : Str).length = 1 := by decide
    have l8 : (" : " : Str).length = 3 := by decide
    have l9 : (", " : Str).length = 2 := by decide
    have hj : (Txt.join ", " (fmtf l)).length ≤ vW wl ((fwf l).drop 1) := by
      cases l with
      | nil => simp only [fmtf, fwf]; decide +kernel
      | cons e l =>
        have d := fwf_d1 (v := wl) (l := e :: l) (by simp)
        have s : ∀ l : List (Str × T), (∀ e ∈ l, (fmt e.2).length + 1 ≤ vW wl (fw e.2)) → ((fmtf l).map (·.length)).sum + (fmtf l).length * 2 + l.length * 3 ≤ vW wl (fwf l) := by
          intro l
          induction l with
          | nil => intro _; simp [fmtf]
          | cons e l ih2 =>
            intro h
            obtain ⟨k, t⟩ := e
            have a := ih2 fun u hu => h u (List.mem_cons_of_mem _ hu)
            have b : (fmt t).length + 1 ≤ vW wl (fw t) := h (k, t) (List.mem_cons_self ..)
            simp only [fmtf, fwf, List.map_cons, List.sum_cons, List.length_cons, len_app, l8, vW_cons, vW_app, wl, l6, l7] at a b ⊢
            omega
        have s := s (e :: l) fun e he => ih e he (hw e he).2
        obtain ⟨k, t⟩ := e
        have j := join_len ", " (k ++ " : " ++ fmt t) (fmtf l)
        simp only [fmtf, l9] at j s ⊢
        have lw : wl "," = 3 := by decide
        rw [lw] at d
        simp only [List.length_cons] at s j
        omega
    simp only [fmt, fw_rcd, len_app, l1, l2, vW_cons, vW_app]
    cases tl with
    | none =>
      simp only [tlw, vW_cons, vW_nil, l1, l2, l5, wl] at hj ⊢
      omega
    | some s =>
      simp only [tlw, vW_cons, vW_nil, len_app, l1, l2, l3, l4, wl] at hj ⊢
      omega
theorem read_fmt {A : Ads} {k : Nat} {t : T} (w : Wf t) (hl : (fmt t).length ≤ 600) (hk : 4 + eW (fw t) ≤ k) : (FN A (k + 4)).parse_type [.pv (.str (fmt t))] = .ok (.pv (enc t), []) := by
  have tk := tk_fmt t w [] [] brk_nil .nil
  rw [List.append_nil, List.append_nil] at tk
  have ms := tk_ms tk
  rw [sg_len] at ms
  have to := tok_of tk 1000 0 (by rw [sg_len]; omega)
  have r := (rt (ws := fw t) (by omega) t w).w 0 [] k (by simp) (by
    rw [Nat.zero_add]
    have : hd (fw t) (fw t).length = "" := by simp [hd]
    rw [this]
    exact stop_of (.inl rfl)) hk
  have p := run_parse A k hl (wf_ok t w)
  rw [to] at p
  dsimp only at p
  rw [r] at p
  dsimp only at p
  have : hd (fw t) (0 + (fw t).length) = "" := by simp [hd]
  rw [this, if_pos rfl] at p
  exact p
theorem parse_any {A : Ads} {k : Nat} {s : Str} (ok : Ok s) (hl : s.length ≤ 600) (hF : 70 ∉ sg s) (hk : 4 + eS (sg s) ≤ k) :
    (∃ (c : Str) (m : Nat), (c = "form" ∨ c = "sign") ∧ m ≤ s.length ∧ (FN A (k + 4)).parse_type [.pv (.str s)] = .err "TextError" [("code", .str c), ("at", .int m)]) ∨
    ∃ t, Wf t ∧ dp t ≤ 4 + eS (sg s) ∧ (fmt t).length ≤ 3 * s.length ∧ eW (fw t) ≤ eS (sg s) ∧ (FN A (k + 4)).parse_type [.pv (.str s)] = .ok (.pv (enc t), []) := by
  have p := run_parse A k hl ok
  cases hk' : tok 1000 (sg s) 0 with
  | bad => exact absurd hk' (tok_lt 1000 (sg s) 0 (by rw [sg_len]; omega))
  | err m =>
    rw [hk'] at p
    have := tok_err 1000 (sg s) 0 m hk'
    rw [sg_len] at this
    exact .inl ⟨"sign", m, .inr rfl, by omega, p⟩
  | ok ws =>
    rw [hk'] at p
    dsimp only at p
    have ms := tok_ms 1000 (sg s) 0 ws hk' (of_ok ok) (by rw [sg_len]; omega) hF
    have tw := tok_wds 1000 (sg s) 0 ws hk' (of_ok ok) (by rw [sg_len]; omega)
    rw [sg_len] at ms tw
    have wok : WsOk ws := ⟨ms.1, by omega⟩
    have e0 : eN ws 0 = eW ws := by simp [eN]
    have q1 := (sd4 (v := wl) wok k).w 0 (Nat.zero_le _) (by rw [e0]; omega)
    have q2 := (sd4 (v := wE) wok k).w 0 (Nat.zero_le _) (by rw [e0]; omega)
    have a4 := (at4 (A := A) tw.1 (by omega) k).w 0 (Nat.zero_le _)
    cases hp : (pAt ws k).w 0 with
    | bad => rw [hp] at q1; exact q1.elim
    | err m =>
      rw [hp] at p a4
      exact .inl ⟨"form", m, .inl rfl, by have := a4.2; omega, p⟩
    | ok t m =>
      rw [hp] at p q1 q2
      obtain ⟨_, k2, k3, k4, k5⟩ := q1
      obtain ⟨_, _, _, _, j5⟩ := q2
      dsimp only at p
      by_cases hm : hd ws m = ""
      · rw [if_pos hm] at p
        refine .inr ⟨t, k3, by rw [e0] at k4; omega, ?_, ?_, p⟩
        · have f := fmt_len t k3
          have k5 : vW wl (fw t) + 0 + vN wl ws m ≤ vN wl ws 0 := k5
          have e1 : vN wl ws 0 = gW ws := by simp [vN, vW, gW]
          omega
        · have j5 : vW wE (fw t) + 0 + vN wE ws m ≤ vN wE ws 0 := j5
          have e1 : vN wE ws 0 = eW ws := by simp [vN, vW, eW]
          have e2 : vW wE (fw t) = eW (fw t) := rfl
          omega
      · rw [if_neg hm] at p
        exact .inl ⟨"form", m, .inl rfl, by omega, p⟩
end K03
namespace K03
open PySem PySem.Spec L2 PL
/-! M32: what the law asks with: told, take, pick -/
theorem run_told_ok {A : Ads} {j : Nat} {s : Str} {p : PV} (h : (FN A j).parse_type [.pv (.str s)] = .ok (.pv p, [])) : (FN A (j + 1))._law_told [.pv (.str s)] = .ok (.pv p, []) := by
  show endF _ (m__law_told A (FN A j) (startE 2 [.pv (.str s)])) = _
  have hs : startE 2 [.pv (.str s)] = [.pv (.str s), .no] := by simp [startE, toSl]
  rw [hs]
  simp [m__law_told, mSeq, mIf, mtB, mtOr, mtNot, mtV, mOp2, toP, mV, mC, mPeek, mVar, Pk.get, Sl.cnt, Own.pv, mSetC, gR, gN, thenS, mNext, trv_bl, mStrM, isStr, okIf, toA1, toA0, getC, fSw, mDropC, mRet, mRetC, mTup, endF, outs, getAll, Res.of, two_le, three_le, cALL, cCON, cREC, cVAR,  mTry2, mCall, call1 h]
theorem run_told_err {A : Ads} {j : Nat} {s c : Str} {m : Nat} (h : (FN A j).parse_type [.pv (.str s)] = .err "TextError" [("code", .str c), ("at", .int m)]) : (FN A (j + 1))._law_told [.pv (.str s)] = .ok (.pv (.tup [.str c, .int m]), []) := by
  show endF _ (m__law_told A (FN A j) (startE 2 [.pv (.str s)])) = _
  have hs : startE 2 [.pv (.str s)] = [.pv (.str s), .no] := by simp [startE, toSl]
  rw [hs]
  have e1 : (("at" : Str) == ("code" : Str)) = false := by decide
  simp [m__law_told, mSeq, mIf, mtB, mtOr, mtNot, mtV, mOp2, toP, mV, mC, mPeek, mVar, Pk.get, Sl.cnt, Own.pv, mSetC, gR, gN, thenS, mNext, trv_bl, mStrM, isStr, okIf, toA1, toA0, getC, fSw, mDropC, mRet, mRetC, mTup, endF, outs, getAll, Res.of, two_le, three_le, cALL, cCON, cREC, cVAR,  mTry2, mCall, goCall, toAgs, toAg, ownIx, h, noOwn, List.lookup, e1]
def dL (cs : List Int) (i v : Nat) (s : Int) : Own := .lst [.lst (cs.map .int), .int i, .int v, .int s]
def IsD (o : Own) : Prop := ∃ cs i v s, o = dL cs i v s
theorem lst4 {a b c d : PV} : fIx (.lst [a, b, c, d]) (.int 0) = some a ∧ fIx (.lst [a, b, c, d]) (.int 1) = some b ∧ fIx (.lst [a, b, c, d]) (.int 2) = some c ∧ fIx (.lst [a, b, c, d]) (.int 3) = some d := by
  simp [fIx, atI, ixN]
def TkSp (f : Fn) : Prop := ∀ (o : Own) (many : Nat), IsD o → 0 < many → many < 1073741824 → ∃ (r : Nat) (o' : Own), r < many ∧ IsD o' ∧ f [.own o, .pv (.int many)] = .ok (.pv (.int r), [o'])
theorem eq_int {a b : Int} : fEq (.int a) (.int b) = some (.bl (decide (a = b))) := by
  rw [fEq_of (Sh.int a 64) (Sh.int b 64)]
  simp [PV.toD, PyData.eqv]
  by_cases h : a = b <;> simp [h]
def tk2 : MS :=
  (mSeq (mIf (mtB (mOp2 fGt (toP (mOp2 fIx (mPeek 0) (toP (mC (.int 2))))) (toP (mC (.int 0)))))
  (mSeq (mAsg (mOp2 fMod (toP (mFun fInt1 (toA1 (toP (mOp2 fIx (mPeek 0) (toP (mC (.int 2))))) toA0))) (mPeek 1)) (gN 3))
  (mSeq (mPut (mOp2 fDiv (toP (mFun fInt1 (toA1 (toP (mOp2 fIx (mPeek 0) (toP (mC (.int 2))))) toA0))) (mPeek 1)) (mPeek 0) (toP (mC (.int 2))))
  (mRet (mVar 3))))
  mNext)
  (mSeq (mPut (mOp2 fMod (toP (mFun fInt1 (toA1 (toP (mOp2 fAdd (toP (mOp2 fMul (toP (mOp2 fIx (mPeek 0) (toP (mC (.int 3))))) (toP (mC (.int 48271))))) (toP (mC (.int 11))))) toA0))) (toP (mC (.int 2147483647)))) (mPeek 0) (toP (mC (.int 3))))
  (mRet (mOp2 fMod (toP (mFun fInt1 (toA1 (toP (mOp2 fDiv (toP (mOp2 fIx (mPeek 0) (toP (mC (.int 3))))) (toP (mC (.int 3))))) toA0))) (mPeek 1)))))
theorem run_tk2 {C : PV} {i v many : Nat} {s : Int} (hm : 0 < many) (hm2 : many < 1073741824) {x : Sl} : ∃ (r : Nat) (v' : Nat) (s' : Int) (y : Sl), r < many ∧ tk2 [.own true (.lst [C, .int i, .int v, .int s]), .pv (.int many), x, .no] = .ok (.rt (.pv (.int r)), [.own true (.lst [C, .int i, .int v', .int s']), .pv (.int many), x, y]) := by
  have lx := @lst4
  have m0 : (0 : Int) < many := by omega
  have m1 : (many : Int) < 1073741824 := by omega
  have md : ∀ n : Int, fMod (.int n) (.int many) = some (.int (n % many)) := fun n => if_pos (decide_eq_true m0)
  have dv : ∀ n : Int, fDiv (.int n) (.int many) = some (.int (n / many)) := fun n => if_pos (decide_eq_true ⟨m0, m1⟩)
  by_cases h : 0 < v
  · refine ⟨v % many, v / many, s, .pv (.int (v % many : Nat)), Nat.mod_lt _ hm, ?_⟩
    have h' : (0 : Int) < v := by omega
    simp [tk2, mSeq, mIf, mtB, mtOr, mtNot, mtV, mOp2, toP, mV, mC, mPeek, mVar, Pk.get, Sl.cnt, Own.pv, mSetC, gR, gN, thenS, mNext, trv_bl, mStrM, isStr, okIf, toA1, toA0, getC, fSw, mDropC, mRet, mRetC, mTup, endF, outs, getAll, Res.of, two_le, three_le, cALL, cCON, cREC, cVAR,  mFun, fInt1, fGt, fCmp, lx, h, h', mAsg, md, dv, mPut, PL.putAt, ixN]
  · refine ⟨((((s * 48271 + 11) % 2147483647) / 3) % many).toNat, v, (s * 48271 + 11) % 2147483647, .no, ?_, ?_⟩
    · have h1 := Int.emod_nonneg (((s * 48271 + 11) % 2147483647) / 3) (by omega : (many : Int) ≠ 0)
      have h2 := Int.emod_lt_of_pos (((s * 48271 + 11) % 2147483647) / 3) m0
      omega
    · have h1 := Int.emod_nonneg (((s * 48271 + 11) % 2147483647) / 3) (by omega : (many : Int) ≠ 0)
      have e : ((((((s * 48271 + 11) % 2147483647) / 3) % many).toNat : Nat) : Int) = (((s * 48271 + 11) % 2147483647) / 3) % many := Int.toNat_of_nonneg h1
      rw [e]
      have h' : ¬ (0 : Int) < v := by omega
      have mu : fMul (.int s) (.int 48271) = some (.int (s * 48271)) := by simp [fMul, fInt]
      have m2 : fMod (.int (s * 48271 + 11)) (.int 2147483647) = some (.int ((s * 48271 + 11) % 2147483647)) := by simp [fMod, fInt]
      have d3 : ∀ n : Int, fDiv (.int n) (.int 3) = some (.int (n / 3)) := fun n => by simp [fDiv, fInt]
      simp [tk2, mSeq, mIf, mtB, mtOr, mtNot, mtV, mOp2, toP, mV, mC, mPeek, mVar, Pk.get, Sl.cnt, Own.pv, mSetC, gR, gN, thenS, mNext, trv_bl, mStrM, isStr, okIf, toA1, toA0, getC, fSw, mDropC, mRet, mRetC, mTup, endF, outs, getAll, Res.of, two_le, three_le, cALL, cCON, cREC, cVAR,  mFun, fInt1, fGt, fCmp, lx, h, h', mu, addI, m2, d3, md, mPut, PL.putAt, ixN]
theorem run_take (A : Ads) (j : Nat) : TkSp (FN A (j + 1))._law_take := by
  rintro o many ⟨cs, i, v, s, rfl⟩ hm hm2
  show ∃ (r : Nat) (o' : Own), r < many ∧ IsD o' ∧ endF _ (m__law_take A (FN A j) (startE 4 [.own (dL cs i v s), .pv (.int many)])) = _
  have hs : startE 4 [.own (dL cs i v s), .pv (.int many)] = [.own true (dL cs i v s), .pv (.int many), .no, .no] := by simp [startE, toSl]
  rw [hs]
  have lx := @lst4
  have em : m__law_take A (FN A j) = mSeq (mIf (mtAnd (mtB (mOp2 fEq (toP (mOp2 fIx (mPeek 0) (toP (mC (.int 2))))) (toP (mC (.int 0))))) (mtB (mOp2 fLt (toP (mOp2 fIx (mPeek 0) (toP (mC (.int 1))))) (toP (mFun fLen (toA1 (toP (mOp2 fIx (mPeek 0) (toP (mC (.int 0))))) toA0))))))
  (mSeq (mPut (mFun fAbs (toA1 (toP (mFun fInt1 (toA1 (toP (mOp2 fIx (toP (mOp2 fIx (mPeek 0) (toP (mC (.int 0))))) (toP (mOp2 fIx (mPeek 0) (toP (mC (.int 1))))))) toA0))) toA0)) (mPeek 0) (toP (mC (.int 2))))
  (mSeq (mPut (mOp2 fAdd (toP (mOp2 fIx (mPeek 0) (toP (mC (.int 1))))) (toP (mC (.int 1)))) (mPeek 0) (toP (mC (.int 1))))
  (mIf (mtB (mOp2 fLt (toP (mOp2 fIx (mPeek 0) (toP (mC (.int 2))))) (toP (mOp2 fPow (toP (mC (.int 10))) (toP (mC (.int 18)))))))
  (mSeq (mAsg (mFun fInt1 (toA1 (toP (mOp2 fIx (mPeek 0) (toP (mC (.int 2))))) toA0)) (gN 2))
  (mSeq (mPut (mC (.int 0)) (mPeek 0) (toP (mC (.int 2))))
  (mRet (mOp2 fMod (mPeek 2) (mPeek 1)))))
  mNext)))
  mNext) tk2 := rfl
  rw [em]
  clear em
  obtain ⟨B, pw⟩ : ∃ B : Int, fPow (.int 10) (.int 18) = some (.int B) := by
    have e : fPow (.int 10) (.int 18) = if decide ((0 : Int) ≤ 18 ∧ (18 : Int) ≤ 1000000 ∧ (10 : Int).natAbs < 2 ^ 64) then some (.int ((10 : Int) ^ (18 : Int).toNat)) else none := by unfold fPow fInt; rfl
    generalize (10 : Int) ^ (18 : Int).toNat = B at e
    exact ⟨B, e.trans (if_pos (by decide))⟩
  generalize fPow = P at *
  have hF : ∀ {o o' : Own} (ρ : Ev) (p : PV), endF [.own o, .pv (.int many)] (.ok (.rt (.pv p), .own true o' :: ρ)) = .ok (.pv p, outs [.own o, .pv (.int many)] (.own true o' :: ρ)) := fun ρ p => rfl
  by_cases h : v = 0 ∧ i < cs.length
  · obtain ⟨rfl, hi⟩ := h
    have hi' : (i : Int) < cs.length := by omega
    have ix : fIx (.lst (cs.map .int)) (.int i) = some (.int cs[i]) := ix_of (by simp [hi])
    have ab : fAbs [.int cs[i]] = some (.int (cs[i].natAbs : Nat)) := by
      simp only [fAbs]
      congr 2
      split <;> omega
    have md : ∀ n : Int, fMod (.int n) (.int many) = some (.int (n % many)) := fun n => if_pos (decide_eq_true (by omega : (0 : Int) < many))
    by_cases hb : (cs[i].natAbs : Int) < B
    · refine ⟨cs[i].natAbs % many, dL cs (i + 1) 0 s, Nat.mod_lt _ hm, ⟨_, _, _, _, rfl⟩, ?_⟩
      refine Eq.trans (congrArg _ ?_) (hF [.pv (.int many), .pv (.int cs[i].natAbs), .no] _)
      refine seq_rt ?_
      refine (if_t (ρ1 := [.own true (dL cs i 0 s), .pv (.int many), .no, .no]) (by simp [dL, mSeq, mIf, mtB, mtOr, mtNot, mtV, mOp2, toP, mV, mC, mPeek, mVar, Pk.get, Sl.cnt, Own.pv, mSetC, gR, gN, thenS, mNext, trv_bl, mStrM, isStr, okIf, toA1, toA0, getC, fSw, mDropC, mRet, mRetC, mTup, endF, outs, getAll, Res.of, two_le, three_le, cALL, cCON, cREC, cVAR,  mtAnd, mFun, fLen, fLt, fCmp, lx, eq_int, hi, hi'])).trans ?_
      refine (seq_nx (ρ1 := [.own true (dL cs i cs[i].natAbs s), .pv (.int many), .no, .no]) (by simp [dL, mSeq, mIf, mtB, mtOr, mtNot, mtV, mOp2, toP, mV, mC, mPeek, mVar, Pk.get, Sl.cnt, Own.pv, mSetC, gR, gN, thenS, mNext, trv_bl, mStrM, isStr, okIf, toA1, toA0, getC, fSw, mDropC, mRet, mRetC, mTup, endF, outs, getAll, Res.of, two_le, three_le, cALL, cCON, cREC, cVAR,  mFun, fInt1, lx, ix, ab, mPut, PL.putAt, ixN])).trans ?_
      refine (seq_nx (ρ1 := [.own true (dL cs (i + 1) cs[i].natAbs s), .pv (.int many), .no, .no]) (by simp [dL, mSeq, mIf, mtB, mtOr, mtNot, mtV, mOp2, toP, mV, mC, mPeek, mVar, Pk.get, Sl.cnt, Own.pv, mSetC, gR, gN, thenS, mNext, trv_bl, mStrM, isStr, okIf, toA1, toA0, getC, fSw, mDropC, mRet, mRetC, mTup, endF, outs, getAll, Res.of, two_le, three_le, cALL, cCON, cREC, cVAR,  lx, mPut, PL.putAt, ixN, addI])).trans ?_
      refine (if_t (ρ1 := [.own true (dL cs (i + 1) cs[i].natAbs s), .pv (.int many), .no, .no]) (by simp [dL, mSeq, mIf, mtB, mtOr, mtNot, mtV, mOp2, toP, mV, mC, mPeek, mVar, Pk.get, Sl.cnt, Own.pv, mSetC, gR, gN, thenS, mNext, trv_bl, mStrM, isStr, okIf, toA1, toA0, getC, fSw, mDropC, mRet, mRetC, mTup, endF, outs, getAll, Res.of, two_le, three_le, cALL, cCON, cREC, cVAR,  lx, fLt, fCmp, pw, hb])).trans ?_
      refine (seq_nx (ρ1 := [.own true (dL cs (i + 1) cs[i].natAbs s), .pv (.int many), .pv (.int cs[i].natAbs), .no]) (by simp [dL, mSeq, mIf, mtB, mtOr, mtNot, mtV, mOp2, toP, mV, mC, mPeek, mVar, Pk.get, Sl.cnt, Own.pv, mSetC, gR, gN, thenS, mNext, trv_bl, mStrM, isStr, okIf, toA1, toA0, getC, fSw, mDropC, mRet, mRetC, mTup, endF, outs, getAll, Res.of, two_le, three_le, cALL, cCON, cREC, cVAR,  lx, mFun, fInt1, mAsg])).trans ?_
      refine (seq_nx (ρ1 := [.own true (dL cs (i + 1) 0 s), .pv (.int many), .pv (.int cs[i].natAbs), .no]) (by simp [dL, mSeq, mIf, mtB, mtOr, mtNot, mtV, mOp2, toP, mV, mC, mPeek, mVar, Pk.get, Sl.cnt, Own.pv, mSetC, gR, gN, thenS, mNext, trv_bl, mStrM, isStr, okIf, toA1, toA0, getC, fSw, mDropC, mRet, mRetC, mTup, endF, outs, getAll, Res.of, two_le, three_le, cALL, cCON, cREC, cVAR,  lx, mPut, PL.putAt, ixN])).trans ?_
      simp [mSeq, mIf, mtB, mtOr, mtNot, mtV, mOp2, toP, mV, mC, mPeek, mVar, Pk.get, Sl.cnt, Own.pv, mSetC, gR, gN, thenS, mNext, trv_bl, mStrM, isStr, okIf, toA1, toA0, getC, fSw, mDropC, mRet, mRetC, mTup, endF, outs, getAll, Res.of, two_le, three_le, cALL, cCON, cREC, cVAR,  md]
    · obtain ⟨r, v', s', y, h1, h2⟩ := run_tk2 (C := .lst (cs.map .int)) (i := i + 1) (v := cs[i].natAbs) (s := s) (x := .no) hm hm2
      refine ⟨r, dL cs (i + 1) v' s', h1, ⟨_, _, _, _, rfl⟩, ?_⟩
      push_cast at h2
      refine Eq.trans (congrArg _ ?_) (hF [.pv (.int many), .no, y] _)
      refine (seq_nx (ρ1 := [.own true (dL cs (i + 1) cs[i].natAbs s), .pv (.int many), .no, .no]) ?_).trans h2
      refine (if_t (ρ1 := [.own true (dL cs i 0 s), .pv (.int many), .no, .no]) (by simp [dL, mSeq, mIf, mtB, mtOr, mtNot, mtV, mOp2, toP, mV, mC, mPeek, mVar, Pk.get, Sl.cnt, Own.pv, mSetC, gR, gN, thenS, mNext, trv_bl, mStrM, isStr, okIf, toA1, toA0, getC, fSw, mDropC, mRet, mRetC, mTup, endF, outs, getAll, Res.of, two_le, three_le, cALL, cCON, cREC, cVAR,  mtAnd, mFun, fLen, fLt, fCmp, lx, eq_int, hi, hi'])).trans ?_
      refine (seq_nx (ρ1 := [.own true (dL cs i cs[i].natAbs s), .pv (.int many), .no, .no]) (by simp [dL, mSeq, mIf, mtB, mtOr, mtNot, mtV, mOp2, toP, mV, mC, mPeek, mVar, Pk.get, Sl.cnt, Own.pv, mSetC, gR, gN, thenS, mNext, trv_bl, mStrM, isStr, okIf, toA1, toA0, getC, fSw, mDropC, mRet, mRetC, mTup, endF, outs, getAll, Res.of, two_le, three_le, cALL, cCON, cREC, cVAR,  mFun, fInt1, lx, ix, ab, mPut, PL.putAt, ixN])).trans ?_
      refine (seq_nx (ρ1 := [.own true (dL cs (i + 1) cs[i].natAbs s), .pv (.int many), .no, .no]) (by simp [dL, mSeq, mIf, mtB, mtOr, mtNot, mtV, mOp2, toP, mV, mC, mPeek, mVar, Pk.get, Sl.cnt, Own.pv, mSetC, gR, gN, thenS, mNext, trv_bl, mStrM, isStr, okIf, toA1, toA0, getC, fSw, mDropC, mRet, mRetC, mTup, endF, outs, getAll, Res.of, two_le, three_le, cALL, cCON, cREC, cVAR,  lx, mPut, PL.putAt, ixN, addI])).trans ?_
      exact if_n (by simp [dL, mSeq, mIf, mtB, mtOr, mtNot, mtV, mOp2, toP, mV, mC, mPeek, mVar, Pk.get, Sl.cnt, Own.pv, mSetC, gR, gN, thenS, mNext, trv_bl, mStrM, isStr, okIf, toA1, toA0, getC, fSw, mDropC, mRet, mRetC, mTup, endF, outs, getAll, Res.of, two_le, three_le, cALL, cCON, cREC, cVAR,  lx, fLt, fCmp, pw, hb])
  · obtain ⟨r, v', s', y, h1, h2⟩ := run_tk2 (C := .lst (cs.map .int)) (i := i) (v := v) (s := s) (x := .no) hm hm2
    refine ⟨r, dL cs i v' s', h1, ⟨_, _, _, _, rfl⟩, ?_⟩
    by_cases hv : v = 0
    · have hi' : ¬ (i : Int) < cs.length := by omega
      subst hv
      simp [dL, mSeq, mIf, mtB, mtOr, mtNot, mtV, mOp2, toP, mV, mC, mPeek, mVar, Pk.get, Sl.cnt, Own.pv, mSetC, gR, gN, thenS, mNext, trv_bl, mStrM, isStr, okIf, toA1, toA0, getC, fSw, mDropC, mRet, mRetC, mTup, endF, outs, getAll, Res.of, two_le, three_le, cALL, cCON, cREC, cVAR,  mtAnd, mFun, fLen, fLt, fCmp, lx, eq_int, hi'] at h2 ⊢
      simp [h2, endF, outs]
    · have hv' : ¬ (v : Int) = 0 := by omega
      simp [dL, mSeq, mIf, mtB, mtOr, mtNot, mtV, mOp2, toP, mV, mC, mPeek, mVar, Pk.get, Sl.cnt, Own.pv, mSetC, gR, gN, thenS, mNext, trv_bl, mStrM, isStr, okIf, toA1, toA0, getC, fSw, mDropC, mRet, mRetC, mTup, endF, outs, getAll, Res.of, two_le, three_le, cALL, cCON, cREC, cVAR,  mtAnd, mFun, fLen, fLt, fCmp, lx, eq_int, hv', hv] at h2 ⊢
      simp [h2, endF, outs]
/-! ### calls that hand the source of choices on -/
theorem call_d1 {f : Fn} {o o' : Own} {p : PV} {r : Rv} {b : Bool} {ρ : Ev} (h : f [.own o, .pv p] = .ok (r, [o'])) : goCall 2 f [.at 0, .val p] (.own b o :: ρ) = .ok (r, .own b o' :: ρ) := by
  simp [goCall, toAgs, toAg, ownIx, h, updO, setO]
theorem call_d3 {f : Fn} {o o' : Own} {p q u : PV} {r : Rv} {b : Bool} {ρ : Ev} (h : f [.own o, .pv p, .pv q, .pv u] = .ok (r, [o'])) : goCall 4 f [.at 0, .val p, .val q, .val u] (.own b o :: ρ) = .ok (r, .own b o' :: ρ) := by
  simp [goCall, toAgs, toAg, ownIx, h, updO, setO]
theorem call_e1 {f : Fn} {o o' : Own} {p : PV} {r : Rv} {b : Bool} {x : Sl} {ρ : Ev} (h : f [.own o, .pv p] = .ok (r, [o'])) : goCall 2 f [.at 1, .val p] (x :: .own b o :: ρ) = .ok (r, x :: .own b o' :: ρ) := by
  simp [goCall, toAgs, toAg, ownIx, h, updO, setO]
theorem call_e3 {f : Fn} {o o' : Own} {p q u : PV} {r : Rv} {b : Bool} {x : Sl} {ρ : Ev} (h : f [.own o, .pv p, .pv q, .pv u] = .ok (r, [o'])) : goCall 4 f [.at 1, .val p, .val q, .val u] (x :: .own b o :: ρ) = .ok (r, x :: .own b o' :: ρ) := by
  simp [goCall, toAgs, toAg, ownIx, h, updO, setO]
def PkSp (f : Fn) : Prop := ∀ (o : Own) (l : List PV), IsD o → l ≠ [] → l.length < 1073741824 → ∃ (p : PV) (o' : Own), p ∈ l ∧ IsD o' ∧ f [.own o, .pv (.lst l)] = .ok (.pv p, [o'])
theorem run_pick (A : Ads) (j : Nat) : PkSp (FN A (j + 2))._law_pick := by
  intro o l hd hl hb
  obtain ⟨r, o', h1, h2, h3⟩ := run_take A j o l.length hd (List.length_pos_iff.mpr hl) hb
  refine ⟨l[r], o', List.getElem_mem h1, h2, ?_⟩
  show endF _ (m__law_pick A (FN A (j + 1)) (startE 2 [.own o, .pv (.lst l)])) = _
  have hs : startE 2 [.own o, .pv (.lst l)] = [.own true o, .pv (.lst l)] := by simp [startE, toSl]
  rw [hs]
  have ix : fIx (.lst l) (.int r) = some l[r] := ix_of (by simp [h1])
  simp [m__law_pick, mSeq, mIf, mtB, mtOr, mtNot, mtV, mOp2, toP, mV, mC, mPeek, mVar, Pk.get, Sl.cnt, Own.pv, mSetC, gR, gN, thenS, mNext, trv_bl, mStrM, isStr, okIf, toA1, toA0, getC, fSw, mDropC, mRet, mRetC, mTup, endF, outs, getAll, Res.of, two_le, three_le, cALL, cCON, cREC, cVAR,  mFun, fLen, mCall, call_d1 h3, ix]
end K03
namespace K03
open PySem PySem.Spec L2 PL
/-! M33: the law's types: how large -/
structure Bd (t : T) (L E D : Nat) : Prop where
  wf : Wf t
  len : (fmt t).length ≤ L
  es : eS (sg (fmt t)) ≤ E
  dp : dp t ≤ D
  nF : 70 ∉ sg (fmt t)
theorem Bd.mono {t : T} {L E D L' E' D' : Nat} (h : Bd t L E D) (h1 : L ≤ L') (h2 : E ≤ E') (h3 : D ≤ D') : Bd t L' E' D' :=
  ⟨h.wf, Nat.le_trans h.len h1, Nat.le_trans h.es h2, Nat.le_trans h.dp h3, h.nF⟩
theorem bd_var {s : Str} (h : s = "a" ∨ s = "b") : Bd (.var s) 4 0 2 := by
  rcases h with rfl | rfl
  · exact ⟨by simp only [Wf]; exact ⟨by decide +kernel, wo_letters (by decide +kernel) (by decide +kernel) (by decide +kernel) ⟨97, [], by decide +kernel, by decide +kernel⟩⟩, by simp only [fmt]; decide +kernel, by simp only [fmt]; decide +kernel, by simp only [K03.dp]; omega, by simp only [fmt]; decide +kernel⟩
  · exact ⟨by simp only [Wf]; exact ⟨by decide +kernel, wo_letters (by decide +kernel) (by decide +kernel) (by decide +kernel) ⟨98, [], by decide +kernel, by decide +kernel⟩⟩, by simp only [fmt]; decide +kernel, by simp only [fmt]; decide +kernel, by simp only [K03.dp]; omega, by simp only [fmt]; decide +kernel⟩
theorem fmt_leaf {s : Str} (h : s ≠ "Fun") : fmt (.con s []) = s := by
  rw [fmt_con h]; simp only [fmta]; exact join_nil1
theorem bd_con {s : Str} (h : s = "Int" ∨ s = "Bool") : Bd (.con s []) 4 0 2 := by
  rcases h with rfl | rfl
  · have n : ("Int" : Str) ≠ "Fun" := by decide
    exact ⟨by simp only [Wf]; exact ⟨fun z => absurd z n, by decide +kernel, wo_letters (by decide +kernel) (by decide +kernel) (by decide +kernel) ⟨73, [110, 116], by decide +kernel, by decide +kernel⟩, trivial⟩, by rw [fmt_leaf n]; decide +kernel, by rw [fmt_leaf n]; decide +kernel, by simp only [K03.dp, dps]; omega, by rw [fmt_leaf n]; decide +kernel⟩
  · have n : ("Bool" : Str) ≠ "Fun" := by decide
    exact ⟨by simp only [Wf]; exact ⟨fun z => absurd z n, by decide +kernel, wo_letters (by decide +kernel) (by decide +kernel) (by decide +kernel) ⟨66, [111, 111, 108], by decide +kernel, by decide +kernel⟩, trivial⟩, by rw [fmt_leaf n]; decide +kernel, by rw [fmt_leaf n]; decide +kernel, by simp only [K03.dp, dps]; omega, by rw [fmt_leaf n]; decide +kernel⟩
theorem es_par (b : Bool) (s : Str) : eS (sg (par b s)) ≤ eS (sg s) + 3 := by
  cases b
  · simp [par]
  · simp only [par, if_true, sg_app, eS_app]
    have a : eS (sg ("(" : Str)) = 3 := by decide +kernel
    have c : eS (sg (")" : Str)) = 0 := by decide +kernel
    omega
theorem nF_app {a b : Str} (ha : 70 ∉ sg a) (hb : 70 ∉ sg b) : 70 ∉ sg (a ++ b) := by
  rw [sg_app]
  simp [ha, hb]
theorem nF_par {b : Bool} {s : Str} (h : 70 ∉ sg s) : 70 ∉ sg (par b s) := by
  cases b
  · exact h
  · exact nF_app (nF_app (by decide +kernel) h) (by decide +kernel)
theorem bd_fun {a b : T} {L E D : Nat} (ha : Bd a L E D) (hb : Bd b L E D) : Bd (.con "Fun" [a, b]) (2 * L + 6) (2 * E + 5) (D + 2) := by
  have l1 : (" -> " : Str).length = 4 := by decide
  have e1 : eS (sg (" -> " : Str)) = 2 := by decide +kernel
  have p1 := par_len (isAll a || isFun a) (fmt a)
  have p2 : (if (isAll a || isFun a) = true then 2 else 0) ≤ 2 := by split <;> omega
  have p3 := es_par (isAll a || isFun a) (fmt a)
  have h1 := ha.len
  have h2 := hb.len
  have h3 := ha.es
  have h4 := hb.es
  have h5 := ha.dp
  have h6 := hb.dp
  refine ⟨by simp only [Wf]; exact ⟨fun _ => rfl, by decide +kernel, wo_fun, (wfs_iff _).mpr (by simp; exact ⟨ha.wf, hb.wf⟩)⟩, ?_, ?_, ?_, ?_⟩
  · rw [fmt_fun]; simp only [len_app, l1]; omega
  · rw [fmt_fun]; simp only [sg_app, eS_app, e1]; omega
  · simp only [K03.dp, dps]; omega
  · rw [fmt_fun]; exact nF_app (nF_app (nF_par ha.nF) (by decide +kernel)) hb.nF
theorem bd_app {s : Str} (h : s = "List" ∨ s = "Box") {t : T} {L E D : Nat} (ht : Bd t L E D) : Bd (.con s [t]) (L + 7) (E + 3) (D + 2) := by
  have p1 := par_len (isAll t || argd t) (fmt t)
  have p2 : (if (isAll t || argd t) = true then 2 else 0) ≤ 2 := by split <;> omega
  have p3 := es_par (isAll t || argd t) (fmt t)
  have h1 := ht.len
  have h3 := ht.es
  have h5 := ht.dp
  have l1 : (" " : Str).length = 1 := by decide
  have e1 : eS (sg (" " : Str)) = 0 := by decide +kernel
  have key : ∀ s : Str, s ≠ "Fun" → isH s = true → Wo s → s.length ≤ 4 → eS (sg s) = 0 → 70 ∉ sg s → Bd (.con s [t]) (L + 7) (E + 3) (D + 2) := fun s n a b c d e => by
    have ef : fmt (.con s [t]) = s ++ " " ++ par (isAll t || argd t) (fmt t) := by
      rw [fmt_con n]; simp only [fmta]; rw [join_two, join_nil1]
    refine ⟨by simp only [Wf]; exact ⟨fun z => absurd z n, a, b, (wfs_iff _).mpr (by simp; exact ht.wf)⟩, ?_, ?_, ?_, ?_⟩
    · rw [ef]; simp only [len_app, l1]; omega
    · rw [ef]; simp only [sg_app, eS_app, e1, d]; omega
    · simp only [K03.dp, dps]; omega
    · rw [ef]; exact nF_app (nF_app e (by decide +kernel)) (nF_par ht.nF)
  rcases h with rfl | rfl
  · exact key _ (by decide) (by decide +kernel) (wo_letters (by decide +kernel) (by decide +kernel) (by decide +kernel) ⟨76, [105, 115, 116], by decide +kernel, by decide +kernel⟩) (by decide +kernel) (by decide +kernel) (by decide +kernel)
  · exact key _ (by decide) (by decide +kernel) (wo_letters (by decide +kernel) (by decide +kernel) (by decide +kernel) ⟨66, [111, 120], by decide +kernel, by decide +kernel⟩) (by decide +kernel) (by decide +kernel) (by decide +kernel)
theorem wo_tail : Wo "^r" := by
  refine ⟨by decide +kernel, by decide +kernel, fun r b => ?_⟩
  have h : nxt [94, 114] = some 2 := by decide +kernel
  have := nxt_loc h b
  have e : sg ("^r" : Str) = [94, 114] := by decide +kernel
  rw [e]
  exact this
theorem wo_a : Wo "a" := wo_letters (by decide +kernel) (by decide +kernel) (by decide +kernel) ⟨97, [], by decide +kernel, by decide +kernel⟩
theorem bd_all {s : Str} (h : s = "a" ∨ s = "^r") {t : T} {L E D : Nat} (ht : Bd t L E D) : Bd (.all s t) (L + 9) (E + 1) (D + 1) := by
  have h1 := ht.len
  have h3 := ht.es
  have h5 := ht.dp
  have l1 : ("all " : Str).length = 4 := by decide
  have l2 : (" . " : Str).length = 3 := by decide
  have e1 : eS (sg ("all " : Str)) = 0 := by decide +kernel
  have e2 : eS (sg (" . " : Str)) = 1 := by decide +kernel
  have key : ∀ s : Str, (isV s = true ∨ isTail s = true) → Wo s → s.length ≤ 2 → eS (sg s) = 0 → 70 ∉ sg s → Bd (.all s t) (L + 9) (E + 1) (D + 1) := fun s a b c d e => by
    refine ⟨by simp only [Wf]; exact ⟨a, b, ht.wf⟩, ?_, ?_, ?_, ?_⟩
    · simp only [fmt, len_app, l1, l2]; omega
    · simp only [fmt, sg_app, eS_app, e1, e2, d]; omega
    · simp only [K03.dp]; omega
    · simp only [fmt]; exact nF_app (nF_app (nF_app (by decide +kernel) e) (by decide +kernel)) ht.nF
  rcases h with rfl | rfl
  · exact key _ (.inl (by decide +kernel)) wo_a (by decide +kernel) (by decide +kernel) (by decide +kernel)
  · exact key _ (.inr (by decide +kernel)) wo_tail (by decide +kernel) (by decide +kernel) (by decide +kernel)
theorem es_join {a : Str} : ∀ l : List Str, eS (sg (Txt.join a l)) ≤ (l.map fun x => eS (sg x)).sum + l.length * eS (sg a)
  | [] => by
    have : sg (Txt.join a []) = [] := (by decide +kernel : sg ("" : Str) = [])
    rw [this]; exact Nat.zero_le _
  | [x] => by simp [join_nil1]
  | x :: y :: l => by
    have ih := es_join (a := a) (y :: l)
    rw [join_two, sg_app, sg_app, eS_app, eS_app]
    simp only [List.map_cons, List.sum_cons, List.length_cons, Nat.add_mul] at ih ⊢
    omega
theorem wo_key {s : Str} (h : s ∈ (["p", "q", "x"] : List Str)) : isV s = true ∧ Wo s ∧ s.length = 1 ∧ eS (sg s) = 0 ∧ 70 ∉ sg s := by
  simp only [List.mem_cons, List.not_mem_nil, or_false] at h
  rcases h with rfl | rfl | rfl
  · exact ⟨by decide +kernel, wo_letters (by decide +kernel) (by decide +kernel) (by decide +kernel) ⟨112, [], by decide +kernel, by decide +kernel⟩, by decide +kernel, by decide +kernel, by decide +kernel⟩
  · exact ⟨by decide +kernel, wo_letters (by decide +kernel) (by decide +kernel) (by decide +kernel) ⟨113, [], by decide +kernel, by decide +kernel⟩, by decide +kernel, by decide +kernel, by decide +kernel⟩
  · exact ⟨by decide +kernel, wo_letters (by decide +kernel) (by decide +kernel) (by decide +kernel) ⟨120, [], by decide +kernel, by decide +kernel⟩, by decide +kernel, by decide +kernel, by decide +kernel⟩
theorem bd_rcd {l : List (Str × T)} {tl : Option Str} {L E D : Nat} (hk : (l.map (·.1)).Sublist (["p", "q", "x"] : List Str)) (hl : ∀ e ∈ l, Bd e.2 L E D) (ht : tl = none ∨ tl = some ("^r" : Str)) : Bd (.rcd l tl) (3 * L + 23) (3 * E + 5) (D + 3) := by
  have n3 : l.length ≤ 3 := by have := hk.length_le; simpa using this
  have hm : ∀ e ∈ l, isV e.1 = true ∧ Wo e.1 ∧ e.1.length = 1 ∧ eS (sg e.1) = 0 ∧ 70 ∉ sg e.1 := fun e he => wo_key (hk.subset (List.mem_map_of_mem he))
  have l1 : ("{" : Str).length = 1 := by decide
  have l2 : ("}" : Str).length = 1 := by decide
  have l3 : (" | " : Str).length = 3 := by decide
  have l4 : ("^r" : Str).length = 2 := by decide
  have l5 : ("" : Str).length = 0 := by decide
  have l6 : (", " : Str).length = 2 := by decide
  have l7 : (" : " : Str).length = 3 := by decide
  have e1 : eS (sg ("{" : Str)) = 5 := by decide +kernel
  have e2 : eS (sg ("}" : Str)) = 0 := by decide +kernel
  have e3 : eS (sg (" | " : Str)) = 0 := by decide +kernel
  have e4 : eS (sg ("^r" : Str)) = 0 := by decide +kernel
  have e5 : eS (sg ("" : Str)) = 0 := by decide +kernel
  have e6 : eS (sg (", " : Str)) = 0 := by decide +kernel
  have e7 : eS (sg (" : " : Str)) = 0 := by decide +kernel
  have sl : ∀ l : List (Str × T), (∀ e ∈ l, e.1.length = 1 ∧ (fmt e.2).length ≤ L) → ((fmtf l).map (·.length)).sum + (fmtf l).length * 2 ≤ l.length * (L + 6) := by
    intro l
    induction l with
    | nil => intro _; simp [fmtf]
    | cons e l ih =>
      intro h
      obtain ⟨u, t⟩ := e
      have a := ih fun u hu => h u (List.mem_cons_of_mem _ hu)
      have b : u.length = 1 ∧ (fmt t).length ≤ L := h (u, t) (List.mem_cons_self ..)
      simp only [fmtf, List.map_cons, List.sum_cons, List.length_cons, len_app, l7, Nat.add_mul] at a b ⊢
      omega
  have sl := sl l fun e he => ⟨(hm e he).2.2.1, (hl e he).len⟩
  have se : ∀ l : List (Str × T), (∀ e ∈ l, eS (sg e.1) = 0 ∧ eS (sg (fmt e.2)) ≤ E) → ((fmtf l).map fun x => eS (sg x)).sum ≤ l.length * E := by
    intro l
    induction l with
    | nil => intro _; simp [fmtf]
    | cons e l ih =>
      intro h
      obtain ⟨u, t⟩ := e
      have a := ih fun u hu => h u (List.mem_cons_of_mem _ hu)
      have b : eS (sg u) = 0 ∧ eS (sg (fmt t)) ≤ E := h (u, t) (List.mem_cons_self ..)
      simp only [fmtf, List.map_cons, List.sum_cons, List.length_cons, sg_app, eS_app, e7, Nat.add_mul] at a b ⊢
      omega
  have se := se l fun e he => ⟨(hm e he).2.2.2.1, (hl e he).es⟩
  have m1 : l.length * (L + 6) ≤ 3 * (L + 6) := Nat.mul_le_mul_right _ n3
  have m2 : l.length * E ≤ 3 * E := Nat.mul_le_mul_right _ n3
  have jl : (Txt.join ", " (fmtf l)).length ≤ 3 * L + 16 := by
    cases l with
    | nil => have : (Txt.join ", " (fmtf [])).length = 0 := by simp only [fmtf]; decide +kernel
             omega
    | cons e l =>
      obtain ⟨u, t⟩ := e
      have := join_len ", " (u ++ " : " ++ fmt t) (fmtf l)
      simp only [fmtf] at sl ⊢
      rw [l6] at this
      omega
  have je : eS (sg (Txt.join ", " (fmtf l))) ≤ 3 * E := by
    have := es_join (a := ", ") (fmtf l)
    rw [e6] at this
    omega
  have jF : 70 ∉ sg (Txt.join ", " (fmtf l)) := by
    have key : ∀ l : List (Str × T), (∀ e ∈ l, 70 ∉ sg e.1 ∧ 70 ∉ sg (fmt e.2)) → ∀ x ∈ fmtf l, 70 ∉ sg x := by
      intro l h x hx
      rw [fmtf_eq] at hx
      obtain ⟨e, he, rfl⟩ := List.mem_map.mp hx
      exact nF_app (nF_app (h e he).1 (by decide +kernel)) (h e he).2
    have key := key l fun e he => ⟨(hm e he).2.2.2.2, (hl e he).nF⟩
    generalize fmtf l = m at key
    cases m with
    | nil => exact (by decide +kernel : 70 ∉ sg ("" : Str))
    | cons x m =>
      rw [sg_join]
      intro h
      rcases List.mem_append.mp h with h | h
      · exact key x (List.mem_cons_self ..) h
      · obtain ⟨y, hy, h⟩ := List.mem_flatMap.mp h
        rcases List.mem_append.mp h with h | h
        · revert h; decide +kernel
        · exact key y (List.mem_cons_of_mem _ hy) h
  have dd : ∀ l : List (Str × T), (∀ e ∈ l, K03.dp e.2 ≤ D) → dpf l ≤ D := by
    intro l
    induction l with
    | nil => intro _; simp [dpf]
    | cons e l ih =>
      intro h
      obtain ⟨u, t⟩ := e
      have a := ih fun u hu => h u (List.mem_cons_of_mem _ hu)
      have b : K03.dp t ≤ D := h (u, t) (List.mem_cons_self ..)
      simp only [dpf]
      omega
  have dd := dd l fun e he => (hl e he).dp
  have srt : sortG l = l := srt_fix (by
    have p : (["p", "q", "x"] : List Str).Pairwise fun a b => PL.tLt b a = false := by decide +kernel
    have q := p.sublist hk
    rw [List.pairwise_map] at q
    exact q)
  have nd : (l.map (·.1)).Nodup := List.Nodup.sublist hk (by decide +kernel)
  refine ⟨?_, ?_, ?_, ?_, ?_⟩
  · simp only [Wf]
    refine ⟨(wff_iff _).mpr fun e he => ⟨⟨(hm e he).1, (hm e he).2.1⟩, (hl e he).wf⟩, srt, nd, fun s hs => ?_⟩
    rcases ht with rfl | rfl
    · cases hs
    · cases hs; exact ⟨by decide +kernel, wo_tail⟩
  · rcases ht with rfl | rfl <;> simp only [fmt, len_app, l1, l2, l3, l4, l5] <;> omega
  · rcases ht with rfl | rfl <;> simp only [fmt, sg_app, eS_app, e1, e2, e3, e4, e5] <;> omega
  · simp only [K03.dp]; omega
  · rcases ht with rfl | rfl <;> simp only [fmt]
    · exact nF_app (nF_app (nF_app (by decide +kernel) jF) (by decide +kernel)) (by decide +kernel)
    · exact nF_app (nF_app (nF_app (by decide +kernel) jF) (by decide +kernel)) (by decide +kernel)
end K03
namespace K03
open PySem PySem.Spec L2 PL
/-! M34: the law's types, as they are made -/
theorem run_fun (A : Ads) (j : Nat) (p q : PV) : (FN A (j + 1))._law_fun [.pv p, .pv q] = .ok (.pv (.tup [.str "con", .str "Fun", .tup [p, q]]), []) := by
  show endF _ (m__law_fun A (FN A j) (startE 2 [.pv p, .pv q])) = _
  have hs : startE 2 [.pv p, .pv q] = [.pv p, .pv q] := by simp [startE, toSl]
  rw [hs]
  simp [m__law_fun, mSeq, mIf, mtB, mtOr, mtNot, mtV, mOp2, toP, mV, mC, mPeek, mVar, Pk.get, Sl.cnt, Own.pv, mSetC, gR, gN, thenS, mNext, trv_bl, mStrM, isStr, okIf, toA1, toA0, getC, fSw, mDropC, mRet, mRetC, mTup, endF, outs, getAll, Res.of, two_le, three_le, cALL, cCON, cREC, cVAR,  endF]
theorem run_int (A : Ads) (j : Nat) : (FN A (j + 1))._law_int [] = .ok (.pv (.tup [.str "con", .str "Int", .tup []]), []) := by
  show endF _ (m__law_int A (FN A j) (startE 0 [])) = _
  have hs : startE 0 [] = [] := by simp [startE]
  rw [hs]
  simp [m__law_int, mSeq, mIf, mtB, mtOr, mtNot, mtV, mOp2, toP, mV, mC, mPeek, mVar, Pk.get, Sl.cnt, Own.pv, mSetC, gR, gN, thenS, mNext, trv_bl, mStrM, isStr, okIf, toA1, toA0, getC, fSw, mDropC, mRet, mRetC, mTup, endF, outs, getAll, Res.of, two_le, three_le, cALL, cCON, cREC, cVAR,  endF]
theorem run_list (A : Ads) (j : Nat) (p : PV) : (FN A (j + 1))._law_list [.pv p] = .ok (.pv (.tup [.str "con", .str "List", .tup [p]]), []) := by
  show endF _ (m__law_list A (FN A j) (startE 1 [.pv p])) = _
  have hs : startE 1 [.pv p] = [.pv p] := by simp [startE, toSl]
  rw [hs]
  have one : 1 ≤ sizeLine := z6 (by omega)
  simp [m__law_list, mSeq, mIf, mtB, mtOr, mtNot, mtV, mOp2, toP, mV, mC, mPeek, mVar, Pk.get, Sl.cnt, Own.pv, mSetC, gR, gN, thenS, mNext, trv_bl, mStrM, isStr, okIf, toA1, toA0, getC, fSw, mDropC, mRet, mRetC, mTup, endF, outs, getAll, Res.of, two_le, three_le, cALL, cCON, cREC, cVAR,  endF, one]
theorem call2v {f : Fn} {p q : PV} {r : Rv} {os : List Own} {ρ : Ev} (h : f [.pv p, .pv q] = .ok (r, os)) : goCall 2 f [.val p, .val q] ρ = .ok (r, ρ) := by
  simp [goCall, toAgs, toAg, ownIx, h, updO]
abbrev nmP : PV := .lst [.str "a", .str "b"]
abbrev rwP : PV := .lst [.str "^r"]
abbrev tyF (o : Own) (size menu : Int) (x y : Sl) : Ev := [.own true o, .pv (.int size), .pv nmP, .pv rwP, .pv (.int menu), x, y]
def TySp (f : Fn) (size : Int) (L E D : Nat) : Prop := ∀ o, IsD o → ∃ t o', Bd t L E D ∧ IsD o' ∧ f [.own o, .pv (.int size), .pv nmP, .pv rwP] = .ok (.pv (enc t), [o'])
section
variable {A : Ads} {F : Fns}
def lfE (F : Fns) : ME := (mIfE (mtAnd (mtB (mOp2 fGt (toP (mFun fLen (toA1 (mPeek 2) toA0))) (toP (mC (.int 0))))) (mtB (mOp2 fGt (toP (mV (mCall 2 F._law_take (toA1 (mPeek 0) (toA1 (toP (mC (.int 3))) toA0))))) (toP (mC (.int 0)))))) (mTup (toA1 (toP (mC (.str "var"))) (toA1 (toP (mV (mCall 2 F._law_pick (toA1 (mPeek 0) (toA1 (toP (mVar 2)) toA0))))) toA0))) (mV (mCall 2 F._law_pick (toA1 (mPeek 0) (toA1 (toP (mLst (toA1 (toP (mTup (toA1 (toP (mC (.str "con"))) (toA1 (toP (mC (.str "Int"))) (toA1 (toP (mTup toA0)) toA0))))) (toA1 (toP (mTup (toA1 (toP (mC (.str "con"))) (toA1 (toP (mC (.str "Bool"))) (toA1 (toP (mTup toA0)) toA0))))) toA0)))) toA0)))))
theorem run_lf (tk : TkSp F._law_take) (pk : PkSp F._law_pick) {o : Own} (hd : IsD o) {size menu : Int} : ∃ t o', Bd t 4 0 2 ∧ IsD o' ∧ lfE F (tyF o size menu .no .no) = .ok (enc t, tyF o' size menu .no .no) := by
  obtain ⟨r, o1, h1, h2, h3⟩ := tk o 3 hd (by omega) (by omega)
  have h3 : F._law_take [.own o, .pv (.int 3)] = .ok (.pv (.int r), [o1]) := h3
  by_cases hr : 0 < r
  · obtain ⟨p, o2, k1, k2, k3⟩ := pk o1 [.str "a", .str "b"] h2 (by simp) (by simp)
    have hp : ∃ s : Str, (s = "a" ∨ s = "b") ∧ p = .str s := by
      simp only [List.mem_cons, List.not_mem_nil, or_false] at k1
      rcases k1 with rfl | rfl
      · exact ⟨_, .inl rfl, rfl⟩
      · exact ⟨_, .inr rfl, rfl⟩
    obtain ⟨s, hs, rfl⟩ := hp
    refine ⟨.var s, o2, bd_var hs, k2, ?_⟩
    have c1 := fun b ρ => call_d1 (b := b) (ρ := ρ) h3
    have c2 := fun b ρ => call_d1 (b := b) (ρ := ρ) k3
    simp only [enc]
    simp [lfE, tyF, mSeq, mIf, mtB, mtOr, mtNot, mtV, mOp2, toP, mV, mC, mPeek, mVar, Pk.get, Sl.cnt, Own.pv, mSetC, gR, gN, thenS, mNext, trv_bl, mStrM, isStr, okIf, toA1, toA0, getC, fSw, mDropC, mRet, mRetC, mTup, endF, outs, getAll, Res.of, two_le, three_le, cALL, cCON, cREC, cVAR,  mIfE, mtAnd, mFun, fLen, fGt, fCmp, mCall, c1, hr, c2]
  · obtain ⟨p, o2, k1, k2, k3⟩ := pk o1 [.tup [.str "con", .str "Int", .tup []], .tup [.str "con", .str "Bool", .tup []]] h2 (by simp) (by simp)
    have hp : ∃ s : Str, (s = "Int" ∨ s = "Bool") ∧ p = enc (.con s []) := by
      simp only [List.mem_cons, List.not_mem_nil, or_false] at k1
      simp only [enc, encs]
      rcases k1 with rfl | rfl
      · exact ⟨_, .inl rfl, rfl⟩
      · exact ⟨_, .inr rfl, rfl⟩
    obtain ⟨s, hs, rfl⟩ := hp
    refine ⟨.con s [], o2, bd_con hs, k2, ?_⟩
    have c1 := fun b ρ => call_d1 (b := b) (ρ := ρ) h3
    have c2 := fun b ρ => call_d1 (b := b) (ρ := ρ) k3
    simp [lfE, tyF, mSeq, mIf, mtB, mtOr, mtNot, mtV, mOp2, toP, mV, mC, mPeek, mVar, Pk.get, Sl.cnt, Own.pv, mSetC, gR, gN, thenS, mNext, trv_bl, mStrM, isStr, okIf, toA1, toA0, getC, fSw, mDropC, mRet, mRetC, mTup, endF, outs, getAll, Res.of, two_le, three_le, cALL, cCON, cREC, cVAR,  mIfE, mtAnd, mFun, fLen, fGt, fCmp, mCall, c1, hr, mLst, c2]
/-- one field, or none -/
def fdB (F : Fns) : MS := (mIf (mtB (mOp2 fEq (toP (mV (mCall 2 F._law_take (toA1 (mPeek 0) (toA1 (toP (mC (.int 2))) toA0))))) (toP (mC (.int 0)))))
  (mDrop (toP (mAppend (mPeek 5) (toA1 (toP (mTup (toA1 (toP (mVar 6)) (toA1 (toP (mV (mCall 4 F._law_type (toA1 (mPeek 0) (toA1 (toP (mOp2 fSub (mPeek 1) (toP (mC (.int 2))))) (toA1 (toP (mVar 2)) (toA1 (toP (mVar 3)) toA0))))))) toA0)))) toA0))))
  mNext)
theorem sub_int {a b : Int} : fSub (.int a) (.int b) = some (.int (a - b)) := by simp [fSub, fInt]
theorem run_fd (tk : TkSp F._law_take) {size menu : Int} {L E D : Nat} (ty : TySp F._law_type (size - 2) L E D) {o : Own} (hd : IsD o) {acc : List (Str × T)} (ha : acc.length < 100) (hb : ∀ e ∈ acc, Bd e.2 L E D) {u : Str} :
    ∃ acc' o', IsD o' ∧ (∀ e ∈ acc', Bd e.2 L E D) ∧ (acc' = acc ∨ ∃ t, acc' = acc ++ [(u, t)]) ∧ fdB F (tyF o size menu (.own false (.lst (encf acc))) (.pv (.str u))) = .ok (.nx, tyF o' size menu (.own false (.lst (encf acc'))) (.pv (.str u))) := by
  obtain ⟨r, o1, h1, h2, h3⟩ := tk o 2 hd (by omega) (by omega)
  have h3 : F._law_take [.own o, .pv (.int 2)] = .ok (.pv (.int r), [o1]) := h3
  have c1 := fun b ρ => call_d1 (b := b) (ρ := ρ) h3
  by_cases hr : r = 0
  · subst hr
    obtain ⟨t, o2, k1, k2, k3⟩ := ty o1 h2
    have c2 := fun b ρ => call_d3 (b := b) (ρ := ρ) k3
    refine ⟨acc ++ [(u, t)], o2, k2, fun e he => ?_, .inr ⟨t, rfl⟩, ?_⟩
    · rcases List.mem_append.mp he with he | he
      · exact hb e he
      · obtain rfl := List.mem_singleton.mp he
        exact k1
    · have le : (encf acc).length < sizeLine := by rw [encf_map, List.length_map]; exact z2000 (by omega)
      have ee : encf (acc ++ [(u, t)]) = encf acc ++ [.tup [.str u, enc t]] := by rw [encf_map, encf_map, List.map_append]; rfl
      rw [ee]
      refine (if_t (ρ1 := tyF o1 size menu (.own false (.lst (encf acc))) (.pv (.str u))) (by simp [tyF, mSeq, mIf, mtB, mtOr, mtNot, mtV, mOp2, toP, mV, mC, mPeek, mVar, Pk.get, Sl.cnt, Own.pv, mSetC, gR, gN, thenS, mNext, trv_bl, mStrM, isStr, okIf, toA1, toA0, getC, fSw, mDropC, mRet, mRetC, mTup, endF, outs, getAll, Res.of, two_le, three_le, cALL, cCON, cREC, cVAR,  mCall, c1, eq_int])).trans ?_
      simp [tyF, mSeq, mIf, mtB, mtOr, mtNot, mtV, mOp2, toP, mV, mC, mPeek, mVar, Pk.get, Sl.cnt, Own.pv, mSetC, gR, gN, thenS, mNext, trv_bl, mStrM, isStr, okIf, toA1, toA0, getC, fSw, mDropC, mRet, mRetC, mTup, endF, outs, getAll, Res.of, two_le, three_le, cALL, cCON, cREC, cVAR,  mDrop, mAppend, isLstAt, mCall, sub_int, c2, appAt, le]
  · refine ⟨acc, o1, h2, hb, .inl rfl, ?_⟩
    have hr' : ¬ (r : Int) = 0 := by omega
    exact if_f (by simp [tyF, mSeq, mIf, mtB, mtOr, mtNot, mtV, mOp2, toP, mV, mC, mPeek, mVar, Pk.get, Sl.cnt, Own.pv, mSetC, gR, gN, thenS, mNext, trv_bl, mStrM, isStr, okIf, toA1, toA0, getC, fSw, mDropC, mRet, mRetC, mTup, endF, outs, getAll, Res.of, two_le, three_le, cALL, cCON, cREC, cVAR,  mCall, c1, eq_int, hr])
theorem run_fds (tk : TkSp F._law_take) {size menu : Int} {L E D : Nat} (ty : TySp F._law_type (size - 2) L E D) : ∀ (us : List Str) (o : Own) (acc : List (Str × T)) (x : Sl), pvno x → IsD o → acc.length + us.length < 100 → (∀ e ∈ acc, Bd e.2 L E D) →
    ∃ acc' o' x', IsD o' ∧ (∀ e ∈ acc', Bd e.2 L E D) ∧ (∃ vs : List Str, vs.Sublist us ∧ acc'.map (·.1) = acc.map (·.1) ++ vs) ∧
      loopF (gN 6) (fdB F) (us.map .str) (tyF o size menu (.own false (.lst (encf acc))) x) = .ok (.nx, tyF o' size menu (.own false (.lst (encf acc'))) x')
  | [], o, acc, x, hx, hd, hl, hb => ⟨acc, o, x, hd, hb, ⟨[], List.Sublist.refl _, by simp⟩, rfl⟩
  | u :: us, o, acc, x, hx, hd, hl, hb => by
    obtain ⟨a1, o1, h1, h2, h3, h4⟩ := run_fd tk (menu := menu) ty hd (by omega) hb (u := u)
    have l1 : a1.length ≤ acc.length + 1 := by
      rcases h3 with rfl | ⟨t, rfl⟩
      · omega
      · simp
    obtain ⟨a2, o2, x2, k1, k2, ⟨vs, k3, k4⟩, k5⟩ := run_fds tk (menu := menu) ty us o1 a1 (.pv (.str u)) (.inr ⟨_, rfl⟩) h1 (by simp at hl; omega) h2
    refine ⟨a2, o2, x2, k1, k2, ?_, ?_⟩
    · rcases h3 with rfl | ⟨t, rfl⟩
      · exact ⟨vs, k3.cons _, k4⟩
      · exact ⟨u :: vs, k3.cons_cons _, by rw [k4]; simp⟩
    · rcases hx with rfl | ⟨x, rfl⟩ <;> (simp only [tyF] at h4 k5 ⊢; simp [loopF, gN, h4, stepW, k5])
end
end K03
namespace K03
open PySem PySem.Spec L2 PL
/-! M35: the law's types, all of it -/
section
variable {A : Ads} {F : Fns}
theorem run_ty (tk : TkSp F._law_take) (pk : PkSp F._law_pick) (lf : ∀ p q, F._law_fun [.pv p, .pv q] = .ok (.pv (.tup [.str "con", .str "Fun", .tup [p, q]]), [])) {size : Int} {L E D L1 E1 D1 L2 E2 D2 : Nat}
    (hs : size ≤ 0 ∨ (TySp F._law_type (size - 1) L1 E1 D1 ∧ TySp F._law_type (size - 2) L2 E2 D2))
    (hL : 4 ≤ L ∧ 2 * L1 + 6 ≤ L ∧ L1 + 7 ≤ L ∧ 3 * L2 + 23 ≤ L) (hE : 2 * E1 + 5 ≤ E ∧ E1 + 3 ≤ E ∧ 3 * E2 + 5 ≤ E) (hD : 2 ≤ D ∧ D1 + 2 ≤ D ∧ D2 + 3 ≤ D) :
    TySp (fnBody 7 (m__law_type A F)) size L E D := by
  intro o hd
  obtain ⟨r, o1, h1, h2, h3⟩ := tk o 8 hd (by omega) (by omega)
  have h3 : F._law_take [.own o, .pv (.int 8)] = .ok (.pv (.int r), [o1]) := h3
  have c1 := fun b ρ => call_d1 (b := b) (ρ := ρ) h3
  have hst : startE 7 [.own o, .pv (.int size), .pv nmP, .pv rwP] = [.own true o, .pv (.int size), .pv nmP, .pv rwP, .no, .no, .no] := by simp [startE, toSl]
  have hF : ∀ (o' : Own) (ρ : Ev) (p : PV), endF [.own o, .pv (.int size), .pv nmP, .pv rwP] (.ok (.rt (.pv p), .own true o' :: .pv (.int size) :: .pv nmP :: .pv rwP :: ρ)) = .ok (.pv p, [o']) := fun o' ρ p => by
    simp [endF, outs]
  have key : ∃ t o' ρ, Bd t L E D ∧ IsD o' ∧ m__law_type A F [.own true o, .pv (.int size), .pv nmP, .pv rwP, .no, .no, .no] = .ok (.rt (.pv (enc t)), .own true o' :: .pv (.int size) :: .pv nmP :: .pv rwP :: ρ) := by
    have s1 : mSetC 4 (mCall 2 F._law_take (toA1 (mPeek 0) (toA1 (toP (mC (.int 8))) toA0))) [.own true o, .pv (.int size), .pv nmP, .pv rwP, .no, .no, .no] = .ok (.nx, tyF o1 size r .no .no) := by simp [mSeq, mIf, mtB, mtOr, mtNot, mtV, mOp2, toP, mV, mC, mPeek, mVar, Pk.get, Sl.cnt, Own.pv, mSetC, gR, gN, thenS, mNext, trv_bl, mStrM, isStr, okIf, toA1, toA0, getC, fSw, mDropC, mRet, mRetC, mTup, endF, outs, getAll, Res.of, two_le, three_le, cALL, cCON, cREC, cVAR,  mCall, c1, tyF]
    unfold m__law_type
    rw [seq_nx s1]
    by_cases ha : size ≤ 0 ∨ (r : Int) < 3
    · obtain ⟨t, o2, k1, k2, k3⟩ := run_lf (F := F) tk pk h2 (size := size) (menu := r)
      refine ⟨t, o2, [.pv (.int r), .no, .no], k1.mono (by omega) (by omega) (by omega), k2, ?_⟩
      refine seq_rt ?_
      refine (if_t (ρ1 := tyF o1 size r .no .no) ?_).trans (ret_n k3)
      by_cases hz : size ≤ 0
      · simp [tyF, mSeq, mIf, mtB, mtOr, mtNot, mtV, mOp2, toP, mV, mC, mPeek, mVar, Pk.get, Sl.cnt, Own.pv, mSetC, gR, gN, thenS, mNext, trv_bl, mStrM, isStr, okIf, toA1, toA0, getC, fSw, mDropC, mRet, mRetC, mTup, endF, outs, getAll, Res.of, two_le, three_le, cALL, cCON, cREC, cVAR,  fLe, fLt, fCmp, hz]
      · have hr : (r : Int) < 3 := by omega
        have hr' : r < 3 := by omega
        simp [tyF, mSeq, mIf, mtB, mtOr, mtNot, mtV, mOp2, toP, mV, mC, mPeek, mVar, Pk.get, Sl.cnt, Own.pv, mSetC, gR, gN, thenS, mNext, trv_bl, mStrM, isStr, okIf, toA1, toA0, getC, fSw, mDropC, mRet, mRetC, mTup, endF, outs, getAll, Res.of, two_le, three_le, cALL, cCON, cREC, cVAR,  fLe, fLt, fCmp, hz, hr, hr']
    · have hz : ¬ size ≤ 0 := fun z => ha (.inl z)
      have hr : ¬ (r : Int) < 3 := fun z => ha (.inr z)
      have hr' : ¬ r < 3 := by omega
      obtain ⟨ty1, ty2⟩ := hs.resolve_left hz
      have s2 : (mtOr (mtB (mOp2 fLe (mPeek 1) (toP (mC (.int 0))))) (mtB (mOp2 fLt (mPeek 4) (toP (mC (.int 3)))))) (tyF o1 size r .no .no) = .ok (false, tyF o1 size r .no .no) := by simp [tyF, mSeq, mIf, mtB, mtOr, mtNot, mtV, mOp2, toP, mV, mC, mPeek, mVar, Pk.get, Sl.cnt, Own.pv, mSetC, gR, gN, thenS, mNext, trv_bl, mStrM, isStr, okIf, toA1, toA0, getC, fSw, mDropC, mRet, mRetC, mTup, endF, outs, getAll, Res.of, two_le, three_le, cALL, cCON, cREC, cVAR,  fLe, fLt, fCmp, hz, hr, hr']
      rw [seq_nx (if_n s2)]
      by_cases h5 : (r : Int) < 5
      · obtain ⟨t, o2, k1, k2, k3⟩ := ty1 o1 h2
        obtain ⟨u, o3, j1, j2, j3⟩ := ty1 o2 k2
        have c2 := fun b ρ => call_d3 (b := b) (ρ := ρ) k3
        have c3 := fun b ρ => call_d3 (b := b) (ρ := ρ) j3
        have c4 := fun ρ => call2v (ρ := ρ) (lf (enc t) (enc u))
        refine ⟨.con "Fun" [t, u], o3, [.pv (.int r), .no, .no], (bd_fun k1 j1).mono (by omega) (by omega) (by omega), j2, ?_⟩
        have h5' : r < 5 := by omega
        refine seq_rt ?_
        refine (if_t (ρ1 := tyF o1 size r .no .no) (by simp [tyF, mSeq, mIf, mtB, mtOr, mtNot, mtV, mOp2, toP, mV, mC, mPeek, mVar, Pk.get, Sl.cnt, Own.pv, mSetC, gR, gN, thenS, mNext, trv_bl, mStrM, isStr, okIf, toA1, toA0, getC, fSw, mDropC, mRet, mRetC, mTup, endF, outs, getAll, Res.of, two_le, three_le, cALL, cCON, cREC, cVAR,  fLt, fCmp, h5, h5'])).trans ?_
        simp only [enc, encs]
        simp [tyF, mSeq, mIf, mtB, mtOr, mtNot, mtV, mOp2, toP, mV, mC, mPeek, mVar, Pk.get, Sl.cnt, Own.pv, mSetC, gR, gN, thenS, mNext, trv_bl, mStrM, isStr, okIf, toA1, toA0, getC, fSw, mDropC, mRet, mRetC, mTup, endF, outs, getAll, Res.of, two_le, three_le, cALL, cCON, cREC, cVAR,  mCall, sub_int, c2, c3, c4]
      · have h5' : ¬ r < 5 := by omega
        have s3 : (mtB (mOp2 fLt (mPeek 4) (toP (mC (.int 5))))) (tyF o1 size r .no .no) = .ok (false, tyF o1 size r .no .no) := by simp [tyF, mSeq, mIf, mtB, mtOr, mtNot, mtV, mOp2, toP, mV, mC, mPeek, mVar, Pk.get, Sl.cnt, Own.pv, mSetC, gR, gN, thenS, mNext, trv_bl, mStrM, isStr, okIf, toA1, toA0, getC, fSw, mDropC, mRet, mRetC, mTup, endF, outs, getAll, Res.of, two_le, three_le, cALL, cCON, cREC, cVAR,  fLt, fCmp, h5, h5']
        rw [seq_nx (if_n s3)]
        by_cases h6 : (r : Int) = 5
        · have h6' : r = 5 := by omega
          obtain ⟨p, o2, k1, k2, k3⟩ := pk o1 [.str "List", .str "Box"] h2 (by simp) (by simp)
          have hp : ∃ s : Str, (s = "List" ∨ s = "Box") ∧ p = .str s := by
            simp only [List.mem_cons, List.not_mem_nil, or_false] at k1
            rcases k1 with rfl | rfl
            · exact ⟨_, .inl rfl, rfl⟩
            · exact ⟨_, .inr rfl, rfl⟩
          obtain ⟨s, hss, rfl⟩ := hp
          obtain ⟨u, o3, j1, j2, j3⟩ := ty1 o2 k2
          have c2 := fun b ρ => call_d1 (b := b) (ρ := ρ) k3
          have c3 := fun b ρ => call_d3 (b := b) (ρ := ρ) j3
          have one : 1 ≤ sizeLine := z6 (by omega)
          refine ⟨.con s [u], o3, [.pv (.int r), .no, .no], (bd_app hss j1).mono (by omega) (by omega) (by omega), j2, ?_⟩
          refine seq_rt ?_
          refine (if_t (ρ1 := tyF o1 size r .no .no) (by simp [tyF, mSeq, mIf, mtB, mtOr, mtNot, mtV, mOp2, toP, mV, mC, mPeek, mVar, Pk.get, Sl.cnt, Own.pv, mSetC, gR, gN, thenS, mNext, trv_bl, mStrM, isStr, okIf, toA1, toA0, getC, fSw, mDropC, mRet, mRetC, mTup, endF, outs, getAll, Res.of, two_le, three_le, cALL, cCON, cREC, cVAR,  eq_int, h6, h6'])).trans ?_
          simp only [enc, encs]
          simp [tyF, mSeq, mIf, mtB, mtOr, mtNot, mtV, mOp2, toP, mV, mC, mPeek, mVar, Pk.get, Sl.cnt, Own.pv, mSetC, gR, gN, thenS, mNext, trv_bl, mStrM, isStr, okIf, toA1, toA0, getC, fSw, mDropC, mRet, mRetC, mTup, endF, outs, getAll, Res.of, two_le, three_le, cALL, cCON, cREC, cVAR,  mCall, mLst, one, sub_int, c2, c3]
        · have h6' : ¬ r = 5 := by omega
          have s4 : (mtB (mOp2 fEq (mPeek 4) (toP (mC (.int 5))))) (tyF o1 size r .no .no) = .ok (false, tyF o1 size r .no .no) := by simp [tyF, mSeq, mIf, mtB, mtOr, mtNot, mtV, mOp2, toP, mV, mC, mPeek, mVar, Pk.get, Sl.cnt, Own.pv, mSetC, gR, gN, thenS, mNext, trv_bl, mStrM, isStr, okIf, toA1, toA0, getC, fSw, mDropC, mRet, mRetC, mTup, endF, outs, getAll, Res.of, two_le, three_le, cALL, cCON, cREC, cVAR,  eq_int, h6, h6']
          rw [seq_nx (if_n s4)]
          have s5 : mSetL 5 toA0 (tyF o1 size r .no .no) = .ok (.nx, tyF o1 size r (.own false (.lst (encf []))) .no) := by simp [tyF, mSeq, mIf, mtB, mtOr, mtNot, mtV, mOp2, toP, mV, mC, mPeek, mVar, Pk.get, Sl.cnt, Own.pv, mSetC, gR, gN, thenS, mNext, trv_bl, mStrM, isStr, okIf, toA1, toA0, getC, fSw, mDropC, mRet, mRetC, mTup, endF, outs, getAll, Res.of, two_le, three_le, cALL, cCON, cREC, cVAR,  mSetL, gO, encf]
          rw [seq_nx s5]
          obtain ⟨acc, o2, x, k1, k2, ⟨vs, k3, k4⟩, k5⟩ := run_fds (F := F) tk (menu := r) ty2 ["p", "q", "x"] o1 [] .no (.inl rfl) h2 (by simp) (fun e he => nomatch he)
          have la : (encf acc).length < sizeLine := by
            have : (acc.map (·.1)).length = vs.length := by rw [k4]; simp
            have l3 : vs.length ≤ 3 := by have := k3.length_le; simpa using this
            rw [encf_map, List.length_map]
            rw [List.length_map] at this
            exact z2000 (by omega)
          have s6 : mForT (mTup (toA1 (toP (mC (.str "p"))) (toA1 (toP (mC (.str "q"))) (toA1 (toP (mC (.str "x"))) toA0)))) (gN 6) (fdB F) (tyF o1 size r (.own false (.lst (encf []))) .no) = .ok (.nx, tyF o2 size r (.own false (.lst (encf acc))) x) := by
            refine Eq.trans ?_ k5
            simp [mSeq, mIf, mtB, mtOr, mtNot, mtV, mOp2, toP, mV, mC, mPeek, mVar, Pk.get, Sl.cnt, Own.pv, mSetC, gR, gN, thenS, mNext, trv_bl, mStrM, isStr, okIf, toA1, toA0, getC, fSw, mDropC, mRet, mRetC, mTup, endF, outs, getAll, Res.of, two_le, three_le, cALL, cCON, cREC, cVAR,  mForT, tyF]
          unfold fdB at s6
          rw [seq_nx s6]
          obtain ⟨p, o3, j1, j2, j3⟩ := pk o2 [.non, .str "^r"] k1 (by simp) (by simp)
          have hp : ∃ tl : Option Str, (tl = none ∨ tl = some ("^r" : Str)) ∧ p = tlP tl := by
            simp only [List.mem_cons, List.not_mem_nil, or_false] at j1
            rcases j1 with rfl | rfl
            · exact ⟨none, .inl rfl, rfl⟩
            · exact ⟨some "^r", .inr rfl, rfl⟩
          obtain ⟨tl, ht, rfl⟩ := hp
          have c2 := fun b ρ => call_d1 (b := b) (ρ := ρ) j3
          have one : 1 ≤ sizeLine := z6 (by omega)
          have al : fAdd (.lst [.non]) (.lst [.str "^r"]) = some (.lst [.non, .str "^r"]) := by simp [fAdd, two_le]
          have sub : (acc.map (·.1)).Sublist (["p", "q", "x"] : List Str) := by rw [k4]; simpa using k3
          refine ⟨.rcd acc tl, o3, [.pv (.int r), .own false (.lst (encf acc)), x], (bd_rcd sub k2 ht).mono (by omega) (by omega) (by omega), j2, ?_⟩
          rw [encR]
          simp [tyF, mSeq, mIf, mtB, mtOr, mtNot, mtV, mOp2, toP, mV, mC, mPeek, mVar, Pk.get, Sl.cnt, Own.pv, mSetC, gR, gN, thenS, mNext, trv_bl, mStrM, isStr, okIf, toA1, toA0, getC, fSw, mDropC, mRet, mRetC, mTup, endF, outs, getAll, Res.of, two_le, three_le, cALL, cCON, cREC, cVAR,  mCall, mFun, fTupOf, fListOf, mLst, one, al, c2]
  obtain ⟨t, o', ρ, k1, k2, k3⟩ := key
  refine ⟨t, o', k1, k2, ?_⟩
  show endF _ (m__law_type A F (startE 7 _)) = _
  rw [hst, k3]
  exact hF o' ρ _
end
theorem ty0 (A : Ads) (j : Nat) {size : Int} (h : size ≤ 0) : TySp (FN A (j + 3))._law_type size 4 0 2 := by
  intro o hd
  obtain ⟨r, o1, h1, h2, h3⟩ := run_take A (j + 1) o 8 hd (by omega) (by omega)
  have h3 : (FN A (j + 2))._law_take [.own o, .pv (.int 8)] = .ok (.pv (.int r), [o1]) := h3
  have c1 := fun b ρ => call_d1 (b := b) (ρ := ρ) h3
  have hst : startE 7 [.own o, .pv (.int size), .pv nmP, .pv rwP] = [.own true o, .pv (.int size), .pv nmP, .pv rwP, .no, .no, .no] := by simp [startE, toSl]
  have s1 : mSetC 4 (mCall 2 (FN A (j + 2))._law_take (toA1 (mPeek 0) (toA1 (toP (mC (.int 8))) toA0))) [.own true o, .pv (.int size), .pv nmP, .pv rwP, .no, .no, .no] = .ok (.nx, tyF o1 size r .no .no) := by simp [mSeq, mIf, mtB, mtOr, mtNot, mtV, mOp2, toP, mV, mC, mPeek, mVar, Pk.get, Sl.cnt, Own.pv, mSetC, gR, gN, thenS, mNext, trv_bl, mStrM, isStr, okIf, toA1, toA0, getC, fSw, mDropC, mRet, mRetC, mTup, endF, outs, getAll, Res.of, two_le, three_le, cALL, cCON, cREC, cVAR,  mCall, c1, tyF]
  obtain ⟨t, o2, k1, k2, k3⟩ := run_lf (F := FN A (j + 2)) (run_take A (j + 1)) (run_pick A j) h2 (size := size) (menu := r)
  refine ⟨t, o2, k1, k2, ?_⟩
  show endF _ (m__law_type A (FN A (j + 2)) (startE 7 _)) = _
  rw [hst]
  unfold m__law_type
  rw [seq_nx s1]
  refine (congrArg (endF _) (seq_rt ((if_t (ρ1 := tyF o1 size r .no .no) (by simp [tyF, mSeq, mIf, mtB, mtOr, mtNot, mtV, mOp2, toP, mV, mC, mPeek, mVar, Pk.get, Sl.cnt, Own.pv, mSetC, gR, gN, thenS, mNext, trv_bl, mStrM, isStr, okIf, toA1, toA0, getC, fSw, mDropC, mRet, mRetC, mTup, endF, outs, getAll, Res.of, two_le, three_le, cALL, cCON, cREC, cVAR,  fLe, fCmp, h])).trans (ret_n k3)))).trans ?_
  simp [endF, outs, tyF]
theorem ty3 (A : Ads) (j : Nat) : TySp (FN A (j + 6))._law_type 3 158 35 9 := by
  have t1 : TySp (FN A (j + 4))._law_type 1 35 5 5 := run_ty (F := FN A (j + 3)) (run_take A (j + 2)) (run_pick A (j + 1)) (run_fun A (j + 2)) (.inr ⟨ty0 A j (by omega), ty0 A j (by omega)⟩) (by omega) (by omega) (by omega)
  have t1' : TySp (FN A (j + 5))._law_type 1 35 5 5 := run_ty (F := FN A (j + 4)) (run_take A (j + 3)) (run_pick A (j + 2)) (run_fun A (j + 3)) (.inr ⟨ty0 A (j + 1) (by omega), ty0 A (j + 1) (by omega)⟩) (by omega) (by omega) (by omega)
  have t2 : TySp (FN A (j + 5))._law_type 2 76 15 7 := run_ty (F := FN A (j + 4)) (run_take A (j + 3)) (run_pick A (j + 2)) (run_fun A (j + 3)) (.inr ⟨t1, ty0 A (j + 1) (by omega)⟩) (by omega) (by omega) (by omega)
  exact run_ty (F := FN A (j + 5)) (run_take A (j + 4)) (run_pick A (j + 3)) (run_fun A (j + 4)) (.inr ⟨t2, t1'⟩) (by omega) (by omega) (by omega)
end K03
namespace K03
open PySem PySem.Spec L2 PL
/-! M36: the law's beginning; what is known -/
theorem begin_loop {A : Ads} {p0 : PV} : ∀ (ns : List Int) (s : Int) (x : Sl), pvno x → ∃ (s' : Int) (x' : Sl), loopF (gN 2) (mAsg (mOp2 fMod (toP (mOp2 fAdd (toP (mOp2 fAdd (toP (mOp2 fMul (mPeek 1) (toP (mC (.int 69621))))) (toP (mOp2 fMod (toP (mFun fInt1 (toA1 (mPeek 2) toA0))) (toP (mC (.int 2147483629))))))) (toP (mC (.int 7))))) (toP (mC (.int 2147483647)))) (gN 1)) (ns.map .int) [.pv p0, .pv (.int s), x] = .ok (.nx, [.pv p0, .pv (.int s'), x'])
  | [], s, x, hx => ⟨s, x, by simp [loopF]⟩
  | n :: ns, s, x, hx => by
    have mu : fMul (.int s) (.int 69621) = some (.int (s * 69621)) := by simp [fMul, fInt]
    have m1 : fMod (.int n) (.int 2147483629) = some (.int (n % 2147483629)) := by simp [fMod, fInt]
    have m2 : ∀ i : Int, fMod (.int i) (.int 2147483647) = some (.int (i % 2147483647)) := fun i => by simp [fMod, fInt]
    obtain ⟨s', x', ih⟩ := begin_loop (A := A) (p0 := p0) ns ((s * 69621 + n % 2147483629 + 7) % 2147483647) (.pv (.int n)) (.inr ⟨_, rfl⟩)
    refine ⟨s', x', ?_⟩
    have tn : (mAsg (mOp2 fMod (toP (mOp2 fAdd (toP (mOp2 fAdd (toP (mOp2 fMul (mPeek 1) (toP (mC (.int 69621))))) (toP (mOp2 fMod (toP (mFun fInt1 (toA1 (mPeek 2) toA0))) (toP (mC (.int 2147483629))))))) (toP (mC (.int 7))))) (toP (mC (.int 2147483647)))) (gN 1)) [.pv p0, .pv (.int s), .pv (.int n)] = .ok (.nx, [.pv p0, .pv (.int ((s * 69621 + n % 2147483629 + 7) % 2147483647)), .pv (.int n)]) := by
      simp [mSeq, mIf, mtB, mtOr, mtNot, mtV, mOp2, toP, mV, mC, mPeek, mVar, Pk.get, Sl.cnt, Own.pv, mSetC, gR, gN, thenS, mNext, trv_bl, mStrM, isStr, okIf, toA1, toA0, getC, fSw, mDropC, mRet, mRetC, mTup, endF, outs, getAll, Res.of, two_le, three_le, cALL, cCON, cREC, cVAR,  mAsg, mFun, fInt1, mu, m1, m2, addI]
    rcases hx with rfl | ⟨x, rfl⟩ <;> (simp only [List.map_cons, loopF, gN]; simp [tn, stepW, ih])
theorem run_begin (A : Ads) (j : Nat) (ns : List Int) : ∃ s, (FN A (j + 1))._law_begin [.pv (.scr (ns.map .int))] = .ok (.own (dL ns 0 0 s), []) := by
  obtain ⟨s, x, h⟩ := begin_loop (A := A) (p0 := .scr (ns.map .int)) ns 1 .no (.inl rfl)
  refine ⟨s, ?_⟩
  show endF _ (m__law_begin A (FN A j) (startE 3 [.pv (.scr (ns.map .int))])) = _
  have hs : startE 3 [.pv (.scr (ns.map .int))] = [.pv (.scr (ns.map .int)), .no, .no] := by simp [startE, toSl]
  rw [hs]
  unfold m__law_begin
  have s1 : mAsg (mC (.int 1)) (gN 1) [.pv (.scr (ns.map .int)), .no, .no] = .ok (.nx, [.pv (.scr (ns.map .int)), .pv (.int 1), .no]) := by simp [mSeq, mIf, mtB, mtOr, mtNot, mtV, mOp2, toP, mV, mC, mPeek, mVar, Pk.get, Sl.cnt, Own.pv, mSetC, gR, gN, thenS, mNext, trv_bl, mStrM, isStr, okIf, toA1, toA0, getC, fSw, mDropC, mRet, mRetC, mTup, endF, outs, getAll, Res.of, two_le, three_le, cALL, cCON, cREC, cVAR,  mAsg]
  rw [seq_nx s1]
  refine (congrArg (endF _) (seq_nx (ρ1 := [.pv (.scr (ns.map .int)), .pv (.int s), x]) (Eq.trans ?_ h))).trans ?_
  · simp [mForL, mSeq, mIf, mtB, mtOr, mtNot, mtV, mOp2, toP, mV, mC, mPeek, mVar, Pk.get, Sl.cnt, Own.pv, mSetC, gR, gN, thenS, mNext, trv_bl, mStrM, isStr, okIf, toA1, toA0, getC, fSw, mDropC, mRet, mRetC, mTup, endF, outs, getAll, Res.of, two_le, three_le, cALL, cCON, cREC, cVAR,  mVar]
  · have z : 4 ≤ sizeLine := z6 (by omega)
    simp [mSeq, mIf, mtB, mtOr, mtNot, mtV, mOp2, toP, mV, mC, mPeek, mVar, Pk.get, Sl.cnt, Own.pv, mSetC, gR, gN, thenS, mNext, trv_bl, mStrM, isStr, okIf, toA1, toA0, getC, fSw, mDropC, mRet, mRetC, mTup, endF, outs, getAll, Res.of, two_le, three_le, cALL, cCON, cREC, cVAR,  mRetL, mFun, fListOf, z, dL]
theorem wo_of {s : Str} (h1 : Ok s) (h2 : s.length ≤ 1000) (h3 : nxt (sg s) = some s.length) : Wo s := by
  refine ⟨h1, h2, fun r b => ?_⟩
  cases hs : sg s with
  | nil => rw [hs] at h3; cases h3
  | cons c q =>
    rw [hs] at h3
    have e : (c :: q).take s.length = c :: q := by
      have : s.length = (c :: q).length := by rw [← hs]; rfl
      rw [this, List.take_length]
    have := nxt_loc h3 b
    rwa [e] at this
def woB (s : Str) : Bool := PyData.strOk s && decide (s.length ≤ 1000) && decide (nxt (sg s) = some s.length)
theorem woB_s {s : Str} (h : woB s = true) : Wo s := by
  unfold woB at h
  simp only [Bool.and_eq_true, decide_eq_true_eq] at h
  exact wo_of h.1.1 h.1.2 h.2
mutual
def wfB : T → Bool
  | .var s => isV s && woB s
  | .con s l => (decide (s ≠ "Fun") || decide (l.length = 2)) && isH s && woB s && wfBs l
  | .rcd l tl => wfBf l && decide ((l.map (·.1)).Pairwise fun a b => PL.tLt b a = false) && decide (l.map (·.1)).Nodup && (match tl with | some s => isTail s && woB s | none => true)
  | .all s t => (isV s || isTail s) && woB s && wfB t
def wfBs : List T → Bool
  | [] => true
  | t :: r => wfB t && wfBs r
def wfBf : List (Str × T) → Bool
  | [] => true
  | (k, t) :: r => isV k && woB k && wfB t && wfBf r
end
theorem wfB_s (t : T) : wfB t = true → Wf t := by
  induction t using T.ind with
  | hv s => intro h; simp only [wfB, Bool.and_eq_true] at h; simp only [Wf]; exact ⟨h.1, woB_s h.2⟩
  | ha s t ih => intro h; simp only [wfB, Bool.and_eq_true, Bool.or_eq_true] at h; simp only [Wf]; exact ⟨h.1.1, woB_s h.1.2, ih h.2⟩
  | hc s l ih =>
    intro h
    simp only [wfB, Bool.and_eq_true, Bool.or_eq_true, decide_eq_true_eq] at h
    simp only [Wf]
    refine ⟨fun z => h.1.1.1.resolve_left fun k => k z, h.1.1.2, woB_s h.1.2, ?_⟩
    have h2 := h.2
    clear h
    induction l with
    | nil => exact trivial
    | cons t l ih2 =>
      simp only [wfBs, Bool.and_eq_true] at h2
      simp only [Wfs]
      exact ⟨ih t (List.mem_cons_self ..) h2.1, ih2 (fun u hu => ih u (List.mem_cons_of_mem _ hu)) h2.2⟩
  | hr l tl ih =>
    intro h
    simp only [wfB, Bool.and_eq_true, decide_eq_true_eq] at h
    obtain ⟨⟨⟨h1, h2⟩, h3⟩, h4⟩ := h
    simp only [Wf]
    refine ⟨?_, srt_fix (List.pairwise_map.mp h2), h3, fun s hs => ?_⟩
    · clear h2 h3
      induction l with
      | nil => exact trivial
      | cons e l ih2 =>
        obtain ⟨k, t⟩ := e
        simp only [wfBf, Bool.and_eq_true] at h1
        simp only [Wff]
        exact ⟨⟨h1.1.1.1, woB_s h1.1.1.2⟩, ih (k, t) (List.mem_cons_self ..) h1.1.2, ih2 (fun u hu => ih u (List.mem_cons_of_mem _ hu)) h1.2⟩
    · subst hs
      simp only [Bool.and_eq_true] at h4
      exact ⟨h4.1, woB_s h4.2⟩
/-! ### texts of which the answer is known -/
def ans (s : Str) : Option (Str × Nat) := match tok 1000 (sg s) 0 with
  | .err m => some ("sign", m)
  | .ok ws => match (pAt ws 219).w 0 with
    | .err m => some ("form", m)
    | .ok _ m => if hd ws m = "" then none else some ("form", m)
    | .bad => none
  | .bad => none
theorem ans_err {A : Ads} {s c : Str} {m : Nat} (ok : Ok s) (hl : s.length ≤ 600) (h : ans s = some (c, m)) : (FN A 224)._law_told [.pv (.str s)] = .ok (.pv (.tup [.str c, .int m]), []) := by
  refine run_told_err (j := 223) ?_
  have p := run_parse A 219 hl ok
  unfold ans at h
  cases hk : tok 1000 (sg s) 0 with
  | bad => rw [hk] at h; cases h
  | err k => rw [hk] at h p; cases h; exact p
  | ok ws =>
    rw [hk] at h p
    dsimp only at h p
    cases hp : (pAt ws 219).w 0 with
    | bad => rw [hp] at h; cases h
    | err k => rw [hp] at h p; cases h; exact p
    | ok t k =>
      rw [hp] at h p
      dsimp only at h p
      by_cases hm : hd ws k = ""
      · rw [if_pos hm] at h; cases h
      · rw [if_neg hm] at h p; cases h; exact p
def ans2 (s : Str) : Option Str := match tok 1000 (sg s) 0 with
  | .ok ws => match (pAt ws 219).w 0 with
    | .ok t m => if hd ws m = "" then some (fmt t) else none
    | _ => none
  | _ => none
theorem told_fmt {A : Ads} {t : T} (w : Wf t) (hl : (fmt t).length ≤ 600) (hk : eW (fw t) ≤ 200) : (FN A 224)._law_told [.pv (.str (fmt t))] = .ok (.pv (enc t), []) :=
  run_told_ok (j := 223) (read_fmt (k := 219) w hl (by omega))
theorem ans_ok {A : Ads} {s : Str} {t0 : T} (ok : Ok s) (hl : s.length ≤ 150) (hF : 70 ∉ sg s) (he : eS (sg s) ≤ 100) (w0 : Wf t0) (hk0 : 4 + eW (fw t0) ≤ 219) (h : ans2 s = some (fmt t0)) : (FN A 224)._law_told [.pv (.str s)] = .ok (.pv (enc t0), []) := by
  refine run_told_ok (j := 223) ?_
  have p := run_parse A 219 (s := s) (by omega) ok
  have q := parse_any (A := A) (k := 219) ok (by omega) hF (by omega)
  unfold ans2 at h
  cases hk : tok 1000 (sg s) 0 with
  | bad => rw [hk] at h; cases h
  | err k => rw [hk] at h; cases h
  | ok ws =>
    rw [hk] at h p
    dsimp only at h p
    cases hp : (pAt ws 219).w 0 with
    | bad => rw [hp] at h; cases h
    | err k => rw [hp] at h; cases h
    | ok t k =>
      rw [hp] at h p
      dsimp only at h p
      by_cases hm : hd ws k = ""
      · rw [if_pos hm] at h p
        have h : fmt t = fmt t0 := Option.some.inj h
        rw [p]
        have ms := tok_ms 1000 (sg s) 0 ws hk (of_ok ok) (by rw [sg_len]; omega) hF
        have tw := tok_wds 1000 (sg s) 0 ws hk (of_ok ok) (by rw [sg_len]; omega)
        rw [sg_len] at ms tw
        have wok : WsOk ws := ⟨ms.1, by omega⟩
        have e0 : eN ws 0 = eW ws := by simp [eN]
        have q1 := (sd4 (v := wl) wok 219).w 0 (Nat.zero_le _) (by rw [e0]; omega)
        have q2 := (sd4 (v := wE) wok 219).w 0 (Nat.zero_le _) (by rw [e0]; omega)
        rw [hp] at q1 q2
        obtain ⟨_, _, wt, _, k5⟩ := q1
        obtain ⟨_, _, _, _, j5⟩ := q2
        have f := fmt_len t wt
        have k5 : vW wl (fw t) + 0 + vN wl ws k ≤ vN wl ws 0 := k5
        have e1 : vN wl ws 0 = gW ws := by simp [vN, vW, gW]
        have j5 : vW wE (fw t) + 0 + vN wE ws k ≤ vN wE ws 0 := j5
        have e2 : vN wE ws 0 = eW ws := by simp [vN, vW, eW]
        have e3 : vW wE (fw t) = eW (fw t) := rfl
        have rt := read_fmt (A := A) (k := 219) wt (by omega) (by omega)
        have tk := tk_ms (tk_fmt t0 w0 [] [] brk_nil .nil)
        rw [List.append_nil, List.append_nil, ← h] at tk
        have tk' := tk_ms (tk_fmt t wt [] [] brk_nil .nil)
        rw [List.append_nil, List.append_nil] at tk'
        have r0 := read_fmt (A := A) (k := 219) w0 (by rw [← h]; omega) hk0
        rw [← h, rt] at r0
        injection r0 with r0
        injection r0 with r0
        rw [r0]
      · rw [if_neg hm] at h; cases h
end K03
namespace K03
open PySem PySem.Spec L2 PL
/-! M37: what is known, what is wrong -/
def tvA : T := .var "a"
def k1 : List (Str × T) := [("a -> b -> a", .con "Fun" [tvA, .con "Fun" [.var "b", tvA]]), ("(a -> a) -> List (List Int)", .con "Fun" [.con "Fun" [tvA, tvA], .con "List" [.con "List" [.con "Int" []]]])]
def k2 : List (Str × T) := [("{}", .rcd [] none), ("{ | ^r}", .rcd [] (some "^r")), ("{x : a, y : {} | ^^0}", .rcd [("x", tvA), ("y", .rcd [] none)] (some "^^0"))]
def k3 : List (Str × T) := [("all a . all ^r . a", .all "a" (.all "^r" tvA)), ("Pair a {x : Int}", .con "Pair" [tvA, .rcd [("x", .con "Int" [])] none])]
def kn : List (Str × T) := k1 ++ k2 ++ k3
def ke (e : Str × T) : PV := .tup [.str e.1, enc e.2]
def w1 : List (Str × Str × Nat) := [("", "form", 0), ("a ->", "form", 2), ("(a", "form", 2), ("a b", "form", 1), ("{x a}", "form", 2), ("{x : a, }", "form", 5)]
def w2 : List (Str × Str × Nat) := [("{x : a, x : a}", "form", 5), ("{x : a | y}", "form", 5), ("all . a", "form", 1), ("a ; b", "sign", 2), ("Int ->-> a", "form", 2)]
def w3 : List (Str × Str × Nat) := [("{^r}", "form", 1), ("^r", "form", 0)]
def wr : List (Str × Str × Nat) := w1 ++ w2 ++ w3
def we (e : Str × Str × Nat) : PV := .tup [.str e.1, .tup [.str e.2.1, .int e.2.2]]
def knB (e : Str × T) : Bool := wfB e.2 && decide (fmt e.2 = e.1) && decide (dp e.2 ≤ 60) && decide ((fmt e.2).length ≤ 600) && decide (eW (fw e.2) ≤ 200)
theorem kn_all : kn.all knB = true := by decide +kernel
def wrB (e : Str × Str × Nat) : Bool := PyData.strOk e.1 && PyData.strOk e.2.1 && decide (e.1.length ≤ 600) && decide (ans e.1 = some (e.2.1, e.2.2))
theorem wr_all : wr.all wrB = true := by decide +kernel
def tYX : T := .rcd [("x", .var "b"), ("y", tvA)] none
theorem yx_ok : ans2 "{y : a,x:b}" = some (fmt tYX) := by decide +kernel
theorem fmt_ok {A : Ads} {t : T} (w : Wf t) (h : dp t ≤ 200) (hl : (fmt t).length ≤ 600) : (FN A 224).format_type [.pv (enc t)] = .ok (.pv (.str (fmt t)), []) := run_fmt 224 t w (by omega) (by omega)
section
variable {A : Ads}
def bK (F : Fns) : MS := (mIf (mtOr (mtB (mOp2 fNe (toP (mV (mCall 1 F.format_type (toA1 (toP (mVar 5)) toA0)))) (mPeek 4))) (mtB (mOp2 fNe (toP (mV (mCall 1 F._law_told (toA1 (toP (mVar 4)) toA0)))) (mPeek 5))))
  (mRet (mC (.bl false)))
  mNext)
theorem run_bK {t : T} (w : Wf t) (hd : dp t ≤ 60) (hl : (fmt t).length ≤ 600) (hk : eW (fw t) ≤ 200) {s0 s1 s2 s3 : Sl} {r : Ev} : bK (FN A 224) (s0 :: s1 :: s2 :: s3 :: .pv (.str (fmt t)) :: .pv (enc t) :: r) = .ok (.nx, s0 :: s1 :: s2 :: s3 :: .pv (.str (fmt t)) :: .pv (enc t) :: r) := by
  have c1 := fun ρ => call1 (ρ := ρ) (fmt_ok (A := A) w (by omega) hl)
  have c2 := fun ρ => call1 (ρ := ρ) (told_fmt (A := A) w hl hk)
  have n1 : fNe (.str (fmt t)) (.str (fmt t)) = some (.bl false) := by rw [ne_str (wf_ok t w) (wf_ok t w)]; simp
  have n2 : fNe (enc t) (enc t) = some (.bl false) := ne_self ((sh_enc t w).mono (by omega))
  refine if_n ?_
  simp [mSeq, mIf, mtB, mtOr, mtNot, mtV, mOp2, toP, mV, mC, mPeek, mVar, Pk.get, Sl.cnt, Own.pv, mSetC, gR, gN, thenS, mNext, trv_bl, mStrM, isStr, okIf, toA1, toA0, getC, fSw, mDropC, mRet, mRetC, mTup, endF, outs, getAll, Res.of, two_le, three_le, cALL, cCON, cREC, cVAR,  mCall, c1, c2, n1, n2]
theorem loop_K : ∀ (l : List (Str × T)), (∀ e ∈ l, knB e = true) → ∀ {s0 s1 s2 s3 x y : Sl} {r : Ev}, pvno x → pvno y →
    ∃ x' y', pvno x' ∧ pvno y' ∧ loopF (gTupM 2 (gsCons (gN 4) (gsCons (gN 5) gsNil))) (bK (FN A 224)) (l.map ke) (s0 :: s1 :: s2 :: s3 :: x :: y :: r) = .ok (.nx, s0 :: s1 :: s2 :: s3 :: x' :: y' :: r)
  | [], _, s0, s1, s2, s3, x, y, r, hx, hy => ⟨x, y, hx, hy, rfl⟩
  | e :: l, h, s0, s1, s2, s3, x, y, r, hx, hy => by
    have h0 := h e (List.mem_cons_self ..)
    unfold knB at h0
    simp only [Bool.and_eq_true, decide_eq_true_eq] at h0
    obtain ⟨⟨⟨⟨a1, a2⟩, a3⟩, a4⟩, a5⟩ := h0
    obtain ⟨x', y', hx', hy', ih⟩ := loop_K l (fun u hu => h u (List.mem_cons_of_mem _ hu)) (s0 := s0) (s1 := s1) (s2 := s2) (s3 := s3) (x := .pv (.str e.1)) (y := .pv (enc e.2)) (r := r) (.inr ⟨_, rfl⟩) (.inr ⟨_, rfl⟩)
    refine ⟨x', y', hx', hy', ?_⟩
    have b := run_bK (A := A) (wfB_s _ a1) a3 a4 a5 (s0 := s0) (s1 := s1) (s2 := s2) (s3 := s3) (r := r)
    rw [a2] at b
    have g : gTupM 2 (gsCons (gN 4) (gsCons (gN 5) gsNil)) (ke e) (s0 :: s1 :: s2 :: s3 :: x :: y :: r) = some (s0 :: s1 :: s2 :: s3 :: .pv (.str e.1) :: .pv (enc e.2) :: r) := by
      rcases hx with rfl | ⟨x, rfl⟩ <;> rcases hy with rfl | ⟨y, rfl⟩ <;> simp [ke, gTupM, gsCons, gsNil, gN]
    simp only [List.map_cons, loopF, g, Res.of_some, Res.ok_bind, b, stepW, ih]
theorem bls_f {α : Type} : ∀ l : List α, fAny [.lst (l.map fun _ => PV.bl false)] = some (.bl false) := by
  intro l
  have h : bls (l.map fun _ => PV.bl false) = some (l.map fun _ => false) := by
    induction l with
    | nil => rfl
    | cons a l ih => simp [bls, ih]
  simp only [fAny, h, Option.map_some]
  congr 2
  simp
end
end K03
namespace K03
open PySem PySem.Spec L2 PL
/-! M38: the law's loops -/
theorem cut_take {s : Str} {a : Nat} : sg (cutS s none (some (a : Int))) = (sg s).take a := by
  have e : HT.sIx s.length s.length (some (a : Int)) = min a s.length := HT.sIx_nat _ _ _
  have e0 : HT.sIx s.length 0 none = 0 := rfl
  have l : s.cps.toList.length = s.length := rfl
  have l0 : (sg s).length = s.length := rfl
  simp [cutS, e, e0]
  by_cases h : a ≤ s.length
  · rw [Nat.min_eq_left h]
  · rw [Nat.min_eq_right (by omega), List.take_of_length_le (by omega), List.take_of_length_le (by omega)]
theorem cut_drop {s : Str} {a : Nat} : sg (cutS s (some (a : Int)) none) = (sg s).drop a := by
  have e : HT.sIx s.length 0 (some (a : Int)) = min a s.length := HT.sIx_nat _ _ _
  have e0 : HT.sIx s.length s.length none = s.length := rfl
  have l : s.cps.toList.length = s.length := rfl
  have l0 : (sg s).length = s.length := rfl
  simp [cutS, e, e0]
  by_cases h : a ≤ s.length
  · rw [Nat.min_eq_left h, List.take_of_length_le (by rw [List.length_drop]; omega)]
  · rw [Nat.min_eq_right (by omega), List.drop_eq_nil_of_le (by omega), List.drop_eq_nil_of_le (by omega)]
    simp
structure Bt (s : Str) (L E : Nat) : Prop where
  ok : Ok s
  len : s.length ≤ L
  es : eS (sg s) ≤ E
  nF : 70 ∉ sg s
theorem bt_of {s : Str} {l : List Nat} {L E : Nat} (h : sg s = l) (h1 : ∀ c ∈ l, c < 1114112) (h2 : l.length ≤ L) (h3 : eS l ≤ E) (h4 : 70 ∉ l) : Bt s L E := by
  subst h
  exact ⟨ok_of h1, h2, h3, h4⟩
def signs : List Str := ["a", "(", ")", "{", "}", "|", ":", ",", " ", "I", "^", "."]
theorem signs_ok : ∀ s ∈ signs, Bt s 1 5 := by
  have h : signs.all (fun s => PyData.strOk s && decide (s.length ≤ 1) && decide (eS (sg s) ≤ 5) && decide (70 ∉ sg s)) = true := by decide +kernel
  intro s hs
  have := List.all_eq_true.mp h s hs
  simp only [Bool.and_eq_true, decide_eq_true_eq] at this
  exact ⟨this.1.1.1, this.1.1.2, this.1.2, this.2⟩
theorem es_split (l : List Nat) (a : Nat) : eS (l.take a) + eS (l.drop a) = eS l := by rw [← eS_app, List.take_append_drop]
theorem es_drop1 (l : List Nat) (a : Nat) : eS (l.drop (a + 1)) ≤ eS (l.drop a) := by
  have h := es_split (l.drop a) 1
  rw [List.drop_drop] at h
  omega
theorem bent_ok {s g : Str} {L E a : Nat} (h : Bt s L E) (hg : Bt g 1 5) : ∀ b ∈ [cutS s none (some (a : Int)) ++ g ++ cutS s (some (a : Int)) none, cutS s none (some (a : Int)) ++ cutS s (some ((a + 1 : Nat) : Int)) none, cutS s none (some (a : Int)) ++ g ++ cutS s (some ((a + 1 : Nat) : Int)) none], Bt b (L + 1) (E + 5) := by
  have i1 := of_ok h.ok
  have i2 := of_ok hg.ok
  have l1 : ((sg s).take a).length + ((sg s).drop a).length = s.length := by rw [← List.length_append, List.take_append_drop]; rfl
  have l2 : ((sg s).drop (a + 1)).length ≤ ((sg s).drop a).length := by rw [List.length_drop, List.length_drop]; omega
  have l3 : (sg g).length ≤ 1 := hg.len
  have e1 := es_split (sg s) a
  have e2 := es_drop1 (sg s) a
  have h2 := h.len
  have h3 := h.es
  have g3 := hg.es
  intro b hb
  simp only [List.mem_cons, List.not_mem_nil, or_false] at hb
  have mt : ∀ c, c ∈ (sg s).take a → c ∈ sg s := fun c => List.mem_of_mem_take
  have md : ∀ n c, c ∈ (sg s).drop n → c ∈ sg s := fun n c => List.mem_of_mem_drop
  rcases hb with rfl | rfl | rfl
  · refine bt_of (by rw [sg_app, sg_app, cut_take, cut_drop]) (fun c hc => ?_) (by simp only [List.length_append]; omega) (by simp only [eS_app]; omega) (fun hc => ?_)
    · rcases List.mem_append.mp hc with hc | hc
      · rcases List.mem_append.mp hc with hc | hc
        · exact i1 c (mt c hc)
        · exact i2 c hc
      · exact i1 c (md _ c hc)
    · rcases List.mem_append.mp hc with hc | hc
      · rcases List.mem_append.mp hc with hc | hc
        · exact h.nF (mt _ hc)
        · exact hg.nF hc
      · exact h.nF (md _ _ hc)
  · refine bt_of (by rw [sg_app, cut_take, cut_drop]) (fun c hc => ?_) (by simp only [List.length_append]; omega) (by simp only [eS_app]; omega) (fun hc => ?_)
    · rcases List.mem_append.mp hc with hc | hc
      · exact i1 c (mt c hc)
      · exact i1 c (md _ c hc)
    · rcases List.mem_append.mp hc with hc | hc
      · exact h.nF (mt _ hc)
      · exact h.nF (md _ _ hc)
  · refine bt_of (by rw [sg_app, sg_app, cut_take, cut_drop]) (fun c hc => ?_) (by simp only [List.length_append]; omega) (by simp only [eS_app]; omega) (fun hc => ?_)
    · rcases List.mem_append.mp hc with hc | hc
      · rcases List.mem_append.mp hc with hc | hc
        · exact i1 c (mt c hc)
        · exact i2 c hc
      · exact i1 c (md _ c hc)
    · rcases List.mem_append.mp hc with hc | hc
      · rcases List.mem_append.mp hc with hc | hc
        · exact h.nF (mt _ hc)
        · exact hg.nF hc
      · exact h.nF (md _ _ hc)
section
variable {A : Ads} {F : Fns}
/-- a type is wrapped -/
def bW (F : Fns) : MS := (mSetC 5 (mCall 2 F._law_pick (toA1 (mPeek 1) (toA1 (toP (mLst (toA1 (toP (mTup (toA1 (toP (mC (.str "all"))) (toA1 (toP (mC (.str "a"))) (toA1 (toP (mVar 5)) toA0))))) (toA1 (toP (mTup (toA1 (toP (mC (.str "all"))) (toA1 (toP (mC (.str "^r"))) (toA1 (toP (mVar 5)) toA0))))) (toA1 (toP (mV (mCall 2 F._law_fun (toA1 (toP (mVar 5)) (toA1 (toP (mVar 2)) toA0))))) (toA1 (toP (mV (mCall 1 F._law_list (toA1 (toP (mVar 5)) toA0)))) toA0)))))) toA0))))
theorem bd_a {L E D : Nat} (h1 : 4 ≤ L) (h2 : 2 ≤ D) : Bd tvA L E D := (bd_var (.inl rfl)).mono h1 (Nat.zero_le _) h2
theorem bd_fa {t : T} {L E D : Nat} (h : Bd t L E D) : Bd (.con "Fun" [t, tvA]) (L + 9) (E + 5) (D + 2) := by
  have ha : Bd tvA 1 0 1 := by
    have b := bd_var (s := "a") (.inl rfl)
    exact ⟨b.wf, by simp only [tvA, fmt]; decide +kernel, b.es, by simp only [tvA, dp]; omega, b.nF⟩
  have l1 : (" -> " : Str).length = 4 := by decide
  have e1 : eS (sg (" -> " : Str)) = 2 := by decide +kernel
  have p1 := par_len (isAll t || isFun t) (fmt t)
  have p2 : (if (isAll t || isFun t) = true then 2 else 0) ≤ 2 := by split <;> omega
  have p3 := es_par (isAll t || isFun t) (fmt t)
  have a1 := ha.len
  have a2 := ha.es
  have a3 := ha.dp
  have b1 := h.len
  have b2 := h.es
  have b3 := h.dp
  have big := bd_fun (h.mono (Nat.le_max_left L 1) (Nat.le_max_left E 0) (Nat.le_max_left D 1)) (ha.mono (Nat.le_max_right L 1) (Nat.le_max_right E 0) (Nat.le_max_right D 1))
  refine ⟨big.wf, ?_, ?_, ?_, big.nF⟩
  · rw [fmt_fun]; simp only [len_app, l1]; omega
  · rw [fmt_fun]; simp only [sg_app, eS_app, e1]; omega
  · have d1 := dp_pos t
    simp only [K03.dp, dps]; omega
theorem run_bW (pk : PkSp F._law_pick) (lf : ∀ p q, F._law_fun [.pv p, .pv q] = .ok (.pv (.tup [.str "con", .str "Fun", .tup [p, q]]), [])) (ll : ∀ p, F._law_list [.pv p] = .ok (.pv (.tup [.str "con", .str "List", .tup [p]]), [])) {o : Own} (hd : IsD o) {t : T} {L E D : Nat} (ht : Bd t L E D) {s0 s3 s4 : Sl} {r : Ev} :
    ∃ t' o', Bd t' (L + 9) (E + 5) (D + 2) ∧ IsD o' ∧ bW F (s0 :: .own false o :: .pv (enc tvA) :: s3 :: s4 :: .pv (enc t) :: r) = .ok (.nx, s0 :: .own false o' :: .pv (enc tvA) :: s3 :: s4 :: .pv (enc t') :: r) := by
  obtain ⟨p, o1, h1, h2, h3⟩ := pk o [enc (.all "a" t), enc (.all "^r" t), enc (.con "Fun" [t, tvA]), enc (.con "List" [t])] hd (by simp) (by simp)
  have hp : ∃ t', Bd t' (L + 9) (E + 5) (D + 2) ∧ p = enc t' := by
    simp only [List.mem_cons, List.not_mem_nil, or_false] at h1
    rcases h1 with rfl | rfl | rfl | rfl
    · exact ⟨_, (bd_all (.inl rfl) ht).mono (by omega) (by omega) (by omega), rfl⟩
    · exact ⟨_, (bd_all (.inr rfl) ht).mono (by omega) (by omega) (by omega), rfl⟩
    · exact ⟨_, bd_fa ht, rfl⟩
    · exact ⟨_, (bd_app (.inl rfl) ht).mono (by omega) (by omega) (by omega), rfl⟩
  obtain ⟨t', hb, rfl⟩ := hp
  refine ⟨t', o1, hb, h2, ?_⟩
  have c1 := fun ρ => call2v (ρ := ρ) (lf (enc t) (enc tvA))
  have c2 := fun ρ => call1 (ρ := ρ) (ll (enc t))
  have c3 := fun b x ρ => call_e1 (b := b) (x := x) (ρ := ρ) h3
  have four : 4 ≤ sizeLine := z6 (by omega)
  have e1 : enc (.all "a" t) = .tup [.str "all", .str "a", enc t] := by simp [enc]
  have e2 : enc (.all "^r" t) = .tup [.str "all", .str "^r", enc t] := by simp [enc]
  have e3 : enc (.con "Fun" [t, tvA]) = .tup [.str "con", .str "Fun", .tup [enc t, enc tvA]] := by simp [enc, encs]
  have e4 : enc (.con "List" [t]) = .tup [.str "con", .str "List", .tup [enc t]] := by simp [enc, encs]
  rw [e1, e2, e3, e4] at c3
  simp [bW, mSeq, mIf, mtB, mtOr, mtNot, mtV, mOp2, toP, mV, mC, mPeek, mVar, Pk.get, Sl.cnt, Own.pv, mSetC, gR, gN, thenS, mNext, trv_bl, mStrM, isStr, okIf, toA1, toA0, getC, fSw, mDropC, mRet, mRetC, mTup, endF, outs, getAll, Res.of, two_le, three_le, cALL, cCON, cREC, cVAR,  mCall, mLst, four, c1, c2, c3]
theorem loop_W (pk : PkSp F._law_pick) (lf : ∀ p q, F._law_fun [.pv p, .pv q] = .ok (.pv (.tup [.str "con", .str "Fun", .tup [p, q]]), [])) (ll : ∀ p, F._law_list [.pv p] = .ok (.pv (.tup [.str "con", .str "List", .tup [p]]), [])) :
    ∀ (l : List PV) (o : Own) (t : T) (L E D : Nat) {s0 s3 s4 s6 s7 : Sl} {r : Ev}, IsD o → Bd t L E D → pvno s7 →
    ∃ t' o' s7', Bd t' (L + 9 * l.length) (E + 5 * l.length) (D + 2 * l.length) ∧ IsD o' ∧ loopF (gN 7) (bW F) l (s0 :: .own false o :: .pv (enc tvA) :: s3 :: s4 :: .pv (enc t) :: s6 :: s7 :: r) = .ok (.nx, s0 :: .own false o' :: .pv (enc tvA) :: s3 :: s4 :: .pv (enc t') :: s6 :: s7' :: r)
  | [], o, t, L, E, D, s0, s3, s4, s6, s7, r, hd, hb, h7 => ⟨t, o, s7, hb, hd, rfl⟩
  | p :: l, o, t, L, E, D, s0, s3, s4, s6, s7, r, hd, hb, h7 => by
    obtain ⟨t1, o1, h1, h2, h3⟩ := run_bW pk lf ll hd hb (s0 := s0) (s3 := s3) (s4 := s4) (r := s6 :: .pv p :: r)
    obtain ⟨t2, o2, x2, j1, j2, j3⟩ := loop_W pk lf ll l o1 t1 (L + 9) (E + 5) (D + 2) (s0 := s0) (s3 := s3) (s4 := s4) (s6 := s6) (s7 := .pv p) (r := r) h2 h1 (.inr ⟨_, rfl⟩)
    refine ⟨t2, o2, x2, j1.mono (by simp only [List.length_cons]; omega) (by simp only [List.length_cons]; omega) (by simp only [List.length_cons]; omega), j2, ?_⟩
    have g : gN 7 p (s0 :: .own false o :: .pv (enc tvA) :: s3 :: s4 :: .pv (enc t) :: s6 :: s7 :: r) = some (s0 :: .own false o :: .pv (enc tvA) :: s3 :: s4 :: .pv (enc t) :: s6 :: .pv p :: r) := by
      rcases h7 with rfl | ⟨x, rfl⟩ <;> simp [gN]
    simp only [loopF, g, Res.of_some, Res.ok_bind, h3, stepW, j3]
end
end K03
namespace K03
open PySem PySem.Spec L2 PL
/-! M39: one changed text -/
section
variable {A : Ads} {F : Fns}
def tB : MT := (mtAnd (mtB (mOp2 fEq (toP (mFun fLen (toA1 (mPeek 12) toA0))) (toP (mC (.int 2))))) (mtB (mOp2 (fIn false) (toP (mOp2 fIx (mPeek 12) (toP (mC (.int 0))))) (toP (mTup (toA1 (toP (mC (.str "form"))) (toA1 (toP (mC (.str "sign"))) toA0)))))))
theorem tB_ok {t : T} {ρ : Ev} (h : ρ[12]? = some (.pv (enc t))) : tB ρ = .ok (false, ρ) := by
  cases t with
  | var s =>
    simp only [enc] at h
    have e1 : (("var" : Str) == ("form" : Str)) = false := by decide
    have e2 : (("var" : Str) == ("sign" : Str)) = false := by decide
    have e1' : (("form" : Str) == ("var" : Str)) = false := by decide
    have e2' : (("sign" : Str) == ("var" : Str)) = false := by decide
    simp [tB, mSeq, mIf, mtB, mtOr, mtNot, mtV, mOp2, toP, mV, mC, mPeek, mVar, Pk.get, Sl.cnt, Own.pv, mSetC, gR, gN, thenS, mNext, trv_bl, mStrM, isStr, okIf, toA1, toA0, getC, fSw, mDropC, mRet, mRetC, mTup, endF, outs, getAll, Res.of, two_le, three_le, cALL, cCON, cREC, cVAR,  mtAnd, mFun, fLen, h, eq_int, ix0, fIn, inP, sca, eqS, e1, e2, e1', e2']
  | con s l =>
    simp only [enc] at h
    simp [tB, mSeq, mIf, mtB, mtOr, mtNot, mtV, mOp2, toP, mV, mC, mPeek, mVar, Pk.get, Sl.cnt, Own.pv, mSetC, gR, gN, thenS, mNext, trv_bl, mStrM, isStr, okIf, toA1, toA0, getC, fSw, mDropC, mRet, mRetC, mTup, endF, outs, getAll, Res.of, two_le, three_le, cALL, cCON, cREC, cVAR,  mtAnd, mFun, fLen, h, eq_int]
  | rcd l tl =>
    rw [encR] at h
    simp [tB, mSeq, mIf, mtB, mtOr, mtNot, mtV, mOp2, toP, mV, mC, mPeek, mVar, Pk.get, Sl.cnt, Own.pv, mSetC, gR, gN, thenS, mNext, trv_bl, mStrM, isStr, okIf, toA1, toA0, getC, fSw, mDropC, mRet, mRetC, mTup, endF, outs, getAll, Res.of, two_le, three_le, cALL, cCON, cREC, cVAR,  mtAnd, mFun, fLen, h, eq_int]
  | all s u =>
    simp only [enc] at h
    simp [tB, mSeq, mIf, mtB, mtOr, mtNot, mtV, mOp2, toP, mV, mC, mPeek, mVar, Pk.get, Sl.cnt, Own.pv, mSetC, gR, gN, thenS, mNext, trv_bl, mStrM, isStr, okIf, toA1, toA0, getC, fSw, mDropC, mRet, mRetC, mTup, endF, outs, getAll, Res.of, two_le, three_le, cALL, cCON, cREC, cVAR,  mtAnd, mFun, fLen, h, eq_int]
theorem tB_err {c : Str} {m : Nat} (hc : c = "form" ∨ c = "sign") {ρ : Ev} (h : ρ[12]? = some (.pv (.tup [.str c, .int m]))) : tB ρ = .ok (true, ρ) := by
  rcases hc with rfl | rfl
  · simp [tB, mSeq, mIf, mtB, mtOr, mtNot, mtV, mOp2, toP, mV, mC, mPeek, mVar, Pk.get, Sl.cnt, Own.pv, mSetC, gR, gN, thenS, mNext, trv_bl, mStrM, isStr, okIf, toA1, toA0, getC, fSw, mDropC, mRet, mRetC, mTup, endF, outs, getAll, Res.of, two_le, three_le, cALL, cCON, cREC, cVAR,  mtAnd, mFun, fLen, h, eq_int, ix0, fIn, inP, sca, eqS]
  · have e1 : (("form" : Str) == ("sign" : Str)) = false := by decide
    have e2 : (("sign" : Str) == ("form" : Str)) = false := by decide
    simp [tB, mSeq, mIf, mtB, mtOr, mtNot, mtV, mOp2, toP, mV, mC, mPeek, mVar, Pk.get, Sl.cnt, Own.pv, mSetC, gR, gN, thenS, mNext, trv_bl, mStrM, isStr, okIf, toA1, toA0, getC, fSw, mDropC, mRet, mRetC, mTup, endF, outs, getAll, Res.of, two_le, three_le, cALL, cCON, cREC, cVAR,  mtAnd, mFun, fLen, h, eq_int, ix0, fIn, inP, sca, eqS, e1, e2]
def bB (F : Fns) : MS := (mSeq (mSetC 9 (mCall 2 F._law_take (toA1 (mPeek 1) (toA1 (toP (mOp2 fAdd (toP (mFun fLen (toA1 (mPeek 4) toA0))) (toP (mC (.int 1))))) toA0))))
  (mSeq (mSetC 10 (mCall 2 F._law_pick (toA1 (mPeek 1) (toA1 (toP (mLst (toA1 (toP (mC (.str "a"))) (toA1 (toP (mC (.str "("))) (toA1 (toP (mC (.str ")"))) (toA1 (toP (mC (.str "{"))) (toA1 (toP (mC (.str "}"))) (toA1 (toP (mC (.str "|"))) (toA1 (toP (mC (.str ":"))) (toA1 (toP (mC (.str ","))) (toA1 (toP (mC (.str " "))) (toA1 (toP (mC (.str "I"))) (toA1 (toP (mC (.str "^"))) (toA1 (toP (mC (.str "."))) toA0)))))))))))))) toA0))))
  (mSeq (mSetC 11 (mCall 2 F._law_pick (toA1 (mPeek 1) (toA1 (toP (mLst (toA1 (toP (mOp2 fAdd (toP (mOp2 fAdd (toP (mSlice (mPeek 4) moN (moS (mPeek 9)))) (mPeek 10))) (toP (mSlice (mPeek 4) (moS (mPeek 9)) moN)))) (toA1 (toP (mOp2 fAdd (toP (mSlice (mPeek 4) moN (moS (mPeek 9)))) (toP (mSlice (mPeek 4) (moS (toP (mOp2 fAdd (mPeek 9) (toP (mC (.int 1)))))) moN)))) (toA1 (toP (mOp2 fAdd (toP (mOp2 fAdd (toP (mSlice (mPeek 4) moN (moS (mPeek 9)))) (mPeek 10))) (toP (mSlice (mPeek 4) (moS (toP (mOp2 fAdd (mPeek 9) (toP (mC (.int 1)))))) moN)))) toA0))))) toA0))))
  (mSeq (mSetC 12 (mCall 1 F._law_told (toA1 (toP (mVar 11)) toA0)))
  (mIf tB
  (mIf (mtNot (mtB (mChain fLe fLe (toP (mC (.int 0))) (toP (mOp2 fIx (mPeek 12) (toP (mC (.int 1))))) (toP (mFun fLen (toA1 (mPeek 11) toA0))))))
  (mRet (mC (.bl false)))
  mNext)
  (mIf (mtB (mOp2 fNe (toP (mV (mCall 1 F._law_told (toA1 (toP (mV (mCall 1 F.format_type (toA1 (toP (mVar 12)) toA0)))) toA0)))) (mPeek 12)))
  (mRet (mC (.bl false)))
  mNext))))))
theorem run_bB {s : Str} (hs : Bt s 176 45) {o : Own} (hd : IsD o) {s0 s2 s3 s5 s6 s7 s8 s9 s10 s11 s12 s13 : Sl} (h9 : pvno s9) (h10 : pvno s10) (h11 : pvno s11) (h12 : pvno s12) :
    ∃ o' p9 p10 p11 p12, IsD o' ∧ bB (FN A 224) [s0, .own false o, s2, s3, .pv (.str s), s5, s6, s7, s8, s9, s10, s11, s12, s13] = .ok (.nx, [s0, .own false o', s2, s3, .pv (.str s), s5, s6, s7, s8, .pv p9, .pv p10, .pv p11, .pv p12, s13]) := by
  obtain ⟨a, o1, a1, a2, a3⟩ := run_take A 223 o (s.length + 1) hd (by omega) (by have := hs.len; omega)
  have a3 : (FN A 224)._law_take [.own o, .pv (.int ((s.length : Int) + 1))] = .ok (.pv (.int a), [o1]) := a3
  have pk : PkSp (FN A 224)._law_pick := run_pick A 222
  obtain ⟨g', o2, b1, b2, b3⟩ := pk o1 (signs.map .str) a2 (by decide +kernel) (by decide +kernel)
  obtain ⟨g, hg, rfl⟩ := List.mem_map.mp b1
  have gb := signs_ok g hg
  obtain ⟨q, o3, d1, d2, d3⟩ := pk o2 ([cutS s none (some (a : Int)) ++ g ++ cutS s (some (a : Int)) none, cutS s none (some (a : Int)) ++ cutS s (some ((a + 1 : Nat) : Int)) none, cutS s none (some (a : Int)) ++ g ++ cutS s (some ((a + 1 : Nat) : Int)) none].map .str) b2 (by simp) (by simp)
  obtain ⟨b, hb, rfl⟩ := List.mem_map.mp d1
  have bb := bent_ok hs gb b hb
  have c1 := fun b x ρ => call_e1 (b := b) (x := x) (ρ := ρ) a3
  have c2 := fun b x ρ => call_e1 (b := b) (x := x) (ρ := ρ) b3
  have c3 := fun b x ρ => call_e1 (b := b) (x := x) (ρ := ρ) d3
  simp only [signs, List.map_cons, List.map_nil] at c2
  simp only [List.map_cons, List.map_nil] at c3
  have zs : s.length ≤ sizeLine := z6 (by have := hs.len; omega)
  have t1 : (cutS s none (some (a : Int))).length ≤ 200 := by
    have : (sg (cutS s none (some (a : Int)))).length ≤ (sg s).length := by rw [cut_take, List.length_take]; omega
    have l := hs.len
    have l1 : (sg s).length = s.length := rfl
    have l2 : (sg (cutS s none (some (a : Int)))).length = (cutS s none (some (a : Int))).length := rfl
    omega
  have t2 : ∀ n : Nat, (cutS s (some (n : Int)) none).length ≤ 200 := fun n => by
    have : (sg (cutS s (some (n : Int)) none)).length ≤ (sg s).length := by rw [cut_drop, List.length_drop]; omega
    have l := hs.len
    have l1 : (sg s).length = s.length := rfl
    have l2 : (sg (cutS s (some (n : Int)) none)).length = (cutS s (some (n : Int)) none).length := rfl
    omega
  have gl := gb.len
  have f1 : fAdd (.str (cutS s none (some (a : Int)))) (.str g) = some (.str (cutS s none (some (a : Int)) ++ g)) := f_add' (by omega)
  have f2 : ∀ n : Nat, fAdd (.str (cutS s none (some (a : Int)) ++ g)) (.str (cutS s (some (n : Int)) none)) = some (.str (cutS s none (some (a : Int)) ++ g ++ cutS s (some (n : Int)) none)) := fun n => f_add' (by have := t2 n; rw [len_app]; omega)
  have f3 : ∀ n : Nat, fAdd (.str (cutS s none (some (a : Int)))) (.str (cutS s (some (n : Int)) none)) = some (.str (cutS s none (some (a : Int)) ++ cutS s (some (n : Int)) none)) := fun n => f_add' (by have := t2 n; omega)
  have f21 := f2 (a + 1)
  have f31 := f3 (a + 1)
  have f20 := f2 a
  push_cast at f21 f31 c3
  have twelve : 12 ≤ sizeLine := z6 (by omega)
  -- the four first steps
  have S : ∀ (p : PV), (FN A 224)._law_told [.pv (.str b)] = .ok (.pv p, []) → ∀ R, (mIf tB
      (mIf (mtNot (mtB (mChain fLe fLe (toP (mC (.int 0))) (toP (mOp2 fIx (mPeek 12) (toP (mC (.int 1))))) (toP (mFun fLen (toA1 (mPeek 11) toA0))))))
      (mRet (mC (.bl false)))
      mNext)
      (mIf (mtB (mOp2 fNe (toP (mV (mCall 1 (FN A 224)._law_told (toA1 (toP (mV (mCall 1 (FN A 224).format_type (toA1 (toP (mVar 12)) toA0)))) toA0)))) (mPeek 12)))
      (mRet (mC (.bl false)))
      mNext)) [s0, .own false o3, s2, s3, .pv (.str s), s5, s6, s7, s8, .pv (.int a), .pv (.str g), .pv (.str b), .pv p, s13] = R → bB (FN A 224) [s0, .own false o, s2, s3, .pv (.str s), s5, s6, s7, s8, s9, s10, s11, s12, s13] = R := by
    intro p hp R hR
    have c4 := fun ρ => call1 (ρ := ρ) hp
    unfold bB
    refine (seq_nx (ρ1 := [s0, .own false o1, s2, s3, .pv (.str s), s5, s6, s7, s8, .pv (.int a), s10, s11, s12, s13]) ?_).trans ?_
    · rcases h9 with rfl | ⟨x, rfl⟩ <;> simp [mSeq, mIf, mtB, mtOr, mtNot, mtV, mOp2, toP, mV, mC, mPeek, mVar, Pk.get, Sl.cnt, Own.pv, mSetC, gR, gN, thenS, mNext, trv_bl, mStrM, isStr, okIf, toA1, toA0, getC, fSw, mDropC, mRet, mRetC, mTup, endF, outs, getAll, Res.of, two_le, three_le, cALL, cCON, cREC, cVAR,  mCall, mFun, fLen, zs, addI, c1]
    refine (seq_nx (ρ1 := [s0, .own false o2, s2, s3, .pv (.str s), s5, s6, s7, s8, .pv (.int a), .pv (.str g), s11, s12, s13]) ?_).trans ?_
    · rcases h10 with rfl | ⟨x, rfl⟩ <;> simp [mSeq, mIf, mtB, mtOr, mtNot, mtV, mOp2, toP, mV, mC, mPeek, mVar, Pk.get, Sl.cnt, Own.pv, mSetC, gR, gN, thenS, mNext, trv_bl, mStrM, isStr, okIf, toA1, toA0, getC, fSw, mDropC, mRet, mRetC, mTup, endF, outs, getAll, Res.of, two_le, three_le, cALL, cCON, cREC, cVAR,  mCall, mLst, twelve, c2]
    refine (seq_nx (ρ1 := [s0, .own false o3, s2, s3, .pv (.str s), s5, s6, s7, s8, .pv (.int a), .pv (.str g), .pv (.str b), s12, s13]) ?_).trans ?_
    · rcases h11 with rfl | ⟨x, rfl⟩ <;> simp [mSeq, mIf, mtB, mtOr, mtNot, mtV, mOp2, toP, mV, mC, mPeek, mVar, Pk.get, Sl.cnt, Own.pv, mSetC, gR, gN, thenS, mNext, trv_bl, mStrM, isStr, okIf, toA1, toA0, getC, fSw, mDropC, mRet, mRetC, mTup, endF, outs, getAll, Res.of, two_le, three_le, cALL, cCON, cREC, cVAR,  mCall, mLst, mSlice, moN, moS, fSl, zs, addI, f1, f20, f21, f31, c3]
    refine (seq_nx (ρ1 := [s0, .own false o3, s2, s3, .pv (.str s), s5, s6, s7, s8, .pv (.int a), .pv (.str g), .pv (.str b), .pv p, s13]) ?_).trans hR
    · rcases h12 with rfl | ⟨x, rfl⟩ <;> simp [mSeq, mIf, mtB, mtOr, mtNot, mtV, mOp2, toP, mV, mC, mPeek, mVar, Pk.get, Sl.cnt, Own.pv, mSetC, gR, gN, thenS, mNext, trv_bl, mStrM, isStr, okIf, toA1, toA0, getC, fSw, mDropC, mRet, mRetC, mTup, endF, outs, getAll, Res.of, two_le, three_le, cALL, cCON, cREC, cVAR,  mCall, c4]
  have bl := bb.len
  have be := bb.es
  rcases parse_any (A := A) (k := 219) bb.ok (by omega) bb.nF (by omega) with ⟨c, m, hc, hm, hp⟩ | ⟨t, w, hdp, hl, he, hp⟩
  · refine ⟨o3, .int a, .str g, .str b, .tup [.str c, .int m], d2, S _ (run_told_err (j := 223) hp) _ ?_⟩
    refine (if_t (tB_err hc rfl)).trans (if_n ?_)
    have zb : b.length ≤ sizeLine := z6 (by omega)
    have m0 : (0 : Int) ≤ m := by omega
    have m1 : (m : Int) ≤ b.length := by omega
    simp [mSeq, mIf, mtB, mtOr, mtNot, mtV, mOp2, toP, mV, mC, mPeek, mVar, Pk.get, Sl.cnt, Own.pv, mSetC, gR, gN, thenS, mNext, trv_bl, mStrM, isStr, okIf, toA1, toA0, getC, fSw, mDropC, mRet, mRetC, mTup, endF, outs, getAll, Res.of, two_le, three_le, cALL, cCON, cREC, cVAR,  mChain, fLe, fCmp, ix1, mFun, fLen, zb, m0, m1, hm]
  · refine ⟨o3, .int a, .str g, .str b, enc t, d2, S _ (run_told_ok (j := 223) hp) _ ?_⟩
    refine (if_f (tB_ok rfl)).trans (if_n ?_)
    have c5 := fun ρ => call1 (ρ := ρ) (fmt_ok (A := A) w (by omega) (by omega))
    have c6 := fun ρ => call1 (ρ := ρ) (told_fmt (A := A) w (by omega) (by omega))
    have n2 : fNe (enc t) (enc t) = some (.bl false) := ne_self ((sh_enc t w).mono (by omega))
    simp [mSeq, mIf, mtB, mtOr, mtNot, mtV, mOp2, toP, mV, mC, mPeek, mVar, Pk.get, Sl.cnt, Own.pv, mSetC, gR, gN, thenS, mNext, trv_bl, mStrM, isStr, okIf, toA1, toA0, getC, fSw, mDropC, mRet, mRetC, mTup, endF, outs, getAll, Res.of, two_le, three_le, cALL, cCON, cREC, cVAR,  mCall, c5, c6, n2]
theorem loop_B {s : Str} (hs : Bt s 176 45) : ∀ (l : List PV) (o : Own) {s0 s2 s3 s5 s6 s7 s8 s9 s10 s11 s12 s13 : Sl}, IsD o → pvno s8 → pvno s9 → pvno s10 → pvno s11 → pvno s12 →
    ∃ o' x8 x9 x10 x11 x12, loopF (gN 8) (bB (FN A 224)) l [s0, .own false o, s2, s3, .pv (.str s), s5, s6, s7, s8, s9, s10, s11, s12, s13] = .ok (.nx, [s0, .own false o', s2, s3, .pv (.str s), s5, s6, s7, x8, x9, x10, x11, x12, s13])
  | [], o, s0, s2, s3, s5, s6, s7, s8, s9, s10, s11, s12, s13, hd, h8, h9, h10, h11, h12 => ⟨o, s8, s9, s10, s11, s12, rfl⟩
  | p :: l, o, s0, s2, s3, s5, s6, s7, s8, s9, s10, s11, s12, s13, hd, h8, h9, h10, h11, h12 => by
    obtain ⟨o1, p9, p10, p11, p12, a1, a2⟩ := run_bB (A := A) hs hd (s0 := s0) (s2 := s2) (s3 := s3) (s5 := s5) (s6 := s6) (s7 := s7) (s8 := .pv p) (s13 := s13) h9 h10 h11 h12
    obtain ⟨o2, x8, x9, x10, x11, x12, b2⟩ := loop_B hs l o1 (s0 := s0) (s2 := s2) (s3 := s3) (s5 := s5) (s6 := s6) (s7 := s7) (s8 := .pv p) (s9 := .pv p9) (s10 := .pv p10) (s11 := .pv p11) (s12 := .pv p12) (s13 := s13) a1 (.inr ⟨_, rfl⟩) (.inr ⟨_, rfl⟩) (.inr ⟨_, rfl⟩) (.inr ⟨_, rfl⟩) (.inr ⟨_, rfl⟩)
    refine ⟨o2, x8, x9, x10, x11, x12, ?_⟩
    have g : gN 8 p [s0, .own false o, s2, s3, .pv (.str s), s5, s6, s7, s8, s9, s10, s11, s12, s13] = some [s0, .own false o, s2, s3, .pv (.str s), s5, s6, s7, .pv p, s9, s10, s11, s12, s13] := by
      rcases h8 with rfl | ⟨x, rfl⟩ <;> simp [gN]
    simp only [loopF, g, Res.of_some, Res.ok_bind, a2, stepW, b2]
end
end K03
namespace K03
open PySem PySem.Spec L2 PL
/-! M40: the law holds -/
def CR (g : MG) (m : MS) (n : Int) (ρ : Ev) : Res (Fl × Ev) := if -(2 ^ 62) ≤ n ∧ n < 2 ^ 62 then loopF g m ((List.range n.toNat).map fun (i : Nat) => PV.int i) ρ else .bad
theorem forR_aux {mi : MA} {ρ ρ1 : Ev} {n : Int} (C : Int → Ev → Res (Fl × Ev)) (h : mi ρ = .ok ([.val (.int n)], ρ1)) : (mi ρ >>= fun r => match r.1 with
    | [.val (.int n)] => C n r.2
    | _ => .bad) = C n ρ1 := by
  rw [h]; rfl
theorem forR_CR {mi : MA} {g : MG} {m : MS} {ρ : Ev} : mForR mi g m ρ = (mi ρ >>= fun r => match r.1 with
    | [.val (.int n)] => CR g m n r.2
    | _ => .bad) := rfl
theorem CR_ok {g : MG} {m : MS} {n : Nat} {ρ : Ev} (hn : n < 1000) : CR g m n ρ = loopF g m ((List.range n).map fun (i : Nat) => PV.int i) ρ := by
  have hz : -(2 ^ 62 : Int) ≤ (n : Int) ∧ (n : Int) < 2 ^ 62 := ⟨by omega, by omega⟩
  have e : CR g m n ρ = loopF g m ((List.range (n : Int).toNat).map fun (i : Nat) => PV.int i) ρ := if_pos hz
  rw [e, Int.toNat_natCast]
theorem forR_ok {mi : MA} {g : MG} {m : MS} {ρ ρ1 : Ev} {n : Nat} (h : mi ρ = .ok ([.val (.int n)], ρ1)) (hn : n < 1000) : mForR mi g m ρ = loopF g m ((List.range n).map fun (i : Nat) => PV.int i) ρ1 :=
  (forR_CR.trans (forR_aux (CR g m) h)).trans (CR_ok hn)
theorem run_law (A : Ads) (ns : List Int) : (FN A 225).law [.pv (.scr (ns.map .int))] = .ok (.pv (.bl true), []) := by
  obtain ⟨sd, hb⟩ := run_begin A 223 ns
  have hb : (FN A 224)._law_begin [.pv (.scr (ns.map .int))] = .ok (.own (dL ns 0 0 sd), []) := hb
  have d0 : IsD (dL ns 0 0 sd) := ⟨_, _, _, _, rfl⟩
  have cb := fun ρ => call1 (ρ := ρ) hb
  have tk : TkSp (FN A 224)._law_take := run_take A 223
  have pk : PkSp (FN A 224)._law_pick := run_pick A 222
  have lf : ∀ p q, (FN A 224)._law_fun [.pv p, .pv q] = .ok (.pv (.tup [.str "con", .str "Fun", .tup [p, q]]), []) := run_fun A 223
  have ll : ∀ p, (FN A 224)._law_list [.pv p] = .ok (.pv (.tup [.str "con", .str "List", .tup [p]]), []) := run_list A 223
  have li : (FN A 224)._law_int [] = .ok (.pv (.tup [.str "con", .str "Int", .tup []]), []) := run_int A 223
  have cf := fun p q ρ => call2v (ρ := ρ) (lf p q)
  have cl := fun p ρ => call1 (ρ := ρ) (ll p)
  have ci : ∀ ρ, goCall 0 (FN A 224)._law_int [] ρ = .ok (.pv (.tup [.str "con", .str "Int", .tup []]), ρ) := fun ρ => by simp [goCall, toAgs, ownIx, li, updO]
  have one : 1 ≤ sizeLine := z6 (by omega)
  have five : 5 ≤ sizeLine := z6 (by omega)
  have six : 6 ≤ sizeLine := z6 (by omega)
  have z7 : 7 ≤ sizeLine := z6 (by omega)
  have z11 : 11 ≤ sizeLine := z6 (by omega)
  have z13 : 13 ≤ sizeLine := z6 (by omega)
  have hs : startE 14 [.pv (.scr (ns.map .int))] = [.pv (.scr (ns.map .int)), .no, .no, .no, .no, .no, .no, .no, .no, .no, .no, .no, .no, .no] := by simp [startE, toSl]
  show endF _ (m_law A (FN A 224) (startE 14 [.pv (.scr (ns.map .int))])) = _
  rw [hs]
  generalize hS : (PV.scr (ns.map .int)) = S at *
  have hF : ∀ ρ : Ev, endF [.pv S] (.ok (.rt (.pv (.bl true)), .pv S :: ρ)) = .ok (.pv (.bl true), []) := fun ρ => by simp [endF, outs]
  suffices key : ∃ ρ, m_law A (FN A 224) [.pv S, .no, .no, .no, .no, .no, .no, .no, .no, .no, .no, .no, .no, .no] = .ok (.rt (.pv (.bl true)), .pv S :: ρ) by
    obtain ⟨ρ, key⟩ := key
    rw [key]
    exact hF ρ
  generalize hD : dL ns 0 0 sd = D at *
  unfold m_law
  have ea : enc tvA = .tup [.str "var", .str "a"] := by simp [tvA, enc]
  -- known
  obtain ⟨x4, y5, hx4, hy5, lk⟩ := loop_K (A := A) kn (fun e he => List.all_eq_true.mp kn_all e he) (s0 := .pv S) (s1 := .own false D) (s2 := .pv (enc tvA)) (s3 := .pv (.lst (kn.map ke))) (x := .no) (y := .no) (r := [.no, .no, .no, .no, .no, .no, .no, .no]) (.inl rfl) (.inl rfl)
  have cw : ∀ e ∈ wr, ∀ ρ, goCall 1 (FN A 224)._law_told [.val (.str e.1)] ρ = .ok (.pv (.tup [.str e.2.1, .int e.2.2]), ρ) := fun e he ρ => by
    have h := List.all_eq_true.mp wr_all e he
    unfold wrB at h
    simp only [Bool.and_eq_true, decide_eq_true_eq] at h
    exact call1 (ans_err h.1.1.1 h.1.2 h.2)
  have nw : ∀ e ∈ wr, fNe (.tup [.str e.2.1, .int e.2.2]) (.tup [.str e.2.1, .int e.2.2]) = some (.bl false) := fun e he => by
    have h := List.all_eq_true.mp wr_all e he
    unfold wrB at h
    simp only [Bool.and_eq_true, decide_eq_true_eq] at h
    exact ne_self ((Sh.tup (n := 0) (by simp; exact ⟨Sh.str h.1.1.2 _, Sh.int _ _⟩)).mono (by omega))
  have cm := comp_map (g := gTupM 2 (gsCons (gN 4) (gsCons (gN 13) gsNil))) (e := (mOp2 fNe (toP (mV (mCall 1 (FN A 224)._law_told (toA1 (toP (mVar 4)) toA0)))) (mPeek 13))) (vs := [4, 13])
    (ρ := [.pv S, .own false D, .pv (enc tvA), .pv (.lst (kn.map ke)), .no, y5, .pv (.lst (wr.map we)), .no, .no, .no, .no, .no, .no, .no])
    we (fun _ => .bl false) (fun e => [.pv S, .own false D, .pv (enc tvA), .pv (.lst (kn.map ke)), .pv (.str e.1), y5, .pv (.lst (wr.map we)), .no, .no, .no, .no, .no, .no, .pv (.tup [.str e.2.1, .int e.2.2])]) wr [] (fun e he => by
      refine ⟨by simp [we, gTupM, gsCons, gsNil, gN], ?_, by simp [wipeE]⟩
      simp [mSeq, mIf, mtB, mtOr, mtNot, mtV, mOp2, toP, mV, mC, mPeek, mVar, Pk.get, Sl.cnt, Own.pv, mSetC, gR, gN, thenS, mNext, trv_bl, mStrM, isStr, okIf, toA1, toA0, getC, fSw, mDropC, mRet, mRetC, mTup, endF, outs, getAll, Res.of, two_le, three_le, cALL, cCON, cREC, cVAR,  mCall, cw e he, nw e he]) (z6 (by decide +kernel))
  rw [List.nil_append] at cm
  have cyx : (FN A 224)._law_told [.pv (.str "{y : a,x:b}")] = .ok (.pv (enc tYX), []) := ans_ok (by decide +kernel) (by decide +kernel) (by decide +kernel) (by decide +kernel) (wfB_s _ (by decide +kernel)) (by decide +kernel) yx_ok
  have cyx := fun ρ => call1 (ρ := ρ) cyx
  have nyx : fNe (enc tYX) (enc tYX) = some (.bl false) := ne_self ((sh_enc tYX (wfB_s _ (by decide +kernel))).mono (by decide +kernel))
  obtain ⟨t0, o1, b0, d1, h0⟩ := ty3 A 218 D d0
  have h0 : (FN A 224)._law_type [.own D, .pv (.int 3), .pv nmP, .pv rwP] = .ok (.pv (enc t0), [o1]) := h0
  have c0 := fun b x ρ => call_e3 (b := b) (x := x) (ρ := ρ) h0
  obtain ⟨n, o2, n3, d2, h1⟩ := tk o1 3 d1 (by omega) (by omega)
  have h1 : (FN A 224)._law_take [.own o1, .pv (.int 3)] = .ok (.pv (.int n), [o2]) := h1
  have c1 := fun b x ρ => call_e1 (b := b) (x := x) (ρ := ρ) h1
  obtain ⟨t, o3, x7, b3, d3, lw⟩ := loop_W pk lf ll ((List.range n).map fun (i : Nat) => PV.int i) o2 t0 158 35 9 (s0 := .pv S) (s3 := .pv (.lst (kn.map ke))) (s4 := x4) (s6 := .pv (.lst (wr.map we))) (s7 := .no) (r := [.no, .no, .no, .no, .no, .no]) d2 b0 (.inl rfl)
  rw [List.length_map, List.length_range] at b3
  have bt : Bd t 176 45 13 := b3.mono (by omega) (by omega) (by omega)
  have lt := bt.len
  have ld := bt.dp
  have eb : eW (fw t) ≤ 200 := by
    have tk := tk_ms (tk_fmt t bt.wf [] [] brk_nil .nil)
    rw [List.append_nil, List.append_nil] at tk
    have := bt.es
    omega
  have ct := fun ρ => call1 (ρ := ρ) (run_ltext (A := A) 224 t bt.wf (by omega) (by omega) (by omega))
  have rb := fun r => run_bK (A := A) bt.wf (by omega) (by omega) eb (s0 := .pv S) (s1 := .own false o3) (s2 := .pv (enc tvA)) (s3 := .pv (.lst (kn.map ke))) (r := r)
  have bs : Bt (fmt t) 176 45 := ⟨wf_ok t bt.wf, bt.len, bt.es, bt.nF⟩
  obtain ⟨o4, x8, x9, x10, x11, x12, lb⟩ := loop_B (A := A) bs ((List.range 6).map fun (i : Nat) => PV.int i) o3 (s0 := .pv S) (s2 := .pv (enc tvA)) (s3 := .pv (.lst (kn.map ke))) (s5 := .pv (enc t)) (s6 := .pv (.lst (wr.map we))) (s7 := x7) (s8 := .no) (s9 := .no) (s10 := .no) (s11 := .no) (s12 := .no) (s13 := .no) d3 (.inl rfl) (.inl rfl) (.inl rfl) (.inl rfl) (.inl rfl)
  refine ⟨[.own false o4, .pv (enc tvA), .pv (.lst (kn.map ke)), .pv (.str (fmt t)), .pv (enc t), .pv (.lst (wr.map we)), x7, x8, x9, x10, x11, x12, .no], ?_⟩
  refine (seq_nx (ρ1 := [.pv S, .own false D, .no, .no, .no, .no, .no, .no, .no, .no, .no, .no, .no, .no]) ?_).trans ?_
  · simp [mSeq, mIf, mtB, mtOr, mtNot, mtV, mOp2, toP, mV, mC, mPeek, mVar, Pk.get, Sl.cnt, Own.pv, mSetC, gR, gN, thenS, mNext, trv_bl, mStrM, isStr, okIf, toA1, toA0, getC, fSw, mDropC, mRet, mRetC, mTup, endF, outs, getAll, Res.of, two_le, three_le, cALL, cCON, cREC, cVAR,  mCall, cb, gO]
  refine (seq_nx (ρ1 := [.pv S, .own false D, .pv (enc tvA), .no, .no, .no, .no, .no, .no, .no, .no, .no, .no, .no]) ?_).trans ?_
  · rw [ea]; simp [mSeq, mIf, mtB, mtOr, mtNot, mtV, mOp2, toP, mV, mC, mPeek, mVar, Pk.get, Sl.cnt, Own.pv, mSetC, gR, gN, thenS, mNext, trv_bl, mStrM, isStr, okIf, toA1, toA0, getC, fSw, mDropC, mRet, mRetC, mTup, endF, outs, getAll, Res.of, two_le, three_le, cALL, cCON, cREC, cVAR,  mAsg]
  refine (seq_nx (ρ1 := [.pv S, .own false D, .pv (enc tvA), .own false (.lst (k1.map ke)), .no, .no, .no, .no, .no, .no, .no, .no, .no, .no]) ?_).trans ?_
  · simp [mSeq, mIf, mtB, mtOr, mtNot, mtV, mOp2, toP, mV, mC, mPeek, mVar, Pk.get, Sl.cnt, Own.pv, mSetC, gR, gN, thenS, mNext, trv_bl, mStrM, isStr, okIf, toA1, toA0, getC, fSw, mDropC, mRet, mRetC, mTup, endF, outs, getAll, Res.of, two_le, three_le, cALL, cCON, cREC, cVAR,  mSetL, gO, mCall, cf, cl, ci, k1, ke, enc, encs, encf, tvA]
  refine (seq_nx (ρ1 := [.pv S, .own false D, .pv (enc tvA), .own false (.lst ((k1 ++ k2).map ke)), .no, .no, .no, .no, .no, .no, .no, .no, .no, .no]) ?_).trans ?_
  · simp [mSeq, mIf, mtB, mtOr, mtNot, mtV, mOp2, toP, mV, mC, mPeek, mVar, Pk.get, Sl.cnt, Own.pv, mSetC, gR, gN, thenS, mNext, trv_bl, mStrM, isStr, okIf, toA1, toA0, getC, fSw, mDropC, mRet, mRetC, mTup, endF, outs, getAll, Res.of, two_le, three_le, cALL, cCON, cREC, cVAR,  mDrop, mExtend, isLstAt, extAt, mLst, one, five, k1, k2, ke, enc, encs, encf, tvA]
  refine (seq_nx (ρ1 := [.pv S, .own false D, .pv (enc tvA), .own false (.lst (kn.map ke)), .no, .no, .no, .no, .no, .no, .no, .no, .no, .no]) ?_).trans ?_
  · simp [mSeq, mIf, mtB, mtOr, mtNot, mtV, mOp2, toP, mV, mC, mPeek, mVar, Pk.get, Sl.cnt, Own.pv, mSetC, gR, gN, thenS, mNext, trv_bl, mStrM, isStr, okIf, toA1, toA0, getC, fSw, mDropC, mRet, mRetC, mTup, endF, outs, getAll, Res.of, two_le, three_le, cALL, cCON, cREC, cVAR,  mDrop, mExtend, isLstAt, extAt, mLst, mCall, ci, one, z7, kn, k1, k2, k3, ke, enc, encs, encf, tvA]
  refine (seq_nx (ρ1 := [.pv S, .own false D, .pv (enc tvA), .pv (.lst (kn.map ke)), x4, y5, .no, .no, .no, .no, .no, .no, .no, .no]) ?_).trans ?_
  · refine Eq.trans ?_ lk
    simp [mSeq, mIf, mtB, mtOr, mtNot, mtV, mOp2, toP, mV, mC, mPeek, mVar, Pk.get, Sl.cnt, Own.pv, mSetC, gR, gN, thenS, mNext, trv_bl, mStrM, isStr, okIf, toA1, toA0, getC, fSw, mDropC, mRet, mRetC, mTup, endF, outs, getAll, Res.of, two_le, three_le, cALL, cCON, cREC, cVAR,  mForL, bK]
  refine (seq_nx (ρ1 := [.pv S, .own false D, .pv (enc tvA), .pv (.lst (kn.map ke)), x4, y5, .own false (.lst (w1.map we)), .no, .no, .no, .no, .no, .no, .no]) ?_).trans ?_
  · simp [mSeq, mIf, mtB, mtOr, mtNot, mtV, mOp2, toP, mV, mC, mPeek, mVar, Pk.get, Sl.cnt, Own.pv, mSetC, gR, gN, thenS, mNext, trv_bl, mStrM, isStr, okIf, toA1, toA0, getC, fSw, mDropC, mRet, mRetC, mTup, endF, outs, getAll, Res.of, two_le, three_le, cALL, cCON, cREC, cVAR,  mSetL, gO, six, w1, we]
  refine (seq_nx (ρ1 := [.pv S, .own false D, .pv (enc tvA), .pv (.lst (kn.map ke)), x4, y5, .own false (.lst ((w1 ++ w2).map we)), .no, .no, .no, .no, .no, .no, .no]) ?_).trans ?_
  · simp [mSeq, mIf, mtB, mtOr, mtNot, mtV, mOp2, toP, mV, mC, mPeek, mVar, Pk.get, Sl.cnt, Own.pv, mSetC, gR, gN, thenS, mNext, trv_bl, mStrM, isStr, okIf, toA1, toA0, getC, fSw, mDropC, mRet, mRetC, mTup, endF, outs, getAll, Res.of, two_le, three_le, cALL, cCON, cREC, cVAR,  mDrop, mExtend, isLstAt, extAt, mLst, five, z11, w1, w2, we]
  refine (seq_nx (ρ1 := [.pv S, .own false D, .pv (enc tvA), .pv (.lst (kn.map ke)), x4, y5, .own false (.lst (wr.map we)), .no, .no, .no, .no, .no, .no, .no]) ?_).trans ?_
  · simp [mSeq, mIf, mtB, mtOr, mtNot, mtV, mOp2, toP, mV, mC, mPeek, mVar, Pk.get, Sl.cnt, Own.pv, mSetC, gR, gN, thenS, mNext, trv_bl, mStrM, isStr, okIf, toA1, toA0, getC, fSw, mDropC, mRet, mRetC, mTup, endF, outs, getAll, Res.of, two_le, three_le, cALL, cCON, cREC, cVAR,  mDrop, mExtend, isLstAt, extAt, mLst, z13, wr, w1, w2, w3, we]
  refine (seq_nx (ρ1 := [.pv S, .own false D, .pv (enc tvA), .pv (.lst (kn.map ke)), x4, y5, .pv (.lst (wr.map we)), .no, .no, .no, .no, .no, .no, .no]) ?_).trans ?_
  · have no4 : noOwn (some x4) = true := by rcases hx4 with rfl | ⟨x, rfl⟩ <;> rfl
    refine Eq.trans (b := (Res.ok (Fl.nx, [.pv S, .own false D, .pv (enc tvA), .pv (.lst (kn.map ke)), x4, y5, .pv (.lst (wr.map we)), .no, .no, .no, .no, .no, .no, .no]) : Res (Fl × Ev))) ?_ rfl
    have no0 : noOwn (some .no) = true := rfl
    simp [mSeq, mIf, mtB, mtOr, mtNot, mtV, mOp2, toP, mV, mC, mPeek, mVar, Pk.get, Sl.cnt, Own.pv, mSetC, gR, gN, thenS, mNext, trv_bl, mStrM, isStr, okIf, toA1, toA0, getC, fSw, mDropC, mRet, mRetC, mTup, endF, outs, getAll, Res.of, two_le, three_le, cALL, cCON, cREC, cVAR,  mFun, mLc, itL, no4, no0, wipeE, backE, cm, bls_f]
  refine (seq_nx (if_n ?_)).trans ?_
  · have e : enc tYX = .tup [.str "rec", .tup [.tup [.str "x", .tup [.str "var", .str "b"]], .tup [.str "y", enc tvA]], .non] := by simp [tYX, enc, encf]
    rw [e] at cyx nyx
    simp [mSeq, mIf, mtB, mtOr, mtNot, mtV, mOp2, toP, mV, mC, mPeek, mVar, Pk.get, Sl.cnt, Own.pv, mSetC, gR, gN, thenS, mNext, trv_bl, mStrM, isStr, okIf, toA1, toA0, getC, fSw, mDropC, mRet, mRetC, mTup, endF, outs, getAll, Res.of, two_le, three_le, cALL, cCON, cREC, cVAR,  mCall, cyx, nyx]
  refine (seq_nx (ρ1 := [.pv S, .own false o1, .pv (enc tvA), .pv (.lst (kn.map ke)), x4, .pv (enc t0), .pv (.lst (wr.map we)), .no, .no, .no, .no, .no, .no, .no]) ?_).trans ?_
  · rcases hy5 with rfl | ⟨y, rfl⟩ <;> simp [mSeq, mIf, mtB, mtOr, mtNot, mtV, mOp2, toP, mV, mC, mPeek, mVar, Pk.get, Sl.cnt, Own.pv, mSetC, gR, gN, thenS, mNext, trv_bl, mStrM, isStr, okIf, toA1, toA0, getC, fSw, mDropC, mRet, mRetC, mTup, endF, outs, getAll, Res.of, two_le, three_le, cALL, cCON, cREC, cVAR,  mCall, mLst, one, c0]
  refine (seq_nx (ρ1 := [.pv S, .own false o3, .pv (enc tvA), .pv (.lst (kn.map ke)), x4, .pv (enc t), .pv (.lst (wr.map we)), x7, .no, .no, .no, .no, .no, .no]) ?_).trans ?_
  · exact (forR_ok (by simp [mSeq, mIf, mtB, mtOr, mtNot, mtV, mOp2, toP, mV, mC, mPeek, mVar, Pk.get, Sl.cnt, Own.pv, mSetC, gR, gN, thenS, mNext, trv_bl, mStrM, isStr, okIf, toA1, toA0, getC, fSw, mDropC, mRet, mRetC, mTup, endF, outs, getAll, Res.of, two_le, three_le, cALL, cCON, cREC, cVAR,  mCall, c1]) (by omega)).trans lw
  refine (seq_nx (ρ1 := [.pv S, .own false o3, .pv (enc tvA), .pv (.lst (kn.map ke)), .pv (.str (fmt t)), .pv (enc t), .pv (.lst (wr.map we)), x7, .no, .no, .no, .no, .no, .no]) ?_).trans ?_
  · rcases hx4 with rfl | ⟨x, rfl⟩ <;> simp [mSeq, mIf, mtB, mtOr, mtNot, mtV, mOp2, toP, mV, mC, mPeek, mVar, Pk.get, Sl.cnt, Own.pv, mSetC, gR, gN, thenS, mNext, trv_bl, mStrM, isStr, okIf, toA1, toA0, getC, fSw, mDropC, mRet, mRetC, mTup, endF, outs, getAll, Res.of, two_le, three_le, cALL, cCON, cREC, cVAR,  mCall, ct]
  refine (seq_nx (rb _)).trans ?_
  refine (seq_nx (ρ1 := [.pv S, .own false o4, .pv (enc tvA), .pv (.lst (kn.map ke)), .pv (.str (fmt t)), .pv (enc t), .pv (.lst (wr.map we)), x7, x8, x9, x10, x11, x12, .no]) ?_).trans ?_
  · exact (forR_ok (n := 6) (by simp [mSeq, mIf, mtB, mtOr, mtNot, mtV, mOp2, toP, mV, mC, mPeek, mVar, Pk.get, Sl.cnt, Own.pv, mSetC, gR, gN, thenS, mNext, trv_bl, mStrM, isStr, okIf, toA1, toA0, getC, fSw, mDropC, mRet, mRetC, mTup, endF, outs, getAll, Res.of, two_le, three_le, cALL, cCON, cREC, cVAR,  endF]) (by omega)).trans lb
  simp [mSeq, mIf, mtB, mtOr, mtNot, mtV, mOp2, toP, mV, mC, mPeek, mVar, Pk.get, Sl.cnt, Own.pv, mSetC, gR, gN, thenS, mNext, trv_bl, mStrM, isStr, okIf, toA1, toA0, getC, fSw, mDropC, mRet, mRetC, mTup, endF, outs, getAll, Res.of, two_le, three_le, cALL, cCON, cREC, cVAR,  endF]
end K03
namespace K03
open PySem PySem.Spec L2 PL
/-! Printed by gen2.py: the end. -/
/-- the law's promise -/
def spLaw (K : PySem.W.Frag) : Sp := fun vs H Q _ => ∃ (a : Addr) (ns : List Int), vs = [.ref a] ∧ SqL K H a (ns.map V.int) ∧ ns.length ≤ 63 ∧ Only H ∧ ∀ H', Q (.bl true) H'
/-- what the mathematics must give -/
def Good (j : Nat) : Prop := ∀ (A : Ads) (ns : List Int), ns.length ≤ 63 → (FN A j).law [.pv (.scr (ns.map PV.int))] = .ok (.pv (.bl true), [])
theorem reps_int {K : PySem.W.Frag} {L : Addr → Prop} {H : Hp} : ∀ ns : List Int, RepAll K L H (ns.map V.int) (ns.map PV.int)
  | [] => .nil
  | n :: r => .cons (.int n) (reps_int r)
theorem sp_good {j : Nat} (hG : Good j) {K : PySem.W.Frag} {mg : Str → Option Value} {A : Ads} {vs : List V} {H : Hp} {Q : VK} {E : XK} (h : spLaw K vs H Q E) : SpF K mg 1 (FN A j).law vs H Q E := by
  obtain ⟨a, ns, rfl, hS, hl, hO, q⟩ := h
  have hscr : ScrR K (fun _ => False) H a (ns.map V.int) := by
    rcases hS with (hS | ⟨o, hS⟩) | hS
    · rcases hO a with z | ⟨o, xs, z⟩
      · rw [hS] at z; cases z
      · rw [hS] at z; cases z
    · exact .inl ⟨o, hS, fun z => z⟩
    · exact .inr hS
  refine ⟨rfl, fun _ => False, [.pv (.scr (ns.map PV.int))], .pv (.scr hscr (reps_int ns)) .nil, List.nodup_nil, fun _ z => z.elim, ?_⟩
  rw [hG A ns hl]
  intro v H' L' _ _ _ r
  cases (show Rep K L' H' v (.bl true) from r)
  exact q H'
theorem exm_self' {K : PySem.W.Frag} {S : Addr} (h1 : PySem.W.subIn K (.ref S) (.type "BaseException") = some true) (h2 : PySem.W.isClsIn K S = true) (h3 : PySem.W.typeIn K (.ref S) = some (.type "type")) (h4 : PySem.W.subIn K (.ref S) (.ref S) = some true) :
    PySem.W.exmOne K (.ref S) (.ref S) = some true := by
  have e1 : (PySem.W.subIn K (.ref S) (.type "BaseException") == some true) = true := by rw [h1] <;> rfl
  have e2 : ((PySem.W.clsIn K S).isSome && PySem.W.typeIn K (.ref S) == some (.type "type")) = true := by
    have h2' : (PySem.W.clsIn K S).isSome = true := h2
    rw [h2', h3] <;> rfl
  show (if (PySem.W.subIn K (.ref S) (.type "BaseException") == some true) = true then (if ((PySem.W.clsIn K S).isSome && PySem.W.typeIn K (.ref S) == some (.type "type")) = true then PySem.W.subIn K (.ref S) (.ref S) else none) else none) = some true
  rw [if_pos e1, if_pos e2]
  exact h4
theorem fin_ok {w : World} {K : PySem.W.Frag} {mg : Str → Option Value} {base : Heap} {A : Ads} {D : Fds} (hG : Good 225) (U : Funs K A D) (T : Txt K mg A) (B : Bds K D) (o_TextError : FnOk PySem.Challenge.pw_tyloom_k03_whole_texts_of_types w K mg base (L2.CX PySem.Challenge.pw_tyloom_k03_whole_texts_of_types w) 1 A.a_TextError_init D.d_TextError_init ["self", "code", "at"] (spI2 A.TextError "code" "at" "refused: " ", ")) : FnOk PySem.Challenge.pw_tyloom_k03_whole_texts_of_types w K mg base (L2.CX PySem.Challenge.pw_tyloom_k03_whole_texts_of_types w) (225 + 3) A.a_law D.d_law ["script"] (spLaw K) :=
  (oks U T B ⟨ok_Reader_init U T B, o_TextError⟩ 225).law.imp fun vs H Q E q => sp_good hG q
theorem all_mk {w : World} {K : PySem.W.Frag} {h : Heap} {mg : Str → Option Value} {fa : Addr} (X : K.In h) (G : h.Ns mainGlobals mg) (hfa : mg "law" = some (.ref fa)) (hG : Good 225)
    {f0 : Addr} {od0 an0 : Option Addr} {sl0 : Array (Option Value)} {oc0 kV0 dc0 pm0 cd0 ct0 : Value}
    {f1 : Addr} {od1 an1 : Option Addr} {sl1 : Array (Option Value)} {oc1 kV1 dc1 pm1 cd1 ct1 : Value}
    {f2 : Addr} {od2 an2 : Option Addr} {sl2 : Array (Option Value)} {oc2 kV2 dc2 pm2 cd2 ct2 : Value}
    {f3 : Addr} {od3 an3 : Option Addr} {sl3 : Array (Option Value)} {oc3 kV3 dc3 pm3 cd3 ct3 : Value}
    {f4 : Addr} {od4 an4 : Option Addr} {sl4 : Array (Option Value)} {oc4 kV4 dc4 pm4 cd4 ct4 : Value}
    {f5 : Addr} {od5 an5 : Option Addr} {sl5 : Array (Option Value)} {oc5 kV5 dc5 pm5 cd5 ct5 : Value}
    {f6 : Addr} {od6 an6 : Option Addr} {sl6 : Array (Option Value)} {oc6 kV6 dc6 pm6 cd6 ct6 : Value}
    {f7 : Addr} {od7 an7 : Option Addr} {sl7 : Array (Option Value)} {oc7 kV7 dc7 pm7 cd7 ct7 : Value}
    {f8 : Addr} {od8 an8 : Option Addr} {sl8 : Array (Option Value)} {oc8 kV8 dc8 pm8 cd8 ct8 : Value}
    {f9 : Addr} {od9 an9 : Option Addr} {sl9 : Array (Option Value)} {oc9 kV9 dc9 pm9 cd9 ct9 : Value}
    {f10 : Addr} {od10 an10 : Option Addr} {sl10 : Array (Option Value)} {oc10 kV10 dc10 pm10 cd10 ct10 : Value}
    {f11 : Addr} {od11 an11 : Option Addr} {sl11 : Array (Option Value)} {oc11 kV11 dc11 pm11 cd11 ct11 : Value}
    {f12 : Addr} {od12 an12 : Option Addr} {sl12 : Array (Option Value)} {oc12 kV12 dc12 pm12 cd12 ct12 : Value}
    {f13 : Addr} {od13 an13 : Option Addr} {sl13 : Array (Option Value)} {oc13 kV13 dc13 pm13 cd13 ct13 : Value}
    {f14 : Addr} {od14 an14 : Option Addr} {sl14 : Array (Option Value)} {oc14 kV14 dc14 pm14 cd14 ct14 : Value}
    {f15 : Addr} {od15 an15 : Option Addr} {sl15 : Array (Option Value)} {oc15 kV15 dc15 pm15 cd15 ct15 : Value}
    {f16 : Addr} {od16 an16 : Option Addr} {sl16 : Array (Option Value)} {oc16 kV16 dc16 pm16 cd16 ct16 : Value}
    {f17 : Addr} {od17 an17 : Option Addr} {sl17 : Array (Option Value)} {oc17 kV17 dc17 pm17 cd17 ct17 : Value}
    {f18 : Addr} {od18 an18 : Option Addr} {sl18 : Array (Option Value)} {oc18 kV18 dc18 pm18 cd18 ct18 : Value}
    {f19 : Addr} {od19 an19 : Option Addr} {sl19 : Array (Option Value)} {oc19 kV19 dc19 pm19 cd19 ct19 : Value}
    {f20 : Addr} {od20 an20 : Option Addr} {sl20 : Array (Option Value)} {oc20 kV20 dc20 pm20 cd20 ct20 : Value}
    {f21 : Addr} {od21 an21 : Option Addr} {sl21 : Array (Option Value)} {oc21 kV21 dc21 pm21 cd21 ct21 : Value}
    {f22 : Addr} {od22 an22 : Option Addr} {sl22 : Array (Option Value)} {oc22 kV22 dc22 pm22 cd22 ct22 : Value}
    {f23 : Addr} {od23 an23 : Option Addr} {sl23 : Array (Option Value)} {oc23 kV23 dc23 pm23 cd23 ct23 : Value}
    {f24 : Addr} {od24 an24 : Option Addr} {sl24 : Array (Option Value)} {oc24 kV24 dc24 pm24 cd24 ct24 : Value}
    {CReader : Addr}
    {CTextError LTextError DTextError ccTextError cdaTextError NTextError f25 : Addr} {nmTextError qTextError : Str} {bsTextError : List Value} {snTextError : List Str} {subTextError : List Value} {abTextError : Bool} {colTextError : Option Bool} {ddTextError od25 an25 cddTextError cldTextError : Option Addr} {m0TextError m1TextError m2TextError m3TextError m5TextError : Option Value} {sl25 ccsTextError cslTextError : Array (Option Value)} {oc25 dV25 kV25 dc25 pm25 ct25 cclTextError clTextError : Value} {vsTextError : Array Value} {fileTextError : Str} {tfTextError : Tok} {cdDTextError : ClassData}
    {t_VAR : Tok}
    {t_CON : Tok}
    {t_REC : Tok}
    {t_ALL : Tok}
    {t_LOW : Tok}
    {t_HIGH : Tok}
    {t_DIGITS : Tok}
    {t_SHORT : Tok}
    {t_ARROW : Tok}
    (aCReader : PySem.W.nsIn K mainGlobals "Reader" = some (some (.ref CReader)))
    (aCTextError : PySem.W.nsIn K mainGlobals "TextError" = some (some (.ref CTextError)))
    (a0 : PySem.W.nsIn K mainGlobals "atom_text" = some (some (.ref f0)))
    (l0 : K.lookup f0 = some ⟨oc0, od0, .func (PySem.W.fnOf "atom_text" "atom_text" (defArgs s_atom_text) (defBody s_atom_text) (defScope s_atom_text) .none kV0 dc0 pm0 an0 cd0 ct0), sl0⟩)
    (c0 : PySem.W.codeIn K cd0 "atom_text" = true)
    (k0 : PySem.W.keepIn K (.ref f0) = true)
    (a1 : PySem.W.nsIn K mainGlobals "record_text" = some (some (.ref f1)))
    (l1 : K.lookup f1 = some ⟨oc1, od1, .func (PySem.W.fnOf "record_text" "record_text" (defArgs s_record_text) (defBody s_record_text) (defScope s_record_text) .none kV1 dc1 pm1 an1 cd1 ct1), sl1⟩)
    (c1 : PySem.W.codeIn K cd1 "record_text" = true)
    (k1 : PySem.W.keepIn K (.ref f1) = true)
    (a2 : PySem.W.nsIn K mainGlobals "format_type" = some (some (.ref f2)))
    (l2 : K.lookup f2 = some ⟨oc2, od2, .func (PySem.W.fnOf "format_type" "format_type" (defArgs s_format_type) (defBody s_format_type) (defScope s_format_type) .none kV2 dc2 pm2 an2 cd2 ct2), sl2⟩)
    (c2 : PySem.W.codeIn K cd2 "format_type" = true)
    (k2 : PySem.W.keepIn K (.ref f2) = true)
    (a3 : PySem.W.nsIn K mainGlobals "word_end" = some (some (.ref f3)))
    (l3 : K.lookup f3 = some ⟨oc3, od3, .func (PySem.W.fnOf "word_end" "word_end" (defArgs s_word_end) (defBody s_word_end) (defScope s_word_end) .none kV3 dc3 pm3 an3 cd3 ct3), sl3⟩)
    (c3 : PySem.W.codeIn K cd3 "word_end" = true)
    (k3 : PySem.W.keepIn K (.ref f3) = true)
    (a4 : PySem.W.nsIn K mainGlobals "words_in" = some (some (.ref f4)))
    (l4 : K.lookup f4 = some ⟨oc4, od4, .func (PySem.W.fnOf "words_in" "words_in" (defArgs s_words_in) (defBody s_words_in) (defScope s_words_in) .none kV4 dc4 pm4 an4 cd4 ct4), sl4⟩)
    (c4 : PySem.W.codeIn K cd4 "words_in" = true)
    (k4 : PySem.W.keepIn K (.ref f4) = true)
    (a5 : PySem.W.findIn K (.ref CReader) "head" = some (some (.ref f5)))
    (i5 : PySem.W.isFn K (.ref f5) = true)
    (l5 : K.lookup f5 = some ⟨oc5, od5, .func (PySem.W.fnOf "head" "Reader.head" (defArgs s_Reader_head) (defBody s_Reader_head) (defScope s_Reader_head) .none kV5 dc5 pm5 an5 cd5 ct5), sl5⟩)
    (c5 : PySem.W.codeIn K cd5 "Reader.head" = true)
    (k5 : PySem.W.keepIn K (.ref f5) = true)
    (a6 : PySem.W.findIn K (.ref CReader) "fail" = some (some (.ref f6)))
    (i6 : PySem.W.isFn K (.ref f6) = true)
    (l6 : K.lookup f6 = some ⟨oc6, od6, .func (PySem.W.fnOf "fail" "Reader.fail" (defArgs s_Reader_fail) (defBody s_Reader_fail) (defScope s_Reader_fail) .none kV6 dc6 pm6 an6 cd6 ct6), sl6⟩)
    (c6 : PySem.W.codeIn K cd6 "Reader.fail" = true)
    (k6 : PySem.W.keepIn K (.ref f6) = true)
    (a7 : PySem.W.findIn K (.ref CReader) "need" = some (some (.ref f7)))
    (i7 : PySem.W.isFn K (.ref f7) = true)
    (l7 : K.lookup f7 = some ⟨oc7, od7, .func (PySem.W.fnOf "need" "Reader.need" (defArgs s_Reader_need) (defBody s_Reader_need) (defScope s_Reader_need) .none kV7 dc7 pm7 an7 cd7 ct7), sl7⟩)
    (c7 : PySem.W.codeIn K cd7 "Reader.need" = true)
    (k7 : PySem.W.keepIn K (.ref f7) = true)
    (a8 : PySem.W.findIn K (.ref CReader) "is_variable" = some (some (.ref f8)))
    (i8 : PySem.W.isFn K (.ref f8) = true)
    (l8 : K.lookup f8 = some ⟨oc8, od8, .func (PySem.W.fnOf "is_variable" "Reader.is_variable" (defArgs s_Reader_is_variable) (defBody s_Reader_is_variable) (defScope s_Reader_is_variable) .none kV8 dc8 pm8 an8 cd8 ct8), sl8⟩)
    (c8 : PySem.W.codeIn K cd8 "Reader.is_variable" = true)
    (k8 : PySem.W.keepIn K (.ref f8) = true)
    (a9 : PySem.W.findIn K (.ref CReader) "whole" = some (some (.ref f9)))
    (i9 : PySem.W.isFn K (.ref f9) = true)
    (l9 : K.lookup f9 = some ⟨oc9, od9, .func (PySem.W.fnOf "whole" "Reader.whole" (defArgs s_Reader_whole) (defBody s_Reader_whole) (defScope s_Reader_whole) .none kV9 dc9 pm9 an9 cd9 ct9), sl9⟩)
    (c9 : PySem.W.codeIn K cd9 "Reader.whole" = true)
    (k9 : PySem.W.keepIn K (.ref f9) = true)
    (a10 : PySem.W.findIn K (.ref CReader) "applied" = some (some (.ref f10)))
    (i10 : PySem.W.isFn K (.ref f10) = true)
    (l10 : K.lookup f10 = some ⟨oc10, od10, .func (PySem.W.fnOf "applied" "Reader.applied" (defArgs s_Reader_applied) (defBody s_Reader_applied) (defScope s_Reader_applied) .none kV10 dc10 pm10 an10 cd10 ct10), sl10⟩)
    (c10 : PySem.W.codeIn K cd10 "Reader.applied" = true)
    (k10 : PySem.W.keepIn K (.ref f10) = true)
    (a11 : PySem.W.findIn K (.ref CReader) "one" = some (some (.ref f11)))
    (i11 : PySem.W.isFn K (.ref f11) = true)
    (l11 : K.lookup f11 = some ⟨oc11, od11, .func (PySem.W.fnOf "one" "Reader.one" (defArgs s_Reader_one) (defBody s_Reader_one) (defScope s_Reader_one) .none kV11 dc11 pm11 an11 cd11 ct11), sl11⟩)
    (c11 : PySem.W.codeIn K cd11 "Reader.one" = true)
    (k11 : PySem.W.keepIn K (.ref f11) = true)
    (a12 : PySem.W.findIn K (.ref CReader) "record" = some (some (.ref f12)))
    (i12 : PySem.W.isFn K (.ref f12) = true)
    (l12 : K.lookup f12 = some ⟨oc12, od12, .func (PySem.W.fnOf "record" "Reader.record" (defArgs s_Reader_record) (defBody s_Reader_record) (defScope s_Reader_record) .none kV12 dc12 pm12 an12 cd12 ct12), sl12⟩)
    (c12 : PySem.W.codeIn K cd12 "Reader.record" = true)
    (k12 : PySem.W.keepIn K (.ref f12) = true)
    (a13 : PySem.W.nsIn K mainGlobals "parse_type" = some (some (.ref f13)))
    (l13 : K.lookup f13 = some ⟨oc13, od13, .func (PySem.W.fnOf "parse_type" "parse_type" (defArgs s_parse_type) (defBody s_parse_type) (defScope s_parse_type) .none kV13 dc13 pm13 an13 cd13 ct13), sl13⟩)
    (c13 : PySem.W.codeIn K cd13 "parse_type" = true)
    (k13 : PySem.W.keepIn K (.ref f13) = true)
    (a14 : PySem.W.nsIn K mainGlobals "_law_begin" = some (some (.ref f14)))
    (l14 : K.lookup f14 = some ⟨oc14, od14, .func (PySem.W.fnOf "_law_begin" "_law_begin" (defArgs s__law_begin) (defBody s__law_begin) (defScope s__law_begin) .none kV14 dc14 pm14 an14 cd14 ct14), sl14⟩)
    (c14 : PySem.W.codeIn K cd14 "_law_begin" = true)
    (k14 : PySem.W.keepIn K (.ref f14) = true)
    (a15 : PySem.W.nsIn K mainGlobals "_law_take" = some (some (.ref f15)))
    (l15 : K.lookup f15 = some ⟨oc15, od15, .func (PySem.W.fnOf "_law_take" "_law_take" (defArgs s__law_take) (defBody s__law_take) (defScope s__law_take) .none kV15 dc15 pm15 an15 cd15 ct15), sl15⟩)
    (c15 : PySem.W.codeIn K cd15 "_law_take" = true)
    (k15 : PySem.W.keepIn K (.ref f15) = true)
    (a16 : PySem.W.nsIn K mainGlobals "_law_pick" = some (some (.ref f16)))
    (l16 : K.lookup f16 = some ⟨oc16, od16, .func (PySem.W.fnOf "_law_pick" "_law_pick" (defArgs s__law_pick) (defBody s__law_pick) (defScope s__law_pick) .none kV16 dc16 pm16 an16 cd16 ct16), sl16⟩)
    (c16 : PySem.W.codeIn K cd16 "_law_pick" = true)
    (k16 : PySem.W.keepIn K (.ref f16) = true)
    (a17 : PySem.W.nsIn K mainGlobals "_law_fun" = some (some (.ref f17)))
    (l17 : K.lookup f17 = some ⟨oc17, od17, .func (PySem.W.fnOf "_law_fun" "_law_fun" (defArgs s__law_fun) (defBody s__law_fun) (defScope s__law_fun) .none kV17 dc17 pm17 an17 cd17 ct17), sl17⟩)
    (c17 : PySem.W.codeIn K cd17 "_law_fun" = true)
    (k17 : PySem.W.keepIn K (.ref f17) = true)
    (a18 : PySem.W.nsIn K mainGlobals "_law_int" = some (some (.ref f18)))
    (l18 : K.lookup f18 = some ⟨oc18, od18, .func (PySem.W.fnOf "_law_int" "_law_int" (defArgs s__law_int) (defBody s__law_int) (defScope s__law_int) .none kV18 dc18 pm18 an18 cd18 ct18), sl18⟩)
    (c18 : PySem.W.codeIn K cd18 "_law_int" = true)
    (k18 : PySem.W.keepIn K (.ref f18) = true)
    (a19 : PySem.W.nsIn K mainGlobals "_law_list" = some (some (.ref f19)))
    (l19 : K.lookup f19 = some ⟨oc19, od19, .func (PySem.W.fnOf "_law_list" "_law_list" (defArgs s__law_list) (defBody s__law_list) (defScope s__law_list) .none kV19 dc19 pm19 an19 cd19 ct19), sl19⟩)
    (c19 : PySem.W.codeIn K cd19 "_law_list" = true)
    (k19 : PySem.W.keepIn K (.ref f19) = true)
    (a20 : PySem.W.nsIn K mainGlobals "_law_type" = some (some (.ref f20)))
    (l20 : K.lookup f20 = some ⟨oc20, od20, .func (PySem.W.fnOf "_law_type" "_law_type" (defArgs s__law_type) (defBody s__law_type) (defScope s__law_type) .none kV20 dc20 pm20 an20 cd20 ct20), sl20⟩)
    (c20 : PySem.W.codeIn K cd20 "_law_type" = true)
    (k20 : PySem.W.keepIn K (.ref f20) = true)
    (a21 : PySem.W.nsIn K mainGlobals "_law_told" = some (some (.ref f21)))
    (l21 : K.lookup f21 = some ⟨oc21, od21, .func (PySem.W.fnOf "_law_told" "_law_told" (defArgs s__law_told) (defBody s__law_told) (defScope s__law_told) .none kV21 dc21 pm21 an21 cd21 ct21), sl21⟩)
    (c21 : PySem.W.codeIn K cd21 "_law_told" = true)
    (k21 : PySem.W.keepIn K (.ref f21) = true)
    (a22 : PySem.W.nsIn K mainGlobals "_law_text" = some (some (.ref f22)))
    (l22 : K.lookup f22 = some ⟨oc22, od22, .func (PySem.W.fnOf "_law_text" "_law_text" (defArgs s__law_text) (defBody s__law_text) (defScope s__law_text) .none kV22 dc22 pm22 an22 cd22 ct22), sl22⟩)
    (c22 : PySem.W.codeIn K cd22 "_law_text" = true)
    (k22 : PySem.W.keepIn K (.ref f22) = true)
    (a23 : PySem.W.nsIn K mainGlobals "law" = some (some (.ref f23)))
    (l23 : K.lookup f23 = some ⟨oc23, od23, .func (PySem.W.fnOf "law" "law" (defArgs s_law) (defBody s_law) (defScope s_law) .none kV23 dc23 pm23 an23 cd23 ct23), sl23⟩)
    (c23 : PySem.W.codeIn K cd23 "law" = true)
    (k23 : PySem.W.keepIn K (.ref f23) = true)
    (a24 : PySem.W.findIn K (.ref CReader) "__init__" = some (some (.ref f24)))
    (i24 : PySem.W.isFn K (.ref f24) = true)
    (l24 : K.lookup f24 = some ⟨oc24, od24, .func (PySem.W.fnOf "__init__" "Reader.__init__" (defArgs s_Reader_init) (defBody s_Reader_init) (defScope s_Reader_init) .none kV24 dc24 pm24 an24 cd24 ct24), sl24⟩)
    (c24 : PySem.W.codeIn K cd24 "Reader.__init__" = true)
    (k24 : PySem.W.keepIn K (.ref f24) = true)
    (pgReader : PySem.W.plainGet K CReader Str.empty = true)
    (hdReader : PySem.W.hasDictIn K CReader = true)
    (poReader : PySem.W.plainOver K CReader = true)
    (saReader : PySem.W.findIn K (.ref CReader) "__setattr__" = some (some (.builtin "object.__setattr__")))
    (mkReader : PySem.W.makesIn K CReader = true)
    (kcReader : PySem.W.keepIn K (.ref CReader) = true)
    (nReaderwords : PySem.W.findIn K (.ref CReader) "words" = some none)
    (nReaderat : PySem.W.findIn K (.ref CReader) "at" = some none)
    (xLTextError : K.lookup CTextError = some (PySem.excClassObj nmTextError qTextError CTextError NTextError bsTextError [.ref LTextError, .type "ValueError", .type "Exception", .type "BaseException", .type "object"] true snTextError subTextError abTextError colTextError ddTextError m0TextError m1TextError m2TextError m3TextError m5TextError "ValueError.__new__"))
    (saTextError : PySem.W.findIn K (.ref CTextError) "__setattr__" = some (some (.builtin "object.__setattr__")))
    (gaTextError : PySem.W.findIn K (.ref CTextError) "__getattribute__" = some (some (.builtin "BaseException.__getattribute__")))
    (ggTextError : PySem.W.findIn K (.ref CTextError) "__getattr__" = some none)
    (nTextErrorcode : PySem.W.findIn K (.ref CTextError) "code" = some none)
    (nTextErrorat : PySem.W.findIn K (.ref CTextError) "at" = some none)
    (a25 : PySem.W.findIn K (.ref CTextError) "__init__" = some (some (.ref f25)))
    (t25 : PySem.W.typeIn K (.ref f25) = some (.type "function"))
    (l25 : K.lookup f25 = some ⟨oc25, od25, .func (PySem.W.ksFn "__init__" "TextError.__init__" (defArgs s_TextError_init) (defBody s_TextError_init) (defScope s_TextError_init) dV25 kV25 dc25 pm25 an25 (.ref cdaTextError) ct25 ccTextError), sl25⟩)
    (v25 : dV25 = Value.none)
    (c25 : PySem.W.codeIn K (.ref cdaTextError) "TextError.__init__" = true)
    (kCTextError : PySem.W.keepIn K (.ref CTextError) = true)
    (eCTextError : PySem.W.subIn K (.ref CTextError) (.type "BaseException") = some true)
    (tCTextError : PySem.W.typeIn K (.ref CTextError) = some (.type "type"))
    (hCTextError : PySem.W.hasDictIn K CTextError = true)
    (iCTextError : PySem.W.isClsIn K CTextError = true)
    (sCTextError : PySem.W.subIn K (.ref CTextError) (.ref CTextError) = some true)
    (coTextError : K.lookup cdaTextError = some ⟨cclTextError, cddTextError, .fields vsTextError, ccsTextError⟩)
    (cvTextError : vsTextError[2]? = some (.str fileTextError tfTextError))
    (cfTextError : ((PySem.Challenge.pw_tyloom_k03_whole_texts_of_types.main.file : Str) == fileTextError) = true)
    (ceTextError : K.lookup ccTextError = some ⟨clTextError, cldTextError, .cell (some (.ref DTextError)), cslTextError⟩)
    (dcTextError : PySem.W.clsIn K DTextError = some cdDTextError)
    (mrTextError : PySem.W.mroIn K CTextError (.ref DTextError) = some true)
    (siTextError : PySem.W.ks_superIn K CTextError DTextError "__init__" = some (some (.builtin "ValueError.__init__")))
    (ivTextError : PySem.W.subIn K (.ref CTextError) (.type "ValueError") = some true)
    (zsuper : PySem.W.nsIn K mainGlobals "super" = some none)
    (opq : PySem.W.nsIn K cStatics "thirdparty.any" = some none)
    (vVAR : PySem.W.nsIn K mainGlobals "VAR" = some (some (.str c_VAR t_VAR)))
    (vCON : PySem.W.nsIn K mainGlobals "CON" = some (some (.str c_CON t_CON)))
    (vREC : PySem.W.nsIn K mainGlobals "REC" = some (some (.str c_REC t_REC)))
    (vALL : PySem.W.nsIn K mainGlobals "ALL" = some (some (.str c_ALL t_ALL)))
    (vLOW : PySem.W.nsIn K mainGlobals "LOW" = some (some (.str c_LOW t_LOW)))
    (vHIGH : PySem.W.nsIn K mainGlobals "HIGH" = some (some (.str c_HIGH t_HIGH)))
    (vDIGITS : PySem.W.nsIn K mainGlobals "DIGITS" = some (some (.str c_DIGITS t_DIGITS)))
    (vSHORT : PySem.W.nsIn K mainGlobals "SHORT" = some (some (.str c_SHORT t_SHORT)))
    (vARROW : PySem.W.nsIn K mainGlobals "ARROW" = some (some (.str c_ARROW t_ARROW)))
    (zlen : PySem.W.nsIn K mainGlobals "len" = some none)
    (zint : PySem.W.nsIn K mainGlobals "int" = some none)
    (zabs : PySem.W.nsIn K mainGlobals "abs" = some none)
    (zlist : PySem.W.nsIn K mainGlobals "list" = some none)
    (ztuple : PySem.W.nsIn K mainGlobals "tuple" = some none)
    (zany : PySem.W.nsIn K mainGlobals "any" = some none)
    (zsorted : PySem.W.nsIn K mainGlobals "sorted" = some none)
    (zrange : PySem.W.nsIn K mainGlobals "range" = some none) :
    ∃ fd : FuncData, (∀ (s : Shared) (v : Value), BindsTo s fd ⟨[v], []⟩ [("script", v)]) ∧ ∀ base : Heap, K.In base → base.Ns mainGlobals mg → FnOk PySem.Challenge.pw_tyloom_k03_whole_texts_of_types w K mg base (L2.CX PySem.Challenge.pw_tyloom_k03_whole_texts_of_types w) (225 + 3) fa fd ["script"] (spLaw K) := by
  have e : f23 = fa := by
    have z := (PySem.W.mg_of X G a23).symm.trans hfa
    cases z; rfl
  subst e
  subst v25
  have F0 := fun_mk (st := s_atom_text) l0 c0 k0
  have b0 := F0.binds (ps := ["t"]) fun _ _ _ _ _ _ us hl => match us, hl with | [_], _ => rfl
  have F1 := fun_mk (st := s_record_text) l1 c1 k1
  have b1 := F1.binds (ps := ["t"]) fun _ _ _ _ _ _ us hl => match us, hl with | [_], _ => rfl
  have F2 := fun_mk (st := s_format_type) l2 c2 k2
  have b2 := F2.binds (ps := ["t"]) fun _ _ _ _ _ _ us hl => match us, hl with | [_], _ => rfl
  have F3 := fun_mk (st := s_word_end) l3 c3 k3
  have b3 := F3.binds (ps := ["text", "place"]) fun _ _ _ _ _ _ us hl => match us, hl with | [_, _], _ => rfl
  have F4 := fun_mk (st := s_words_in) l4 c4 k4
  have b4 := F4.binds (ps := ["text"]) fun _ _ _ _ _ _ us hl => match us, hl with | [_], _ => rfl
  have F5 := fun_mk (st := s_Reader_head) l5 c5 k5
  have b5 := F5.binds (ps := ["self"]) fun _ _ _ _ _ _ us hl => match us, hl with | [_], _ => rfl
  have F6 := fun_mk (st := s_Reader_fail) l6 c6 k6
  have b6 := F6.binds (ps := ["self"]) fun _ _ _ _ _ _ us hl => match us, hl with | [_], _ => rfl
  have F7 := fun_mk (st := s_Reader_need) l7 c7 k7
  have b7 := F7.binds (ps := ["self", "word"]) fun _ _ _ _ _ _ us hl => match us, hl with | [_, _], _ => rfl
  have F8 := fun_mk (st := s_Reader_is_variable) l8 c8 k8
  have b8 := F8.binds (ps := ["self"]) fun _ _ _ _ _ _ us hl => match us, hl with | [_], _ => rfl
  have F9 := fun_mk (st := s_Reader_whole) l9 c9 k9
  have b9 := F9.binds (ps := ["self"]) fun _ _ _ _ _ _ us hl => match us, hl with | [_], _ => rfl
  have F10 := fun_mk (st := s_Reader_applied) l10 c10 k10
  have b10 := F10.binds (ps := ["self"]) fun _ _ _ _ _ _ us hl => match us, hl with | [_], _ => rfl
  have F11 := fun_mk (st := s_Reader_one) l11 c11 k11
  have b11 := F11.binds (ps := ["self"]) fun _ _ _ _ _ _ us hl => match us, hl with | [_], _ => rfl
  have F12 := fun_mk (st := s_Reader_record) l12 c12 k12
  have b12 := F12.binds (ps := ["self"]) fun _ _ _ _ _ _ us hl => match us, hl with | [_], _ => rfl
  have F13 := fun_mk (st := s_parse_type) l13 c13 k13
  have b13 := F13.binds (ps := ["text"]) fun _ _ _ _ _ _ us hl => match us, hl with | [_], _ => rfl
  have F14 := fun_mk (st := s__law_begin) l14 c14 k14
  have b14 := F14.binds (ps := ["script"]) fun _ _ _ _ _ _ us hl => match us, hl with | [_], _ => rfl
  have F15 := fun_mk (st := s__law_take) l15 c15 k15
  have b15 := F15.binds (ps := ["d", "many"]) fun _ _ _ _ _ _ us hl => match us, hl with | [_, _], _ => rfl
  have F16 := fun_mk (st := s__law_pick) l16 c16 k16
  have b16 := F16.binds (ps := ["d", "menu"]) fun _ _ _ _ _ _ us hl => match us, hl with | [_, _], _ => rfl
  have F17 := fun_mk (st := s__law_fun) l17 c17 k17
  have b17 := F17.binds (ps := ["one", "other"]) fun _ _ _ _ _ _ us hl => match us, hl with | [_, _], _ => rfl
  have F18 := fun_mk (st := s__law_int) l18 c18 k18
  have b18 := F18.binds (ps := []) fun _ _ _ _ _ _ us hl => match us, hl with | [], _ => rfl
  have F19 := fun_mk (st := s__law_list) l19 c19 k19
  have b19 := F19.binds (ps := ["t"]) fun _ _ _ _ _ _ us hl => match us, hl with | [_], _ => rfl
  have F20 := fun_mk (st := s__law_type) l20 c20 k20
  have b20 := F20.binds (ps := ["d", "size", "names", "rows"]) fun _ _ _ _ _ _ us hl => match us, hl with | [_, _, _, _], _ => rfl
  have F21 := fun_mk (st := s__law_told) l21 c21 k21
  have b21 := F21.binds (ps := ["text"]) fun _ _ _ _ _ _ us hl => match us, hl with | [_], _ => rfl
  have F22 := fun_mk (st := s__law_text) l22 c22 k22
  have b22 := F22.binds (ps := ["t"]) fun _ _ _ _ _ _ us hl => match us, hl with | [_], _ => rfl
  have F23 := fun_mk (st := s_law) l23 c23 k23
  have b23 := F23.binds (ps := ["script"]) fun _ _ _ _ _ _ us hl => match us, hl with | [_], _ => rfl
  have F24 := fun_mk (st := s_Reader_init) l24 c24 k24
  have b24 := F24.binds (ps := ["self", "words"]) fun _ _ _ _ _ _ us hl => match us, hl with | [_, _], _ => rfl
  have TTextError : OexC K CTextError := ⟨⟨_, _, _, _, _, _, _, _, _, _, _, _, _, _, _, xLTextError, by rfl⟩, saTextError, eCTextError, tCTextError, kCTextError⟩
  have STextError : SupTxt PySem.Challenge.pw_tyloom_k03_whole_texts_of_types K mg CTextError DTextError ccTextError cdaTextError := ⟨⟨_, _, _, _, _, _, coTextError, cvTextError, cfTextError⟩, ⟨_, _, _, ceTextError⟩, ⟨_, dcTextError⟩, mrTextError, PySem.W.mg_none_of X G zsuper, by decide +kernel, opq, siTextError, ivTextError⟩
  have YTextError : SupScope ["self", "code", "at"] (defScope s_TextError_init) := ⟨rfl, rfl, rfl, by decide +kernel, by decide +kernel, by decide +kernel, by decide +kernel, by decide +kernel, by decide +kernel⟩
  have b25 : Binds K (PySem.W.ksFn "__init__" "TextError.__init__" (defArgs s_TextError_init) (defBody s_TextError_init) (defScope s_TextError_init) .none kV25 dc25 pm25 an25 (.ref cdaTextError) ct25 ccTextError) ["self", "code", "at"] [] := .all fun us hl => match us, hl with | [_, _, _], _ => rfl
  refine ⟨PySem.W.fnOf "law" "law" (defArgs s_law) (defBody s_law) (defScope s_law) .none kV23 dc23 pm23 an23 cd23 ct23, fun s v => .of_eq rfl, fun base _ _ => ?_⟩
  have T : Txt K mg ⟨f0, f1, f2, f3, f4, f5, f6, f7, f8, f9, f10, f11, f12, f13, f14, f15, f16, f17, f18, f19, f20, f21, f22, f23, f24, f25, CReader, CTextError⟩ := { g_atom_text := PySem.W.mg_of X G a0, k_atom_text := k0, g_record_text := PySem.W.mg_of X G a1, k_record_text := k1, g_format_type := PySem.W.mg_of X G a2, k_format_type := k2, g_word_end := PySem.W.mg_of X G a3, k_word_end := k3, g_words_in := PySem.W.mg_of X G a4, k_words_in := k4, m_Reader_head := ⟨a5, i5, k5⟩, m_Reader_fail := ⟨a6, i6, k6⟩, m_Reader_need := ⟨a7, i7, k7⟩, m_Reader_is_variable := ⟨a8, i8, k8⟩, m_Reader_whole := ⟨a9, i9, k9⟩, m_Reader_applied := ⟨a10, i10, k10⟩, m_Reader_one := ⟨a11, i11, k11⟩, m_Reader_record := ⟨a12, i12, k12⟩, g_parse_type := PySem.W.mg_of X G a13, k_parse_type := k13, g__law_begin := PySem.W.mg_of X G a14, k__law_begin := k14, g__law_take := PySem.W.mg_of X G a15, k__law_take := k15, g__law_pick := PySem.W.mg_of X G a16, k__law_pick := k16, g__law_fun := PySem.W.mg_of X G a17, k__law_fun := k17, g__law_int := PySem.W.mg_of X G a18, k__law_int := k18, g__law_list := PySem.W.mg_of X G a19, k__law_list := k19, g__law_type := PySem.W.mg_of X G a20, k__law_type := k20, g__law_told := PySem.W.mg_of X G a21, k__law_told := k21, g__law_text := PySem.W.mg_of X G a22, k__law_text := k22, g_law := PySem.W.mg_of X G a23, k_law := k23, cl_Reader := ⟨pgReader, hdReader, poReader, saReader⟩, mk_Reader := ⟨mkReader, a24, i24, kcReader⟩, gc_Reader := PySem.W.mg_of X G aCReader, n_Reader_words := nReaderwords, n_Reader_at := nReaderat, oex_TextError := TTextError, ini_TextError := a25, tin_TextError := t25, gc_TextError := PySem.W.mg_of X G aCTextError, te_TextError := exm_self' eCTextError iCTextError tCTextError sCTextError, xf_TextError := ⟨gaTextError, ggTextError, eCTextError, hCTextError⟩, ne_TextError_code := nTextErrorcode, ne_TextError_at := nTextErrorat, c_VAR := kv_str (PySem.W.mg_of X G vVAR), c_CON := kv_str (PySem.W.mg_of X G vCON), c_REC := kv_str (PySem.W.mg_of X G vREC), c_ALL := kv_str (PySem.W.mg_of X G vALL), c_LOW := kv_str (PySem.W.mg_of X G vLOW), c_HIGH := kv_str (PySem.W.mg_of X G vHIGH), c_DIGITS := kv_str (PySem.W.mg_of X G vDIGITS), c_SHORT := kv_str (PySem.W.mg_of X G vSHORT), c_ARROW := kv_str (PySem.W.mg_of X G vARROW), z_len := PySem.W.mg_none_of X G zlen, z_int := PySem.W.mg_none_of X G zint, z_abs := PySem.W.mg_none_of X G zabs, z_list := PySem.W.mg_none_of X G zlist, z_tuple := PySem.W.mg_none_of X G ztuple, z_any := PySem.W.mg_none_of X G zany, z_sorted := PySem.W.mg_none_of X G zsorted, z_range := PySem.W.mg_none_of X G zrange }
  exact fin_ok (A := ⟨f0, f1, f2, f3, f4, f5, f6, f7, f8, f9, f10, f11, f12, f13, f14, f15, f16, f17, f18, f19, f20, f21, f22, f23, f24, f25, CReader, CTextError⟩) (D := ⟨PySem.W.fnOf "atom_text" "atom_text" (defArgs s_atom_text) (defBody s_atom_text) (defScope s_atom_text) .none kV0 dc0 pm0 an0 cd0 ct0, PySem.W.fnOf "record_text" "record_text" (defArgs s_record_text) (defBody s_record_text) (defScope s_record_text) .none kV1 dc1 pm1 an1 cd1 ct1, PySem.W.fnOf "format_type" "format_type" (defArgs s_format_type) (defBody s_format_type) (defScope s_format_type) .none kV2 dc2 pm2 an2 cd2 ct2, PySem.W.fnOf "word_end" "word_end" (defArgs s_word_end) (defBody s_word_end) (defScope s_word_end) .none kV3 dc3 pm3 an3 cd3 ct3, PySem.W.fnOf "words_in" "words_in" (defArgs s_words_in) (defBody s_words_in) (defScope s_words_in) .none kV4 dc4 pm4 an4 cd4 ct4, PySem.W.fnOf "head" "Reader.head" (defArgs s_Reader_head) (defBody s_Reader_head) (defScope s_Reader_head) .none kV5 dc5 pm5 an5 cd5 ct5, PySem.W.fnOf "fail" "Reader.fail" (defArgs s_Reader_fail) (defBody s_Reader_fail) (defScope s_Reader_fail) .none kV6 dc6 pm6 an6 cd6 ct6, PySem.W.fnOf "need" "Reader.need" (defArgs s_Reader_need) (defBody s_Reader_need) (defScope s_Reader_need) .none kV7 dc7 pm7 an7 cd7 ct7, PySem.W.fnOf "is_variable" "Reader.is_variable" (defArgs s_Reader_is_variable) (defBody s_Reader_is_variable) (defScope s_Reader_is_variable) .none kV8 dc8 pm8 an8 cd8 ct8, PySem.W.fnOf "whole" "Reader.whole" (defArgs s_Reader_whole) (defBody s_Reader_whole) (defScope s_Reader_whole) .none kV9 dc9 pm9 an9 cd9 ct9, PySem.W.fnOf "applied" "Reader.applied" (defArgs s_Reader_applied) (defBody s_Reader_applied) (defScope s_Reader_applied) .none kV10 dc10 pm10 an10 cd10 ct10, PySem.W.fnOf "one" "Reader.one" (defArgs s_Reader_one) (defBody s_Reader_one) (defScope s_Reader_one) .none kV11 dc11 pm11 an11 cd11 ct11, PySem.W.fnOf "record" "Reader.record" (defArgs s_Reader_record) (defBody s_Reader_record) (defScope s_Reader_record) .none kV12 dc12 pm12 an12 cd12 ct12, PySem.W.fnOf "parse_type" "parse_type" (defArgs s_parse_type) (defBody s_parse_type) (defScope s_parse_type) .none kV13 dc13 pm13 an13 cd13 ct13, PySem.W.fnOf "_law_begin" "_law_begin" (defArgs s__law_begin) (defBody s__law_begin) (defScope s__law_begin) .none kV14 dc14 pm14 an14 cd14 ct14, PySem.W.fnOf "_law_take" "_law_take" (defArgs s__law_take) (defBody s__law_take) (defScope s__law_take) .none kV15 dc15 pm15 an15 cd15 ct15, PySem.W.fnOf "_law_pick" "_law_pick" (defArgs s__law_pick) (defBody s__law_pick) (defScope s__law_pick) .none kV16 dc16 pm16 an16 cd16 ct16, PySem.W.fnOf "_law_fun" "_law_fun" (defArgs s__law_fun) (defBody s__law_fun) (defScope s__law_fun) .none kV17 dc17 pm17 an17 cd17 ct17, PySem.W.fnOf "_law_int" "_law_int" (defArgs s__law_int) (defBody s__law_int) (defScope s__law_int) .none kV18 dc18 pm18 an18 cd18 ct18, PySem.W.fnOf "_law_list" "_law_list" (defArgs s__law_list) (defBody s__law_list) (defScope s__law_list) .none kV19 dc19 pm19 an19 cd19 ct19, PySem.W.fnOf "_law_type" "_law_type" (defArgs s__law_type) (defBody s__law_type) (defScope s__law_type) .none kV20 dc20 pm20 an20 cd20 ct20, PySem.W.fnOf "_law_told" "_law_told" (defArgs s__law_told) (defBody s__law_told) (defScope s__law_told) .none kV21 dc21 pm21 an21 cd21 ct21, PySem.W.fnOf "_law_text" "_law_text" (defArgs s__law_text) (defBody s__law_text) (defScope s__law_text) .none kV22 dc22 pm22 an22 cd22 ct22, PySem.W.fnOf "law" "law" (defArgs s_law) (defBody s_law) (defScope s_law) .none kV23 dc23 pm23 an23 cd23 ct23, PySem.W.fnOf "__init__" "Reader.__init__" (defArgs s_Reader_init) (defBody s_Reader_init) (defScope s_Reader_init) .none kV24 dc24 pm24 an24 cd24 ct24, PySem.W.ksFn "__init__" "TextError.__init__" (defArgs s_TextError_init) (defBody s_TextError_init) (defScope s_TextError_init) .none kV25 dc25 pm25 an25 (.ref cdaTextError) ct25 ccTextError⟩) hG ⟨F0, F1, F2, F3, F4, F5, F6, F7, F8, F9, F10, F11, F12, F13, F14, F15, F16, F17, F18, F19, F20, F21, F22, F23, F24⟩ T ⟨b0, b1, b2, b3, b4, b5, b6, b7, b8, b9, b10, b11, b12, b13, b14, b15, b16, b17, b18, b19, b20, b21, b22, b23, b24, b25⟩ (fn_init2b l25 c25 YTextError TTextError STextError nTextErrorcode nTextErrorat (by rfl) (by rfl) (by rfl) (by intros; rfl) (by decide) (by decide) (by decide) (by decide) (by decide) (by decide))
theorem walk {l : PySem.W.OpenLaw} {q : Program} {loose : List Str} {XP : (Str → Option Value) → Heap → Prop} {YP : World → Heap → Prop} {d : DefRec} {K : Params → PySem.W.Frag} (hn : l.most = some 63) (hp : l.prog = PySem.Challenge.pw_tyloom_k03_whole_texts_of_types) (hdf : d.params.defaults = [])
    (hY : ∀ (w : World) (h : Heap), YP w h → (K w.params).In h)
    (F : ∀ (w : World) (mg : Str → Option Value) (fa : Addr) (h : Heap), (K w.params).In h → h.Ns mainGlobals mg → mg d.name = some (.ref fa) →
      ∃ fd : FuncData, (∀ (s : Shared) (u : Value), BindsTo s fd ⟨[u], []⟩ [("script", u)]) ∧ ∀ base : Heap, (K w.params).In base → base.Ns mainGlobals mg → FnOk PySem.Challenge.pw_tyloom_k03_whole_texts_of_types w (K w.params) mg base (L2.CX PySem.Challenge.pw_tyloom_k03_whole_texts_of_types w) (225 + 3) fa fd ["script"] (spLaw (K w.params))) :
    PySem.W.WalkO q loose XP YP l.row.toRowW d [] (fun f vs => PySem.call f vs) :=
  L2.walk_of (n := 63) (k := 225 + 3) (x := "script") (CX := fun w => L2.CX PySem.Challenge.pw_tyloom_k03_whole_texts_of_types w) (sp := fun w => spLaw (K w.params)) hn (by decide) hdf ⟨rfl, by decide, by decide⟩ hY (by rw [hp]; exact F) (fun _ _ a ns hl hO hS => ⟨a, ns, rfl, hS, hl, hO, fun _ => rfl⟩) fun _ _ _ _ _ z => by
    obtain ⟨_, _, _, _, _, _, _, _, _, _, _, _, z⟩ := z
    exact z
theorem good : Good 225 := fun A ns _ => run_law A ns
end K03
open PySem PySem.W PyProof.Rows
set_option maxRecDepth 100000 in
set_option maxHeartbeats 0 in
theorem PySem.Challenge.cw_tyloom_k03_whole_texts_of_types_holds : PySem.Challenge.rw_tyloom_k03_whole_texts_of_types.Holds := by
  w_on; o_law; k_head; (case hw => w_witness2)
  k_fill
  refine K03.walk (l := PySem.Challenge.rw_tyloom_k03_whole_texts_of_types) rfl rfl rfl (fun w h Y => PySem.W.kIn_of Y) ?F
  case F =>
    intro w mg fa h KX G hmg
    refine' K03.all_mk KX G hmg K03.good ?aCReader ?aCTextError ?a0 ?l0 ?c0 ?k0 ?a1 ?l1 ?c1 ?k1 ?a2 ?l2 ?c2 ?k2 ?a3 ?l3 ?c3 ?k3 ?a4 ?l4 ?c4 ?k4 ?a5 ?i5 ?l5 ?c5 ?k5 ?a6 ?i6 ?l6 ?c6 ?k6 ?a7 ?i7 ?l7 ?c7 ?k7 ?a8 ?i8 ?l8 ?c8 ?k8 ?a9 ?i9 ?l9 ?c9 ?k9 ?a10 ?i10 ?l10 ?c10 ?k10 ?a11 ?i11 ?l11 ?c11 ?k11 ?a12 ?i12 ?l12 ?c12 ?k12 ?a13 ?l13 ?c13 ?k13 ?a14 ?l14 ?c14 ?k14 ?a15 ?l15 ?c15 ?k15 ?a16 ?l16 ?c16 ?k16 ?a17 ?l17 ?c17 ?k17 ?a18 ?l18 ?c18 ?k18 ?a19 ?l19 ?c19 ?k19 ?a20 ?l20 ?c20 ?k20 ?a21 ?l21 ?c21 ?k21 ?a22 ?l22 ?c22 ?k22 ?a23 ?l23 ?c23 ?k23 ?a24 ?i24 ?l24 ?c24 ?k24 ?pgReader ?hdReader ?poReader ?saReader ?mkReader ?kcReader ?nReaderwords ?nReaderat ?xLTextError ?saTextError ?gaTextError ?ggTextError ?nTextErrorcode ?nTextErrorat ?a25 ?t25 ?l25 ?v25 ?c25 ?kCTextError ?eCTextError ?tCTextError ?hCTextError ?iCTextError ?sCTextError ?coTextError ?cvTextError ?cfTextError ?ceTextError ?dcTextError ?mrTextError ?siTextError ?ivTextError ?zsuper ?opq ?vVAR ?vCON ?vREC ?vALL ?vLOW ?vHIGH ?vDIGITS ?vSHORT ?vARROW ?zlen ?zint ?zabs ?zlist ?ztuple ?zany ?zsorted ?zrange
    (case aCReader => k_is)
    (case aCTextError => k_is)
    (case a0 => k_is)
    (case l0 => k_is)
    (case c0 => k_is)
    (case k0 => k_is)
    (case a1 => k_is)
    (case l1 => k_is)
    (case c1 => k_is)
    (case k1 => k_is)
    (case a2 => k_is)
    (case l2 => k_is)
    (case c2 => k_is)
    (case k2 => k_is)
    (case a3 => k_is)
    (case l3 => k_is)
    (case c3 => k_is)
    (case k3 => k_is)
    (case a4 => k_is)
    (case l4 => k_is)
    (case c4 => k_is)
    (case k4 => k_is)
    (case a5 => k_is)
    (case i5 => k_is)
    (case l5 => k_is)
    (case c5 => k_is)
    (case k5 => k_is)
    (case a6 => k_is)
    (case i6 => k_is)
    (case l6 => k_is)
    (case c6 => k_is)
    (case k6 => k_is)
    (case a7 => k_is)
    (case i7 => k_is)
    (case l7 => k_is)
    (case c7 => k_is)
    (case k7 => k_is)
    (case a8 => k_is)
    (case i8 => k_is)
    (case l8 => k_is)
    (case c8 => k_is)
    (case k8 => k_is)
    (case a9 => k_is)
    (case i9 => k_is)
    (case l9 => k_is)
    (case c9 => k_is)
    (case k9 => k_is)
    (case a10 => k_is)
    (case i10 => k_is)
    (case l10 => k_is)
    (case c10 => k_is)
    (case k10 => k_is)
    (case a11 => k_is)
    (case i11 => k_is)
    (case l11 => k_is)
    (case c11 => k_is)
    (case k11 => k_is)
    (case a12 => k_is)
    (case i12 => k_is)
    (case l12 => k_is)
    (case c12 => k_is)
    (case k12 => k_is)
    (case a13 => k_is)
    (case l13 => k_is)
    (case c13 => k_is)
    (case k13 => k_is)
    (case a14 => k_is)
    (case l14 => k_is)
    (case c14 => k_is)
    (case k14 => k_is)
    (case a15 => k_is)
    (case l15 => k_is)
    (case c15 => k_is)
    (case k15 => k_is)
    (case a16 => k_is)
    (case l16 => k_is)
    (case c16 => k_is)
    (case k16 => k_is)
    (case a17 => k_is)
    (case l17 => k_is)
    (case c17 => k_is)
    (case k17 => k_is)
    (case a18 => k_is)
    (case l18 => k_is)
    (case c18 => k_is)
    (case k18 => k_is)
    (case a19 => k_is)
    (case l19 => k_is)
    (case c19 => k_is)
    (case k19 => k_is)
    (case a20 => k_is)
    (case l20 => k_is)
    (case c20 => k_is)
    (case k20 => k_is)
    (case a21 => k_is)
    (case l21 => k_is)
    (case c21 => k_is)
    (case k21 => k_is)
    (case a22 => k_is)
    (case l22 => k_is)
    (case c22 => k_is)
    (case k22 => k_is)
    (case a23 => k_is)
    (case l23 => k_is)
    (case c23 => k_is)
    (case k23 => k_is)
    (case a24 => k_is)
    (case i24 => k_is)
    (case l24 => k_is)
    (case c24 => k_is)
    (case k24 => k_is)
    (case pgReader => k_is)
    (case hdReader => k_is)
    (case poReader => k_is)
    (case saReader => k_is)
    (case mkReader => k_is)
    (case kcReader => k_is)
    (case nReaderwords => k_is)
    (case nReaderat => k_is)
    (case xLTextError => k_is)
    (case saTextError => k_is)
    (case gaTextError => k_is)
    (case ggTextError => k_is)
    (case nTextErrorcode => k_is)
    (case nTextErrorat => k_is)
    (case a25 => k_is)
    (case t25 => k_is)
    (case l25 => k_is)
    (case v25 => first | rfl | decide +kernel | kernel_rfl | k_is)
    (case c25 => k_is)
    (case kCTextError => k_is)
    (case eCTextError => k_is)
    (case tCTextError => k_is)
    (case hCTextError => k_is)
    (case iCTextError => k_is)
    (case sCTextError => k_is)
    (case coTextError => k_is)
    (case cvTextError => first | rfl | decide +kernel | kernel_rfl | k_is)
    (case cfTextError => first | rfl | decide +kernel | kernel_rfl | k_is)
    (case ceTextError => k_is)
    (case dcTextError => k_is)
    (case mrTextError => k_is)
    (case siTextError => first | ks_is | k_is)
    (case ivTextError => k_is)
    (case zsuper => k_is)
    (case opq => k_is)
    (case vVAR => k_is)
    (case vCON => k_is)
    (case vREC => k_is)
    (case vALL => k_is)
    (case vLOW => k_is)
    (case vHIGH => k_is)
    (case vDIGITS => k_is)
    (case vSHORT => k_is)
    (case vARROW => k_is)
    (case zlen => k_is)
    (case zint => k_is)
    (case zabs => k_is)
    (case zlist => k_is)
    (case ztuple => k_is)
    (case zany => k_is)
    (case zsorted => k_is)
    (case zrange => k_is)
#print axioms PySem.Challenge.cw_tyloom_k03_whole_texts_of_types_holds
