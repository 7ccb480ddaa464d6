import PyProof.Rows.All
import Wide.All
import OpenK.AllK
import Wide.FinOn
import HandS.ForMost
import HandS.ForExc
import KE.KDictKeyed
import KE.DataCmp
import HandS.CallSlots
import HandS.Defaults
import HandS.TupAny
import HandS.IsInst
import HandS.Style
import HandS.RaiseMore
import KE.KDictWalk
import HandS.MakeKwOnly
import HandS.Star
import HandS.More
import HandS.WordsExc
import HandS.Ends
import HandS.HeadEnd
import HandS.Head0
import HandS.Head1
import HandS.Head2
import HandS.HeadHook1
import HandS.HeadHook2
import HandS.Words
import KE.KStateDown
import PySem.Challenge.RW_askshanded_k10_a_dealer_of_rows
set_option Elab.async false
set_option linter.all false
set_option maxRecDepth 100000
set_option maxHeartbeats 0
/-! Pu: pure data over the hand layer's abstract heaps. D: immutable data by value; U: data or a cell of the store;
    Rep: a value V in an abstract heap H bears the datum; Rel: the store is borne; Evo: how a heap may go on. -/
namespace Pu
open PySem L2

inductive D where
  | non | bl (b : Bool) | int (i : Int) | str (x : Str) | tup (xs : List D) | lst (xs : List D)
  | dic (kvs : List (D × D)) | ins (c : Nat) (fs : List (Str × D)) | cls (c : Nat) | ty (n : String) | frl (xs : List D)

noncomputable instance : DecidableEq D := fun _ _ => Classical.propDecidable _

inductive U where
  | v (d : D) | r (n : Nat)

inductive Cell where
  | lst (xs : List U) | dic (kvs : List (D × U)) | ins (c : Nat) (fs : List (Str × U)) | dead

noncomputable instance : DecidableEq U := fun _ _ => Classical.propDecidable _
noncomputable instance : DecidableEq Cell := fun _ _ => Classical.propDecidable _
abbrev Sto := List Cell
abbrev Env' := List (Option U)

/-- the text: the program, the world, what the top has written, the classes' addresses -/
structure Bx where
  prog : Program
  w : World
  K : PySem.W.Frag
  cl : Nat → Addr

/-- the key of a datum -/
def nkey : D → Option NestedKey
  | .non => some .none
  | .int i => some (.num i)
  | .str x => some (.text x)
  | .tup xs => (nkeys xs).map .tup
  | _ => none
where nkeys : List D → Option (List NestedKey)
  | [] => some []
  | x :: xs => match nkey x, nkeys xs with
    | some k, some ks => some (k :: ks)
    | _, _ => none

/-- the raw entries of a dict -/
abbrev Ent := NestedKey × Addr × Value
def DRaw (P : Program) (w : World) (a : Addr) (xs : List Ent) (h : Heap) : Prop :=
  ∃ o es ep, h.get? a = some o ∧ o.ExactDict ∧ o.data = .dict es ep ∧ es.toList = xs.map (entryOfKey (nestedKind P w)) ∧ (xs.map (·.1)).Nodup ∧ (a == sysModules) = false
def dicO (P : Program) (w : World) (a : Addr) (xs : List Ent) : HO := .ext (DRaw P w a xs)

/-- a list that stays as it is: locked, or of the written part -/
def Lk (K : PySem.W.Frag) (F : Addr → Prop) (H : Hp) (a : Addr) (xs : List V) : Prop := (F a ∧ ∃ o, H a = some (.frz o (.lst xs))) ∨
  ∃ (o : Obj) (its : Array Value) (n : Nat), K.lookup a = some o ∧ o.cls = .type "list" ∧ o.dict = none ∧ o.data = .seq its n ∧ its.size ≤ sizeLine ∧ Vals xs its.toList
theorem Lk.sq {K : PySem.W.Frag} {F : Addr → Prop} {H : Hp} {a : Addr} {xs : List V} (h : Lk K F H a xs) : SqL K H a xs := by
  rcases h with ⟨_, o, h⟩ | h
  · exact .inl (.inr ⟨o, h⟩)
  · exact .inr h
section
variable (B : Bx) (F : Addr → Prop) (H : Hp)
mutual
inductive Rep : V → D → Prop
  | non : Rep .non .non
  | bl (b : Bool) : Rep (.bl b) (.bl b)
  | int (i : Int) : Rep (.int i) (.int i)
  | str (x : Str) : PyData.strOk x = true → Rep (.str x) (.str x)
  | tup {a : Addr} {vs : List V} {ds : List D} : H a = some (.tup vs) → Reps vs ds → Rep (.ref a) (.tup ds)
  | lst {a : Addr} {vs : List V} {ds : List D} : F a → H a = some (.lst vs) → Reps vs ds → Rep (.ref a) (.lst ds)
  | frl {a : Addr} {vs : List V} {ds : List D} : Lk B.K F H a vs → Reps vs ds → Rep (.ref a) (.frl ds)
  | dic {a : Addr} {xs : List Ent} {kvs : List (D × D)} : F a → H a = some (dicO B.prog B.w a xs) → xs.length ≤ sizeLine → RepK xs kvs → Rep (.ref a) (.dic kvs)
  | ins {a dx : Addr} {c : Nat} {vs : List (Str × V)} {fs : List (Str × D)} : F a → F dx → H a = some (.ins (B.cl c) dx vs) → H dx = some (.own a) → RepF vs fs → Rep (.ref a) (.ins c fs)
  | cls (c : Nat) : Rep (.ref (B.cl c)) (.cls c)
  | ty (n : String) : Rep (.ty n) (.ty n)
inductive Reps : List V → List D → Prop
  | nil : Reps [] []
  | cons {v : V} {vs : List V} {d : D} {ds : List D} : Rep v d → Reps vs ds → Reps (v :: vs) (d :: ds)
inductive RepK : List Ent → List (D × D) → Prop
  | nil : RepK [] []
  | cons {nk : NestedKey} {b : Addr} {u : Value} {v : V} {k d : D} {xs : List Ent} {kvs : List (D × D)} : nkey k = some nk → Rep (.ref b) k → nk.depth ≤ 8 → RelV v u → Rep v d → RepK xs kvs → RepK ((nk, b, u) :: xs) ((k, d) :: kvs)
inductive RepF : List (Str × V) → List (Str × D) → Prop
  | nil : RepF [] []
  | cons {x : Str} {v : V} {d : D} {vs : List (Str × V)} {fs : List (Str × D)} : Rep v d → RepF vs fs → RepF ((x, v) :: vs) ((x, d) :: fs)
end
end

/-- a value, a cell of the store -/
inductive RepU (B : Bx) (ι : List Addr) (F : Addr → Prop) (H : Hp) : V → U → Prop
  | v {v : V} {d : D} : Rep B F H v d → RepU B ι F H v (.v d)
  | r {n : Nat} {a : Addr} : ι[n]? = some a → RepU B ι F H (.ref a) (.r n)
abbrev RepUs (B : Bx) (ι : List Addr) (F : Addr → Prop) (H : Hp) : List V → List U → Prop := Paired (RepU B ι F H)
/-- a dict's entries, a cell's -/
def RepKU (B : Bx) (ι : List Addr) (F : Addr → Prop) (H : Hp) : List Ent → List (D × U) → Prop :=
  Paired fun (e : Ent) (p : D × U) => nkey p.1 = some e.1 ∧ Rep B F H (.ref e.2.1) p.1 ∧ e.1.depth ≤ 8 ∧ ∃ v, RelV v e.2.2 ∧ RepU B ι F H v p.2
def RepFU (B : Bx) (ι : List Addr) (F : Addr → Prop) (H : Hp) : List (Str × V) → List (Str × U) → Prop :=
  Paired fun (e : Str × V) (p : Str × U) => e.1 = p.1 ∧ RepU B ι F H e.2 p.2

/-- the cell c stands at a -/
def CellOk (B : Bx) (ι : List Addr) (F : Addr → Prop) (H : Hp) (a : Addr) : Cell → Prop
  | .lst xs => ∃ vs, H a = some (.lst vs) ∧ RepUs B ι F H vs xs
  | .dic kvs => ∃ es, H a = some (dicO B.prog B.w a es) ∧ es.length ≤ sizeLine ∧ RepKU B ι F H es kvs
  | .ins c fs => ∃ dx vs, H a = some (.ins (B.cl c) dx vs) ∧ H dx = some (.own a) ∧ ¬ F dx ∧ RepFU B ι F H vs fs
  | .dead => True
def Cell.live : Cell → Bool
  | .dead => false
  | _ => true

structure Rel (B : Bx) (ι : List Addr) (F : Addr → Prop) (S : Sto) (H : Hp) : Prop where
  len : ι.length = S.length
  nd : ι.Nodup
  nf : ∀ (n : Nat) (a : Addr) (c : Cell), ι[n]? = some a → S[n]? = some c → c.live = true → ¬ F a
  ok : ∀ (n : Nat) (a : Addr) (c : Cell), ι[n]? = some a → S[n]? = some c → CellOk B ι F H a c
  there : ∀ a ∈ ι, H a ≠ none
  fthere : ∀ a, F a → H a ≠ none
  now : ∀ a ∈ ι, ∀ x, H a ≠ some (.own x)

structure Evo (ι : List Addr) (F : Addr → Prop) (H : Hp) (ι' : List Addr) (F' : Addr → Prop) (H' : Hp) : Prop where
  pre : ∀ (n : Nat) (a : Addr), ι[n]? = some a → ι'[n]? = some a
  sub : ∀ a, F a → F' a
  keep : ∀ a o, F a → H a = some o → H' a = some o
  tups : ∀ a xs, H a = some (.tup xs) → H' a = some (.tup xs)
  alive : ∀ a, H a ≠ none → H' a ≠ none

theorem Evo.refl {ι : List Addr} {F : Addr → Prop} {H : Hp} : Evo ι F H ι F H := ⟨fun _ _ h => h, fun _ h => h, fun _ _ _ h => h, fun _ _ h => h, fun _ h => h⟩
theorem Evo.trans {ι ι1 ι2 : List Addr} {F F1 F2 : Addr → Prop} {H H1 H2 : Hp} (a : Evo ι F H ι1 F1 H1) (b : Evo ι1 F1 H1 ι2 F2 H2) : Evo ι F H ι2 F2 H2 :=
  ⟨fun n x h => b.pre n x (a.pre n x h), fun x h => b.sub x (a.sub x h), fun x o f h => b.keep x o (a.sub x f) (a.keep x o f h), fun x xs h => b.tups x xs (a.tups x xs h), fun x h => b.alive x (a.alive x h)⟩

section
variable {B : Bx} {ι ι' : List Addr} {F F' : Addr → Prop} {H H' : Hp}
theorem Evo.rd (e : Evo ι F H ι' F' H') {a : Addr} {u : HO} (f : F a) (h : Rd H a u) : Rd H' a u := by
  rcases h with h | ⟨o, h⟩
  · exact .inl (e.keep a _ f h)
  · exact .inr ⟨o, e.keep a _ f h⟩
mutual
theorem Rep.mono (e : Evo ι F H ι' F' H') : ∀ {v : V} {d : D}, Rep B F H v d → Rep B F' H' v d
  | _, _, .non => .non
  | _, _, .bl b => .bl b
  | _, _, .int i => .int i
  | _, _, .str x h => .str x h
  | _, _, .tup h r => .tup (e.tups _ _ h) (Reps.mono e r)
  | _, _, .lst f h r => .lst (e.sub _ f) (e.keep _ _ f h) (Reps.mono e r)
  | _, _, .frl h r => .frl (by
    rcases h with ⟨f, o, h⟩ | h
    · exact .inl ⟨e.sub _ f, o, e.keep _ _ f h⟩
    · exact .inr h) (Reps.mono e r)
  | _, _, .dic f h z r => .dic (e.sub _ f) (e.keep _ _ f h) z (RepK.mono e r)
  | _, _, .ins f g h h2 r => .ins (e.sub _ f) (e.sub _ g) (e.keep _ _ f h) (e.keep _ _ g h2) (RepF.mono e r)
  | _, _, .cls c => .cls c
  | _, _, .ty n => .ty n
theorem Reps.mono (e : Evo ι F H ι' F' H') : ∀ {v : List V} {d : List D}, Reps B F H v d → Reps B F' H' v d
  | _, _, .nil => .nil
  | _, _, .cons a b => .cons (Rep.mono e a) (Reps.mono e b)
theorem RepK.mono (e : Evo ι F H ι' F' H') : ∀ {v : List Ent} {d : List (D × D)}, RepK B F H v d → RepK B F' H' v d
  | _, _, .nil => .nil
  | _, _, .cons a b c d f g => .cons a (Rep.mono e b) c d (Rep.mono e f) (RepK.mono e g)
theorem RepF.mono (e : Evo ι F H ι' F' H') : ∀ {v : List (Str × V)} {d : List (Str × D)}, RepF B F H v d → RepF B F' H' v d
  | _, _, .nil => .nil
  | _, _, .cons a b => .cons (Rep.mono e a) (RepF.mono e b)
end
theorem RepU.mono (e : Evo ι F H ι' F' H') {v : V} {u : U} (h : RepU B ι F H v u) : RepU B ι' F' H' v u := by
  cases h with
  | v h => exact .v (h.mono e)
  | r h => exact .r (e.pre _ _ h)
theorem RepUs.mono (e : Evo ι F H ι' F' H') {v : List V} {u : List U} (h : RepUs B ι F H v u) : RepUs B ι' F' H' v u := Paired.mapP h fun _ _ x => x.mono e
theorem RepKU.mono (e : Evo ι F H ι' F' H') {v : List Ent} {u : List (D × U)} (h : RepKU B ι F H v u) : RepKU B ι' F' H' v u :=
  Paired.mapP h fun _ _ ⟨a, b, c, w, x, y⟩ => ⟨a, b.mono e, c, w, x, y.mono e⟩
theorem RepFU.mono (e : Evo ι F H ι' F' H') {v : List (Str × V)} {u : List (Str × U)} (h : RepFU B ι F H v u) : RepFU B ι' F' H' v u :=
  Paired.mapP h fun _ _ ⟨a, b⟩ => ⟨a, b.mono e⟩
end
end Pu
/-! Pu: results, what is wanted behind a piece, the store's steps. -/
namespace Pu
open PySem L2

abbrev bx (X : Cx) (cl : Nat → Addr) : Bx := ⟨X.prog, X.w, X.K, cl⟩

inductive R (α : Type) where
  | ok (a : α) (S : Sto) | ex (c : Nat) (fs : List (Str × U)) (S : Sto) | er
def R.bind {α β : Type} (r : R α) (k : α → Sto → R β) : R β := match r with
  | .ok a S => k a S
  | .ex c fs S => .ex c fs S
  | .er => .er
@[simp] theorem R.bind_ok {α β : Type} (a : α) (S : Sto) (k : α → Sto → R β) : (R.ok a S).bind k = k a S := rfl
@[simp] theorem R.bind_ex {α β : Type} (c : Nat) (fs : List (Str × U)) (S : Sto) (k : α → Sto → R β) : (R.ex c fs S : R α).bind k = .ex c fs S := rfl
@[simp] theorem R.bind_er {α β : Type} (k : α → Sto → R β) : (R.er : R α).bind k = .er := rfl

abbrev ME := Env' → Sto → R U
abbrev MT := Env' → Sto → R Bool
abbrev MA := Env' → Sto → R (List U)
abbrev MG := U → Env' → Option Env'
/-- a statement's end -/
inductive RS where
  | nx (ρ : Env') (S : Sto) | rt (u : U) (S : Sto) | bk (ρ : Env') (S : Sto) | ct (ρ : Env') (S : Sto) | ex (c : Nat) (fs : List (Str × U)) (ρ : Env') (S : Sto) | er
abbrev MS := Env' → Sto → RS

/-- a slot -/
def RepO (B : Bx) (ι : List Addr) (F : Addr → Prop) (H : Hp) : Option V → Option U → Prop
  | _, none => True
  | some v, some u => RepU B ι F H v u
  | none, some _ => False
abbrev REnv (B : Bx) (ι : List Addr) (F : Addr → Prop) (H : Hp) : St → Env' → Prop := Paired (RepO B ι F H)

section
variable {B : Bx} {ι ι' : List Addr} {F F' : Addr → Prop} {H H' : Hp}
theorem RepO.mono (e : Evo ι F H ι' F' H') : ∀ {v : Option V} {u : Option U}, RepO B ι F H v u → RepO B ι' F' H' v u
  | _, none, _ => by unfold RepO; split <;> trivial
  | some v, some u, h => RepU.mono e (show RepU B ι F H v u from h)
  | none, some u, h => False.elim h
theorem REnv.mono (e : Evo ι F H ι' F' H') {σ : St} {ρ : Env'} (h : REnv B ι F H σ ρ) : REnv B ι' F' H' σ ρ := Paired.mapP h fun _ _ x => x.mono e
theorem paired_get {α β : Type} {P : α → β → Prop} : ∀ {xs : List α} {ys : List β} {i : Nat} {y : β}, Paired P xs ys → ys[i]? = some y → ∃ x, xs[i]? = some x ∧ P x y
  | _, _, _, _, .nil, h => by simp at h
  | _, _, 0, _, .cons r _, h => by simp at h; subst h; exact ⟨_, rfl, r⟩
  | _, _, i + 1, y, .cons _ t, h => by
    obtain ⟨x, h1, h2⟩ := paired_get (i := i) (y := y) t (by simpa using h)
    exact ⟨x, by simpa using h1, h2⟩
theorem paired_get' {α β : Type} {P : α → β → Prop} : ∀ {xs : List α} {ys : List β} {i : Nat} {x : α}, Paired P xs ys → xs[i]? = some x → ∃ y, ys[i]? = some y ∧ P x y
  | _, _, _, _, .nil, h => by simp at h
  | _, _, 0, _, .cons r _, h => by simp at h; subst h; exact ⟨_, rfl, r⟩
  | _, _, i + 1, y, .cons _ t, h => by
    obtain ⟨x, h1, h2⟩ := paired_get' (i := i) (x := y) t (by simpa using h)
    exact ⟨x, by simpa using h1, h2⟩
theorem paired_set {α β : Type} {P : α → β → Prop} {x : α} {y : β} (r : P x y) : ∀ {xs : List α} {ys : List β} (i : Nat), Paired P xs ys → Paired P (xs.set i x) (ys.set i y)
  | _, _, _, .nil => .nil
  | _, _, 0, .cons _ t => .cons r t
  | _, _, i + 1, .cons q t => .cons q (paired_set r i t)
theorem paired_append {α β : Type} {P : α → β → Prop} : ∀ {xs xs' : List α} {ys ys' : List β}, Paired P xs ys → Paired P xs' ys' → Paired P (xs ++ xs') (ys ++ ys')
  | _, _, _, _, .nil, h => h
  | _, _, _, _, .cons a b, h => .cons a (paired_append b h)
theorem paired_len {α β : Type} {P : α → β → Prop} : ∀ {xs : List α} {ys : List β}, Paired P xs ys → xs.length = ys.length
  | _, _, .nil => rfl
  | _, _, .cons _ b => by simp [paired_len b]
theorem paired_take {α β : Type} {P : α → β → Prop} : ∀ {xs : List α} {ys : List β} (n : Nat), Paired P xs ys → Paired P (xs.take n) (ys.take n)
  | _, _, 0, _ => by simp; exact .nil
  | _, _, _ + 1, .nil => by simp; exact .nil
  | _, _, n + 1, .cons a b => by simp; exact .cons a (paired_take n b)
theorem paired_drop {α β : Type} {P : α → β → Prop} : ∀ {xs : List α} {ys : List β} (n : Nat), Paired P xs ys → Paired P (xs.drop n) (ys.drop n)
  | _, _, 0, h => by simpa using h
  | _, _, _ + 1, .nil => by simp; exact .nil
  | _, _, n + 1, .cons a b => by simpa using paired_drop n b
theorem paired_rev {α β : Type} {P : α → β → Prop} : ∀ {xs : List α} {ys : List β}, Paired P xs ys → Paired P xs.reverse ys.reverse
  | _, _, .nil => .nil
  | _, _, .cons a b => by simp only [List.reverse_cons]; exact paired_append (paired_rev b) (.cons a .nil)
theorem reps_iff : ∀ {vs : List V} {ds : List D}, Reps B F H vs ds ↔ Paired (Rep B F H) vs ds
  | [], [] => ⟨fun _ => .nil, fun _ => .nil⟩
  | [], _ :: _ => ⟨nofun, nofun⟩
  | _ :: _, [] => ⟨nofun, nofun⟩
  | v :: vs, d :: ds => ⟨fun | .cons a b => .cons a (reps_iff.mp b), fun | .cons a b => .cons a (reps_iff.mpr b)⟩
theorem reps_u {vs : List V} {ds : List D} (h : Reps B F H vs ds) : RepUs B ι F H vs (ds.map U.v) := by
  have := reps_iff.mp h
  clear h
  induction this with
  | nil => exact .nil
  | cons a b ih => exact .cons (.v a) ih
/-- what a list of U's is as data -/
def allV : List U → Option (List D)
  | [] => some []
  | .v d :: us => (allV us).map (d :: ·)
  | .r _ :: _ => none
@[simp] theorem allV_map (ds : List D) : allV (ds.map U.v) = some ds := by
  induction ds with
  | nil => rfl
  | cons d ds ih => simp [allV, ih]
theorem allV_some : ∀ {us : List U} {ds : List D}, allV us = some ds → us = ds.map U.v
  | [], ds, h => by simp [allV] at h; subst h; rfl
  | .v d :: us, ds, h => by
    cases e : allV us with
    | none => simp [allV, e] at h
    | some es =>
      simp [allV, e] at h
      subst h
      simp [allV_some e]
  | .r _ :: _, ds, h => by simp [allV] at h
theorem repus_reps : ∀ {vs : List V} {ds : List D}, RepUs B ι F H vs (ds.map U.v) → Reps B F H vs ds
  | _, [], h => by cases h; exact .nil
  | _, d :: ds, h => by
    cases h with
    | cons a b =>
      cases a with
      | v a => exact .cons a (repus_reps b)
end

/-! ### heaps that go on -/
section
variable {B : Bx} {ι ι' : List Addr} {F F' : Addr → Prop} {H H' : Hp} {S : Sto} {p : Addr} {o : HO}
theorem Evo.kept (k : ∀ a o, H a = some o → H' a = some o) (hF : ∀ a, F a → F' a) : Evo ι F H ι F' H' :=
  ⟨fun _ _ h => h, hF, fun a o _ h => k a o h, fun a xs h => k a _ h, fun a h => by
    cases e : H a with
    | none => exact absurd e h
    | some o => rw [k a o e]; simp⟩
theorem kept_upd (h : H p = none) : ∀ a u, H a = some u → upd H p o a = some u := fun a u e => by
  rw [upd_ne (ne_of_none e h)]; exact e
theorem CellOk.kept {a : Addr} {c : Cell} (k : ∀ a o, H a = some o → H' a = some o) (hF : ∀ a, F a → F' a) (hF2 : ∀ a, F' a → ¬ F a → H a = none) (e : Evo ι F H ι' F' H') (x : CellOk B ι F H a c) : CellOk B ι' F' H' a c := by
  cases c with
  | lst xs => obtain ⟨vs, h, r⟩ := x; exact ⟨vs, k _ _ h, r.mono e⟩
  | dic kvs => obtain ⟨es, h, z, r⟩ := x; exact ⟨es, k _ _ h, z, r.mono e⟩
  | ins c fs =>
    obtain ⟨dx, vs, h, h2, nf, r⟩ := x
    refine ⟨dx, vs, k _ _ h, k _ _ h2, fun z => ?_, r.mono e⟩
    have := hF2 dx z nf
    rw [h2] at this; cases this
  | dead => trivial
theorem Rel.ext (r : Rel B ι F S H) (k : ∀ a o, H a = some o → H' a = some o) (hF : ∀ a, F a → F' a) (hF2 : ∀ a, F' a → ¬ F a → H a = none) (hF3 : ∀ a, F' a → H' a ≠ none) : Rel B ι F' S H' := by
  have e : Evo ι F H ι F' H' := Evo.kept k hF
  refine ⟨r.len, r.nd, fun n a c h1 h2 h3 z => ?_, fun n a c h1 h2 => (r.ok n a c h1 h2).kept k hF hF2 e, fun a h => e.alive a (r.there a h), hF3, fun a h x z => ?_⟩
  · have := hF2 a z (r.nf n a c h1 h2 h3)
    exact r.there a (List.mem_of_getElem? h1) this
  · cases q : H a with
    | none => exact r.there a h q
    | some o => rw [k a o q] at z; cases z; exact r.now a h x q
/-- a new object that nobody owns (a tuple) -/
theorem Rel.new (r : Rel B ι F S H) (h : H p = none) : Rel B ι F S (upd H p o) :=
  r.ext (kept_upd h) (fun _ x => x) (fun _ x y => absurd x y) fun a f => (Evo.kept (ι := ι) (F' := F) (kept_upd (o := o) h) fun _ x => x).alive a (r.fthere a f)
theorem Evo.new (h : H p = none) : Evo ι F H ι F (upd H p o) := Evo.kept (kept_upd h) fun _ x => x
/-- a new object by value -/
abbrev addF (F : Addr → Prop) (p : Addr) : Addr → Prop := fun a => F a ∨ a = p
theorem Rel.newF (r : Rel B ι F S H) (h : H p = none) : Rel B ι (addF F p) S (upd H p o) :=
  r.ext (kept_upd h) (fun _ x => .inl x) (fun a x y => by
    rcases x with x | x
    · exact absurd x y
    · rw [x]; exact h) fun a f => by
    rcases f with f | f
    · exact (Evo.kept (ι := ι) (F' := F) (kept_upd (o := o) h) fun _ x => x).alive a (r.fthere a f)
    · rw [f, upd_same]; simp
theorem Evo.newF (h : H p = none) : Evo ι F H ι (addF F p) (upd H p o) := Evo.kept (kept_upd h) fun _ x => .inl x
/-- a new cell -/
theorem Evo.newS (h : H p = none) : Evo ι F H (ι ++ [p]) F (upd H p o) := by
  refine ⟨fun n a e => ?_, fun _ h => h, fun a o _ e => kept_upd h a o e, fun a xs e => kept_upd h a _ e, (Evo.new (ι := ι) (F := F) h).alive⟩
  rw [List.getElem?_append_left (List.getElem?_eq_some_iff.mp e).1]
  exact e
theorem Rel.newS {c : Cell} (r : Rel B ι F S H) (h : H p = none) (ho : ∀ x, o ≠ .own x) (new : CellOk B (ι ++ [p]) F (upd H p o) p c) : Rel B (ι ++ [p]) F (S ++ [c]) (upd H p o) := by
  have np : p ∉ ι := fun z => r.there p z h
  have e : Evo ι F H (ι ++ [p]) F (upd H p o) := Evo.newS h
  refine ⟨by simp [r.len], ?_, fun n a c' h1 h2 h3 z => ?_, fun n a c' h1 h2 => ?_, fun a ha => ?_, fun a f => e.alive a (r.fthere a f), fun a ha x z => ?_⟩
  · rw [List.nodup_append]
    exact ⟨r.nd, by simp, fun a ha b hb => by simp at hb; subst hb; rintro rfl; exact np ha⟩
  · by_cases hn : n < ι.length
    · rw [List.getElem?_append_left hn] at h1
      rw [List.getElem?_append_left (by rw [← r.len]; exact hn)] at h2
      exact r.nf n a c' h1 h2 h3 z
    · rw [List.getElem?_append_right (by omega)] at h1
      have hn0 : n - ι.length = 0 := by
        have := (List.getElem?_eq_some_iff.mp h1).1
        simp at this; omega
      rw [hn0] at h1
      simp at h1; subst h1
      exact r.fthere _ z h
  · by_cases hn : n < ι.length
    · rw [List.getElem?_append_left hn] at h1
      rw [List.getElem?_append_left (by rw [← r.len]; exact hn)] at h2
      exact (r.ok n a c' h1 h2).kept (kept_upd h) (fun _ x => x) (fun _ x y => absurd x y) e
    · rw [List.getElem?_append_right (by omega)] at h1
      rw [List.getElem?_append_right (by rw [← r.len]; omega)] at h2
      have hn0 : n - ι.length = 0 := by
        have := (List.getElem?_eq_some_iff.mp h1).1
        simp at this; omega
      rw [← r.len, hn0] at h2
      rw [hn0] at h1
      simp at h1 h2; subst h1; subst h2
      exact new
  · rcases List.mem_append.mp ha with ha | ha
    · exact e.alive a (r.there a ha)
    · simp at ha; subst ha; rw [upd_same]; simp
  · rcases List.mem_append.mp ha with ha | ha
    · rw [upd_ne (fun z' : a = p => np (by rw [← z']; exact ha))] at z
      exact r.now a ha x z
    · simp at ha; subst ha; rw [upd_same] at z; exact ho x (Option.some.inj z)
/-- a live cell is written: the object at its address changes -/
theorem Rel.write {n : Nat} {a : Addr} {c c' : Cell} (r : Rel B ι F S H) (h1 : ι[n]? = some a) (h2 : S[n]? = some c) (h3 : c.live = true) (ht : ∀ xs, H a ≠ some (.tup xs)) (ho : ∀ x, o ≠ .own x)
    (new : CellOk B ι F (upd H a o) a c') : Rel B ι F (S.set n c') (upd H a o) ∧ Evo ι F H ι F (upd H a o) := by
  have nf := r.nf n a c h1 h2 h3
  have hw := r.now a (List.mem_of_getElem? h1)
  have e : Evo ι F H ι F (upd H a o) := by
    refine ⟨fun _ _ h => h, fun _ h => h, fun b u f h => ?_, fun b xs h => ?_, fun b h => ?_⟩
    · rw [upd_ne (fun z : b = a => nf (by rw [← z]; exact f))]; exact h
    · rw [upd_ne (fun z : b = a => ht xs (by rw [← z]; exact h))]; exact h
    · by_cases hb : b = a
      · rw [hb, upd_same]; simp
      · rw [upd_ne hb]; exact h
  refine ⟨⟨by simp [r.len], r.nd, fun m b d g1 g2 g3 => ?_, fun m b d g1 g2 => ?_, fun b hb => e.alive b (r.there b hb), fun b hb => e.alive b (r.fthere b hb), fun b hb x z => ?_⟩, e⟩
  · by_cases hm : m = n
    · subst hm; rw [h1] at g1; cases g1; exact nf
    · rw [List.getElem?_set_ne (Ne.symm hm)] at g2
      exact r.nf m b d g1 g2 g3
  · by_cases hm : m = n
    · subst hm
      rw [h1] at g1; cases g1
      rw [List.getElem?_set_self (List.getElem?_eq_some_iff.mp h2).1] at g2
      cases g2
      exact new
    · rw [List.getElem?_set_ne (Ne.symm hm)] at g2
      have hba : b ≠ a := fun z => by
        subst z
        obtain ⟨q1, e1⟩ := List.getElem?_eq_some_iff.mp h1
        obtain ⟨q2, e2⟩ := List.getElem?_eq_some_iff.mp g1
        exact hm ((List.getElem_inj r.nd).mp (e2.trans e1.symm))
      have x := r.ok m b d g1 g2
      cases d with
      | lst xs => obtain ⟨vs, h, q⟩ := x; exact ⟨vs, by rw [upd_ne hba]; exact h, q.mono e⟩
      | dic kvs => obtain ⟨es, h, z, q⟩ := x; exact ⟨es, by rw [upd_ne hba]; exact h, z, q.mono e⟩
      | ins k fs =>
        obtain ⟨dx, vs, h, hd, nd, q⟩ := x
        have hda : dx ≠ a := fun z => by subst z; exact hw b hd
        exact ⟨dx, vs, by rw [upd_ne hba]; exact h, by rw [upd_ne hda]; exact hd, nd, q.mono e⟩
      | dead => trivial
  · by_cases hb' : b = a
    · rw [hb', upd_same] at z; exact ho x (Option.some.inj z)
    · rw [upd_ne hb'] at z; exact r.now b hb x z
end

/-! ### what is wanted -/
/-- the exception (class c, attributes fs) has come -/
def OutX (B : Bx) (W : WX) (σ : St) (ι : List Addr) (F : Addr → Prop) (H : Hp) (c : Nat) (fs : List (Str × U)) (S' : Sto) : Prop :=
  ∀ (dx : Addr) (vs : List (Str × V)) (ι' : List Addr) (F' : Addr → Prop) (H' : Hp), Evo ι F H ι' F' H' → Rel B ι' F' S' H' → H' dx = some (.xd vs) → RepFU B ι' F' H' vs fs → W (.ref (B.cl c)) (some dx) σ H'
/-- a piece's end: its value b in the heap bears a -/
def Out {α β : Type} (B : Bx) (W : WX) (σ : St) (ι : List Addr) (F : Addr → Prop) (H : Hp) (rep : List Addr → (Addr → Prop) → Hp → β → α → Prop) (Q : β → Hp → Prop) : R α → Prop
  | .ok a S' => ∀ (b : β) (ι' : List Addr) (F' : Addr → Prop) (H' : Hp), Evo ι F H ι' F' H' → Rel B ι' F' S' H' → rep ι' F' H' b a → Q b H'
  | .ex c fs S' => OutX B W σ ι F H c fs S'
  | .er => False
section
variable {α β γ δ : Type} {B : Bx} {W : WX} {σ : St} {ι ι1 : List Addr} {F F1 : Addr → Prop} {H H1 : Hp} {rep : List Addr → (Addr → Prop) → Hp → β → α → Prop} {rep1 : List Addr → (Addr → Prop) → Hp → δ → γ → Prop} {Q Q' : β → Hp → Prop}
theorem OutX.shift {c : Nat} {fs : List (Str × U)} {S' : Sto} (e : Evo ι F H ι1 F1 H1) (h : OutX B W σ ι F H c fs S') : OutX B W σ ι1 F1 H1 c fs S' := fun dx vs ι' F' H' e' => h dx vs ι' F' H' (e.trans e')
theorem Out.shift (e : Evo ι F H ι1 F1 H1) {r : R α} (h : Out B W σ ι F H rep Q r) : Out B W σ ι1 F1 H1 rep Q r := by
  cases r with
  | ok a S' => exact fun b ι' F' H' e' => h b ι' F' H' (e.trans e')
  | ex c fs S' => exact OutX.shift e h
  | er => exact h
theorem Out.mono {r : R α} (h : Out B W σ ι F H rep Q r) (k : ∀ b H', Q b H' → Q' b H') : Out B W σ ι F H rep Q' r := by
  cases r with
  | ok a S' => exact fun b ι' F' H' e' r' z => k b H' (h b ι' F' H' e' r' z)
  | ex c fs S' => exact h
  | er => exact h
/-- one piece behind another -/
theorem Out.bind {r : R γ} {k : γ → Sto → R α} (h : Out B W σ ι F H rep Q (r.bind k)) :
    Out B W σ ι F H rep1 (fun b H1 => ∃ ι1 F1 S1 a, Evo ι F H ι1 F1 H1 ∧ Rel B ι1 F1 S1 H1 ∧ rep1 ι1 F1 H1 b a ∧ Out B W σ ι1 F1 H1 rep Q (k a S1)) r := by
  cases r with
  | ok a S' => exact fun b ι' F' H' e' r' z => ⟨ι', F', S', a, e', r', z, Out.shift e' h⟩
  | ex c fs S' => exact h
  | er => exact h
end

/-! ### readings -/
def liftE (B : Bx) (W : WX) (m : ME) : TE := fun σ H Q => ∃ ι F S ρ, Rel B ι F S H ∧ REnv B ι F H σ ρ ∧ Out B W σ ι F H (RepU B) Q (m ρ S)
def liftT (B : Bx) (W : WX) (m : MT) : TT := fun σ H Q => ∃ ι F S ρ, Rel B ι F S H ∧ REnv B ι F H σ ρ ∧ Out B W σ ι F H (fun _ _ _ b c => b = c) Q (m ρ S)
def liftA (B : Bx) (W : WX) (m : MA) : TA := fun σ H Q => ∃ ι F S ρ, Rel B ι F S H ∧ REnv B ι F H σ ρ ∧ Out B W σ ι F H (fun ι F H => RepUs B ι F H) Q (m ρ S)
def liftG (B : Bx) (js : List Nat) (m : MG) : TG := fun v σ H Q => ∃ ι F S ρ u ρ', Rel B ι F S H ∧ REnv B ι F H σ ρ ∧ RepU B ι F H v u ∧ m u ρ = some ρ' ∧ ∀ σ', REnv B ι F H σ' ρ' → (∀ i, i ∉ js → σ'[i]? = σ[i]?) → σ'.length = σ.length → Q σ' H
def OutS (B : Bx) (W : WX) (ι : List Addr) (F : Addr → Prop) (H : Hp) (D : Ends) : RS → Prop
  | .nx ρ S' => ∀ (σ : St) (ι' : List Addr) (F' : Addr → Prop) (H' : Hp), Evo ι F H ι' F' H' → Rel B ι' F' S' H' → REnv B ι' F' H' σ ρ → D.nx σ H'
  | .bk ρ S' => ∀ (σ : St) (ι' : List Addr) (F' : Addr → Prop) (H' : Hp), Evo ι F H ι' F' H' → Rel B ι' F' S' H' → REnv B ι' F' H' σ ρ → D.bk σ H'
  | .ct ρ S' => ∀ (σ : St) (ι' : List Addr) (F' : Addr → Prop) (H' : Hp), Evo ι F H ι' F' H' → Rel B ι' F' S' H' → REnv B ι' F' H' σ ρ → D.ct σ H'
  | .rt u S' => ∀ (v : V) (ι' : List Addr) (F' : Addr → Prop) (H' : Hp), Evo ι F H ι' F' H' → Rel B ι' F' S' H' → RepU B ι' F' H' v u → D.rt v H'
  | .ex c fs ρ S' => ∀ (σ : St) (ι' : List Addr) (F' : Addr → Prop) (H' : Hp), Evo ι F H ι' F' H' → REnv B ι' F' H' σ ρ → OutX B W σ ι' F' H' c fs S'
  | .er => False
def liftS (B : Bx) (W : WX) (m : MS) : TS := fun D σ H => ∃ ι F S ρ, Rel B ι F S H ∧ REnv B ι F H σ ρ ∧ OutS B W ι F H D (m ρ S)
section
variable {B : Bx} {W : WX} {ι ι1 : List Addr} {F F1 : Addr → Prop} {H H1 : Hp} {D D' : Ends}
theorem OutS.shift (e : Evo ι F H ι1 F1 H1) {r : RS} (h : OutS B W ι F H D r) : OutS B W ι1 F1 H1 D r := by
  cases r with
  | nx ρ S' => exact fun σ ι' F' H' e' => h σ ι' F' H' (e.trans e')
  | bk ρ S' => exact fun σ ι' F' H' e' => h σ ι' F' H' (e.trans e')
  | ct ρ S' => exact fun σ ι' F' H' e' => h σ ι' F' H' (e.trans e')
  | rt u S' => exact fun v ι' F' H' e' => h v ι' F' H' (e.trans e')
  | ex c fs ρ S' => exact fun σ ι' F' H' e' => h σ ι' F' H' (e.trans e')
  | er => exact h
end

/-! ### judgements -/
def QE (X : Cx) (cl : Nat → Addr) (W : WX) (e : Expr) (m : ME) : Prop := PE X e (liftE (bx X cl) W m)
def QT (X : Cx) (cl : Nat → Addr) (W : WX) (e : Expr) (m : MT) : Prop := PT X e (liftT (bx X cl) W m)
def QA (X : Cx) (cl : Nat → Addr) (W : WX) (es : List Expr) (m : MA) : Prop := PA X es (liftA (bx X cl) W m)
def QG (X : Cx) (cl : Nat → Addr) (e : Expr) (js : List Nat) (m : MG) : Prop := PG X e (liftG (bx X cl) js m)
def QS (X : Cx) (cl : Nat → Addr) (W : WX) (s : Stmt) (m : MS) : Prop := PS X s (liftS (bx X cl) W m)
def QSs (X : Cx) (cl : Nat → Addr) (W : WX) (ss : List Stmt) (m : MS) : Prop := PSs X ss (liftS (bx X cl) W m)
theorem PE.imp {X : Cx} {e : Expr} {t t' : TE} (h : PE X e t) (k : ∀ σ H Q, t' σ H Q → t σ H Q) : PE X e t' := ⟨fun pins s σ H Q I hq => h.run pins s σ H Q I (k σ H Q hq)⟩
theorem PT.imp {X : Cx} {e : Expr} {t t' : TT} (h : PT X e t) (k : ∀ σ H Q, t' σ H Q → t σ H Q) : PT X e t' := ⟨fun pins s σ H Q I hq => h.run pins s σ H Q I (k σ H Q hq)⟩
theorem PA.imp {X : Cx} {e : List Expr} {t t' : TA} (h : PA X e t) (k : ∀ σ H Q, t' σ H Q → t σ H Q) : PA X e t' := ⟨fun pos pins s σ H Q I hq => h.run pos pins s σ H Q I (k σ H Q hq)⟩
theorem PG.imp {X : Cx} {e : Expr} {t t' : TG} (h : PG X e t) (k : ∀ v σ H Q, t' v σ H Q → t v σ H Q) : PG X e t' := ⟨fun pins s σ H v u Q I r hq => h.run pins s σ H v u Q I r (k v σ H Q hq)⟩
theorem PS.imp {X : Cx} {e : Stmt} {t t' : TS} (h : PS X e t) (k : ∀ D σ H, t' D σ H → t D σ H) : PS X e t' := ⟨fun pins s σ H D I hq => h.run pins s σ H D I (k D σ H hq)⟩
theorem PSs.imp {X : Cx} {e : List Stmt} {t t' : TS} (h : PSs X e t) (k : ∀ D σ H, t' D σ H → t D σ H) : PSs X e t' := ⟨fun pins s σ H D I hq => h.run pins s σ H D I (k D σ H hq)⟩
end Pu
/-! Pu: expressions. -/
namespace Pu
open PySem L2

/-! ### the pieces, pure -/
def eVar (i : Nat) : ME := fun ρ S => match ρ[i]? with
  | some (some u) => .ok u S
  | _ => .er
def eC (d : D) : ME := fun _ S => .ok (.v d) S
/-- by values -/
abbrev F1 := U → Sto → Option (U × Sto)
abbrev F2 := U → U → Sto → Option (U × Sto)
abbrev FA := List U → Sto → Option (U × Sto)
abbrev FM := U → List U → Sto → Option (U × Sto)
def ofO {α : Type} : Option (α × Sto) → R α
  | some (a, S) => .ok a S
  | none => .er
@[simp] theorem ofO_some {α : Type} (a : α) (S : Sto) : ofO (some (a, S)) = R.ok a S := rfl
@[simp] theorem ofO_none {α : Type} : (ofO none : R α) = R.er := rfl
def eOp (f : F2) (a b : ME) : ME := fun ρ S => (a ρ S).bind fun x S1 => (b ρ S1).bind fun y S2 => ofO (f x y S2)
def eUn (f : F1) (a : ME) : ME := fun ρ S => (a ρ S).bind fun x S1 => ofO (f x S1)
def aNil : MA := fun _ S => .ok [] S
def aCons (a : ME) (r : MA) : MA := fun ρ S => (a ρ S).bind fun x S1 => (r ρ S1).bind fun xs S2 => .ok (x :: xs) S2
def eCB (f : FA) (a : MA) : ME := fun ρ S => (a ρ S).bind fun xs S1 => ofO (f xs S1)
def eMt (f : FM) (o : ME) (a : MA) : ME := fun ρ S => (o ρ S).bind fun x S1 => (a ρ S1).bind fun xs S2 => ofO (f x xs S2)
def fTup : FA := fun us S => if us.length ≤ 100000 then (allV us).map fun ds => (.v (.tup ds), S) else none
/-- a list by value; a list that may change -/
def fLstV : FA := fun us S => if us.length ≤ 100000 then (allV us).map fun ds => (.v (.lst ds), S) else none
def fLstS : FA := fun us S => if us.length ≤ 100000 then some (.r S.length, S ++ [.lst us]) else none
/-- truth of a bool -/
def isB : U → Sto → Option (Bool × Sto)
  | .v (.bl b), S => some (b, S)
  | _, _ => none
def tB (m : ME) : MT := fun ρ S => (m ρ S).bind fun u S1 => ofO (isB u S1)
def tAnd (a b : MT) : MT := fun ρ S => (a ρ S).bind fun x S1 => if x = true then b ρ S1 else .ok false S1
def tOr (a b : MT) : MT := fun ρ S => (a ρ S).bind fun x S1 => if x = true then .ok true S1 else b ρ S1
def tNot (a : MT) : MT := fun ρ S => (a ρ S).bind fun x S1 => .ok (!x) S1
def eAnd (a b : ME) : ME := fun ρ S => (a ρ S).bind fun u S1 => (ofO (isB u S1)).bind fun x S2 => if x = true then b ρ S2 else .ok (.v (.bl false)) S2
def eOr (a b : ME) : ME := fun ρ S => (a ρ S).bind fun u S1 => (ofO (isB u S1)).bind fun x S2 => if x = true then .ok (.v (.bl true)) S2 else b ρ S2
def eNot (a : ME) : ME := fun ρ S => (a ρ S).bind fun u S1 => (ofO (isB u S1)).bind fun x S2 => .ok (.v (.bl (!x))) S2
def eIf (c : MT) (a b : ME) : ME := fun ρ S => (c ρ S).bind fun x S1 => if x = true then a ρ S1 else b ρ S1

/-! ### by values: the layer's readings -/
def Fin (B : Bx) (ι : List Addr) (F : Addr → Prop) (H : Hp) (Q : VK) (o : Option (U × Sto)) : Prop :=
  ∃ u S', o = some (u, S') ∧ ∀ (v : V) (ι' : List Addr) (F' : Addr → Prop) (H' : Hp), Evo ι F H ι' F' H' → Rel B ι' F' S' H' → RepU B ι' F' H' v u → Q v H'
def liftOp (B : Bx) (f : F2) : R2 := fun x y H Q => ∃ ι F S a b, Rel B ι F S H ∧ RepU B ι F H x a ∧ RepU B ι F H y b ∧ Fin B ι F H Q (f a b S)
def liftUn (B : Bx) (f : F1) : V → Hp → VK → Prop := fun x H Q => ∃ ι F S a, Rel B ι F S H ∧ RepU B ι F H x a ∧ Fin B ι F H Q (f a S)
def liftC (B : Bx) (f : FA) : List V → Hp → VK → Prop := fun xs H Q => ∃ ι F S as, Rel B ι F S H ∧ RepUs B ι F H xs as ∧ Fin B ι F H Q (f as S)
def liftM (B : Bx) (f : FM) : V → List V → Hp → VK → Prop := fun x xs H Q => ∃ ι F S a as, Rel B ι F S H ∧ RepU B ι F H x a ∧ RepUs B ι F H xs as ∧ Fin B ι F H Q (f a as S)
section
variable {B : Bx} {W : WX} {σ : St} {ι : List Addr} {F : Addr → Prop} {H : Hp} {Q : VK}
theorem Out.fin {o : Option (U × Sto)} (h : Out B W σ ι F H (RepU B) Q (ofO o)) : Fin B ι F H Q o := by
  cases o with
  | none => exact h.elim
  | some p =>
    obtain ⟨u, S'⟩ := p
    exact ⟨u, S', rfl, fun v ι' F' H' e r z => h v ι' F' H' e r z⟩
theorem Fin.val {u : U} {S' : Sto} {v : V} (h : Fin B ι F H Q (some (u, S'))) (r : Rel B ι F S' H) (z : RepU B ι F H v u) : Q v H := by
  obtain ⟨u', S'', e, k⟩ := h
  cases e
  exact k v ι F H Evo.refl r z
theorem Fin.go {u : U} {S' : Sto} {v : V} {ι' : List Addr} {F' : Addr → Prop} {H' : Hp} (h : Fin B ι F H Q (some (u, S'))) (e : Evo ι F H ι' F' H') (r : Rel B ι' F' S' H') (z : RepU B ι' F' H' v u) : Q v H' := by
  obtain ⟨u', S'', e', k⟩ := h
  cases e'
  exact k v ι' F' H' e r z
theorem Fin.no {P : Prop} (h : Fin B ι F H Q none) : P := by
  obtain ⟨u', S'', e', k⟩ := h
  cases e'
end

section
variable {X : Cx} {cl : Nat → Addr} {W : WX} {a b c e : Expr} {es : List Expr} {ma mb mc : ME} {mA : MA} {ta tb : MT} {pos : Pos}
theorem qe_var {i : Nat} {x : Str} (hN : X.N[i]? = some x) (hv : Vis X.env.scope x) (hd : (x == ("__debug__" : Str)) = false := by decide) (hcd : (x == ("__classdict__" : Str)) = false := by decide) : QE X cl W (.Name x pos) (eVar i) :=
  PE.imp (pe_var hN hv hd hcd) fun σ H Q ⟨ι, F, S, ρ, r, en, o⟩ => by
    unfold eVar at o
    split at o
    · rename_i u e
      obtain ⟨v, h1, h2⟩ := paired_get en e
      cases v with
      | none => exact h2.elim
      | some v => exact ⟨v, h1, o v ι F H Evo.refl r h2⟩
    · exact o.elim
theorem qe_const {d : D} {v : V} (h : PE X e (tC v)) (r : ∀ F H, Rep (bx X cl) F H v d) : QE X cl W e (eC d) :=
  PE.imp h fun σ H Q ⟨ι, F, S, ρ, r', en, o⟩ => o v ι F H Evo.refl r' (.v (r F H))
theorem qe_int {i j} : QE X cl W (.Constant (.int i) j pos) (eC (.int i)) := qe_const pe_int fun _ _ => .int i
theorem qe_bl {i j} : QE X cl W (.Constant (.bool i) j pos) (eC (.bl i)) := qe_const pe_bl fun _ _ => .bl i
theorem qe_non {j} : QE X cl W (.Constant .none j pos) (eC .non) := qe_const pe_non fun _ _ => .non
theorem qe_str {i j} (hs : PyData.strOk i = true := by decide +kernel) : QE X cl W (.Constant (.str i) j pos) (eC (.str i)) := qe_const pe_str fun _ _ => .str i hs
theorem qe_gInt {x : Str} {i : Int} {t : Tok} (hg : Gl X x) (hm : X.mg x = some (.int i t)) (hd : (x == ("__debug__" : Str)) = false := by decide) : QE X cl W (.Name x pos) (eC (.int i)) := qe_const (pe_glob (v := .int i) hg hm ⟨t, rfl⟩ hd) fun _ _ => .int i
theorem qe_gStr {x : Str} {i : Str} {t : Tok} (hg : Gl X x) (hm : X.mg x = some (.str i t)) (hs : PyData.strOk i = true := by decide +kernel) (hd : (x == ("__debug__" : Str)) = false := by decide) : QE X cl W (.Name x pos) (eC (.str i)) := qe_const (pe_glob (v := .str i) hg hm ⟨t, rfl⟩ hd) fun _ _ => .str i hs
theorem qe_gCls {x : Str} {i : Nat} (hg : Gl X x) (hm : X.mg x = some (.ref (cl i))) (hd : (x == ("__debug__" : Str)) = false := by decide) : QE X cl W (.Name x pos) (eC (.cls i)) := qe_const (pe_glob (v := .ref (cl i)) hg hm rfl hd) fun _ _ => .cls i
theorem qe_bTy {x : Str} {i : String} (hg : Gl X x) (hm : X.mg x = none) (hv : bootBuiltins x = some (.type i)) (hn : x ≠ "__name__" := by decide) (hd : (x == ("__debug__" : Str)) = false := by decide) : QE X cl W (.Name x pos) (eC (.ty i)) := qe_const (pe_bltn (v := .ty i) hg hm hv rfl hn hd) fun _ _ => .ty i

theorem lift_op {f : F2} {σ : St} {H : Hp} {Q : VK} (h : liftE (bx X cl) W (eOp f ma mb) σ H Q) : tOp (liftOp (bx X cl) f) (liftE (bx X cl) W ma) (liftE (bx X cl) W mb) σ H Q := by
  obtain ⟨ι, F, S, ρ, r, en, o⟩ := h
  refine ⟨ι, F, S, ρ, r, en, o.bind.mono fun x H1 ⟨ι1, F1, S1, x', e1, r1, z1, o1⟩ => ?_⟩
  refine ⟨ι1, F1, S1, ρ, r1, en.mono e1, o1.bind.mono fun y H2 ⟨ι2, F2, S2, y', e2, r2, z2, o2⟩ => ?_⟩
  exact ⟨ι2, F2, S2, x', y', r2, z1.mono e2, z2, o2.fin⟩
theorem qe_op {f : F2} {op : Operator} (ho : OpR X (binaryOp op) (liftOp (bx X cl) f)) (ha : QE X cl W a ma) (hb : QE X cl W b mb) : QE X cl W (.BinOp a op b pos) (eOp f ma mb) :=
  PE.imp (pe_op ho ha hb) fun _ _ _ => lift_op
theorem qe_cmp {f : F2} {op : CmpOp} (ho : OpR X (compareOp op) (liftOp (bx X cl) f)) (ha : QE X cl W a ma) (hb : QE X cl W b mb) (hm : behindInMarks op b = false) : QE X cl W (.Compare a [op] [b] pos) (eOp f ma mb) :=
  PE.imp (pe_cmpR ho ha hb hm) fun _ _ _ => lift_op
theorem qe_ix {f : F2} (ho : IxR X (liftOp (bx X cl) f)) (ha : QE X cl W a ma) (hb : QE X cl W b mb) (hs : PlainIx b) : QE X cl W (.Subscript a b pos) (eOp f ma mb) :=
  PE.imp (pe_ix ho ha hb hs) fun _ _ _ => lift_op
theorem lift_test {m : ME} {σ : St} {H : Hp} {Q : Bool → Hp → Prop} (h : liftT (bx X cl) W (tB m) σ H Q) : tTest (liftE (bx X cl) W m) σ H Q := by
  obtain ⟨ι, F, S, ρ, r, en, o⟩ := h
  refine ⟨ι, F, S, ρ, r, en, o.bind.mono fun x H1 ⟨ι1, F1, S1, x', e1, r1, z1, o1⟩ => ?_⟩
  unfold isB at o1
  split at o1
  · rename_i b
    cases z1 with
    | v z1 =>
      cases z1
      exact ⟨b, rfl, o1 b ι1 F1 H1 Evo.refl r1 rfl⟩
  · exact o1.elim
/-- a comparison as a test -/
theorem qt_cmp {f : F2} {op : CmpOp} (ho : OpR X (compareOp op) (liftOp (bx X cl) f)) (ha : QE X cl W a ma) (hb : QE X cl W b mb) (hm : behindInMarks op b = false) : QT X cl W (.Compare a [op] [b] pos) (tB (eOp f ma mb)) := by
  refine ⟨fun pins s σ H Q I h => ?_⟩
  refine (pt_cmpR ho ha hb hm).run pins s σ H Q I ?_
  obtain ⟨ι, F, S, ρ, r, en, o⟩ := lift_test h
  exact lift_op (X := X) (W := W) ⟨ι, F, S, ρ, r, en, o⟩
/-- a bool as a test -/
theorem qt_val {e : Expr} (h : QE X cl W e ma) (he : ∀ whole, isTrue e X.env whole = (do let v ← whole; standAt e.pos; holding [v] (truthy v)) := by intro _; rfl) : QT X cl W e (tB ma) :=
  PT.imp (pt_val h he) fun σ H Q h => lift_test h
theorem qt_not (ha : QT X cl W a ta) : QT X cl W (.UnaryOp .Not a pos) (tNot ta) :=
  PT.imp (pt_not ha) fun σ H Q ⟨ι, F, S, ρ, r, en, o⟩ => ⟨ι, F, S, ρ, r, en, o.bind.mono fun x H1 ⟨ι1, F1, S1, x', e1, r1, z1, o1⟩ => by
    subst z1; exact o1 _ ι1 F1 H1 Evo.refl r1 rfl⟩
def QW (X : Cx) (cl : Nat → Addr) (W : WX) (e : Expr) (m : MT) : Prop := PW X e (liftT (bx X cl) W m)
theorem PW.imp {X : Cx} {e : Expr} {t t' : TT} (h : PW X e t) (k : ∀ σ H Q, t' σ H Q → t σ H Q) : PW X e t' := ⟨fun wh pins s σ H Q I hq => h.run wh pins s σ H Q I (k σ H Q hq)⟩
theorem qt_w (h : QW X cl W e ta) : QT X cl W e ta := PW.pt h
variable {rest : List Expr}
theorem qw_and1 (ha : QT X cl W a ta) : QW X cl W (.BoolOp .And [a] pos) ta := pw_and1 ha
theorem qw_or1 (ha : QT X cl W a ta) : QW X cl W (.BoolOp .Or [a] pos) ta := pw_or1 ha
theorem qw_and (ha : QT X cl W a ta) (hb : QW X cl W (.BoolOp .And (b :: rest) pos) tb) : QW X cl W (.BoolOp .And (a :: b :: rest) pos) (tAnd ta tb) :=
  PW.imp (pw_and ha hb) fun σ H Q ⟨ι, F, S, ρ, r, en, o⟩ => ⟨ι, F, S, ρ, r, en, o.bind.mono fun x H1 ⟨ι1, F1, S1, x', e1, r1, z1, o1⟩ => by
    subst z1
    cases x with
    | true => exact ⟨ι1, F1, S1, ρ, r1, en.mono e1, o1⟩
    | false => exact o1 _ ι1 F1 H1 Evo.refl r1 rfl⟩
theorem qw_or (ha : QT X cl W a ta) (hb : QW X cl W (.BoolOp .Or (b :: rest) pos) tb) : QW X cl W (.BoolOp .Or (a :: b :: rest) pos) (tOr ta tb) :=
  PW.imp (pw_or ha hb) fun σ H Q ⟨ι, F, S, ρ, r, en, o⟩ => ⟨ι, F, S, ρ, r, en, o.bind.mono fun x H1 ⟨ι1, F1, S1, x', e1, r1, z1, o1⟩ => by
    subst z1
    cases x with
    | true => exact o1 _ ι1 F1 H1 Evo.refl r1 rfl
    | false => exact ⟨ι1, F1, S1, ρ, r1, en.mono e1, o1⟩⟩
/-- and, or, not as values of bools -/
theorem qe_one {op} (h : QE X cl W a ma) : QE X cl W (.BoolOp op [a] pos) ma := pe_one h
theorem qe_and (ha : QE X cl W a ma) (hb : QE X cl W (.BoolOp .And (b :: rest) pos) mb) : QE X cl W (.BoolOp .And (a :: b :: rest) pos) (eAnd ma mb) :=
  PE.imp (pe_and ha hb) fun σ H Q ⟨ι, F, S, ρ, r, en, o⟩ => ⟨ι, F, S, ρ, r, en, o.bind.mono fun x H1 ⟨ι1, F1, S1, x', e1, r1, z1, o1⟩ => by
    unfold isB at o1
    split at o1
    · rename_i b
      cases z1 with
      | v z1 =>
        cases z1
        refine ⟨b, rfl, ?_⟩
        cases b with
        | true => exact ⟨ι1, F1, S1, ρ, r1, en.mono e1, o1⟩
        | false => exact o1 _ ι1 F1 H1 Evo.refl r1 (.v (.bl false))
    · exact o1.elim⟩
theorem qe_or (ha : QE X cl W a ma) (hb : QE X cl W (.BoolOp .Or (b :: rest) pos) mb) : QE X cl W (.BoolOp .Or (a :: b :: rest) pos) (eOr ma mb) :=
  PE.imp (pe_or ha hb) fun σ H Q ⟨ι, F, S, ρ, r, en, o⟩ => ⟨ι, F, S, ρ, r, en, o.bind.mono fun x H1 ⟨ι1, F1, S1, x', e1, r1, z1, o1⟩ => by
    unfold isB at o1
    split at o1
    · rename_i b
      cases z1 with
      | v z1 =>
        cases z1
        refine ⟨b, rfl, ?_⟩
        cases b with
        | true => exact o1 _ ι1 F1 H1 Evo.refl r1 (.v (.bl true))
        | false => exact ⟨ι1, F1, S1, ρ, r1, en.mono e1, o1⟩
    · exact o1.elim⟩
theorem qe_not (ha : QE X cl W a ma) : QE X cl W (.UnaryOp .Not a pos) (eNot ma) :=
  PE.imp (pe_not ha) fun σ H Q ⟨ι, F, S, ρ, r, en, o⟩ => ⟨ι, F, S, ρ, r, en, o.bind.mono fun x H1 ⟨ι1, F1, S1, x', e1, r1, z1, o1⟩ => by
    unfold isB at o1
    split at o1
    · rename_i b
      cases z1 with
      | v z1 =>
        cases z1
        exact ⟨b, rfl, o1 _ ι1 F1 H1 Evo.refl r1 (.v (.bl _))⟩
    · exact o1.elim⟩
theorem qe_if (hc : QT X cl W c ta) (ha : QE X cl W a ma) (hb : QE X cl W b mb) : QE X cl W (.IfExp c a b pos) (eIf ta ma mb) :=
  PE.imp (pe_ifExp hc ha hb) fun σ H Q ⟨ι, F, S, ρ, r, en, o⟩ => ⟨ι, F, S, ρ, r, en, o.bind.mono fun x H1 ⟨ι1, F1, S1, x', e1, r1, z1, o1⟩ => by
    subst z1
    cases x with
    | true => exact ⟨ι1, F1, S1, ρ, r1, en.mono e1, o1⟩
    | false => exact ⟨ι1, F1, S1, ρ, r1, en.mono e1, o1⟩⟩
theorem qe_un {f : F1} {op : UnaryOp} (ho : UnR X (unaryOp op) (liftUn (bx X cl) f)) (ha : QE X cl W a ma) : QE X cl W (.UnaryOp op a pos) (eUn f ma) :=
  PE.imp (pe_un ho ha) fun σ H Q ⟨ι, F, S, ρ, r, en, o⟩ => ⟨ι, F, S, ρ, r, en, o.bind.mono fun x H1 ⟨ι1, F1, S1, x', e1, r1, z1, o1⟩ => ⟨ι1, F1, S1, x', r1, z1, o1.fin⟩⟩

/-! ### arguments, displays -/
theorem qa_nil : QA X cl W [] aNil := PA.imp pa_nil fun σ H Q ⟨ι, F, S, ρ, r, en, o⟩ => o [] ι F H Evo.refl r .nil
theorem qa_cons (ha : QE X cl W e ma) (hr : QA X cl W es mA) (hs : starEach (e :: es) X.env = (false, eval e X.env) :: starEach es X.env := by rfl) : QA X cl W (e :: es) (aCons ma mA) :=
  PA.imp (pa_cons ha hr hs) fun σ H Q ⟨ι, F, S, ρ, r, en, o⟩ => ⟨ι, F, S, ρ, r, en, o.bind.mono fun x H1 ⟨ι1, F1, S1, x', e1, r1, z1, o1⟩ =>
    ⟨ι1, F1, S1, ρ, r1, en.mono e1, o1.bind.mono fun y H2 ⟨ι2, F2, S2, y', e2, r2, z2, o2⟩ => o2 _ ι2 F2 H2 Evo.refl r2 (.cons (z1.mono e2) z2)⟩⟩
theorem sz {n : Nat} (h : n ≤ 100000) : n ≤ sizeLine := Nat.le_trans h (by decide)
theorem qe_tup {k : Nat} (h : QA X cl W es mA) : QE X cl W (.Tuple es k pos) (eCB fTup mA) :=
  PE.imp (pe_tup h) fun σ H Q ⟨ι, F, S, ρ, r, en, o⟩ => ⟨ι, F, S, ρ, r, en, o.bind.mono fun x H1 ⟨ι1, F1, S1, x', e1, r1, z1, o1⟩ => by
    have o2 := o1.fin
    unfold fTup at o2
    split at o2
    · rename_i hl
      cases ea : allV x' with
      | none => rw [ea] at o2; exact o2.no
      | some ds =>
        rw [ea] at o2
        rw [allV_some ea] at z1 hl
        refine ⟨sz (by rw [paired_len z1]; exact hl), fun p hp => ?_⟩
        exact o2.go (Evo.new hp) (r1.new hp) (.v (.tup upd_same ((repus_reps z1).mono (ι := ι1) (ι' := ι1) (Evo.new hp))))
    · exact o2.no⟩
theorem qe_lstV (h : QA X cl W es mA) : QE X cl W (.List es pos) (eCB fLstV mA) :=
  PE.imp (pe_lst h) fun σ H Q ⟨ι, F, S, ρ, r, en, o⟩ => ⟨ι, F, S, ρ, r, en, o.bind.mono fun x H1 ⟨ι1, F1, S1, x', e1, r1, z1, o1⟩ => by
    have o2 := o1.fin
    unfold fLstV at o2
    split at o2
    · rename_i hl
      cases ea : allV x' with
      | none => rw [ea] at o2; exact o2.no
      | some ds =>
        rw [ea] at o2
        rw [allV_some ea] at z1 hl
        refine ⟨sz (by rw [paired_len z1]; exact hl), fun p hp => ?_⟩
        exact o2.go (Evo.newF hp) (r1.newF hp) (.v (.lst (.inr rfl) upd_same ((repus_reps z1).mono (ι := ι1) (ι' := ι1) (Evo.newF hp))))
    · exact o2.no⟩
theorem qe_lstS (h : QA X cl W es mA) : QE X cl W (.List es pos) (eCB fLstS mA) :=
  PE.imp (pe_lst h) fun σ H Q ⟨ι, F, S, ρ, r, en, o⟩ => ⟨ι, F, S, ρ, r, en, o.bind.mono fun x H1 ⟨ι1, F1, S1, x', e1, r1, z1, o1⟩ => by
    have o2 := o1.fin
    unfold fLstS at o2
    split at o2
    · rename_i hl
      refine ⟨sz (by rw [paired_len z1]; exact hl), fun p hp => ?_⟩
      have e2 : Evo ι1 F1 H1 (ι1 ++ [p]) F1 (upd H1 p (.lst x)) := Evo.newS hp
      exact o2.go e2 (r1.newS hp nofun ⟨x, upd_same, z1.mono e2⟩) (.r (by rw [← r1.len]; simp))
    · exact o2.no⟩
/-- a built-in function, a built-in class, called -/
theorem qe_callB {f : FA} {x : Str} {id : String} {p : Pos} (hc : CallR X (.builtin id) (liftC (bx X cl) f)) (hg : Gl X x) (hm : X.mg x = none) (hv : bootBuiltins x = some (.builtin id)) (ha : QA X cl W (e :: es) mA) (hn : x ≠ "__name__" := by decide) (hdb : (x == ("__debug__" : Str)) = false := by decide)
    (he : starEach (e :: es) X.env = (false, eval e X.env) :: starEach es X.env := by rfl) (hpl : (backTo pos (starEach es X.env)).any (·.1) = false := by rfl) : QE X cl W (.Call (.Name x p) (e :: es) [] pos) (eCB f mA) :=
  PE.imp (pe_callB hc hg hm hv ha hn hdb he hpl) fun σ H Q ⟨ι, F, S, ρ, r, en, o⟩ => ⟨ι, F, S, ρ, r, en, o.bind.mono fun x H1 ⟨ι1, F1, S1, x', e1, r1, z1, o1⟩ => ⟨ι1, F1, S1, x', r1, z1, o1.fin⟩⟩
theorem qe_callTy {f : FA} {x : Str} {T : String} {p : Pos} (hc : CallR X (.type T) (liftC (bx X cl) f)) (hg : Gl X x) (hm : X.mg x = none) (hv : bootBuiltins x = some (.type T)) (ha : QA X cl W (e :: es) mA) (hn : x ≠ "__name__" := by decide) (hdb : (x == ("__debug__" : Str)) = false := by decide)
    (he : starEach (e :: es) X.env = (false, eval e X.env) :: starEach es X.env := by rfl) (hpl : (backTo pos (starEach es X.env)).any (·.1) = false := by rfl) : QE X cl W (.Call (.Name x p) (e :: es) [] pos) (eCB f mA) :=
  PE.imp (pe_callTy hc hg hm hv ha hn hdb he hpl) fun σ H Q ⟨ι, F, S, ρ, r, en, o⟩ => ⟨ι, F, S, ρ, r, en, o.bind.mono fun x H1 ⟨ι1, F1, S1, x', e1, r1, z1, o1⟩ => ⟨ι1, F1, S1, x', r1, z1, o1.fin⟩⟩
end
end Pu
/-! Pu: statements, loops. -/
namespace Pu
open PySem L2

def R.st {α : Type} (r : R α) (ρ : Env') (k : α → Sto → RS) : RS := match r with
  | .ok a S => k a S
  | .ex c fs S => .ex c fs ρ S
  | .er => .er
@[simp] theorem R.st_ok {α : Type} (a : α) (S : Sto) (ρ : Env') (k : α → Sto → RS) : (R.ok a S).st ρ k = k a S := rfl
@[simp] theorem R.st_ex {α : Type} (c : Nat) (fs : List (Str × U)) (S : Sto) (ρ : Env') (k : α → Sto → RS) : (R.ex c fs S : R α).st ρ k = .ex c fs ρ S := rfl
@[simp] theorem R.st_er {α : Type} (ρ : Env') (k : α → Sto → RS) : (R.er : R α).st ρ k = .er := rfl
def sNext : MS := fun ρ S => .nx ρ S
def sSeq (a b : MS) : MS := fun ρ S => match a ρ S with
  | .nx ρ1 S1 => b ρ1 S1
  | r => r
def sAsg (m : ME) (g : MG) : MS := fun ρ S => (m ρ S).st ρ fun u S1 => match g u ρ with
  | some ρ' => .nx ρ' S1
  | none => .er
def sExpr (m : ME) : MS := fun ρ S => (m ρ S).st ρ fun _ S1 => .nx ρ S1
def sRet (m : ME) : MS := fun ρ S => (m ρ S).st ρ fun u S1 => .rt u S1
def sRetN : MS := fun ρ S => .rt (.v .non) S
def sIf (c : MT) (a b : MS) : MS := fun ρ S => (c ρ S).st ρ fun x S1 => if x = true then a ρ S1 else b ρ S1
def sBrk : MS := fun ρ S => .bk ρ S
def sCont : MS := fun ρ S => .ct ρ S
def sNever : MS := fun _ _ => .er
def gName (i : Nat) : MG := fun u ρ => some (ρ.set i (some u))
abbrev MGs := List U → Env' → Option Env'
def gNil : MGs := fun us ρ => match us with
  | [] => some ρ
  | _ => none
def gCons (g : MG) (gs : MGs) : MGs := fun us ρ => match us with
  | u :: us => (g u ρ).bind fun ρ1 => gs us ρ1
  | [] => none
/-- a tuple unpacked into n targets -/
def gTup (n : Nat) (gs : MGs) : MG := fun u ρ => match u with
  | .v (.tup ds) => if ds.length = n then gs (ds.map U.v) ρ else none
  | _ => none

section
variable {B : Bx} {W : WX} {ι : List Addr} {F : Addr → Prop} {H : Hp} {D : Ends}
theorem OutS.st {α β : Type} {rep : List Addr → (Addr → Prop) → Hp → β → α → Prop} {σ : St} {ρ : Env'} {r : R α} {k : α → Sto → RS} (en : REnv B ι F H σ ρ) (h : OutS B W ι F H D (r.st ρ k)) :
    Out B W σ ι F H rep (fun b H1 => ∃ ι1 F1 S1 a, Evo ι F H ι1 F1 H1 ∧ Rel B ι1 F1 S1 H1 ∧ rep ι1 F1 H1 b a ∧ OutS B W ι1 F1 H1 D (k a S1)) r := by
  cases r with
  | ok a S' => exact fun b ι' F' H' e' r' z => ⟨ι', F', S', a, e', r', z, OutS.shift e' h⟩
  | ex c fs S' => exact h σ ι F H Evo.refl en
  | er => exact h
end

section
variable {X : Cx} {cl : Nat → Addr} {W : WX} {a b c e tg : Expr} {es : List Expr} {ma mb : ME} {tc : MT} {st : Stmt} {rest body : List Stmt} {s1 s2 : MS} {g : MG} {gs : MGs} {pos : Pos}
theorem qss_nil : QSs X cl W [] sNext := PSs.imp pss_nil fun D σ H ⟨ι, F, S, ρ, r, en, o⟩ => o σ ι F H Evo.refl r en
theorem qss_cons (h1 : QS X cl W st s1) (h2 : QSs X cl W rest s2) : QSs X cl W (st :: rest) (sSeq s1 s2) :=
  PSs.imp (pss_cons h1 h2) fun D σ H ⟨ι, F, S, ρ, r, en, o⟩ => by
    refine ⟨ι, F, S, ρ, r, en, ?_⟩
    unfold sSeq at o
    cases q : s1 ρ S with
    | nx ρ1 S1 => rw [q] at o; exact fun σ' ι' F' H' e r' en' => ⟨ι', F', S1, ρ1, r', en', OutS.shift e o⟩
    | rt u S1 => rw [q] at o; exact o
    | bk ρ1 S1 => rw [q] at o; exact o
    | ct ρ1 S1 => rw [q] at o; exact o
    | ex c fs ρ1 S1 => rw [q] at o; exact o
    | er => rw [q] at o; exact o
theorem qss_one (h1 : QS X cl W st s1) : QSs X cl W [st] s1 := pss_one h1
theorem qs_pass : QS X cl W (.Pass pos) sNext := PS.imp ps_pass fun D σ H ⟨ι, F, S, ρ, r, en, o⟩ => o σ ι F H Evo.refl r en
theorem qs_break : QS X cl W (.Break pos) sBrk := PS.imp ps_break fun D σ H ⟨ι, F, S, ρ, r, en, o⟩ => o σ ι F H Evo.refl r en
theorem qs_continue : QS X cl W (.Continue pos) sCont := PS.imp ps_continue fun D σ H ⟨ι, F, S, ρ, r, en, o⟩ => o σ ι F H Evo.refl r en
theorem qs_never : QS X cl W st sNever := PS.imp ps_never fun D σ H ⟨ι, F, S, ρ, r, en, o⟩ => o
theorem qss_never : QSs X cl W body sNever := PSs.imp pss_never fun D σ H ⟨ι, F, S, ρ, r, en, o⟩ => o
theorem qs_expr (he : QE X cl W e ma) (hs : swapsWith e none pos.line X.env = pure false := by rfl) : QS X cl W (.Expr e pos) (sExpr ma) :=
  PS.imp (ps_expr he hs) fun D σ H ⟨ι, F, S, ρ, r, en, o⟩ => ⟨ι, F, S, ρ, r, en, (o.st en).mono fun v H1 ⟨ι1, F1, S1, u, e1, r1, z1, o1⟩ => o1 σ ι1 F1 H1 Evo.refl r1 (en.mono e1)⟩
theorem qs_ret (he : QE X cl W e ma) : QS X cl W (.Return (some e) pos) (sRet ma) :=
  PS.imp (ps_ret he) fun D σ H ⟨ι, F, S, ρ, r, en, o⟩ => ⟨ι, F, S, ρ, r, en, (o.st en).mono fun v H1 ⟨ι1, F1, S1, u, e1, r1, z1, o1⟩ => o1 v ι1 F1 H1 Evo.refl r1 z1⟩
theorem qs_retN : QS X cl W (.Return none pos) sRetN := PS.imp ps_retN fun D σ H ⟨ι, F, S, ρ, r, en, o⟩ => o .non ι F H Evo.refl r (.v .non)
theorem qs_if (hc : QT X cl W c tc) (ha : QSs X cl W body s1) (hb : QSs X cl W rest s2) : QS X cl W (.If c body rest pos) (sIf tc s1 s2) :=
  PS.imp (ps_if hc ha hb) fun D σ H ⟨ι, F, S, ρ, r, en, o⟩ => ⟨ι, F, S, ρ, r, en, (o.st en).mono fun x H1 ⟨ι1, F1, S1, x', e1, r1, z1, o1⟩ => by
    subst z1
    cases x with
    | true => exact ⟨ι1, F1, S1, ρ, r1, en.mono e1, o1⟩
    | false => exact ⟨ι1, F1, S1, ρ, r1, en.mono e1, o1⟩⟩
/-! ### targets -/
theorem qg_name {i : Nat} {x : Str} (hN : X.N.Nodup) (hi : X.N[i]? = some x) (hx : Loc X.env.scope x) (hf : X.fn x = true ∨ X.env.scope.names.lookup x = some .local := by first | exact .inl rfl | exact .inr rfl | assumption) : QG X cl (.Name x pos) [i] (gName i) :=
  PG.imp (pg_name hN hi hx hf) fun v σ H Q ⟨ι, F, S, ρ, u, ρ', r, en, z, e, o⟩ => by
    unfold gName at e
    cases e
    exact o _ (paired_set (P := RepO (bx X cl) ι F H) (x := some v) (y := some u) z i en) (fun j hj => List.getElem?_set_ne (fun e => hj (by simp [e]))) (by simp)
def QGs (X : Cx) (cl : Nat → Addr) (ts : List Expr) (js : List Nat) (m : MGs) : Prop :=
  PGs X ts fun vs σ H Q => ∃ ι F S ρ us ρ', Rel (bx X cl) ι F S H ∧ REnv (bx X cl) ι F H σ ρ ∧ RepUs (bx X cl) ι F H vs us ∧ m us ρ = some ρ' ∧ ∀ σ', REnv (bx X cl) ι F H σ' ρ' → (∀ i, i ∉ js → σ'[i]? = σ[i]?) → σ'.length = σ.length → Q σ' H
theorem PGs.imp {X : Cx} {e : List Expr} {t t' : TGs} (h : PGs X e t) (k : ∀ v σ H Q, t' v σ H Q → t v σ H Q) : PGs X e t' := ⟨fun pins s σ H v u Q I r hq => h.run pins s σ H v u Q I r (k v σ H Q hq)⟩
theorem qgs_nil : QGs X cl [] [] gNil := PGs.imp pgs_nil fun vs σ H Q ⟨ι, F, S, ρ, us, ρ', r, en, z, e, o⟩ => by
  cases z with
  | nil => cases e; exact ⟨rfl, o σ en (fun _ _ => rfl) rfl⟩
  | cons _ _ => cases e
theorem qgs_cons {js ks : List Nat} (h1 : QG X cl e js g) (h2 : QGs X cl es ks gs) (hs : (assignEach (e :: es) X.env).map (·.2) = assign e X.env :: (assignEach es X.env).map (·.2) := by rfl) : QGs X cl (e :: es) (js ++ ks) (gCons g gs) :=
  PGs.imp (pgs_cons h1 h2 hs) fun vs σ H Q ⟨ι, F, S, ρ, us, ρ', r, en, z, e, o⟩ => by
    cases z with
    | nil => cases e
    | @cons v u vs us z1 zs =>
      unfold gCons at e
      cases q : g u ρ with
      | none => simp [q] at e
      | some ρ1 =>
        simp [q] at e
        exact ⟨v, vs, rfl, ι, F, S, ρ, u, ρ1, r, en, z1, q, fun σ1 en1 k1 l1 => ⟨ι, F, S, ρ1, us, ρ', r, en1, zs, e, fun σ2 en2 k2 l2 => o σ2 en2 (fun i hi => by
          simp only [List.mem_append, not_or] at hi
          rw [k2 i hi.2, k1 i hi.1]) (l2.trans l1)⟩⟩
theorem qg_tup {k n : Nat} {js : List Nat} (hc : X.calm = true) (h : QGs X cl es js gs) (hn : (assignEach es X.env).length = n := by rfl) (hst : (assignEach es X.env).findIdx? (·.1) = none := by rfl) : QG X cl (.Tuple es k pos) js (gTup n gs) :=
  PG.imp (pg_tup hc h hn hst) fun v σ H Q ⟨ι, F, S, ρ, u, ρ', r, en, z, e, o⟩ => by
    unfold gTup at e
    split at e
    · rename_i ds
      split at e
      · rename_i hl
        cases z with
        | v z =>
          cases z with
          | tup ha zs => exact ⟨_, _, rfl, SqT.of ha, by rw [paired_len (reps_iff.mp zs)]; exact hl, ι, F, S, ρ, ds.map U.v, ρ', r, en, reps_u zs, e, o⟩
      · cases e
    · cases e
theorem qs_asg {js : List Nat} (he : QE X cl W e ma) (hg : QG X cl tg js g) (hs : swapsWithSole [tg] e pos.line X.env = pure false := by rfl) (hw : swappedStores [tg] e X.env = pure none := by rfl)
    (h1 : (assignEach [tg] X.env).map (·.2) = [assign tg X.env] := by rfl) : QS X cl W (.Assign [tg] e pos) (sAsg ma g) :=
  PS.imp (ps_asg he hg hs hw h1) fun D σ H ⟨ι, F, S, ρ, r, en, o⟩ => ⟨ι, F, S, ρ, r, en, (o.st en).mono fun v H1 ⟨ι1, F1, S1, u, e1, r1, z1, o1⟩ => by
    cases q : g u ρ with
    | none => rw [q] at o1; exact o1.elim
    | some ρ' => rw [q] at o1; exact ⟨ι1, F1, S1, ρ, u, ρ', r1, en.mono e1, z1, q, fun σ' en' _ _ => o1 σ' ι1 F1 H1 Evo.refl r1 en'⟩⟩
theorem qs_set {i : Nat} {x : Str} {pos' : Pos} (hN : X.N.Nodup) (hi : X.N[i]? = some x) (hx : Loc X.env.scope x) (he : QE X cl W e ma) (hs : swapsWith e (some (.Name x pos')) pos.line X.env = pure false := by rfl) (hf : X.fn x = true ∨ X.env.scope.names.lookup x = some .local := by first | exact .inl rfl | exact .inr rfl | assumption) :
    QS X cl W (.Assign [.Name x pos'] e pos) (sAsg ma (gName i)) :=
  PS.imp (ps_set hN hi hx he hs hf) fun D σ H ⟨ι, F, S, ρ, r, en, o⟩ => ⟨ι, F, S, ρ, r, en, (o.st en).mono fun v H1 ⟨ι1, F1, S1, u, e1, r1, z1, o1⟩ =>
    o1 _ ι1 F1 H1 Evo.refl r1 (paired_set (P := RepO (bx X cl) ι1 F1 H1) (x := some v) (y := some u) z1 i (en.mono e1))⟩
end

/-! ### loops -/
/-- what is walked: its items, and the cell that must stay as it is -/
structure IterV where
  items : List U
  src : Option Nat
abbrev MI := Env' → Sto → R IterV
def Walk (B : Bx) (J : It) (iv : IterV) (S0 : Sto) (ι0 : List Addr) (F0 : Addr → Prop) (H0 : Hp) : Prop :=
  ∀ (i : Nat) (ι : List Addr) (F : Addr → Prop) (S : Sto) (H : Hp), Evo ι0 F0 H0 ι F H → Rel B ι F S H → (∀ n, iv.src = some n → S[n]? = S0[n]?) →
    (i < iv.items.length → J.go i H ∧ ∀ x H', J.yld i H x H' → Evo ι F H ι F H' ∧ Rel B ι F S H' ∧ ∀ u, iv.items[i]? = some u → RepU B ι F H' x u) ∧ (iv.items.length ≤ i → J.stop i H)
def liftI (B : Bx) (W : WX) (m : MI) : TI := fun σ H Q => ∃ ι F S ρ, Rel B ι F S H ∧ REnv B ι F H σ ρ ∧ match m ρ S with
  | .ok iv S' => ∀ (J : It) (ι' : List Addr) (F' : Addr → Prop) (H' : Hp), Evo ι F H ι' F' H' → Rel B ι' F' S' H' → Walk B J iv S' ι' F' H' → Q J H'
  | .ex c fs S' => OutX B W σ ι F H c fs S'
  | .er => False
def QI (X : Cx) (cl : Nat → Addr) (W : WX) (tg iter : Expr) (m : MI) : Prop := PI X tg iter (liftI (bx X cl) W m)
theorem PI.imp {X : Cx} {tg e : Expr} {t t' : TI} (h : PI X tg e t) (k : ∀ σ H Q, t' σ H Q → t σ H Q) : PI X tg e t' := ⟨fun pins s σ H Q I hq => h.run pins s σ H Q I (k σ H Q hq)⟩

def srcOk (src : Option Nat) (c0 : Option Cell) (S : Sto) : Prop := match src with
  | none => True
  | some n => S[n]? = c0
noncomputable instance (src : Option Nat) (c0 : Option Cell) (S : Sto) : Decidable (srcOk src c0 S) := Classical.propDecidable _
noncomputable def forGo (src : Option Nat) (c0 : Option Cell) (g : MG) (body : MS) : List U → Env' → Sto → RS
  | [], ρ, S => .nx ρ S
  | u :: us, ρ, S => match g u ρ with
    | none => .er
    | some ρ1 => match body ρ1 S with
      | .nx ρ2 S2 => if srcOk src c0 S2 then forGo src c0 g body us ρ2 S2 else .er
      | .ct ρ2 S2 => if srcOk src c0 S2 then forGo src c0 g body us ρ2 S2 else .er
      | .bk ρ2 S2 => .nx ρ2 S2
      | r => r
noncomputable def sFor (it : MI) (g : MG) (body : MS) : MS := fun ρ S => (it ρ S).st ρ fun iv S1 => forGo iv.src (iv.src.bind fun n => S1[n]?) g body iv.items ρ S1
def whileN (c : MT) (body : MS) : Nat → Env' → Sto → RS
  | 0, _, _ => .er
  | n + 1, ρ, S => (c ρ S).st ρ fun x S1 => if x = true then (match body ρ S1 with
      | .nx ρ2 S2 => whileN c body n ρ2 S2
      | .ct ρ2 S2 => whileN c body n ρ2 S2
      | .bk ρ2 S2 => .nx ρ2 S2
      | r => r) else .nx ρ S1
open Classical in
noncomputable def sWhile (c : MT) (body : MS) : MS := fun ρ S => if h : ∃ n, whileN c body n ρ S ≠ .er then whileN c body h.choose ρ S else .er
theorem whileN_mono {c : MT} {body : MS} : ∀ {n m : Nat} {ρ : Env'} {S : Sto}, n ≤ m → whileN c body n ρ S ≠ .er → whileN c body m ρ S = whileN c body n ρ S
  | 0, _, _, _, _, h => absurd rfl h
  | n + 1, 0, _, _, h, _ => by omega
  | n + 1, m + 1, ρ, S, hl, h => by
    unfold whileN at h ⊢
    cases q : c ρ S with
    | er => rfl
    | ex c fs S1 => rfl
    | ok x S1 =>
      rw [q] at h
      simp only [R.st_ok] at h ⊢
      split
      · rename_i hx
        rw [if_pos hx] at h
        cases qb : body ρ S1 with
        | nx ρ2 S2 => rw [qb] at h; exact whileN_mono (by omega) h
        | ct ρ2 S2 => rw [qb] at h; exact whileN_mono (by omega) h
        | bk ρ2 S2 => rfl
        | rt u S2 => rfl
        | ex c fs ρ2 S2 => rfl
        | er => rfl
      · rfl
theorem sWhile_eq {c : MT} {body : MS} {n : Nat} {ρ : Env'} {S : Sto} (h : whileN c body n ρ S ≠ .er) : sWhile c body ρ S = whileN c body n ρ S := by
  have hx : ∃ n, whileN c body n ρ S ≠ .er := ⟨n, h⟩
  unfold sWhile
  rw [dif_pos hx]
  rcases Nat.le_total n hx.choose with l | l
  · exact whileN_mono l h
  · exact (whileN_mono l hx.choose_spec).symm
section
variable {X : Cx} {cl : Nat → Addr} {W : WX} {c tg iter : Expr} {body : List Stmt} {mi : MI} {tc : MT} {mb : MS} {g : MG} {pos : Pos}
theorem qs_for {js : List Nat} (hp : PassesOwn (model X.prog X.w) X.A X.env X.xe) (hc : X.calm = true) (hi : QI X cl W tg iter mi) (hg : QG X cl tg js g) (hb : QSs X cl W body mb)
    (hs : ∀ x, foldedSetIterable iter X.env x = pure x := by intro _; rfl) : QS X cl W (.For tg iter body [] pos) (sFor mi g mb) :=
  PS.imp (ps_for hp hc hi hg hb hs) fun D σ H ⟨ι, F, S, ρ, r, en, o⟩ => by
    refine ⟨ι, F, S, ρ, r, en, ?_⟩
    unfold sFor at o
    cases q : mi ρ S with
    | er => rw [q] at o; exact o
    | ex k fs S1 => rw [q] at o; exact o σ ι F H Evo.refl en
    | ok iv S1 =>
      rw [q] at o
      intro J ι1 F1 H1 e1 r1 wk
      have o1 : OutS (bx X cl) W ι1 F1 H1 D (forGo iv.src (iv.src.bind fun n => S1[n]?) g mb iv.items ρ S1) := OutS.shift e1 o
      refine ⟨fun i m σ' H' => m = iv.items.length - i ∧ i ≤ iv.items.length ∧ ∃ ι2 F2 S2 ρ2, Evo ι1 F1 H1 ι2 F2 H' ∧ Rel (bx X cl) ι2 F2 S2 H' ∧ REnv (bx X cl) ι2 F2 H' σ' ρ2 ∧ srcOk iv.src (iv.src.bind fun n => S1[n]?) S2 ∧
        OutS (bx X cl) W ι2 F2 H' D (forGo iv.src (iv.src.bind fun n => S1[n]?) g mb (iv.items.drop i) ρ2 S2), ⟨iv.items.length, by simp, by simp, ι1, F1, S1, ρ, Evo.refl, r1, en.mono e1, ?_, by simpa using o1⟩, ?_⟩
      · unfold srcOk; split
        · trivial
        · rename_i n hn; simp [hn]
      · rintro i m σ2 H2 ⟨rfl, hi, ι2, F2, S2, ρ2, e2, r2, en2, so, o2⟩
        have so' : ∀ n, iv.src = some n → S2[n]? = S1[n]? := fun n hn => by
          unfold srcOk at so
          rw [hn] at so
          simpa [hn] using so
        obtain ⟨w1, w2⟩ := wk i ι2 F2 S2 H2 e2 r2 so'
        by_cases hlt : i < iv.items.length
        · obtain ⟨go, yl⟩ := w1 hlt
          refine .inr ⟨go, fun σ' H' => i + 1 ≤ iv.items.length ∧ ∃ ι3 F3 S3 ρ3, Evo ι1 F1 H1 ι3 F3 H' ∧ Rel (bx X cl) ι3 F3 S3 H' ∧ REnv (bx X cl) ι3 F3 H' σ' ρ3 ∧ srcOk iv.src (iv.src.bind fun n => S1[n]?) S3 ∧
            OutS (bx X cl) W ι3 F3 H' D (forGo iv.src (iv.src.bind fun n => S1[n]?) g mb (iv.items.drop (i + 1)) ρ3 S3), fun σ' H' p => ⟨iv.items.length - (i + 1), by omega, rfl, p⟩, fun x H' y => ?_⟩
          obtain ⟨e3, r3, z3⟩ := yl x H' y
          have hd : iv.items.drop i = iv.items[i] :: iv.items.drop (i + 1) := List.drop_eq_getElem_cons hlt
          rw [hd] at o2
          unfold forGo at o2
          cases qg : g iv.items[i] ρ2 with
          | none => rw [qg] at o2; exact o2.elim
          | some ρ3 =>
            rw [qg] at o2
            have o3 := OutS.shift e3 o2
            refine ⟨ι2, F2, S2, ρ2, iv.items[i], ρ3, r3, en2.mono e3, z3 _ (by simp [hlt]), qg, fun σ3 en3 _ _ => ⟨ι2, F2, S2, ρ3, r3, en3, ?_⟩⟩
            simp only at o3
            cases qb : mb ρ3 S2 with
            | nx ρ4 S4 =>
              rw [qb] at o3
              simp only at o3
              split at o3
              · rename_i hs
                exact fun σ' ι' F' H'' e' r' en' => ⟨hlt, ι', F', S4, ρ4, (e2.trans e3).trans e', r', en', hs, OutS.shift e' o3⟩
              · exact o3.elim
            | ct ρ4 S4 =>
              rw [qb] at o3
              simp only at o3
              split at o3
              · rename_i hs
                exact fun σ' ι' F' H'' e' r' en' => ⟨hlt, ι', F', S4, ρ4, (e2.trans e3).trans e', r', en', hs, OutS.shift e' o3⟩
              · exact o3.elim
            | bk ρ4 S4 => rw [qb] at o3; exact o3
            | rt u S4 => rw [qb] at o3; exact o3
            | ex k fs ρ4 S4 => rw [qb] at o3; exact o3
            | er => rw [qb] at o3; exact o3
        · have hd : iv.items.drop i = [] := List.drop_eq_nil_of_le (by omega)
          rw [hd] at o2
          exact .inl ⟨w2 (by omega), o2 σ2 ι2 F2 H2 Evo.refl r2 en2⟩
theorem qs_while (hp : PassesOwn (model X.prog X.w) X.A X.env X.xe) (hc : QT X cl W c tc) (hb : QSs X cl W body mb) : QS X cl W (.While c body [] pos) (sWhile tc mb) :=
  PS.imp (ps_while hp hc hb) fun D σ H ⟨ι, F, S, ρ, r, en, o⟩ => by
    unfold sWhile at o
    split at o
    · rename_i hx
      refine ⟨fun m σ' H' => ∃ ι1 F1 S1 ρ1, Rel (bx X cl) ι1 F1 S1 H' ∧ REnv (bx X cl) ι1 F1 H' σ' ρ1 ∧ OutS (bx X cl) W ι1 F1 H' D (whileN tc mb m ρ1 S1), ⟨_, ι, F, S, ρ, r, en, o⟩, ?_⟩
      rintro m σ1 H1 ⟨ι1, F1, S1, ρ1, r1, en1, o1⟩
      cases m with
      | zero => exact o1.elim
      | succ m =>
        unfold whileN at o1
        refine ⟨ι1, F1, S1, ρ1, r1, en1, (o1.st en1).mono fun x H2 ⟨ι2, F2, S2, x', e2, r2, z2, o2⟩ => ?_⟩
        subst z2
        cases x with
        | false => exact o2 σ1 ι2 F2 H2 Evo.refl r2 (en1.mono e2)
        | true =>
          refine ⟨fun σ' H' => ∃ ι1 F1 S1 ρ1, Rel (bx X cl) ι1 F1 S1 H' ∧ REnv (bx X cl) ι1 F1 H' σ' ρ1 ∧ OutS (bx X cl) W ι1 F1 H' D (whileN tc mb m ρ1 S1), fun σ' H' p => ⟨m, Nat.lt_succ_self m, p⟩, ι2, F2, S2, ρ1, r2, en1.mono e2, ?_⟩
          simp only [if_true] at o2
          cases qb : mb ρ1 S2 with
          | nx ρ4 S4 => rw [qb] at o2; exact fun σ' ι' F' H'' e' r' en' => ⟨ι', F', S4, ρ4, r', en', OutS.shift e' o2⟩
          | ct ρ4 S4 => rw [qb] at o2; exact fun σ' ι' F' H'' e' r' en' => ⟨ι', F', S4, ρ4, r', en', OutS.shift e' o2⟩
          | bk ρ4 S4 => rw [qb] at o2; exact o2
          | rt u S4 => rw [qb] at o2; exact o2
          | ex k fs ρ4 S4 => rw [qb] at o2; exact o2
          | er => rw [qb] at o2; exact o2
    · exact o.elim
end
end Pu
/-! Pu: defs: what leaves a def is frozen; promises; calls. -/
namespace Pu
open PySem L2

def optAll {α β : Type} (f : α → Option β) : List α → Option (List β)
  | [] => some []
  | x :: xs => match f x with
    | some y => (optAll f xs).map (y :: ·)
    | none => none
/-- a value that was made behind the first n cells, as data -/
def frz (n : Nat) : Nat → Sto → U → Option D
  | _, _, .v d => some d
  | 0, _, .r _ => none
  | k + 1, S, .r m => if m < n then none else match S[m]? with
    | some (.lst xs) => (optAll (frz n k S) xs).map D.lst
    | some (.dic kvs) => (optAll (fun p : D × U => (frz n k S p.2).map fun d => (p.1, d)) kvs).map D.dic
    | some (.ins c fs) => (optAll (fun p : Str × U => (frz n k S p.2).map fun d => (p.1, d)) fs).map (D.ins c)
    | _ => none
@[simp] theorem frz_v (n k : Nat) (S : Sto) (d : D) : frz n k S (.v d) = some d := by cases k <;> rfl
theorem optAll_vals {f : U → Option D} (h : ∀ d, f (.v d) = some d) : ∀ ds : List D, optAll f (ds.map U.v) = some ds
  | [] => rfl
  | d :: ds => by simp [optAll, h, optAll_vals h ds]
@[simp] theorem optAll_frz (n k : Nat) (S : Sto) (ds : List D) : optAll (frz n k S) (ds.map U.v) = some ds := optAll_vals (frz_v n k S) ds
def fixU (n k : Nat) (S : Sto) : U → Option U
  | .v d => some (.v d)
  | .r m => if m < n then some (.r m) else (frz n k S (.r m)).map U.v
def fixC (n k : Nat) (S : Sto) : Cell → Option Cell
  | .lst xs => (optAll (fixU n k S) xs).map Cell.lst
  | .dic kvs => (optAll (fun p : D × U => (fixU n k S p.2).map fun d => (p.1, d)) kvs).map Cell.dic
  | .ins c fs => (optAll (fun p : Str × U => (fixU n k S p.2).map fun d => (p.1, d)) fs).map (Cell.ins c)
  | .dead => some .dead
/-- the store behind a def: the caller's cells -/
noncomputable def fixS (S S' : Sto) : Option Sto := if S'.take S.length = S then some S else optAll (fixC S.length 4 S') (S'.take S.length)
noncomputable def fin (S : Sto) (u : U) (S' : Sto) : R U := match fixU S.length 4 S' u, fixS S S' with
  | some u', some S'' => .ok u' S''
  | _, _ => .er
noncomputable def finX (S : Sto) (c : Nat) (fs : List (Str × U)) (S' : Sto) : R U := match optAll (fun p : Str × U => (fixU S.length 4 S' p.2).map fun d => (p.1, d)) fs, fixS S S' with
  | some fs', some S'' => .ex c fs' S''
  | _, _ => .er
/-- a def with N names and the body m -/
noncomputable def runF (N : Nat) (m : MS) (us : List U) (S : Sto) : R U := match m (us.map some ++ List.replicate (N - us.length) none) S with
  | .rt u S' => fin S u S'
  | .nx _ S' => fin S (.v .non) S'
  | .ex c fs _ S' => finX S c fs S'
  | _ => .er
/-- .. that hands on what may change -/
noncomputable def runK (N : Nat) (m : MS) (us : List U) (S : Sto) : R U := match m (us.map some ++ List.replicate (N - us.length) none) S with
  | .rt u S' => .ok u S'
  | .nx _ S' => .ok (.v .non) S'
  | .ex c fs _ S' => .ex c fs S'
  | _ => .er

theorem optAll_paired {α β γ : Type} {P : γ → α → Prop} {Q : γ → β → Prop} {f : α → Option β} (h : ∀ g a b, P g a → f a = some b → Q g b) : ∀ {gs : List γ} {as : List α} {bs : List β}, Paired P gs as → optAll f as = some bs → Paired Q gs bs
  | _, _, _, .nil, e => by cases e; exact .nil
  | _, _, _, .cons (l₁ := gs) (l₂ := as) (b := a) p ps, e => by
    unfold optAll at e
    cases q : f a with
    | none => rw [q] at e; cases e
    | some y =>
      rw [q] at e
      cases q2 : optAll f as with
      | none => rw [q2] at e; cases e
      | some ys =>
        rw [q2] at e
        cases e
        exact .cons (h _ _ _ p q) (optAll_paired h ps q2)

section
variable {B : Bx} {ι : List Addr} {F : Addr → Prop} {H : Hp} {S : Sto} {n : Nat}
/-- all that was made behind the first n cells is frozen -/
def frzF (n : Nat) (ι : List Addr) (F : Addr → Prop) (H : Hp) : Addr → Prop := fun a => F a ∨ (∃ m, n ≤ m ∧ ι[m]? = some a) ∨ ∃ m b, n ≤ m ∧ ι[m]? = some b ∧ H a = some (.own b)
theorem frz_evo : Evo ι F H ι (frzF n ι F H) H := ⟨fun _ _ h => h, fun _ h => .inl h, fun _ _ _ h => h, fun _ _ h => h, fun _ h => h⟩
theorem repK_of {F2 : Addr → Prop} : ∀ {es : List Ent} {kvs : List (D × D)}, Paired (fun (e : Ent) (p : D × D) => nkey p.1 = some e.1 ∧ Rep B F2 H (.ref e.2.1) p.1 ∧ e.1.depth ≤ 8 ∧ ∃ v, RelV v e.2.2 ∧ Rep B F2 H v p.2) es kvs → RepK B F2 H es kvs
  | _, _, .nil => .nil
  | _, _, .cons ⟨a, b, c, v, r, z⟩ t => .cons a b c r z (repK_of t)
theorem repF_of {F2 : Addr → Prop} : ∀ {es : List (Str × V)} {kvs : List (Str × D)}, Paired (fun (e : Str × V) (p : Str × D) => e.1 = p.1 ∧ Rep B F2 H e.2 p.2) es kvs → RepF B F2 H es kvs
  | _, _, .nil => .nil
  | _, _, .cons (a := (x, v)) (b := (y, d)) ⟨a, b⟩ t => by
    have a : x = y := a
    subst a
    exact .cons b (repF_of t)
theorem frz_ok (r : Rel B ι F S H) : ∀ (k : Nat) {v : V} {u : U} {d : D}, RepU B ι F H v u → frz n k S u = some d → Rep B (frzF n ι F H) H v d := by
  intro k
  induction k with
  | zero =>
    intro v u d h e
    cases h with
    | v h => simp at e; subst e; exact h.mono frz_evo
    | r h => simp [frz] at e
  | succ k ih =>
    intro v u d h e
    cases h with
    | v h => simp at e; subst e; exact h.mono frz_evo
    | @r m a h =>
      unfold frz at e
      split at e
      · cases e
      · rename_i hm
        have fa : frzF n ι F H a := .inr (.inl ⟨m, by omega, h⟩)
        cases q : S[m]? with
        | none => rw [q] at e; cases e
        | some c =>
          rw [q] at e
          have ok := r.ok m a c h q
          cases c with
          | dead => cases e
          | lst xs =>
            obtain ⟨vs, ha, rs⟩ := ok
            obtain ⟨ds, e1, e2⟩ := Option.map_eq_some_iff.mp e
            subst e2
            exact .lst fa ha (reps_iff.mpr (optAll_paired (P := RepU B ι F H) (Q := Rep B (frzF n ι F H) H) (f := frz n k S) (fun g a b p q => ih p q) rs e1))
          | dic kvs =>
            obtain ⟨es, ha, z, rs⟩ := ok
            obtain ⟨ds, e1, e2⟩ := Option.map_eq_some_iff.mp e
            subst e2
            refine .dic fa ha z (repK_of (optAll_paired (fun g a b p q => ?_) rs e1))
            obtain ⟨p1, p2, p3, w, p4, p5⟩ := p
            obtain ⟨d', q1, q2⟩ := Option.map_eq_some_iff.mp q
            subst q2
            exact ⟨p1, p2.mono (ι := ι) (ι' := ι) frz_evo, p3, w, p4, ih p5 q1⟩
          | ins c fs =>
            obtain ⟨dx, vs, ha, hd, nd, rs⟩ := ok
            obtain ⟨ds, e1, e2⟩ := Option.map_eq_some_iff.mp e
            subst e2
            refine .ins fa (.inr (.inr ⟨m, a, by omega, h, hd⟩)) ha hd (repF_of (optAll_paired (fun g a b p q => ?_) rs e1))
            obtain ⟨p1, p2⟩ := p
            obtain ⟨d', q1, q2⟩ := Option.map_eq_some_iff.mp q
            subst q2
            exact ⟨p1, ih p2 q1⟩
theorem take_get {α : Type} {l : List α} {n m : Nat} {x : α} (h : l[m]? = some x) (hm : m < n) : (l.take n)[m]? = some x := by
  rw [List.getElem?_take_of_lt hm]; exact h
theorem fixU_ok (r : Rel B ι F S H) {k : Nat} {v : V} {u u' : U} (h : RepU B ι F H v u) (e : fixU n k S u = some u') : RepU B (ι.take n) (frzF n ι F H) H v u' := by
  cases h with
  | v h => cases e; exact .v (h.mono (ι := ι) (ι' := ι) frz_evo)
  | @r m a h =>
    have e : (if m < n then some (U.r m) else (frz n k S (.r m)).map U.v) = some u' := e
    split at e
    · rename_i hm
      cases e
      exact .r (take_get h hm)
    · obtain ⟨d, e1, e2⟩ := Option.map_eq_some_iff.mp e
      subst e2
      exact .v (frz_ok r k (.r h) e1)
/-- refs below n -/
def refLt (n : Nat) : U → Prop
  | .v _ => True
  | .r m => m < n
def cellLt (n : Nat) : Cell → Prop
  | .lst xs => ∀ u ∈ xs, refLt n u
  | .dic kvs => ∀ p ∈ kvs, refLt n p.2
  | .ins _ fs => ∀ p ∈ fs, refLt n p.2
  | .dead => True
theorem RepU.lt {v : V} {u : U} (h : RepU B ι F H v u) : refLt ι.length u := by
  cases h with
  | v _ => trivial
  | r h => exact (List.getElem?_eq_some_iff.mp h).1
theorem paired_mem {α β : Type} {P : α → β → Prop} {Q : β → Prop} (h : ∀ a b, P a b → Q b) : ∀ {xs : List α} {ys : List β}, Paired P xs ys → ∀ y ∈ ys, Q y
  | _, _, .nil, _, hy => by cases hy
  | _, _, .cons p t, y, hy => by
    rcases List.mem_cons.mp hy with e | e
    · subst e; exact h _ _ p
    · exact paired_mem h t y e
theorem Rel.lt (r : Rel B ι F S H) {c : Cell} (hc : c ∈ S) : cellLt S.length c := by
  obtain ⟨m, hm⟩ := List.getElem?_of_mem hc
  have hlt := (List.getElem?_eq_some_iff.mp hm).1
  rw [← r.len] at hlt
  have ok := r.ok m ι[m] c (by simp [hlt]) hm
  rw [← r.len]
  cases c with
  | lst xs => obtain ⟨vs, _, q⟩ := ok; exact paired_mem (fun _ _ z => z.lt) q
  | dic kvs => obtain ⟨vs, _, _, q⟩ := ok; exact paired_mem (fun _ _ ⟨_, _, _, _, _, z⟩ => z.lt) q
  | ins c fs => obtain ⟨_, vs, _, _, _, q⟩ := ok; exact paired_mem (fun _ _ ⟨_, z⟩ => z.lt) q
  | dead => trivial
theorem RepU.take {v : V} {u : U} (h : RepU B ι F H v u) (l : refLt n u) : RepU B (ι.take n) (frzF n ι F H) H v u := by
  cases h with
  | v h => exact .v (h.mono (ι := ι) (ι' := ι) frz_evo)
  | r h => exact .r (take_get h l)
theorem paired_memP {α β : Type} {P P' : α → β → Prop} {Q : β → Prop} (h : ∀ a b, P a b → Q b → P' a b) : ∀ {xs : List α} {ys : List β}, Paired P xs ys → (∀ y ∈ ys, Q y) → Paired P' xs ys
  | _, _, .nil, _ => .nil
  | _, _, .cons p t, hy => .cons (h _ _ p (hy _ (by simp))) (paired_memP h t fun y m => hy y (by simp [m]))
/-- a cell of the caller's: nothing of it is younger than n, or it was fixed -/
theorem CellOk.own_ne (r : Rel B ι F S H) {j : Nat} {a dx : Addr} (hj : j < n) (h1 : ι[j]? = some a) (hd : H dx = some (.own a)) (nd : ¬ F dx) : ¬ frzF n ι F H dx := by
  rintro (z | ⟨m, hm, z⟩ | ⟨m, b, hm, z, zb⟩)
  · exact nd z
  · exact r.now dx (List.mem_of_getElem? z) _ hd
  · rw [hd] at zb
    have zb : a = b := by injection zb with zb; injection zb
    subst zb
    obtain ⟨q1, e1⟩ := List.getElem?_eq_some_iff.mp h1
    obtain ⟨q2, e2⟩ := List.getElem?_eq_some_iff.mp z
    have := (List.getElem_inj r.nd).mp (e1.trans e2.symm)
    omega
theorem CellOk.take (r : Rel B ι F S H) {j : Nat} {a : Addr} {c : Cell} (hj : j < n) (h1 : ι[j]? = some a) (x : CellOk B ι F H a c) (l : cellLt n c) : CellOk B (ι.take n) (frzF n ι F H) H a c := by
  cases c with
  | lst xs => obtain ⟨vs, h, q⟩ := x; exact ⟨vs, h, paired_memP (fun _ _ z l => z.take l) q l⟩
  | dic kvs => obtain ⟨vs, h, z, q⟩ := x; exact ⟨vs, h, z, paired_memP (Q := fun p : D × U => refLt n p.2) (fun _ _ ⟨a, b, c, w, d, e⟩ l => ⟨a, b.mono (ι := ι) (ι' := ι) frz_evo, c, w, d, e.take l⟩) q l⟩
  | ins c fs => obtain ⟨dx, vs, h, hd, nd, q⟩ := x; exact ⟨dx, vs, h, hd, CellOk.own_ne r hj h1 hd nd, paired_memP (Q := fun p : Str × U => refLt n p.2) (fun _ _ ⟨a, e⟩ l => ⟨a, e.take l⟩) q l⟩
  | dead => trivial
theorem CellOk.fixed (r : Rel B ι F S H) {j k : Nat} {a : Addr} {c c' : Cell} (hj : j < n) (h1 : ι[j]? = some a) (x : CellOk B ι F H a c) (e : fixC n k S c = some c') : CellOk B (ι.take n) (frzF n ι F H) H a c' := by
  cases c with
  | lst xs =>
    obtain ⟨vs, h, q⟩ := x
    obtain ⟨ys, e1, rfl⟩ := Option.map_eq_some_iff.mp e
    exact ⟨vs, h, optAll_paired (P := RepU B ι F H) (Q := RepU B (ι.take n) (frzF n ι F H) H) (f := fixU n k S) (fun _ _ _ p e => fixU_ok r p e) q e1⟩
  | dic kvs =>
    obtain ⟨vs, h, z, q⟩ := x
    obtain ⟨ys, e1, rfl⟩ := Option.map_eq_some_iff.mp e
    refine ⟨vs, h, z, optAll_paired (fun _ _ _ p e => ?_) q e1⟩
    obtain ⟨p1, p2, p3, w, p4, p5⟩ := p
    obtain ⟨u, q1, rfl⟩ := Option.map_eq_some_iff.mp e
    exact ⟨p1, p2.mono (ι := ι) (ι' := ι) frz_evo, p3, w, p4, fixU_ok r p5 q1⟩
  | ins c fs =>
    obtain ⟨dx, vs, h, hd, nd, q⟩ := x
    obtain ⟨ys, e1, rfl⟩ := Option.map_eq_some_iff.mp e
    refine ⟨dx, vs, h, hd, CellOk.own_ne r hj h1 hd nd, optAll_paired (fun _ _ _ p e => ?_) q e1⟩
    obtain ⟨p1, p5⟩ := p
    obtain ⟨u, q1, rfl⟩ := Option.map_eq_some_iff.mp e
    exact ⟨p1, fixU_ok r p5 q1⟩
  | dead => cases e; trivial
theorem optAll_get {α β : Type} {f : α → Option β} : ∀ {as : List α} {bs : List β}, optAll f as = some bs → as.length = bs.length ∧ ∀ (i : Nat) b, bs[i]? = some b → ∃ a, as[i]? = some a ∧ f a = some b
  | [], bs, e => by cases e; exact ⟨rfl, fun i b h => by simp at h⟩
  | x :: xs, bs, e => by
    unfold optAll at e
    cases q : f x with
    | none => rw [q] at e; cases e
    | some y =>
      rw [q] at e
      obtain ⟨ys, e1, rfl⟩ := Option.map_eq_some_iff.mp e
      obtain ⟨l, g⟩ := optAll_get e1
      refine ⟨by simp [l], fun i b h => ?_⟩
      cases i with
      | zero => simp at h; subst h; exact ⟨x, rfl, q⟩
      | succ i => simpa using g i b (by simpa using h)
theorem fixC_live {n k : Nat} {S : Sto} {c c' : Cell} (e : fixC n k S c = some c') (h : c'.live = true) : c.live = true := by
  cases c <;> first | rfl | (cases e; cases h)
theorem Rel.exit {S0 S'' : Sto} {ι0 : List Addr} {F0 : Addr → Prop} {H0 : Hp} (r0 : Rel B ι0 F0 S0 H0) (e : Evo ι0 F0 H0 ι F H) (r : Rel B ι F S H) (hs : fixS S0 S = some S'') : Rel B (ι.take S0.length) (frzF S0.length ι F H) S'' H ∧ ι.take S0.length = ι0 := by
  have hle : S0.length ≤ S.length := by
    rw [← r0.len, ← r.len]
    cases q : ι0.length with
    | zero => omega
    | succ k =>
      have h1 : ι0[k]? = some ι0[k] := by simp
      have := (List.getElem?_eq_some_iff.mp (e.pre k _ h1)).1
      omega
  have et : ι.take S0.length = ι0 := by
    apply List.ext_getElem?
    intro m
    by_cases hm : m < S0.length
    · rw [List.getElem?_take_of_lt hm]
      have h1 : ι0[m]? = some (ι0[m]'(by rw [r0.len]; exact hm)) := by simp
      rw [h1]; exact e.pre m _ h1
    · rw [List.getElem?_eq_none (by simp; omega), List.getElem?_eq_none (by rw [r0.len]; omega)]
  refine ⟨?_, et⟩
  -- the cells behind
  have key : S''.length = S0.length ∧ ∀ (j : Nat) (c : Cell), S''[j]? = some c → ∃ c0, S[j]? = some c0 ∧ (c.live = true → c0.live = true) ∧ ∀ a, ι[j]? = some a → j < S0.length → CellOk B ι F H a c0 → CellOk B (ι.take S0.length) (frzF S0.length ι F H) H a c := by
    unfold fixS at hs
    split at hs
    · rename_i hx
      cases hs
      refine ⟨rfl, fun j c hj => ⟨c, ?_, fun z => z, fun a ha hl x => x.take r hl ha (r0.lt (List.mem_of_getElem? hj))⟩⟩
      have hl := (List.getElem?_eq_some_iff.mp hj).1
      have hj' : (S.take S0.length)[j]? = some c := by rw [hx]; exact hj
      rw [List.getElem?_take_of_lt hl] at hj'
      exact hj'
    · obtain ⟨l, g⟩ := optAll_get hs
      refine ⟨by rw [← l]; simp [hle], fun j c hj => ?_⟩
      obtain ⟨c0, h1, h2⟩ := g j c hj
      have hl : j < S0.length := by
        have := (List.getElem?_eq_some_iff.mp h1).1
        simp at this; omega
      rw [List.getElem?_take_of_lt hl] at h1
      exact ⟨c0, h1, fixC_live h2, fun a ha hl x => x.fixed r hl ha h2⟩
  obtain ⟨kl, kc⟩ := key
  have lt_of : ∀ {j a}, (ι.take S0.length)[j]? = some a → j < S0.length ∧ ι[j]? = some a := fun {j a} h => by
    have hl := (List.getElem?_eq_some_iff.mp h).1
    simp at hl
    rw [List.getElem?_take_of_lt (by omega)] at h
    exact ⟨by omega, h⟩
  refine ⟨by simp [kl, r.len]; omega, r.nd.sublist (List.take_sublist _ _), fun j a c h1 h2 h3 => ?_, fun j a c h1 h2 => ?_, fun a h => r.there a (List.mem_of_mem_take h), fun a h => ?_, fun a h => r.now a (List.mem_of_mem_take h)⟩
  · obtain ⟨hl, h1⟩ := lt_of h1
    obtain ⟨c0, g1, g2, _⟩ := kc j c h2
    rintro (z | ⟨m, hm, z⟩ | ⟨m, b, hm, z, zb⟩)
    · exact r.nf j a c0 h1 g1 (g2 h3) z
    · obtain ⟨q1, e1⟩ := List.getElem?_eq_some_iff.mp h1
      obtain ⟨q2, e2⟩ := List.getElem?_eq_some_iff.mp z
      have := (List.getElem_inj r.nd).mp (e1.trans e2.symm)
      omega
    · exact r.now a (List.mem_of_getElem? h1) b zb
  · obtain ⟨hl, h1⟩ := lt_of h1
    obtain ⟨c0, g1, _, g3⟩ := kc j c h2
    exact g3 a h1 hl (r.ok j a c0 h1 g1)
  · rcases h with z | ⟨m, hm, z⟩ | ⟨m, b, hm, z, zb⟩
    · exact r.fthere a z
    · exact r.there a (List.mem_of_getElem? z)
    · rw [zb]; simp
end

/-! ### promises -/
def SpM (B : Bx) (n : Nat) (mf : List U → Sto → R U) : Sp := fun vs H Q E => vs.length = n ∧ ∃ ι F S us, Rel B ι F S H ∧ RepUs B ι F H vs us ∧ Out B (fun cls d _ H' => E cls d H') [] ι F H (RepU B) Q (mf us S)
theorem start_env {B : Bx} {ι : List Addr} {F : Addr → Prop} {H : Hp} {vs : List V} {us : List U} (h : RepUs B ι F H vs us) (N : Nat) : REnv B ι F H (vs.map some ++ List.replicate (N - vs.length) none) (us.map some ++ List.replicate (N - us.length) none) := by
  rw [paired_len h]
  refine paired_append ?_ ?_
  · induction h with
    | nil => exact .nil
    | cons a b ih => exact .cons a ih
  · induction N - us.length with
    | zero => exact .nil
    | succ k ih => exact .cons trivial ih
theorem spM_body {B : Bx} {n N : Nat} {m : MS} {vs : List V} {H : Hp} {Q : VK} {E : XK} (h : SpM B n (runF N m) vs H Q E) :
    liftS B (fun cls d _ H' => E cls d H') m { nx := fun _ H' => Q .non H', rt := Q } (vs.map some ++ List.replicate (N - vs.length) none) H := by
  obtain ⟨_, ι, F, S, us, r, z, o⟩ := h
  refine ⟨ι, F, S, _, r, start_env z N, ?_⟩
  unfold runF at o
  have val : ∀ {u : U} {S' : Sto}, Out B (fun cls d _ H' => E cls d H') [] ι F H (RepU B) Q (fin S u S') → ∀ (v : V) (ι' : List Addr) (F' : Addr → Prop) (H' : Hp), Evo ι F H ι' F' H' → Rel B ι' F' S' H' → RepU B ι' F' H' v u → Q v H' := by
    intro u S' o v ι' F' H' e r' z'
    unfold fin at o
    split at o
    · rename_i u' S'' e1 e2
      obtain ⟨r2, et⟩ := r.exit e r' e2
      refine o v _ _ H' (?_ : Evo ι F H (ι'.take S.length) (frzF S.length ι' F' H') H') r2 (fixU_ok r' z' e1)
      rw [et]
      exact ⟨fun _ _ h => h, fun a h => .inl (e.sub a h), e.keep, e.tups, e.alive⟩
    · exact o.elim
  cases q : m (us.map some ++ List.replicate (N - us.length) none) S with
  | rt u S' => rw [q] at o; exact val o
  | nx ρ S' => rw [q] at o; exact fun σ ι' F' H' e r' en => val o .non ι' F' H' e r' (.v .non)
  | bk ρ S' => rw [q] at o; exact o.elim
  | ct ρ S' => rw [q] at o; exact o.elim
  | er => rw [q] at o; exact o.elim
  | ex c fs ρ S' =>
    rw [q] at o
    intro σ ι1 F1 H1 e1 en dx ws ι' F' H' e r' hx zx
    simp only at o
    unfold finX at o
    split at o
    · rename_i fs' S'' g1 g2
      have e' := e1.trans e
      obtain ⟨r2, et⟩ := r.exit e' r' g2
      refine o dx ws _ _ H' (?_ : Evo ι F H (ι'.take S.length) (frzF S.length ι' F' H') H') r2 hx ?_
      · rw [et]
        exact ⟨fun _ _ h => h, fun a h => .inl (e'.sub a h), e'.keep, e'.tups, e'.alive⟩
      · refine optAll_paired (fun g a b p q => ?_) zx g1
        obtain ⟨p1, p5⟩ := p
        obtain ⟨u, q1, rfl⟩ := Option.map_eq_some_iff.mp q
        exact ⟨p1, fixU_ok r' p5 q1⟩
    · exact o.elim
theorem spM_bodyK {B : Bx} {n N : Nat} {m : MS} {vs : List V} {H : Hp} {Q : VK} {E : XK} (h : SpM B n (runK N m) vs H Q E) :
    liftS B (fun cls d _ H' => E cls d H') m { nx := fun _ H' => Q .non H', rt := Q } (vs.map some ++ List.replicate (N - vs.length) none) H := by
  obtain ⟨_, ι, F, S, us, r, z, o⟩ := h
  refine ⟨ι, F, S, _, r, start_env z N, ?_⟩
  unfold runK at o
  cases q : m (us.map some ++ List.replicate (N - us.length) none) S with
  | rt u S' => rw [q] at o; exact o
  | nx ρ S' => rw [q] at o; exact fun σ ι' F' H' e r' en => o .non ι' F' H' e r' (.v .non)
  | bk ρ S' => rw [q] at o; exact o.elim
  | ct ρ S' => rw [q] at o; exact o.elim
  | er => rw [q] at o; exact o.elim
  | ex c fs ρ S' => rw [q] at o; exact fun σ ι1 F1 H1 e1 en dx ws ι' F' H' e r' hx zx => o dx ws ι' F' H' (e1.trans e) r' hx zx
end Pu
/-! Pu: defs and calls, instances and their fields. -/
namespace Pu
open PySem PySem.Spec L2
open PyProof.Rows hiding St

abbrev Xd (P : Program) (w : World) (K : PySem.W.Frag) (mg : Str → Option Value) (base : Heap) (N : List Str) (qual : Str) (scope : Scope) (f : Addr) (cdv : Value) (A : Around) (outer : List Env) (s : Shared) (H : Hp) (E : XK) : Cx :=
  cxOf (L2.CX P w) P w K mg base N qual scope f cdv A outer s H E
abbrev Wd (E : XK) : WX := fun cls d _ H' => E cls d H'
section
variable {P : Program} {w : World} {K : PySem.W.Frag} {mg : Str → Option Value} {base : Heap} {cl : Nat → Addr} {x qual : Str} {params : Arguments} {body : List Stmt} {scope : Scope} {dvs : List V} {kws : List (Str × V)} {f : Addr} {fd : FuncData} {N ps : List Str} {k : Nat} {m : MS}
theorem fn_q (Fd : FunD K x qual params body scope dvs kws f fd) (Sc : FnScope N ps scope)
    (hb : ∀ (cdv : Value) (A : Around) (outer : List Env) (s : Shared) (H : Hp) (E : XK), Room k (A.deeper (envOfC qual scope s.heap.objs.size f cdv)) → QSs (Xd P w K mg base N qual scope f cdv A outer s H E) cl (Wd E) body m) :
    FnOk P w K mg base (L2.CX P w) (k + 1) f fd ps (SpM ⟨P, w, K, cl⟩ ps.length (runF N.length m)) :=
  Fd.ok Sc (fun _ _ _ _ h => h.1) fun cdv A outer s H vs Q E hr h => ⟨_, hb cdv A outer s H E hr, spM_body h⟩
theorem fn_qK (Fd : FunD K x qual params body scope dvs kws f fd) (Sc : FnScope N ps scope)
    (hb : ∀ (cdv : Value) (A : Around) (outer : List Env) (s : Shared) (H : Hp) (E : XK), Room k (A.deeper (envOfC qual scope s.heap.objs.size f cdv)) → QSs (Xd P w K mg base N qual scope f cdv A outer s H E) cl (Wd E) body m) :
    FnOk P w K mg base (L2.CX P w) (k + 1) f fd ps (SpM ⟨P, w, K, cl⟩ ps.length (runK N.length m)) :=
  Fd.ok Sc (fun _ _ _ _ h => h.1) fun cdv A outer s H vs Q E hr h => ⟨_, hb cdv A outer s H E hr, spM_bodyK h⟩
end

/-- a call of the def whose mirror is mf; dds: the defaults -/
def eCall (n : Nat) (mf : List U → Sto → R U) (dds : List U) (a : MA) : ME := fun ρ S => (a ρ S).bind fun us S1 => if us.length + dds.length = n then mf (us ++ dds) S1 else .er
section
variable {B : Bx} {W : WX} {σ : St} {ι : List Addr} {F : Addr → Prop} {H : Hp} {Q : VK}
theorem out_w {r : R U} (h : Out B W σ ι F H (RepU B) Q r) : Out B (fun cls d _ H' => WE W σ cls d H') [] ι F H (RepU B) Q r := by
  cases r with
  | ok a S' => exact h
  | ex c fs S' => exact h
  | er => exact h
end
section
variable {X : Cx} {cl : Nat → Addr} {W : WX} {k n : Nat} {f C : Addr} {fd : FuncData} {ps : List Str} {mf : List U → Sto → R U} {dvs : List V} {ds : List Value} {dds : List D} {x m : Str} {p pos apos : Pos} {e o : Expr} {es : List Expr} {mo : ME} {mA : MA}
/-- the defaults as data -/
def Dfl (cl : Nat → Addr) (dvs : List V) (dds : List D) : Prop := ∀ (B : Bx) (F : Addr → Prop) (H : Hp), B.cl = cl → Reps B F H dvs dds
theorem Dfl.nil : Dfl cl [] [] := fun _ _ _ _ => .nil
theorem sp_of {σ : St} {ι : List Addr} {F : Addr → Prop} {H : Hp} {S : Sto} {Q : VK} {vs : List V} {us : List U} (hD : Dfl cl dvs dds) (r : Rel (bx X cl) ι F S H) (z : RepUs (bx X cl) ι F H vs us)
    (o : Out (bx X cl) W σ ι F H (RepU (bx X cl)) Q (if us.length + (dds.map U.v).length = n then mf (us ++ dds.map U.v) S else .er)) : SpM (bx X cl) n mf (vs ++ dvs) H Q (WE W σ) := by
  have zz : RepUs (bx X cl) ι F H (vs ++ dvs) (us ++ dds.map U.v) := paired_append z (reps_u (hD _ F H rfl))
  split at o
  · rename_i hl
    refine ⟨?_, ι, F, S, _, r, zz, out_w o⟩
    rw [paired_len zz]
    simpa using hl
  · exact o.elim
theorem qe_call (Fn : FnOk X.prog X.w X.K X.mg X.base (L2.CX X.prog X.w) k f fd ps (SpM (bx X cl) n mf)) (tk : Takes X W) (hr : Room k X.A) (hg : Gl X x) (hm : X.mg x = some (.ref f)) (hk : PySem.W.keepIn X.K (.ref f) = true) (hb : Binds X.K fd ps ds) (hd : Vals dvs ds) (hD : Dfl cl dvs dds)
    (ha : QA X cl W (e :: es) mA) (hdb : (x == ("__debug__" : Str)) = false := by decide) (he : starEach (e :: es) X.env = (false, eval e X.env) :: starEach es X.env := by rfl) (hpl : (backTo pos (starEach es X.env)).any (·.1) = false := by rfl) :
    QE X cl W (.Call (.Name x p) (e :: es) [] pos) (eCall n mf (dds.map U.v) mA) :=
  PE.imp (pe_callSD Fn hr hg hm hk hb hd (fun σ => passAt tk σ) ha hdb he hpl) fun σ H Q ⟨ι, F, S, ρ, r, en, o⟩ => ⟨ι, F, S, ρ, r, en, o.bind.mono fun x H1 ⟨ι1, F1, S1, x', e1, r1, z1, o1⟩ => sp_of hD r1 z1 o1⟩
theorem qe_call0 (Fn : FnOk X.prog X.w X.K X.mg X.base (L2.CX X.prog X.w) k f fd ps (SpM (bx X cl) n mf)) (tk : Takes X W) (hr : Room k X.A) (hg : Gl X x) (hm : X.mg x = some (.ref f)) (hk : PySem.W.keepIn X.K (.ref f) = true) (hb : Binds X.K fd ps ds) (hd : Vals dvs ds) (hD : Dfl cl dvs dds)
    (hdb : (x == ("__debug__" : Str)) = false := by decide) : QE X cl W (.Call (.Name x p) [] [] pos) (eCall n mf (dds.map U.v) aNil) := by
  refine ⟨fun pins s σ H Q I h => ?_⟩
  obtain ⟨ι, F, S, ρ, r, en, o⟩ := h
  refine wpAny_Call_Name_kw (ld_glob I hg hm ?_ hdb)
  exact PySem.W.callWith_K0 I.kIn hk (run_fnSD (us := []) (vs := []) Fn hr hb hd (passAt tk σ) I .nil (sp_of hD r (.nil : RepUs (bx X cl) ι F H [] []) o))

/-! ### instances -/
/-- an instance of the class c: its attributes -/
def asIns (S : Sto) : U → Option (Nat × List (Str × U))
  | .v (.ins c fs) => some (c, fs.map fun p => (p.1, .v p.2))
  | .r n => match S[n]? with
    | some (.ins c fs) => some (c, fs)
    | _ => none
  | _ => none
theorem repF_paired {B : Bx} {ι : List Addr} {F : Addr → Prop} {H : Hp} : ∀ {vs : List (Str × V)} {fs : List (Str × D)}, RepF B F H vs fs → RepFU B ι F H vs (fs.map fun p => (p.1, U.v p.2))
  | _, _, .nil => .nil
  | _, _, .cons a b => .cons ⟨rfl, .v a⟩ (repF_paired b)
theorem asIns_ok {B : Bx} {ι : List Addr} {F : Addr → Prop} {H : Hp} {S : Sto} {v : V} {u : U} {c : Nat} {fs : List (Str × U)} (r : Rel B ι F S H) (z : RepU B ι F H v u) (e : asIns S u = some (c, fs)) :
    ∃ a dx vs, v = .ref a ∧ H a = some (.ins (B.cl c) dx vs) ∧ RepFU B ι F H vs fs := by
  cases z with
  | v z =>
    cases z with
    | ins f g h h2 rr => cases e; exact ⟨_, _, _, rfl, h, repF_paired rr⟩
    | _ => cases e
  | @r n a h =>
    unfold asIns at e
    simp only at e
    cases q : S[n]? with
    | none => rw [q] at e; cases e
    | some cc =>
      rw [q] at e
      have ok := r.ok n a cc h q
      cases cc with
      | ins c' fs' =>
        cases e
        obtain ⟨dx, vs, h1, _, _, rr⟩ := ok
        exact ⟨a, dx, vs, rfl, h1, rr⟩
      | _ => cases e
theorem lookup_paired {B : Bx} {ι : List Addr} {F : Addr → Prop} {H : Hp} {f : Str} : ∀ {vs : List (Str × V)} {fs : List (Str × U)}, RepFU B ι F H vs fs → (∀ u, fs.lookup f = some u → ∃ v, vs.lookup f = some v ∧ RepU B ι F H v u) ∧ (fs.lookup f = none → vs.lookup f = none)
  | _, _, .nil => ⟨fun u h => by simp at h, fun _ => rfl⟩
  | _, _, .cons (a := (x, v)) (b := (y, w)) ⟨a, b⟩ t => by
    have a : x = y := a
    subst a
    obtain ⟨i1, i2⟩ := lookup_paired t (f := f)
    refine ⟨fun u h => ?_, fun h => ?_⟩
    · rw [List.lookup_cons] at h ⊢
      split at h
      · cases h; exact ⟨v, rfl, b⟩
      · exact i1 u h
    · rw [List.lookup_cons] at h ⊢
      split at h
      · cases h
      · exact i2 h
def fFld (cs : List Nat) (f : Str) : F1 := fun u S => match asIns S u with
  | some (c', fs) => if c' ∈ cs then (fs.lookup f).map fun z => (z, S) else none
  | none => none
/-- plain classes without such a name of their own -/
def ClsF (K : PySem.W.Frag) (cl : Nat → Addr) (cs : List Nat) (f : Str) : Prop := ∀ c ∈ cs, Cls K (cl c) ∧ NoAttr K (cl c) f
theorem qe_fld {f : Str} {cs : List Nat} (he : QE X cl W e mo) (hc : ClsF X.K cl cs f) (hab : attributeBase e f X.env (eval e X.env) = eval e X.env := by rfl) : QE X cl W (.Attribute e f pos) (eUn (fFld cs f) mo) :=
  PE.imp (pe_fld he hab) fun σ H Q ⟨ι, F, S, ρ, r, en, o⟩ => ⟨ι, F, S, ρ, r, en, o.bind.mono fun x H1 ⟨ι1, F1, S1, x', e1, r1, z1, o1⟩ => by
    have o2 := o1.fin
    unfold fFld at o2
    cases q : asIns S1 x' with
    | none => rw [q] at o2; exact o2.no
    | some p =>
      obtain ⟨c', fs⟩ := p
      rw [q] at o2
      simp only at o2
      split at o2
      · rename_i hcc
        obtain ⟨a, dx, vs, ex, ha, rr⟩ := asIns_ok r1 z1 q
        cases ql : fs.lookup f with
        | none => rw [ql] at o2; exact o2.no
        | some u =>
          rw [ql] at o2
          obtain ⟨v, lv, zv⟩ := (lookup_paired rr (f := f)).1 u ql
          exact ⟨a, _, dx, vs, v, ex, ha, (hc c' hcc).1, (hc c' hcc).2, lv, o2.val r1 zv⟩
      · exact o2.no⟩
/-! ### a field is stored -/
def putU (f : Str) (v : U) : List (Str × U) → List (Str × U)
  | [] => [(f, v)]
  | (g, x) :: r => if g = f then (g, v) :: r else (g, x) :: putU f v r
theorem putU_ok {B : Bx} {ι : List Addr} {F : Addr → Prop} {H : Hp} {f : Str} {v : V} {u : U} (z : RepU B ι F H v u) : ∀ {vs : List (Str × V)} {fs : List (Str × U)}, RepFU B ι F H vs fs → RepFU B ι F H (putF f v vs) (putU f u fs)
  | _, _, .nil => .cons ⟨rfl, z⟩ .nil
  | _, _, .cons (a := (x, v')) (b := (y, w)) ⟨a, b⟩ t => by
    have a : x = y := a
    subst a
    unfold putF putU
    split
    · exact .cons ⟨rfl, z⟩ t
    · exact .cons ⟨rfl, b⟩ (putU_ok z t)
/-- o.f = value -/
def sFld (cs : List Nat) (f : Str) (mo mv : ME) : MS := fun ρ S => (mv ρ S).st ρ fun u S1 => (mo ρ S1).st ρ fun x S2 => match x with
  | .r n => match S2[n]? with
    | some (.ins c fs) => if c ∈ cs ∧ fs.length < 900 then .nx ρ (S2.set n (.ins c (putU f u fs))) else .er
    | _ => .er
  | _ => .er
theorem qs_fld {f : Str} {cs : List Nat} {mv : ME} {value : Expr} {pos' : Pos} (ha : QE X cl W o mo) (hv : QE X cl W value mv) (hc : ClsF X.K cl cs f) (hs : swapsWith value (some (.Attribute o f pos')) pos.line X.env = pure false := by rfl) :
    QS X cl W (.Assign [.Attribute o f pos'] value pos) (sFld cs f mo mv) :=
  PS.imp (ps_fld ha hv hs) fun D σ H ⟨ι, F, S, ρ, r, en, ot⟩ => ⟨ι, F, S, ρ, r, en, (ot.st en).mono fun v H1 ⟨ι1, F1, S1, u, e1, r1, z1, o1⟩ => by
    refine ⟨ι1, F1, S1, ρ, r1, en.mono e1, (o1.st (en.mono e1)).mono fun y H2 ⟨ι2, F2, S2, y', e2, r2, z2, o2⟩ => ?_⟩
    cases z2 with
    | v _ => exact o2.elim
    | @r n a h =>
      simp only at o2
      cases q : S2[n]? with
      | none => rw [q] at o2; exact o2.elim
      | some c =>
        rw [q] at o2
        cases c with
        | ins c fs =>
          simp only at o2
          split at o2
          · rename_i hcc
            obtain ⟨dx, vs, h1, h2, h3, rr⟩ := r2.ok n a _ h q
            have hlen : vs.length < 1000 := by rw [paired_len rr]; omega
            refine ⟨a, _, dx, vs, rfl, h1, (hc c hcc.1).1, (hc c hcc.1).2, hlen, ?_⟩
            have hda : dx ≠ a := fun z => by rw [z, h1] at h2; cases h2
            have e0 : Evo ι2 F2 H2 ι2 F2 (upd H2 a (.ins (cl c) dx (putF f v vs))) := by
              have nf := r2.nf n a _ h q rfl
              refine ⟨fun _ _ h => h, fun _ h => h, fun b u f h => ?_, fun b xs h => ?_, fun b h => ?_⟩
              · rw [upd_ne (fun z : b = a => nf (by rw [← z]; exact f))]; exact h
              · rw [upd_ne (fun z : b = a => by rw [z, h1] at h; cases h)]; exact h
              · by_cases hb : b = a
                · rw [hb, upd_same]; simp
                · rw [upd_ne hb]; exact h
            obtain ⟨r3, e3⟩ := r2.write (o := .ins (cl c) dx (putF f v vs)) (c' := .ins c (putU f u fs)) h q rfl (fun xs z => by rw [h1] at z; cases z) nofun
              ⟨dx, putF f v vs, upd_same, by rw [upd_ne hda]; exact h2, h3, putU_ok ((z1.mono e2).mono e0) (rr.mono e0)⟩
            exact o2 σ ι2 F2 _ e3 r3 (((en.mono e1).mono e2).mono e3)
          · exact o2.elim
        | _ => exact o2.elim⟩
end
end Pu
/-! Pu: operations on values: numbers, keys, sequences. -/
namespace Pu
open PySem L2

/-! ### keys -/
mutual
theorem nkey_inj : ∀ {a b : D} {k : NestedKey}, nkey a = some k → nkey b = some k → a = b
  | .non, b, k, h, h' => by
    simp [nkey] at h; subst h
    cases b <;> simp [nkey] at h' <;> rfl
  | .int i, b, k, h, h' => by
    simp [nkey] at h; subst h
    cases b <;> simp [nkey] at h'
    rw [h']
  | .str i, b, k, h, h' => by
    simp [nkey] at h; subst h
    cases b <;> simp [nkey] at h'
    rw [h']
  | .tup xs, b, k, h, h' => by
    simp only [nkey, Option.map_eq_some_iff] at h
    obtain ⟨ks, h1, rfl⟩ := h
    cases b with
    | tup ys =>
      simp only [nkey, Option.map_eq_some_iff] at h'
      obtain ⟨ks', h2, h3⟩ := h'
      cases h3
      rw [nkeys_inj h1 h2]
    | _ => simp [nkey] at h'
  | .bl _, _, _, h, _ => by simp [nkey] at h
  | .lst _, _, _, h, _ => by simp [nkey] at h
  | .dic _, _, _, h, _ => by simp [nkey] at h
  | .ins _ _, _, _, h, _ => by simp [nkey] at h
  | .cls _, _, _, h, _ => by simp [nkey] at h
  | .ty _, _, _, h, _ => by simp [nkey] at h
  | .frl _, _, _, h, _ => by simp [nkey] at h
theorem nkeys_inj : ∀ {a b : List D} {k : List NestedKey}, nkey.nkeys a = some k → nkey.nkeys b = some k → a = b
  | [], b, k, h, h' => by
    simp [nkey.nkeys] at h; subst h
    cases b with
    | nil => rfl
    | cons y ys =>
      unfold nkey.nkeys at h'
      split at h' <;> cases h'
  | x :: xs, b, k, h, h' => by
    unfold nkey.nkeys at h
    split at h
    · rename_i k1 ks1 e1 e2
      cases h
      cases b with
      | nil => simp [nkey.nkeys] at h'
      | cons y ys =>
        unfold nkey.nkeys at h'
        split at h'
        · rename_i k2 ks2 f1 f2
          cases h'
          rw [nkey_inj e1 f1, nkeys_inj e2 f2]
        · cases h'
    · cases h
end
/-- a key, nested to depth n -/
def keyAt : Nat → D → Bool
  | _, .non => true
  | _, .int _ => true
  | _, .str _ => true
  | n + 1, .tup xs => xs.all (keyAt n)
  | _, _ => false
abbrev isKey (d : D) : Bool := keyAt 8 d
@[simp] theorem keyAt_non (n : Nat) : keyAt n .non = true := by cases n <;> rfl
@[simp] theorem keyAt_int (n : Nat) (i : Int) : keyAt n (.int i) = true := by cases n <;> rfl
@[simp] theorem keyAt_str (n : Nat) (i : Str) : keyAt n (.str i) = true := by cases n <;> rfl
@[simp] theorem keyAt_tup (n : Nat) (xs : List D) : keyAt (n + 1) (.tup xs) = xs.all (keyAt n) := rfl
theorem nkeys_of {n : Nat} {f : D → Bool} (h : ∀ d, f d = true → ∃ k, nkey d = some k ∧ k.depth ≤ n) : ∀ {xs : List D}, xs.all f = true → ∃ ks, nkey.nkeys xs = some ks ∧ NestedKey.depthAll ks ≤ n
  | [], _ => ⟨[], rfl, by simp [NestedKey.depthAll]⟩
  | x :: xs, hx => by
    simp only [List.all_cons, Bool.and_eq_true] at hx
    obtain ⟨k, e, d⟩ := h x hx.1
    obtain ⟨ks, e2, d2⟩ := nkeys_of h hx.2
    refine ⟨k :: ks, by simp [nkey.nkeys, e, e2], ?_⟩
    simp only [NestedKey.depthAll]
    omega
theorem nkey_of : ∀ {n : Nat} {d : D}, keyAt n d = true → ∃ k, nkey d = some k ∧ k.depth ≤ n
  | n, .non, _ => ⟨.none, rfl, by simp [NestedKey.depth]⟩
  | n, .int i, _ => ⟨.num i, rfl, by simp [NestedKey.depth]⟩
  | n, .str i, _ => ⟨.text i, rfl, by simp [NestedKey.depth]⟩
  | n + 1, .tup xs, h => by
    obtain ⟨ks, e, d⟩ := nkeys_of (n := n) (fun d h => nkey_of h) h
    exact ⟨.tup ks, by simp [nkey, e], by simp only [NestedKey.depth]; omega⟩
  | 0, .tup _, h => by simp [keyAt] at h
  | 0, .bl _, h => by simp [keyAt] at h
  | 0, .lst _, h => by simp [keyAt] at h
  | 0, .dic _, h => by simp [keyAt] at h
  | 0, .ins _ _, h => by simp [keyAt] at h
  | 0, .cls _, h => by simp [keyAt] at h
  | 0, .ty _, h => by simp [keyAt] at h
  | 0, .frl _, h => by simp [keyAt] at h
  | _ + 1, .bl _, h => by simp [keyAt] at h
  | _ + 1, .lst _, h => by simp [keyAt] at h
  | _ + 1, .dic _, h => by simp [keyAt] at h
  | _ + 1, .ins _ _, h => by simp [keyAt] at h
  | _ + 1, .cls _, h => by simp [keyAt] at h
  | _ + 1, .ty _, h => by simp [keyAt] at h
  | _ + 1, .frl _, h => by simp [keyAt] at h
section
variable {X : Cx} {cl : Nat → Addr} {pins : List (Addr × Obj)} {σ : L2.St} {F : Addr → Prop} {H : Hp} {s : Shared}
mutual
theorem rep_key (I : Inv X pins σ H s) : ∀ {v : V} {d : D} {u : Value} {k : NestedKey}, Rep (bx X cl) F H v d → RelV v u → nkey d = some k → NestedIs s.heap k u
  | _, _, u, k, .non, r, e => by simp [nkey] at e; subst e; cases r; exact .none
  | _, _, u, k, .int i, r, e => by simp [nkey] at e; subst e; obtain ⟨t, rfl⟩ := r; exact .int i t
  | _, _, u, k, .str i _, r, e => by simp [nkey] at e; subst e; obtain ⟨t, rfl⟩ := r; exact .text i t
  | _, _, u, k, .tup h rs, r, e => by
    simp only [nkey, Option.map_eq_some_iff] at e
    obtain ⟨ks, e1, rfl⟩ := e
    cases r
    obtain ⟨its, rv, ⟨o, ho, hc, n, hd⟩, hz⟩ := I.tuple (SqT.of h)
    exact .tup ho hc hd (by simpa using rep_keys I rs rv e1)
  | _, _, _, _, .bl _, _, e => by simp [nkey] at e
  | _, _, _, _, .lst _ _ _, _, e => by simp [nkey] at e
  | _, _, _, _, .frl _ _, _, e => by simp [nkey] at e
  | _, _, _, _, .dic _ _ _ _, _, e => by simp [nkey] at e
  | _, _, _, _, .ins _ _ _ _ _, _, e => by simp [nkey] at e
  | _, _, _, _, .cls _, _, e => by simp [nkey] at e
  | _, _, _, _, .ty _, _, e => by simp [nkey] at e
theorem rep_keys (I : Inv X pins σ H s) : ∀ {vs : List V} {ds : List D} {us : List Value} {ks : List NestedKey}, Reps (bx X cl) F H vs ds → Vals vs us → nkey.nkeys ds = some ks → NestedAll s.heap ks us
  | _, _, us, ks, .nil, r, e => by simp [nkey.nkeys] at e; subst e; cases r; exact .nil
  | _, _, us, ks, .cons a b, r, e => by
    cases r with
    | cons r1 r2 =>
      unfold nkey.nkeys at e
      split at e
      · rename_i k1 ks1 e1 e2
        cases e
        exact .cons (rep_key I a r1 e1) (rep_keys I b r2 e2)
      · cases e
end
end

/-! ### what a value is -/
/-- a list: by value, a cell -/
def asList (S : Sto) : U → Option (List U)
  | .v (.lst xs) => some (xs.map U.v)
  | .v (.frl xs) => some (xs.map U.v)
  | .r n => match S[n]? with
    | some (.lst xs) => some xs
    | _ => none
  | _ => none
def asSeq (S : Sto) : U → Option (List U)
  | .v (.lst xs) => some (xs.map U.v)
  | .v (.frl xs) => some (xs.map U.v)
  | .v (.tup xs) => some (xs.map U.v)
  | .r n => match S[n]? with
    | some (.lst xs) => some xs
    | _ => none
  | _ => none
section
variable {B : Bx} {ι : List Addr} {F : Addr → Prop} {H : Hp} {S : Sto} {v : V} {u : U}
theorem asList_ok {xs : List U} (r : Rel B ι F S H) (z : RepU B ι F H v u) (e : asList S u = some xs) : ∃ a vs, v = .ref a ∧ SqL B.K H a vs ∧ RepUs B ι F H vs xs := by
  cases z with
  | v z =>
    cases z with
    | lst f h rs => cases e; exact ⟨_, _, rfl, SqL.of h, reps_u rs⟩
    | frl h rs => cases e; exact ⟨_, _, rfl, h.sq, reps_u rs⟩
    | _ => cases e
  | @r n a h =>
    unfold asList at e
    simp only at e
    cases q : S[n]? with
    | none => rw [q] at e; cases e
    | some c =>
      rw [q] at e
      have ok := r.ok n a c h q
      cases c with
      | lst ys =>
        cases e
        obtain ⟨vs, h1, h2⟩ := ok
        exact ⟨a, vs, rfl, SqL.of h1, h2⟩
      | _ => cases e
theorem asSeq_ok {xs : List U} (r : Rel B ι F S H) (z : RepU B ι F H v u) (e : asSeq S u = some xs) : ∃ a vs, v = .ref a ∧ (SqL B.K H a vs ∨ SqT B.K H a vs) ∧ RepUs B ι F H vs xs := by
  cases z with
  | v z =>
    cases z with
    | lst f h rs => cases e; exact ⟨_, _, rfl, .inl (SqL.of h), reps_u rs⟩
    | frl h rs => cases e; exact ⟨_, _, rfl, .inl h.sq, reps_u rs⟩
    | tup h rs => cases e; exact ⟨_, _, rfl, .inr (SqT.of h), reps_u rs⟩
    | _ => cases e
  | @r n a h =>
    unfold asSeq at e
    simp only at e
    cases q : S[n]? with
    | none => rw [q] at e; cases e
    | some c =>
      rw [q] at e
      have ok := r.ok n a c h q
      cases c with
      | lst ys =>
        cases e
        obtain ⟨vs, h1, h2⟩ := ok
        exact ⟨a, vs, rfl, .inl (SqL.of h1), h2⟩
      | _ => cases e
end

/-- a list that stands by itself (not the script) -/
def asLst (S : Sto) : U → Option (List U)
  | .v (.lst xs) => some (xs.map U.v)
  | .r n => match S[n]? with
    | some (.lst xs) => some xs
    | _ => none
  | _ => none
theorem asLst_ok {B : Bx} {ι : List Addr} {F : Addr → Prop} {H : Hp} {S : Sto} {v : V} {u : U} {xs : List U} (r : Rel B ι F S H) (z : RepU B ι F H v u) (e : asLst S u = some xs) : ∃ a vs, v = .ref a ∧ H a = some (.lst vs) ∧ RepUs B ι F H vs xs := by
  cases z with
  | v z =>
    cases z with
    | lst f h rs => cases e; exact ⟨_, _, rfl, h, reps_u rs⟩
    | _ => cases e
  | @r n a h =>
    unfold asLst at e
    simp only at e
    cases q : S[n]? with
    | none => rw [q] at e; cases e
    | some c =>
      rw [q] at e
      have ok := r.ok n a c h q
      cases c with
      | lst ys =>
        cases e
        obtain ⟨vs, h1, h2⟩ := ok
        exact ⟨a, vs, rfl, h1, h2⟩
      | _ => cases e

/-! ### numbers -/
def fI (g : Int → Int → Option D) : F2 := fun x y S => match x, y with
  | .v (.int i), .v (.int j) => (g i j).map fun d => (.v d, S)
  | _, _ => none
section
variable {X : Cx} {cl : Nat → Addr}
theorem opI_ok {f : Value → Value → Sem Value} {r : R2} {g : Int → Int → Option D} (h : OpR X f r) (hg : ∀ i j d, g i j = some d → ∃ v : V, (∀ F H, Rep (bx X cl) F H v d) ∧ ∀ (H : Hp) (Q : VK), Q v H → r (.int i) (.int j) H Q) : OpR X f (liftOp (bx X cl) (fI g)) := by
  intro pins s σ H x y v u Q I rx ry ⟨ι, F, S, a, b, rl, za, zb, fi⟩
  refine h pins s σ H x y v u Q I rx ry ?_
  unfold fI at fi
  split at fi
  · rename_i i j
    cases za with
    | v za =>
      cases za
      cases zb with
      | v zb =>
        cases zb
        cases q : g i j with
        | none => rw [q] at fi; exact fi.no
        | some d =>
          rw [q] at fi
          obtain ⟨w, hw, hq⟩ := hg i j d q
          exact hq H Q (fi.val rl (.v (hw F H)))
  · exact fi.no
def gSub (i j : Int) : Option D := some (.int (i - j))
def gMul (i j : Int) : Option D := if i.natAbs < 2 ^ 64 ∨ j.natAbs < 2 ^ 64 then some (.int (i * j)) else none
def gMod (i j : Int) : Option D := if 0 < j then some (.int (i % j)) else none
def gDiv (i j : Int) : Option D := if 0 < j ∧ j < 1073741824 then some (.int (i / j)) else none
def gPow (i j : Int) : Option D := if 0 ≤ j ∧ j ≤ 1000 ∧ i.natAbs < 2 ^ 64 then some (.int (i ^ j.toNat)) else none
theorem oq_sub : OpR X (binaryOp .Sub) (liftOp (bx X cl) (fI gSub)) := opI_ok op_sub fun i j d e => by
  cases e; exact ⟨_, fun _ _ => .int _, fun H Q q => ⟨i, j, rfl, rfl, q⟩⟩
theorem oq_mod : OpR X (binaryOp .Mod) (liftOp (bx X cl) (fI gMod)) := opI_ok op_mod fun i j d e => by
  unfold gMod at e
  split at e
  · rename_i h; cases e; exact ⟨_, fun _ _ => .int _, fun H Q q => ⟨i, j, rfl, rfl, h, q⟩⟩
  · cases e
theorem oq_div : OpR X (binaryOp .FloorDiv) (liftOp (bx X cl) (fI gDiv)) := opI_ok op_fdiv fun i j d e => by
  unfold gDiv at e
  split at e
  · rename_i h; cases e; exact ⟨_, fun _ _ => .int _, fun H Q q => ⟨i, j, rfl, rfl, h, q⟩⟩
  · cases e
theorem oq_mulI : OpR X (binaryOp .Mult) (liftOp (bx X cl) (fI gMul)) := opI_ok op_mul fun i j d e => by
  unfold gMul at e
  split at e
  · rename_i h
    cases e
    refine ⟨_, fun _ _ => .int _, fun H Q q => ⟨i, j, rfl, rfl, ?_, q⟩⟩
    rcases h with h | h
    · exact .inl ⟨by omega, by omega⟩
    · exact .inr ⟨by omega, by omega⟩
  · cases e
theorem oq_pow : OpR X (binaryOp .Pow) (liftOp (bx X cl) (fI gPow)) := opI_ok op_pow fun i j d e => by
  unfold gPow at e
  split at e
  · rename_i h; cases e; exact ⟨_, fun _ _ => .int _, fun H Q q => ⟨i, j, rfl, rfl, ⟨h.1, by omega, h.2.2⟩, q⟩⟩
  · cases e
def gCmp (p : Int → Int → Bool) (i j : Int) : Option D := some (.bl (p i j))
theorem oq_leI : OpR X (compareOp .LtE) (liftOp (bx X cl) (fI (gCmp fun i j => decide (i ≤ j)))) := opI_ok op_le fun i j d e => by
  cases e; exact ⟨_, fun _ _ => .bl _, fun H Q q => ⟨i, j, rfl, rfl, q⟩⟩
theorem oq_gtI : OpR X (compareOp .Gt) (liftOp (bx X cl) (fI (gCmp fun i j => decide (j < i)))) := opI_ok op_gt fun i j d e => by
  cases e; exact ⟨_, fun _ _ => .bl _, fun H Q q => ⟨i, j, rfl, rfl, q⟩⟩
theorem oq_geI : OpR X (compareOp .GtE) (liftOp (bx X cl) (fI (gCmp fun i j => decide (j ≤ i)))) := opI_ok op_ge fun i j d e => by
  cases e; exact ⟨_, fun _ _ => .bl _, fun H Q q => ⟨i, j, rfl, rfl, q⟩⟩
theorem oq_ltI : OpR X (compareOp .Lt) (liftOp (bx X cl) (fI (gCmp fun i j => decide (i < j)))) := opI_ok op_lt fun i j d e => by
  cases e; exact ⟨_, fun _ _ => .bl _, fun H Q q => ⟨i, j, rfl, rfl, q⟩⟩
/-! ### + -/
/-- numbers, texts, tuples; two lists: a new one, by value -/
def fAdd : F2 := fun x y S => match x, y with
  | .v (.int i), .v (.int j) => some (.v (.int (i + j)), S)
  | .v (.str i), .v (.str j) => if i.length + j.length ≤ 100000 then some (.v (.str (i ++ j)), S) else none
  | .v (.tup xs), .v (.tup ys) => if xs.length + ys.length ≤ 100000 then some (.v (.tup (xs ++ ys)), S) else none
  | _, _ => match asLst S x, asLst S y with
    | some xs, some ys => if xs.length + ys.length ≤ 100000 then (allV (xs ++ ys)).map fun ds => (.v (.lst ds), S) else none
    | _, _ => none
theorem reps_append {B : Bx} {F : Addr → Prop} {H : Hp} {xs ys : List V} {as bs : List D} (h1 : Reps B F H xs as) (h2 : Reps B F H ys bs) : Reps B F H (xs ++ ys) (as ++ bs) := reps_iff.mpr (paired_append (reps_iff.mp h1) (reps_iff.mp h2))
theorem strOk_iff {x : Str} : PyData.strOk x = true ↔ ∀ c ∈ x.cps.toList, c < 0x110000 := by
  unfold PyData.strOk
  rw [Array.all_eq_true_iff_forall_mem]
  constructor
  · intro h c hc; exact of_decide_eq_true (h c (by simpa using hc))
  · intro h c hc; exact decide_eq_true (h c (by simpa using hc))
theorem strOk_app {x y : Str} (h1 : PyData.strOk x = true) (h2 : PyData.strOk y = true) : PyData.strOk (x ++ y) = true := by
  rw [strOk_iff] at *
  intro c hc
  have e : (x ++ y).cps.toList = x.cps.toList ++ y.cps.toList := by
    show (x.cps ++ y.cps).toList = _
    simp
  rw [e] at hc
  rcases List.mem_append.mp hc with h | h
  · exact h1 c h
  · exact h2 c h
theorem oq_add : OpR X (binaryOp .Add) (liftOp (bx X cl) fAdd) := by
  intro pins s σ H x y v u Q I rx ry ⟨ι, F, S, a, b, rl, za, zb, fi⟩
  unfold fAdd at fi
  split at fi
  · rename_i i j
    cases za with
    | v za =>
      cases za
      cases zb with
      | v zb =>
        cases zb
        exact op_add pins s σ H _ _ v u Q I rx ry ⟨i, j, rfl, rfl, fi.val rl (.v (.int _))⟩
  · rename_i i j
    split at fi
    · rename_i hl
      cases za with
      | v za =>
        cases za with
        | str _ h1 =>
        cases zb with
        | v zb =>
          cases zb with
          | str _ h2 =>
          exact op_add_str pins s σ H _ _ v u Q I rx ry ⟨i, j, rfl, rfl, sz hl, fi.val rl (.v (.str _ (strOk_app h1 h2)))⟩
    · exact fi.no
  · rename_i xs ys
    split at fi
    · rename_i hl
      cases za with
      | v za =>
        cases za with
        | tup ha ra =>
          cases zb with
          | v zb =>
            cases zb with
            | tup hb rb =>
              have la := paired_len (reps_iff.mp ra)
              have lb := paired_len (reps_iff.mp rb)
              refine op_catA pins s σ H _ _ v u Q I rx ry ⟨_, _, _, _, rfl, rfl, SqT.of ha, SqT.of hb, sz (by omega), fun e => ?_, fun _ e => ?_, fun _ _ p hp => ?_⟩
              · subst e
                cases ra
                exact fi.val rl (.v (.tup hb (by simpa using rb)))
              · subst e
                cases rb
                exact fi.val rl (.v (.tup ha (by simpa using ra)))
              · exact fi.go (Evo.new hp) (rl.new hp) (.v (.tup upd_same ((reps_append ra rb).mono (ι := ι) (ι' := ι) (Evo.new hp))))
    · exact fi.no
  · cases qa : asLst S a with
    | none => rw [qa] at fi; exact fi.no
    | some xs =>
      cases qb : asLst S b with
      | none => rw [qa, qb] at fi; exact fi.no
      | some ys =>
        rw [qa, qb] at fi
        simp only at fi
        split at fi
        · rename_i hl
          obtain ⟨p, vs, rfl, hp, rp⟩ := asLst_ok rl za qa
          obtain ⟨q, ws, rfl, hq, rq⟩ := asLst_ok rl zb qb
          have la := paired_len rp
          have lb := paired_len rq
          cases qv : allV (xs ++ ys) with
          | none => rw [qv] at fi; exact fi.no
          | some ds =>
            rw [qv] at fi
            have rr : RepUs (bx X cl) ι F H (vs ++ ws) (xs ++ ys) := paired_append rp rq
            rw [allV_some qv] at rr
            exact op_cat pins s σ H _ _ v u Q I rx ry ⟨p, q, vs, ws, rfl, rfl, hp, hq, sz (by omega), fun z hz => fi.go (Evo.newF hz) (rl.newF hz) (.v (.lst (.inr rfl) upd_same ((repus_reps rr).mono (ι := ι) (ι' := ι) (Evo.newF hz))))⟩
        · exact fi.no
end
end Pu
/-! Pu: equality, membership, len, items, slices, methods of lists and texts, isinstance. -/
namespace Pu
open PySem L2

/-! ### data that are compared -/
mutual
def pyOf : D → Option PyData
  | .non => some .none
  | .int i => some (.int i)
  | .str x => some (.str x)
  | .tup xs => (pysOf xs).map .tuple
  | .lst xs => (pysOf xs).map .list
  | .bl _ => none
  | .dic _ => none
  | .ins _ _ => none
  | .cls _ => none
  | .ty _ => none
  | .frl _ => none
def pysOf : List D → Option (List PyData)
  | [] => some []
  | x :: xs => match pyOf x, pysOf xs with
    | some p, some ps => some (p :: ps)
    | _, _ => none
end
theorem pys_cons {x : D} {xs : List D} {ps : List PyData} (h : pysOf (x :: xs) = some ps) : ∃ p qs, ps = p :: qs ∧ pyOf x = some p ∧ pysOf xs = some qs := by
  unfold pysOf at h
  split at h
  · rename_i p qs h1 h2
    cases h
    exact ⟨p, qs, rfl, h1, h2⟩
  · cases h
mutual
theorem py_inj : ∀ {a b : D} {p : PyData}, pyOf a = some p → pyOf b = some p → a = b
  | .non, b, p, h, h' => by simp [pyOf] at h; subst h; cases b <;> simp [pyOf] at h' <;> rfl
  | .int i, b, p, h, h' => by simp [pyOf] at h; subst h; cases b <;> simp [pyOf] at h'; rw [h']
  | .str i, b, p, h, h' => by simp [pyOf] at h; subst h; cases b <;> simp [pyOf] at h'; rw [h']
  | .tup xs, b, p, h, h' => by
    simp only [pyOf, Option.map_eq_some_iff] at h
    obtain ⟨ps, h1, rfl⟩ := h
    cases b <;> simp [pyOf] at h'
    rw [pys_inj h1 h']
  | .lst xs, b, p, h, h' => by
    simp only [pyOf, Option.map_eq_some_iff] at h
    obtain ⟨ps, h1, rfl⟩ := h
    cases b <;> simp [pyOf] at h'
    rw [pys_inj h1 h']
  | .bl _, _, _, h, _ => by simp [pyOf] at h
  | .dic _, _, _, h, _ => by simp [pyOf] at h
  | .ins _ _, _, _, h, _ => by simp [pyOf] at h
  | .cls _, _, _, h, _ => by simp [pyOf] at h
  | .ty _, _, _, h, _ => by simp [pyOf] at h
  | .frl _, _, _, h, _ => by simp [pyOf] at h
theorem pys_inj : ∀ {a b : List D} {p : List PyData}, pysOf a = some p → pysOf b = some p → a = b
  | [], b, p, h, h' => by
    simp [pysOf] at h; subst h
    cases b with
    | nil => rfl
    | cons y ys => obtain ⟨_, _, e, _⟩ := pys_cons h'; cases e
  | x :: xs, b, p, h, h' => by
    obtain ⟨q, qs, rfl, h1, h2⟩ := pys_cons h
    cases b with
    | nil => simp [pysOf] at h'
    | cons y ys =>
      obtain ⟨q', qs', e, h3, h4⟩ := pys_cons h'
      cases e
      rw [py_inj h1 h3, pys_inj h2 h4]
end
theorem py_form {b : D} {q : PyData} (h : pyOf b = some q) : q = .none ∨ (∃ i, q = .int i) ∨ (∃ x, q = .str x) ∨ (∃ ys qs, pysOf ys = some qs ∧ q = .tuple qs ∧ b = .tup ys) ∨ ∃ ys qs, pysOf ys = some qs ∧ q = .list qs ∧ b = .lst ys := by
  cases b with
  | non => cases h; exact .inl rfl
  | int i => cases h; exact .inr (.inl ⟨i, rfl⟩)
  | str i => cases h; exact .inr (.inr (.inl ⟨i, rfl⟩))
  | tup ys =>
    obtain ⟨qs, h1, h2⟩ := Option.map_eq_some_iff.mp h
    exact .inr (.inr (.inr (.inl ⟨ys, qs, h1, h2.symm, rfl⟩)))
  | lst ys =>
    obtain ⟨qs, h1, h2⟩ := Option.map_eq_some_iff.mp h
    exact .inr (.inr (.inr (.inr ⟨ys, qs, h1, h2.symm, rfl⟩)))
  | _ => cases h
mutual
/-- without bools == is equality -/
theorem py_eqv : ∀ {a b : D} {p q : PyData}, pyOf a = some p → pyOf b = some q → (PyData.eqv p q = true ↔ p = q)
  | .non, b, p, q, h, h' => by
    simp [pyOf] at h; subst h
    rcases py_form h' with rfl | ⟨i, rfl⟩ | ⟨i, rfl⟩ | ⟨ys, qs, h2, rfl, rfl⟩ | ⟨ys, qs, h2, rfl, rfl⟩ <;> simp [PyData.eqv]
  | .int i, b, p, q, h, h' => by
    simp [pyOf] at h; subst h
    rcases py_form h' with rfl | ⟨i, rfl⟩ | ⟨i, rfl⟩ | ⟨ys, qs, h2, rfl, rfl⟩ | ⟨ys, qs, h2, rfl, rfl⟩ <;> simp [PyData.eqv]
  | .str i, b, p, q, h, h' => by
    simp [pyOf] at h; subst h
    rcases py_form h' with rfl | ⟨i, rfl⟩ | ⟨i, rfl⟩ | ⟨ys, qs, h2, rfl, rfl⟩ | ⟨ys, qs, h2, rfl, rfl⟩ <;> simp [PyData.eqv]
  | .tup xs, b, p, q, h, h' => by
    simp only [pyOf, Option.map_eq_some_iff] at h
    obtain ⟨ps, h1, rfl⟩ := h
    rcases py_form h' with rfl | ⟨i, rfl⟩ | ⟨i, rfl⟩ | ⟨ys, qs, h2, rfl, rfl⟩ | ⟨ys, qs, h2, rfl, rfl⟩ <;> simp [PyData.eqv]
    exact pys_eqv h1 h2
  | .lst xs, b, p, q, h, h' => by
    simp only [pyOf, Option.map_eq_some_iff] at h
    obtain ⟨ps, h1, rfl⟩ := h
    rcases py_form h' with rfl | ⟨i, rfl⟩ | ⟨i, rfl⟩ | ⟨ys, qs, h2, rfl, rfl⟩ | ⟨ys, qs, h2, rfl, rfl⟩ <;> simp [PyData.eqv]
    exact pys_eqv h1 h2
  | .bl _, _, _, _, h, _ => by simp [pyOf] at h
  | .dic _, _, _, _, h, _ => by simp [pyOf] at h
  | .ins _ _, _, _, _, h, _ => by simp [pyOf] at h
  | .cls _, _, _, _, h, _ => by simp [pyOf] at h
  | .ty _, _, _, _, h, _ => by simp [pyOf] at h
  | .frl _, _, _, _, h, _ => by simp [pyOf] at h
theorem pys_eqv : ∀ {a b : List D} {p q : List PyData}, pysOf a = some p → pysOf b = some q → (PyData.eqvAll p q = true ↔ p = q)
  | [], b, p, q, h, h' => by
    simp [pysOf] at h; subst h
    cases b with
    | nil => simp [pysOf] at h'; subst h'; simp [PyData.eqvAll]
    | cons y ys => obtain ⟨_, _, rfl, _⟩ := pys_cons h'; simp [PyData.eqvAll]
  | x :: xs, b, p, q, h, h' => by
    obtain ⟨r, rs, rfl, h1, h2⟩ := pys_cons h
    cases b with
    | nil => simp [pysOf] at h'; subst h'; simp [PyData.eqvAll]
    | cons y ys =>
      obtain ⟨q', qs', rfl, h3, h4⟩ := pys_cons h'
      simp [PyData.eqvAll, py_eqv h1 h3, pys_eqv h2 h4]
end
/-- data nested to depth n -/
def datAt : Nat → D → Bool
  | _, .non => true
  | _, .int _ => true
  | _, .str _ => true
  | n + 1, .tup xs => xs.all (datAt n)
  | n + 1, .lst xs => xs.all (datAt n)
  | _, _ => false
abbrev isDat (d : D) : Bool := datAt 20 d
@[simp] theorem datAt_non (n : Nat) : datAt n .non = true := by cases n <;> rfl
@[simp] theorem datAt_int (n : Nat) (i : Int) : datAt n (.int i) = true := by cases n <;> rfl
@[simp] theorem datAt_str (n : Nat) (i : Str) : datAt n (.str i) = true := by cases n <;> rfl
@[simp] theorem datAt_tup (n : Nat) (xs : List D) : datAt (n + 1) (.tup xs) = xs.all (datAt n) := rfl
@[simp] theorem datAt_lst (n : Nat) (xs : List D) : datAt (n + 1) (.lst xs) = xs.all (datAt n) := rfl
theorem pys_of {n : Nat} {f : D → Bool} (h : ∀ d, f d = true → ∃ k, pyOf d = some k ∧ k.depth ≤ n) : ∀ {xs : List D}, xs.all f = true → ∃ ks, pysOf xs = some ks ∧ PyData.depthAll ks ≤ n
  | [], _ => ⟨[], rfl, by simp [PyData.depthAll]⟩
  | x :: xs, hx => by
    simp only [List.all_cons, Bool.and_eq_true] at hx
    obtain ⟨k, e, d⟩ := h x hx.1
    obtain ⟨ks, e2, d2⟩ := pys_of h hx.2
    refine ⟨k :: ks, by simp [pysOf, e, e2], ?_⟩
    simp only [PyData.depthAll]
    omega
theorem py_of : ∀ {n : Nat} {d : D}, datAt n d = true → ∃ k, pyOf d = some k ∧ k.depth ≤ n
  | n, .non, _ => ⟨.none, rfl, by simp [PyData.depth]⟩
  | n, .int i, _ => ⟨.int i, rfl, by simp [PyData.depth]⟩
  | n, .str i, _ => ⟨.str i, rfl, by simp [PyData.depth]⟩
  | n + 1, .tup xs, h => by
    obtain ⟨ks, e, d⟩ := pys_of (n := n) (fun d h => py_of h) h
    exact ⟨.tuple ks, by simp [pyOf, e], by simp only [PyData.depth]; omega⟩
  | n + 1, .lst xs, h => by
    obtain ⟨ks, e, d⟩ := pys_of (n := n) (fun d h => py_of h) h
    exact ⟨.list ks, by simp [pyOf, e], by simp only [PyData.depth]; omega⟩
  | 0, .tup _, h => by simp [datAt] at h
  | 0, .lst _, h => by simp [datAt] at h
  | n, .bl _, h => by cases n <;> simp [datAt] at h
  | n, .dic _, h => by cases n <;> simp [datAt] at h
  | n, .ins _ _, h => by cases n <;> simp [datAt] at h
  | n, .cls _, h => by cases n <;> simp [datAt] at h
  | n, .ty _, h => by cases n <;> simp [datAt] at h
  | n, .frl _, h => by cases n <;> simp [datAt] at h
section
variable {B : Bx} {F : Addr → Prop} {H : Hp}
mutual
theorem rep_dp : ∀ {v : V} {d : D} {p : PyData}, Rep B F H v d → pyOf d = some p → Dp B.K H v p ∧ p.canLay0 = true
  | _, _, p, .non, e => by simp [pyOf] at e; subst e; exact ⟨.non, rfl⟩
  | _, _, p, .int i, e => by simp [pyOf] at e; subst e; exact ⟨.int i, rfl⟩
  | _, _, p, .str i h, e => by simp [pyOf] at e; subst e; exact ⟨.str i, h⟩
  | _, _, p, .tup h rs, e => by
    simp only [pyOf, Option.map_eq_some_iff] at e
    obtain ⟨ps, e1, rfl⟩ := e
    obtain ⟨h1, h2⟩ := reps_dp rs e1
    exact ⟨.tup (SqT.of h) h1, h2⟩
  | _, _, p, .lst _ h rs, e => by
    simp only [pyOf, Option.map_eq_some_iff] at e
    obtain ⟨ps, e1, rfl⟩ := e
    obtain ⟨h1, h2⟩ := reps_dp rs e1
    exact ⟨.lst (SqL.of h) h1, h2⟩
  | _, _, _, .bl _, e => by simp [pyOf] at e
  | _, _, _, .frl _ _, e => by simp [pyOf] at e
  | _, _, _, .dic _ _ _ _, e => by simp [pyOf] at e
  | _, _, _, .ins _ _ _ _ _, e => by simp [pyOf] at e
  | _, _, _, .cls _, e => by simp [pyOf] at e
  | _, _, _, .ty _, e => by simp [pyOf] at e
theorem reps_dp : ∀ {vs : List V} {ds : List D} {ps : List PyData}, Reps B F H vs ds → pysOf ds = some ps → DpAll B.K H vs ps ∧ PyData.canLayAll0 ps = true
  | _, _, p, .nil, e => by simp [pysOf] at e; subst e; exact ⟨.nil, rfl⟩
  | _, _, p, .cons a b, e => by
    obtain ⟨q, qs, rfl, e1, e2⟩ := pys_cons e
    obtain ⟨h1, h2⟩ := rep_dp a e1
    obtain ⟨h3, h4⟩ := reps_dp b e2
    exact ⟨.cons h1 h3, by simp [PyData.canLayAll0, h2, h4]⟩
end
end
/-! ### equality -/
noncomputable def eqD (a b : D) : Option Bool :=
  if isDat a = true ∧ isDat b = true then some (decide (a = b)) else
  match a, b with
  | .bl x, .bl y => some (decide (x = y))
  | _, _ => none
/-- a cell that is a list, as a value -/
def deL (S : Sto) : U → Option D
  | .v d => some d
  | .r n => match S[n]? with
    | some (.lst xs) => (allV xs).map D.lst
    | _ => none
noncomputable def fEq : F2 := fun x y S => match deL S x, deL S y with
  | some a, some b => (eqD a b).map fun k => (.v (.bl k), S)
  | _, _ => none
noncomputable def fNe : F2 := fun x y S => match deL S x, deL S y with
  | some a, some b => (eqD a b).map fun k => (.v (.bl (!k)), S)
  | _, _ => none
section
variable {X : Cx} {cl : Nat → Addr}
theorem deL_dp {B : Bx} {ι : List Addr} {F : Addr → Prop} {H : Hp} {S : Sto} {v : V} {u : U} {d : D} {p : PyData} (r : Rel B ι F S H) (z : RepU B ι F H v u) (e : deL S u = some d) (ep : pyOf d = some p) : Dp B.K H v p ∧ p.canLay0 = true := by
  cases z with
  | v z => cases e; exact rep_dp z ep
  | @r n a h =>
    unfold deL at e
    simp only at e
    cases q : S[n]? with
    | none => rw [q] at e; cases e
    | some c =>
      rw [q] at e
      have ok := r.ok n a c h q
      cases c with
      | lst ys =>
        obtain ⟨ds, e1, rfl⟩ := Option.map_eq_some_iff.mp e
        obtain ⟨vs, h1, h2⟩ := ok
        simp only [pyOf, Option.map_eq_some_iff] at ep
        obtain ⟨ps, e2, rfl⟩ := ep
        rw [allV_some e1] at h2
        obtain ⟨g1, g2⟩ := reps_dp (repus_reps h2) e2
        exact ⟨.lst (SqL.of h1) g1, g2⟩
      | _ => cases e
theorem eqD_ok {a b : D} {k : Bool} (h : eqD a b = some k) : (∃ p q, pyOf a = some p ∧ pyOf b = some q ∧ p.depth ≤ 64 ∧ q.depth ≤ 64 ∧ PyData.eqv p q = k) ∨ ∃ x y, a = .bl x ∧ b = .bl y ∧ k = decide (x = y) := by
  unfold eqD at h
  split at h
  · rename_i hx
    cases h
    obtain ⟨p, e1, d1⟩ := py_of hx.1
    obtain ⟨q, e2, d2⟩ := py_of hx.2
    refine .inl ⟨p, q, e1, e2, by omega, by omega, ?_⟩
    have hv := py_eqv e1 e2
    by_cases hab : a = b
    · subst hab
      rw [e1] at e2; cases e2
      simp only [decide_true]
      exact hv.mpr rfl
    · simp only [hab, decide_false]
      cases qv : PyData.eqv p q with
      | false => rfl
      | true => exact absurd (py_inj e1 (by rw [e2, hv.mp qv])) hab
  · split at h
    · rename_i x y _
      cases h
      exact .inr ⟨x, y, rfl, rfl, rfl⟩
    · cases h
theorem oq_eq (hu : X.A.units + 64 < cLine) : OpR X (compareOp .Eq) (liftOp (bx X cl) fEq) := by
  intro pins s σ H x y v u Q I rx ry ⟨ι, F, S, a, b, rl, za, zb, fi⟩
  unfold fEq at fi
  split at fi
  · rename_i d e q1 q2
    cases qe : eqD d e with
    | none => rw [qe] at fi; exact fi.no
    | some k =>
      rw [qe] at fi
      rcases eqD_ok qe with ⟨p, q, e1, e2, d1, d2, ek⟩ | ⟨p, q, rfl, rfl, rfl⟩
      · obtain ⟨h1, c1⟩ := deL_dp rl za q1 e1
        obtain ⟨h2, c2⟩ := deL_dp rl zb q2 e2
        exact op_eqD hu pins s σ H x y v u Q I rx ry ⟨p, q, h1, h2, by simp [SeqAt.shaped, c1, d1], by simp [SeqAt.shaped, c2, d2], by rw [ek]; exact fi.val rl (.v (.bl _))⟩
      · have e1 : a = .v (.bl p) := by
          cases a with
          | v _ => cases q1; rfl
          | r n =>
            unfold deL at q1; simp only at q1
            split at q1
            · obtain ⟨_, _, z⟩ := Option.map_eq_some_iff.mp q1; cases z
            · cases q1
        have e2 : b = .v (.bl q) := by
          cases b with
          | v _ => cases q2; rfl
          | r n =>
            unfold deL at q2; simp only at q2
            split at q2
            · obtain ⟨_, _, z⟩ := Option.map_eq_some_iff.mp q2; cases z
            · cases q2
        subst e1 e2
        cases za with
        | v za =>
          cases za
          cases zb with
          | v zb =>
            cases zb
            refine op_eq pins s σ H _ _ v u Q I rx ry ⟨rfl, ?_⟩
            have : decide ((V.bl p) = V.bl q) = decide (p = q) := by simp
            rw [this]
            exact fi.val rl (.v (.bl _))
  · exact fi.no
theorem oq_ne (hu : X.A.units + 64 < cLine) : OpR X (compareOp .NotEq) (liftOp (bx X cl) fNe) := by
  intro pins s σ H x y v u Q I rx ry ⟨ι, F, S, a, b, rl, za, zb, fi⟩
  unfold fNe at fi
  split at fi
  · rename_i d e q1 q2
    cases qe : eqD d e with
    | none => rw [qe] at fi; exact fi.no
    | some k =>
      rw [qe] at fi
      rcases eqD_ok qe with ⟨p, q, e1, e2, d1, d2, ek⟩ | ⟨p, q, rfl, rfl, rfl⟩
      · obtain ⟨h1, c1⟩ := deL_dp rl za q1 e1
        obtain ⟨h2, c2⟩ := deL_dp rl zb q2 e2
        exact op_neD hu pins s σ H x y v u Q I rx ry ⟨p, q, h1, h2, by simp [SeqAt.shaped, c1, d1], by simp [SeqAt.shaped, c2, d2], by rw [ek]; exact fi.val rl (.v (.bl _))⟩
      · have e1 : a = .v (.bl p) := by
          cases a with
          | v _ => cases q1; rfl
          | r n =>
            unfold deL at q1; simp only at q1
            split at q1
            · obtain ⟨_, _, z⟩ := Option.map_eq_some_iff.mp q1; cases z
            · cases q1
        have e2 : b = .v (.bl q) := by
          cases b with
          | v _ => cases q2; rfl
          | r n =>
            unfold deL at q2; simp only at q2
            split at q2
            · obtain ⟨_, _, z⟩ := Option.map_eq_some_iff.mp q2; cases z
            · cases q2
        subst e1 e2
        cases za with
        | v za =>
          cases za
          cases zb with
          | v zb =>
            cases zb
            refine op_ne pins s σ H _ _ v u Q I rx ry ⟨rfl, ?_⟩
            have : decide ((V.bl p) = V.bl q) = decide (p = q) := by simp
            rw [this]
            exact fi.val rl (.v (.bl _))
  · exact fi.no
end
end Pu
/-! Pu: membership, len, items, slices, methods of lists and texts. -/
namespace Pu
open PySem L2

/-! ### x in xs: a list or tuple of keys -/
noncomputable def inSeq (d : D) (xs : List U) : Option Bool := if isKey d = true then match allV xs with
  | some ds => if ds.all isKey = true then some (decide (d ∈ ds)) else none
  | none => none else none
section
variable {X : Cx} {cl : Nat → Addr}
open SeqAt
theorem in_ok {pins : List (Addr × Obj)} {σ : L2.St} {F : Addr → Prop} {H : Hp} {s : Shared} {x : V} {u : Value} {d : D} {ds : List D} {vs : List V} {its : List Value} (I : Inv X pins σ H s) (hu : X.A.units + 20 < cLine) (zx : Rep (bx X cl) F H x d) (rx : RelV x u) (kd : isKey d = true)
    (zs : Reps (bx X cl) F H vs ds) (rv : Vals vs its) (ks : ds.all isKey = true) : ∃ e : Value → Bool, (∀ y, y ∈ its.toArray → EqAt X.A.in1 s y u (e y)) ∧ (its.toArray.any e = true ↔ d ∈ ds) := by
  obtain ⟨k, ek, dk⟩ := nkey_of kd
  have hx := rep_key I zx rx ek
  classical
  refine ⟨fun y => decide (∃ k', NestedIs s.heap k' y ∧ k' = k), fun y hy => ?_, ?_⟩
  · have hy' : y ∈ its := by simpa using hy
    obtain ⟨j, hj⟩ := List.getElem?_of_mem hy'
    obtain ⟨v, hv, rvy⟩ := paired_get rv hj
    obtain ⟨dy, hdy, zy⟩ := paired_get' (reps_iff.mp zs) hv
    obtain ⟨ky, eky, dky⟩ := nkey_of (List.all_eq_true.mp ks dy (List.mem_of_getElem? hdy))
    have hyk := rep_key I zy rvy eky
    have hq := eqAt_key ky k X.A.in1 s y u hyk hx (by show X.A.units + 1 + min ky.depth k.depth < cLine; omega)
    have eb : NestedKey.beq ky k = decide (∃ k', NestedIs s.heap k' y ∧ k' = k) := by
      rw [← NestedKey.decide_eq]
      by_cases hkk : ky = k
      · rw [decide_eq_true hkk, decide_eq_true ⟨ky, hyk, hkk⟩]
      · rw [decide_eq_false hkk, decide_eq_false]
        rintro ⟨k', h1, h2⟩
        exact hkk ((NestedIs.inj _ _ _ hyk h1).trans h2)
    show EqAt _ _ _ _ (decide (∃ k', NestedIs s.heap k' y ∧ k' = k))
    rw [← eb]
    exact hq
  · simp only [List.any_toArray, List.any_eq_true, decide_eq_true_eq]
    constructor
    · rintro ⟨y, hy, k', h1, rfl⟩
      obtain ⟨j, hj⟩ := List.getElem?_of_mem hy
      obtain ⟨v, hv, rvy⟩ := paired_get rv hj
      obtain ⟨dy, hdy, zy⟩ := paired_get' (reps_iff.mp zs) hv
      have hm := List.mem_of_getElem? hdy
      obtain ⟨ky, eky, dky⟩ := nkey_of (List.all_eq_true.mp ks dy hm)
      have hyk := rep_key I zy rvy eky
      have := NestedIs.inj _ _ _ hyk h1
      subst this
      rw [nkey_inj ek eky]
      exact hm
    · intro hm
      obtain ⟨j, hj⟩ := List.getElem?_of_mem hm
      obtain ⟨v, hv, zy⟩ := paired_get (reps_iff.mp zs) hj
      obtain ⟨y, hy, rvy⟩ := paired_get' rv hv
      exact ⟨y, List.mem_of_getElem? hy, k, rep_key I zy rvy ek, rfl⟩
/-- a text's sign in a text -/
noncomputable def fIn (neg : Bool) : F2 := fun x y S => match x, y with
  | .v (.str ⟨⟨[c]⟩⟩), .v (.str z) => some (.v (.bl (cond neg (!decide (c ∈ z.cps.toList)) (decide (c ∈ z.cps.toList)))), S)
  | .v d, _ => match asSeq S y with
    | some xs => (inSeq d xs).map fun b => (.v (.bl (cond neg (!b) b)), S)
    | none => none
  | _, _ => none
theorem oq_in (hu : X.A.units + 20 < cLine) : OpR X (compareOp .In) (liftOp (bx X cl) (fIn false)) := by
  intro pins s σ H x y v u Q I rx ry ⟨ι, F, S, a, b, rl, za, zb, fi⟩
  unfold fIn at fi
  split at fi
  · rename_i c z
    cases za with
    | v za =>
      cases za with
      | str _ h1 =>
        cases zb with
        | v zb =>
          cases zb with
          | str _ h2 => exact op_in_sign pins s σ H _ _ v u Q I rx ry ⟨c, z, rfl, rfl, fi.val rl (.v (.bl _))⟩
  · rename_i d _
    cases qs : asSeq S b with
    | none => rw [qs] at fi; exact fi.no
    | some xs =>
      rw [qs] at fi
      simp only at fi
      cases qi : inSeq d xs with
      | none => rw [qi] at fi; exact fi.no
      | some k =>
        rw [qi] at fi
        unfold inSeq at qi
        split at qi
        · rename_i kd
          cases qa : allV xs with
          | none => rw [qa] at qi; cases qi
          | some ds =>
            rw [qa] at qi
            simp only at qi
            split at qi
            · rename_i ks
              cases qi
              cases za with
              | v za =>
                obtain ⟨p, vs, rfl, hp, zs⟩ := asSeq_ok rl zb qs
                rw [allV_some qa] at zs
                have zs' := repus_reps zs
                cases ry
                rcases hp with hp | hp
                · obtain ⟨its, rv, pl, _⟩ := I.list hp
                  obtain ⟨e, he, hb⟩ := in_ok I hu za rx kd zs' rv ks
                  refine in_listAt e pl.isList he ⟨.bl _, H, I, rfl, ?_⟩
                  have : its.toArray.any e = decide (d ∈ ds) := by
                    by_cases hm : d ∈ ds
                    · rw [hb.mpr hm, decide_eq_true hm]
                    · rw [decide_eq_false hm]
                      cases qq : its.toArray.any e with
                      | false => rfl
                      | true => exact absurd (hb.mp qq) hm
                  rw [this]
                  have z := fi.val rl (v := .bl (decide (d ∈ ds))) (.v (.bl _))
                  exact z
                · obtain ⟨its, rv, pl, _⟩ := I.tuple hp
                  obtain ⟨e, he, hb⟩ := in_ok I hu za rx kd zs' rv ks
                  refine in_tupleAt e (show s.heap.IsTuple _ _ from pl) he ⟨.bl _, H, I, rfl, ?_⟩
                  have : its.toArray.any e = decide (d ∈ ds) := by
                    by_cases hm : d ∈ ds
                    · rw [hb.mpr hm, decide_eq_true hm]
                    · rw [decide_eq_false hm]
                      cases qq : its.toArray.any e with
                      | false => rfl
                      | true => exact absurd (hb.mp qq) hm
                  rw [this]
                  have z := fi.val rl (v := .bl (decide (d ∈ ds))) (.v (.bl _))
                  exact z
            · cases qi
        · cases qi
  · exact fi.no
theorem oq_notin (hu : X.A.units + 20 < cLine) : OpR X (compareOp .NotIn) (liftOp (bx X cl) (fIn true)) := by
  intro pins s σ H x y v u Q I rx ry ⟨ι, F, S, a, b, rl, za, zb, fi⟩
  unfold fIn at fi
  split at fi
  · rename_i c z
    cases za with
    | v za =>
      cases za with
      | str _ h1 =>
        cases zb with
        | v zb =>
          cases zb with
          | str _ h2 =>
            refine op_notIn_sign pins s σ H _ _ v u Q I rx ry ⟨c, z, rfl, rfl, ?_⟩
            have z := fi.val rl (v := .bl (!decide (c ∈ z.cps.toList))) (.v (.bl _))
            exact z
  · rename_i d _
    cases qs : asSeq S b with
    | none => rw [qs] at fi; exact fi.no
    | some xs =>
      rw [qs] at fi
      simp only at fi
      cases qi : inSeq d xs with
      | none => rw [qi] at fi; exact fi.no
      | some k =>
        rw [qi] at fi
        unfold inSeq at qi
        split at qi
        · rename_i kd
          cases qa : allV xs with
          | none => rw [qa] at qi; cases qi
          | some ds =>
            rw [qa] at qi
            simp only at qi
            split at qi
            · rename_i ks
              cases qi
              cases za with
              | v za =>
                obtain ⟨p, vs, rfl, hp, zs⟩ := asSeq_ok rl zb qs
                rw [allV_some qa] at zs
                have zs' := repus_reps zs
                cases ry
                have z := fi.val rl (v := .bl (!decide (d ∈ ds))) (.v (.bl _))
                rcases hp with hp | hp
                · obtain ⟨its, rv, pl, _⟩ := I.list hp
                  obtain ⟨e, he, hb⟩ := in_ok I hu za rx kd zs' rv ks
                  refine notIn_listAt e pl.isList he ⟨.bl _, H, I, rfl, ?_⟩
                  have : its.toArray.any e = decide (d ∈ ds) := by
                    by_cases hm : d ∈ ds
                    · rw [hb.mpr hm, decide_eq_true hm]
                    · rw [decide_eq_false hm]
                      cases qq : its.toArray.any e with
                      | false => rfl
                      | true => exact absurd (hb.mp qq) hm
                  rw [this]
                  exact z
                · obtain ⟨its, rv, pl, _⟩ := I.tuple hp
                  obtain ⟨e, he, hb⟩ := in_ok I hu za rx kd zs' rv ks
                  refine notIn_tupleAt e (show s.heap.IsTuple _ _ from pl) he ⟨.bl _, H, I, rfl, ?_⟩
                  have : its.toArray.any e = decide (d ∈ ds) := by
                    by_cases hm : d ∈ ds
                    · rw [hb.mpr hm, decide_eq_true hm]
                    · rw [decide_eq_false hm]
                      cases qq : its.toArray.any e with
                      | false => rfl
                      | true => exact absurd (hb.mp qq) hm
                  rw [this]
                  exact z
            · cases qi
        · cases qi
  · exact fi.no
/-! ### is None -/
def fIsN (neg : Bool) : F2 := fun x y S => match y with
  | .v .non => (match x with
    | .v .non => some (.v (.bl (!neg)), S)
    | _ => some (.v (.bl neg), S))
  | _ => none
theorem repu_non {B : Bx} {ι : List Addr} {F : Addr → Prop} {H : Hp} {v : V} {u : U} (z : RepU B ι F H v u) : v = .non ↔ u = .v .non := by
  cases z with
  | v z => cases z <;> simp
  | r _ => simp
theorem oq_isN : OpR X (compareOp .Is) (liftOp (bx X cl) (fIsN false)) := by
  intro pins s σ H x y v u Q I rx ry ⟨ι, F, S, a, b, rl, za, zb, fi⟩
  unfold fIsN at fi
  split at fi
  · have hy : y = .non := (repu_non zb).mpr rfl
    subst hy
    refine op_isN pins s σ H _ _ v u Q I rx ry ⟨rfl, ?_⟩
    split at fi
    · have hx := (repu_non za).mpr rfl
      rw [decide_eq_true hx]
      exact fi.val rl (.v (.bl _))
    · rename_i hn
      have hx : ¬ x = .non := fun e => hn ((repu_non za).mp e)
      rw [decide_eq_false hx]
      exact fi.val rl (.v (.bl _))
  · exact fi.no
theorem oq_notN : OpR X (compareOp .IsNot) (liftOp (bx X cl) (fIsN true)) := by
  intro pins s σ H x y v u Q I rx ry ⟨ι, F, S, a, b, rl, za, zb, fi⟩
  unfold fIsN at fi
  split at fi
  · have hy : y = .non := (repu_non zb).mpr rfl
    subst hy
    refine op_notN pins s σ H _ _ v u Q I rx ry ⟨rfl, ?_⟩
    split at fi
    · have hx := (repu_non za).mpr rfl
      rw [decide_eq_true hx]
      exact fi.val rl (.v (.bl _))
    · rename_i hn
      have hx : ¬ x = .non := fun e => hn ((repu_non za).mp e)
      rw [decide_eq_false hx]
      exact fi.val rl (.v (.bl _))
  · exact fi.no
/-! ### len, int, list, tuple -/
def fLen : FA := fun us S => match us with
  | [.v (.str z)] => if z.length ≤ 100000 then some (.v (.int z.length), S) else none
  | [u] => (asSeq S u).map fun xs => (.v (.int xs.length), S)
  | _ => none
theorem cq_len : CallR X (.builtin "len") (liftC (bx X cl) fLen) := by
  intro pins s σ H xs us Q I rv ⟨ι, F, S, as, rl, zs, fi⟩
  unfold fLen at fi
  split at fi
  · rename_i z
    split at fi
    · rename_i hl
      cases zs with
      | cons z1 z2 =>
        cases z2
        cases z1 with
        | v z1 =>
          cases z1 with
          | str _ h1 => exact call_len_str pins s σ H _ us Q I rv ⟨z, rfl, sz hl, fi.val rl (.v (.int _))⟩
    · exact fi.no
  · rename_i u _
    cases q : asSeq S u with
    | none => rw [q] at fi; exact fi.no
    | some ys =>
      rw [q] at fi
      cases zs with
      | cons z1 z2 =>
        cases z2
        obtain ⟨p, vs, rfl, hp, zz⟩ := asSeq_ok rl z1 q
        refine call_len_seq pins s σ H _ us Q I rv ⟨p, vs, rfl, hp, ?_⟩
        rw [paired_len zz]
        exact fi.val rl (.v (.int _))
  · exact fi.no
def fInt : FA := fun us S => match us with
  | [.v (.int i)] => some (.v (.int i), S)
  | [.v (.bl k)] => some (.v (.int (if k then 1 else 0)), S)
  | _ => none
theorem cq_int : CallR X (.type "int") (liftC (bx X cl) fInt) := by
  intro pins s σ H xs us Q I rv ⟨ι, F, S, as, rl, zs, fi⟩
  unfold fInt at fi
  split at fi
  · rename_i i
    cases zs with
    | cons z1 z2 =>
      cases z2
      cases z1 with
      | v z1 => cases z1; exact call_int1 pins s σ H _ us Q I rv (.inl ⟨i, rfl, fi.val rl (.v (.int _))⟩)
  · rename_i k
    cases zs with
    | cons z1 z2 =>
      cases z2
      cases z1 with
      | v z1 => cases z1; exact call_int1 pins s σ H _ us Q I rv (.inr ⟨k, rfl, fi.val rl (.v (.int _))⟩)
  · exact fi.no
/-- str(x) of a text -/
def fStr : FA := fun us S => match us with
  | [.v (.str i)] => some (.v (.str i), S)
  | _ => none
theorem cq_str : CallR X (.type "str") (liftC (bx X cl) fStr) := by
  intro pins s σ H xs us Q I rv ⟨ι, F, S, as, rl, zs, fi⟩
  unfold fStr at fi
  split at fi
  · rename_i i
    cases zs with
    | cons z1 z2 =>
      cases z2
      cases z1 with
      | v z1 =>
        cases z1 with
        | str _ h => exact SkE.call_str_str pins s σ H _ us Q I rv ⟨i, rfl, fi.val rl (.v (.str _ h))⟩
  · exact fi.no
/-- list(xs): by value; a cell -/
def fListV : FA := fun us S => match us with
  | [u] => match asSeq S u with
    | some xs => (allV xs).map fun ds => (.v (.lst ds), S)
    | none => none
  | _ => none
def fListS : FA := fun us S => match us with
  | [u] => (asSeq S u).map fun xs => (.r S.length, S ++ [.lst xs])
  | _ => none
theorem cq_listV : CallR X (.type "list") (liftC (bx X cl) fListV) := by
  intro pins s σ H xs us Q I rv ⟨ι, F, S, as, rl, zs, fi⟩
  unfold fListV at fi
  split at fi
  · rename_i u
    cases q : asSeq S u with
    | none => rw [q] at fi; exact fi.no
    | some ys =>
      rw [q] at fi
      simp only at fi
      cases qa : allV ys with
      | none => rw [qa] at fi; exact fi.no
      | some ds =>
        rw [qa] at fi
        cases zs with
        | cons z1 z2 =>
          cases z2
          obtain ⟨p, vs, rfl, hp, zz⟩ := asSeq_ok rl z1 q
          rw [allV_some qa] at zz
          exact call_list_of pins s σ H _ us Q I rv ⟨p, vs, rfl, hp, fun l hl => fi.go (Evo.newF hl) (rl.newF hl) (.v (.lst (.inr rfl) upd_same ((repus_reps zz).mono (ι := ι) (ι' := ι) (Evo.newF hl))))⟩
  · exact fi.no
theorem cq_listS : CallR X (.type "list") (liftC (bx X cl) fListS) := by
  intro pins s σ H xs us Q I rv ⟨ι, F, S, as, rl, zs, fi⟩
  unfold fListS at fi
  split at fi
  · rename_i u
    cases q : asSeq S u with
    | none => rw [q] at fi; exact fi.no
    | some ys =>
      rw [q] at fi
      cases zs with
      | cons z1 z2 =>
        cases z2
        obtain ⟨p, vs, rfl, hp, zz⟩ := asSeq_ok rl z1 q
        refine call_list_of pins s σ H _ us Q I rv ⟨p, vs, rfl, hp, fun l hl => ?_⟩
        have e2 : Evo ι F H (ι ++ [l]) F (upd H l (.lst vs)) := Evo.newS hl
        exact fi.go e2 (rl.newS hl nofun ⟨vs, upd_same, zz.mono e2⟩) (.r (by rw [← rl.len]; simp))
  · exact fi.no
def fTuple : FA := fun us S => match us with
  | [u] => match asSeq S u with
    | some xs => (allV xs).map fun ds => (.v (.tup ds), S)
    | none => none
  | _ => none
theorem cq_tuple : CallR X (.type "tuple") (liftC (bx X cl) fTuple) := by
  intro pins s σ H xs us Q I rv ⟨ι, F, S, as, rl, zs, fi⟩
  unfold fTuple at fi
  split at fi
  · rename_i u
    cases q : asSeq S u with
    | none => rw [q] at fi; exact fi.no
    | some ys =>
      rw [q] at fi
      simp only at fi
      cases qa : allV ys with
      | none => rw [qa] at fi; exact fi.no
      | some ds =>
        rw [qa] at fi
        cases zs with
        | cons z1 z2 =>
          cases z2
          have key : ∃ p vs, ‹V› = .ref p ∧ (SqL X.K H p vs ∨ H p = some (.tup vs)) ∧ RepUs (bx X cl) ι F H vs ys := by
            cases z1 with
            | v z =>
              cases z with
              | lst f h rs => cases q; exact ⟨_, _, rfl, .inl (SqL.of h), reps_u rs⟩
              | frl h rs => cases q; exact ⟨_, _, rfl, .inl h.sq, reps_u rs⟩
              | tup h rs => cases q; exact ⟨_, _, rfl, .inr h, reps_u rs⟩
              | _ => cases q
            | @r n a h =>
              unfold asSeq at q
              simp only at q
              cases qq : S[n]? with
              | none => rw [qq] at q; cases q
              | some c =>
                rw [qq] at q
                have ok := rl.ok n a c h qq
                cases c with
                | lst ys =>
                  cases q
                  obtain ⟨vs, h1, h2⟩ := ok
                  exact ⟨a, vs, rfl, .inl (SqL.of h1), h2⟩
                | _ => cases q
          obtain ⟨p, vs, rfl, hp, zz⟩ := key
          rw [allV_some qa] at zz
          refine call_tuple_of pins s σ H _ us Q I rv ⟨p, vs, rfl, ?_⟩
          rcases hp with hp | hp
          · exact .inl ⟨hp, fun l hl => fi.go (Evo.new hl) (rl.new hl) (.v (.tup upd_same ((repus_reps zz).mono (ι := ι) (ι' := ι) (Evo.new hl))))⟩
          · exact .inr ⟨SqT.of hp, fi.val rl (.v (.tup hp (repus_reps zz)))⟩
  · exact fi.no
end
end Pu
/-! Pu: items, slices, methods of lists and texts, what a loop walks, isinstance. -/
namespace Pu
open PySem L2

/-! ### items -/
def fIx : F2 := fun x y S => match x, y with
  | .v (.str z), .v (.int i) => if z.length ≤ 100000 then (atI z.cps.toList i).map fun c => (.v (.str ⟨#[c]⟩), S) else none
  | _, .v (.int i) => match asSeq S x with
    | some xs => (atI xs i).map fun u => (u, S)
    | none => none
  | _, _ => none
theorem atI_paired {α β : Type} {P : α → β → Prop} {xs : List α} {ys : List β} {i : Int} {y : β} (h : Paired P xs ys) (e : atI ys i = some y) : ∃ x, atI xs i = some x ∧ P x y := by
  unfold atI at e ⊢
  rw [paired_len h]
  cases q : ixN ys.length i with
  | none => rw [q] at e; cases e
  | some j =>
    rw [q] at e
    obtain ⟨x, h1, h2⟩ := paired_get h (show ys[j]? = some y from e)
    exact ⟨x, h1, h2⟩
theorem atI_mem {α : Type} {xs : List α} {i : Int} {x : α} (e : atI xs i = some x) : x ∈ xs := by
  unfold atI at e
  cases q : ixN xs.length i with
  | none => rw [q] at e; cases e
  | some j => rw [q] at e; exact List.mem_of_getElem? (show xs[j]? = some x from e)
section
variable {X : Cx} {cl : Nat → Addr} {W : WX}
theorem strOk_one {z : Str} {c : Nat} (h : PyData.strOk z = true) (hc : c ∈ z.cps.toList) : PyData.strOk ⟨#[c]⟩ = true := by
  rw [strOk_iff] at *
  intro d hd
  have : d = c := by simpa using hd
  subst this
  exact h d hc
theorem xq_ix : IxR X (liftOp (bx X cl) fIx) := by
  intro value slice pins s σ H x y v u Q I rx ry ⟨ι, F, S, a, b, rl, za, zb, fi⟩ hs
  unfold fIx at fi
  split at fi
  · rename_i z i
    split at fi
    · rename_i hl
      cases za with
      | v za =>
        cases za with
        | str _ h1 =>
          cases zb with
          | v zb =>
            cases zb
            cases q : atI z.cps.toList i with
            | none => rw [q] at fi; exact fi.no
            | some c =>
              rw [q] at fi
              exact ix_str value slice pins s σ H _ _ v u Q I rx ry ⟨z, i, c, rfl, rfl, sz hl, q, fi.val rl (.v (.str _ (strOk_one h1 (atI_mem q))))⟩ hs
    · exact fi.no
  · rename_i i _
    cases zb with
    | v zb =>
      cases zb
      cases q : asSeq S a with
      | none => rw [q] at fi; exact fi.no
      | some xs =>
        rw [q] at fi
        simp only at fi
        cases qi : atI xs i with
        | none => rw [qi] at fi; exact fi.no
        | some w =>
          rw [qi] at fi
          obtain ⟨p, vs, rfl, hp, zz⟩ := asSeq_ok rl za q
          obtain ⟨xv, h1, h2⟩ := atI_paired zz qi
          rcases hp with hp | hp
          · exact ix_list value slice pins s σ H _ _ v u Q I rx ry ⟨p, vs, i, xv, rfl, rfl, hp, h1, fi.val rl h2⟩ hs
          · exact ix_tup value slice pins s σ H _ _ v u Q I rx ry ⟨p, vs, i, xv, rfl, rfl, hp, h1, fi.val rl h2⟩ hs
  · exact fi.no
end
/-! ### slices -/
abbrev MO := Env' → Sto → R (Option Int)
def oNone : MO := fun _ S => .ok none S
def oSome (m : ME) : MO := fun ρ S => (m ρ S).bind fun u S1 => match u with
  | .v (.int i) => .ok (some i) S1
  | _ => .er
def cutU {α : Type} (xs : List α) (lo hi : Option Int) : List α := (xs.drop (HT.sIx xs.length 0 lo)).take (HT.sIx xs.length xs.length hi - HT.sIx xs.length 0 lo)
theorem cut_paired {α β : Type} {P : α → β → Prop} {xs : List α} {ys : List β} (lo hi : Option Int) (h : Paired P xs ys) : Paired P (cutU xs lo hi) (cutU ys lo hi) := by
  unfold cutU
  rw [paired_len h]
  exact paired_take _ (paired_drop _ h)
/-- a slice: of a text, of a tuple, of a list (a new one, by value) -/
def fSl : U → Option Int → Option Int → Sto → Option (U × Sto) := fun x lo hi S => match x with
  | .v (.str z) => if z.length ≤ 100000 then some (.v (.str (cutS z lo hi)), S) else none
  | .v (.tup xs) => some (.v (.tup (cutU xs lo hi)), S)
  | _ => match asList S x with
    | some xs => (allV (cutU xs lo hi)).map fun ds => (.v (.lst ds), S)
    | none => none
def eSl (f : U → Option Int → Option Int → Sto → Option (U × Sto)) (m : ME) (lo hi : MO) : ME := fun ρ S => (m ρ S).bind fun x S1 => (lo ρ S1).bind fun l S2 => (hi ρ S2).bind fun h S3 => ofO (f x l h S3)
def liftO (B : Bx) (W : WX) (m : MO) : TO := fun σ H Q => ∃ ι F S ρ, Rel B ι F S H ∧ REnv B ι F H σ ρ ∧ Out B W σ ι F H (fun _ _ _ b c => b = c) Q (m ρ S)
def QO (X : Cx) (cl : Nat → Addr) (W : WX) (e : Option Expr) (m : MO) : Prop := PO X e (liftO (bx X cl) W m)
theorem PO.imp {X : Cx} {e : Option Expr} {t t' : TO} (h : PO X e t) (k : ∀ σ H Q, t' σ H Q → t σ H Q) : PO X e t' := ⟨fun pins s σ H Q I hq => h.run pins s σ H Q I (k σ H Q hq)⟩
section
variable {X : Cx} {cl : Nat → Addr} {W : WX} {e : Expr} {lo hi : Option Expr} {m : ME} {mlo mhi : MO} {pos p2 : Pos}
theorem qo_none : QO X cl W none oNone := PO.imp po_none fun σ H Q ⟨ι, F, S, ρ, r, en, o⟩ => o none ι F H Evo.refl r rfl
theorem qo_some (h : QE X cl W e m) : QO X cl W (some e) (oSome m) := PO.imp (po_some h) fun σ H Q ⟨ι, F, S, ρ, r, en, o⟩ => ⟨ι, F, S, ρ, r, en, o.bind.mono fun x H1 ⟨ι1, F1, S1, x', e1, r1, z1, o1⟩ => by
  split at o1
  · rename_i i
    cases z1 with
    | v z1 => cases z1; exact ⟨i, rfl, o1 _ ι1 F1 H1 Evo.refl r1 rfl⟩
  · exact o1.elim⟩
theorem strOk_cut {z : Str} {l h : Option Int} (hz : PyData.strOk z = true) : PyData.strOk (cutS z l h) = true := by
  rw [strOk_iff] at *
  intro c hc
  unfold cutS at hc
  exact hz c (List.mem_of_mem_drop (List.mem_of_mem_take (by simpa using hc)))
def rSlQ (B : Bx) (f : U → Option Int → Option Int → Sto → Option (U × Sto)) : V → Option Int → Option Int → Hp → VK → Prop := fun x l h H Q => ∃ ι F S a, Rel B ι F S H ∧ RepU B ι F H x a ∧ Fin B ι F H Q (f a l h S)
theorem sq_sl : SlR X (rSlQ (bx X cl) fSl) := by
  intro pins s σ H x v vl vu l h sl Q I rx hs pl pu ⟨ι, F, S, a, rl, za, fi⟩
  unfold fSl at fi
  split at fi
  · rename_i z
    split at fi
    · rename_i hl
      cases za with
      | v za =>
        cases za with
        | str _ h1 => exact sl_str pins s σ H _ v vl vu l h sl Q I rx hs pl pu ⟨z, rfl, sz hl, fi.val rl (.v (.str _ (strOk_cut h1)))⟩
    · exact fi.no
  · rename_i xs
    cases za with
    | v za =>
      cases za with
      | tup ha ra =>
        have hc := cut_paired l h (reps_iff.mp ra)
        have ll := paired_len (reps_iff.mp ra)
        refine sl_tupA pins s σ H _ v vl vu l h sl Q I rx hs pl pu ⟨_, _, rfl, SqT.of ha, fun hw => ?_, fun hw p hp => ?_⟩
        · have e : cutU xs l h = xs := by
            unfold cutU
            rw [← ll, hw.1, hw.2]
            simp [ll]
          rw [e] at fi
          exact fi.val rl (.v (.tup ha ra))
        · exact fi.go (Evo.new hp) (rl.new hp) (.v (.tup upd_same ((reps_iff.mpr hc).mono (ι := ι) (ι' := ι) (Evo.new hp))))
  · cases q : asList S a with
    | none => rw [q] at fi; exact fi.no
    | some xs =>
      rw [q] at fi
      simp only at fi
      cases qa : allV (cutU xs l h) with
      | none => rw [qa] at fi; exact fi.no
      | some ds =>
        rw [qa] at fi
        obtain ⟨p, vs, rfl, hp, zz⟩ := asList_ok rl za q
        have hc := cut_paired l h zz
        rw [allV_some qa] at hc
        exact sl_list pins s σ H _ v vl vu l h sl Q I rx hs pl pu ⟨p, vs, rfl, hp, fun z hz => fi.go (Evo.newF hz) (rl.newF hz) (.v (.lst (.inr rfl) upd_same ((repus_reps hc).mono (ι := ι) (ι' := ι) (Evo.newF hz))))⟩
theorem qe_slice {f : U → Option Int → Option Int → Sto → Option (U × Sto)} (hr : SlR X (rSlQ (bx X cl) f)) (he : QE X cl W e m) (hl : QO X cl W lo mlo) (hu : QO X cl W hi mhi) : QE X cl W (.Subscript e (.Slice lo hi none p2) pos) (eSl f m mlo mhi) :=
  PE.imp (pe_slice hr he hl hu) fun σ H Q ⟨ι, F, S, ρ, r, en, o⟩ => ⟨ι, F, S, ρ, r, en, o.bind.mono fun x H1 ⟨ι1, F1, S1, x', e1, r1, z1, o1⟩ =>
    ⟨ι1, F1, S1, ρ, r1, en.mono e1, o1.bind.mono fun l H2 ⟨ι2, F2, S2, l', e2, r2, z2, o2⟩ => by
      subst z2
      exact ⟨ι2, F2, S2, ρ, r2, (en.mono e1).mono e2, o2.bind.mono fun h H3 ⟨ι3, F3, S3, h', e3, r3, z3, o3⟩ => by
        subst z3
        exact ⟨ι3, F3, S3, x', r3, (z1.mono e2).mono e3, o3.fin⟩⟩⟩⟩
/-- xs[::-1] -/
def fRev : F1 := fun x S => match asList S x with
  | some xs => (allV xs.reverse).map fun ds => (.v (.lst ds), S)
  | none => none
theorem qe_rev {k : Nat} {p1 p3 : Pos} (he : QE X cl W e m) : QE X cl W (.Subscript e (.Slice none none (some (.UnaryOp .USub (.Constant (.int 1) k p1) p2)) p3) pos) (eUn fRev m) :=
  PE.imp (pe_revL he) fun σ H Q ⟨ι, F, S, ρ, r, en, o⟩ => ⟨ι, F, S, ρ, r, en, o.bind.mono fun x H1 ⟨ι1, F1, S1, x', e1, r1, z1, o1⟩ => by
    have fi := o1.fin
    unfold fRev at fi
    cases q : asList S1 x' with
    | none => rw [q] at fi; exact fi.no
    | some xs =>
      rw [q] at fi
      simp only at fi
      cases qa : allV xs.reverse with
      | none => rw [qa] at fi; exact fi.no
      | some ds =>
        rw [qa] at fi
        obtain ⟨p, vs, rfl, hp, zz⟩ := asList_ok r1 z1 q
        have hc := paired_rev zz
        rw [allV_some qa] at hc
        exact ⟨p, vs, rfl, hp, fun z hz => fi.go (Evo.newF hz) (r1.newF hz) (.v (.lst (.inr rfl) upd_same ((repus_reps hc).mono (ι := ι1) (ι' := ι1) (Evo.newF hz))))⟩⟩
end

/-! ### methods -/
def isL (S : Sto) (x : U) : Bool := (asList S x).isSome
def isS (S : Sto) : U → Bool
  | .v (.str _) => true
  | _ => false
def eMtT (chk : Sto → U → Bool) (f : FM) (o : ME) (a : MA) : ME := fun ρ S => (o ρ S).bind fun x S1 => if chk S1 x = true then (a ρ S1).bind fun xs S2 => ofO (f x xs S2) else .er
section
variable {X : Cx} {cl : Nat → Addr} {W : WX} {o e : Expr} {es : List Expr} {mo : ME} {mA : MA} {f : FM} {name : Str} {apos cpos : Pos} {T id : String} {chk : Sto → U → Bool}
/-- what chk says is a value of the type T -/
def ChkTy (B : Bx) (T : String) (chk : Sto → U → Bool) : Prop := ∀ (ι : List Addr) (F : Addr → Prop) (S : Sto) (H : Hp) (v : V) (u : U), Rel B ι F S H → RepU B ι F H v u → chk S u = true → tyV B.K T v H
theorem chk_list {B : Bx} : ChkTy B "list" isL := fun ι F S H v u r z h => by
  unfold isL at h
  cases q : asList S u with
  | none => rw [q] at h; cases h
  | some xs =>
    obtain ⟨a, vs, rfl, hp, _⟩ := asList_ok r z q
    exact .inl ⟨rfl, vs, hp⟩
theorem chk_str {B : Bx} : ChkTy B "str" isS := fun ι F S H v u r z h => by
  unfold isS at h
  split at h
  · cases z with
    | v z => cases z; rfl
  · cases h
theorem qe_bm (ct : ChkTy (bx X cl) T chk) (pa : PlainAttrs T) (slot : Slot T name id) (hty : typeOf (.builtin id) = pure (.type "method_descriptor")) (hm : MtR X id (liftM (bx X cl) f)) (ho : QE X cl W o mo) (ha : QA X cl W (e :: es) mA)
    (hbase : attributeBase o name X.env (eval o X.env) = eval o X.env := by rfl)
    (hfew : ((backTo cpos (starEach (e :: es) X.env)).all (fun x => !x.1) && (backToKw cpos (keywordEach [] X.env)).all (fun x => x.1.isSome)
      && decide ((e :: es).length + ([] : List Keyword).length + (if ([] : List Keyword).isEmpty then 0 else 1) < 30)) = true := by rfl)
    (hline : (apos.endLine == cpos.line) = true := by rfl) (hs : starEach (e :: es) X.env = (false, eval e X.env) :: starEach es X.env := by rfl) (hplain : (backTo cpos (starEach es X.env)).any (·.1) = false := by rfl) :
    QE X cl W (.Call (.Attribute o name apos) (e :: es) [] cpos) (eMtT chk f mo mA) :=
  PE.imp (pe_bm pa slot hty hm ho ha hbase hfew hline hs hplain) fun σ H Q ⟨ι, F, S, ρ, r, en, ot⟩ => ⟨ι, F, S, ρ, r, en, ot.bind.mono fun x H1 ⟨ι1, F1, S1, x', e1, r1, z1, o1⟩ => by
    split at o1
    · rename_i hc
      exact ⟨ct ι1 F1 S1 H1 x x' r1 z1 hc, ι1, F1, S1, ρ, r1, en.mono e1, o1.bind.mono fun y H2 ⟨ι2, F2, S2, y', e2, r2, z2, o2⟩ => ⟨ι2, F2, S2, x', y', r2, z1.mono e2, z2, o2.fin⟩⟩
    · exact o1.elim⟩
theorem qe_bm0 (ct : ChkTy (bx X cl) T chk) (pa : PlainAttrs T) (slot : Slot T name id) (hty : typeOf (.builtin id) = pure (.type "method_descriptor")) (hm : MtR X id (liftM (bx X cl) f)) (ho : QE X cl W o mo)
    (hbase : attributeBase o name X.env (eval o X.env) = eval o X.env := by rfl) (hline : (apos.endLine == cpos.line) = true := by rfl) : QE X cl W (.Call (.Attribute o name apos) [] [] cpos) (eMtT chk f mo aNil) :=
  PE.imp (pe_bm0 pa slot hty hm ho hbase hline) fun σ H Q ⟨ι, F, S, ρ, r, en, ot⟩ => ⟨ι, F, S, ρ, r, en, ot.bind.mono fun x H1 ⟨ι1, F1, S1, x', e1, r1, z1, o1⟩ => by
    split at o1
    · rename_i hc
      exact ⟨ct ι1 F1 S1 H1 x x' r1 z1 hc, ι1, F1, S1, x', [], r1, z1, .nil, Out.fin o1⟩
    · exact o1.elim⟩
/-- the cell n becomes another list -/
theorem Rel.setL {B : Bx} {ι : List Addr} {F : Addr → Prop} {S : Sto} {H : Hp} {n : Nat} {a : Addr} {xs ys : List U} {vs ws : List V} (r : Rel B ι F S H) (h : ι[n]? = some a) (hs : S[n]? = some (.lst xs)) (ha : H a = some (.lst vs)) (z : RepUs B ι F H ws ys) :
    Rel B ι F (S.set n (.lst ys)) (upd H a (.lst ws)) ∧ Evo ι F H ι F (upd H a (.lst ws)) := by
  have nf := r.nf n a _ h hs rfl
  have e0 : Evo ι F H ι F (upd H a (.lst ws)) := by
    refine ⟨fun _ _ h => h, fun _ h => h, fun b u f h => ?_, fun b xs h => ?_, fun b h => ?_⟩
    · rw [upd_ne (fun z : b = a => nf (by rw [← z]; exact f))]; exact h
    · rw [upd_ne (fun z : b = a => by rw [z, ha] at h; cases h)]; exact h
    · by_cases hb : b = a
      · rw [hb, upd_same]; simp
      · rw [upd_ne hb]; exact h
  exact r.write h hs rfl (fun xs z => by rw [ha] at z; cases z) nofun ⟨ws, upd_same, z.mono e0⟩
def fAppend : FM := fun x us S => match x, us with
  | .r n, [u] => match S[n]? with
    | some (.lst xs) => if xs.length < 100000 then some (.v .non, S.set n (.lst (xs ++ [u]))) else none
    | _ => none
  | _, _ => none
theorem szl {n : Nat} (h : n < 100000) : n < sizeLine := Nat.lt_of_lt_of_le h (by decide)
theorem mq_append : MtR X "list.append" (liftM (bx X cl) fAppend) := by
  intro pins s σ H x xs v us Q I rx rxs ⟨ι, F, S, a, as, rl, za, zs, fi⟩
  unfold fAppend at fi
  split at fi
  · rename_i n u
    cases q : S[n]? with
    | none => rw [q] at fi; exact fi.no
    | some c =>
      rw [q] at fi
      cases c with
      | lst ys =>
        simp only at fi
        split at fi
        · rename_i hl
          cases za with
          | @r _ a h =>
            cases zs with
            | cons z1 z2 =>
              cases z2
              obtain ⟨vs, ha, zz⟩ := rl.ok n a _ h q
              obtain ⟨r2, e2⟩ := rl.setL h q ha (paired_append zz (.cons z1 .nil))
              exact mt_append pins s σ H _ _ v us Q I rx rxs ⟨a, vs, _, rfl, rfl, ha, szl (by rw [paired_len zz]; exact hl), fi.go e2 r2 (.v .non)⟩
        · exact fi.no
      | _ => exact fi.no
  · exact fi.no
def fReverse : FM := fun x us S => match x, us with
  | .r n, [] => match S[n]? with
    | some (.lst xs) => some (.v .non, S.set n (.lst xs.reverse))
    | _ => none
  | _, _ => none
theorem mq_reverse : MtR X "list.reverse" (liftM (bx X cl) fReverse) := by
  intro pins s σ H x xs v us Q I rx rxs ⟨ι, F, S, a, as, rl, za, zs, fi⟩
  unfold fReverse at fi
  split at fi
  · rename_i n
    cases q : S[n]? with
    | none => rw [q] at fi; exact fi.no
    | some c =>
      rw [q] at fi
      cases c with
      | lst ys =>
        cases za with
        | @r _ a h =>
          cases zs
          obtain ⟨vs, ha, zz⟩ := rl.ok n a _ h q
          obtain ⟨r2, e2⟩ := rl.setL h q ha (paired_rev zz)
          exact mt_reverse pins s σ H _ _ v us Q I rx rxs ⟨a, vs, rfl, rfl, ha, fi.go e2 r2 (.v .non)⟩
      | _ => exact fi.no
  · exact fi.no
/-- "..".join(texts) -/
def allS : List U → Option (List Str)
  | [] => some []
  | .v (.str x) :: us => (allS us).map (x :: ·)
  | _ :: _ => none
def fJoin : FM := fun x us S => match x, us with
  | .v (.str a), [u] => match asSeq S u with
    | some xs => match allS xs with
      | some ys => if (ys.map (·.length)).sum + ys.length * a.length ≤ 100000 then some (.v (.str (Txt.join a ys)), S) else none
      | none => none
    | none => none
  | _, _ => none
theorem allS_ok {B : Bx} {ι : List Addr} {F : Addr → Prop} {H : Hp} : ∀ {us : List U} {ys : List Str} {vs : List V}, RepUs B ι F H vs us → allS us = some ys → vs = ys.map V.str ∧ ∀ y ∈ ys, PyData.strOk y = true
  | _, ys, _, .nil, e => by simp [allS] at e; subst e; exact ⟨rfl, nofun⟩
  | _, ys, _, .cons (b := u) (l₂ := us) z zs, e => by
    unfold allS at e
    split at e
    · rename_i he; cases he
    · rename_i x us' he
      cases he
      obtain ⟨ys', e1, rfl⟩ := Option.map_eq_some_iff.mp e
      obtain ⟨h1, h2⟩ := allS_ok zs e1
      cases z with
      | v z =>
        cases z with
        | str _ h =>
          refine ⟨by rw [h1]; rfl, fun y hy => ?_⟩
          rcases List.mem_cons.mp hy with e | e
          · subst e; exact h
          · exact h2 y e
    · cases e
theorem join_ok {P : Nat → Prop} {a : List Nat} (ha : ∀ c ∈ a, P c) : ∀ {ps : List (List Nat)}, (∀ p ∈ ps, ∀ c ∈ p, P c) → ∀ c ∈ TL.joinL a ps, P c
  | [], _, c, hc => by simp [TL.joinL] at hc
  | [p], h, c, hc => h p (by simp) c hc
  | p :: q :: r, h, c, hc => by
    simp only [TL.joinL, List.mem_append] at hc
    rcases hc with hc | hc | hc
    · exact h p (by simp) c hc
    · exact ha c hc
    · exact join_ok ha (fun p' hp' => h p' (List.mem_cons_of_mem _ hp')) c hc
theorem strOk_join {a : Str} {ys : List Str} (h1 : PyData.strOk a = true) (h2 : ∀ y ∈ ys, PyData.strOk y = true) : PyData.strOk (Txt.join a ys) = true := by
  rw [strOk_iff]
  intro c hc
  rw [TL.join_eq] at hc
  have e := TL.tl_join a ys
  have hc' : c ∈ TL.tl (Str.join a ys) := hc
  rw [e] at hc'
  refine join_ok (P := fun c => c < 0x110000) (fun c hc => strOk_iff.mp h1 c hc) (fun p hp c hc => ?_) c hc'
  obtain ⟨y, hy, rfl⟩ := List.mem_map.mp hp
  exact strOk_iff.mp (h2 y hy) c hc
theorem mq_join : MtR X "str.join" (liftM (bx X cl) fJoin) := by
  intro pins s σ H x xs v us Q I rx rxs ⟨ι, F, S, a, as, rl, za, zs, fi⟩
  unfold fJoin at fi
  split at fi
  · rename_i z u
    cases q : asSeq S u with
    | none => rw [q] at fi; exact fi.no
    | some ws =>
      rw [q] at fi
      simp only at fi
      cases qs : allS ws with
      | none => rw [qs] at fi; exact fi.no
      | some ys =>
        rw [qs] at fi
        simp only at fi
        split at fi
        · rename_i hl
          cases za with
          | v za =>
            cases za with
            | str _ h1 =>
              cases zs with
              | cons z1 z2 =>
                cases z2
                obtain ⟨p, vs, rfl, hp, zz⟩ := asSeq_ok rl z1 q
                obtain ⟨rfl, h2⟩ := allS_ok zz qs
                exact mt_join pins s σ H _ _ v us Q I rx rxs ⟨z, p, ys, rfl, rfl, hp, Nat.le_trans hl (by decide), fi.val rl (.v (.str _ (strOk_join h1 h2)))⟩
        · exact fi.no
  · exact fi.no
end
end Pu
/-! Pu: what a loop walks; list comprehensions. -/
namespace Pu
open PySem L2

def srcOf : U → Option Nat
  | .r n => some n
  | _ => none
/-- a list or a tuple -/
def iVal (m : ME) : MI := fun ρ S => (m ρ S).bind fun u S1 => match asSeq S1 u with
  | some xs => .ok ⟨xs, srcOf u⟩ S1
  | none => .er
def rngU (lo : Int) (n : Nat) : List U := (List.range n).map fun (i : Nat) => .v (.int (lo + (i : Nat)))
def iRng1 (a : MA) : MI := fun ρ S => (a ρ S).bind fun us S1 => match us with
  | [.v (.int j)] => if -1000000000 < j ∧ j < 1000000000 then .ok ⟨rngU 0 j.toNat, none⟩ S1 else .er
  | _ => .er
def iRng2 (a : MA) : MI := fun ρ S => (a ρ S).bind fun us S1 => match us with
  | [.v (.int i), .v (.int j)] => if -1000000000 < j ∧ j < 1000000000 ∧ -1000000000 < i ∧ i < 1000000000 then .ok ⟨rngU i (j - i).toNat, none⟩ S1 else .er
  | _ => .er
theorem asSeq_same {S S' : Sto} {u : U} {xs : List U} (h : asSeq S u = some xs) (hs : ∀ n, srcOf u = some n → S'[n]? = S[n]?) : asSeq S' u = some xs := by
  cases u with
  | v d => cases d <;> exact h
  | r n =>
    unfold asSeq at h ⊢
    simp only at h ⊢
    rw [hs n rfl]
    exact h
/-- what kind of sequence it is -/
theorem asSeq_kind {B : Bx} {ι : List Addr} {F : Addr → Prop} {H : Hp} {S : Sto} {v : V} {u : U} {xs : List U} (r : Rel B ι F S H) (z : RepU B ι F H v u) (e : asSeq S u = some xs) :
    (∃ a vs, v = .ref a ∧ SqL B.K H a vs ∧ RepUs B ι F H vs xs ∧ ∀ ds, u ≠ .v (.tup ds)) ∨ (∃ a vs ds, u = .v (.tup ds) ∧ v = .ref a ∧ H a = some (.tup vs) ∧ RepUs B ι F H vs xs) := by
  cases z with
  | v z =>
    cases z with
    | lst f h rs => cases e; exact .inl ⟨_, _, rfl, SqL.of h, reps_u rs, nofun⟩
    | frl h rs => cases e; exact .inl ⟨_, _, rfl, h.sq, reps_u rs, nofun⟩
    | tup h rs => cases e; exact .inr ⟨_, _, _, rfl, rfl, h, reps_u rs⟩
    | _ => cases e
  | @r n a h =>
    unfold asSeq at e
    simp only at e
    cases q : S[n]? with
    | none => rw [q] at e; cases e
    | some c =>
      rw [q] at e
      have ok := r.ok n a c h q
      cases c with
      | lst ys =>
        cases e
        obtain ⟨vs, h1, h2⟩ := ok
        exact .inl ⟨a, vs, rfl, SqL.of h1, h2, nofun⟩
      | _ => cases e
theorem paired_ix {α β : Type} {P : α → β → Prop} {xs : List α} {ys : List β} {i : Nat} (h : Paired P xs ys) (hi : i < ys.length) : ∃ x y, xs[i]? = some x ∧ ys[i]? = some y ∧ P x y := by
  obtain ⟨x, h1, h2⟩ := paired_get h (List.getElem?_eq_getElem hi)
  exact ⟨x, _, h1, List.getElem?_eq_getElem hi, h2⟩
section
variable {X : Cx} {cl : Nat → Addr} {W : WX} {tg e : Expr} {m : ME} {mA : MA} {p pos : Pos}
theorem walk_l {ι : List Addr} {F : Addr → Prop} {S : Sto} {H : Hp} {u : U} {xs : List U} {a : Addr} (z : RepU (bx X cl) ι F H (.ref a) u) (q : asSeq S u = some xs) (nt : ∀ ds, u ≠ .v (.tup ds)) : Walk (bx X cl) (Itl X.K a) ⟨xs, srcOf u⟩ S ι F H := by
  intro i ι1 F1 S1 H1 e1 r1 so
  have z1 := z.mono e1
  have q1 := asSeq_same q so
  rcases asSeq_kind r1 z1 q1 with ⟨a', vs, ea, hs, zz, _⟩ | ⟨a', vs, ds, hu, _⟩
  · cases ea
    refine ⟨fun hi => ?_, fun hi => ⟨vs, hs, by rw [paired_len zz]; exact hi⟩⟩
    obtain ⟨x, y, hx, hy, zy⟩ := paired_ix zz hi
    refine ⟨⟨vs, x, hs, hx⟩, fun x' H' hyld => ?_⟩
    obtain ⟨rfl, hx'⟩ := hyld
    have := hx' vs hs
    rw [hx] at this
    cases this
    exact ⟨Evo.refl, r1, fun u' hu' => by
      have : xs[i]? = some u' := hu'
      rw [hy] at this; cases this; exact zy⟩
  · exact absurd hu (nt ds)
theorem walk_t {ι : List Addr} {F : Addr → Prop} {S : Sto} {H : Hp} {ds : List D} {vs : List V} {xs : List U} {a : Addr} (h : H a = some (.tup vs)) (zz : RepUs (bx X cl) ι F H vs xs) : Walk (bx X cl) (Itt X.K a) ⟨xs, none⟩ S ι F H := by
  intro i ι1 F1 S1 H1 e1 r1 so
  have h1 := e1.tups _ _ h
  have zz1 := zz.mono e1
  refine ⟨fun hi => ?_, fun hi => ⟨vs, SqT.of h1, by rw [paired_len zz1]; exact hi⟩⟩
  obtain ⟨x, y, hx, hy, zy⟩ := paired_ix zz1 hi
  refine ⟨⟨vs, x, SqT.of h1, hx⟩, fun x' H' hyld => ?_⟩
  obtain ⟨rfl, hx'⟩ := hyld
  have := hx' vs (SqT.of h1)
  rw [hx] at this
  cases this
  exact ⟨Evo.refl, r1, fun u' hu' => by
    have : xs[i]? = some u' := hu'
    rw [hy] at this; cases this; exact zy⟩
theorem qi_val (h : QE X cl W e m) : QI X cl W tg e (iVal m) := by
  refine ⟨fun pins s σ H Rr I ⟨ι, F, S, ρ, r, en, o⟩ => ?_⟩
  unfold iVal at o
  cases q : m ρ S with
  | er => rw [q] at o; exact o.elim
  | ex c fs S1 =>
    rw [q] at o
    exact (pi_list h).run pins s σ H Rr I ⟨ι, F, S, ρ, r, en, by rw [q]; exact o⟩
  | ok u S1 =>
    rw [q] at o
    simp only [R.bind_ok] at o
    cases qs : asSeq S1 u with
    | none => rw [qs] at o; exact o.elim
    | some xs =>
      rw [qs] at o
      simp only at o
      by_cases hu : ∃ ds, u = .v (.tup ds)
      · obtain ⟨ds, rfl⟩ := hu
        refine (pi_tup h).run pins s σ H Rr I ⟨ι, F, S, ρ, r, en, ?_⟩
        rw [q]
        intro v ι1 F1 H1 e1 r1 z1
        rcases asSeq_kind r1 z1 qs with ⟨a, vs, ea, hs, zz, nt⟩ | ⟨a, vs, ds', _, ea, ha, zz⟩
        · exact absurd rfl (nt ds)
        · subst ea
          exact ⟨a, rfl, ⟨vs, SqT.of ha⟩, o _ ι1 F1 H1 e1 r1 (walk_t (ds := ds) ha zz)⟩
      · refine (pi_list h).run pins s σ H Rr I ⟨ι, F, S, ρ, r, en, ?_⟩
        rw [q]
        intro v ι1 F1 H1 e1 r1 z1
        have nt : ∀ ds, u ≠ .v (.tup ds) := fun ds hd => hu ⟨ds, hd⟩
        rcases asSeq_kind r1 z1 qs with ⟨a, vs, ea, hs, zz, _⟩ | ⟨a, vs, ds', hd, _⟩
        · subst ea
          exact ⟨a, rfl, ⟨vs, hs⟩, o _ ι1 F1 H1 e1 r1 (walk_l z1 qs nt)⟩
        · exact absurd hd (nt ds')
theorem walk_r {ι : List Addr} {F : Addr → Prop} {S : Sto} {H : Hp} (lo : Int) (n : Nat) : Walk (bx X cl) (Itr lo n) ⟨rngU lo n, none⟩ S ι F H := by
  intro i ι1 F1 S1 H1 e1 r1 so
  refine ⟨fun hi => ⟨show i < n by simpa [rngU] using hi, fun x' H' hyld => ?_⟩, fun hi => show n ≤ i by simpa [rngU] using hi⟩
  obtain ⟨rfl, rfl⟩ := hyld
  refine ⟨Evo.refl, r1, fun u' hu' => ?_⟩
  have hi' : i < n := by simpa [rngU] using hi
  have : u' = .v (.int (lo + (i : Nat))) := by
    simp [rngU, List.getElem?_map, List.getElem?_range hi'] at hu'
    exact hu'.symm
  subst this
  exact .v (.int _)
theorem qi_range1 {a : Expr} (hg : Gl X "range") (hm : X.mg "range" = none) (ha : QA X cl W [a] mA) (hs : starEach [a] X.env = [(false, eval a X.env)] := by rfl) : QI X cl W tg (.Call (.Name "range" p) [a] [] pos) (iRng1 mA) :=
  PI.imp (pi_range1 hg hm ha hs) fun σ H Rr ⟨ι, F, S, ρ, r, en, o⟩ => ⟨ι, F, S, ρ, r, en, by
    unfold iRng1 at o
    cases q : mA ρ S with
    | er => rw [q] at o; exact o.elim
    | ex c fs S1 => rw [q] at o; exact o
    | ok us S1 =>
      rw [q] at o
      intro vs ι1 F1 H1 e1 r1 z1
      simp only [R.bind_ok] at o
      split at o
      · rename_i j he
        split at he
        · rename_i j'
          split at he
          · rename_i hb
            cases he
            cases z1 with
            | cons z1 z2 =>
              cases z2
              cases z1 with
              | v z1 => cases z1; exact ⟨j', rfl, by omega, by omega, o _ ι1 F1 H1 e1 r1 (walk_r 0 j'.toNat)⟩
          · cases he
        · cases he
      · rename_i he
        split at he
        · split at he <;> cases he
        · cases he
      · exact False.elim o⟩
theorem qi_range2 {a b : Expr} (hg : Gl X "range") (hm : X.mg "range" = none) (ha : QA X cl W [a, b] mA) (hs : starEach [a, b] X.env = [(false, eval a X.env), (false, eval b X.env)] := by rfl) (hs2 : starEach [b] X.env = [(false, eval b X.env)] := by rfl) : QI X cl W tg (.Call (.Name "range" p) [a, b] [] pos) (iRng2 mA) :=
  PI.imp (pi_range2 hg hm ha hs hs2) fun σ H Rr ⟨ι, F, S, ρ, r, en, o⟩ => ⟨ι, F, S, ρ, r, en, by
    unfold iRng2 at o
    cases q : mA ρ S with
    | er => rw [q] at o; exact o.elim
    | ex c fs S1 => rw [q] at o; exact o
    | ok us S1 =>
      rw [q] at o
      intro vs ι1 F1 H1 e1 r1 z1
      simp only [R.bind_ok] at o
      split at o
      · rename_i j he
        split at he
        · rename_i i' j'
          split at he
          · rename_i hb
            cases he
            cases z1 with
            | cons z1 z2 =>
              cases z2 with
              | cons z2 z3 =>
                cases z3
                cases z1 with
                | v z1 =>
                  cases z1
                  cases z2 with
                  | v z2 => cases z2; exact ⟨i', j', rfl, ⟨by omega, by omega, by omega, by omega⟩, o _ ι1 F1 H1 e1 r1 (walk_r i' (j' - i').toNat)⟩
          · cases he
        · cases he
      · rename_i he
        split at he
        · split at he <;> cases he
        · cases he
      · exact False.elim o⟩
end

/-! ### list comprehensions, one clause -/
def wipeE (ρ : Env') : List Nat → Env'
  | [] => ρ
  | v :: vs => (wipeE ρ vs).set v none
theorem wipe_env {B : Bx} {ι : List Addr} {F : Addr → Prop} {H : Hp} {σ : L2.St} {ρ : Env'} (h : REnv B ι F H σ ρ) : ∀ vs, REnv B ι F H (wipe σ vs) (wipeE ρ vs)
  | [] => h
  | v :: vs => paired_set (P := RepO B ι F H) (x := none) (y := none) trivial v (wipe_env h vs)
theorem wipe_get {σ : L2.St} {i : Nat} : ∀ {vs : List Nat}, i ∉ vs → (wipe σ vs)[i]? = σ[i]?
  | [], _ => rfl
  | v :: vs, h => by
    simp only [List.mem_cons, not_or] at h
    unfold wipe
    rw [List.getElem?_set_ne (fun e => h.1 e.symm), wipe_get h.2]
theorem wipe_in {σ : L2.St} {i : Nat} : ∀ {vs : List Nat}, i ∈ vs → i < σ.length → (wipe σ vs)[i]? = some none
  | [], h, _ => by cases h
  | v :: vs, h, hl => by
    unfold wipe
    by_cases e : v = i
    · subst e
      rw [List.getElem?_set_self (by rw [wipe_length]; exact hl)]
    · rw [List.getElem?_set_ne e]
      exact wipe_in ((List.mem_cons.mp h).resolve_left (fun q => e q.symm)) hl
theorem wipe_eq {σ σ' : L2.St} {vs js : List Nat} (hl : σ'.length = σ.length) (hj : ∀ j ∈ js, j ∈ vs) (h : ∀ i, i ∉ js → σ'[i]? = (wipe σ vs)[i]?) : wipe σ' vs = wipe σ vs := by
  apply List.ext_getElem?
  intro i
  by_cases hi : i ∈ vs
  · by_cases hb : i < σ.length
    · rw [wipe_in hi hb, wipe_in hi (by omega)]
    · rw [List.getElem?_eq_none (by rw [wipe_length]; omega), List.getElem?_eq_none (by rw [wipe_length]; omega)]
  · rw [wipe_get hi, h i (fun z => hi (hj i z)), wipe_get hi]
/-- nothing may be raised here -/
def noEx {α : Type} : R α → R α
  | .ok a S => .ok a S
  | _ => .er
@[simp] theorem noEx_ok {α : Type} (a : α) (S : Sto) : noEx (R.ok a S) = .ok a S := rfl
/-- the turns: the new list is the cell n -/
noncomputable def lcGo (src : Option Nat) (c0 : Option Cell) (g : MG) (t : MT) (e : ME) (n : Nat) : List U → Env' → Sto → R Unit
  | [], _, S => .ok () S
  | u :: us, ρ, S => match g u ρ with
    | none => .er
    | some ρ1 => (noEx (t ρ1 S)).bind fun b S1 => if b = true then (noEx (e ρ1 S1)).bind fun y S2 => match S2[n]? with
        | some (.lst acc) => if acc.length < 100000 ∧ srcOk src c0 S2 then lcGo src c0 g t e n us ρ (S2.set n (.lst (acc ++ [y]))) else .er
        | _ => .er
      else if srcOk src c0 S1 then lcGo src c0 g t e n us ρ S1 else .er
noncomputable def lcRun (vs : List Nat) (it : MI) (g : MG) (t : MT) (e : ME) (kf : Sto → Unit → Sto → R U) : ME := fun ρ S => (it ρ S).bind fun iv S1 =>
  if srcOk iv.src (iv.src.bind fun n => S1[n]?) (S1 ++ [.lst []]) then
    (lcGo iv.src (iv.src.bind fun n => S1[n]?) g t e S1.length iv.items (wipeE ρ vs) (S1 ++ [.lst []])).bind (kf S1)
  else .er
/-- the new list may change -/
noncomputable def eLcS (vs : List Nat) (it : MI) (g : MG) (t : MT) (e : ME) : ME := lcRun vs it g t e fun S1 _ S2 => .ok (.r S1.length) S2
/-- .. by value -/
noncomputable def kfV (S1 : Sto) (_ : Unit) (S2 : Sto) : R U := match S2[S1.length]? with
  | some (.lst xs) => match allV xs with
    | some ds => if S2 = S1 ++ [.lst xs] then .ok (.v (.lst ds)) S1 else .er
    | none => .er
  | _ => .er
noncomputable def eLcV (vs : List Nat) (it : MI) (g : MG) (t : MT) (e : ME) : ME := lcRun vs it g t e kfV
def tYesM : MT := fun _ S => .ok true S
abbrev W0 : WX := fun _ _ _ _ => False
def QTs (X : Cx) (cl : Nat → Addr) (W : WX) (ifs : List Expr) (m : MT) : Prop := PTs X ifs (liftT (bx X cl) W m)
theorem PTs.imp {X : Cx} {e : List Expr} {t t' : TT} (h : PTs X e t) (k : ∀ σ H Q, t' σ H Q → t σ H Q) : PTs X e t' := ⟨fun pins s σ H Q I hq => h.run pins s σ H Q I (k σ H Q hq)⟩
section
variable {X : Cx} {cl : Nat → Addr} {W : WX}
theorem qts_nil : QTs X cl W [] tYesM := PTs.imp pts_nil fun σ H Q ⟨ι, F, S, ρ, r, en, o⟩ => o true ι F H Evo.refl r rfl
theorem qts_one {c : Expr} {t : MT} (h : QT X cl W c t) : QTs X cl W [c] t := pts_one h
/-- the last cell is given up: its list is a value now -/
theorem Rel.pop {B : Bx} {ι : List Addr} {F : Addr → Prop} {S : Sto} {H : Hp} {c : Cell} (r : Rel B ι F (S ++ [c]) H) (hlt : ∀ c ∈ S, cellLt S.length c) : ∃ ι0 a, ι = ι0 ++ [a] ∧ Rel B ι0 (addF F a) S H := by
  have hl := r.len
  simp only [List.length_append, List.length_singleton] at hl
  obtain ⟨ι0, a, rfl⟩ : ∃ ι0 a, ι = ι0 ++ [a] := by
    rcases List.eq_nil_or_concat ι with h | ⟨l, x, h⟩
    · subst h; simp at hl
    · exact ⟨l, x, by simpa using h⟩
  refine ⟨ι0, a, rfl, ?_⟩
  have hl0 : ι0.length = S.length := by simpa using hl
  have old : ∀ {n : Nat} {b : Addr} {d : Cell}, ι0[n]? = some b → S[n]? = some d → (ι0 ++ [a])[n]? = some b ∧ (S ++ [c])[n]? = some d := fun {n b d} h1 h2 =>
    ⟨by rw [List.getElem?_append_left (List.getElem?_eq_some_iff.mp h1).1]; exact h1, by rw [List.getElem?_append_left (List.getElem?_eq_some_iff.mp h2).1]; exact h2⟩
  have hla : (ι0 ++ [a])[ι0.length]? = some a := by simp
  have ne : ∀ {n : Nat} {b : Addr}, ι0[n]? = some b → b ≠ a := fun {n b} h1 e => by
    subst e
    have h1' : (ι0 ++ [b])[n]? = some b := by rw [List.getElem?_append_left (List.getElem?_eq_some_iff.mp h1).1]; exact h1
    obtain ⟨q1, e1⟩ := List.getElem?_eq_some_iff.mp h1'
    obtain ⟨q2, e2⟩ := List.getElem?_eq_some_iff.mp hla
    have := (List.getElem_inj r.nd).mp (e1.trans e2.symm)
    have := (List.getElem?_eq_some_iff.mp h1).1
    omega
  have e0 : Evo (ι0 ++ [a]) F H (ι0 ++ [a]) (addF F a) H := ⟨fun _ _ h => h, fun _ h => .inl h, fun _ _ _ h => h, fun _ _ h => h, fun _ h => h⟩
  have ru : ∀ {v : V} {u : U}, RepU B (ι0 ++ [a]) F H v u → refLt S.length u → RepU B ι0 (addF F a) H v u := fun {v u} z hz => by
    cases z with
    | v z => exact .v (z.mono e0)
    | @r m b h =>
      have hm : m < ι0.length := by rw [hl0]; exact hz
      rw [List.getElem?_append_left hm] at h
      exact .r h
  refine ⟨hl0, (List.nodup_append.mp r.nd).1, fun n b d h1 h2 h3 => ?_, fun n b d h1 h2 => ?_, fun b hb => r.there b (by simp [hb]), fun b hb => ?_, fun b hb => r.now b (by simp [hb])⟩
  · rintro (z | z)
    · exact r.nf n b d (old h1 h2).1 (old h1 h2).2 h3 z
    · exact ne h1 z
  · have ok := r.ok n b d (old h1 h2).1 (old h1 h2).2
    have lt := hlt d (List.mem_of_getElem? h2)
    cases d with
    | lst xs => obtain ⟨vs, h, q⟩ := ok; exact ⟨vs, h, paired_memP (P := RepU B (ι0 ++ [a]) F H) (P' := RepU B ι0 (addF F a) H) (Q := refLt S.length) (fun _ _ z l => ru z l) q lt⟩
    | dic kvs => obtain ⟨vs, h, z, q⟩ := ok; exact ⟨vs, h, z, paired_memP (Q := fun p : D × U => refLt S.length p.2) (fun _ _ ⟨a, b, c, w, d, e⟩ l => ⟨a, b.mono e0, c, w, d, ru e l⟩) q lt⟩
    | ins k fs =>
      obtain ⟨dx, vs, h, hd, nd, q⟩ := ok
      refine ⟨dx, vs, h, hd, ?_, paired_memP (Q := fun p : Str × U => refLt S.length p.2) (fun _ _ ⟨a, e⟩ l => ⟨a, ru e l⟩) q lt⟩
      rintro (z | z)
      · exact nd z
      · subst z; exact r.now dx (by simp) _ hd
    | dead => trivial
  · rcases hb with z | z
    · exact r.fthere b z
    · subst z; exact r.there b (by simp)
end
end Pu
/-! Pu: list comprehensions, one clause: the rules. -/
namespace Pu
open PySem L2
open PyProof.Rows hiding St
theorem Out.bindN {α β γ δ : Type} {B : Bx} {W : WX} {σ σ' : L2.St} {ι ι2 : List Addr} {F F2 : Addr → Prop} {H H2 : Hp} {rep : List Addr → (Addr → Prop) → Hp → β → α → Prop} {rep1 : List Addr → (Addr → Prop) → Hp → δ → γ → Prop} {Q : β → Hp → Prop} {r : R γ} {k : γ → Sto → R α}
    (h : Out B W σ ι F H rep Q ((noEx r).bind k)) : Out B W0 σ' ι2 F2 H2 rep1 (fun b H1 => ∃ ι1 F1 S1 a, Evo ι2 F2 H2 ι1 F1 H1 ∧ Rel B ι1 F1 S1 H1 ∧ rep1 ι1 F1 H1 b a ∧ Out B W σ ι F H rep Q (k a S1)) r := by
  cases r with
  | ok a S' => exact fun b ι' F' H' e' r' z => ⟨ι', F', S', a, e', r', z, h⟩
  | ex c fs S' => exact h.elim
  | er => exact h.elim
section
variable {X : Cx} {cl : Nat → Addr} {W : WX}
/-- the reading of a comprehension; kf: what is made of the cell at the end -/
theorem lc_read {σ : L2.St} {H : Hp} {Q : VK} {mi : MI} {g : MG} {js vs : List Nat} {t : MT} {e : ME} {kf : Sto → Unit → Sto → R U} (hj : ∀ j ∈ js, j ∈ vs) (h : liftE (bx X cl) W (lcRun vs mi g t e kf) σ H Q)
    (hk : ∀ (S1 S' : Sto) (ι1 : List Addr) (F1 : Addr → Prop) (H1 : Hp) (ι' : List Addr) (F' : Addr → Prop) (H' : Hp) (D : Addr), Rel (bx X cl) ι1 F1 S1 H1 → H1 D = none → Evo (ι1 ++ [D]) F1 (upd H1 D (.lst [])) ι' F' H' → Rel (bx X cl) ι' F' S' H' →
      Out (bx X cl) W σ ι1 F1 H1 (RepU (bx X cl)) Q (kf S1 () S') → Q (.ref D) H') :
    tLc (liftI (bx X cl) W mi) (liftG (bx X cl) js g) (liftT (bx X cl) W0 t) (liftE (bx X cl) W0 e) vs σ H Q := by
  obtain ⟨ι, F, S, ρ, r, en, o⟩ := h
  refine ⟨ι, F, S, ρ, r, en, ?_⟩
  unfold lcRun at o
  cases q : mi ρ S with
  | er => rw [q] at o; exact o
  | ex k fs S1 => rw [q] at o; exact o
  | ok iv S1 =>
    rw [q] at o
    intro J ι1 F1 H1 e1 r1 wk D hD
    have e2 : Evo ι1 F1 H1 (ι1 ++ [D]) F1 (upd H1 D (.lst [])) := Evo.newS hD
    have r2 : Rel (bx X cl) (ι1 ++ [D]) F1 (S1 ++ [.lst []]) (upd H1 D (.lst [])) := r1.newS hD nofun ⟨[], upd_same, .nil⟩
    have hDn : (ι1 ++ [D])[S1.length]? = some D := by rw [← r1.len]; simp
    simp only [R.bind_ok] at o
    split at o
    · rename_i so0
      have o2 := Out.shift e1 o
      refine ⟨fun i m H' => m = iv.items.length - i ∧ i ≤ iv.items.length ∧ ∃ ι3 F3 S3, Evo (ι1 ++ [D]) F1 (upd H1 D (.lst [])) ι3 F3 H' ∧ Rel (bx X cl) ι3 F3 S3 H' ∧ srcOk iv.src (iv.src.bind fun n => S1[n]?) S3 ∧
        Out (bx X cl) W σ ι1 F1 H1 (RepU (bx X cl)) Q ((lcGo iv.src (iv.src.bind fun n => S1[n]?) g t e S1.length (iv.items.drop i) (wipeE ρ vs) S3).bind (kf S1)), ⟨iv.items.length, by simp, by simp, _, _, _, Evo.refl, r2, so0, by simpa using o2⟩, ?_⟩
      rintro i m H3 ⟨rfl, hi, ι3, F3, S3, e3, r3, so, o3⟩
      have so' : ∀ n, iv.src = some n → S3[n]? = S1[n]? := fun n hn => by
        unfold srcOk at so
        rw [hn] at so
        simpa [hn] using so
      obtain ⟨w1, w2⟩ := wk i ι3 F3 S3 H3 (e2.trans e3) r3 so'
      by_cases hlt : i < iv.items.length
      · obtain ⟨go, yl⟩ := w1 hlt
        refine .inr ⟨go, fun H' => i + 1 ≤ iv.items.length ∧ ∃ ι3 F3 S3, Evo (ι1 ++ [D]) F1 (upd H1 D (.lst [])) ι3 F3 H' ∧ Rel (bx X cl) ι3 F3 S3 H' ∧ srcOk iv.src (iv.src.bind fun n => S1[n]?) S3 ∧
          Out (bx X cl) W σ ι1 F1 H1 (RepU (bx X cl)) Q ((lcGo iv.src (iv.src.bind fun n => S1[n]?) g t e S1.length (iv.items.drop (i + 1)) (wipeE ρ vs) S3).bind (kf S1)), fun H' p => ⟨iv.items.length - (i + 1), by omega, rfl, p⟩, fun x H' y => ?_⟩
        obtain ⟨e4, r4, z4⟩ := yl x H' y
        have hd : iv.items.drop i = iv.items[i] :: iv.items.drop (i + 1) := List.drop_eq_getElem_cons hlt
        rw [hd] at o3
        unfold lcGo at o3
        cases qg : g iv.items[i] (wipeE ρ vs) with
        | none => rw [qg] at o3; exact o3.elim
        | some ρ1 =>
          rw [qg] at o3
          have eall := ((e1.trans e2).trans e3).trans e4
          have o4 := o3
          refine ⟨ι3, F3, S3, wipeE ρ vs, iv.items[i], ρ1, r4, wipe_env (en.mono eall) vs, z4 _ (by simp [hlt]), qg, fun σ2 en2 k2 l2 => ⟨wipe_eq (by rw [l2, wipe_length]) hj k2, ι3, F3, S3, ρ1, r4, en2, ?_⟩⟩
          simp only at o4
          -- the test
          have o5 : Out (bx X cl) W σ ι1 F1 H1 (RepU (bx X cl)) Q ((noEx (t ρ1 S3)).bind fun b S4 => (if b = true then (noEx (e ρ1 S4)).bind fun y S5 => match S5[S1.length]? with
              | some (.lst acc) => if acc.length < 100000 ∧ srcOk iv.src (iv.src.bind fun n => S1[n]?) S5 then lcGo iv.src (iv.src.bind fun n => S1[n]?) g t e S1.length (iv.items.drop (i + 1)) (wipeE ρ vs) (S5.set S1.length (.lst (acc ++ [y]))) else .er
              | _ => .er
            else if srcOk iv.src (iv.src.bind fun n => S1[n]?) S4 then lcGo iv.src (iv.src.bind fun n => S1[n]?) g t e S1.length (iv.items.drop (i + 1)) (wipeE ρ vs) S4 else .er).bind (kf S1)) := by
            cases qt : noEx (t ρ1 S3) with
            | ok b S4 => rw [qt] at o4; exact o4
            | ex _ _ _ => rw [qt] at o4; exact o4
            | er => rw [qt] at o4; exact o4
          refine (Out.bindN o5).mono fun b H5 ⟨ι5, F5, S5, b', e5, r5, z5, o6⟩ => ?_
          subst z5
          cases b with
          | false =>
            simp only [Bool.false_eq_true, if_false] at o6
            split at o6
            · rename_i hs
              exact ⟨hlt, ι5, F5, S5, (e3.trans e4).trans e5, r5, hs, o6⟩
            · exact o6.elim
          | true =>
            simp only [if_true] at o6
            refine ⟨ι5, F5, S5, ρ1, r5, en2.mono e5, ?_⟩
            have o7 : Out (bx X cl) W σ ι1 F1 H1 (RepU (bx X cl)) Q ((noEx (e ρ1 S5)).bind fun y S6 => (match S6[S1.length]? with
              | some (.lst acc) => if acc.length < 100000 ∧ srcOk iv.src (iv.src.bind fun n => S1[n]?) S6 then lcGo iv.src (iv.src.bind fun n => S1[n]?) g t e S1.length (iv.items.drop (i + 1)) (wipeE ρ vs) (S6.set S1.length (.lst (acc ++ [y]))) else .er
              | _ => .er).bind (kf S1)) := by
              cases qe : noEx (e ρ1 S5) with
              | ok b S4 => rw [qe] at o6; exact o6
              | ex _ _ _ => rw [qe] at o6; exact o6
              | er => rw [qe] at o6; exact o6
            refine (Out.bindN o7).mono fun y H6 ⟨ι6, F6, S6, y', e6, r6, z6, o8⟩ => ?_
            cases qc : S6[S1.length]? with
            | none => rw [qc] at o8; exact o8.elim
            | some c =>
              rw [qc] at o8
              cases c with
              | lst acc =>
                simp only at o8
                split at o8
                · rename_i hs
                  have hDn6 : ι6[S1.length]? = some D := e6.pre _ _ (e5.pre _ _ (e4.pre _ _ (e3.pre _ _ hDn)))
                  obtain ⟨vs6, ha, zz⟩ := r6.ok _ _ _ hDn6 qc
                  obtain ⟨r7, e7⟩ := r6.setL hDn6 qc ha (paired_append zz (.cons z6 .nil))
                  refine ⟨vs6, ha, szl (by rw [paired_len zz]; exact hs.1), hlt, ι6, F6, _, (((e3.trans e4).trans e5).trans e6).trans e7, r7, ?_, o8⟩
                  have hs2 := hs.2
                  unfold srcOk at hs2 ⊢
                  split
                  · trivial
                  · rename_i n hn
                    rw [hn] at hs2
                    by_cases hnn : n = S1.length
                    · subst hnn
                      simp only [hn, Option.bind_some] at hs2
                      rw [qc, List.getElem?_eq_none (Nat.le_refl _)] at hs2
                      cases hs2
                    · rw [List.getElem?_set_ne (Ne.symm hnn), hn]
                      exact hs2
                · exact o8.elim
              | _ => exact o8.elim
      · have hd : iv.items.drop i = [] := List.drop_eq_nil_of_le (by omega)
        rw [hd] at o3
        exact .inl ⟨w2 (by omega), hk S1 S3 ι1 F1 H1 ι3 F3 H3 D r1 hD e3 r3 o3⟩
    · exact o.elim
theorem lc_endS {σ : L2.St} {Q : VK} (S1 S' : Sto) (ι1 : List Addr) (F1 : Addr → Prop) (H1 : Hp) (ι' : List Addr) (F' : Addr → Prop) (H' : Hp) (D : Addr) (r1 : Rel (bx X cl) ι1 F1 S1 H1) (hD : H1 D = none) (e : Evo (ι1 ++ [D]) F1 (upd H1 D (.lst [])) ι' F' H') (r : Rel (bx X cl) ι' F' S' H')
    (o : Out (bx X cl) W σ ι1 F1 H1 (RepU (bx X cl)) Q (.ok (.r S1.length) S')) : Q (.ref D) H' :=
  o (.ref D) ι' F' H' ((Evo.newS hD).trans e) r (.r (e.pre _ _ (by rw [← r1.len]; simp)))
theorem lc_endV {σ : L2.St} {Q : VK} (S1 S' : Sto) (ι1 : List Addr) (F1 : Addr → Prop) (H1 : Hp) (ι' : List Addr) (F' : Addr → Prop) (H' : Hp) (D : Addr) (r1 : Rel (bx X cl) ι1 F1 S1 H1) (hD : H1 D = none) (e : Evo (ι1 ++ [D]) F1 (upd H1 D (.lst [])) ι' F' H') (r : Rel (bx X cl) ι' F' S' H')
    (o : Out (bx X cl) W σ ι1 F1 H1 (RepU (bx X cl)) Q (kfV S1 () S')) : Q (.ref D) H' := by
  unfold kfV at o
  split at o
  · rename_i xs qx
    split at o
    · rename_i ds qa
      split at o
      · rename_i hS
        have hDn : ι'[S1.length]? = some D := e.pre _ _ (by rw [← r1.len]; simp)
        obtain ⟨vs, ha, zz⟩ := r.ok _ _ _ hDn qx
        subst hS
        obtain ⟨ι0, a, rfl, r0⟩ := r.pop fun c hc => r1.lt hc
        have hl0 := r0.len
        have ea : a = D := by
          rw [← hl0] at hDn
          simpa using hDn
        subst ea
        rw [allV_some qa] at zz
        have e0 : Evo (ι0 ++ [a]) F' H' (ι0 ++ [a]) (addF F' a) H' := ⟨fun _ _ h => h, fun _ h => .inl h, fun _ _ _ h => h, fun _ _ h => h, fun _ h => h⟩
        have hz : Rep (bx X cl) (addF F' a) H' (.ref a) (.lst ds) := .lst (.inr rfl) ha ((repus_reps zz).mono e0)
        have eb := (Evo.newS (ι := ι1) (F := F1) (o := .lst []) hD).trans e
        refine o (.ref a) ι0 (addF F' a) H' ⟨fun n b h => ?_, fun b h => .inl (eb.sub b h), eb.keep, eb.tups, eb.alive⟩ r0 (.v hz)
        have h2 := eb.pre n b h
        rw [List.getElem?_append_left (by rw [hl0, ← r1.len]; exact (List.getElem?_eq_some_iff.mp h).1)] at h2
        exact h2
      · exact o.elim
    · exact o.elim
  · exact o.elim
variable {elt tg iter : Expr} {ifs : List Expr} {scope : Scope} {own : List (Str × Nat)} {pos spos py : Pos} {mi : MI} {g : MG} {js : List Nat} {t : MT} {me : ME} {i : Nat} {y : Str}
/-- every block of the comprehension -/
abbrev Blk (X : Cx) (scope : Scope) (Pr : Cx → Prop) : Prop := ∀ (s : Shared) (H : Hp) (C : Addr) (cz : List (Str × Addr)) (fp : List Addr), Pr (X.blk s H scope (compEnvC scope cz C X.env) fp)
theorem qe_lcS (hc : X.calm = true) (hN : X.N.Nodup) (hi : QI X cl W tg iter mi) (ok : BlkOk X.N X.env.scope scope own) (hg : Blk X scope fun Y => QG Y cl tg js g) (ht : Blk X scope fun Y => QTs Y cl W0 ifs t) (he : Blk X scope fun Y => QE Y cl W0 elt me) (hj : ∀ j ∈ js, j ∈ own.map (·.2))
    (hs : ∀ x, foldedSetIterable iter X.env x = pure x := by intro _; rfl) : QE X cl W (.ListComp elt [⟨tg, iter, ifs, 0⟩] scope pos) (eLcS (own.map (·.2)) mi g t me) :=
  PE.imp (pe_lc (own := own) (g := liftG (bx X cl) js g) (tt := liftT (bx X cl) W0 t) (te := liftE (bx X cl) W0 me) hc hN hi ok (fun a b c d e => hg a b c d e) (fun a b c d e => ht a b c d e) (fun a b c d e => he a b c d e) hs) fun σ H Q h => lc_read hj h lc_endS
theorem qe_lcV (hc : X.calm = true) (hN : X.N.Nodup) (hi : QI X cl W tg iter mi) (ok : BlkOk X.N X.env.scope scope own) (hg : Blk X scope fun Y => QG Y cl tg js g) (ht : Blk X scope fun Y => QTs Y cl W0 ifs t) (he : Blk X scope fun Y => QE Y cl W0 elt me) (hj : ∀ j ∈ js, j ∈ own.map (·.2))
    (hs : ∀ x, foldedSetIterable iter X.env x = pure x := by intro _; rfl) : QE X cl W (.ListComp elt [⟨tg, iter, ifs, 0⟩] scope pos) (eLcV (own.map (·.2)) mi g t me) :=
  PE.imp (pe_lc (own := own) (g := liftG (bx X cl) js g) (tt := liftT (bx X cl) W0 t) (te := liftE (bx X cl) W0 me) hc hN hi ok (fun a b c d e => hg a b c d e) (fun a b c d e => ht a b c d e) (fun a b c d e => he a b c d e) hs) fun σ H Q h => lc_read hj h lc_endV
theorem asg_lift {m : ME} {D : Ends} {σ : L2.St} {H : Hp} (h : liftS (bx X cl) W (sAsg m (gName i)) D σ H) : liftE (bx X cl) W m σ H (fun x H1 => L2.gName i x σ H1 D.nx) := by
  obtain ⟨ι, F, S, ρ, r, en, o⟩ := h
  exact ⟨ι, F, S, ρ, r, en, (o.st en).mono fun v H1 ⟨ι1, F1, S1, u, e1, r1, z1, o1⟩ =>
    o1 _ ι1 F1 H1 Evo.refl r1 (paired_set (P := RepO (bx X cl) ι1 F1 H1) (x := some v) (y := some u) z1 i (en.mono e1))⟩
theorem qs_setLcS (hc : X.calm = true) (hN : X.N.Nodup) (hy : X.N[i]? = some y) (hyl : X.env.scope.names.lookup y = some .local) (hsw : swapsWith (.ListComp elt [⟨tg, iter, ifs, 0⟩] scope pos) (some (.Name y py)) spos.line X.env = pure true)
    (hi : QI X cl W tg iter mi) (ok : BlkOk X.N X.env.scope scope own) (hg : Blk X scope fun Y => QG Y cl tg js g) (ht : Blk X scope fun Y => QTs Y cl W0 ifs t) (he : Blk X scope fun Y => QE Y cl W0 elt me) (hj : ∀ j ∈ js, j ∈ own.map (·.2))
    (hs : ∀ x, foldedSetIterable iter X.env x = pure x := by intro _; rfl) : QS X cl W (.Assign [.Name y py] (.ListComp elt [⟨tg, iter, ifs, 0⟩] scope pos) spos) (sAsg (eLcS (own.map (·.2)) mi g t me) (gName i)) :=
  PS.imp (ps_setLc (own := own) (g := liftG (bx X cl) js g) (tt := liftT (bx X cl) W0 t) (te := liftE (bx X cl) W0 me) hc hN hy hyl hsw hi ok (fun a b c d e => hg a b c d e) (fun a b c d e => ht a b c d e) (fun a b c d e => he a b c d e) hs) fun D σ H h => lc_read hj (asg_lift h) lc_endS
theorem qs_setLcV (hc : X.calm = true) (hN : X.N.Nodup) (hy : X.N[i]? = some y) (hyl : X.env.scope.names.lookup y = some .local) (hsw : swapsWith (.ListComp elt [⟨tg, iter, ifs, 0⟩] scope pos) (some (.Name y py)) spos.line X.env = pure true)
    (hi : QI X cl W tg iter mi) (ok : BlkOk X.N X.env.scope scope own) (hg : Blk X scope fun Y => QG Y cl tg js g) (ht : Blk X scope fun Y => QTs Y cl W0 ifs t) (he : Blk X scope fun Y => QE Y cl W0 elt me) (hj : ∀ j ∈ js, j ∈ own.map (·.2))
    (hs : ∀ x, foldedSetIterable iter X.env x = pure x := by intro _; rfl) : QS X cl W (.Assign [.Name y py] (.ListComp elt [⟨tg, iter, ifs, 0⟩] scope pos) spos) (sAsg (eLcV (own.map (·.2)) mi g t me) (gName i)) :=
  PS.imp (ps_setLc (own := own) (g := liftG (bx X cl) js g) (tt := liftT (bx X cl) W0 t) (te := liftE (bx X cl) W0 me) hc hN hy hyl hsw hi ok (fun a b c d e => hg a b c d e) (fun a b c d e => ht a b c d e) (fun a b c d e => he a b c d e) hs) fun D σ H h => lc_read hj (asg_lift h) lc_endV
end
end Pu
/-! Pu: dicts whose keys are (nested) tuples. -/
namespace Pu
open PySem L2

def asDic (S : Sto) : U → Option (List (D × U))
  | .v (.dic kvs) => some (kvs.map fun p => (p.1, .v p.2))
  | .r n => match S[n]? with
    | some (.dic kvs) => some kvs
    | _ => none
  | _ => none
noncomputable def dget (kvs : List (D × U)) (k : D) : Option U := (kvs.find? fun p => decide (p.1 = k)).map (·.2)
noncomputable def dhas (kvs : List (D × U)) (k : D) : Bool := (dget kvs k).isSome
noncomputable def dput (kvs : List (D × U)) (k : D) (w : U) : List (D × U) := if dhas kvs k = true then kvs.map fun p => if p.1 = k then (p.1, w) else p else kvs ++ [(k, w)]
theorem repK_paired {B : Bx} {ι : List Addr} {F : Addr → Prop} {H : Hp} : ∀ {es : List Ent} {kvs : List (D × D)}, RepK B F H es kvs → RepKU B ι F H es (kvs.map fun p => (p.1, U.v p.2))
  | _, _, .nil => .nil
  | _, _, .cons a b c d e f => .cons ⟨a, b, c, _, d, .v e⟩ (repK_paired f)
theorem asDic_ok {B : Bx} {ι : List Addr} {F : Addr → Prop} {H : Hp} {S : Sto} {v : V} {u : U} {kvs : List (D × U)} (r : Rel B ι F S H) (z : RepU B ι F H v u) (e : asDic S u = some kvs) :
    ∃ a es, v = .ref a ∧ H a = some (dicO B.prog B.w a es) ∧ es.length ≤ sizeLine ∧ RepKU B ι F H es kvs := by
  cases z with
  | v z =>
    cases z with
    | dic f h hz rs => cases e; exact ⟨_, _, rfl, h, hz, repK_paired rs⟩
    | _ => cases e
  | @r n a h =>
    unfold asDic at e
    simp only at e
    cases q : S[n]? with
    | none => rw [q] at e; cases e
    | some c =>
      rw [q] at e
      have ok := r.ok n a c h q
      cases c with
      | dic ys =>
        cases e
        obtain ⟨es, h1, h2, h3⟩ := ok
        exact ⟨a, es, rfl, h1, h2, h3⟩
      | _ => cases e
section
variable {X : Cx} {cl : Nat → Addr} {W : WX} {pins : List (Addr × Obj)} {σ : L2.St} {ι : List Addr} {F : Addr → Prop} {H : Hp} {s : Shared} {a b : Addr} {es : List Ent} {kvs : List (D × U)} {k : D} {nk : NestedKey} {w : U}
theorem keys_is (I : Inv X pins σ H s) : ∀ {es : List Ent} {kvs : List (D × U)}, RepKU (bx X cl) ι F H es kvs → ∀ x ∈ es, (nestedKind X.prog X.w).is s.heap x.1 x.2.1
  | _, _, .nil, x, hx => by cases hx
  | _, _, .cons ⟨h1, h2, h3, _⟩ t, x, hx => by
    rcases List.mem_cons.mp hx with e | e
    · subst e
      exact ⟨rep_key (u := .ref _) I h2 rfl h1, h3⟩
    · exact keys_is I t x e
theorem dic_h (I : Inv X pins σ H s) (h : H a = some (dicO X.prog X.w a es)) (rk : RepKU (bx X cl) ι F H es kvs) : s.heap.DictOfH (nestedKind X.prog X.w) a es ∧ (a == sysModules) = false := by
  obtain ⟨⟨o, es', ep, h1, h2, h3, h4, h5, h6⟩, _, _⟩ := I.hok a _ h
  exact ⟨⟨o, es', ep, h1, h2, h3, h4, keys_is I rk, h5⟩, h6⟩
theorem atKey_cons (x : Ent) (xs : List Ent) (nk : NestedKey) : atKey (x :: xs) nk = if x.1 = nk then some x.2 else atKey xs nk := by
  unfold atKey
  rw [List.find?_cons]
  by_cases h : x.1 = nk
  · rw [decide_eq_true h, if_pos h]; rfl
  · rw [decide_eq_false h, if_neg h]
theorem dget_cons (p : D × U) (kvs : List (D × U)) (k : D) : dget (p :: kvs) k = if p.1 = k then some p.2 else dget kvs k := by
  unfold dget
  rw [List.find?_cons]
  by_cases h : p.1 = k
  · rw [decide_eq_true h, if_pos h]; rfl
  · rw [decide_eq_false h, if_neg h]
@[simp] theorem dget_nil (k : D) : dget [] k = none := rfl
theorem key_iff {p k : D} {x nk : NestedKey} (h1 : nkey p = some x) (h2 : nkey k = some nk) : x = nk ↔ p = k := ⟨fun e => nkey_inj h1 (by rw [h2, e]), fun e => by subst e; rw [h1] at h2; cases h2; rfl⟩
theorem at_get (hk : nkey k = some nk) : ∀ {es : List Ent} {kvs : List (D × U)}, RepKU (bx X cl) ι F H es kvs → (∃ b u v w, atKey es nk = some (b, u) ∧ dget kvs k = some w ∧ RelV v u ∧ RepU (bx X cl) ι F H v w) ∨ (atKey es nk = none ∧ dget kvs k = none)
  | _, _, .nil => .inr ⟨rfl, rfl⟩
  | _, _, .cons (a := x) (b := p) ⟨h1, h2, h3, v, h4, h5⟩ t => by
    rw [atKey_cons, dget_cons]
    by_cases e : p.1 = k
    · rw [if_pos e, if_pos ((key_iff h1 hk).mpr e)]
      exact .inl ⟨_, _, v, _, rfl, rfl, h4, h5⟩
    · rw [if_neg e, if_neg (fun z => e ((key_iff h1 hk).mp z))]
      exact at_get hk t
theorem put_map (hk : nkey k = some nk) {v : V} {u : Value} (hv : RelV v u) (zv : RepU (bx X cl) ι F H v w) : ∀ {es : List Ent} {kvs : List (D × U)}, RepKU (bx X cl) ι F H es kvs → RepKU (bx X cl) ι F H (es.map (putAt nk u)) (kvs.map fun p => if p.1 = k then (p.1, w) else p)
  | _, _, .nil => .nil
  | _, _, .cons (a := x) (b := p) ⟨h1, h2, h3, v', h4, h5⟩ t => by
    refine .cons ?_ (put_map hk hv zv t)
    unfold putAt
    dsimp only
    by_cases e : p.1 = k
    · rw [if_pos e, if_pos ((key_iff h1 hk).mpr e)]
      exact ⟨h1, h2, h3, v, hv, zv⟩
    · rw [if_neg e, if_neg (fun z => e ((key_iff h1 hk).mp z))]
      exact ⟨h1, h2, h3, v', h4, h5⟩
theorem put_ok (hk : nkey k = some nk) (hd : nk.depth ≤ 8) {v : V} {u : Value} (hv : RelV v u) (zv : RepU (bx X cl) ι F H v w) (zk : Rep (bx X cl) F H (.ref b) k) (rk : RepKU (bx X cl) ι F H es kvs) : RepKU (bx X cl) ι F H (storedH es nk b u) (dput kvs k w) := by
  unfold storedH dput dhas
  rcases at_get hk rk with ⟨b', u', v', w', h1, h2, _⟩ | ⟨h1, h2⟩
  · rw [h1, h2]
    exact put_map hk hv zv rk
  · rw [h1, h2]
    exact paired_append rk (.cons ⟨hk, zk, hd, v, hv, zv⟩ .nil)
theorem stored_len (es : List Ent) (nk : NestedKey) (b : Addr) (u : Value) : (storedH es nk b u).length ≤ es.length + 1 := by
  unfold storedH
  split
  · simp
  · simp
/-- the room that a key asks -/
theorem kroom {A : Around} (hu : A.units + 20 < cLine) (P : Program) (w : World) : (nestedKind P w).room A.in1 := by
  show A.units + 1 + 8 < cLine
  omega
/-! ### {} -/
def fDicS : FA := fun us S => match us with
  | [] => some (.r S.length, S ++ [.dic []])
  | _ => none
theorem raw_keep {P : Program} {w : World} {a : Addr} {es : List Ent} : ∀ h1 h2 : Heap, DRaw P w a es h1 → (∀ o, h1.get? a = some o → h2.get? a = some o) → DRaw P w a es h2 := fun h1 h2 ⟨o, es', ep, e1, r⟩ k => ⟨o, es', ep, k o e1, r⟩
theorem qe_dict {pos : Pos} : QE X cl W (.Dict [] [] pos) (eCB fDicS aNil) := by
  refine ⟨fun pins s σ H Q I ⟨ι, F, S, ρ, r, en, o⟩ => ?_⟩
  have hf : H s.heap.objs.size = none := I.hok.fresh (Nat.le_refl _)
  have raw : DRaw X.prog X.w s.heap.objs.size [] (s.heap.push { cls := .type "dict", data := .dict #[] }) :=
    ⟨_, #[], 0, Heap.get?_push_size _ rfl, ⟨rfl, rfl, rfl⟩, rfl, rfl, List.nodup_nil, beq_eq_false_iff_ne.mpr (Ne.symm (Nat.ne_of_lt I.big))⟩
  refine wpAny_Dict_empty ⟨.ref s.heap.objs.size, upd H s.heap.objs.size (dicO X.prog X.w s.heap.objs.size []), I.laid (t' := s.toks) (fun _ _ q => Heap.get?_push_of_some _ q) (Nat.le_refl _) ?_, rfl, ?_⟩
  · exact ⟨raw, ⟨_, Heap.get?_push_size _ rfl⟩, raw_keep⟩
  · have e2 : Evo ι F H (ι ++ [s.heap.objs.size]) F (upd H s.heap.objs.size (dicO X.prog X.w s.heap.objs.size [])) := Evo.newS hf
    have o2 := Out.fin (show Out (bx X cl) W σ ι F H (RepU (bx X cl)) Q (ofO (fDicS [] S)) from o)
    exact o2.go e2 (r.newS hf nofun ⟨[], upd_same, Nat.zero_le _, .nil⟩) (.r (by rw [← r.len]; simp))
/-! ### k in d -/
noncomputable def fInX (neg : Bool) : F2 := fun x y S => match asDic S y with
  | some kvs => match x with
    | .v (.tup ks) => if isKey (.tup ks) = true then some (.v (.bl (cond neg (!dhas kvs (.tup ks)) (dhas kvs (.tup ks)))), S) else none
    | _ => none
  | none => fIn neg x y S
theorem repu_tup {B : Bx} {v : V} {ks : List D} (z : RepU B ι F H v (.v (.tup ks))) : ∃ b, v = .ref b ∧ Rep B F H (.ref b) (.tup ks) := by
  cases z with
  | v z => cases z with
    | tup h r => exact ⟨_, rfl, .tup h r⟩
theorem Inv.toks {X : Cx} {pins : List (Addr × Obj)} {σ : L2.St} {H : Hp} {s : Shared} (I : Inv X pins σ H s) (t : Nat) : Inv X pins σ H { s with toks := t } := I.tok t
theorem oq_inX (hu : X.A.units + 20 < cLine) : OpR X (compareOp .In) (liftOp (bx X cl) (fInX false)) := by
  intro pins s σ H x y v u Q I rx ry ⟨ι, F, S, a, b, rl, za, zb, fi⟩
  unfold fInX at fi
  cases q : asDic S b with
  | none => rw [q] at fi; exact oq_in hu pins s σ H x y v u Q I rx ry ⟨ι, F, S, a, b, rl, za, zb, fi⟩
  | some kvs =>
    rw [q] at fi
    simp only at fi
    split at fi
    · rename_i ks
      split at fi
      · rename_i hk
        obtain ⟨nk, e, d⟩ := nkey_of hk
        obtain ⟨kb, rfl, zk⟩ := repu_tup za
        obtain ⟨p, es, rfl, hp, hz, rk⟩ := asDic_ok rl zb q
        obtain ⟨hd, hs⟩ := dic_h I hp rk
        cases rx
        cases ry
        refine in_keyed (kroom hu _ _) ⟨rep_key (u := .ref kb) I zk rfl e, d⟩ hs ⟨es, hd, rfl⟩ ⟨.bl _, H, I.tok _, rfl, ?_⟩
        rw [valueAt_pairsH, Option.isSome_map]
        have : (atKey es nk).isSome = dhas kvs (.tup ks) := by
          unfold dhas
          rcases at_get e rk with ⟨_, _, _, _, h1, h2, _⟩ | ⟨h1, h2⟩ <;> rw [h1, h2] <;> rfl
        rw [this]
        exact fi.val rl (.v (.bl _))
      · exact fi.no
    · exact fi.no
theorem oq_notinX (hu : X.A.units + 20 < cLine) : OpR X (compareOp .NotIn) (liftOp (bx X cl) (fInX true)) := by
  intro pins s σ H x y v u Q I rx ry ⟨ι, F, S, a, b, rl, za, zb, fi⟩
  unfold fInX at fi
  cases q : asDic S b with
  | none => rw [q] at fi; exact oq_notin hu pins s σ H x y v u Q I rx ry ⟨ι, F, S, a, b, rl, za, zb, fi⟩
  | some kvs =>
    rw [q] at fi
    simp only at fi
    split at fi
    · rename_i ks
      split at fi
      · rename_i hk
        obtain ⟨nk, e, d⟩ := nkey_of hk
        obtain ⟨kb, rfl, zk⟩ := repu_tup za
        obtain ⟨p, es, rfl, hp, hz, rk⟩ := asDic_ok rl zb q
        obtain ⟨hd, hs⟩ := dic_h I hp rk
        cases rx
        cases ry
        refine notIn_keyed (kroom hu _ _) ⟨rep_key (u := .ref kb) I zk rfl e, d⟩ hs ⟨es, hd, rfl⟩ ⟨.bl _, H, I.tok _, rfl, ?_⟩
        rw [valueAt_pairsH, Option.isSome_map]
        have : (atKey es nk).isSome = dhas kvs (.tup ks) := by
          unfold dhas
          rcases at_get e rk with ⟨_, _, _, _, h1, h2, _⟩ | ⟨h1, h2⟩ <;> rw [h1, h2] <;> rfl
        rw [this]
        exact fi.val rl (.v (.bl _))
      · exact fi.no
    · exact fi.no
/-! ### d[k], xs[i] -/
noncomputable def fIxX : F2 := fun x y S => match asDic S x with
  | some kvs => match y with
    | .v (.tup ks) => if isKey (.tup ks) = true then (dget kvs (.tup ks)).map fun w => (w, S) else none
    | _ => none
  | none => fIx x y S
theorem xq_ixX (hu : X.A.units + 20 < cLine) : IxR X (liftOp (bx X cl) fIxX) := by
  intro value slice pins s σ H x y v u Q I rx ry ⟨ι, F, S, a, b, rl, za, zb, fi⟩ hsl
  unfold fIxX at fi
  cases q : asDic S a with
  | none => rw [q] at fi; exact xq_ix value slice pins s σ H x y v u Q I rx ry ⟨ι, F, S, a, b, rl, za, zb, fi⟩ hsl
  | some kvs =>
    rw [q] at fi
    simp only at fi
    split at fi
    · rename_i ks
      split at fi
      · rename_i hk
        obtain ⟨nk, e, d⟩ := nkey_of hk
        obtain ⟨kb, rfl, zk⟩ := repu_tup zb
        obtain ⟨p, es, rfl, hp, hz, rk⟩ := asDic_ok rl za q
        obtain ⟨hd, hs⟩ := dic_h I hp rk
        cases rx
        cases ry
        rcases at_get e rk with ⟨b', u', v', w', h1, h2, h3, h4⟩ | ⟨h1, h2⟩
        · rw [h2] at fi
          refine PyProof.Rows.tail_any hd.typeIs PySem.F.slot_dict_getitem.lookup (getItem_keyed (kroom hu _ _) ⟨rep_key (u := .ref kb) I zk rfl e, d⟩ ⟨es, hd, rfl⟩ (v := u') (by rw [valueAt_pairsH, h1]; rfl) ⟨v', H, I.tok _, h3, fi.val rl h4⟩) hsl
        · rw [h2] at fi; exact fi.no
      · exact fi.no
    · exact fi.no
/-! ### d[k] = v, xs[i] = v -/
noncomputable def fSet : U → U → U → Sto → Option Sto := fun o i v S => match o with
  | .r n => match S[n]? with
    | some (.dic kvs) => (match i with
      | .v (.tup ks) => if isKey (.tup ks) = true ∧ kvs.length < 100000 then some (S.set n (.dic (dput kvs (.tup ks) v))) else none
      | _ => none)
    | some (.lst xs) => (match i with
      | .v (.int j) => (ixN xs.length j).map fun j => S.set n (.lst (xs.set j v))
      | _ => none)
    | _ => none
  | _ => none
noncomputable def sSet (mo mi mv : ME) : MS := fun ρ S => (mv ρ S).st ρ fun v S1 => (mo ρ S1).st ρ fun o S2 => (mi ρ S2).st ρ fun i S3 => match fSet o i v S3 with
  | some S4 => .nx ρ S4
  | none => .er
theorem kput_len (kvs : List (D × U)) (k : D) (w : U) : (dput kvs k w).length ≤ kvs.length + 1 := by
  unfold dput
  split
  · simp
  · simp
def liftSet (B : Bx) (f : U → U → U → Sto → Option Sto) : TSet := fun o i v H Q => ∃ ι F S a b c S', Rel B ι F S H ∧ RepU B ι F H o a ∧ RepU B ι F H i b ∧ RepU B ι F H v c ∧ f a b c S = some S' ∧ ∀ H', Evo ι F H ι F H' → Rel B ι F S' H' → Q H'
theorem pq_set (hu : X.A.units + 20 < cLine) : PSet X (liftSet (bx X cl) fSet) := by
  intro pins s σ H ov iv vv ou iu vu Q I ro ri rv ⟨ι, F, S, o, i, v, S', rl, zo, zi, zv, e, h⟩
  unfold fSet at e
  cases zo with
  | v _ => cases e
  | @r n a hn =>
    simp only at e
    cases q : S[n]? with
    | none => rw [q] at e; cases e
    | some c =>
      rw [q] at e
      cases c with
      | dic kvs =>
        simp only at e
        split at e
        · rename_i ks
          split at e
          · rename_i hk
            cases e
            cases ro
            obtain ⟨nk, ek, d⟩ := nkey_of hk.1
            obtain ⟨kb, rfl, zk⟩ := repu_tup zi
            cases ri
            obtain ⟨es, ha, hz, rk⟩ := rl.ok n a _ hn q
            obtain ⟨hd, hs⟩ := dic_h I ha rk
            have hl : es.length < 100000 := by rw [paired_len rk]; exact hk.2
            refine wpAny_setItem_heap (hsz := sz (by omega)) (kroom hu _ _) ⟨rep_key (u := .ref kb) I zk rfl ek, d⟩ hd fun h' hm' sb => ?_
            have nf := rl.nf n a _ hn q rfl
            have e0 : Evo ι F H ι F (upd H a (dicO X.prog X.w a (storedH es nk kb vu))) := by
              refine ⟨fun _ _ h => h, fun _ h => h, fun b u f h => ?_, fun b xs h => ?_, fun b h => ?_⟩
              · rw [upd_ne (fun z : b = a => nf (by rw [← z]; exact f))]; exact h
              · rw [upd_ne (fun z : b = a => by rw [z, ha] at h; cases h)]; exact h
              · by_cases hb : b = a
                · rw [hb, upd_same]; simp
                · rw [upd_ne hb]; exact h
            have rk' := put_ok (b := kb) ek d rv zv zk rk
            obtain ⟨r2, e2⟩ := rl.write (o := dicO X.prog X.w a (storedH es nk kb vu)) (c' := .dic (dput kvs (.tup ks) v)) hn q rfl (fun xs z => by rw [ha] at z; cases z) nofun
              ⟨storedH es nk kb vu, upd_same, Nat.le_trans (stored_len _ _ _ _) (sz (by omega)), rk'.mono e0⟩
            obtain ⟨o', es', ep', g1, g2, g3, g4, g5, g6⟩ := hm'
            refine ⟨_, I.write (x := a) (e := a) (o := dicO X.prog X.w a (storedH es nk kb vu)) (by rw [ha]; trivial) (.inl rfl) (fun b u hb eb => (sb.2 b hb).trans eb) ⟨o', g1⟩ ?_, h _ e2 r2⟩
            exact ⟨⟨o', es', ep', g1, g2, g3, g4, g6, hs⟩, ⟨o', g1⟩, raw_keep⟩
          · cases e
        · cases e
      | lst xs =>
        simp only at e
        split at e
        · rename_i j
          obtain ⟨j', ej, rfl⟩ := Option.map_eq_some_iff.mp e
          obtain ⟨vs, ha, zz⟩ := rl.ok n a _ hn q
          obtain ⟨r2, e2⟩ := rl.setL hn q ha (paired_set zv j' zz)
          cases zi with
          | v zi =>
            cases zi
            exact set_list pins s σ H _ _ vv ou iu vu Q I ro ri rv ⟨a, vs, j, j', rfl, rfl, ha, by rw [paired_len zz]; exact ej, h _ e2 r2⟩
        · cases e
      | _ => cases e
theorem qs_sub {o i value : Expr} {mo mi mv : ME} {pos' pos : Pos} (hu : X.A.units + 20 < cLine) (ho : QE X cl W o mo) (hi : QE X cl W i mi) (hv : QE X cl W value mv) (hs : swapsWith value (some (.Subscript o i pos')) pos.line X.env = pure false := by rfl) :
    QS X cl W (.Assign [.Subscript o i pos'] value pos) (sSet mo mi mv) := by
  refine ⟨fun pins s σ H D I ⟨ι, F, S, ρ, r, en, ot⟩ => ?_⟩
  refine wpAny_Assign_Subscript (thn (hv.run pins s σ H _ I ⟨ι, F, S, ρ, r, en, ot.st en⟩) fun vu s1 ⟨v, H1, I1, rv, ι1, F1, S1, v', e1, r1, z1, o1⟩ => ?_) hs
  refine thn (ho.run pins s1 σ H1 _ I1 ⟨ι1, F1, S1, ρ, r1, en.mono e1, o1.st (en.mono e1)⟩) fun ou s2 ⟨ov, H2, I2, ro, ι2, F2, S2, o', e2, r2, z2, o2⟩ => ?_
  refine thn (hi.run pins s2 σ H2 _ I2 ⟨ι2, F2, S2, ρ, r2, (en.mono e1).mono e2, o2.st ((en.mono e1).mono e2)⟩) fun iu s3 ⟨iv, H3, I3, ri, ι3, F3, S3, i', e3, r3, z3, o3⟩ => ?_
  cases q : fSet o' i' v' S3 with
  | none => rw [q] at o3; exact o3.elim
  | some S4 =>
    rw [q] at o3
    refine thn (pq_set hu pins s3 σ H3 ov iv v ou iu vu (fun H' => D.nx σ H') I3 ro ri rv ⟨ι3, F3, S3, o', i', v', S4, r3, z2.mono e3, z3, (z1.mono e2).mono e3, q, fun H' e4 r4 => o3 σ ι3 F3 H' e4 r4 ((((en.mono e1).mono e2).mono e3).mono e4)⟩) fun _ s4 ⟨H4, I4, q4⟩ => ?_
    exact ⟨σ, H4, I4, q4⟩
/-! ### d.get(k, x) -/
def isDc (S : Sto) (x : U) : Bool := (asDic S x).isSome
noncomputable def fGet : FM := fun o us S => match asDic S o, us with
  | some kvs, [.v (.tup ks), w] => if isKey (.tup ks) = true then some ((dget kvs (.tup ks)).getD w, S) else none
  | some kvs, [.v (.tup ks)] => if isKey (.tup ks) = true then some ((dget kvs (.tup ks)).getD (.v .non), S) else none
  | _, _ => none
theorem mq_get (hu : X.A.units + 20 < cLine) : MtR X "dict.get" (liftM (bx X cl) fGet) := by
  intro pins s σ H x xs v us Q I rx rxs ⟨ι, F, S, a, as, rl, za, zs, fi⟩
  unfold fGet at fi
  split at fi
  · rename_i kvs ks w q
    split at fi
    · rename_i hk
      obtain ⟨nk, ek, d⟩ := nkey_of hk
      obtain ⟨p, es, rfl, hp, hz, rk⟩ := asDic_ok rl za q
      obtain ⟨hd, hs⟩ := dic_h I hp rk
      cases rx
      cases zs with
      | cons z1 zs =>
        cases zs with
        | cons z2 zs =>
          cases zs
          cases rxs with
          | cons r1 rxs =>
            cases rxs with
            | cons r2 rxs =>
              cases rxs
              obtain ⟨kb, rfl, zk⟩ := repu_tup z1
              cases r1
              rcases at_get ek rk with ⟨b', u', v', w', h1, h2, h3, h4⟩ | ⟨h1, h2⟩
              · rw [h2] at fi
                exact getOr_keyed (kroom hu _ _) ⟨rep_key (u := .ref kb) I zk rfl ek, d⟩ hs ⟨es, hd, rfl⟩ ⟨v', H, I.tok _, by rw [valueAt_pairsH, h1]; exact h3, fi.val rl h4⟩
              · rw [h2] at fi
                exact getOr_keyed (kroom hu _ _) ⟨rep_key (u := .ref kb) I zk rfl ek, d⟩ hs ⟨es, hd, rfl⟩ ⟨_, H, I.tok _, by rw [valueAt_pairsH, h1]; exact r2, fi.val rl z2⟩
    · exact fi.no
  · rename_i kvs ks q
    split at fi
    · rename_i hk
      obtain ⟨nk, ek, d⟩ := nkey_of hk
      obtain ⟨p, es, rfl, hp, hz, rk⟩ := asDic_ok rl za q
      obtain ⟨hd, hs⟩ := dic_h I hp rk
      cases rx
      cases zs with
      | cons z1 zs =>
        cases zs
        cases rxs with
        | cons r1 rxs =>
          cases rxs
          obtain ⟨kb, rfl, zk⟩ := repu_tup z1
          cases r1
          rcases at_get ek rk with ⟨b', u', v', w', h1, h2, h3, h4⟩ | ⟨h1, h2⟩
          · rw [h2] at fi
            exact get_keyed (kroom hu _ _) ⟨rep_key (u := .ref kb) I zk rfl ek, d⟩ hs ⟨es, hd, rfl⟩ ⟨v', H, I.tok _, by rw [valueAt_pairsH, h1]; exact h3, fi.val rl h4⟩
          · rw [h2] at fi
            exact get_keyed (kroom hu _ _) ⟨rep_key (u := .ref kb) I zk rfl ek, d⟩ hs ⟨es, hd, rfl⟩ ⟨.non, H, I.tok _, by rw [valueAt_pairsH, h1]; rfl, fi.val rl (.v .non)⟩
    · exact fi.no
  · exact fi.no
/-- a dict's method -/
theorem qe_dm {o e : Expr} {es : List Expr} {mo : ME} {mA : MA} {f : FM} {name : Str} {id : String} {apos cpos : Pos} (slot : Slot "dict" name id) (hty : typeOf (.builtin id) = pure (.type "method_descriptor")) (hm : MtR X id (liftM (bx X cl) f)) (ho : QE X cl W o mo) (ha : QA X cl W (e :: es) mA)
    (hbase : attributeBase o name X.env (eval o X.env) = eval o X.env := by rfl)
    (hfew : ((backTo cpos (starEach (e :: es) X.env)).all (fun x => !x.1) && (backToKw cpos (keywordEach [] X.env)).all (fun x => x.1.isSome)
      && decide ((e :: es).length + ([] : List Keyword).length + (if ([] : List Keyword).isEmpty then 0 else 1) < 30)) = true := by rfl)
    (hline : (apos.endLine == cpos.line) = true := by rfl) (hs : starEach (e :: es) X.env = (false, eval e X.env) :: starEach es X.env := by rfl) (hplain : (backTo cpos (starEach es X.env)).any (·.1) = false := by rfl) :
    QE X cl W (.Call (.Attribute o name apos) (e :: es) [] cpos) (eMtT isDc f mo mA) := by
  refine ⟨fun pins s σ H Q I ⟨ι, F, S, ρ, r, en, ot⟩ => ?_⟩
  refine wpAny_Call_method hbase hfew hline PySem.F.plainAttrs_dict slot hty (thn (ho.run pins s σ H _ I ⟨ι, F, S, ρ, r, en, ot.bind⟩) fun u s1 ⟨x, H1, I1, rx, ι1, F1, S1, x', e1, r1, z1, o1⟩ => ?_)
  split at o1
  · rename_i hc
    unfold isDc at hc
    cases q : asDic S1 x' with
    | none => rw [q] at hc; cases hc
    | some kvs =>
      obtain ⟨p, ens, rfl, hp, hz, rk⟩ := asDic_ok r1 z1 q
      obtain ⟨hd, hsm⟩ := dic_h I1 hp rk
      obtain rfl : u = Value.ref p := rx
      refine ⟨hd.typeIs, fun b eb => ?_, ?_⟩
      · cases eb
        obtain ⟨ob, _, _, g1, g2, _⟩ := hd
        exact ⟨ob, g1, g2.2.1⟩
      · have hA := PA.run ha cpos pins s1 σ H1 _ I1 ⟨ι1, F1, S1, ρ, r1, en.mono e1, o1.bind⟩
        rw [hs] at hA ⊢
        refine Calls.callWith_builtin (by show (false || (backTo cpos (starEach es X.env)).any (·.1)) = false; rw [hplain] <;> rfl) (Calls.evalArgs_plain ?_)
        exact thn hA fun us s2 ⟨vs, H2, I2, r2, ι2, F2, S2, y', e2, rr2, z2, o2⟩ => hm pins s2 σ H2 (.ref p) vs (.ref p) us Q I2 rfl r2 ⟨ι2, F2, S2, x', y', rr2, z1.mono e2, z2, o2.fin⟩
  · exact o1.elim
end
end Pu
/-! Pu: classes made, methods, instances called, isinstance. -/
namespace Pu
open PySem L2
open PyProof.Rows hiding St

/-- the wish does not look at the slots -/
def WI (W : WX) : Prop := ∀ cls d σ σ' H, W cls d σ H → W cls d σ' H
theorem wi_d (E : XK) : WI (Wd E) := fun _ _ _ _ _ h => h
theorem wi_0 : WI W0 := fun _ _ _ _ _ h => h
abbrev E1 (W : WX) : XK := fun cls d H => W cls d [] H
theorem passW {X : Cx} {W : WX} (tk : Takes X W) (wi : WI W) : Passes (L2.CX X.prog X.w) X (E1 W) := fun pins σ H s e s' I c => passes_call tk (fun cls d σ H h => wi _ _ _ _ _ h) pins σ H s e s' I c
section
variable {B : Bx} {W : WX} {σ : L2.St} {ι : List Addr} {F : Addr → Prop} {H : Hp}
theorem out_e {β α : Type} {rep : List Addr → (Addr → Prop) → Hp → β → α → Prop} {Q : β → Hp → Prop} {r : R α} (wi : WI W) (h : Out B W σ ι F H rep Q r) : Out B (fun cls d _ H' => E1 W cls d H') [] ι F H rep Q r := by
  cases r with
  | ok a S' => exact h
  | ex c fs S' => exact fun dx vs ι' F' H' e r hx z => wi _ _ _ _ _ (h dx vs ι' F' H' e r hx z)
  | er => exact h
end
/-! ### a new instance -/
/-- C(..): the new instance is a cell; args: how the arguments come to the parameters -/
def eMake (c n : Nat) (mf : List U → Sto → R U) (args : List U) (S : Sto) : R U :=
  if args.length + 1 = n then (mf (.r S.length :: args) (S ++ [.ins c []])).bind fun u S1 => match u with
    | .v .non => .ok (.r S.length) S1
    | _ => .er
  else .er
section
variable {X : Cx} {cl : Nat → Addr} {W : WX} {k n : Nat} {f C : Addr} {fd : FuncData} {ps ks : List Str} {mf : List U → Sto → R U} {x m : Str} {p pos apos : Pos} {e o : Expr} {es : List Expr} {mo : ME} {mA mK : MA} {kws : List Keyword}
theorem make_sp {c : Nat} {σ : L2.St} {ι : List Addr} {F : Addr → Prop} {H : Hp} {S : Sto} {Q : VK} {vs : List V} {us : List U} (wi : WI W) (r : Rel (bx X cl) ι F S H) (z : RepUs (bx X cl) ι F H vs us)
    (o : Out (bx X cl) W σ ι F H (RepU (bx X cl)) Q (eMake c n mf us S)) : ∀ x dx, H x = none → H dx = none → dx ≠ x → SpM (bx X cl) n mf (.ref x :: vs) (upd (upd H dx (.own x)) x (.ins (cl c) dx [])) (fun v H2 => v = .non ∧ Q (.ref x) H2) (E1 W) := by
  intro x dx hx hdx ne
  unfold eMake at o
  split at o
  · rename_i hl
    have hx' : (upd H dx (.own x)) x = none := by rw [upd_ne (Ne.symm ne)]; exact hx
    have e1 : Evo ι F H ι F (upd H dx (.own x)) := Evo.new hdx
    have e2 : Evo ι F (upd H dx (.own x)) (ι ++ [x]) F (upd (upd H dx (.own x)) x (.ins (cl c) dx [])) := Evo.newS hx'
    have r2 : Rel (bx X cl) (ι ++ [x]) F (S ++ [.ins c []]) (upd (upd H dx (.own x)) x (.ins (cl c) dx [])) :=
      (r.new hdx).newS hx' nofun ⟨dx, [], upd_same, by rw [upd_ne ne, upd_same], fun z => r.fthere dx z hdx, .nil⟩
    refine ⟨by rw [List.length_cons, paired_len z]; exact hl, ι ++ [x], F, S ++ [.ins c []], .r S.length :: us, r2, .cons (.r (by rw [← r.len]; simp)) ((z.mono e1).mono e2), ?_⟩
    have o2 := Out.shift (e1.trans e2) (out_e wi o)
    refine (o2.bind).mono fun v H3 ⟨ι3, F3, S3, u, e3, r3, z3, o3⟩ => ?_
    split at o3
    · have hv : v = .non := (repu_non z3).mpr rfl
      exact ⟨hv, o3 _ ι3 F3 H3 Evo.refl r3 (.r (e3.pre _ _ (by rw [← r.len]; simp)))⟩
    · exact o3.elim
  · exact o.elim
/-- C(e, ..), the defaults dds fill up -/
def eMk (c n : Nat) (mf : List U → Sto → R U) (dds : List U) (a : MA) : ME := fun ρ S => (a ρ S).bind fun us S1 => eMake c n mf (us ++ dds) S1
theorem qe_make {c : Nat} {dvs : List V} {ds : List Value} {dds : List D} (M : Mk X.K (cl c) f) (Fn : FnOk X.prog X.w X.K X.mg X.base (L2.CX X.prog X.w) k f fd ps (SpM (bx X cl) n mf)) (tk : Takes X W) (wi : WI W) (hr : Room (k + 1) X.A) (hg : Gl X x) (hm : X.mg x = some (.ref (cl c))) (hb : Binds X.K fd ps ds) (hd : Vals dvs ds) (hD : Dfl cl dvs dds)
    (ha : QA X cl W (e :: es) mA) (hdb : (x == ("__debug__" : Str)) = false := by decide) (he : starEach (e :: es) X.env = (false, eval e X.env) :: starEach es X.env := by rfl) (hpl : (backTo pos (starEach es X.env)).any (·.1) = false := by rfl) :
    QE X cl W (.Call (.Name x p) (e :: es) [] pos) (eMk c n mf (dds.map U.v) mA) :=
  PE.imp (pe_make M Fn hr hg hm hb hd (passW tk wi) ha hdb he hpl) fun σ H Q ⟨ι, F, S, ρ, r, en, o⟩ => ⟨ι, F, S, ρ, r, en, o.bind.mono fun vs H1 ⟨ι1, F1, S1, us, e1, r1, z1, o1⟩ =>
    fun x dx hx hdx ne => make_sp wi r1 (paired_append z1 (reps_u (hD _ F1 H1 rfl))) o1 x dx hx hdx ne⟩
/-- keywords -/
def QK (X : Cx) (cl : Nat → Addr) (W : WX) (kws : List Keyword) (m : MA) : Prop := PK X kws (liftA (bx X cl) W m)
theorem PK.imp {X : Cx} {e : List Keyword} {t t' : TA} (h : PK X e t) (k : ∀ σ H Q, t' σ H Q → t σ H Q) : PK X e t' := ⟨fun pos pins s σ H Q I hq => h.run pos pins s σ H Q I (k σ H Q hq)⟩
theorem qk_nil : QK X cl W [] aNil := PK.imp pk_nil fun σ H Q ⟨ι, F, S, ρ, r, en, o⟩ => o [] ι F H Evo.refl r .nil
theorem qk_cons {nm : Option Str} {kpos : Pos} (ha : QE X cl W e mo) (hr : QK X cl W kws mA) : QK X cl W (⟨nm, e, kpos⟩ :: kws) (aCons mo mA) :=
  PK.imp (pk_cons ha hr) fun σ H Q ⟨ι, F, S, ρ, r, en, o⟩ => ⟨ι, F, S, ρ, r, en, o.bind.mono fun x H1 ⟨ι1, F1, S1, x', e1, r1, z1, o1⟩ =>
    ⟨ι1, F1, S1, ρ, r1, en.mono e1, o1.bind.mono fun y H2 ⟨ι2, F2, S2, y', e2, r2, z2, o2⟩ => o2 _ ι2 F2 H2 Evo.refl r2 (.cons (z1.mono e2) z2)⟩⟩
/-- how the values come to the parameters: gV on V's, gU on U's -/
def GRel (gV : List V → List V → List V) (gU : List U → List U → List U) : Prop := ∀ (B : Bx) (ι : List Addr) (F : Addr → Prop) (H : Hp) (vs zs : List V) (us ws : List U), RepUs B ι F H vs us → RepUs B ι F H zs ws → RepUs B ι F H (gV vs zs) (gU us ws)
def eMkK (c n np nk : Nat) (mf : List U → Sto → R U) (gU : List U → List U → List U) (a b : MA) : ME := fun ρ S => (a ρ S).bind fun us S1 => (b ρ S1).bind fun ws S2 => if us.length = np ∧ ws.length = nk then eMake c n mf (gU us ws) S2 else .er
theorem qe_makeK {c np : Nat} {g : List Value → List Value → List Value} {gV : List V → List V → List V} {gU : List U → List U → List U} (M : Mk X.K (cl c) f) (Fn : FnOk X.prog X.w X.K X.mg X.base (L2.CX X.prog X.w) k f fd ps (SpM (bx X cl) n mf)) (tk : Takes X W) (wi : WI W) (hr : Room (k + 1) X.A) (hg : Gl X x) (hm : X.mg x = some (.ref (cl c)))
    (hb : KBn X.K fd ps (np + 1) ks g gV) (hG : GRel (fun vs zs => (gV (.ref 0 :: vs) zs).tail) gU) (hH : ∀ v vs zs, gV (v :: vs) zs = v :: (gV (.ref 0 :: vs) zs).tail) (ha : QA X cl W (e :: es) mA) (hkw : QK X cl W kws mK)
    (hall : (backToKw pos (keywordEach kws X.env)).all (·.1.isSome) = true := by rfl) (hks : (backToKw pos (keywordEach kws X.env)).filterMap (·.1) = ks := by rfl) (hdb : (x == ("__debug__" : Str)) = false := by decide)
    (he : starEach (e :: es) X.env = (false, eval e X.env) :: starEach es X.env := by rfl) (hpl : ((backTo pos (starEach (e :: es) X.env)).any (·.1) || (backToKw pos (keywordEach kws X.env)).any (·.1.isNone)) = false := by rfl) :
    QE X cl W (.Call (.Name x p) (e :: es) kws pos) (eMkK c n np ks.length mf gU mA mK) :=
  PE.imp (pe_makeK M Fn hr hg hm hb (passW tk wi) ha hkw hall hks hdb he hpl) fun σ H Q ⟨ι, F, S, ρ, r, en, o⟩ => ⟨ι, F, S, ρ, r, en, o.bind.mono fun vs H1 ⟨ι1, F1, S1, us, e1, r1, z1, o1⟩ =>
    ⟨ι1, F1, S1, ρ, r1, en.mono e1, o1.bind.mono fun zs H2 ⟨ι2, F2, S2, ws, e2, r2, z2, o2⟩ => by
      split at o2
      · rename_i hl
        refine ⟨by rw [paired_len z1]; exact hl.1, by rw [paired_len z2]; exact hl.2, fun x dx hx hdx ne => ?_⟩
        rw [hH]
        exact make_sp wi r2 (hG _ _ _ _ _ _ _ _ (z1.mono e2) z2) o2 x dx hx hdx ne
      · exact o2.elim⟩⟩
/-! ### o.m(..) -/
/-- a method of the class c with n parameters -/
def eMeth (c n : Nat) (m : Str) (mf : List U → Sto → R U) (dds : List U) (mo : ME) (a : MA) : ME := fun ρ S => (mo ρ S).bind fun x S1 => match asIns S1 x with
  | some (c', fs) => if c' = c ∧ fs.lookup m = none then (a ρ S1).bind fun us S2 => if us.length + dds.length + 1 = n then mf (x :: (us ++ dds)) S2 else .er else .er
  | none => .er
theorem meth_sp {σ : L2.St} {ι : List Addr} {F : Addr → Prop} {H : Hp} {S : Sto} {Q : VK} {v : V} {u : U} {vs dvs : List V} {us : List U} {dds : List D} (wi : WI W) (hD : Dfl cl dvs dds) (r : Rel (bx X cl) ι F S H) (zv : RepU (bx X cl) ι F H v u) (z : RepUs (bx X cl) ι F H vs us)
    (o : Out (bx X cl) W σ ι F H (RepU (bx X cl)) Q (if us.length + (dds.map U.v).length + 1 = n then mf (u :: (us ++ dds.map U.v)) S else .er)) : SpM (bx X cl) n mf (v :: (vs ++ dvs)) H Q (E1 W) := by
  have zz : RepUs (bx X cl) ι F H (v :: (vs ++ dvs)) (u :: (us ++ dds.map U.v)) := .cons zv (paired_append z (reps_u (hD _ F H rfl)))
  split at o
  · rename_i hl
    refine ⟨?_, ι, F, S, _, r, zz, out_e wi o⟩
    rw [paired_len zz]
    simpa using hl
  · exact o.elim
theorem qe_meth {c : Nat} {dvs : List V} {ds : List Value} {dds : List D} {pl : Sem Bool} (ho : QE X cl W o mo) (hc : Cls X.K (cl c)) (hm : Meth X.K (cl c) m f) (Fn : FnOk X.prog X.w X.K X.mg X.base (L2.CX X.prog X.w) k f fd ps (SpM (bx X cl) n mf)) (tk : Takes X W) (wi : WI W) (hr : Room k X.A) (hb : Binds X.K fd ps ds) (hd : Vals dvs ds) (hD : Dfl cl dvs dds) (ha : QA X cl W (e :: es) mA)
    (hst : starEach (e :: es) X.env = (false, eval e X.env) :: starEach es X.env := by rfl) (hpl : (backTo pos (starEach es X.env)).any (·.1) = false := by rfl)
    (ht : eval (.Call (.Attribute o m apos) (e :: es) [] pos) X.env = (do
      let ov ← eval o X.env
      standAt apos.atName
      let (f, first) ← holding [ov] (getMethod ov m pl)
      callWith pos f first (backTo pos (starEach (e :: es) X.env)) (backToKw pos (keywordEach [] X.env))) := by rfl) :
    QE X cl W (.Call (.Attribute o m apos) (e :: es) [] pos) (eMeth c n m mf (dds.map U.v) mo mA) :=
  PE.imp (pe_meth (pl := pl) ho hc hm Fn hr hb hd (passW tk wi) ha hst hpl ht) fun σ H Q ⟨ι, F, S, ρ, r, en, o⟩ => ⟨ι, F, S, ρ, r, en, o.bind.mono fun x H1 ⟨ι1, F1, S1, x', e1, r1, z1, o1⟩ => by
    cases q : asIns S1 x' with
    | none => rw [q] at o1; exact o1.elim
    | some pr =>
      obtain ⟨c', fs⟩ := pr
      rw [q] at o1
      simp only at o1
      split at o1
      · rename_i hcc
        obtain ⟨rfl, hl⟩ := hcc
        obtain ⟨a, dx, vs, rfl, hx, zf⟩ := asIns_ok r1 z1 q
        exact ⟨a, dx, vs, rfl, hx, (lookup_paired zf).2 hl, ι1, F1, S1, ρ, r1, en.mono e1, o1.bind.mono fun ys H2 ⟨ι2, F2, S2, y', e2, r2, z2, o2⟩ => meth_sp wi hD r2 (z1.mono e2) z2 o2⟩
      · exact o1.elim⟩
theorem qe_meth0 {c : Nat} {dvs : List V} {ds : List Value} {dds : List D} {pl : Sem Bool} (ho : QE X cl W o mo) (hc : Cls X.K (cl c)) (hm : Meth X.K (cl c) m f) (Fn : FnOk X.prog X.w X.K X.mg X.base (L2.CX X.prog X.w) k f fd ps (SpM (bx X cl) n mf)) (tk : Takes X W) (wi : WI W) (hr : Room k X.A) (hb : Binds X.K fd ps ds) (hd : Vals dvs ds) (hD : Dfl cl dvs dds)
    (ht : eval (.Call (.Attribute o m apos) [] [] pos) X.env = (do
      let ov ← eval o X.env
      standAt apos.atName
      let (f, first) ← holding [ov] (getMethod ov m pl)
      callWith pos f first (backTo pos (starEach [] X.env)) (backToKw pos (keywordEach [] X.env))) := by rfl) :
    QE X cl W (.Call (.Attribute o m apos) [] [] pos) (eMeth c n m mf (dds.map U.v) mo aNil) :=
  PE.imp (pe_meth0 (pl := pl) ho hc hm Fn hr hb hd (passW tk wi) ht) fun σ H Q ⟨ι, F, S, ρ, r, en, o⟩ => ⟨ι, F, S, ρ, r, en, o.bind.mono fun x H1 ⟨ι1, F1, S1, x', e1, r1, z1, o1⟩ => by
    cases q : asIns S1 x' with
    | none => rw [q] at o1; exact o1.elim
    | some pr =>
      obtain ⟨c', fs⟩ := pr
      rw [q] at o1
      simp only at o1
      split at o1
      · rename_i hcc
        obtain ⟨rfl, hl⟩ := hcc
        obtain ⟨a, dx, vs, rfl, hx, zf⟩ := asIns_ok r1 z1 q
        exact ⟨a, dx, vs, rfl, hx, (lookup_paired zf).2 hl, meth_sp (vs := []) (us := []) wi hD r1 z1 .nil o1⟩
      · exact o1.elim⟩
/-! ### an instance called -/
def eCallO (c n : Nat) (mf : List U → Sto → R U) (mo : ME) (a : MA) : ME := fun ρ S => (mo ρ S).bind fun x S1 => (match asIns S1 x with
  | some _ => .ok () S1
  | none => .er : R Unit).bind fun _ S1 => (a ρ S1).bind fun us S2 => match asIns S2 x with
  | some (c', _) => if c' = c ∧ us.length + 1 = n then mf (x :: us) S2 else .er
  | none => .er
theorem fnR_of (Fn : FnOk X.prog X.w X.K X.mg X.base (L2.CX X.prog X.w) k f fd ps (SpM (bx X cl) n mf)) (hb : Binds X.K fd ps []) : FnR X.prog X.w X.K X.mg X.base (L2.CX X.prog X.w) k f (SpM (bx X cl) n mf) :=
  (FnOk.raw Fn hb .nil).imp fun vs H Q E h => by rw [List.append_nil]; exact h
theorem qe_callO {c : Nat} {fe : Expr} {mfe : ME} (hf : QE X cl W fe mfe) (co : StX.CallO X.K (cl c) f) (Fn : FnOk X.prog X.w X.K X.mg X.base (L2.CX X.prog X.w) k f fd ps (SpM (bx X cl) n mf)) (tk : Takes X W) (wi : WI W) (hr : Room k X.A) (hb : Binds X.K fd ps []) (ha : QA X cl W (e :: es) mA)
    (ht : eval (.Call fe (e :: es) [] pos) X.env = (do callWith pos (← eval fe X.env) [] (backTo pos (starEach (e :: es) X.env)) (backToKw pos (keywordEach [] X.env))) := by rfl)
    (he : starEach (e :: es) X.env = (false, eval e X.env) :: starEach es X.env := by rfl) (hpl : (backTo pos (starEach es X.env)).any (·.1) = false := by rfl) :
    QE X cl W (.Call fe (e :: es) [] pos) (eCallO c n mf mfe mA) :=
  PE.imp (StX.pe_callO hf co (fnR_of Fn hb) hr (passW tk wi) ha ht he hpl) fun σ H Q ⟨ι, F, S, ρ, r, en, o⟩ => ⟨ι, F, S, ρ, r, en, o.bind.mono fun x H1 ⟨ι1, F1, S1, x', e1, r1, z1, o1⟩ => by
    cases q : asIns S1 x' with
    | none => rw [q] at o1; exact o1.elim
    | some pr =>
      rw [q] at o1
      obtain ⟨c', fs⟩ := pr
      obtain ⟨a, dx, vs, rfl, hx, zf⟩ := asIns_ok r1 z1 q
      change Out _ _ _ _ _ _ _ _ ((mA ρ S1).bind _) at o1
      refine ⟨a, rfl, ι1, F1, S1, ρ, r1, en.mono e1, o1.bind.mono fun ys H2 ⟨ι2, F2, S2, y', e2, r2, z2, o2⟩ => ?_⟩
      cases q2 : asIns S2 x' with
      | none => rw [q2] at o2; exact o2.elim
      | some pr2 =>
        rw [q2] at o2
        obtain ⟨c2, fs2⟩ := pr2
        simp only at o2
        split at o2
        · rename_i hcc
          obtain ⟨rfl, hl⟩ := hcc
          obtain ⟨a2, dx2, vs2, ea, hx2, zf2⟩ := asIns_ok r2 (z1.mono e2) q2
          cases ea
          have zz : RepUs (bx X cl) ι2 F2 H2 (.ref a :: ys) (x' :: y') := .cons (z1.mono e2) z2
          exact ⟨.inr ⟨dx2, vs2, hx2⟩, by rw [paired_len zz]; exact hl, ι2, F2, S2, _, r2, zz, out_e wi o2⟩
        · exact o2.elim⟩
/-! ### isinstance(x, T), T a built-in type -/
def tyNm (S : Sto) : U → Option String
  | .v .non => some "NoneType"
  | .v (.bl _) => some "bool"
  | .v (.int _) => some "int"
  | .v (.str _) => some "str"
  | .v (.tup _) => some "tuple"
  | .v (.lst _) => some "list"
  | .v (.frl _) => some "list"
  | .r n => match S[n]? with
    | some (.lst _) => some "list"
    | _ => none
  | _ => none
theorem tyNm_ok {ι : List Addr} {F : Addr → Prop} {H : Hp} {S : Sto} {v : V} {u : U} {t : String} (r : Rel (bx X cl) ι F S H) (z : RepU (bx X cl) ι F H v u) (h : tyNm S u = some t) : TyX X.K H v (.type t) := by
  cases z with
  | v z =>
    cases z with
    | non => cases h; exact .base .non
    | bl b => cases h; exact .base (.bl b)
    | int i => cases h; exact .base (.int i)
    | str y _ => cases h; exact .base (.str y)
    | tup e _ => cases h; exact .base (.tup e)
    | lst _ e _ => cases h; exact .base (.lst e)
    | frl e _ =>
      cases h
      rcases e with ⟨_, o, e⟩ | ⟨o, its, n, e1, e2, _⟩
      · exact .base (.frz e)
      · exact .kList e1 e2
    | _ => cases h
  | @r n a e =>
    unfold tyNm at h
    simp only at h
    cases q : S[n]? with
    | none => rw [q] at h; cases h
    | some c =>
      rw [q] at h
      have ok := r.ok n a c e q
      cases c with
      | lst ys =>
        cases h
        obtain ⟨vs, h1, h2⟩ := ok
        exact .base (.lst h1)
      | _ => cases h
def fIsi : FA := fun us S => match us with
  | [u, .v (.ty T)] => (tyNm S u).bind fun t => (kitB t T).map fun b => (.v (.bl b), S)
  | _ => none
theorem cq_isi : CallR X (.builtin "isinstance") (liftC (bx X cl) fIsi) := by
  intro pins s σ H xs us Q I rv ⟨ι, F, S, as, rl, zs, fi⟩
  unfold fIsi at fi
  split at fi
  · rename_i u T
    cases zs with
    | cons z1 z2 =>
      cases z2 with
      | cons z2 z3 =>
        cases z3
        cases z2 with
        | v z2 =>
          cases z2 with
          | ty _ =>
            cases q : tyNm S u with
            | none => rw [q] at fi; exact fi.no
            | some t =>
              rw [q] at fi
              simp only [Option.bind_some] at fi
              cases q2 : kitB t T with
              | none => rw [q2] at fi; exact fi.no
              | some b =>
                rw [q2] at fi
                exact call_isi pins s σ H _ us Q I rv ⟨_, _, _, _, b, rfl, .ty T, tyNm_ok rl z1 q, kit_ty q2, fi.val rl (.v (.bl b))⟩
  · exact fi.no
@[simp] theorem kB_ii : kitB "int" "int" = some true := by decide +kernel
@[simp] theorem kB_ib : kitB "int" "bool" = some false := by decide +kernel
@[simp] theorem kB_bi : kitB "bool" "int" = some true := by decide +kernel
@[simp] theorem kB_bb : kitB "bool" "bool" = some true := by decide +kernel
@[simp] theorem kB_tt : kitB "tuple" "tuple" = some true := by decide +kernel
@[simp] theorem kB_ll : kitB "list" "list" = some true := by decide +kernel
@[simp] theorem kB_ss : kitB "str" "str" = some true := by decide +kernel
@[simp] theorem kB_si : kitB "str" "int" = some false := by decide +kernel
@[simp] theorem kB_ni : kitB "NoneType" "int" = some false := by decide +kernel
@[simp] theorem kB_nt : kitB "NoneType" "tuple" = some false := by decide +kernel
@[simp] theorem kB_it : kitB "int" "tuple" = some false := by decide +kernel
@[simp] theorem kB_lt : kitB "list" "tuple" = some false := by decide +kernel
@[simp] theorem kB_tl : kitB "tuple" "list" = some false := by decide +kernel
end
theorem fnIn_of {K : PySem.W.Frag} {x qual : Str} {params : Arguments} {body : List Stmt} {scope : Scope} {dvs : List V} {kws : List (Str × V)} {f : Addr} {fd : FuncData} (F : FunD K x qual params body scope dvs kws f fd) : PySem.W.fnIn K f = true := by
  obtain ⟨oc, od, dV, kV, doc, pm, an, cdv, ct, osl, rfl, lk, hcd, _, _⟩ := F.ex
  unfold PySem.W.fnIn
  rw [lk]
end Pu
/-! Pu: the law's own def, called with a script. -/
namespace Pu
open PySem L2
open PyProof.Rows hiding St
theorem reps_ints {B : Bx} {F : Addr → Prop} {H : Hp} : ∀ ns : List Int, Reps B F H (ns.map V.int) (ns.map D.int)
  | [] => .nil
  | n :: ns => .cons (.int n) (reps_ints ns)
theorem law_start {P : Program} {w : World} {K : PySem.W.Frag} {cl : Nat → Addr} {H : Hp} {a : Addr} {ns : List Int} {mf : List U → Sto → R U} (hO : Only H) (hS : SqL K H a (ns.map V.int)) (h : ∃ S', mf [.v (.frl (ns.map D.int))] [] = .ok (.v (.bl true)) S') :
    SpM ⟨P, w, K, cl⟩ 1 mf [.ref a] H (fun v _ => v = .bl true) fun _ _ _ => False := by
  obtain ⟨S', h⟩ := h
  have lk : Lk K (fun b => H b ≠ none) H a (ns.map V.int) := by
    rcases hS with (h1 | ⟨o, h1⟩) | h1
    · rcases hO a with h2 | ⟨o, xs, h2⟩
      · rw [h2] at h1; cases h1
      · rw [h2] at h1; cases h1
    · exact .inl ⟨by show H a ≠ none; rw [h1]; simp, o, h1⟩
    · exact .inr h1
  refine ⟨rfl, [], fun b => H b ≠ none, [], [.v (.frl (ns.map D.int))], ⟨rfl, List.nodup_nil, by simp, by simp, by simp, fun _ h => h, by simp⟩, .cons (.v (.frl lk (reps_ints ns))) .nil, ?_⟩
  rw [h]
  intro v ι' F' H' _ _ z
  cases z with
  | v z => cases z; rfl
theorem cx_no {P : Program} {w : World} (H : Hp) (s : Shared) (e : Value) (s' : Shared) (h : L2.CX P w [] H s (fun _ _ _ => False) e s') : False := by
  obtain ⟨_, _, _, _, _, _, _, _, _, _, _, _, h⟩ := h
  exact h
/-- the law's end over a head by facts: what leaves a def may hang on the world -/
theorem law_end {l : PySem.W.OpenLaw} {n k : Nat} {q : Program} {loose : List Str} {XP : (Str → Option Value) → Heap → Prop} {YP : World → Heap → Prop} {d : DefRec} {x : Str} {mf : List U → Sto → R U} {cl : PySem.W.Frag → Nat → Addr}
    (hn : l.most = some n) (hn2 : n ≤ sizeLine) (hdf : d.params.defaults = []) (hr : Room k callerA) (pu : ∀ ns : List Int, ns.length ≤ n → ∃ S', mf [.v (.frl (ns.map D.int))] [] = .ok (.v (.bl true)) S')
    (hF : ∀ (w : World) (mg : Str → Option Value) (fa : Addr) (h : Heap), YP w h → h.Ns mainGlobals mg → mg d.name = some (.ref fa) →
      ∃ (K : PySem.W.Frag) (fd : FuncData), K.In h ∧ (∀ (s : Shared) (u : Value), BindsTo s fd ⟨[u], []⟩ [(x, u)]) ∧ ∀ base : Heap, FnOk l.prog w K mg base (L2.CX l.prog w) k fa fd [x] (SpM ⟨l.prog, w, K, cl K⟩ 1 mf)) :
    PySem.W.WalkO q loose XP YP l.row.toRowW d [] (fun f vs => PySem.call f vs) := by
  refine Att.attach_call hn hdf fun w s₀ s₁ mg mb fa o pm cd doc a vs ns G Y ho hd hcd hmg hobj hints hlen hg => ?_
  obtain ⟨K, fd, KX, hb, hf⟩ := hF w mg fa _ Y G.T.g hmg
  exact law_call KX G.T.g G.T.b G.T.builtins G.T.nolimit hg hobj hints (Nat.le_trans hlen hn2) hr (fun base _ _ => hf base) hb (fun H hO hS => law_start hO hS (pu ns hlen)) fun H e s' => cx_no H s₁ e s'
theorem funD_same {K : PySem.W.Frag} {x qual x2 q2 : Str} {params p2 : Arguments} {body b2 : List Stmt} {scope sc2 : Scope} {dvs dvs2 : List V} {kws kws2 : List (Str × V)} {f : Addr} {fd fd2 : FuncData} (F : FunD K x qual params body scope dvs kws f fd) (G : FunD K x2 q2 p2 b2 sc2 dvs2 kws2 f fd2) : fd = fd2 := by
  obtain ⟨oc, od, dV, kV, doc, pm, an, cdv, ct, osl, _, lk, _⟩ := F.ex
  obtain ⟨oc', od', dV', kV', doc', pm', an', cdv', ct', osl', _, lk', _⟩ := G.ex
  rw [lk] at lk'
  cases lk'
  rfl
end Pu
/-! Pu: what a mirror ends in, as verification conditions. -/
namespace Pu
open PySem

structure Post where
  nx : Env' → Sto → Prop := fun _ _ => False
  rt : U → Sto → Prop := fun _ _ => False
  bk : Env' → Sto → Prop := fun _ _ => False
  ct : Env' → Sto → Prop := fun _ _ => False
  ex : Nat → List (Str × U) → Env' → Sto → Prop := fun _ _ _ _ => False
def wps (r : RS) (Q : Post) : Prop := match r with
  | .nx ρ S => Q.nx ρ S
  | .rt u S => Q.rt u S
  | .bk ρ S => Q.bk ρ S
  | .ct ρ S => Q.ct ρ S
  | .ex c fs ρ S => Q.ex c fs ρ S
  | .er => False
abbrev XP := Nat → List (Str × U) → Sto → Prop
def wpr {α : Type} (r : R α) (Q : α → Sto → Prop) (X : XP) : Prop := match r with
  | .ok a S => Q a S
  | .ex c fs S => X c fs S
  | .er => False
def wpo {α : Type} (o : Option α) (Q : α → Prop) : Prop := match o with
  | some a => Q a
  | none => False
def wpO (o : Option (U × Sto)) (Q : U → Sto → Prop) : Prop := match o with
  | some p => Q p.1 p.2
  | none => False
def getv (ρ : Env') (i : Nat) (k : U → Prop) : Prop := match ρ[i]? with
  | some (some u) => k u
  | _ => False
section
variable {α β : Type} {Q : Post} {q : U → Sto → Prop} {X : XP} {ρ : Env'} {S : Sto} {k : U → Prop}
@[simp ↓] theorem getv_0 (u : U) : getv (some u :: ρ) 0 k = k u := id rfl
@[simp ↓] theorem getv_s (x : Option U) (i : Nat) : getv (x :: ρ) (i + 1) k = getv ρ i k := id rfl
@[simp ↓] theorem wpo_some (a : α) (q : α → Prop) : wpo (some a) q = q a := id rfl
@[simp ↓] theorem wpo_none (q : α → Prop) : wpo none q = False := id rfl
@[simp ↓] theorem wpO_some (u : U) : wpO (some (u, S)) q = q u S := id rfl
@[simp ↓] theorem wpO_none : wpO none q = False := id rfl
@[simp ↓] theorem wpr_ok (a : α) (q : α → Sto → Prop) : wpr (.ok a S) q X = q a S := id rfl
@[simp ↓] theorem wpr_ex (c : Nat) (fs : List (Str × U)) (q : α → Sto → Prop) : wpr (.ex c fs S) q X = X c fs S := id rfl
@[simp ↓] theorem wpr_er (q : α → Sto → Prop) : wpr .er q X = False := id rfl
@[simp ↓] theorem wpr_ofO (o : Option (U × Sto)) : wpr (ofO o) q X = wpO o q := by cases o <;> rfl
theorem wpr_bind (r : R α) (f : α → Sto → R β) (q : β → Sto → Prop) : wpr (r.bind f) q X = wpr r (fun a S => wpr (f a S) q X) X := by cases r <;> rfl
theorem wps_st (r : R α) (f : α → Sto → RS) : wps (r.st ρ f) Q = wpr r (fun a S => wps (f a S) Q) (fun c fs S => Q.ex c fs ρ S) := by cases r <;> rfl
theorem wpr_mono {r : R α} {q q' : α → Sto → Prop} {X X' : XP} (h : wpr r q X) (k : ∀ a S, q a S → q' a S) (kx : ∀ c fs S, X c fs S → X' c fs S) : wpr r q' X' := by cases r with
  | ok a S => exact k a S h
  | ex c fs S => exact kx c fs S h
  | er => exact h
theorem wpr_iff {r : R α} {q : α → Sto → Prop} : wpr r q (fun _ _ _ => False) ↔ ∃ a S, r = .ok a S ∧ q a S := by
  cases r with
  | ok a S => exact ⟨fun h => ⟨a, S, rfl, h⟩, fun ⟨_, _, e, h⟩ => by cases e; exact h⟩
  | ex c fs S => exact ⟨fun h => h.elim, fun ⟨_, _, e, h⟩ => by cases e⟩
  | er => exact ⟨fun h => h.elim, fun ⟨_, _, e, h⟩ => by cases e⟩
/-! expressions -/
@[simp ↓] theorem w_var (i : Nat) : wpr (eVar i ρ S) q X = getv ρ i (fun u => q u S) := by
  unfold eVar getv
  split <;> rename_i h <;> simp_all [wpr]
@[simp ↓] theorem w_c (d : D) : wpr (eC d ρ S) q X = q (.v d) S := id rfl
@[simp ↓] theorem w_op (f : F2) (a b : ME) : wpr (eOp f a b ρ S) q X = wpr (a ρ S) (fun x S1 => wpr (b ρ S1) (fun y S2 => wpO (f x y S2) q) X) X := by
  simp only [eOp, wpr_bind, wpr_ofO]
@[simp ↓] theorem w_un (f : F1) (a : ME) : wpr (eUn f a ρ S) q X = wpr (a ρ S) (fun x S1 => wpO (f x S1) q) X := by simp only [eUn, wpr_bind, wpr_ofO]
@[simp ↓] theorem w_nil (q : List U → Sto → Prop) : wpr (aNil ρ S) q X = q [] S := id rfl
@[simp ↓] theorem w_cons (a : ME) (r : MA) (q : List U → Sto → Prop) : wpr (aCons a r ρ S) q X = wpr (a ρ S) (fun x S1 => wpr (r ρ S1) (fun xs S2 => q (x :: xs) S2) X) X := by simp only [aCons, wpr_bind, wpr_ok]
@[simp ↓] theorem w_cb (f : FA) (a : MA) : wpr (eCB f a ρ S) q X = wpr (a ρ S) (fun xs S1 => wpO (f xs S1) q) X := by simp only [eCB, wpr_bind, wpr_ofO]
@[simp ↓] theorem w_mtT (chk : Sto → U → Bool) (f : FM) (o : ME) (a : MA) : wpr (eMtT chk f o a ρ S) q X = wpr (o ρ S) (fun x S1 => chk S1 x = true ∧ wpr (a ρ S1) (fun xs S2 => wpO (f x xs S2) q) X) X := by
  simp only [eMtT, wpr_bind]
  congr 1; funext x S1
  by_cases h : chk S1 x = true
  · simp only [h, if_true, wpr_bind, wpr_ofO, true_and]
  · rw [if_neg h]; simp [h]
@[simp ↓] theorem w_sl (f : U → Option Int → Option Int → Sto → Option (U × Sto)) (m : ME) (lo hi : MO) : wpr (eSl f m lo hi ρ S) q X = wpr (m ρ S) (fun x S1 => wpr (lo ρ S1) (fun l S2 => wpr (hi ρ S2) (fun h S3 => wpO (f x l h S3) q) X) X) X := by
  simp only [eSl, wpr_bind, wpr_ofO]
@[simp ↓] theorem w_oNone (q : Option Int → Sto → Prop) : wpr (oNone ρ S) q X = q none S := id rfl
def isInt (u : U) (k : Int → Prop) : Prop := match u with
  | .v (.int i) => k i
  | _ => False
@[simp ↓] theorem isInt_i (i : Int) (k : Int → Prop) : isInt (.v (.int i)) k = k i := id rfl
@[simp ↓] theorem w_oSome (m : ME) (q : Option Int → Sto → Prop) : wpr (oSome m ρ S) q X = wpr (m ρ S) (fun u S1 => isInt u fun i => q (some i) S1) X := by
  simp only [oSome, wpr_bind]
  congr 1; funext u S1
  unfold isInt
  split
  · rfl
  · first
      | rfl
      | (split <;> first | rfl | simp_all)
def isBl (u : U) (k : Bool → Prop) : Prop := match u with
  | .v (.bl b) => k b
  | _ => False
@[simp ↓] theorem isBl_b (b : Bool) (k : Bool → Prop) : isBl (.v (.bl b)) k = k b := id rfl
theorem wpr_isB (u : U) (q : Bool → Sto → Prop) : wpr (ofO (isB u S)) q X = isBl u fun b => q b S := by
  unfold isB isBl
  split
  · rfl
  · first
      | rfl
      | (split <;> first | rfl | simp_all)
@[simp ↓] theorem w_tB (m : ME) (q : Bool → Sto → Prop) : wpr (tB m ρ S) q X = wpr (m ρ S) (fun u S1 => isBl u fun b => q b S1) X := by simp only [tB, wpr_bind, wpr_isB]
@[simp ↓] theorem w_tYes (q : Bool → Sto → Prop) : wpr (tYesM ρ S) q X = q true S := id rfl
theorem wpr_ite (c : Prop) [Decidable c] (a b : R α) (q : α → Sto → Prop) : wpr (if c then a else b) q X = if c then wpr a q X else wpr b q X := by split <;> rfl
theorem wps_ite (c : Prop) [Decidable c] (a b : RS) : wps (if c then a else b) Q = if c then wps a Q else wps b Q := by split <;> rfl
@[simp ↓] theorem w_tAnd (a b : MT) (q : Bool → Sto → Prop) : wpr (tAnd a b ρ S) q X = wpr (a ρ S) (fun x S1 => if x = true then wpr (b ρ S1) q X else q false S1) X := by simp only [tAnd, wpr_bind, wpr_ite, wpr_ok]
@[simp ↓] theorem w_tOr (a b : MT) (q : Bool → Sto → Prop) : wpr (tOr a b ρ S) q X = wpr (a ρ S) (fun x S1 => if x = true then q true S1 else wpr (b ρ S1) q X) X := by simp only [tOr, wpr_bind, wpr_ite, wpr_ok]
@[simp ↓] theorem w_tNot (a : MT) (q : Bool → Sto → Prop) : wpr (tNot a ρ S) q X = wpr (a ρ S) (fun x S1 => q (!x) S1) X := by simp only [tNot, wpr_bind, wpr_ok]
@[simp ↓] theorem w_eAnd (a b : ME) : wpr (eAnd a b ρ S) q X = wpr (a ρ S) (fun u S1 => isBl u fun x => if x = true then wpr (b ρ S1) q X else q (.v (.bl false)) S1) X := by simp only [eAnd, wpr_bind, wpr_isB, wpr_ite, wpr_ok]
@[simp ↓] theorem w_eOr (a b : ME) : wpr (eOr a b ρ S) q X = wpr (a ρ S) (fun u S1 => isBl u fun x => if x = true then q (.v (.bl true)) S1 else wpr (b ρ S1) q X) X := by simp only [eOr, wpr_bind, wpr_isB, wpr_ite, wpr_ok]
@[simp ↓] theorem w_eNot (a : ME) : wpr (eNot a ρ S) q X = wpr (a ρ S) (fun u S1 => isBl u fun x => q (.v (.bl (!x))) S1) X := by simp only [eNot, wpr_bind, wpr_isB, wpr_ok]
@[simp ↓] theorem w_eIf (c : MT) (a b : ME) : wpr (eIf c a b ρ S) q X = wpr (c ρ S) (fun x S1 => if x = true then wpr (a ρ S1) q X else wpr (b ρ S1) q X) X := by simp only [eIf, wpr_bind, wpr_ite]
@[simp ↓] theorem w_call (n : Nat) (mf : List U → Sto → R U) (dds : List U) (a : MA) : wpr (eCall n mf dds a ρ S) q X = wpr (a ρ S) (fun us S1 => us.length + dds.length = n ∧ wpr (mf (us ++ dds) S1) q X) X := by
  simp only [eCall, wpr_bind, wpr_ite, wpr_er]
  congr 1; funext us S1
  by_cases h : us.length + dds.length = n <;> simp [h]
def isIns (S : Sto) (u : U) (k : Nat → List (Str × U) → Prop) : Prop := match asIns S u with
  | some p => k p.1 p.2
  | none => False
@[simp ↓] theorem w_callO (c n : Nat) (mf : List U → Sto → R U) (o : ME) (a : MA) : wpr (eCallO c n mf o a ρ S) q X = wpr (o ρ S) (fun x S1 => isIns S1 x fun _ _ => wpr (a ρ S1) (fun us S2 => isIns S2 x fun c' _ => (c' = c ∧ us.length + 1 = n) ∧ wpr (mf (x :: us) S2) q X) X) X := by
  simp only [eCallO, wpr_bind]
  congr 1; funext x S1
  unfold isIns
  cases asIns S1 x with
  | none => rfl
  | some p =>
    simp only [wpr_ok]
    congr 1; funext us S2
    cases asIns S2 x with
    | none => rfl
    | some p =>
      by_cases h : p.1 = c ∧ us.length + 1 = n <;> simp [h]
@[simp ↓] theorem w_meth (c n : Nat) (m : Str) (mf : List U → Sto → R U) (dds : List U) (o : ME) (a : MA) : wpr (eMeth c n m mf dds o a ρ S) q X = wpr (o ρ S) (fun x S1 => isIns S1 x fun c' fs => (c' = c ∧ fs.lookup m = none) ∧ wpr (a ρ S1) (fun us S2 => us.length + dds.length + 1 = n ∧ wpr (mf (x :: (us ++ dds)) S2) q X) X) X := by
  simp only [eMeth, wpr_bind]
  congr 1; funext x S1
  unfold isIns
  cases asIns S1 x with
  | none => rfl
  | some p =>
    by_cases h : p.1 = c ∧ p.2.lookup m = none
    · simp only [h, and_self, if_true, wpr_bind, true_and]
      congr 1; funext us S2
      by_cases h : us.length + dds.length + 1 = n <;> simp [h]
    · simp only [h, if_false, wpr_er, false_and]
@[simp ↓] theorem w_make (c n : Nat) (mf : List U → Sto → R U) (us : List U) : wpr (eMake c n mf us S) q X = (us.length + 1 = n ∧ wpr (mf (.r S.length :: us) (S ++ [.ins c []])) (fun u S1 => u = .v .non ∧ q (.r S.length) S1) X) := by
  unfold eMake
  by_cases h : us.length + 1 = n
  · simp only [h, if_true, wpr_bind, true_and]
    congr 1; funext u S1
    split <;> simp_all
  · simp [h]
@[simp ↓] theorem w_mk (c n : Nat) (mf : List U → Sto → R U) (dds : List U) (a : MA) : wpr (eMk c n mf dds a ρ S) q X = wpr (a ρ S) (fun us S1 => wpr (eMake c n mf (us ++ dds) S1) q X) X := by simp only [eMk, wpr_bind]
@[simp ↓] theorem w_mkK (c n np nk : Nat) (mf : List U → Sto → R U) (gU : List U → List U → List U) (a b : MA) : wpr (eMkK c n np nk mf gU a b ρ S) q X = wpr (a ρ S) (fun us S1 => wpr (b ρ S1) (fun ws S2 => (us.length = np ∧ ws.length = nk) ∧ wpr (eMake c n mf (gU us ws) S2) q X) X) X := by
  simp only [eMkK, wpr_bind, wpr_ite, wpr_er]
  congr 1; funext us S1; congr 1; funext ws S2
  by_cases h : us.length = np ∧ ws.length = nk <;> simp [h]
/-! statements -/
@[simp ↓] theorem s_next : wps (sNext ρ S) Q = Q.nx ρ S := id rfl
@[simp ↓] theorem s_seq (a b : MS) : wps (sSeq a b ρ S) Q = wps (a ρ S) { Q with nx := fun ρ S => wps (b ρ S) Q } := by unfold sSeq; cases a ρ S <;> rfl
@[simp ↓] theorem s_asg (m : ME) (g : MG) : wps (sAsg m g ρ S) Q = wpr (m ρ S) (fun u S1 => wpo (g u ρ) fun ρ' => Q.nx ρ' S1) (fun c fs S => Q.ex c fs ρ S) := by
  simp only [sAsg, wps_st]
  congr 1; funext u S1
  cases g u ρ <;> rfl
@[simp ↓] theorem s_expr (m : ME) : wps (sExpr m ρ S) Q = wpr (m ρ S) (fun _ S1 => Q.nx ρ S1) (fun c fs S => Q.ex c fs ρ S) := by simp only [sExpr, wps_st]; rfl
@[simp ↓] theorem s_ret (m : ME) : wps (sRet m ρ S) Q = wpr (m ρ S) (fun u S1 => Q.rt u S1) (fun c fs S => Q.ex c fs ρ S) := by simp only [sRet, wps_st]; rfl
@[simp ↓] theorem s_retN : wps (sRetN ρ S) Q = Q.rt (.v .non) S := id rfl
@[simp ↓] theorem s_if (c : MT) (a b : MS) : wps (sIf c a b ρ S) Q = wpr (c ρ S) (fun x S1 => if x = true then wps (a ρ S1) Q else wps (b ρ S1) Q) (fun c fs S => Q.ex c fs ρ S) := by simp only [sIf, wps_st, wps_ite]
@[simp ↓] theorem s_brk : wps (sBrk ρ S) Q = Q.bk ρ S := id rfl
@[simp ↓] theorem s_cont : wps (sCont ρ S) Q = Q.ct ρ S := id rfl
@[simp ↓] theorem s_never : wps (sNever ρ S) Q = False := id rfl
@[simp ↓] theorem w_gName (i : Nat) (u : U) (q : Env' → Prop) : wpo (gName i u ρ) q = q (ρ.set i (some u)) := id rfl
@[simp ↓] theorem w_gTup (n : Nat) (gs : MGs) (ds : List D) (q : Env' → Prop) : wpo (gTup n gs (.v (.tup ds)) ρ) q = (ds.length = n ∧ wpo (gs (ds.map U.v) ρ) q) := by
  unfold gTup; by_cases h : ds.length = n <;> simp [h]
@[simp ↓] theorem w_gNil (q : Env' → Prop) : wpo (gNil [] ρ) q = q ρ := id rfl
@[simp ↓] theorem w_gCons (g : MG) (gs : MGs) (u : U) (us : List U) (q : Env' → Prop) : wpo (gCons g gs (u :: us) ρ) q = wpo (g u ρ) fun ρ1 => wpo (gs us ρ1) q := by
  show wpo ((g u ρ).bind _) q = _
  cases g u ρ <;> rfl
def wpS (o : Option Sto) (q : Sto → Prop) : Prop := match o with
  | some S => q S
  | none => False
@[simp ↓] theorem wpS_some (q : Sto → Prop) : wpS (some S) q = q S := id rfl
@[simp ↓] theorem wpS_none (q : Sto → Prop) : wpS none q = False := id rfl
@[simp ↓] theorem s_set (mo mi mv : ME) : wps (sSet mo mi mv ρ S) Q = wpr (mv ρ S) (fun v S1 => wpr (mo ρ S1) (fun o S2 => wpr (mi ρ S2) (fun i S3 => wpS (fSet o i v S3) fun S4 => Q.nx ρ S4) (fun c fs S => Q.ex c fs ρ S)) (fun c fs S => Q.ex c fs ρ S)) (fun c fs S => Q.ex c fs ρ S) := by
  simp only [sSet, wps_st]
  congr 1; funext v S1; congr 1; funext o S2; congr 1; funext i S3
  cases fSet o i v S3 <;> rfl
def putFld (cs : List Nat) (f : Str) (u x : U) (S : Sto) (k : Sto → Prop) : Prop := match x with
  | .r n => match S[n]? with
    | some (.ins c fs) => (c ∈ cs ∧ fs.length < 900) ∧ k (S.set n (.ins c (putU f u fs)))
    | _ => False
  | _ => False
@[simp ↓] theorem s_fld (cs : List Nat) (f : Str) (mo mv : ME) : wps (sFld cs f mo mv ρ S) Q = wpr (mv ρ S) (fun u S1 => wpr (mo ρ S1) (fun x S2 => putFld cs f u x S2 fun S3 => Q.nx ρ S3) (fun c fs S => Q.ex c fs ρ S)) (fun c fs S => Q.ex c fs ρ S) := by
  simp only [sFld, wps_st]
  congr 1; funext u S1; congr 1; funext x S2
  unfold putFld
  cases x with
  | v d => rfl
  | r n =>
    simp only
    cases S2[n]? with
    | none => rfl
    | some c =>
      cases c with
      | ins c fs => by_cases h : c ∈ cs ∧ fs.length < 900 <;> simp [h, wps]
      | _ => rfl
@[simp ↓] theorem s_for (it : MI) (g : MG) (body : MS) : wps (sFor it g body ρ S) Q = wpr (it ρ S) (fun iv S1 => wps (forGo iv.src (iv.src.bind fun n => S1[n]?) g body iv.items ρ S1) Q) (fun c fs S => Q.ex c fs ρ S) := by simp only [sFor, wps_st]
theorem for_go (src : Option Nat) (c0 : Option Cell) (g : MG) (body : MS) (items : List U) (I : Nat → Env' → Sto → Prop) : ∀ (n i : Nat) (ρ : Env') (S : Sto), i + n = items.length → I i ρ S →
    (∀ (i : Nat) (u : U) (ρ : Env') (S : Sto), items[i]? = some u → I i ρ S → wpo (g u ρ) fun ρ1 => wps (body ρ1 S) { nx := fun ρ2 S2 => srcOk src c0 S2 ∧ I (i + 1) ρ2 S2, ct := fun ρ2 S2 => srcOk src c0 S2 ∧ I (i + 1) ρ2 S2, bk := Q.nx, rt := Q.rt, ex := Q.ex }) →
    (∀ ρ S, I items.length ρ S → Q.nx ρ S) → wps (forGo src c0 g body (items.drop i) ρ S) Q
  | 0, i, ρ, S, hl, h0, hs, hn => by
    rw [List.drop_eq_nil_of_le (by omega)]
    exact hn ρ S (by have : i = items.length := by omega
                     rw [← this]; exact h0)
  | n + 1, i, ρ, S, hl, h0, hs, hn => by
    have hi : i < items.length := by omega
    rw [List.drop_eq_getElem_cons hi]
    have h1 := hs i items[i] ρ S (List.getElem?_eq_getElem hi) h0
    have ih := fun ρ S h => for_go src c0 g body items I n (i + 1) ρ S (by omega) h hs hn
    unfold forGo
    cases q : g items[i] ρ with
    | none => rw [q] at h1; exact h1.elim
    | some ρ1 =>
      rw [q] at h1
      simp only [wpo_some] at h1 ⊢
      cases qb : body ρ1 S with
      | nx ρ2 S2 =>
        rw [qb] at h1
        simp only
        have h2 : srcOk src c0 S2 ∧ I (i + 1) ρ2 S2 := h1
        rw [if_pos h2.1]
        exact ih ρ2 S2 h2.2
      | ct ρ2 S2 =>
        rw [qb] at h1
        simp only
        have h2 : srcOk src c0 S2 ∧ I (i + 1) ρ2 S2 := h1
        rw [if_pos h2.1]
        exact ih ρ2 S2 h2.2
      | bk ρ2 S2 => rw [qb] at h1; exact h1
      | rt u S2 => rw [qb] at h1; exact h1
      | ex c fs ρ2 S2 => rw [qb] at h1; exact h1
      | er => rw [qb] at h1; exact h1.elim
/-- a loop by an invariant -/
theorem for_inv {src : Option Nat} {c0 : Option Cell} {g : MG} {body : MS} {items : List U} (I : Nat → Env' → Sto → Prop) (h0 : I 0 ρ S)
    (hs : ∀ (i : Nat) (u : U) (ρ : Env') (S : Sto), items[i]? = some u → I i ρ S → wpo (g u ρ) fun ρ1 => wps (body ρ1 S) { nx := fun ρ2 S2 => srcOk src c0 S2 ∧ I (i + 1) ρ2 S2, ct := fun ρ2 S2 => srcOk src c0 S2 ∧ I (i + 1) ρ2 S2, bk := Q.nx, rt := Q.rt, ex := Q.ex })
    (hn : ∀ ρ S, I items.length ρ S → Q.nx ρ S) : wps (forGo src c0 g body items ρ S) Q := by
  have h := for_go (Q := Q) src c0 g body items I items.length 0 ρ S (by omega) h0 hs hn
  simpa using h
@[simp] theorem srcOk_none (c0 : Option Cell) : srcOk none c0 S = True := id rfl
@[simp] theorem srcOk_some (n : Nat) (c0 : Option Cell) : srcOk (some n) c0 S = (S[n]? = c0) := id rfl
/-! iteration -/
def seqV (S : Sto) (u : U) (k : List U → Prop) : Prop := match asSeq S u with
  | some xs => k xs
  | none => False
@[simp ↓] theorem w_iVal (m : ME) (q : IterV → Sto → Prop) : wpr (iVal m ρ S) q X = wpr (m ρ S) (fun u S1 => seqV S1 u fun xs => q ⟨xs, srcOf u⟩ S1) X := by
  simp only [iVal, wpr_bind]
  congr 1; funext u S1
  unfold seqV
  cases asSeq S1 u <;> rfl
def int1 (us : List U) (k : Int → Prop) : Prop := match us with
  | [.v (.int j)] => k j
  | _ => False
@[simp ↓] theorem int1_i (j : Int) (k : Int → Prop) : int1 [.v (.int j)] k = k j := id rfl
@[simp ↓] theorem w_rng1 (a : MA) (q : IterV → Sto → Prop) : wpr (iRng1 a ρ S) q X = wpr (a ρ S) (fun us S1 => int1 us fun j => (-1000000000 < j ∧ j < 1000000000) ∧ q ⟨rngU 0 j.toNat, none⟩ S1) X := by
  simp only [iRng1, wpr_bind]
  congr 1; funext us S1
  unfold int1
  split
  · rename_i j
    by_cases h : -1000000000 < j ∧ j < 1000000000 <;> simp [h]
  · first
      | rfl
      | (split <;> first | rfl | simp_all)
def int2 (us : List U) (k : Int → Int → Prop) : Prop := match us with
  | [.v (.int i), .v (.int j)] => k i j
  | _ => False
@[simp ↓] theorem int2_i (i j : Int) (k : Int → Int → Prop) : int2 [.v (.int i), .v (.int j)] k = k i j := id rfl
@[simp ↓] theorem w_rng2 (a : MA) (q : IterV → Sto → Prop) : wpr (iRng2 a ρ S) q X = wpr (a ρ S) (fun us S1 => int2 us fun i j => (-1000000000 < j ∧ j < 1000000000 ∧ -1000000000 < i ∧ i < 1000000000) ∧ q ⟨rngU i (j - i).toNat, none⟩ S1) X := by
  simp only [iRng2, wpr_bind]
  congr 1; funext us S1
  unfold int2
  split
  · rename_i i j
    by_cases h : -1000000000 < j ∧ j < 1000000000 ∧ -1000000000 < i ∧ i < 1000000000 <;> simp [h]
  · first
      | rfl
      | (split <;> first | rfl | simp_all)
@[simp] theorem rngU_len (lo : Int) (n : Nat) : (rngU lo n).length = n := by simp [rngU]
theorem rngU_get {lo : Int} {n i : Nat} {u : U} (h : (rngU lo n)[i]? = some u) : i < n ∧ u = .v (.int (lo + i)) := by
  unfold rngU at h
  rw [List.getElem?_map, Option.map_eq_some_iff] at h
  obtain ⟨a, h1, rfl⟩ := h
  have h2 := List.getElem?_eq_some_iff.mp h1
  obtain ⟨h3, h4⟩ := h2
  simp at h3 h4
  subst h4
  exact ⟨h3, rfl⟩
/-! defs -/
def start0 (N : Nat) (us : List U) : Env' := us.map some ++ List.replicate (N - us.length) none
theorem wp_runF {N : Nat} {m : MS} {us : List U} : wpr (runF N m us S) q X = wps (m (start0 N us) S) { rt := fun u S2 => wpr (fin S u S2) q X, nx := fun _ S2 => wpr (fin S (.v .non) S2) q X, ex := fun c fs _ S2 => wpr (finX S c fs S2) q X } := by
  unfold runF start0
  cases m (us.map some ++ List.replicate (N - us.length) none) S <;> rfl
theorem runF_eq {N : Nat} {m : MS} {us : List U} {u : U} {S' : Sto} (h : wps (m (start0 N us) S) { rt := fun v S2 => fin S v S2 = .ok u S', nx := fun _ S2 => fin S (.v .non) S2 = .ok u S' }) : runF N m us S = .ok u S' := by
  unfold runF
  unfold start0 at h
  cases q : m (us.map some ++ List.replicate (N - us.length) none) S <;> rw [q] at h <;> first | exact h | exact h.elim
theorem wp_runK {N : Nat} {m : MS} {us : List U} : wpr (runK N m us S) q X = wps (m (start0 N us) S) { rt := q, nx := fun _ S2 => q (.v .non) S2, ex := fun c fs _ S2 => X c fs S2 } := by
  unfold runK start0
  cases m (us.map some ++ List.replicate (N - us.length) none) S <;> rfl
end
end Pu
/-! Pu: the value functions on plain values; the store; the end of a def; list comprehensions. -/
namespace Pu
open PySem L2
section
variable {q : U → Sto → Prop} {S : Sto} {X : XP}
theorem wpO_ite (c : Prop) [Decidable c] (a b : Option (U × Sto)) : wpO (if c then a else b) q = if c then wpO a q else wpO b q := by split <;> rfl
@[simp ↓] theorem v_sub (i j : Int) : wpO (fI gSub (.v (.int i)) (.v (.int j)) S) q = q (.v (.int (i - j))) S := id rfl
@[simp ↓] theorem v_mul (i j : Int) : wpO (fI gMul (.v (.int i)) (.v (.int j)) S) q = ((i.natAbs < 2 ^ 64 ∨ j.natAbs < 2 ^ 64) ∧ q (.v (.int (i * j))) S) := by
  unfold fI gMul; by_cases h : i.natAbs < 2 ^ 64 ∨ j.natAbs < 2 ^ 64 <;> simp [h]
@[simp ↓] theorem v_mod (i j : Int) : wpO (fI gMod (.v (.int i)) (.v (.int j)) S) q = (0 < j ∧ q (.v (.int (i % j))) S) := by
  unfold fI gMod; by_cases h : 0 < j <;> simp [h]
@[simp ↓] theorem v_div (i j : Int) : wpO (fI gDiv (.v (.int i)) (.v (.int j)) S) q = ((0 < j ∧ j < 1073741824) ∧ q (.v (.int (i / j))) S) := by
  unfold fI gDiv; by_cases h : 0 < j ∧ j < 1073741824 <;> simp [h]
@[simp ↓] theorem v_pow (i j : Int) : wpO (fI gPow (.v (.int i)) (.v (.int j)) S) q = ((0 ≤ j ∧ j ≤ 1000 ∧ i.natAbs < 2 ^ 64) ∧ q (.v (.int (i ^ j.toNat))) S) := by
  unfold fI gPow; by_cases h : 0 ≤ j ∧ j ≤ 1000 ∧ i.natAbs < 2 ^ 64 <;> simp [h]
@[simp ↓] theorem v_cmp (p : Int → Int → Bool) (i j : Int) : wpO (fI (gCmp p) (.v (.int i)) (.v (.int j)) S) q = q (.v (.bl (p i j))) S := id rfl
@[simp ↓] theorem v_addI (i j : Int) : wpO (fAdd (.v (.int i)) (.v (.int j)) S) q = q (.v (.int (i + j))) S := id rfl
@[simp ↓] theorem v_addS (i j : Str) : wpO (fAdd (.v (.str i)) (.v (.str j)) S) q = (i.length + j.length ≤ 100000 ∧ q (.v (.str (i ++ j))) S) := by
  unfold fAdd; by_cases h : i.length + j.length ≤ 100000 <;> simp [h]
@[simp ↓] theorem v_addT (i j : List D) : wpO (fAdd (.v (.tup i)) (.v (.tup j)) S) q = (i.length + j.length ≤ 100000 ∧ q (.v (.tup (i ++ j))) S) := by
  unfold fAdd; by_cases h : i.length + j.length ≤ 100000 <;> simp [h]
@[simp ↓] theorem v_addL (i j : List D) : wpO (fAdd (.v (.lst i)) (.v (.lst j)) S) q = (i.length + j.length ≤ 100000 ∧ q (.v (.lst (i ++ j))) S) := by
  unfold fAdd asLst
  simp only [List.length_map, ← List.map_append, allV_map]
  by_cases h : i.length + j.length ≤ 100000 <;> simp [h]
@[simp ↓] theorem v_int (i : Int) : wpO (fInt [.v (.int i)] S) q = q (.v (.int i)) S := id rfl
@[simp ↓] theorem v_intB (b : Bool) : wpO (fInt [.v (.bl b)] S) q = q (.v (.int (if b = true then 1 else 0))) S := id rfl
@[simp ↓] theorem v_isN (n : Bool) : wpO (fIsN n (.v .non) (.v .non) S) q = q (.v (.bl (!n))) S := id rfl
theorem v_isN' (n : Bool) (u : U) (h : u ≠ .v .non) : wpO (fIsN n u (.v .non) S) q = q (.v (.bl n)) S := by
  unfold fIsN
  simp only
  all_goals rfl
@[simp ↓] theorem v_isNt (n : Bool) (d : List D) : wpO (fIsN n (.v (.tup d)) (.v .non) S) q = q (.v (.bl n)) S := id rfl
@[simp ↓] theorem v_isNi (n : Bool) (d : Int) : wpO (fIsN n (.v (.int d)) (.v .non) S) q = q (.v (.bl n)) S := id rfl
@[simp ↓] theorem v_isNr (n : Bool) (d : Nat) : wpO (fIsN n (.r d) (.v .non) S) q = q (.v (.bl n)) S := id rfl
@[simp ↓] theorem v_isNl (n : Bool) (d : List D) : wpO (fIsN n (.v (.lst d)) (.v .non) S) q = q (.v (.bl n)) S := id rfl
@[simp ↓] theorem v_isNn (n : Bool) (c : Nat) (d : List (Str × D)) : wpO (fIsN n (.v (.ins c d)) (.v .non) S) q = q (.v (.bl n)) S := id rfl
@[simp ↓] theorem v_tup (us : List U) : wpO (fTup us S) q = (us.length ≤ 100000 ∧ wpo (allV us) fun ds => q (.v (.tup ds)) S) := by
  unfold fTup; by_cases h : us.length ≤ 100000
  · simp only [h, if_true, true_and]; cases allV us <;> rfl
  · simp [h]
@[simp ↓] theorem v_lstV (us : List U) : wpO (fLstV us S) q = (us.length ≤ 100000 ∧ wpo (allV us) fun ds => q (.v (.lst ds)) S) := by
  unfold fLstV; by_cases h : us.length ≤ 100000
  · simp only [h, if_true, true_and]; cases allV us <;> rfl
  · simp [h]
@[simp ↓] theorem v_lstS (us : List U) : wpO (fLstS us S) q = (us.length ≤ 100000 ∧ q (.r S.length) (S ++ [.lst us])) := by
  unfold fLstS; by_cases h : us.length ≤ 100000 <;> simp [h]
@[simp] theorem allV_nil : allV [] = some [] := id rfl
@[simp ↓] theorem allV_consV (d : D) (us : List U) (k : List D → Prop) : wpo (allV (.v d :: us)) k = wpo (allV us) fun ds => k (d :: ds) := by
  show wpo ((allV us).map _) k = _
  cases allV us <;> rfl
@[simp ↓] theorem wpo_allV_nil (k : List D → Prop) : wpo (allV []) k = k [] := id rfl
@[simp ↓] theorem wpo_allV_map (ds : List D) (k : List D → Prop) : wpo (allV (ds.map U.v)) k = k ds := by rw [allV_map]; rfl
@[simp ↓] theorem v_dicS : wpO (fDicS [] S) q = q (.r S.length) (S ++ [.dic []]) := id rfl
/-! sequences -/
@[simp ↓] theorem seqV_l (ds : List D) (k : List U → Prop) : seqV S (.v (.lst ds)) k = k (ds.map U.v) := id rfl
@[simp ↓] theorem seqV_f (ds : List D) (k : List U → Prop) : seqV S (.v (.frl ds)) k = k (ds.map U.v) := id rfl
@[simp ↓] theorem seqV_t (ds : List D) (k : List U → Prop) : seqV S (.v (.tup ds)) k = k (ds.map U.v) := id rfl
def cellL (c : Option Cell) (k : List U → Prop) : Prop := match c with
  | some (.lst xs) => k xs
  | _ => False
@[simp ↓] theorem cellL_l (xs : List U) (k : List U → Prop) : cellL (some (.lst xs)) k = k xs := id rfl
@[simp ↓] theorem seqV_r (n : Nat) (k : List U → Prop) : seqV S (.r n) k = cellL S[n]? k := by
  unfold seqV asSeq cellL
  simp only
  cases S[n]? with
  | none => rfl
  | some c => cases c <;> rfl
@[simp] theorem srcOf_v (d : D) : srcOf (.v d) = none := id rfl
@[simp] theorem srcOf_r (n : Nat) : srcOf (.r n) = some n := id rfl
@[simp ↓] theorem v_listV (u : U) : wpO (fListV [u] S) q = seqV S u fun xs => wpo (allV xs) fun ds => q (.v (.lst ds)) S := by
  unfold fListV seqV; simp only
  cases asSeq S u with
  | none => rfl
  | some xs => simp only; cases allV xs <;> rfl
@[simp ↓] theorem v_tuple (u : U) : wpO (fTuple [u] S) q = seqV S u fun xs => wpo (allV xs) fun ds => q (.v (.tup ds)) S := by
  unfold fTuple seqV; simp only
  cases asSeq S u with
  | none => rfl
  | some xs => simp only; cases allV xs <;> rfl
@[simp ↓] theorem v_listS (u : U) : wpO (fListS [u] S) q = seqV S u fun xs => q (.r S.length) (S ++ [.lst xs]) := by
  unfold fListS seqV; simp only
  cases asSeq S u <;> rfl
@[simp ↓] theorem v_lenS (z : Str) : wpO (fLen [.v (.str z)] S) q = (z.length ≤ 100000 ∧ q (.v (.int z.length)) S) := by
  unfold fLen; by_cases h : z.length ≤ 100000 <;> simp [h]
theorem v_lenQ (u : U) (h : ∀ z, u ≠ .v (.str z)) : wpO (fLen [u] S) q = seqV S u fun xs => q (.v (.int xs.length)) S := by
  unfold fLen seqV
  split
  · rename_i z e; cases e; exact absurd rfl (h z)
  · rename_i e; cases e; cases asSeq S _ <;> rfl
  · rename_i h1 h2; exact absurd rfl (h2 u)
@[simp ↓] theorem v_lenL (ds : List D) : wpO (fLen [.v (.lst ds)] S) q = q (.v (.int ds.length)) S := by rw [v_lenQ _ (by simp)]; simp
@[simp ↓] theorem v_lenF (ds : List D) : wpO (fLen [.v (.frl ds)] S) q = q (.v (.int ds.length)) S := by rw [v_lenQ _ (by simp)]; simp
@[simp ↓] theorem v_lenT (ds : List D) : wpO (fLen [.v (.tup ds)] S) q = q (.v (.int ds.length)) S := by rw [v_lenQ _ (by simp)]; simp
@[simp ↓] theorem v_lenR (n : Nat) : wpO (fLen [.r n] S) q = cellL S[n]? fun xs => q (.v (.int xs.length)) S := by rw [v_lenQ _ (by simp)]; simp
/-! items -/
@[simp] theorem atI_map {α β : Type} (f : α → β) (xs : List α) (i : Int) : atI (xs.map f) i = (atI xs i).map f := by
  unfold atI; rw [List.length_map]; cases ixN xs.length i <;> simp
theorem ixX_q (u : U) (i : Int) (h : ∀ z, u ≠ .v (.str z)) (hd : asDic S u = none) : wpO (fIxX u (.v (.int i)) S) q = seqV S u fun xs => wpo (atI xs i) fun w => q w S := by
  unfold fIxX
  rw [hd]
  have e : fIx u (.v (.int i)) S = (match asSeq S u with
    | some xs => (atI xs i).map fun u => (u, S)
    | none => none) := by
    cases u with
    | v d =>
      cases d with
      | str z => exact absurd rfl (h z)
      | _ => rfl
    | r n => rfl
  simp only [e]
  unfold seqV
  cases asSeq S u with
  | none => rfl
  | some xs => simp only; cases atI xs i <;> rfl
@[simp ↓] theorem v_ixL (ds : List D) (i : Int) : wpO (fIxX (.v (.lst ds)) (.v (.int i)) S) q = wpo (atI ds i) fun d => q (.v d) S := by
  rw [ixX_q _ _ (by simp) rfl]; simp only [seqV_l, atI_map]; cases atI ds i <;> rfl
@[simp ↓] theorem v_ixF (ds : List D) (i : Int) : wpO (fIxX (.v (.frl ds)) (.v (.int i)) S) q = wpo (atI ds i) fun d => q (.v d) S := by
  rw [ixX_q _ _ (by simp) rfl]; simp only [seqV_f, atI_map]; cases atI ds i <;> rfl
@[simp ↓] theorem v_ixT (ds : List D) (i : Int) : wpO (fIxX (.v (.tup ds)) (.v (.int i)) S) q = wpo (atI ds i) fun d => q (.v d) S := by
  rw [ixX_q _ _ (by simp) rfl]; simp only [seqV_t, atI_map]; cases atI ds i <;> rfl
@[simp ↓] theorem v_ixS (z : Str) (i : Int) : wpO (fIxX (.v (.str z)) (.v (.int i)) S) q = (z.length ≤ 100000 ∧ wpo (atI z.cps.toList i) fun c => q (.v (.str ⟨#[c]⟩)) S) := by
  unfold fIxX asDic fIx
  simp only
  by_cases h : z.length ≤ 100000
  · simp only [h, if_true, true_and]; cases atI z.cps.toList i <;> rfl
  · simp [h]
def cellX (c : Option Cell) (i : Int) (k : U → Prop) : Prop := match c with
  | some (.lst xs) => wpo (atI xs i) k
  | _ => False
@[simp ↓] theorem cellX_l (xs : List U) (i : Int) (k : U → Prop) : cellX (some (.lst xs)) i k = wpo (atI xs i) k := id rfl
theorem atI_nat {α : Type} (xs : List α) (n : Nat) : atI xs (n : Int) = xs[n]? := by
  unfold atI ixN
  rw [if_pos (by omega)]
  by_cases h : (n : Int) < xs.length
  · rw [if_pos h]; simp
  · rw [if_neg h, List.getElem?_eq_none (by omega)]; rfl
@[simp ↓] theorem atI_c0 {α : Type} (x : α) (xs : List α) (k : α → Prop) : wpo (atI (x :: xs) 0) k = k x := by rw [show (0 : Int) = ((0 : Nat) : Int) from rfl, atI_nat]; rfl
@[simp ↓] theorem atI_c1 {α : Type} (x y : α) (xs : List α) (k : α → Prop) : wpo (atI (x :: y :: xs) 1) k = k y := by rw [show (1 : Int) = ((1 : Nat) : Int) from rfl, atI_nat]; rfl
@[simp ↓] theorem atI_c2 {α : Type} (x y z : α) (xs : List α) (k : α → Prop) : wpo (atI (x :: y :: z :: xs) 2) k = k z := by rw [show (2 : Int) = ((2 : Nat) : Int) from rfl, atI_nat]; rfl
@[simp ↓] theorem wpo_map {α β : Type} (f : α → β) (o : Option α) (k : β → Prop) : wpo (o.map f) k = wpo o fun x => k (f x) := by cases o <;> rfl
/-- an item that is there -/
theorem atI_get {α : Type} {xs : List α} {i : Int} {k : α → Prop} (x0 : α) (h0 : 0 ≤ i) (h1 : i < xs.length) : wpo (atI xs i) k = k (xs.getD i.toNat x0) := by
  obtain ⟨n, rfl⟩ := Int.eq_ofNat_of_zero_le h0
  have h2 : n < xs.length := by omega
  simp only [Int.toNat_natCast]
  rw [atI_nat, List.getElem?_eq_getElem h2]
  simp [List.getD, List.getElem?_eq_getElem h2]
/-! methods -/
@[simp] theorem isL_l (ds : List D) : isL S (.v (.lst ds)) = true := id rfl
@[simp] theorem isS_s (z : Str) : isS S (.v (.str z)) = true := id rfl
theorem isL_r (n : Nat) (k : Prop) : (isL S (.r n) = true ∧ k) = cellL S[n]? fun _ => k := by
  unfold isL asList cellL
  simp only
  cases S[n]? with
  | none => simp
  | some c => cases c <;> simp
@[simp ↓] theorem v_append (n : Nat) (u : U) : wpO (fAppend (.r n) [u] S) q = cellL S[n]? fun xs => xs.length < 100000 ∧ q (.v .non) (S.set n (.lst (xs ++ [u]))) := by
  unfold fAppend cellL
  simp only
  cases S[n]? with
  | none => rfl
  | some c =>
    cases c with
    | lst xs => by_cases h : xs.length < 100000 <;> simp [h]
    | _ => rfl
@[simp ↓] theorem v_reverse (n : Nat) : wpO (fReverse (.r n) [] S) q = cellL S[n]? fun xs => q (.v .non) (S.set n (.lst xs.reverse)) := by
  unfold fReverse cellL
  simp only
  cases S[n]? with
  | none => rfl
  | some c => cases c <;> rfl
/-! the store -/
@[simp] theorem sto_0 (S l : Sto) : (S ++ l)[S.length]? = l[0]? := by rw [List.getElem?_append_right (Nat.le_refl _)]; simp
@[simp] theorem sto_k (S l : Sto) (k : Nat) : (S ++ l)[S.length + k]? = l[k]? := by rw [List.getElem?_append_right (by omega)]; simp
@[simp] theorem set_0 (S l : Sto) (c : Cell) : (S ++ l).set S.length c = S ++ l.set 0 c := by rw [List.set_append_right _ _ (Nat.le_refl _)]; simp
@[simp] theorem set_k (S l : Sto) (k : Nat) (c : Cell) : (S ++ l).set (S.length + k) c = S ++ l.set k c := by rw [List.set_append_right _ _ (by omega)]; simp
/-! the end of a def that leaves the caller's cells -/
@[simp] theorem fixS_same (S l : Sto) : fixS S (S ++ l) = some S := by unfold fixS; rw [if_pos (by simp)]
@[simp] theorem fixS_id (S : Sto) : fixS S S = some S := by unfold fixS; rw [if_pos (by simp)]
@[simp] theorem fin_v (S : Sto) (d : D) (l : Sto) : fin S (.v d) (S ++ l) = .ok (.v d) S := by unfold fin; simp [fixU]
@[simp] theorem fin_v0 (S : Sto) (d : D) : fin S (.v d) S = .ok (.v d) S := by unfold fin; simp [fixU]
theorem fin_l {S l : Sto} {k : Nat} {ds : List D} (h : l[k]? = some (.lst (ds.map U.v))) : fin S (.r (S.length + k)) (S ++ l) = .ok (.v (.lst ds)) S := by
  unfold fin
  simp only [fixU, fixS_same]
  rw [if_neg (by omega)]
  have e : frz S.length 4 (S ++ l) (.r (S.length + k)) = some (.lst ds) := by
    show (if S.length + k < S.length then none else _) = _
    rw [if_neg (by omega), sto_k, h]
    simp
  rw [e]; rfl
theorem fin_l0 {S l : Sto} {ds : List D} : fin S (.r S.length) (S ++ .lst (ds.map U.v) :: l) = .ok (.v (.lst ds)) S := fin_l (k := 0) rfl
end
/-! ### a list comprehension whose turns leave the store -/
theorem lc_go {src : Option Nat} {c0 : Option Cell} {g : MG} {t : MT} {e : ME} {ρ : Env'} {S : Sto} (p : D → Bool) (f : D → D) : ∀ (ds acc : List D), acc.length + ds.length < 100000 → (∀ acc : List D, srcOk src c0 (S ++ [.lst (acc.map U.v)])) →
    (∀ d ∈ ds, ∀ acc : List D, ∃ ρ1, g (.v d) ρ = some ρ1 ∧ t ρ1 (S ++ [.lst (acc.map U.v)]) = .ok (p d) (S ++ [.lst (acc.map U.v)]) ∧ (p d = true → e ρ1 (S ++ [.lst (acc.map U.v)]) = .ok (.v (f d)) (S ++ [.lst (acc.map U.v)]))) →
    lcGo src c0 g t e S.length (ds.map U.v) ρ (S ++ [.lst (acc.map U.v)]) = .ok () (S ++ [.lst ((acc ++ (ds.filter p).map f).map U.v)])
  | [], acc, hl, hs, h => by simp [lcGo]
  | d :: ds, acc, hl, hs, h => by
    obtain ⟨ρ1, h1, h2, h3⟩ := h d (by simp) acc
    simp only [List.map_cons, lcGo, h1, h2, noEx_ok, R.bind_ok]
    cases hp : p d with
    | false =>
      simp only [Bool.false_eq_true, if_false]
      rw [if_pos (hs acc), lc_go p f ds acc (by simp at hl; omega) hs (fun d hd => h d (by simp [hd]))]
      simp [hp]
    | true =>
      simp only [if_true, h3 hp, noEx_ok, R.bind_ok, sto_0, List.getElem?_cons_zero, set_0, List.set_cons_zero]
      rw [if_pos ⟨by simp at hl ⊢; omega, hs acc⟩]
      have := lc_go p f ds (acc ++ [f d]) (by simp at hl ⊢; omega) hs (fun d hd => h d (by simp [hd]))
      simp only [List.map_append, List.map_cons, List.map_nil] at this
      rw [this]
      simp [hp]
theorem lcV_eq {vs : List Nat} {it : MI} {g : MG} {t : MT} {e : ME} {ρ : Env'} {S S1 : Sto} {src : Option Nat} {ds : List D} (p : D → Bool) (f : D → D) (hi : it ρ S = .ok ⟨ds.map U.v, src⟩ S1) (hl : ds.length < 100000) (hs : ∀ n, src = some n → n < S1.length)
    (h : ∀ d ∈ ds, ∀ acc : List D, ∃ ρ1, g (.v d) (wipeE ρ vs) = some ρ1 ∧ t ρ1 (S1 ++ [.lst (acc.map U.v)]) = .ok (p d) (S1 ++ [.lst (acc.map U.v)]) ∧ (p d = true → e ρ1 (S1 ++ [.lst (acc.map U.v)]) = .ok (.v (f d)) (S1 ++ [.lst (acc.map U.v)]))) :
    eLcV vs it g t e ρ S = .ok (.v (.lst ((ds.filter p).map f))) S1 := by
  have so : ∀ l : Sto, srcOk src (src.bind fun n => S1[n]?) (S1 ++ l) := fun l => by
    unfold srcOk
    cases src with
    | none => trivial
    | some n => simp only [Option.bind_some]; rw [List.getElem?_append_left (hs n rfl)]
  have hg := lc_go (src := src) (c0 := src.bind fun n => S1[n]?) (S := S1) p f ds [] (by simpa using hl) (fun acc => so _) h
  simp only [List.map_nil, List.nil_append] at hg
  unfold eLcV lcRun
  simp only [hi, R.bind_ok]
  rw [if_pos (so _), hg]
  simp only [R.bind_ok, kfV, sto_0, List.getElem?_cons_zero, allV_map, if_true]
end Pu
/-! Pu: more value functions on plain values. -/
namespace Pu
open PySem L2
section
variable {q : U → Sto → Prop} {S : Sto} {X : XP}
/-! equality -/
@[simp] theorem datAt_bl (n : Nat) (b : Bool) : datAt n (.bl b) = false := by cases n <;> rfl
theorem v_eq {a b : D} (ha : isDat a = true) (hb : isDat b = true) : wpO (fEq (.v a) (.v b) S) q = q (.v (.bl (decide (a = b)))) S := by
  unfold fEq deL eqD
  simp only [ha, hb, and_self, if_true]
  rfl
theorem v_ne {a b : D} (ha : isDat a = true) (hb : isDat b = true) : wpO (fNe (.v a) (.v b) S) q = q (.v (.bl (!decide (a = b)))) S := by
  unfold fNe deL eqD
  simp only [ha, hb, and_self, if_true]
  rfl
@[simp ↓] theorem v_eqI (i j : Int) : wpO (fEq (.v (.int i)) (.v (.int j)) S) q = q (.v (.bl (decide (i = j)))) S := by rw [v_eq (by simp) (by simp)]; simp
@[simp ↓] theorem v_neI (i j : Int) : wpO (fNe (.v (.int i)) (.v (.int j)) S) q = q (.v (.bl (!decide (i = j)))) S := by rw [v_ne (by simp) (by simp)]; simp
@[simp ↓] theorem v_eqS (i j : Str) : wpO (fEq (.v (.str i)) (.v (.str j)) S) q = q (.v (.bl (decide (i = j)))) S := by rw [v_eq (by simp) (by simp)]; simp
@[simp ↓] theorem v_eqB (i j : Bool) : wpO (fEq (.v (.bl i)) (.v (.bl j)) S) q = q (.v (.bl (decide (i = j)))) S := by
  unfold fEq deL eqD; simp only [datAt_bl, isDat, Bool.false_eq_true, and_self, if_false]; rfl
@[simp ↓] theorem v_neB (i j : Bool) : wpO (fNe (.v (.bl i)) (.v (.bl j)) S) q = q (.v (.bl (!decide (i = j)))) S := by
  unfold fNe deL eqD; simp only [datAt_bl, isDat, Bool.false_eq_true, and_self, if_false]; rfl
theorem v_neL {n m : Nat} {xs ys : List D} (h1 : S[n]? = some (.lst (xs.map U.v))) (h2 : S[m]? = some (.lst (ys.map U.v))) (ha : isDat (.lst xs) = true) (hb : isDat (.lst ys) = true) : wpO (fNe (.r n) (.r m) S) q = q (.v (.bl (!decide (xs = ys)))) S := by
  unfold fNe deL eqD
  simp only [h1, h2, allV_map, Option.map_some, ha, hb, and_self, if_true]
  show q _ S = _
  simp
theorem v_eqRV {n : Nat} {xs ys : List D} (h1 : S[n]? = some (.lst (xs.map U.v))) (ha : isDat (.lst xs) = true) (hb : isDat (.lst ys) = true) : wpO (fEq (.r n) (.v (.lst ys)) S) q = q (.v (.bl (decide (xs = ys)))) S := by
  unfold fEq deL eqD
  simp only [h1, allV_map, Option.map_some, ha, hb, and_self, if_true]
  show q _ S = _
  simp
/-! fields -/
def cellI (c : Option Cell) (k : Nat → List (Str × U) → Prop) : Prop := match c with
  | some (.ins c fs) => k c fs
  | _ => False
@[simp ↓] theorem cellI_i (c : Nat) (fs : List (Str × U)) (k : Nat → List (Str × U) → Prop) : cellI (some (.ins c fs)) k = k c fs := id rfl
@[simp ↓] theorem isIns_r (n : Nat) (k : Nat → List (Str × U) → Prop) : isIns S (.r n) k = cellI S[n]? k := by
  unfold isIns asIns cellI
  simp only
  cases S[n]? with
  | none => rfl
  | some c => cases c <;> rfl
@[simp ↓] theorem isIns_v (c : Nat) (fs : List (Str × D)) (k : Nat → List (Str × U) → Prop) : isIns S (.v (.ins c fs)) k = k c (fs.map fun p => (p.1, .v p.2)) := id rfl
@[simp ↓] theorem putFld_r (cs : List Nat) (f : Str) (u : U) (n : Nat) (k : Sto → Prop) : putFld cs f u (.r n) S k = cellI S[n]? fun c fs => (c ∈ cs ∧ fs.length < 900) ∧ k (S.set n (.ins c (putU f u fs))) := by
  cases h : S[n]? with
  | none => simp [putFld, cellI, h]
  | some c => cases c <;> simp [putFld, cellI, h]
@[simp ↓] theorem v_fld (cs : List Nat) (f : Str) (u : U) : wpO (fFld cs f u S) q = isIns S u fun c fs => c ∈ cs ∧ wpo (fs.lookup f) fun z => q z S := by
  unfold fFld isIns
  cases asIns S u with
  | none => rfl
  | some p =>
    by_cases h : p.1 ∈ cs
    · simp only [h, if_true, true_and]; cases p.2.lookup f <;> rfl
    · simp [h]
/-! slices -/
@[simp ↓] theorem v_slS (z : Str) (lo hi : Option Int) : wpO (fSl (.v (.str z)) lo hi S) q = (z.length ≤ 100000 ∧ q (.v (.str (cutS z lo hi))) S) := by
  unfold fSl; by_cases h : z.length ≤ 100000 <;> simp [h]
@[simp ↓] theorem v_slT (ds : List D) (lo hi : Option Int) : wpO (fSl (.v (.tup ds)) lo hi S) q = q (.v (.tup (cutU ds lo hi))) S := id rfl
theorem cutU_map {α β : Type} (f : α → β) (xs : List α) (lo hi : Option Int) : cutU (xs.map f) lo hi = (cutU xs lo hi).map f := by unfold cutU; simp
@[simp ↓] theorem v_slL (ds : List D) (lo hi : Option Int) : wpO (fSl (.v (.lst ds)) lo hi S) q = q (.v (.lst (cutU ds lo hi))) S := by
  unfold fSl asList
  simp only [cutU_map, allV_map, Option.map_some]
  rfl
@[simp ↓] theorem v_revL (ds : List D) : wpO (fRev (.v (.lst ds)) S) q = q (.v (.lst ds.reverse)) S := by
  unfold fRev asList
  simp only [← List.map_reverse, allV_map, Option.map_some]
  rfl
@[simp ↓] theorem v_revR (n : Nat) : wpO (fRev (.r n) S) q = cellL S[n]? fun xs => wpo (allV xs.reverse) fun ds => q (.v (.lst ds)) S := by
  unfold fRev asList cellL
  simp only
  cases S[n]? with
  | none => rfl
  | some c =>
    cases c with
    | lst xs => simp only; cases allV xs.reverse <;> rfl
    | _ => rfl
theorem cutS_len (z : Str) (lo hi : Option Int) : (cutS z lo hi).length ≤ z.length := by
  unfold cutS
  show (List.toArray _).size ≤ z.cps.size
  simp
  omega
/-! join -/
@[simp] theorem allS_map (xs : List Str) : allS (xs.map fun x => U.v (.str x)) = some xs := by
  induction xs with
  | nil => rfl
  | cons x xs ih => simp [allS, ih]
theorem v_join (a : Str) (xs : List Str) (h : (xs.map (·.length)).sum + xs.length * a.length ≤ 100000) : wpO (fJoin (.v (.str a)) [.v (.lst (xs.map D.str))] S) q = q (.v (.str (Txt.join a xs))) S := by
  unfold fJoin asSeq
  simp only [List.map_map]
  rw [show (U.v ∘ D.str) = fun x => U.v (.str x) from rfl, allS_map]
  simp [h]
/-! dicts -/
def dicV (S : Sto) (u : U) (k : List (D × U) → Prop) : Prop := match asDic S u with
  | some kvs => k kvs
  | none => False
def cellD (c : Option Cell) (k : List (D × U) → Prop) : Prop := match c with
  | some (.dic kvs) => k kvs
  | _ => False
@[simp ↓] theorem cellD_d (kvs : List (D × U)) (k : List (D × U) → Prop) : cellD (some (.dic kvs)) k = k kvs := id rfl
@[simp ↓] theorem dicV_v (kvs : List (D × D)) (k : List (D × U) → Prop) : dicV S (.v (.dic kvs)) k = k (kvs.map fun p => (p.1, .v p.2)) := id rfl
@[simp ↓] theorem dicV_r (n : Nat) (k : List (D × U) → Prop) : dicV S (.r n) k = cellD S[n]? k := by
  unfold dicV asDic cellD
  simp only
  cases S[n]? with
  | none => rfl
  | some c => cases c <;> rfl
theorem v_inD {neg : Bool} {u : U} {ks : List D} {kvs : List (D × U)} (h : asDic S u = some kvs) : wpO (fInX neg (.v (.tup ks)) u S) q = (isKey (.tup ks) = true ∧ q (.v (.bl (cond neg (!dhas kvs (.tup ks)) (dhas kvs (.tup ks))))) S) := by
  unfold fInX
  rw [h]
  by_cases hk : isKey (.tup ks) = true <;> simp [hk]
theorem v_setD {n : Nat} {ks : List D} {v : U} {kvs : List (D × U)} {k : Sto → Prop} (h : S[n]? = some (.dic kvs)) : wpS (fSet (.r n) (.v (.tup ks)) v S) k = ((isKey (.tup ks) = true ∧ kvs.length < 100000) ∧ k (S.set n (.dic (dput kvs (.tup ks) v)))) := by
  unfold fSet
  simp only [h]
  by_cases hk : isKey (.tup ks) = true ∧ kvs.length < 100000
  · rw [if_pos hk, wpS_some, eq_iff_iff]; exact ⟨fun z => ⟨hk, z⟩, fun z => z.2⟩
  · rw [if_neg hk, wpS_none, eq_iff_iff]; exact ⟨False.elim, fun z => hk z.1⟩
@[simp] theorem isDc_v (kvs : List (D × D)) : isDc S (.v (.dic kvs)) = true := rfl
theorem v_get2 {u w : U} {ks : List D} {kvs : List (D × U)} (h : asDic S u = some kvs) : wpO (fGet u [.v (.tup ks), w] S) q = (isKey (.tup ks) = true ∧ q ((dget kvs (.tup ks)).getD w) S) := by
  unfold fGet
  rw [h]
  by_cases hk : isKey (.tup ks) = true <;> simp [hk]
/-! isinstance -/
@[simp ↓] theorem v_isi (u : U) (T : String) : wpO (fIsi [u, .v (.ty T)] S) q = wpo (tyNm S u) fun t => wpo (kitB t T) fun b => q (.v (.bl b)) S := by
  unfold fIsi
  simp only
  cases tyNm S u with
  | none => rfl
  | some t => simp only [Option.bind_some, wpo_some]; cases kitB t T <;> rfl
@[simp] theorem tyNm_i (i : Int) : tyNm S (.v (.int i)) = some "int" := id rfl
@[simp] theorem tyNm_b (i : Bool) : tyNm S (.v (.bl i)) = some "bool" := id rfl
@[simp] theorem tyNm_s (i : Str) : tyNm S (.v (.str i)) = some "str" := id rfl
@[simp] theorem tyNm_t (i : List D) : tyNm S (.v (.tup i)) = some "tuple" := id rfl
@[simp] theorem tyNm_l (i : List D) : tyNm S (.v (.lst i)) = some "list" := id rfl
@[simp] theorem tyNm_n : tyNm S (.v .non) = some "NoneType" := id rfl
end
/-! ### the caller's cells -/
def uOk (n : Nat) : U → Bool
  | .v _ => true
  | .r m => decide (m < n)
def cOk (n : Nat) : Cell → Bool
  | .lst xs => xs.all (uOk n)
  | .dic kvs => kvs.all fun p => uOk n p.2
  | .ins _ fs => fs.all fun p => uOk n p.2
  | .dead => true
def Wf (S : Sto) : Prop := ∀ c ∈ S, cOk S.length c = true
theorem fixU_id {n k : Nat} {S : Sto} {u : U} (h : uOk n u = true) : fixU n k S u = some u := by
  cases u with
  | v d => rfl
  | r m => unfold fixU; simp only [uOk, decide_eq_true_eq] at h; simp [h]
theorem optAll_id {α : Type} {f : α → Option α} : ∀ {xs : List α}, (∀ x ∈ xs, f x = some x) → optAll f xs = some xs
  | [], _ => rfl
  | x :: xs, h => by
    have ih := optAll_id (xs := xs) fun y hy => h y (List.mem_cons_of_mem _ hy)
    simp [optAll, h x (by simp), ih]
theorem fixC_ok {n k : Nat} {S : Sto} {c : Cell} (h : cOk n c = true) : fixC n k S c = some c := by
  cases c with
  | lst xs => show (optAll _ xs).map _ = _; rw [optAll_id fun x hx => fixU_id (List.all_eq_true.mp h x hx)]; rfl
  | dic xs => show (optAll _ xs).map _ = _; rw [optAll_id fun x hx => by rw [fixU_id (List.all_eq_true.mp h x hx)]; rfl]; rfl
  | ins c xs => show (optAll _ xs).map _ = _; rw [optAll_id fun x hx => by rw [fixU_id (List.all_eq_true.mp h x hx)]; rfl]; rfl
  | dead => rfl
theorem uOk_mono {n m : Nat} (h : n ≤ m) {u : U} (hu : uOk n u = true) : uOk m u = true := by
  cases u with
  | v d => rfl
  | r k => simp only [uOk, decide_eq_true_eq] at hu ⊢; omega
theorem cOk_mono {n m : Nat} (h : n ≤ m) {c : Cell} (hc : cOk n c = true) : cOk m c = true := by
  cases c with
  | lst xs => exact List.all_eq_true.mpr fun x hx => uOk_mono h (List.all_eq_true.mp hc x hx)
  | dic xs => exact List.all_eq_true.mpr fun x hx => uOk_mono h (List.all_eq_true.mp hc x hx)
  | ins c xs => exact List.all_eq_true.mpr fun x hx => uOk_mono h (List.all_eq_true.mp hc x hx)
  | dead => rfl
theorem optAll_app {α β : Type} {f : α → Option β} {xs ys : List α} {as bs : List β} (h1 : optAll f xs = some as) (h2 : optAll f ys = some bs) : optAll f (xs ++ ys) = some (as ++ bs) := by
  induction xs generalizing as with
  | nil => simp [optAll] at h1; subst h1; exact h2
  | cons x xs ih =>
    unfold optAll at h1
    cases q : f x with
    | none => rw [q] at h1; cases h1
    | some y =>
      rw [q] at h1
      simp only [Option.map_eq_some_iff] at h1
      obtain ⟨bs', e1, rfl⟩ := h1
      simp [optAll, q, ih e1]
/-- the cells S stay, behind them cs were the def's arguments' and became ds -/
theorem fixS_tail {S cs ds l es : Sto} (hw : ∀ c ∈ S, cOk (S.length + cs.length) c = true) (hl : cs.length = ds.length) (h : optAll (fixC (S.length + cs.length) 4 (S ++ (ds ++ l))) ds = some es) (hne : ds = cs → es = cs) : fixS (S ++ cs) (S ++ (ds ++ l)) = some (S ++ es) := by
  unfold fixS
  have e : (S ++ (ds ++ l)).take (S ++ cs).length = S ++ ds := by
    rw [List.length_append, hl, List.take_append, List.take_of_length_le (by omega)]
    simp
  rw [e]
  split
  · rename_i h2
    have h3 : ds = cs := List.append_cancel_left h2
    rw [hne h3]
  · rw [List.length_append]
    exact optAll_app (optAll_id fun c hc => fixC_ok (hw c hc)) h
theorem eq_of_wpr {α : Type} {r : R α} {a : α} {S : Sto} (h : wpr r (fun x T => x = a ∧ T = S) (fun _ _ _ => False)) : r = .ok a S := by
  cases r with
  | ok x T => obtain ⟨rfl, rfl⟩ := (show x = a ∧ T = S from h); rfl
  | ex c fs T => exact (show False from h).elim
  | er => exact (show False from h).elim
theorem w_lcV {vs : List Nat} {it : MI} {g : MG} {t : MT} {e : ME} {ρ : Env'} {S S1 : Sto} {src : Option Nat} {ds : List D} {q : U → Sto → Prop} {X : XP} (p : D → Bool) (f : D → D)
    (hi : wpr (it ρ S) (fun iv T => iv = ⟨ds.map U.v, src⟩ ∧ T = S1) (fun _ _ _ => False)) (hl : ds.length < 100000) (hs : ∀ n, src = some n → n < S1.length)
    (h : ∀ d ∈ ds, ∀ acc : List D, wpo (g (.v d) (wipeE ρ vs)) fun ρ1 => wpr (t ρ1 (S1 ++ [.lst (acc.map U.v)])) (fun b T => b = p d ∧ T = S1 ++ [.lst (acc.map U.v)]) (fun _ _ _ => False) ∧
      (p d = true → wpr (e ρ1 (S1 ++ [.lst (acc.map U.v)])) (fun u T => u = .v (f d) ∧ T = S1 ++ [.lst (acc.map U.v)]) (fun _ _ _ => False)))
    (k : q (.v (.lst ((ds.filter p).map f))) S1) : wpr (eLcV vs it g t e ρ S) q X := by
  rw [lcV_eq p f (eq_of_wpr hi) hl hs fun d hd acc => ?_]
  · exact k
  · have h1 := h d hd acc
    cases q : g (.v d) (wipeE ρ vs) with
    | none => rw [q] at h1; exact h1.elim
    | some ρ1 =>
      rw [q] at h1
      exact ⟨ρ1, rfl, eq_of_wpr h1.1, fun z => eq_of_wpr (h1.2 z)⟩
theorem joinL_len (a : List Nat) : ∀ ps : List (List Nat), (TL.joinL a ps).length ≤ (ps.map (·.length)).sum + ps.length * a.length
  | [] => by simp [TL.joinL]
  | [p] => by simp [TL.joinL]
  | p :: q :: r => by
    have ih := joinL_len a (q :: r)
    simp only [TL.joinL, List.length_append, List.map_cons, List.sum_cons, List.length_cons, Nat.add_mul, Nat.one_mul] at ih ⊢
    omega
theorem join_len (a : Str) (ys : List Str) : (Txt.join a ys).length ≤ (ys.map (·.length)).sum + ys.length * a.length := by
  rw [TL.join_eq]
  have e := congrArg List.length (TL.tl_join a ys)
  have h := joinL_len (TL.tl a) (ys.map TL.tl)
  have e2 : (Str.join a ys).length = (TL.tl (Str.join a ys)).length := by
    show (Str.join a ys).cps.size = _
    simp [TL.tl]
  rw [e2, e]
  refine Nat.le_trans h ?_
  simp only [List.map_map, List.length_map]
  have e3 : ((·.length) ∘ TL.tl : Str → Nat) = (·.length) := by
    funext z
    show (TL.tl z).length = z.cps.size
    simp [TL.tl]
  rw [e3]
  have e4 : (TL.tl a).length = a.length := by
    show (TL.tl a).length = a.cps.size
    simp [TL.tl]
  rw [e4]
  exact Nat.le_refl _
theorem sum_ones {α : Type} {g : α → Nat} : ∀ {xs : List α}, (∀ x ∈ xs, g x = 1) → (xs.map g).sum = xs.length
  | [], _ => rfl
  | x :: xs, h => by simp [h x (by simp), sum_ones (xs := xs) fun y hy => h y (List.mem_cons_of_mem _ hy)]; omega
theorem optAll_dic {n k : Nat} {S : Sto} : ∀ kvs : List (D × D), optAll (fun p : D × U => (frz n k S p.2).map fun d => (p.1, d)) (kvs.map fun p => (p.1, U.v p.2)) = some kvs
  | [] => rfl
  | p :: r => by simp [optAll, optAll_dic r]
theorem asSeq_app {S : Sto} {u : U} {xs : List U} (l : Sto) (h : asSeq S u = some xs) : asSeq (S ++ l) u = some xs :=
  asSeq_same h fun n hn => by
    cases u with
    | v d => cases hn
    | r m =>
      obtain rfl : m = n := by cases hn; rfl
      unfold asSeq at h
      simp only at h
      rw [List.getElem?_append_left]
      by_cases hm : m < S.length
      · exact hm
      · rw [List.getElem?_eq_none (by omega)] at h; cases h
theorem src_app {S : Sto} {u : U} {xs : List U} (l l' : Sto) (h : asSeq S u = some xs) : srcOk (srcOf u) ((srcOf u).bind fun n => (S ++ l)[n]?) (S ++ l') := by
  cases u with
  | v d => trivial
  | r m =>
    have hm : m < S.length := by
      by_cases hm : m < S.length
      · exact hm
      · unfold asSeq at h
        simp only at h
        rw [List.getElem?_eq_none (by omega)] at h; cases h
    show (S ++ l')[m]? = (S ++ l)[m]?
    rw [List.getElem?_append_left hm, List.getElem?_append_left hm]
/-- a list of data in a list of cells -/
theorem data_get {α : Type} {f : α → D} {rows : List α} {i : Nat} {w : U} (hw : ((rows.map f).map U.v)[i]? = some w) : ∃ r, rows[i]? = some r ∧ w = .v (f r) ∧ rows.drop i = r :: rows.drop (i + 1) := by
  rw [List.getElem?_map, List.getElem?_map, Option.map_eq_some_iff] at hw
  obtain ⟨d, hd, rfl⟩ := hw
  obtain ⟨r, hr1, rfl⟩ := Option.map_eq_some_iff.mp hd
  obtain ⟨hl, e⟩ := List.getElem?_eq_some_iff.mp hr1
  exact ⟨r, hr1, rfl, by rw [List.drop_eq_getElem_cons hl, e]⟩
theorem ofStr_inj {a b : String} (h : Str.ofString a = Str.ofString b) : a = b := by
  rw [Str.ofString_eq_toList, Str.ofString_eq_toList] at h
  have h1 : (a.toList.map Char.toNat).toArray = (b.toList.map Char.toNat).toArray := congrArg Str.cps h
  have h2 : a.toList.map Char.toNat = b.toList.map Char.toNat := by simpa using congrArg Array.toList h1
  have h3 : a.toList = b.toList := List.map_inj_right (fun x y e => by exact Char.toNat_inj.mp e) |>.mp h2
  exact String.toList_inj.mp h3
@[simp] theorem ofStr_eq (a b : String) : (Str.ofString a = Str.ofString b) = (a = b) := by
  rw [eq_iff_iff]; exact ⟨ofStr_inj, fun h => by rw [h]⟩
@[simp] theorem ofStr_beq (a b : String) : (Str.ofString a == Str.ofString b) = (a == b) := by
  by_cases h : a = b
  · subst h; simp
  · have h2 : Str.ofString a ≠ Str.ofString b := fun z => h (ofStr_inj z)
    rw [beq_eq_false_iff_ne.mpr h, beq_eq_false_iff_ne.mpr h2]
@[simp ↓] theorem lookup_hit {α : Type} (a : String) (v : α) (r : List (Str × α)) (k : α → Prop) : wpo (((Str.ofString a, v) :: r).lookup (Str.ofString a)) k = k v := by
  simp
@[simp ↓] theorem lookup_cons' {α : Type} (a b : String) (v : α) (r : List (Str × α)) (k : α → Prop) : wpo (((Str.ofString a, v) :: r).lookup (Str.ofString b)) k = if b = a then k v else wpo (r.lookup (Str.ofString b)) k := by
  rw [List.lookup_cons]
  by_cases h : b = a
  · subst h; simp
  · have h2 : (Str.ofString b == Str.ofString a) = false := by rw [ofStr_beq]; simpa using h
    rw [h2, if_neg h]
@[simp ↓] theorem wpo_allV_rev (ds : List D) (k : List D → Prop) : wpo (allV (ds.map U.v).reverse) k = k ds.reverse := by rw [← List.map_reverse, wpo_allV_map]
end Pu
namespace K10
open PySem L2 Pu
open PyProof.Rows hiding St
/-! ### the text -/
def top (i : Nat) : Stmt := PySem.Challenge.pw_askshanded_k10_a_dealer_of_rows.main.body.getD i (.Pass ⟨0, 0, 0, 0⟩)
def cBody : Stmt → List Stmt
  | .ClassDef _ _ _ b _ _ _ _ _ _ _ => b
  | _ => []
def inC (i j : Nat) : Stmt := (cBody (top i)).getD j (.Pass ⟨0, 0, 0, 0⟩)
def cl (K : PySem.W.Frag) : Nat → Addr
  | 0 => He.ga K "Dealer"
  | _ => 0
abbrev s_Dealeru_initu : Stmt := inC 1 0
def d_Dealeru_initu : He.DefD := ⟨("Dealer", some "__init__"), "__init__", "Dealer.__init__", defArgs s_Dealeru_initu, defBody s_Dealeru_initu, defScope s_Dealeru_initu, [], [("spare", .int (0))]⟩
abbrev s_Dealeru_callu : Stmt := inC 1 1
def d_Dealeru_callu : He.DefD := ⟨("Dealer", some "__call__"), "__call__", "Dealer.__call__", defArgs s_Dealeru_callu, defBody s_Dealeru_callu, defScope s_Dealeru_callu, [], []⟩
abbrev s__law_cell : Stmt := top 3
def d__law_cell : He.DefD := ⟨("_law_cell", none), "_law_cell", "_law_cell", defArgs s__law_cell, defBody s__law_cell, defScope s__law_cell, [], []⟩
abbrev s__law_draws : Stmt := top 4
def d__law_draws : He.DefD := ⟨("_law_draws", none), "_law_draws", "_law_draws", defArgs s__law_draws, defBody s__law_draws, defScope s__law_draws, [], []⟩
abbrev s__law_asks : Stmt := top 5
def d__law_asks : He.DefD := ⟨("_law_asks", none), "_law_asks", "_law_asks", defArgs s__law_asks, defBody s__law_asks, defScope s__law_asks, [], []⟩
abbrev s__law_whole : Stmt := top 6
def d__law_whole : He.DefD := ⟨("_law_whole", none), "_law_whole", "_law_whole", defArgs s__law_whole, defBody s__law_whole, defScope s__law_whole, [], []⟩
abbrev s__law_standing : Stmt := top 7
def d__law_standing : He.DefD := ⟨("_law_standing", none), "_law_standing", "_law_standing", defArgs s__law_standing, defBody s__law_standing, defScope s__law_standing, [], []⟩
abbrev s__law_step : Stmt := top 8
def d__law_step : He.DefD := ⟨("_law_step", none), "_law_step", "_law_step", defArgs s__law_step, defBody s__law_step, defScope s__law_step, [], []⟩
abbrev s__law_due : Stmt := top 9
def d__law_due : He.DefD := ⟨("_law_due", none), "_law_due", "_law_due", defArgs s__law_due, defBody s__law_due, defScope s__law_due, [], []⟩
abbrev s__law_dealer_holds : Stmt := top 10
def d__law_dealer_holds : He.DefD := ⟨("_law_dealer_holds", none), "_law_dealer_holds", "_law_dealer_holds", defArgs s__law_dealer_holds, defBody s__law_dealer_holds, defScope s__law_dealer_holds, [], []⟩
abbrev s_law : Stmt := top 11
def d_law : He.DefD := ⟨("law", none), "law", "law", defArgs s_law, defBody s_law, defScope s_law, [], []⟩
def gU_Dealeru_initu_spare (us ws : List U) : List U := us ++ ws
theorem hG_Dealeru_initu_spare : GRel (fun vs zs => ((.ref 0 :: vs) ++ zs : List V).tail) gU_Dealeru_initu_spare := fun B ι F H vs zs us ws a b => paired_append a b
theorem hH_Dealeru_initu_spare (v : V) (vs zs : List V) : (v :: vs) ++ zs = v :: (((.ref 0 :: vs) ++ zs : List V)).tail := rfl
def dd_Dealeru_initu : List D := [.int (0)]
theorem DD_Dealeru_initu {cl : Nat → Addr} : Dfl cl (([("spare", .int (0))] : List (Str × V)).map (·.2)) dd_Dealeru_initu := fun _ _ _ _ => .cons (.int _) (.nil)
theorem sc_Dealeru_initu : FnScope ["self", "rows", "spare", "standing", "step", "number"] ["self", "rows", "spare"] (defScope s_Dealeru_initu) := ⟨rfl, rfl, rfl, by decide +kernel, rfl, by decide +kernel, by decide +kernel⟩
theorem v_Dealeru_initu_self : Vis (defScope s_Dealeru_initu) "self" := by unfold Vis; decide +kernel
theorem v_Dealeru_initu_rows : Vis (defScope s_Dealeru_initu) "rows" := by unfold Vis; decide +kernel
theorem v_Dealeru_initu_standing : Vis (defScope s_Dealeru_initu) "standing" := by unfold Vis; decide +kernel
theorem v_Dealeru_initu_step : Vis (defScope s_Dealeru_initu) "step" := by unfold Vis; decide +kernel
theorem v_Dealeru_initu_number : Vis (defScope s_Dealeru_initu) "number" := by unfold Vis; decide +kernel
theorem v_Dealeru_initu_spare : Vis (defScope s_Dealeru_initu) "spare" := by unfold Vis; decide +kernel
theorem l_Dealeru_initu_standing : L2.Loc (defScope s_Dealeru_initu) "standing" := by unfold L2.Loc; decide +kernel
theorem l_Dealeru_initu_step : L2.Loc (defScope s_Dealeru_initu) "step" := by unfold L2.Loc; decide +kernel
theorem l_Dealeru_initu_number : L2.Loc (defScope s_Dealeru_initu) "number" := by unfold L2.Loc; decide +kernel
noncomputable def m_Dealeru_initu : MS := (sSeq (sFld [0] "picks" (eVar 0) (eCB fDicS aNil))
  (sSeq (sFor (iVal (eVar 1)) (gTup 3 (gCons (gName 3) (gCons (gName 4) (gCons (gName 5) gNil))))
  (sIf (tB (eOp (fInX true) (eCB fTup (aCons (eVar 3) (aCons (eVar 4) aNil))) (eUn (fFld [0] "picks") (eVar 0))))
  (sSet (eUn (fFld [0] "picks") (eVar 0)) (eCB fTup (aCons (eVar 3) (aCons (eVar 4) aNil))) (eVar 5))
  sNext))
  (sFld [0] "spare" (eVar 0) (eVar 2))))
theorem sc_Dealeru_callu : FnScope ["self", "standing", "step"] ["self", "standing", "step"] (defScope s_Dealeru_callu) := ⟨rfl, rfl, rfl, by decide +kernel, rfl, by decide +kernel, by decide +kernel⟩
theorem v_Dealeru_callu_self : Vis (defScope s_Dealeru_callu) "self" := by unfold Vis; decide +kernel
theorem v_Dealeru_callu_standing : Vis (defScope s_Dealeru_callu) "standing" := by unfold Vis; decide +kernel
theorem v_Dealeru_callu_step : Vis (defScope s_Dealeru_callu) "step" := by unfold Vis; decide +kernel
noncomputable def m_Dealeru_callu : MS := (sRet (eMtT isDc fGet (eUn (fFld [0] "picks") (eVar 0)) (aCons (eCB fTup (aCons (eVar 1) (aCons (eVar 2) aNil))) (aCons (eUn (fFld [0] "spare") (eVar 0)) aNil))))
theorem sc__law_cell : FnScope ["_law_script", "_law_k"] ["_law_script", "_law_k"] (defScope s__law_cell) := ⟨rfl, rfl, rfl, by decide +kernel, rfl, by decide +kernel, by decide +kernel⟩
theorem v__law_cell__law_k : Vis (defScope s__law_cell) "_law_k" := by unfold Vis; decide +kernel
theorem v__law_cell__law_script : Vis (defScope s__law_cell) "_law_script" := by unfold Vis; decide +kernel
theorem g__law_cell_len : (defScope s__law_cell).names.lookup ("len" : Str) = some .globalImplicit := by decide +kernel
noncomputable def m__law_cell : MS := (sSeq (sIf (tB (eOp (fI (gCmp fun i j => decide (i < j))) (eVar 1) (eCB fLen (aCons (eVar 0) aNil))))
  (sRet (eOp fIxX (eVar 0) (eVar 1)))
  sNext)
  (sRet (eC (.int 0))))
theorem sc__law_draws : FnScope ["_law_script", "_law_k", "_law_many", "_law_cell_here", "_law_row", "_law_seed", "_law_turn", "_law_rest"] ["_law_script", "_law_k", "_law_many"] (defScope s__law_draws) := ⟨rfl, rfl, rfl, by decide +kernel, rfl, by decide +kernel, by decide +kernel⟩
theorem v__law_draws__law_script : Vis (defScope s__law_draws) "_law_script" := by unfold Vis; decide +kernel
theorem v__law_draws__law_k : Vis (defScope s__law_draws) "_law_k" := by unfold Vis; decide +kernel
theorem v__law_draws__law_cell_here : Vis (defScope s__law_draws) "_law_cell_here" := by unfold Vis; decide +kernel
theorem v__law_draws__law_many : Vis (defScope s__law_draws) "_law_many" := by unfold Vis; decide +kernel
theorem v__law_draws__law_row : Vis (defScope s__law_draws) "_law_row" := by unfold Vis; decide +kernel
theorem v__law_draws__law_rest : Vis (defScope s__law_draws) "_law_rest" := by unfold Vis; decide +kernel
theorem v__law_draws__law_seed : Vis (defScope s__law_draws) "_law_seed" := by unfold Vis; decide +kernel
theorem v__law_draws__law_turn : Vis (defScope s__law_draws) "_law_turn" := by unfold Vis; decide +kernel
theorem l__law_draws__law_cell_here : L2.Loc (defScope s__law_draws) "_law_cell_here" := by unfold L2.Loc; decide +kernel
theorem l__law_draws__law_row : L2.Loc (defScope s__law_draws) "_law_row" := by unfold L2.Loc; decide +kernel
theorem l__law_draws__law_rest : L2.Loc (defScope s__law_draws) "_law_rest" := by unfold L2.Loc; decide +kernel
theorem l__law_draws__law_turn : L2.Loc (defScope s__law_draws) "_law_turn" := by unfold L2.Loc; decide +kernel
theorem l__law_draws__law_seed : L2.Loc (defScope s__law_draws) "_law_seed" := by unfold L2.Loc; decide +kernel
theorem g__law_draws__law_cell : (defScope s__law_draws).names.lookup ("_law_cell" : Str) = some .globalImplicit := by decide +kernel
theorem g__law_draws_range : (defScope s__law_draws).names.lookup ("range" : Str) = some .globalImplicit := by decide +kernel
theorem g__law_draws_int : (defScope s__law_draws).names.lookup ("int" : Str) = some .globalImplicit := by decide +kernel
noncomputable def m__law_draws : MS := (sSeq (sAsg (eCall 2 (runF 2 m__law_cell) [] (aCons (eVar 0) (aCons (eVar 1) aNil))) (gName 3))
  (sSeq (sAsg (eCB fLstS aNil) (gName 4))
  (sSeq (sIf (tB (eOp (fI (gCmp fun i j => decide (j ≤ i))) (eVar 3) (eOp (fI gPow) (eC (.int 10)) (eC (.int 18)))))
  (sSeq (sAsg (eOp (fI gSub) (eVar 3) (eOp (fI gPow) (eC (.int 10)) (eC (.int 18)))) (gName 7))
  (sSeq (sFor (iRng1 (aCons (eVar 2) aNil)) (gName 6)
  (sSeq (sExpr (eMtT isL fAppend (eVar 4) (aCons (eOp (fI gMod) (eCB fInt (aCons (eVar 7) aNil)) (eC (.int 64))) aNil)))
  (sAsg (eOp (fI gDiv) (eVar 7) (eC (.int 64))) (gName 7))))
  (sRet (eVar 4))))
  sNext)
  (sSeq (sAsg (eOp (fI gMod) (eCB fInt (aCons (eOp fAdd (eOp fAdd (eOp (fI gMul) (eVar 3) (eC (.int 7919))) (eOp (fI gMul) (eVar 1) (eC (.int 104729)))) (eC (.int 12345))) aNil)) (eC (.int 2147483647))) (gName 5))
  (sSeq (sFor (iRng1 (aCons (eVar 2) aNil)) (gName 6)
  (sSeq (sAsg (eOp (fI gMod) (eCB fInt (aCons (eOp fAdd (eOp fAdd (eOp (fI gMul) (eVar 5) (eC (.int 48271))) (eVar 6)) (eC (.int 11))) aNil)) (eC (.int 2147483647))) (gName 5))
  (sExpr (eMtT isL fAppend (eVar 4) (aCons (eOp (fI gMod) (eCB fInt (aCons (eOp (fI gDiv) (eVar 5) (eC (.int 65536))) aNil)) (eC (.int 64))) aNil)))))
  (sRet (eVar 4)))))))
theorem sc__law_asks : FnScope ["_law_row", "_law_many", "_law_letters", "_law_word", "_law_asks_here", "_law_at", "_law_size", "_law_place", "_law_jump", "_law_letter", "_law_digit"] ["_law_row", "_law_many"] (defScope s__law_asks) := ⟨rfl, rfl, rfl, by decide +kernel, rfl, by decide +kernel, by decide +kernel⟩
theorem v__law_asks__law_row : Vis (defScope s__law_asks) "_law_row" := by unfold Vis; decide +kernel
theorem v__law_asks__law_many : Vis (defScope s__law_asks) "_law_many" := by unfold Vis; decide +kernel
theorem v__law_asks__law_at : Vis (defScope s__law_asks) "_law_at" := by unfold Vis; decide +kernel
theorem v__law_asks__law_asks_here : Vis (defScope s__law_asks) "_law_asks_here" := by unfold Vis; decide +kernel
theorem v__law_asks__law_word : Vis (defScope s__law_asks) "_law_word" := by unfold Vis; decide +kernel
theorem v__law_asks__law_size : Vis (defScope s__law_asks) "_law_size" := by unfold Vis; decide +kernel
theorem v__law_asks__law_letters : Vis (defScope s__law_asks) "_law_letters" := by unfold Vis; decide +kernel
theorem v__law_asks__law_jump : Vis (defScope s__law_asks) "_law_jump" := by unfold Vis; decide +kernel
theorem v__law_asks__law_place : Vis (defScope s__law_asks) "_law_place" := by unfold Vis; decide +kernel
theorem v__law_asks__law_letter : Vis (defScope s__law_asks) "_law_letter" := by unfold Vis; decide +kernel
theorem l__law_asks__law_letters : L2.Loc (defScope s__law_asks) "_law_letters" := by unfold L2.Loc; decide +kernel
theorem l__law_asks__law_word : L2.Loc (defScope s__law_asks) "_law_word" := by unfold L2.Loc; decide +kernel
theorem l__law_asks__law_asks_here : L2.Loc (defScope s__law_asks) "_law_asks_here" := by unfold L2.Loc; decide +kernel
theorem l__law_asks__law_at : L2.Loc (defScope s__law_asks) "_law_at" := by unfold L2.Loc; decide +kernel
theorem l__law_asks__law_size : L2.Loc (defScope s__law_asks) "_law_size" := by unfold L2.Loc; decide +kernel
theorem l__law_asks__law_place : L2.Loc (defScope s__law_asks) "_law_place" := by unfold L2.Loc; decide +kernel
theorem l__law_asks__law_jump : L2.Loc (defScope s__law_asks) "_law_jump" := by unfold L2.Loc; decide +kernel
theorem l__law_asks__law_letter : L2.Loc (defScope s__law_asks) "_law_letter" := by unfold L2.Loc; decide +kernel
theorem g__law_asks_range : (defScope s__law_asks).names.lookup ("range" : Str) = some .globalImplicit := by decide +kernel
theorem g__law_asks_int : (defScope s__law_asks).names.lookup ("int" : Str) = some .globalImplicit := by decide +kernel
noncomputable def m__law_asks : MS := (sSeq (sAsg (eC (.str "abcdefghijklmnopqrstuvwxyz")) (gName 2))
  (sSeq (sAsg (eMtT isS fJoin (eC (.str "")) (aCons (eLcV [10] (iVal (eSl fSl (eVar 0) oNone (oSome (eC (.int 8))))) (gName 10) tYesM (eOp fIxX (eVar 2) (eOp (fI gMod) (eCB fInt (aCons (eVar 10) aNil)) (eC (.int 26))))) aNil)) (gName 3))
  (sSeq (sAsg (eCB fLstS aNil) (gName 4))
  (sSeq (sFor (iRng1 (aCons (eVar 1) aNil)) (gName 5)
  (sSeq (sAsg (eOp fAdd (eOp (fI gMod) (eCB fInt (aCons (eOp fAdd (eOp fIxX (eVar 0) (eC (.int 9))) (eOp (fI gMul) (eC (.int 3)) (eVar 5))) aNil)) (eC (.int 8))) (eC (.int 1))) (gName 6))
  (sIf (tB (eOp fEq (eOp (fI gMod) (eCB fInt (aCons (eOp fIxX (eVar 0) (eC (.int 8))) aNil)) (eC (.int 2))) (eC (.int 0))))
  (sExpr (eMtT isL fAppend (eVar 4) (aCons (eSl fSl (eVar 3) oNone (oSome (eVar 6))) aNil)))
  (sSeq (sAsg (eOp fAdd (eOp (fI gMod) (eCB fInt (aCons (eOp fIxX (eVar 0) (eC (.int 9))) aNil)) (eC (.int 8))) (eC (.int 1))) (gName 6))
  (sSeq (sAsg (eOp (fI gMod) (eCB fInt (aCons (eOp fIxX (eVar 0) (eC (.int 10))) aNil)) (eVar 6)) (gName 7))
  (sSeq (sAsg (eOp fAdd (eOp (fI gMul) (eOp (fI gMod) (eCB fInt (aCons (eOp fIxX (eVar 0) (eC (.int 12))) aNil)) (eC (.int 6))) (eC (.int 2))) (eC (.int 1))) (gName 8))
  (sSeq (sAsg (eOp fIxX (eVar 2) (eOp (fI gMod) (eCB fInt (aCons (eOp fAdd (eOp fIxX (eVar 0) (eC (.int 11))) (eOp (fI gMul) (eVar 8) (eVar 5))) aNil)) (eC (.int 26)))) (gName 9))
  (sExpr (eMtT isL fAppend (eVar 4) (aCons (eOp fAdd (eOp fAdd (eSl fSl (eVar 3) oNone (oSome (eVar 7))) (eVar 9)) (eSl fSl (eVar 3) (oSome (eOp fAdd (eVar 7) (eC (.int 1)))) (oSome (eVar 6)))) aNil))))))))))
  (sRet (eVar 4))))))
theorem sc__law_whole : FnScope ["_law_x"] ["_law_x"] (defScope s__law_whole) := ⟨rfl, rfl, rfl, by decide +kernel, rfl, by decide +kernel, by decide +kernel⟩
theorem v__law_whole__law_x : Vis (defScope s__law_whole) "_law_x" := by unfold Vis; decide +kernel
theorem g__law_whole_int : (defScope s__law_whole).names.lookup ("int" : Str) = some .globalImplicit := by decide +kernel
theorem g__law_whole_isinstance : (defScope s__law_whole).names.lookup ("isinstance" : Str) = some .globalImplicit := by decide +kernel
theorem g__law_whole_bool : (defScope s__law_whole).names.lookup ("bool" : Str) = some .globalImplicit := by decide +kernel
noncomputable def m__law_whole : MS := (sRet (eAnd (eCB fIsi (aCons (eVar 0) (aCons (eC (.ty "int")) aNil))) (eNot (eCB fIsi (aCons (eVar 0) (aCons (eC (.ty "bool")) aNil))))))
theorem sc__law_standing : FnScope ["_law_digit", "_law_asks_here", "_law_known"] ["_law_digit", "_law_asks_here"] (defScope s__law_standing) := ⟨rfl, rfl, rfl, by decide +kernel, rfl, by decide +kernel, by decide +kernel⟩
theorem v__law_standing__law_digit : Vis (defScope s__law_standing) "_law_digit" := by unfold Vis; decide +kernel
theorem v__law_standing__law_asks_here : Vis (defScope s__law_standing) "_law_asks_here" := by unfold Vis; decide +kernel
theorem v__law_standing__law_known : Vis (defScope s__law_standing) "_law_known" := by unfold Vis; decide +kernel
theorem l__law_standing__law_known : L2.Loc (defScope s__law_standing) "_law_known" := by unfold L2.Loc; decide +kernel
theorem g__law_standing_int : (defScope s__law_standing).names.lookup ("int" : Str) = some .globalImplicit := by decide +kernel
noncomputable def m__law_standing : MS := (sSeq (sAsg (eCB fTup aNil) (gName 2))
  (sSeq (sIf (tB (eOp fEq (eOp (fI gMod) (eCB fInt (aCons (eVar 0) aNil)) (eC (.int 3))) (eC (.int 1))))
  (sAsg (eCB fTup (aCons (eCB fTup (aCons (eOp fIxX (eVar 1) (eC (.int 0))) (aCons (eC (.int 1)) aNil))) aNil)) (gName 2))
  sNext)
  (sSeq (sIf (tB (eOp fEq (eOp (fI gMod) (eCB fInt (aCons (eVar 0) aNil)) (eC (.int 3))) (eC (.int 2))))
  (sAsg (eCB fTup (aCons (eCB fTup (aCons (eOp fIxX (eVar 1) (eC (.int 1))) (aCons (eC (.int 0)) aNil))) (aCons (eCB fTup (aCons (eOp fIxX (eVar 1) (eC (.int 0))) (aCons (eC (.int 1)) aNil))) aNil))) (gName 2))
  sNext)
  (sRet (eCB fTup (aCons (eOp (fI gMod) (eOp (fI gDiv) (eCB fInt (aCons (eVar 0) aNil)) (eC (.int 3))) (eC (.int 2))) (aCons (eCB fTup (aCons (eOp (fI gMod) (eOp (fI gDiv) (eCB fInt (aCons (eVar 0) aNil)) (eC (.int 6))) (eC (.int 2))) (aCons (eOp (fI gSub) (eOp (fI gMod) (eOp (fI gDiv) (eCB fInt (aCons (eVar 0) aNil)) (eC (.int 12))) (eC (.int 3))) (eC (.int 1))) aNil))) (aCons (eVar 2) aNil))))))))
theorem sc__law_step : FnScope ["_law_digit", "_law_asks_here"] ["_law_digit", "_law_asks_here"] (defScope s__law_step) := ⟨rfl, rfl, rfl, by decide +kernel, rfl, by decide +kernel, by decide +kernel⟩
theorem v__law_step__law_digit : Vis (defScope s__law_step) "_law_digit" := by unfold Vis; decide +kernel
theorem v__law_step__law_asks_here : Vis (defScope s__law_step) "_law_asks_here" := by unfold Vis; decide +kernel
theorem g__law_step_int : (defScope s__law_step).names.lookup ("int" : Str) = some .globalImplicit := by decide +kernel
noncomputable def m__law_step : MS := (sSeq (sIf (tB (eOp fEq (eOp (fI gMod) (eCB fInt (aCons (eVar 0) aNil)) (eC (.int 6))) (eC (.int 0))))
  (sRet (eC .non))
  sNext)
  (sRet (eCB fTup (aCons (eOp fIxX (eVar 1) (eOp (fI gMod) (eCB fInt (aCons (eVar 0) aNil)) (eC (.int 2)))) (aCons (eOp (fI gMod) (eOp (fI gDiv) (eCB fInt (aCons (eVar 0) aNil)) (eC (.int 2))) (eC (.int 2))) aNil)))))
theorem sc__law_due : FnScope ["_law_rows", "_law_standing_here", "_law_step_here", "_law_spare_due", "_law_row"] ["_law_rows", "_law_standing_here", "_law_step_here", "_law_spare_due"] (defScope s__law_due) := ⟨rfl, rfl, rfl, by decide +kernel, rfl, by decide +kernel, by decide +kernel⟩
theorem v__law_due__law_rows : Vis (defScope s__law_due) "_law_rows" := by unfold Vis; decide +kernel
theorem v__law_due__law_row : Vis (defScope s__law_due) "_law_row" := by unfold Vis; decide +kernel
theorem v__law_due__law_standing_here : Vis (defScope s__law_due) "_law_standing_here" := by unfold Vis; decide +kernel
theorem v__law_due__law_step_here : Vis (defScope s__law_due) "_law_step_here" := by unfold Vis; decide +kernel
theorem v__law_due__law_spare_due : Vis (defScope s__law_due) "_law_spare_due" := by unfold Vis; decide +kernel
theorem l__law_due__law_row : L2.Loc (defScope s__law_due) "_law_row" := by unfold L2.Loc; decide +kernel
noncomputable def m__law_due : MS := (sSeq (sFor (iVal (eVar 0)) (gName 4)
  (sIf (tAnd (tB (eOp fEq (eOp fIxX (eVar 4) (eC (.int 0))) (eVar 1))) (tB (eOp fEq (eOp fIxX (eVar 4) (eC (.int 1))) (eVar 2))))
  (sRet (eOp fIxX (eVar 4) (eC (.int 2))))
  sNext))
  (sRet (eVar 3)))
theorem sc__law_dealer_holds : FnScope ["_law_dealer", "_law_rows", "_law_asks_here", "_law_spare_due", "_law_digit", "_law_other", "_law_standing_here", "_law_step_here", "_law_found"] ["_law_dealer", "_law_rows", "_law_asks_here", "_law_spare_due"] (defScope s__law_dealer_holds) := ⟨rfl, rfl, rfl, by decide +kernel, rfl, by decide +kernel, by decide +kernel⟩
theorem v__law_dealer_holds__law_digit : Vis (defScope s__law_dealer_holds) "_law_digit" := by unfold Vis; decide +kernel
theorem v__law_dealer_holds__law_asks_here : Vis (defScope s__law_dealer_holds) "_law_asks_here" := by unfold Vis; decide +kernel
theorem v__law_dealer_holds__law_other : Vis (defScope s__law_dealer_holds) "_law_other" := by unfold Vis; decide +kernel
theorem v__law_dealer_holds__law_dealer : Vis (defScope s__law_dealer_holds) "_law_dealer" := by unfold Vis; decide +kernel
theorem v__law_dealer_holds__law_standing_here : Vis (defScope s__law_dealer_holds) "_law_standing_here" := by unfold Vis; decide +kernel
theorem v__law_dealer_holds__law_step_here : Vis (defScope s__law_dealer_holds) "_law_step_here" := by unfold Vis; decide +kernel
theorem v__law_dealer_holds__law_found : Vis (defScope s__law_dealer_holds) "_law_found" := by unfold Vis; decide +kernel
theorem v__law_dealer_holds__law_rows : Vis (defScope s__law_dealer_holds) "_law_rows" := by unfold Vis; decide +kernel
theorem v__law_dealer_holds__law_spare_due : Vis (defScope s__law_dealer_holds) "_law_spare_due" := by unfold Vis; decide +kernel
theorem l__law_dealer_holds__law_digit : L2.Loc (defScope s__law_dealer_holds) "_law_digit" := by unfold L2.Loc; decide +kernel
theorem l__law_dealer_holds__law_other : L2.Loc (defScope s__law_dealer_holds) "_law_other" := by unfold L2.Loc; decide +kernel
theorem l__law_dealer_holds__law_standing_here : L2.Loc (defScope s__law_dealer_holds) "_law_standing_here" := by unfold L2.Loc; decide +kernel
theorem l__law_dealer_holds__law_step_here : L2.Loc (defScope s__law_dealer_holds) "_law_step_here" := by unfold L2.Loc; decide +kernel
theorem l__law_dealer_holds__law_found : L2.Loc (defScope s__law_dealer_holds) "_law_found" := by unfold L2.Loc; decide +kernel
theorem g__law_dealer_holds_range : (defScope s__law_dealer_holds).names.lookup ("range" : Str) = some .globalImplicit := by decide +kernel
theorem g__law_dealer_holds__law_standing : (defScope s__law_dealer_holds).names.lookup ("_law_standing" : Str) = some .globalImplicit := by decide +kernel
theorem g__law_dealer_holds__law_step : (defScope s__law_dealer_holds).names.lookup ("_law_step" : Str) = some .globalImplicit := by decide +kernel
theorem g__law_dealer_holds__law_whole : (defScope s__law_dealer_holds).names.lookup ("_law_whole" : Str) = some .globalImplicit := by decide +kernel
theorem g__law_dealer_holds__law_due : (defScope s__law_dealer_holds).names.lookup ("_law_due" : Str) = some .globalImplicit := by decide +kernel
noncomputable def m__law_dealer_holds : MS := (sSeq (sFor (iRng1 (aCons (eC (.int 36)) aNil)) (gName 4)
  (sFor (iRng1 (aCons (eC (.int 6)) aNil)) (gName 5)
  (sSeq (sAsg (eCall 2 (runF 3 m__law_standing) [] (aCons (eVar 4) (aCons (eVar 2) aNil))) (gName 6))
  (sSeq (sAsg (eCall 2 (runF 2 m__law_step) [] (aCons (eVar 5) (aCons (eVar 2) aNil))) (gName 7))
  (sSeq (sAsg (eCallO 0 3 (runF 3 m_Dealeru_callu) (eVar 0) (aCons (eVar 6) (aCons (eVar 7) aNil))) (gName 8))
  (sIf (tOr (tNot (tB (eCall 1 (runF 1 m__law_whole) [] (aCons (eVar 8) aNil)))) (tB (eOp fNe (eVar 8) (eCall 4 (runF 5 m__law_due) [] (aCons (eVar 1) (aCons (eVar 6) (aCons (eVar 7) (aCons (eVar 3) aNil))))))))
  (sRet (eC (.bl false)))
  sNext))))))
  (sRet (eC (.bl true))))
theorem sc_law : FnScope ["_law_script", "_law_shape", "_law_asks_here", "_law_rows", "_law_at", "_law_first", "_law_second", "_law_wanted", "_law_dealer", "_law_other", "_law_row"] ["_law_script"] (defScope s_law) := ⟨rfl, rfl, rfl, by decide +kernel, rfl, by decide +kernel, by decide +kernel⟩
theorem v_law__law_script : Vis (defScope s_law) "_law_script" := by unfold Vis; decide +kernel
theorem v_law__law_shape : Vis (defScope s_law) "_law_shape" := by unfold Vis; decide +kernel
theorem v_law__law_at : Vis (defScope s_law) "_law_at" := by unfold Vis; decide +kernel
theorem v_law__law_rows : Vis (defScope s_law) "_law_rows" := by unfold Vis; decide +kernel
theorem v_law__law_row : Vis (defScope s_law) "_law_row" := by unfold Vis; decide +kernel
theorem v_law__law_asks_here : Vis (defScope s_law) "_law_asks_here" := by unfold Vis; decide +kernel
theorem v_law__law_first : Vis (defScope s_law) "_law_first" := by unfold Vis; decide +kernel
theorem v_law__law_wanted : Vis (defScope s_law) "_law_wanted" := by unfold Vis; decide +kernel
theorem v_law__law_second : Vis (defScope s_law) "_law_second" := by unfold Vis; decide +kernel
theorem v_law__law_dealer : Vis (defScope s_law) "_law_dealer" := by unfold Vis; decide +kernel
theorem v_law__law_other : Vis (defScope s_law) "_law_other" := by unfold Vis; decide +kernel
theorem l_law__law_shape : L2.Loc (defScope s_law) "_law_shape" := by unfold L2.Loc; decide +kernel
theorem l_law__law_asks_here : L2.Loc (defScope s_law) "_law_asks_here" := by unfold L2.Loc; decide +kernel
theorem l_law__law_rows : L2.Loc (defScope s_law) "_law_rows" := by unfold L2.Loc; decide +kernel
theorem l_law__law_at : L2.Loc (defScope s_law) "_law_at" := by unfold L2.Loc; decide +kernel
theorem l_law__law_row : L2.Loc (defScope s_law) "_law_row" := by unfold L2.Loc; decide +kernel
theorem l_law__law_first : L2.Loc (defScope s_law) "_law_first" := by unfold L2.Loc; decide +kernel
theorem l_law__law_second : L2.Loc (defScope s_law) "_law_second" := by unfold L2.Loc; decide +kernel
theorem l_law__law_wanted : L2.Loc (defScope s_law) "_law_wanted" := by unfold L2.Loc; decide +kernel
theorem l_law__law_dealer : L2.Loc (defScope s_law) "_law_dealer" := by unfold L2.Loc; decide +kernel
theorem l_law__law_other : L2.Loc (defScope s_law) "_law_other" := by unfold L2.Loc; decide +kernel
theorem g_law__law_draws : (defScope s_law).names.lookup ("_law_draws" : Str) = some .globalImplicit := by decide +kernel
theorem g_law__law_asks : (defScope s_law).names.lookup ("_law_asks" : Str) = some .globalImplicit := by decide +kernel
theorem g_law_int : (defScope s_law).names.lookup ("int" : Str) = some .globalImplicit := by decide +kernel
theorem g_law_range : (defScope s_law).names.lookup ("range" : Str) = some .globalImplicit := by decide +kernel
theorem g_law__law_standing : (defScope s_law).names.lookup ("_law_standing" : Str) = some .globalImplicit := by decide +kernel
theorem g_law__law_step : (defScope s_law).names.lookup ("_law_step" : Str) = some .globalImplicit := by decide +kernel
theorem g_law_list : (defScope s_law).names.lookup ("list" : Str) = some .globalImplicit := by decide +kernel
theorem g_law_Dealer : (defScope s_law).names.lookup ("Dealer" : Str) = some .globalImplicit := by decide +kernel
theorem g_law__law_dealer_holds : (defScope s_law).names.lookup ("_law_dealer_holds" : Str) = some .globalImplicit := by decide +kernel
noncomputable def m_law : MS := (sSeq (sAsg (eCall 3 (runF 8 m__law_draws) [] (aCons (eVar 0) (aCons (eC (.int 0)) (aCons (eC (.int 6)) aNil)))) (gName 1))
  (sSeq (sAsg (eCall 2 (runF 11 m__law_asks) [] (aCons (eCall 3 (runF 8 m__law_draws) [] (aCons (eVar 0) (aCons (eC (.int 1)) (aCons (eC (.int 13)) aNil)))) (aCons (eC (.int 2)) aNil))) (gName 2))
  (sSeq (sAsg (eCB fLstS aNil) (gName 3))
  (sSeq (sFor (iRng1 (aCons (eOp (fI gMod) (eCB fInt (aCons (eOp fIxX (eVar 1) (eC (.int 0))) aNil)) (eC (.int 13))) aNil)) (gName 4)
  (sSeq (sAsg (eCall 3 (runF 8 m__law_draws) [] (aCons (eVar 0) (aCons (eOp fAdd (eC (.int 2)) (eVar 4)) (aCons (eC (.int 3)) aNil)))) (gName 10))
  (sExpr (eMtT isL fAppend (eVar 3) (aCons (eCB fTup (aCons (eCall 2 (runF 3 m__law_standing) [] (aCons (eOp fIxX (eVar 10) (eC (.int 0))) (aCons (eVar 2) aNil))) (aCons (eCall 2 (runF 2 m__law_step) [] (aCons (eOp fIxX (eVar 10) (eC (.int 1))) (aCons (eVar 2) aNil))) (aCons (eOp (fI gSub) (eOp (fI gMod) (eCB fInt (aCons (eOp fIxX (eVar 10) (eC (.int 2))) aNil)) (eC (.int 12))) (eC (.int 2))) aNil)))) aNil)))))
  (sSeq (sAsg (eCB fListS (aCons (eVar 3) aNil)) (gName 5))
  (sSeq (sAsg (eUn fRev (eVar 3)) (gName 6))
  (sSeq (sAsg (eOp (fI gSub) (eOp (fI gMod) (eCB fInt (aCons (eOp fIxX (eVar 1) (eC (.int 1))) aNil)) (eC (.int 8))) (eC (.int 1))) (gName 7))
  (sSeq (sAsg (eMkK 0 3 1 1 (runF 6 m_Dealeru_initu) gU_Dealeru_initu_spare (aCons (eVar 5) aNil) (aCons (eVar 7) aNil)) (gName 8))
  (sSeq (sIf (tB (eOp fEq (eOp (fI gMod) (eCB fInt (aCons (eOp fIxX (eVar 1) (eC (.int 2))) aNil)) (eC (.int 4))) (eC (.int 0))))
  (sSeq (sAsg (eC (.int 0)) (gName 7))
  (sAsg (eMk 0 3 (runF 6 m_Dealeru_initu) (dd_Dealeru_initu.map U.v) (aCons (eVar 5) aNil)) (gName 8)))
  sNext)
  (sSeq (sAsg (eMkK 0 3 1 1 (runF 6 m_Dealeru_initu) gU_Dealeru_initu_spare (aCons (eVar 6) aNil) (aCons (eC (.int 7)) aNil)) (gName 9))
  (sSeq (sIf (tOr (tB (eOp fNe (eVar 5) (eVar 3))) (tNot (tB (eCall 4 (runF 9 m__law_dealer_holds) [] (aCons (eVar 8) (aCons (eVar 3) (aCons (eVar 2) (aCons (eVar 7) aNil))))))))
  (sRet (eC (.bl false)))
  sNext)
  (sSeq (sExpr (eMtT isL fAppend (eVar 5) (aCons (eCB fTup (aCons (eCall 2 (runF 3 m__law_standing) [] (aCons (eC (.int 0)) (aCons (eVar 2) aNil))) (aCons (eC .non) (aCons (eC (.int 11)) aNil)))) aNil)))
  (sSeq (sExpr (eMtT isL fReverse (eVar 5) aNil))
  (sRet (eAnd (eCall 4 (runF 9 m__law_dealer_holds) [] (aCons (eVar 8) (aCons (eVar 3) (aCons (eVar 2) (aCons (eVar 7) aNil))))) (eCall 4 (runF 9 m__law_dealer_holds) [] (aCons (eVar 9) (aCons (eUn fRev (eVar 3)) (aCons (eVar 2) (aCons (eC (.int 7)) aNil))))))))))))))))))))
structure Facts (K : PySem.W.Frag) (mg : Str → Option Value) : Prop where
  g__law_cell : mg "_law_cell" = some (.ref (He.ga K "_law_cell"))
  g__law_draws : mg "_law_draws" = some (.ref (He.ga K "_law_draws"))
  g__law_asks : mg "_law_asks" = some (.ref (He.ga K "_law_asks"))
  g__law_whole : mg "_law_whole" = some (.ref (He.ga K "_law_whole"))
  g__law_standing : mg "_law_standing" = some (.ref (He.ga K "_law_standing"))
  g__law_step : mg "_law_step" = some (.ref (He.ga K "_law_step"))
  g__law_due : mg "_law_due" = some (.ref (He.ga K "_law_due"))
  g__law_dealer_holds : mg "_law_dealer_holds" = some (.ref (He.ga K "_law_dealer_holds"))
  g_law : mg "law" = some (.ref (He.ga K "law"))
  g_Dealer : mg "Dealer" = some (.ref (cl K 0))
  c_Dealer : Cls K (cl K 0)
  k_Dealer : Mk K (cl K 0) (He.ma K (He.ga K "Dealer") "__init__")
  m_Dealeru_callu : Meth K (cl K 0) "__call__" (He.ma K (He.ga K "Dealer") "__call__")
  f_bool : mg "bool" = none
  f_int : mg "int" = none
  f_isinstance : mg "isinstance" = none
  f_len : mg "len" = none
  f_list : mg "list" = none
  f_range : mg "range" = none
  na_Dealer_picks : NoAttr K (cl K 0) "picks"
  na_Dealer_spare : NoAttr K (cl K 0) "spare"
  d_Dealeru_initu : ∃ fd, FunD K "__init__" "Dealer.__init__" (defArgs s_Dealeru_initu) (defBody s_Dealeru_initu) (defScope s_Dealeru_initu) [] [("spare", .int (0))] (He.ma K (He.ga K "Dealer") "__init__") fd
  d_Dealeru_callu : ∃ fd, FunD K "__call__" "Dealer.__call__" (defArgs s_Dealeru_callu) (defBody s_Dealeru_callu) (defScope s_Dealeru_callu) [] [] (He.ma K (He.ga K "Dealer") "__call__") fd
  d__law_cell : ∃ fd, FunD K "_law_cell" "_law_cell" (defArgs s__law_cell) (defBody s__law_cell) (defScope s__law_cell) [] [] (He.ga K "_law_cell") fd
  d__law_draws : ∃ fd, FunD K "_law_draws" "_law_draws" (defArgs s__law_draws) (defBody s__law_draws) (defScope s__law_draws) [] [] (He.ga K "_law_draws") fd
  d__law_asks : ∃ fd, FunD K "_law_asks" "_law_asks" (defArgs s__law_asks) (defBody s__law_asks) (defScope s__law_asks) [] [] (He.ga K "_law_asks") fd
  d__law_whole : ∃ fd, FunD K "_law_whole" "_law_whole" (defArgs s__law_whole) (defBody s__law_whole) (defScope s__law_whole) [] [] (He.ga K "_law_whole") fd
  d__law_standing : ∃ fd, FunD K "_law_standing" "_law_standing" (defArgs s__law_standing) (defBody s__law_standing) (defScope s__law_standing) [] [] (He.ga K "_law_standing") fd
  d__law_step : ∃ fd, FunD K "_law_step" "_law_step" (defArgs s__law_step) (defBody s__law_step) (defScope s__law_step) [] [] (He.ga K "_law_step") fd
  d__law_due : ∃ fd, FunD K "_law_due" "_law_due" (defArgs s__law_due) (defBody s__law_due) (defScope s__law_due) [] [] (He.ga K "_law_due") fd
  d__law_dealer_holds : ∃ fd, FunD K "_law_dealer_holds" "_law_dealer_holds" (defArgs s__law_dealer_holds) (defBody s__law_dealer_holds) (defScope s__law_dealer_holds) [] [] (He.ga K "_law_dealer_holds") fd
  d_law : ∃ fd, FunD K "law" "law" (defArgs s_law) (defBody s_law) (defScope s_law) [] [] (He.ga K "law") fd
def fa : List He.Fa := [.glo "_law_cell", .glo "_law_draws", .glo "_law_asks", .glo "_law_whole", .glo "_law_standing", .glo "_law_step", .glo "_law_due", .glo "_law_dealer_holds", .glo "law", .glo "Dealer", .cls "Dealer", .mkr "Dealer", .meth "Dealer" "__call__", .free "bool", .free "int", .free "isinstance", .free "len", .free "list", .free "range", .noat "Dealer" "picks", .noat "Dealer" "spare"]
def fn : List He.DefD := [d_Dealeru_initu, d_Dealeru_callu, d__law_cell, d__law_draws, d__law_asks, d__law_whole, d__law_standing, d__law_step, d__law_due, d__law_dealer_holds, d_law]
theorem facts {K : PySem.W.Frag} {h : Heap} {mg : Str → Option Value} (X : K.In h) (Gl : h.Ns mainGlobals mg) (c : He.SaysD fa fn K) : Facts K mg where
  g__law_cell := He.glo_ok X Gl (c.fact 0 rfl)
  g__law_draws := He.glo_ok X Gl (c.fact 1 rfl)
  g__law_asks := He.glo_ok X Gl (c.fact 2 rfl)
  g__law_whole := He.glo_ok X Gl (c.fact 3 rfl)
  g__law_standing := He.glo_ok X Gl (c.fact 4 rfl)
  g__law_step := He.glo_ok X Gl (c.fact 5 rfl)
  g__law_due := He.glo_ok X Gl (c.fact 6 rfl)
  g__law_dealer_holds := He.glo_ok X Gl (c.fact 7 rfl)
  g_law := He.glo_ok X Gl (c.fact 8 rfl)
  g_Dealer := He.glo_ok X Gl (c.fact 9 rfl)
  c_Dealer := He.cls_ok (c.fact 10 rfl)
  k_Dealer := He.mkr_ok (c.fact 11 rfl)
  m_Dealeru_callu := He.meth_ok (c.fact 12 rfl)
  f_bool := He.free_ok X Gl (c.fact 13 rfl)
  f_int := He.free_ok X Gl (c.fact 14 rfl)
  f_isinstance := He.free_ok X Gl (c.fact 15 rfl)
  f_len := He.free_ok X Gl (c.fact 16 rfl)
  f_list := He.free_ok X Gl (c.fact 17 rfl)
  f_range := He.free_ok X Gl (c.fact 18 rfl)
  na_Dealer_picks := He.noat_ok (c.fact 19 rfl)
  na_Dealer_spare := He.noat_ok (c.fact 20 rfl)
  d_Dealeru_initu := c.def_ 0 (d := d_Dealeru_initu) rfl
  d_Dealeru_callu := c.def_ 1 (d := d_Dealeru_callu) rfl
  d__law_cell := c.def_ 2 (d := d__law_cell) rfl
  d__law_draws := c.def_ 3 (d := d__law_draws) rfl
  d__law_asks := c.def_ 4 (d := d__law_asks) rfl
  d__law_whole := c.def_ 5 (d := d__law_whole) rfl
  d__law_standing := c.def_ 6 (d := d__law_standing) rfl
  d__law_step := c.def_ 7 (d := d__law_step) rfl
  d__law_due := c.def_ 8 (d := d__law_due) rfl
  d__law_dealer_holds := c.def_ 9 (d := d__law_dealer_holds) rfl
  d_law := c.def_ 10 (d := d_law) rfl
theorem Facts.n_picks {K : PySem.W.Frag} {mg : Str → Option Value} (G : Facts K mg) : ClsF K (cl K) [0] "picks" := by
  intro c hc
  simp only [List.mem_cons, List.not_mem_nil, or_false] at hc
  rcases hc with rfl
  · exact ⟨G.c_Dealer, G.na_Dealer_picks⟩
theorem Facts.n_spare {K : PySem.W.Frag} {mg : Str → Option Value} (G : Facts K mg) : ClsF K (cl K) [0] "spare" := by
  intro c hc
  simp only [List.mem_cons, List.not_mem_nil, or_false] at hc
  rcases hc with rfl
  · exact ⟨G.c_Dealer, G.na_Dealer_spare⟩
theorem Facts.o_Dealer {K : PySem.W.Frag} {mg : Str → Option Value} (G : Facts K mg) : StX.CallO K (cl K 0) (He.ma K (He.ga K "Dealer") "__call__") := ⟨G.m_Dealeru_callu.at_, G.m_Dealeru_callu.fn, fnIn_of G.d_Dealeru_callu.choose_spec⟩
section
variable {P : Program} {w : World} {K : PySem.W.Frag} {mg : Str → Option Value} {base : Heap}
theorem ok_Dealeru_initu (G : Facts K mg) : ∃ fd, FunD K "__init__" "Dealer.__init__" (defArgs s_Dealeru_initu) (defBody s_Dealeru_initu) (defScope s_Dealeru_initu) [] [("spare", .int (0))] (He.ma K (He.ga K "Dealer") "__init__") fd ∧ FnOk P w K mg base (L2.CX P w) 1 (He.ma K (He.ga K "Dealer") "__init__") fd ["self", "rows", "spare"] (SpM ⟨P, w, K, cl K⟩ 3 (runF 6 m_Dealeru_initu)) := by
  obtain ⟨fd, Fd⟩ := G.d_Dealeru_initu
  refine ⟨fd, Fd, fn_q Fd sc_Dealeru_initu fun cdv A outer s H E hr => ?_⟩
  have hu : (Xd P w K mg base ["self", "rows", "spare", "standing", "step", "number"] "Dealer.__init__" (defScope s_Dealeru_initu) (He.ma K (He.ga K "Dealer") "__init__") cdv A outer s H E).A.units + 64 < cLine := by have := hr.un; show (A.deeper _).units + 64 < cLine; omega
  have hu2 : (Xd P w K mg base ["self", "rows", "spare", "standing", "step", "number"] "Dealer.__init__" (defScope s_Dealeru_initu) (He.ma K (He.ga K "Dealer") "__init__") cdv A outer s H E).A.units + 20 < cLine := by omega
  have tk : Takes (Xd P w K mg base ["self", "rows", "spare", "standing", "step", "number"] "Dealer.__init__" (defScope s_Dealeru_initu) (He.ma K (He.ga K "Dealer") "__init__") cdv A outer s H E) (Wd E) := takes_of rfl rfl rfl rfl
  unfold m_Dealeru_initu
  exact (qss_cons (qs_fld (qe_var (i := 0) rfl v_Dealeru_initu_self) qe_dict G.n_picks)
  (qss_cons (qs_for (passes_of rfl) rfl (qi_val (qe_var (i := 1) rfl v_Dealeru_initu_rows)) (qg_tup rfl (qgs_cons (qg_name (i := 3) sc_Dealeru_initu.nd rfl l_Dealeru_initu_standing) (qgs_cons (qg_name (i := 4) sc_Dealeru_initu.nd rfl l_Dealeru_initu_step) (qgs_cons (qg_name (i := 5) sc_Dealeru_initu.nd rfl l_Dealeru_initu_number) qgs_nil))))
  (qss_one (qs_if (qt_cmp (oq_notinX hu2) (qe_tup (qa_cons (qe_var (i := 3) rfl v_Dealeru_initu_standing) (qa_cons (qe_var (i := 4) rfl v_Dealeru_initu_step) qa_nil))) (qe_fld (qe_var (i := 0) rfl v_Dealeru_initu_self) G.n_picks) (by with_unfolding_all rfl))
  (qss_one (qs_sub hu2 (qe_fld (qe_var (i := 0) rfl v_Dealeru_initu_self) G.n_picks) (qe_tup (qa_cons (qe_var (i := 3) rfl v_Dealeru_initu_standing) (qa_cons (qe_var (i := 4) rfl v_Dealeru_initu_step) qa_nil))) (qe_var (i := 5) rfl v_Dealeru_initu_number)))
  qss_nil)))
  (qss_one (qs_fld (qe_var (i := 0) rfl v_Dealeru_initu_self) (qe_var (i := 2) rfl v_Dealeru_initu_spare) G.n_spare))))
theorem ok_Dealeru_callu (G : Facts K mg) : ∃ fd, FunD K "__call__" "Dealer.__call__" (defArgs s_Dealeru_callu) (defBody s_Dealeru_callu) (defScope s_Dealeru_callu) [] [] (He.ma K (He.ga K "Dealer") "__call__") fd ∧ FnOk P w K mg base (L2.CX P w) 1 (He.ma K (He.ga K "Dealer") "__call__") fd ["self", "standing", "step"] (SpM ⟨P, w, K, cl K⟩ 3 (runF 3 m_Dealeru_callu)) := by
  obtain ⟨fd, Fd⟩ := G.d_Dealeru_callu
  refine ⟨fd, Fd, fn_q Fd sc_Dealeru_callu fun cdv A outer s H E hr => ?_⟩
  have hu : (Xd P w K mg base ["self", "standing", "step"] "Dealer.__call__" (defScope s_Dealeru_callu) (He.ma K (He.ga K "Dealer") "__call__") cdv A outer s H E).A.units + 64 < cLine := by have := hr.un; show (A.deeper _).units + 64 < cLine; omega
  have hu2 : (Xd P w K mg base ["self", "standing", "step"] "Dealer.__call__" (defScope s_Dealeru_callu) (He.ma K (He.ga K "Dealer") "__call__") cdv A outer s H E).A.units + 20 < cLine := by omega
  have tk : Takes (Xd P w K mg base ["self", "standing", "step"] "Dealer.__call__" (defScope s_Dealeru_callu) (He.ma K (He.ga K "Dealer") "__call__") cdv A outer s H E) (Wd E) := takes_of rfl rfl rfl rfl
  unfold m_Dealeru_callu
  exact (qss_one (qs_ret (qe_dm PySem.F.slot_dict_get PySem.F.type_dict_get (mq_get hu2) (qe_fld (qe_var (i := 0) rfl v_Dealeru_callu_self) G.n_picks) (qa_cons (qe_tup (qa_cons (qe_var (i := 1) rfl v_Dealeru_callu_standing) (qa_cons (qe_var (i := 2) rfl v_Dealeru_callu_step) qa_nil))) (qa_cons (qe_fld (qe_var (i := 0) rfl v_Dealeru_callu_self) G.n_spare) qa_nil)))))
theorem ok__law_cell (G : Facts K mg) : ∃ fd, FunD K "_law_cell" "_law_cell" (defArgs s__law_cell) (defBody s__law_cell) (defScope s__law_cell) [] [] (He.ga K "_law_cell") fd ∧ FnOk P w K mg base (L2.CX P w) 1 (He.ga K "_law_cell") fd ["_law_script", "_law_k"] (SpM ⟨P, w, K, cl K⟩ 2 (runF 2 m__law_cell)) := by
  obtain ⟨fd, Fd⟩ := G.d__law_cell
  refine ⟨fd, Fd, fn_q Fd sc__law_cell fun cdv A outer s H E hr => ?_⟩
  have hu : (Xd P w K mg base ["_law_script", "_law_k"] "_law_cell" (defScope s__law_cell) (He.ga K "_law_cell") cdv A outer s H E).A.units + 64 < cLine := by have := hr.un; show (A.deeper _).units + 64 < cLine; omega
  have hu2 : (Xd P w K mg base ["_law_script", "_law_k"] "_law_cell" (defScope s__law_cell) (He.ga K "_law_cell") cdv A outer s H E).A.units + 20 < cLine := by omega
  have tk : Takes (Xd P w K mg base ["_law_script", "_law_k"] "_law_cell" (defScope s__law_cell) (He.ga K "_law_cell") cdv A outer s H E) (Wd E) := takes_of rfl rfl rfl rfl
  unfold m__law_cell
  exact (qss_cons (qs_if (qt_cmp oq_ltI (qe_var (i := 1) rfl v__law_cell__law_k) (qe_callB cq_len g__law_cell_len G.f_len rfl (qa_cons (qe_var (i := 0) rfl v__law_cell__law_script) qa_nil)) (nomark _))
  (qss_one (qs_ret (qe_ix (xq_ixX hu2) (qe_var (i := 0) rfl v__law_cell__law_script) (qe_var (i := 1) rfl v__law_cell__law_k) fun _ _ => rfl)))
  qss_nil)
  (qss_one (qs_ret qe_int)))
theorem ok__law_draws (G : Facts K mg) : ∃ fd, FunD K "_law_draws" "_law_draws" (defArgs s__law_draws) (defBody s__law_draws) (defScope s__law_draws) [] [] (He.ga K "_law_draws") fd ∧ FnOk P w K mg base (L2.CX P w) 2 (He.ga K "_law_draws") fd ["_law_script", "_law_k", "_law_many"] (SpM ⟨P, w, K, cl K⟩ 3 (runF 8 m__law_draws)) := by
  obtain ⟨fd, Fd⟩ := G.d__law_draws
  obtain ⟨fd__law_cell, F__law_cell, K__law_cell⟩ := ok__law_cell (P := P) (w := w) (base := base) G
  have P__law_cell := F__law_cell.kp
  have B__law_cell : Binds K fd__law_cell ["_law_script", "_law_k"] [] := F__law_cell.bindsN fun _ _ _ _ _ _ us hl => match us, hl with | [_, _], _ => rfl
  refine ⟨fd, Fd, fn_q Fd sc__law_draws fun cdv A outer s H E hr => ?_⟩
  have hu : (Xd P w K mg base ["_law_script", "_law_k", "_law_many", "_law_cell_here", "_law_row", "_law_seed", "_law_turn", "_law_rest"] "_law_draws" (defScope s__law_draws) (He.ga K "_law_draws") cdv A outer s H E).A.units + 64 < cLine := by have := hr.un; show (A.deeper _).units + 64 < cLine; omega
  have hu2 : (Xd P w K mg base ["_law_script", "_law_k", "_law_many", "_law_cell_here", "_law_row", "_law_seed", "_law_turn", "_law_rest"] "_law_draws" (defScope s__law_draws) (He.ga K "_law_draws") cdv A outer s H E).A.units + 20 < cLine := by omega
  have tk : Takes (Xd P w K mg base ["_law_script", "_law_k", "_law_many", "_law_cell_here", "_law_row", "_law_seed", "_law_turn", "_law_rest"] "_law_draws" (defScope s__law_draws) (He.ga K "_law_draws") cdv A outer s H E) (Wd E) := takes_of rfl rfl rfl rfl
  unfold m__law_draws
  exact (qss_cons (qs_set (i := 3) sc__law_draws.nd rfl l__law_draws__law_cell_here (qe_call (dvs := []) (ds := []) (dds := []) K__law_cell tk (hr.mono (by decide)) g__law_draws__law_cell G.g__law_cell P__law_cell B__law_cell .nil Dfl.nil (qa_cons (qe_var (i := 0) rfl v__law_draws__law_script) (qa_cons (qe_var (i := 1) rfl v__law_draws__law_k) qa_nil))))
  (qss_cons (qs_set (i := 4) sc__law_draws.nd rfl l__law_draws__law_row (qe_lstS qa_nil))
  (qss_cons (qs_if (qt_cmp oq_geI (qe_var (i := 3) rfl v__law_draws__law_cell_here) (qe_op oq_pow qe_int qe_int) (nomark _))
  (qss_cons (qs_set (i := 7) sc__law_draws.nd rfl l__law_draws__law_rest (qe_op oq_sub (qe_var (i := 3) rfl v__law_draws__law_cell_here) (qe_op oq_pow qe_int qe_int)))
  (qss_cons (qs_for (passes_of rfl) rfl (qi_range1 g__law_draws_range G.f_range (qa_cons (qe_var (i := 2) rfl v__law_draws__law_many) qa_nil)) (qg_name (i := 6) sc__law_draws.nd rfl l__law_draws__law_turn)
  (qss_cons (qs_expr (qe_bm chk_list PySem.F.plainAttrs_list PySem.F.slot_list_append PySem.F.type_list_append mq_append (qe_var (i := 4) rfl v__law_draws__law_row) (qa_cons (qe_op oq_mod (qe_callTy cq_int g__law_draws_int G.f_int rfl (qa_cons (qe_var (i := 7) rfl v__law_draws__law_rest) qa_nil)) qe_int) qa_nil)))
  (qss_one (qs_set (i := 7) sc__law_draws.nd rfl l__law_draws__law_rest (qe_op oq_div (qe_var (i := 7) rfl v__law_draws__law_rest) qe_int)))))
  (qss_one (qs_ret (qe_var (i := 4) rfl v__law_draws__law_row)))))
  qss_nil)
  (qss_cons (qs_set (i := 5) sc__law_draws.nd rfl l__law_draws__law_seed (qe_op oq_mod (qe_callTy cq_int g__law_draws_int G.f_int rfl (qa_cons (qe_op oq_add (qe_op oq_add (qe_op oq_mulI (qe_var (i := 3) rfl v__law_draws__law_cell_here) qe_int) (qe_op oq_mulI (qe_var (i := 1) rfl v__law_draws__law_k) qe_int)) qe_int) qa_nil)) qe_int))
  (qss_cons (qs_for (passes_of rfl) rfl (qi_range1 g__law_draws_range G.f_range (qa_cons (qe_var (i := 2) rfl v__law_draws__law_many) qa_nil)) (qg_name (i := 6) sc__law_draws.nd rfl l__law_draws__law_turn)
  (qss_cons (qs_set (i := 5) sc__law_draws.nd rfl l__law_draws__law_seed (qe_op oq_mod (qe_callTy cq_int g__law_draws_int G.f_int rfl (qa_cons (qe_op oq_add (qe_op oq_add (qe_op oq_mulI (qe_var (i := 5) rfl v__law_draws__law_seed) qe_int) (qe_var (i := 6) rfl v__law_draws__law_turn)) qe_int) qa_nil)) qe_int))
  (qss_one (qs_expr (qe_bm chk_list PySem.F.plainAttrs_list PySem.F.slot_list_append PySem.F.type_list_append mq_append (qe_var (i := 4) rfl v__law_draws__law_row) (qa_cons (qe_op oq_mod (qe_callTy cq_int g__law_draws_int G.f_int rfl (qa_cons (qe_op oq_div (qe_var (i := 5) rfl v__law_draws__law_seed) qe_int) qa_nil)) qe_int) qa_nil))))))
  (qss_one (qs_ret (qe_var (i := 4) rfl v__law_draws__law_row))))))))
theorem ok__law_asks (G : Facts K mg) : ∃ fd, FunD K "_law_asks" "_law_asks" (defArgs s__law_asks) (defBody s__law_asks) (defScope s__law_asks) [] [] (He.ga K "_law_asks") fd ∧ FnOk P w K mg base (L2.CX P w) 1 (He.ga K "_law_asks") fd ["_law_row", "_law_many"] (SpM ⟨P, w, K, cl K⟩ 2 (runF 11 m__law_asks)) := by
  obtain ⟨fd, Fd⟩ := G.d__law_asks
  refine ⟨fd, Fd, fn_q Fd sc__law_asks fun cdv A outer s H E hr => ?_⟩
  have hu : (Xd P w K mg base ["_law_row", "_law_many", "_law_letters", "_law_word", "_law_asks_here", "_law_at", "_law_size", "_law_place", "_law_jump", "_law_letter", "_law_digit"] "_law_asks" (defScope s__law_asks) (He.ga K "_law_asks") cdv A outer s H E).A.units + 64 < cLine := by have := hr.un; show (A.deeper _).units + 64 < cLine; omega
  have hu2 : (Xd P w K mg base ["_law_row", "_law_many", "_law_letters", "_law_word", "_law_asks_here", "_law_at", "_law_size", "_law_place", "_law_jump", "_law_letter", "_law_digit"] "_law_asks" (defScope s__law_asks) (He.ga K "_law_asks") cdv A outer s H E).A.units + 20 < cLine := by omega
  have tk : Takes (Xd P w K mg base ["_law_row", "_law_many", "_law_letters", "_law_word", "_law_asks_here", "_law_at", "_law_size", "_law_place", "_law_jump", "_law_letter", "_law_digit"] "_law_asks" (defScope s__law_asks) (He.ga K "_law_asks") cdv A outer s H E) (Wd E) := takes_of rfl rfl rfl rfl
  unfold m__law_asks
  exact (qss_cons (qs_set (i := 2) sc__law_asks.nd rfl l__law_asks__law_letters qe_str)
  (qss_cons (qs_set (i := 3) sc__law_asks.nd rfl l__law_asks__law_word (qe_bm chk_str PySem.F.plainAttrs_str PySem.F.slot_str_join PySem.F.type_str_join mq_join qe_str (qa_cons (qe_lcV rfl sc__law_asks.nd (qi_val (qe_slice sq_sl (qe_var (i := 0) rfl v__law_asks__law_row) qo_none (qo_some qe_int))) (own := [("_law_digit", 10)]) (show BlkOk ["_law_row", "_law_many", "_law_letters", "_law_word", "_law_asks_here", "_law_at", "_law_size", "_law_place", "_law_jump", "_law_letter", "_law_digit"] (defScope s__law_asks) _ [("_law_digit", 10)] from ⟨rfl, by decide +kernel, by decide +kernel, by decide +kernel, by decide +kernel⟩) (fun _ _ _ _ _ => (qg_name (i := 10) sc__law_asks.nd rfl (Or.inl rfl))) (fun _ _ _ _ _ => qts_nil) (fun _ _ _ _ _ => (qe_ix (xq_ixX hu2) (qe_var (i := 2) rfl (by first | exact Or.inl rfl | exact Or.inr (Or.inl rfl) | exact Or.inr (Or.inr rfl))) (qe_op oq_mod (qe_callTy cq_int rfl G.f_int rfl (qa_cons (qe_var (i := 10) rfl (by first | exact Or.inl rfl | exact Or.inr (Or.inl rfl) | exact Or.inr (Or.inr rfl))) qa_nil)) qe_int) fun _ _ => rfl)) (by decide)) qa_nil)))
  (qss_cons (qs_set (i := 4) sc__law_asks.nd rfl l__law_asks__law_asks_here (qe_lstS qa_nil))
  (qss_cons (qs_for (passes_of rfl) rfl (qi_range1 g__law_asks_range G.f_range (qa_cons (qe_var (i := 1) rfl v__law_asks__law_many) qa_nil)) (qg_name (i := 5) sc__law_asks.nd rfl l__law_asks__law_at)
  (qss_cons (qs_set (i := 6) sc__law_asks.nd rfl l__law_asks__law_size (qe_op oq_add (qe_op oq_mod (qe_callTy cq_int g__law_asks_int G.f_int rfl (qa_cons (qe_op oq_add (qe_ix (xq_ixX hu2) (qe_var (i := 0) rfl v__law_asks__law_row) qe_int fun _ _ => rfl) (qe_op oq_mulI qe_int (qe_var (i := 5) rfl v__law_asks__law_at))) qa_nil)) qe_int) qe_int))
  (qss_one (qs_if (qt_cmp (oq_eq hu) (qe_op oq_mod (qe_callTy cq_int g__law_asks_int G.f_int rfl (qa_cons (qe_ix (xq_ixX hu2) (qe_var (i := 0) rfl v__law_asks__law_row) qe_int fun _ _ => rfl) qa_nil)) qe_int) qe_int (nomark _))
  (qss_one (qs_expr (qe_bm chk_list PySem.F.plainAttrs_list PySem.F.slot_list_append PySem.F.type_list_append mq_append (qe_var (i := 4) rfl v__law_asks__law_asks_here) (qa_cons (qe_slice sq_sl (qe_var (i := 3) rfl v__law_asks__law_word) qo_none (qo_some (qe_var (i := 6) rfl v__law_asks__law_size))) qa_nil))))
  (qss_cons (qs_set (i := 6) sc__law_asks.nd rfl l__law_asks__law_size (qe_op oq_add (qe_op oq_mod (qe_callTy cq_int g__law_asks_int G.f_int rfl (qa_cons (qe_ix (xq_ixX hu2) (qe_var (i := 0) rfl v__law_asks__law_row) qe_int fun _ _ => rfl) qa_nil)) qe_int) qe_int))
  (qss_cons (qs_set (i := 7) sc__law_asks.nd rfl l__law_asks__law_place (qe_op oq_mod (qe_callTy cq_int g__law_asks_int G.f_int rfl (qa_cons (qe_ix (xq_ixX hu2) (qe_var (i := 0) rfl v__law_asks__law_row) qe_int fun _ _ => rfl) qa_nil)) (qe_var (i := 6) rfl v__law_asks__law_size)))
  (qss_cons (qs_set (i := 8) sc__law_asks.nd rfl l__law_asks__law_jump (qe_op oq_add (qe_op oq_mulI (qe_op oq_mod (qe_callTy cq_int g__law_asks_int G.f_int rfl (qa_cons (qe_ix (xq_ixX hu2) (qe_var (i := 0) rfl v__law_asks__law_row) qe_int fun _ _ => rfl) qa_nil)) qe_int) qe_int) qe_int))
  (qss_cons (qs_set (i := 9) sc__law_asks.nd rfl l__law_asks__law_letter (qe_ix (xq_ixX hu2) (qe_var (i := 2) rfl v__law_asks__law_letters) (qe_op oq_mod (qe_callTy cq_int g__law_asks_int G.f_int rfl (qa_cons (qe_op oq_add (qe_ix (xq_ixX hu2) (qe_var (i := 0) rfl v__law_asks__law_row) qe_int fun _ _ => rfl) (qe_op oq_mulI (qe_var (i := 8) rfl v__law_asks__law_jump) (qe_var (i := 5) rfl v__law_asks__law_at))) qa_nil)) qe_int) fun _ _ => rfl))
  (qss_one (qs_expr (qe_bm chk_list PySem.F.plainAttrs_list PySem.F.slot_list_append PySem.F.type_list_append mq_append (qe_var (i := 4) rfl v__law_asks__law_asks_here) (qa_cons (qe_op oq_add (qe_op oq_add (qe_slice sq_sl (qe_var (i := 3) rfl v__law_asks__law_word) qo_none (qo_some (qe_var (i := 7) rfl v__law_asks__law_place))) (qe_var (i := 9) rfl v__law_asks__law_letter)) (qe_slice sq_sl (qe_var (i := 3) rfl v__law_asks__law_word) (qo_some (qe_op oq_add (qe_var (i := 7) rfl v__law_asks__law_place) qe_int)) (qo_some (qe_var (i := 6) rfl v__law_asks__law_size)))) qa_nil))))))))))))
  (qss_one (qs_ret (qe_var (i := 4) rfl v__law_asks__law_asks_here)))))))
theorem ok__law_whole (G : Facts K mg) : ∃ fd, FunD K "_law_whole" "_law_whole" (defArgs s__law_whole) (defBody s__law_whole) (defScope s__law_whole) [] [] (He.ga K "_law_whole") fd ∧ FnOk P w K mg base (L2.CX P w) 1 (He.ga K "_law_whole") fd ["_law_x"] (SpM ⟨P, w, K, cl K⟩ 1 (runF 1 m__law_whole)) := by
  obtain ⟨fd, Fd⟩ := G.d__law_whole
  refine ⟨fd, Fd, fn_q Fd sc__law_whole fun cdv A outer s H E hr => ?_⟩
  have hu : (Xd P w K mg base ["_law_x"] "_law_whole" (defScope s__law_whole) (He.ga K "_law_whole") cdv A outer s H E).A.units + 64 < cLine := by have := hr.un; show (A.deeper _).units + 64 < cLine; omega
  have hu2 : (Xd P w K mg base ["_law_x"] "_law_whole" (defScope s__law_whole) (He.ga K "_law_whole") cdv A outer s H E).A.units + 20 < cLine := by omega
  have tk : Takes (Xd P w K mg base ["_law_x"] "_law_whole" (defScope s__law_whole) (He.ga K "_law_whole") cdv A outer s H E) (Wd E) := takes_of rfl rfl rfl rfl
  unfold m__law_whole
  exact (qss_one (qs_ret (qe_and (qe_callB cq_isi g__law_whole_isinstance G.f_isinstance rfl (qa_cons (qe_var (i := 0) rfl v__law_whole__law_x) (qa_cons (qe_bTy g__law_whole_int G.f_int rfl) qa_nil))) (qe_one (qe_not (qe_callB cq_isi g__law_whole_isinstance G.f_isinstance rfl (qa_cons (qe_var (i := 0) rfl v__law_whole__law_x) (qa_cons (qe_bTy g__law_whole_bool G.f_bool rfl) qa_nil))))))))
theorem ok__law_standing (G : Facts K mg) : ∃ fd, FunD K "_law_standing" "_law_standing" (defArgs s__law_standing) (defBody s__law_standing) (defScope s__law_standing) [] [] (He.ga K "_law_standing") fd ∧ FnOk P w K mg base (L2.CX P w) 1 (He.ga K "_law_standing") fd ["_law_digit", "_law_asks_here"] (SpM ⟨P, w, K, cl K⟩ 2 (runF 3 m__law_standing)) := by
  obtain ⟨fd, Fd⟩ := G.d__law_standing
  refine ⟨fd, Fd, fn_q Fd sc__law_standing fun cdv A outer s H E hr => ?_⟩
  have hu : (Xd P w K mg base ["_law_digit", "_law_asks_here", "_law_known"] "_law_standing" (defScope s__law_standing) (He.ga K "_law_standing") cdv A outer s H E).A.units + 64 < cLine := by have := hr.un; show (A.deeper _).units + 64 < cLine; omega
  have hu2 : (Xd P w K mg base ["_law_digit", "_law_asks_here", "_law_known"] "_law_standing" (defScope s__law_standing) (He.ga K "_law_standing") cdv A outer s H E).A.units + 20 < cLine := by omega
  have tk : Takes (Xd P w K mg base ["_law_digit", "_law_asks_here", "_law_known"] "_law_standing" (defScope s__law_standing) (He.ga K "_law_standing") cdv A outer s H E) (Wd E) := takes_of rfl rfl rfl rfl
  unfold m__law_standing
  exact (qss_cons (qs_set (i := 2) sc__law_standing.nd rfl l__law_standing__law_known (qe_tup qa_nil))
  (qss_cons (qs_if (qt_cmp (oq_eq hu) (qe_op oq_mod (qe_callTy cq_int g__law_standing_int G.f_int rfl (qa_cons (qe_var (i := 0) rfl v__law_standing__law_digit) qa_nil)) qe_int) qe_int (nomark _))
  (qss_one (qs_set (i := 2) sc__law_standing.nd rfl l__law_standing__law_known (qe_tup (qa_cons (qe_tup (qa_cons (qe_ix (xq_ixX hu2) (qe_var (i := 1) rfl v__law_standing__law_asks_here) qe_int fun _ _ => rfl) (qa_cons qe_int qa_nil))) qa_nil))))
  qss_nil)
  (qss_cons (qs_if (qt_cmp (oq_eq hu) (qe_op oq_mod (qe_callTy cq_int g__law_standing_int G.f_int rfl (qa_cons (qe_var (i := 0) rfl v__law_standing__law_digit) qa_nil)) qe_int) qe_int (nomark _))
  (qss_one (qs_set (i := 2) sc__law_standing.nd rfl l__law_standing__law_known (qe_tup (qa_cons (qe_tup (qa_cons (qe_ix (xq_ixX hu2) (qe_var (i := 1) rfl v__law_standing__law_asks_here) qe_int fun _ _ => rfl) (qa_cons qe_int qa_nil))) (qa_cons (qe_tup (qa_cons (qe_ix (xq_ixX hu2) (qe_var (i := 1) rfl v__law_standing__law_asks_here) qe_int fun _ _ => rfl) (qa_cons qe_int qa_nil))) qa_nil)))))
  qss_nil)
  (qss_one (qs_ret (qe_tup (qa_cons (qe_op oq_mod (qe_op oq_div (qe_callTy cq_int g__law_standing_int G.f_int rfl (qa_cons (qe_var (i := 0) rfl v__law_standing__law_digit) qa_nil)) qe_int) qe_int) (qa_cons (qe_tup (qa_cons (qe_op oq_mod (qe_op oq_div (qe_callTy cq_int g__law_standing_int G.f_int rfl (qa_cons (qe_var (i := 0) rfl v__law_standing__law_digit) qa_nil)) qe_int) qe_int) (qa_cons (qe_op oq_sub (qe_op oq_mod (qe_op oq_div (qe_callTy cq_int g__law_standing_int G.f_int rfl (qa_cons (qe_var (i := 0) rfl v__law_standing__law_digit) qa_nil)) qe_int) qe_int) qe_int) qa_nil))) (qa_cons (qe_var (i := 2) rfl v__law_standing__law_known) qa_nil)))))))))
theorem ok__law_step (G : Facts K mg) : ∃ fd, FunD K "_law_step" "_law_step" (defArgs s__law_step) (defBody s__law_step) (defScope s__law_step) [] [] (He.ga K "_law_step") fd ∧ FnOk P w K mg base (L2.CX P w) 1 (He.ga K "_law_step") fd ["_law_digit", "_law_asks_here"] (SpM ⟨P, w, K, cl K⟩ 2 (runF 2 m__law_step)) := by
  obtain ⟨fd, Fd⟩ := G.d__law_step
  refine ⟨fd, Fd, fn_q Fd sc__law_step fun cdv A outer s H E hr => ?_⟩
  have hu : (Xd P w K mg base ["_law_digit", "_law_asks_here"] "_law_step" (defScope s__law_step) (He.ga K "_law_step") cdv A outer s H E).A.units + 64 < cLine := by have := hr.un; show (A.deeper _).units + 64 < cLine; omega
  have hu2 : (Xd P w K mg base ["_law_digit", "_law_asks_here"] "_law_step" (defScope s__law_step) (He.ga K "_law_step") cdv A outer s H E).A.units + 20 < cLine := by omega
  have tk : Takes (Xd P w K mg base ["_law_digit", "_law_asks_here"] "_law_step" (defScope s__law_step) (He.ga K "_law_step") cdv A outer s H E) (Wd E) := takes_of rfl rfl rfl rfl
  unfold m__law_step
  exact (qss_cons (qs_if (qt_cmp (oq_eq hu) (qe_op oq_mod (qe_callTy cq_int g__law_step_int G.f_int rfl (qa_cons (qe_var (i := 0) rfl v__law_step__law_digit) qa_nil)) qe_int) qe_int (nomark _))
  (qss_one (qs_ret qe_non))
  qss_nil)
  (qss_one (qs_ret (qe_tup (qa_cons (qe_ix (xq_ixX hu2) (qe_var (i := 1) rfl v__law_step__law_asks_here) (qe_op oq_mod (qe_callTy cq_int g__law_step_int G.f_int rfl (qa_cons (qe_var (i := 0) rfl v__law_step__law_digit) qa_nil)) qe_int) fun _ _ => rfl) (qa_cons (qe_op oq_mod (qe_op oq_div (qe_callTy cq_int g__law_step_int G.f_int rfl (qa_cons (qe_var (i := 0) rfl v__law_step__law_digit) qa_nil)) qe_int) qe_int) qa_nil))))))
theorem ok__law_due (G : Facts K mg) : ∃ fd, FunD K "_law_due" "_law_due" (defArgs s__law_due) (defBody s__law_due) (defScope s__law_due) [] [] (He.ga K "_law_due") fd ∧ FnOk P w K mg base (L2.CX P w) 1 (He.ga K "_law_due") fd ["_law_rows", "_law_standing_here", "_law_step_here", "_law_spare_due"] (SpM ⟨P, w, K, cl K⟩ 4 (runF 5 m__law_due)) := by
  obtain ⟨fd, Fd⟩ := G.d__law_due
  refine ⟨fd, Fd, fn_q Fd sc__law_due fun cdv A outer s H E hr => ?_⟩
  have hu : (Xd P w K mg base ["_law_rows", "_law_standing_here", "_law_step_here", "_law_spare_due", "_law_row"] "_law_due" (defScope s__law_due) (He.ga K "_law_due") cdv A outer s H E).A.units + 64 < cLine := by have := hr.un; show (A.deeper _).units + 64 < cLine; omega
  have hu2 : (Xd P w K mg base ["_law_rows", "_law_standing_here", "_law_step_here", "_law_spare_due", "_law_row"] "_law_due" (defScope s__law_due) (He.ga K "_law_due") cdv A outer s H E).A.units + 20 < cLine := by omega
  have tk : Takes (Xd P w K mg base ["_law_rows", "_law_standing_here", "_law_step_here", "_law_spare_due", "_law_row"] "_law_due" (defScope s__law_due) (He.ga K "_law_due") cdv A outer s H E) (Wd E) := takes_of rfl rfl rfl rfl
  unfold m__law_due
  exact (qss_cons (qs_for (passes_of rfl) rfl (qi_val (qe_var (i := 0) rfl v__law_due__law_rows)) (qg_name (i := 4) sc__law_due.nd rfl l__law_due__law_row)
  (qss_one (qs_if (qt_w (qw_and (qt_cmp (oq_eq hu) (qe_ix (xq_ixX hu2) (qe_var (i := 4) rfl v__law_due__law_row) qe_int fun _ _ => rfl) (qe_var (i := 1) rfl v__law_due__law_standing_here) (nomark _)) (qw_and1 (qt_cmp (oq_eq hu) (qe_ix (xq_ixX hu2) (qe_var (i := 4) rfl v__law_due__law_row) qe_int fun _ _ => rfl) (qe_var (i := 2) rfl v__law_due__law_step_here) (nomark _)))))
  (qss_one (qs_ret (qe_ix (xq_ixX hu2) (qe_var (i := 4) rfl v__law_due__law_row) qe_int fun _ _ => rfl)))
  qss_nil)))
  (qss_one (qs_ret (qe_var (i := 3) rfl v__law_due__law_spare_due))))
theorem ok__law_dealer_holds (G : Facts K mg) : ∃ fd, FunD K "_law_dealer_holds" "_law_dealer_holds" (defArgs s__law_dealer_holds) (defBody s__law_dealer_holds) (defScope s__law_dealer_holds) [] [] (He.ga K "_law_dealer_holds") fd ∧ FnOk P w K mg base (L2.CX P w) 2 (He.ga K "_law_dealer_holds") fd ["_law_dealer", "_law_rows", "_law_asks_here", "_law_spare_due"] (SpM ⟨P, w, K, cl K⟩ 4 (runF 9 m__law_dealer_holds)) := by
  obtain ⟨fd, Fd⟩ := G.d__law_dealer_holds
  obtain ⟨fd__law_standing, F__law_standing, K__law_standing⟩ := ok__law_standing (P := P) (w := w) (base := base) G
  have P__law_standing := F__law_standing.kp
  have B__law_standing : Binds K fd__law_standing ["_law_digit", "_law_asks_here"] [] := F__law_standing.bindsN fun _ _ _ _ _ _ us hl => match us, hl with | [_, _], _ => rfl
  obtain ⟨fd__law_step, F__law_step, K__law_step⟩ := ok__law_step (P := P) (w := w) (base := base) G
  have P__law_step := F__law_step.kp
  have B__law_step : Binds K fd__law_step ["_law_digit", "_law_asks_here"] [] := F__law_step.bindsN fun _ _ _ _ _ _ us hl => match us, hl with | [_, _], _ => rfl
  obtain ⟨fd_Dealeru_callu, F_Dealeru_callu, K_Dealeru_callu⟩ := ok_Dealeru_callu (P := P) (w := w) (base := base) G
  have P_Dealeru_callu := F_Dealeru_callu.kp
  have B_Dealeru_callu : Binds K fd_Dealeru_callu ["self", "standing", "step"] [] := F_Dealeru_callu.bindsN fun _ _ _ _ _ _ us hl => match us, hl with | [_, _, _], _ => rfl
  obtain ⟨fd__law_whole, F__law_whole, K__law_whole⟩ := ok__law_whole (P := P) (w := w) (base := base) G
  have P__law_whole := F__law_whole.kp
  have B__law_whole : Binds K fd__law_whole ["_law_x"] [] := F__law_whole.bindsN fun _ _ _ _ _ _ us hl => match us, hl with | [_], _ => rfl
  obtain ⟨fd__law_due, F__law_due, K__law_due⟩ := ok__law_due (P := P) (w := w) (base := base) G
  have P__law_due := F__law_due.kp
  have B__law_due : Binds K fd__law_due ["_law_rows", "_law_standing_here", "_law_step_here", "_law_spare_due"] [] := F__law_due.bindsN fun _ _ _ _ _ _ us hl => match us, hl with | [_, _, _, _], _ => rfl
  refine ⟨fd, Fd, fn_q Fd sc__law_dealer_holds fun cdv A outer s H E hr => ?_⟩
  have hu : (Xd P w K mg base ["_law_dealer", "_law_rows", "_law_asks_here", "_law_spare_due", "_law_digit", "_law_other", "_law_standing_here", "_law_step_here", "_law_found"] "_law_dealer_holds" (defScope s__law_dealer_holds) (He.ga K "_law_dealer_holds") cdv A outer s H E).A.units + 64 < cLine := by have := hr.un; show (A.deeper _).units + 64 < cLine; omega
  have hu2 : (Xd P w K mg base ["_law_dealer", "_law_rows", "_law_asks_here", "_law_spare_due", "_law_digit", "_law_other", "_law_standing_here", "_law_step_here", "_law_found"] "_law_dealer_holds" (defScope s__law_dealer_holds) (He.ga K "_law_dealer_holds") cdv A outer s H E).A.units + 20 < cLine := by omega
  have tk : Takes (Xd P w K mg base ["_law_dealer", "_law_rows", "_law_asks_here", "_law_spare_due", "_law_digit", "_law_other", "_law_standing_here", "_law_step_here", "_law_found"] "_law_dealer_holds" (defScope s__law_dealer_holds) (He.ga K "_law_dealer_holds") cdv A outer s H E) (Wd E) := takes_of rfl rfl rfl rfl
  unfold m__law_dealer_holds
  exact (qss_cons (qs_for (passes_of rfl) rfl (qi_range1 g__law_dealer_holds_range G.f_range (qa_cons qe_int qa_nil)) (qg_name (i := 4) sc__law_dealer_holds.nd rfl l__law_dealer_holds__law_digit)
  (qss_one (qs_for (passes_of rfl) rfl (qi_range1 g__law_dealer_holds_range G.f_range (qa_cons qe_int qa_nil)) (qg_name (i := 5) sc__law_dealer_holds.nd rfl l__law_dealer_holds__law_other)
  (qss_cons (qs_set (i := 6) sc__law_dealer_holds.nd rfl l__law_dealer_holds__law_standing_here (qe_call (dvs := []) (ds := []) (dds := []) K__law_standing tk (hr.mono (by decide)) g__law_dealer_holds__law_standing G.g__law_standing P__law_standing B__law_standing .nil Dfl.nil (qa_cons (qe_var (i := 4) rfl v__law_dealer_holds__law_digit) (qa_cons (qe_var (i := 2) rfl v__law_dealer_holds__law_asks_here) qa_nil))))
  (qss_cons (qs_set (i := 7) sc__law_dealer_holds.nd rfl l__law_dealer_holds__law_step_here (qe_call (dvs := []) (ds := []) (dds := []) K__law_step tk (hr.mono (by decide)) g__law_dealer_holds__law_step G.g__law_step P__law_step B__law_step .nil Dfl.nil (qa_cons (qe_var (i := 5) rfl v__law_dealer_holds__law_other) (qa_cons (qe_var (i := 2) rfl v__law_dealer_holds__law_asks_here) qa_nil))))
  (qss_cons (qs_set (i := 8) sc__law_dealer_holds.nd rfl l__law_dealer_holds__law_found (qe_callO (c := 0) (qe_var (i := 0) rfl v__law_dealer_holds__law_dealer) G.o_Dealer K_Dealeru_callu tk (wi_d E) (hr.mono (by decide)) B_Dealeru_callu (qa_cons (qe_var (i := 6) rfl v__law_dealer_holds__law_standing_here) (qa_cons (qe_var (i := 7) rfl v__law_dealer_holds__law_step_here) qa_nil))))
  (qss_one (qs_if (qt_w (qw_or (qt_not (qt_val (qe_call (dvs := []) (ds := []) (dds := []) K__law_whole tk (hr.mono (by decide)) g__law_dealer_holds__law_whole G.g__law_whole P__law_whole B__law_whole .nil Dfl.nil (qa_cons (qe_var (i := 8) rfl v__law_dealer_holds__law_found) qa_nil)))) (qw_or1 (qt_cmp (oq_ne hu) (qe_var (i := 8) rfl v__law_dealer_holds__law_found) (qe_call (dvs := []) (ds := []) (dds := []) K__law_due tk (hr.mono (by decide)) g__law_dealer_holds__law_due G.g__law_due P__law_due B__law_due .nil Dfl.nil (qa_cons (qe_var (i := 1) rfl v__law_dealer_holds__law_rows) (qa_cons (qe_var (i := 6) rfl v__law_dealer_holds__law_standing_here) (qa_cons (qe_var (i := 7) rfl v__law_dealer_holds__law_step_here) (qa_cons (qe_var (i := 3) rfl v__law_dealer_holds__law_spare_due) qa_nil))))) (nomark _)))))
  (qss_one (qs_ret qe_bl))
  qss_nil))))))))
  (qss_one (qs_ret qe_bl)))
theorem ok_law (G : Facts K mg) : ∃ fd, FunD K "law" "law" (defArgs s_law) (defBody s_law) (defScope s_law) [] [] (He.ga K "law") fd ∧ FnOk P w K mg base (L2.CX P w) 3 (He.ga K "law") fd ["_law_script"] (SpM ⟨P, w, K, cl K⟩ 1 (runF 11 m_law)) := by
  obtain ⟨fd, Fd⟩ := G.d_law
  obtain ⟨fd__law_draws, F__law_draws, K__law_draws⟩ := ok__law_draws (P := P) (w := w) (base := base) G
  have P__law_draws := F__law_draws.kp
  have B__law_draws : Binds K fd__law_draws ["_law_script", "_law_k", "_law_many"] [] := F__law_draws.bindsN fun _ _ _ _ _ _ us hl => match us, hl with | [_, _, _], _ => rfl
  obtain ⟨fd__law_asks, F__law_asks, K__law_asks⟩ := ok__law_asks (P := P) (w := w) (base := base) G
  have P__law_asks := F__law_asks.kp
  have B__law_asks : Binds K fd__law_asks ["_law_row", "_law_many"] [] := F__law_asks.bindsN fun _ _ _ _ _ _ us hl => match us, hl with | [_, _], _ => rfl
  obtain ⟨fd__law_standing, F__law_standing, K__law_standing⟩ := ok__law_standing (P := P) (w := w) (base := base) G
  have P__law_standing := F__law_standing.kp
  have B__law_standing : Binds K fd__law_standing ["_law_digit", "_law_asks_here"] [] := F__law_standing.bindsN fun _ _ _ _ _ _ us hl => match us, hl with | [_, _], _ => rfl
  obtain ⟨fd__law_step, F__law_step, K__law_step⟩ := ok__law_step (P := P) (w := w) (base := base) G
  have P__law_step := F__law_step.kp
  have B__law_step : Binds K fd__law_step ["_law_digit", "_law_asks_here"] [] := F__law_step.bindsN fun _ _ _ _ _ _ us hl => match us, hl with | [_, _], _ => rfl
  obtain ⟨fd_Dealeru_initu, F_Dealeru_initu, K_Dealeru_initu⟩ := ok_Dealeru_initu (P := P) (w := w) (base := base) G
  have P_Dealeru_initu := F_Dealeru_initu.kp
  obtain ⟨mv_Dealeru_initu, KB_Dealeru_initu_spare⟩ := F_Dealeru_initu.kbinds0 (ps := ["self", "rows", "spare"]) 2 ["spare"] [] (fun us _ ws => us ++ ws) (by simp) (by simp) (fun a _ c => a.append c) (fun D doc pm an cdv ct us mv ws l1 l2 l3 => match us, mv, ws, l1, l2, l3 with | [_, _], [], [_], _, _, _ => rfl)
  obtain ⟨ds_Dealeru_initu, VD_Dealeru_initu, BD_Dealeru_initu⟩ := F_Dealeru_initu.binds0 (ps := ["self", "rows", "spare"]) 2 (by simp) rfl (fun D doc pm an cdv ct us ks l1 l2 => match us, ks, l1, l2 with | [_, _], [_], _, _ => ⟨_, _, _, _, _, _, rfl, rfl, rfl⟩)
  obtain ⟨fd__law_dealer_holds, F__law_dealer_holds, K__law_dealer_holds⟩ := ok__law_dealer_holds (P := P) (w := w) (base := base) G
  have P__law_dealer_holds := F__law_dealer_holds.kp
  have B__law_dealer_holds : Binds K fd__law_dealer_holds ["_law_dealer", "_law_rows", "_law_asks_here", "_law_spare_due"] [] := F__law_dealer_holds.bindsN fun _ _ _ _ _ _ us hl => match us, hl with | [_, _, _, _], _ => rfl
  refine ⟨fd, Fd, fn_q Fd sc_law fun cdv A outer s H E hr => ?_⟩
  have hu : (Xd P w K mg base ["_law_script", "_law_shape", "_law_asks_here", "_law_rows", "_law_at", "_law_first", "_law_second", "_law_wanted", "_law_dealer", "_law_other", "_law_row"] "law" (defScope s_law) (He.ga K "law") cdv A outer s H E).A.units + 64 < cLine := by have := hr.un; show (A.deeper _).units + 64 < cLine; omega
  have hu2 : (Xd P w K mg base ["_law_script", "_law_shape", "_law_asks_here", "_law_rows", "_law_at", "_law_first", "_law_second", "_law_wanted", "_law_dealer", "_law_other", "_law_row"] "law" (defScope s_law) (He.ga K "law") cdv A outer s H E).A.units + 20 < cLine := by omega
  have tk : Takes (Xd P w K mg base ["_law_script", "_law_shape", "_law_asks_here", "_law_rows", "_law_at", "_law_first", "_law_second", "_law_wanted", "_law_dealer", "_law_other", "_law_row"] "law" (defScope s_law) (He.ga K "law") cdv A outer s H E) (Wd E) := takes_of rfl rfl rfl rfl
  unfold m_law
  exact (qss_cons (qs_set (i := 1) sc_law.nd rfl l_law__law_shape (qe_call (dvs := []) (ds := []) (dds := []) K__law_draws tk (hr.mono (by decide)) g_law__law_draws G.g__law_draws P__law_draws B__law_draws .nil Dfl.nil (qa_cons (qe_var (i := 0) rfl v_law__law_script) (qa_cons qe_int (qa_cons qe_int qa_nil)))))
  (qss_cons (qs_set (i := 2) sc_law.nd rfl l_law__law_asks_here (qe_call (dvs := []) (ds := []) (dds := []) K__law_asks tk (hr.mono (by decide)) g_law__law_asks G.g__law_asks P__law_asks B__law_asks .nil Dfl.nil (qa_cons (qe_call (dvs := []) (ds := []) (dds := []) K__law_draws tk (hr.mono (by decide)) g_law__law_draws G.g__law_draws P__law_draws B__law_draws .nil Dfl.nil (qa_cons (qe_var (i := 0) rfl v_law__law_script) (qa_cons qe_int (qa_cons qe_int qa_nil)))) (qa_cons qe_int qa_nil))))
  (qss_cons (qs_set (i := 3) sc_law.nd rfl l_law__law_rows (qe_lstS qa_nil))
  (qss_cons (qs_for (passes_of rfl) rfl (qi_range1 g_law_range G.f_range (qa_cons (qe_op oq_mod (qe_callTy cq_int g_law_int G.f_int rfl (qa_cons (qe_ix (xq_ixX hu2) (qe_var (i := 1) rfl v_law__law_shape) qe_int fun _ _ => rfl) qa_nil)) qe_int) qa_nil)) (qg_name (i := 4) sc_law.nd rfl l_law__law_at)
  (qss_cons (qs_set (i := 10) sc_law.nd rfl l_law__law_row (qe_call (dvs := []) (ds := []) (dds := []) K__law_draws tk (hr.mono (by decide)) g_law__law_draws G.g__law_draws P__law_draws B__law_draws .nil Dfl.nil (qa_cons (qe_var (i := 0) rfl v_law__law_script) (qa_cons (qe_op oq_add qe_int (qe_var (i := 4) rfl v_law__law_at)) (qa_cons qe_int qa_nil)))))
  (qss_one (qs_expr (qe_bm chk_list PySem.F.plainAttrs_list PySem.F.slot_list_append PySem.F.type_list_append mq_append (qe_var (i := 3) rfl v_law__law_rows) (qa_cons (qe_tup (qa_cons (qe_call (dvs := []) (ds := []) (dds := []) K__law_standing tk (hr.mono (by decide)) g_law__law_standing G.g__law_standing P__law_standing B__law_standing .nil Dfl.nil (qa_cons (qe_ix (xq_ixX hu2) (qe_var (i := 10) rfl v_law__law_row) qe_int fun _ _ => rfl) (qa_cons (qe_var (i := 2) rfl v_law__law_asks_here) qa_nil))) (qa_cons (qe_call (dvs := []) (ds := []) (dds := []) K__law_step tk (hr.mono (by decide)) g_law__law_step G.g__law_step P__law_step B__law_step .nil Dfl.nil (qa_cons (qe_ix (xq_ixX hu2) (qe_var (i := 10) rfl v_law__law_row) qe_int fun _ _ => rfl) (qa_cons (qe_var (i := 2) rfl v_law__law_asks_here) qa_nil))) (qa_cons (qe_op oq_sub (qe_op oq_mod (qe_callTy cq_int g_law_int G.f_int rfl (qa_cons (qe_ix (xq_ixX hu2) (qe_var (i := 10) rfl v_law__law_row) qe_int fun _ _ => rfl) qa_nil)) qe_int) qe_int) qa_nil)))) qa_nil))))))
  (qss_cons (qs_set (i := 5) sc_law.nd rfl l_law__law_first (qe_callTy cq_listS g_law_list G.f_list rfl (qa_cons (qe_var (i := 3) rfl v_law__law_rows) qa_nil)))
  (qss_cons (qs_set (i := 6) sc_law.nd rfl l_law__law_second (qe_rev (qe_var (i := 3) rfl v_law__law_rows)))
  (qss_cons (qs_set (i := 7) sc_law.nd rfl l_law__law_wanted (qe_op oq_sub (qe_op oq_mod (qe_callTy cq_int g_law_int G.f_int rfl (qa_cons (qe_ix (xq_ixX hu2) (qe_var (i := 1) rfl v_law__law_shape) qe_int fun _ _ => rfl) qa_nil)) qe_int) qe_int))
  (qss_cons (qs_set (i := 8) sc_law.nd rfl l_law__law_dealer (qe_makeK (c := 0) (np := 1) G.k_Dealer K_Dealeru_initu tk (wi_d E) (hr.mono (by decide)) g_law_Dealer G.g_Dealer KB_Dealeru_initu_spare hG_Dealeru_initu_spare hH_Dealeru_initu_spare (qa_cons (qe_var (i := 5) rfl v_law__law_first) qa_nil) (qk_cons (qe_var (i := 7) rfl v_law__law_wanted) qk_nil)))
  (qss_cons (qs_if (qt_cmp (oq_eq hu) (qe_op oq_mod (qe_callTy cq_int g_law_int G.f_int rfl (qa_cons (qe_ix (xq_ixX hu2) (qe_var (i := 1) rfl v_law__law_shape) qe_int fun _ _ => rfl) qa_nil)) qe_int) qe_int (nomark _))
  (qss_cons (qs_set (i := 7) sc_law.nd rfl l_law__law_wanted qe_int)
  (qss_one (qs_set (i := 8) sc_law.nd rfl l_law__law_dealer (qe_make (c := 0) (dds := dd_Dealeru_initu) G.k_Dealer K_Dealeru_initu tk (wi_d E) (hr.mono (by decide)) g_law_Dealer G.g_Dealer BD_Dealeru_initu VD_Dealeru_initu DD_Dealeru_initu (qa_cons (qe_var (i := 5) rfl v_law__law_first) qa_nil)))))
  qss_nil)
  (qss_cons (qs_set (i := 9) sc_law.nd rfl l_law__law_other (qe_makeK (c := 0) (np := 1) G.k_Dealer K_Dealeru_initu tk (wi_d E) (hr.mono (by decide)) g_law_Dealer G.g_Dealer KB_Dealeru_initu_spare hG_Dealeru_initu_spare hH_Dealeru_initu_spare (qa_cons (qe_var (i := 6) rfl v_law__law_second) qa_nil) (qk_cons qe_int qk_nil)))
  (qss_cons (qs_if (qt_w (qw_or (qt_cmp (oq_ne hu) (qe_var (i := 5) rfl v_law__law_first) (qe_var (i := 3) rfl v_law__law_rows) (nomark _)) (qw_or1 (qt_not (qt_val (qe_call (dvs := []) (ds := []) (dds := []) K__law_dealer_holds tk (hr.mono (by decide)) g_law__law_dealer_holds G.g__law_dealer_holds P__law_dealer_holds B__law_dealer_holds .nil Dfl.nil (qa_cons (qe_var (i := 8) rfl v_law__law_dealer) (qa_cons (qe_var (i := 3) rfl v_law__law_rows) (qa_cons (qe_var (i := 2) rfl v_law__law_asks_here) (qa_cons (qe_var (i := 7) rfl v_law__law_wanted) qa_nil))))))))))
  (qss_one (qs_ret qe_bl))
  qss_nil)
  (qss_cons (qs_expr (qe_bm chk_list PySem.F.plainAttrs_list PySem.F.slot_list_append PySem.F.type_list_append mq_append (qe_var (i := 5) rfl v_law__law_first) (qa_cons (qe_tup (qa_cons (qe_call (dvs := []) (ds := []) (dds := []) K__law_standing tk (hr.mono (by decide)) g_law__law_standing G.g__law_standing P__law_standing B__law_standing .nil Dfl.nil (qa_cons qe_int (qa_cons (qe_var (i := 2) rfl v_law__law_asks_here) qa_nil))) (qa_cons qe_non (qa_cons qe_int qa_nil)))) qa_nil)))
  (qss_cons (qs_expr (qe_bm0 chk_list PySem.F.plainAttrs_list PySem.F.slot_list_reverse PySem.F.type_list_reverse mq_reverse (qe_var (i := 5) rfl v_law__law_first)))
  (qss_one (qs_ret (qe_and (qe_call (dvs := []) (ds := []) (dds := []) K__law_dealer_holds tk (hr.mono (by decide)) g_law__law_dealer_holds G.g__law_dealer_holds P__law_dealer_holds B__law_dealer_holds .nil Dfl.nil (qa_cons (qe_var (i := 8) rfl v_law__law_dealer) (qa_cons (qe_var (i := 3) rfl v_law__law_rows) (qa_cons (qe_var (i := 2) rfl v_law__law_asks_here) (qa_cons (qe_var (i := 7) rfl v_law__law_wanted) qa_nil))))) (qe_one (qe_call (dvs := []) (ds := []) (dds := []) K__law_dealer_holds tk (hr.mono (by decide)) g_law__law_dealer_holds G.g__law_dealer_holds P__law_dealer_holds B__law_dealer_holds .nil Dfl.nil (qa_cons (qe_var (i := 9) rfl v_law__law_other) (qa_cons (qe_rev (qe_var (i := 3) rfl v_law__law_rows)) (qa_cons (qe_var (i := 2) rfl v_law__law_asks_here) (qa_cons qe_int qa_nil))))))))))))))))))))))
end
end K10
namespace K10
open PySem Pu L2
def celN (ns : List Int) (k : Int) : Int := ns.getD k.toNat 0
theorem cell_ok (ns : List Int) (k : Int) (hk : 0 ≤ k) (S : Sto) : runF 2 m__law_cell [.v (.frl (ns.map D.int)), .v (.int k)] S = .ok (.v (.int (celN ns k))) S := by
  refine runF_eq ?_
  simp [m__law_cell, start0]
  split
  · rename_i h
    rw [atI_get 0 hk h]
    rfl
  · rename_i h
    simp [celN]
    rw [List.getElem?_eq_none (by omega)]
    rfl
def rA (r : Int) : Nat → Int
  | 0 => r
  | n + 1 => rA r n / 64
def sB (s : Int) : Nat → Int
  | 0 => s
  | n + 1 => (sB s n * 48271 + n + 11) % 2147483647
def rowN (ns : List Int) (k : Int) (n : Nat) : List Int :=
  if 1000000000000000000 ≤ celN ns k then (List.range n).map fun i => rA (celN ns k - 1000000000000000000) i % 64
  else (List.range n).map fun i => sB ((celN ns k * 7919 + k * 104729 + 12345) % 2147483647) (i + 1) / 65536 % 64
theorem rowN_len (ns : List Int) (k : Int) (n : Nat) : (rowN ns k n).length = n := by unfold rowN; split <;> simp
theorem rowN_bd (ns : List Int) (k : Int) (n : Nat) : ∀ x ∈ rowN ns k n, 0 ≤ x ∧ x < 64 := by
  intro x hx
  unfold rowN at hx
  split at hx <;> simp at hx <;> obtain ⟨i, _, rfl⟩ := hx <;> omega
theorem draws_ok (ns : List Int) (k : Int) (n : Nat) (hk : 0 ≤ k) (hn : n ≤ 1000) (S : Sto) : runF 8 m__law_draws [.v (.frl (ns.map D.int)), .v (.int k), .v (.int n)] S = .ok (.v (.lst ((rowN ns k n).map D.int))) S := by
  refine runF_eq ?_
  simp [m__law_draws, start0, cell_ok ns k hk]
  split
  · rename_i h
    refine ⟨by omega, for_inv (fun i ρ T => ∃ x, ρ = [some (.v (.frl (ns.map D.int))), some (.v (.int k)), some (.v (.int n)), some (.v (.int (celN ns k))), some (.r S.length), none, x, some (.v (.int (rA (celN ns k - 1000000000000000000) i)))] ∧
      T = S ++ [.lst ((((List.range i).map fun i => rA (celN ns k - 1000000000000000000) i % 64).map D.int).map U.v)]) ⟨_, rfl, rfl⟩ ?_ ?_⟩
    · rintro i u ρ T hu ⟨x, rfl, rfl⟩
      obtain ⟨hi, rfl⟩ := rngU_get hu
      simp [isL_r]
      exact ⟨by omega, by simp [rA], by simp [List.range_succ]⟩
    · rintro ρ T ⟨x, rfl, rfl⟩
      simp only [rngU_len, getv_s, getv_0]
      rw [fin_l0, rowN, if_pos h]
  · rename_i h
    refine ⟨by omega, for_inv (fun i ρ T => ∃ x, ρ = [some (.v (.frl (ns.map D.int))), some (.v (.int k)), some (.v (.int n)), some (.v (.int (celN ns k))), some (.r S.length), some (.v (.int (sB ((celN ns k * 7919 + k * 104729 + 12345) % 2147483647) i))), x, none] ∧
      T = S ++ [.lst ((((List.range i).map fun i => sB ((celN ns k * 7919 + k * 104729 + 12345) % 2147483647) (i + 1) / 65536 % 64).map D.int).map U.v)]) ⟨_, rfl, rfl⟩ ?_ ?_⟩
    · rintro i u ρ T hu ⟨x, rfl, rfl⟩
      obtain ⟨hi, rfl⟩ := rngU_get hu
      simp [isL_r]
      exact ⟨by omega, by simp [sB], by simp [List.range_succ, sB]⟩
    · rintro ρ T ⟨x, rfl, rfl⟩
      simp only [rngU_len, getv_s, getv_0]
      rw [fin_l0, rowN, if_neg h]
theorem whole_ok (i : Int) (S : Sto) : runF 1 m__law_whole [.v (.int i)] S = .ok (.v (.bl true)) S := by
  refine runF_eq ?_
  simp [m__law_whole, start0]
def std (a b : Str) (d : Int) : D := .tup [.int (d / 3 % 2), .tup [.int (d / 6 % 2), .int (d / 12 % 3 - 1)], if d % 3 = 2 then .tup [.tup [.str b, .int 0], .tup [.str a, .int 1]] else if d % 3 = 1 then .tup [.tup [.str a, .int 1]] else .tup []]
def stp (a b : Str) (d : Int) : D := if d % 6 = 0 then .non else .tup [.str (if d % 2 = 0 then a else b), .int (d / 2 % 2)]
theorem standing_ok (a b : Str) (d : Int) (S : Sto) : runF 3 m__law_standing [.v (.int d), .v (.lst [.str a, .str b])] S = .ok (.v (std a b d)) S := by
  refine runF_eq ?_
  simp [m__law_standing, start0]
  by_cases h1 : d % 3 = 1
  · simp [h1, std]
  · by_cases h2 : d % 3 = 2
    · simp [h2, std]
    · simp [h1, h2, std]
theorem step_ok (a b : Str) (d : Int) (S : Sto) : runF 2 m__law_step [.v (.int d), .v (.lst [.str a, .str b])] S = .ok (.v (stp a b d)) S := by
  refine runF_eq ?_
  simp [m__law_step, start0]
  by_cases h1 : d % 6 = 0
  · simp [h1, stp]
  · simp only [h1, if_false, stp]
    rcases Int.emod_two_eq d with h | h
    · simp [h]
    · simp [h]
theorem std_dat (a b : Str) (d : Int) : isDat (std a b d) = true := by
  unfold std; split
  · simp
  · split <;> simp
theorem stp_dat (a b : Str) (d : Int) : isDat (stp a b d) = true := by
  unfold stp; split <;> simp
theorem key_ok (a b : Str) (d e : Int) : isKey (.tup [std a b d, stp a b e]) = true := by
  unfold std stp
  split <;> split <;> (try split) <;> simp
def lett : Str := "abcdefghijklmnopqrstuvwxyz"
theorem lett_len : lett.cps.toList.length = 26 := by decide +kernel
def letD : D → D
  | .int x => .str ⟨#[lett.cps.toList.getD (x % 26).toNat 0]⟩
  | _ => .non
theorem asks_ok (row : List Int) (hl : row.length = 13) (S : Sto) : ∃ a b, runF 11 m__law_asks [.v (.lst (row.map D.int)), .v (.int 2)] S = .ok (.v (.lst [.str a, .str b])) S := by
  suffices h : wpr (runF 11 m__law_asks [.v (.lst (row.map D.int)), .v (.int 2)] S) (fun u T => ∃ a b, u = .v (.lst [.str a, .str b]) ∧ T = S) (fun _ _ _ => False) by
    obtain ⟨u, T, e, a, b, rfl, rfl⟩ := wpr_iff.mp h
    exact ⟨a, b, e⟩
  rw [wp_runF]
  have hI : ∀ i : Int, 0 ≤ i → i < 13 → ∀ k : Int → Prop, wpo (atI row i) k = k (row.getD i.toNat 0) := fun i h0 h1 k => atI_get 0 h0 (by omega)
  simp [m__law_asks, start0]
  refine w_lcV (ds := (cutU row none (some 8)).map D.int) (src := none) (S1 := S) (fun _ => true) letD ?_ ?_ nofun ?_ ?_
  · simp [cutU_map]
  · simp [cutU]; omega
  · intro d hd acc
    obtain ⟨x, hx, rfl⟩ := List.mem_map.mp hd
    simp [wipeE]
    rw [show Str.ofString "abcdefghijklmnopqrstuvwxyz" = lett from rfl]
    refine ⟨by decide +kernel, ?_⟩
    rw [atI_get 0 (by omega) (by rw [lett_len]; omega)]
    rfl
  · let ws : List Str := (cutU row none (some 8)).map fun x => (⟨#[lett.cps.toList.getD (x % 26).toNat 0]⟩ : Str)
    have e : ((((cutU row none (some 8)).map D.int).filter fun _ => true).map letD) = ws.map D.str := by
      rw [List.filter_eq_self.mpr (fun _ _ => rfl), List.map_map, List.map_map]
      rfl
    have hwn : ws.length ≤ 13 := by simp [ws, cutU]; omega
    have hws : (ws.map (·.length)).sum + ws.length * (Str.ofString "").length ≤ 100 := by
      have e1 : (ws.map (·.length)).sum = ws.length := sum_ones fun x hx => by
        obtain ⟨y, _, rfl⟩ := List.mem_map.mp hx
        rfl
      have e2 : (Str.ofString "").length = 0 := rfl
      rw [e1, e2]; omega
    rw [e, v_join _ _ (by omega)]
    have hwl := join_len (Str.ofString "") ws
    generalize Txt.join (Str.ofString "") ws = word at hwl
    refine for_inv (fun i ρ T => ∃ x5 x6 x7 x8 x9 x10 ys, ρ = [some (.v (.lst (row.map D.int))), some (.v (.int 2)), some (.v (.str "abcdefghijklmnopqrstuvwxyz")), some (.v (.str word)), some (.r S.length), x5, x6, x7, x8, x9, x10] ∧ ys.length = i ∧
      T = S ++ [.lst ((ys.map D.str).map U.v)]) ⟨none, none, none, none, none, none, [], rfl, rfl, rfl⟩ ?_ ?_
    · rintro i u ρ T hu ⟨x5, x6, x7, x8, x9, x10, ys, rfl, hy, rfl⟩
      obtain ⟨hi, rfl⟩ := rngU_get hu
      have hcut := fun lo hi => cutS_len word lo hi
      simp [hI, isL_r]
      split
      · exact ⟨by omega, by omega, ys ++ [_], by simp [hy], by simp; rfl⟩
      · refine ⟨by omega, .inr (by omega), by decide +kernel, ?_⟩
        rw [show Str.ofString "abcdefghijklmnopqrstuvwxyz" = lett from rfl, atI_get 0 (by omega) (by rw [lett_len]; omega)]
        generalize lett.cps.toList.getD _ 0 = c
        have h1 := hcut none (some (row[10]?.getD 0 % (row[9]?.getD 0 % 8 + 1)))
        have h2 := hcut (some (row[10]?.getD 0 % (row[9]?.getD 0 % 8 + 1) + 1)) (some (row[9]?.getD 0 % 8 + 1))
        have h3 : ∀ x y : Str, (x ++ y).length = x.length + y.length := fun x y => by show (x.cps ++ y.cps).size = _; simp; rfl
        have h4 : (⟨#[c]⟩ : Str).length = 1 := rfl
        refine ⟨by omega, by omega, by omega, by rw [h3]; omega, by omega, ys ++ [_], by simp [hy], by simp; rfl⟩
    · rintro ρ T ⟨x5, x6, x7, x8, x9, x10, ys, rfl, hy, rfl⟩
      simp only [rngU_len, getv_s, getv_0] at hy ⊢
      rw [fin_l0]
      match ys, hy with
      | [a, b], _ => exact ⟨⟨a, b, rfl⟩, rfl⟩
def rowD (r : D × D × Int) : D := .tup [r.1, r.2.1, .int r.2.2]
noncomputable def dueN (s t : D) (sp : Int) : List (D × D × Int) → Int
  | [] => sp
  | r :: rs => if r.1 = s ∧ r.2.1 = t then r.2.2 else dueN s t sp rs
theorem due_ok (rows : List (D × D × Int)) (u : U) (s t : D) (sp : Int) (S : Sto) (hu : asSeq S u = some ((rows.map rowD).map U.v)) (hr : ∀ r ∈ rows, isDat r.1 = true ∧ isDat r.2.1 = true) (hs : isDat s = true) (ht : isDat t = true) :
    runF 5 m__law_due [u, .v s, .v t, .v (.int sp)] S = .ok (.v (.int (dueN s t sp rows))) S := by
  refine runF_eq ?_
  simp [m__law_due, start0]
  unfold seqV
  rw [hu]
  simp only
  refine for_inv (fun i ρ T => ∃ x, ρ = [some u, some (.v s), some (.v t), some (.v (.int sp)), x] ∧ T = S ∧ dueN s t sp rows = dueN s t sp (rows.drop i)) ⟨none, rfl, rfl, rfl⟩ ?_ ?_
  · rintro i w ρ T hw ⟨x, rfl, rfl, h1⟩
    rw [List.getElem?_map, List.getElem?_map, Option.map_eq_some_iff] at hw
    obtain ⟨d, hd, rfl⟩ := hw
    obtain ⟨r, hr1, rfl⟩ := Option.map_eq_some_iff.mp hd
    obtain ⟨hd1, hd2⟩ := hr r (List.mem_of_getElem? hr1)
    have hdr : rows.drop i = r :: rows.drop (i + 1) := by
      obtain ⟨hl, e⟩ := List.getElem?_eq_some_iff.mp hr1
      rw [List.drop_eq_getElem_cons hl, e]
    rw [hdr] at h1
    have so : srcOk (srcOf u) ((srcOf u).bind fun n => T[n]?) T := by
      unfold srcOk; cases srcOf u <;> simp
    simp [rowD, v_eq hd1 hs, v_eq hd2 ht, dueN] at h1 ⊢
    by_cases e1 : r.1 = s
    · by_cases e2 : r.2.1 = t
      · simp [e1, e2] at h1 ⊢; exact h1.symm
      · simp [e1, e2] at h1 ⊢; exact ⟨so, h1⟩
    · simp [e1] at h1 ⊢; exact ⟨so, h1⟩
  · rintro ρ T ⟨x, rfl, rfl, h1⟩
    simp [dueN] at h1 ⊢
    exact h1.symm
def kD (r : D × D × Int) : D := .tup [r.1, r.2.1]
def vv (p : D × D) : D × U := (p.1, .v p.2)
noncomputable def pick (acc : List (D × D)) (r : D × D × Int) : List (D × D) := if dhas (acc.map vv) (kD r) = true then acc else acc ++ [(kD r, .int r.2.2)]
noncomputable def picks (acc : List (D × D)) (rows : List (D × D × Int)) : List (D × D) := rows.foldl pick acc
theorem pick_len (acc : List (D × D)) (r : D × D × Int) : (pick acc r).length ≤ acc.length + 1 := by unfold pick; split <;> simp
theorem picks_len (acc : List (D × D)) (rows : List (D × D × Int)) : (picks acc rows).length ≤ acc.length + rows.length := by
  unfold picks
  induction rows generalizing acc with
  | nil => simp
  | cons r rs ih =>
    have h1 := pick_len acc r
    have h2 := ih (pick acc r)
    simp only [List.foldl_cons, List.length_cons]
    omega
theorem init_ok (rows : List (D × D × Int)) (u : U) (sp : Int) (S : Sto) (hS : ∀ c ∈ S, cOk (S.length + 1) c = true) (hu : asSeq S u = some ((rows.map rowD).map U.v)) (hk : ∀ r ∈ rows, isKey (kD r) = true) (hl : rows.length ≤ 1000) :
    runF 6 m_Dealeru_initu [.r S.length, u, .v (.int sp)] (S ++ [.ins 0 []]) = .ok (.v .non) (S ++ [.ins 0 [("picks", .v (.dic (picks [] rows))), ("spare", .v (.int sp))]]) := by
  refine runF_eq ?_
  simp [m_Dealeru_initu, start0, putU]
  unfold seqV
  rw [asSeq_app _ hu]
  simp only
  refine for_inv (fun i ρ T => ∃ x y z, ρ = [some (.r S.length), some u, some (.v (.int sp)), x, y, z] ∧ T = S ++ [.ins 0 [("picks", .r (S.length + 1))], .dic ((picks [] (rows.take i)).map vv)]) ⟨none, none, none, rfl, rfl⟩ ?_ ?_
  · rintro i w ρ T hw ⟨x, y, z, rfl, rfl⟩
    obtain ⟨r, hr1, rfl, hdr⟩ := data_get hw
    have hkr := hk r (List.mem_of_getElem? hr1)
    have hi : i < rows.length := (List.getElem?_eq_some_iff.mp hr1).1
    have htk : picks [] (rows.take (i + 1)) = pick (picks [] (rows.take i)) r := by
      unfold picks
      rw [List.take_succ, hr1]
      simp
    have hd : (S ++ [Cell.ins 0 [("picks", U.r (S.length + 1))], Cell.dic ((picks [] (rows.take i)).map vv)])[S.length + 1]? = some (.dic ((picks [] (rows.take i)).map vv)) := by simp
    have hdl := picks_len [] (rows.take i)
    simp only [List.length_take, List.length_nil] at hdl
    simp [rowD]
    rw [v_inD (kvs := (picks [] (rows.take i)).map vv) (by unfold asDic; simp only [hd])]
    refine ⟨hkr, ?_⟩
    rw [htk, pick]
    by_cases hh : dhas ((picks [] (rows.take i)).map vv) (kD r) = true
    · rw [if_pos hh]
      have hh2 : dhas ((picks [] (rows.take i)).map vv) (D.tup [r.1, r.2.1]) = true := hh
      simp [hh2]
      exact src_app _ _ hu
    · rw [if_neg hh]
      have hh2 : dhas ((picks [] (rows.take i)).map vv) (D.tup [r.1, r.2.1]) = false := by simpa [kD] using hh
      simp [hh2]
      rw [v_setD hd]
      refine ⟨⟨hkr, by simp; omega⟩, ?_⟩
      unfold dput
      simp only [hh2, Bool.false_eq_true, if_false]
      refine ⟨?_, by simp [vv, kD]⟩
      simp only [set_k]
      exact src_app _ _ hu
  · rintro ρ T ⟨x, y, z, rfl, rfl⟩
    simp [putU]
    unfold fin
    have e := fixS_tail (S := S) (cs := [Cell.ins 0 []]) (ds := [.ins 0 [("picks", U.r (S.length + 1)), ("spare", U.v (D.int sp))]]) (l := [.dic ((picks [] rows).map vv)])
      (es := [.ins 0 [("picks", .v (.dic (picks [] rows))), ("spare", .v (.int sp))]]) hS rfl ?_ (by simp)
    · simp only [List.cons_append, List.nil_append] at e
      rw [e]
      rfl
    · simp only [List.length_cons, List.length_nil, Nat.zero_add, List.cons_append, List.nil_append]
      have ef : frz (S.length + 1) 4 (S ++ [.ins 0 [("picks", U.r (S.length + 1)), ("spare", U.v (D.int sp))], .dic ((picks [] rows).map vv)]) (.r (S.length + 1)) = some (.dic (picks [] rows)) := by
        show (if S.length + 1 < S.length + 1 then none else _) = _
        rw [if_neg (by omega), sto_k]
        show (optAll _ ((picks [] rows).map vv)).map D.dic = _
        rw [show vv = fun p : D × D => (p.1, U.v p.2) from rfl, optAll_dic]
        rfl
      simp [optAll, fixC, fixU, ef]
noncomputable def firstN (k : D) : List (D × D × Int) → Option U
  | [] => none
  | r :: rs => if kD r = k then some (.v (.int r.2.2)) else firstN k rs
theorem dget_app (acc : List (D × U)) (k' : D) (w : U) (k : D) : dget (acc ++ [(k', w)]) k = (dget acc k).or (if k' = k then some w else none) := by
  unfold dget
  rw [List.find?_append]
  cases List.find? (fun p : D × U => decide (p.1 = k)) acc with
  | some p => rfl
  | none =>
    by_cases h : k' = k
    · simp [h]
    · simp [h]
theorem dget_picks (k : D) : ∀ (rows : List (D × D × Int)) (acc : List (D × D)), dget ((picks acc rows).map vv) k = (dget (acc.map vv) k).or (firstN k rows)
  | [], acc => by simp [picks, firstN]
  | r :: rs, acc => by
    have ih := dget_picks k rs (pick acc r)
    have e : picks acc (r :: rs) = picks (pick acc r) rs := rfl
    have ef : firstN k (r :: rs) = if kD r = k then some (.v (.int r.2.2)) else firstN k rs := rfl
    rw [e, ih, ef]
    unfold pick
    by_cases hh : dhas (acc.map vv) (kD r) = true
    · rw [if_pos hh]
      by_cases hk : kD r = k
      · subst hk
        unfold dhas at hh
        obtain ⟨w, hw⟩ := Option.isSome_iff_exists.mp hh
        rw [hw]; simp
      · rw [if_neg hk]
    · rw [if_neg hh]
      simp only [List.map_append, List.map_cons, List.map_nil]
      rw [show vv (kD r, D.int r.2.2) = (kD r, U.v (.int r.2.2)) from rfl, dget_app, Option.or_assoc]
      by_cases hk : kD r = k
      · simp [hk]
      · simp [hk]
theorem due_first (s t : D) (sp : Int) : ∀ rows : List (D × D × Int), (firstN (.tup [s, t]) rows).getD (.v (.int sp)) = .v (.int (dueN s t sp rows))
  | [] => rfl
  | r :: rs => by
    have ih := due_first s t sp rs
    unfold firstN dueN
    by_cases h : r.1 = s ∧ r.2.1 = t
    · obtain ⟨h1, h2⟩ := h
      have e : kD r = .tup [s, t] := by simp [kD, h1, h2]
      rw [if_pos e, if_pos ⟨h1, h2⟩]; rfl
    · have e : kD r ≠ .tup [s, t] := fun z => h (by simpa [kD] using z)
      rw [if_neg e, if_neg h]; exact ih
theorem call_ok (rows : List (D × D × Int)) (n : Nat) (s t : D) (sp : Int) (S : Sto) (hn : S[n]? = some (.ins 0 [("picks", .v (.dic (picks [] rows))), ("spare", .v (.int sp))])) (hk : isKey (.tup [s, t]) = true) :
    runF 3 m_Dealeru_callu [.r n, .v s, .v t] S = .ok (.v (.int (dueN s t sp rows))) S := by
  refine runF_eq ?_
  simp [m_Dealeru_callu, start0, hn]
  rw [v_get2 (kvs := (picks [] rows).map vv) rfl]
  refine ⟨hk, ?_⟩
  rw [dget_picks, ← due_first s t sp rows]
  simp [dget, due_first]
theorem holds_ok (rows : List (D × D × Int)) (n : Nat) (u : U) (a b : Str) (sp : Int) (S : Sto) (hn : S[n]? = some (.ins 0 [("picks", .v (.dic (picks [] rows))), ("spare", .v (.int sp))])) (hu : asSeq S u = some ((rows.map rowD).map U.v))
    (hr : ∀ r ∈ rows, isDat r.1 = true ∧ isDat r.2.1 = true) : runF 9 m__law_dealer_holds [.r n, u, .v (.lst [.str a, .str b]), .v (.int sp)] S = .ok (.v (.bl true)) S := by
  refine runF_eq ?_
  simp [m__law_dealer_holds, start0]
  refine for_inv (fun i ρ T => ∃ x4 x5 x6 x7 x8, ρ = [some (.r n), some u, some (.v (.lst [.str a, .str b])), some (.v (.int sp)), x4, x5, x6, x7, x8] ∧ T = S) ⟨none, none, none, none, none, rfl, rfl⟩ ?_ ?_
  · rintro i w ρ T hw ⟨x4, x5, x6, x7, x8, rfl, rfl⟩
    obtain ⟨hi, rfl⟩ := rngU_get hw
    simp
    refine for_inv (fun j ρ T' => ∃ x5 x6 x7 x8, ρ = [some (.r n), some u, some (.v (.lst [.str a, .str b])), some (.v (.int sp)), some (.v (.int i)), x5, x6, x7, x8] ∧ T' = T) ⟨x5, x6, x7, x8, rfl, rfl⟩ ?_ ?_
    · rintro j w ρ T' hw ⟨x5, x6, x7, x8, rfl, rfl⟩
      obtain ⟨hj, rfl⟩ := rngU_get hw
      have hc := call_ok rows n (std a b i) (stp a b j) sp T' hn (key_ok a b i j)
      have hd := due_ok rows u (std a b i) (stp a b j) sp T' hu hr (std_dat a b i) (stp_dat a b j)
      simp [standing_ok, step_ok, hc, hd, whole_ok, hn]
    · rintro ρ T' ⟨x5, x6, x7, x8, rfl, rfl⟩
      simp
  · rintro ρ T ⟨x4, x5, x6, x7, x8, rfl, rfl⟩
    simp
theorem draws_i (ns : List Int) (k n : Int) (hk : 0 ≤ k) (hn0 : 0 ≤ n) (hn : n ≤ 1000) (S : Sto) : runF 8 m__law_draws [.v (.frl (ns.map D.int)), .v (.int k), .v (.int n)] S = .ok (.v (.lst ((rowN ns k n.toNat).map D.int))) S := by
  obtain ⟨m, rfl⟩ := Int.eq_ofNat_of_zero_le hn0
  exact draws_ok ns k m hk (by omega) S
theorem row_at (ns : List Int) (k : Int) (n : Nat) (i : Int) (q : Int → Prop) (h0 : 0 ≤ i) (h1 : i < n) : wpo (atI (rowN ns k n) i) q = q ((rowN ns k n).getD i.toNat 0) := atI_get 0 h0 (by rw [rowN_len]; exact h1)
def good (a b : Str) (r : D × D × Int) : Prop := ∃ d e n, r = (std a b d, stp a b e, n)
theorem good_dat {a b : Str} {r : D × D × Int} (h : good a b r) : isDat r.1 = true ∧ isDat r.2.1 = true := by
  obtain ⟨d, e, n, rfl⟩ := h; exact ⟨std_dat .., stp_dat ..⟩
theorem good_key {a b : Str} {r : D × D × Int} (h : good a b r) : isKey (kD r) = true := by
  obtain ⟨d, e, n, rfl⟩ := h; exact key_ok ..
theorem pure_law (ns : List Int) (h : ns.length ≤ 63) : ∃ S', (runF 11 m_law) [.v (.frl (ns.map D.int))] [] = .ok (.v (.bl true)) S' := by
  refine ⟨[], runF_eq ?_⟩
  obtain ⟨a, b, hask⟩ : ∃ a b, runF 11 m__law_asks [.v (.lst ((rowN ns 1 13).map D.int)), .v (.int 2)] [] = .ok (.v (.lst [.str a, .str b])) [] := asks_ok _ (rowN_len ..) _
  simp [m_law, start0, draws_i, row_at, hask]
  refine ⟨by omega, ?_⟩
  refine for_inv (fun i ρ T => ∃ x4 x10 rows, ρ = [some (.v (.frl (ns.map D.int))), some (.v (.lst ((rowN ns 0 6).map D.int))), some (.v (.lst [.str a, .str b])), some (.r 0), x4, none, none, none, none, none, x10] ∧
    T = [.lst ((rows.map rowD).map U.v)] ∧ rows.length = i ∧ ∀ r ∈ rows, good a b r) ⟨none, none, [], rfl, rfl, rfl, by simp⟩ ?_ ?_
  · rintro i w ρ T hw ⟨x4, x10, rows, rfl, rfl, hl, hg⟩
    obtain ⟨hi, rfl⟩ := rngU_get hw
    have h2 : (0 : Int) ≤ 2 + i := by omega
    simp [draws_i, row_at, standing_ok, step_ok, isL_r, h2]
    refine ⟨by omega, rows ++ [(_, _, _)], by simp [rowD]; exact ⟨rfl, rfl, rfl⟩, by simp [hl], ?_⟩
    intro r1 r2 r3 hr
    rcases List.mem_append.mp hr with hr | hr
    · exact hg _ hr
    · simp only [List.mem_singleton] at hr
      exact ⟨_, _, _, hr⟩
  · rintro ρ T ⟨x4, x10, rows, rfl, rfl, hl, hg⟩
    simp only [rngU_len] at hl
    have hl2 : rows.length ≤ 13 := by omega
    have hdat := fun r hr => good_dat (hg r hr)
    have hkey := fun r hr => good_key (hg r hr)
    have hg' : ∀ r ∈ rows.reverse, good a b r := fun r hr => hg r (List.mem_reverse.mp hr)
    have hdat' := fun r hr => good_dat (hg' r hr)
    have hkey' := fun r hr => good_key (hg' r hr)
    have hR : ((rows.map rowD).map U.v).all (uOk 900) = true := by simp [uOk]
    have cR : ∀ n, cOk n (.lst ((rows.map rowD).map U.v)) = true := fun n => by simp [cOk, uOk]
    have eL : isDat (.lst (rows.map rowD)) = true := by
      show (rows.map rowD).all (datAt 19) = true
      rw [List.all_map, List.all_eq_true]
      intro r hr
      obtain ⟨d, e, n, rfl⟩ := hg _ hr
      simp only [Function.comp, rowD]
      unfold std stp
      split <;> split <;> (try split) <;> simp
    have H0 : ∀ (n : Nat) (sp : Int) (S : Sto), S[n]? = some (.ins 0 [("picks", .v (.dic (picks [] rows))), ("spare", .v (.int sp))]) → S[0]? = some (.lst ((rows.map rowD).map U.v)) →
        runF 9 m__law_dealer_holds [.r n, .r 0, .v (.lst [.str a, .str b]), .v (.int sp)] S = .ok (.v (.bl true)) S := fun n sp S h1 h2 => holds_ok rows n (.r 0) a b sp S h1 (by unfold asSeq; simp only [h2]) hdat
    have H1 : ∀ (n : Nat) (sp : Int) (S : Sto), S[n]? = some (.ins 0 [("picks", .v (.dic (picks [] rows.reverse))), ("spare", .v (.int sp))]) →
        runF 9 m__law_dealer_holds [.r n, .v (.lst (rows.map rowD).reverse), .v (.lst [.str a, .str b]), .v (.int sp)] S = .ok (.v (.bl true)) S := fun n sp S h1 => holds_ok rows.reverse n _ a b sp S h1 (by rw [← List.map_reverse]; rfl) hdat'
    have I0 := fun sp S hS hu => init_ok rows (.r 1) sp S hS hu hkey (by omega)
    have I1 := fun sp S hS => init_ok rows.reverse (.v (.lst (rows.map rowD).reverse)) sp S hS (by rw [← List.map_reverse]; rfl) hkey' (by simp; omega)
    have lR : ((rows.map rowD).map U.v).length = rows.length := by simp
    generalize hRR : (rows.map rowD) = R at *
    have i1 := fun sp => I0 sp [.lst (R.map U.v), .lst (R.map U.v)] (by simp [cR]) rfl
    simp only [List.length_cons, List.length_nil, List.cons_append, List.nil_append, Nat.zero_add, Nat.reduceAdd] at i1
    simp [row_at, -List.map_map, gU_Dealeru_initu_spare, i1, dd_Dealeru_initu]
    generalize (rowN ns 0 6)[1]?.getD 0 % 8 - 1 = w
    split
    · have i2 := I0 0 [.lst (R.map U.v), .lst (R.map U.v), .ins 0 [("picks", .v (.dic (picks [] rows))), ("spare", .v (.int w))]] (by simp [cR, cOk, uOk]) rfl
      have i3 := I1 7 [.lst (R.map U.v), .lst (R.map U.v), .ins 0 [("picks", .v (.dic (picks [] rows))), ("spare", .v (.int w))], .ins 0 [("picks", .v (.dic (picks [] rows))), ("spare", .v (.int 0))]] (by simp [cR, cOk, uOk])
      simp only [List.length_cons, List.length_nil, List.cons_append, List.nil_append, Nat.zero_add, Nat.reduceAdd] at i2 i3
      simp [-List.map_map, i2, i3]
      rw [v_neL (xs := R) (ys := R) rfl rfl eL eL]
      simp [-List.map_map, H0, standing_ok, H1, isL_r]
      exact ⟨by rw [← hRR]; simp; omega, fin_v [] _ _⟩
    · have i3 := I1 7 [.lst (R.map U.v), .lst (R.map U.v), .ins 0 [("picks", .v (.dic (picks [] rows))), ("spare", .v (.int w))]] (by simp [cR, cOk, uOk])
      simp only [List.length_cons, List.length_nil, List.cons_append, List.nil_append, Nat.zero_add, Nat.reduceAdd] at i3
      simp [-List.map_map, i3]
      rw [v_neL (xs := R) (ys := R) rfl rfl eL eL]
      simp [-List.map_map, H0, standing_ok, H1, isL_r]
      exact ⟨by rw [← hRR]; simp; omega, fin_v [] _ _⟩
end K10
namespace K10
open PySem PySem.Spec PyProof.Rows L2
abbrev Rw : PySem.W.OpenRow := PySem.W.OpenLaw.row PySem.Challenge.rw_askshanded_k10_a_dealer_of_rows
abbrev hk : PySem.W.Hook := He.hookD 4 fa fn
def ob (s : PySem.W.SharedT) : He.AlD := He.obsDG 4 fa fn (HandSHeadRun.getT s)
theorem ob_eq (s : PySem.W.SharedT) : ob s = hk.obs s.abs := He.obsDG_eq (HandSHeadRun.getT_eq s)
theorem run (w : World) : HandSHeadRun.RunEq Rw (PySem.W.view Rw.prog [11]) hk ob 4000 ["Dealer", "_law_cell", "_law_draws", "_law_asks", "_law_whole", "_law_standing", "_law_step", "_law_due", "_law_dealer_holds"] w := by
  intro os
  kernel_rfl
end K10
open PySem PySem.W PySem.Calls PyProof.Rows
theorem PySem.Challenge.cw_askshanded_k10_a_dealer_of_rows_holds : PySem.Challenge.rw_askshanded_k10_a_dealer_of_rows.Holds := by
  w_on; o_law
  refine HandSHeadRun.head_any (r := OpenLaw.row PySem.Challenge.rw_askshanded_k10_a_dealer_of_rows) (q := view (OpenLaw.row PySem.Challenge.rw_askshanded_k10_a_dealer_of_rows).prog [11]) (H := K10.hk) (ob := K10.ob) (M := 4000) (loose := ["Dealer", "_law_cell", "_law_draws", "_law_asks", "_law_whole", "_law_standing", "_law_step", "_law_due", "_law_dealer_holds"]) (d := HandSHeadRun.topDef (OpenLaw.row PySem.Challenge.rw_askshanded_k10_a_dealer_of_rows).prog 11) (kwd := []) K10.ob_eq
    (by kernel_rfl) (fun s => by kernel_rfl) K10.run (by kernel_rfl) (by kernel_rfl) (by kernel_rfl) (by rfl) (by first | assumption | decide +kernel) (by decide +kernel) ⟨rfl, rfl, rfl, rfl, rfl, by decide +kernel⟩ ?hw ?hc
  case hw => w_witness2
  case hc =>
    refine Pu.law_end (l := PySem.Challenge.rw_askshanded_k10_a_dealer_of_rows) (n := 63) (k := 3) (x := "_law_script") (cl := K10.cl) rfl (by decide) (by kernel_rfl) ⟨rfl, by decide, by decide⟩ K10.pure_law ?F
    intro w mg fa h Y G hmg0
    obtain ⟨K, KX, c⟩ := Y
    have hmg : mg ("law" : PySem.Str) = some (.ref fa) := by
      have e : (HandSHeadRun.topDef (OpenLaw.row PySem.Challenge.rw_askshanded_k10_a_dealer_of_rows).prog 11).name = ("law" : PySem.Str) := by kernel_rfl
      rw [← e]
      exact hmg0
    have Gf := K10.facts KX G c
    have e := hmg.symm.trans Gf.g_law
    cases e
    obtain ⟨fd, Fd⟩ := Gf.d_law
    have b := L2.FunD.bindsA (ps := ["_law_script"]) Fd fun _ _ _ _ _ _ us hl => match us, hl with | [_], _ => rfl
    refine ⟨K, fd, KX, fun s v => b s [v] rfl, fun base => ?_⟩
    obtain ⟨fd2, Fd2, ok⟩ := K10.ok_law (P := PySem.Challenge.rw_askshanded_k10_a_dealer_of_rows.prog) (w := w) (base := base) Gf
    have e2 := Pu.funD_same Fd Fd2
    subst e2
    exact ok
