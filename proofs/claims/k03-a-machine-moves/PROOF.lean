import PyProof.Rows.All
import Wide.All
import OpenK.AllK
import Wide.FinOn
import HandS.ForMost
import HandS.ForExc
import KE.KDictKeyed
import KE.DataCmp
import HandS.CallSlots
import HandS.Defaults
import HandS.TupAny
import HandS.IsInst
import HandS.Style
import HandS.RaiseMore
import KE.KDictWalk
import HandS.MakeKwOnly
import HandS.Star
import HandS.More
import HandS.WordsExc
import HandS.Ends
import HandS.HeadEnd
import KE.KSuper
import HandS.ClsMeth
import KE.DataAny
import HandS.Property
import KE.KOpsOwn
import KE.KOwnIter
import HandS.IterVal
import KE.SortData
import HandS.Iter
import HandS.HeadHook1
import HandS.HeadHook2
import HandS.Head2
import PyProof.Conv_bool
import PyProof.DictCompW
import HandS.DictComp
import KE.KDictList
import KE.KExcSuper
import HandS.ExcInit
import HandS.ExcField
import HandS.ExcIs
import KE.KExcIs
import HandS.Head0
import HandS.Head1
import HandS.Words
import KE.KStateDown
import PySem.Challenge.RW_askshanded_k03_a_machine_moves
set_option Elab.async false
set_option linter.all false
set_option maxRecDepth 100000
set_option maxHeartbeats 0
/-! Pu: pure data over the hand layer's abstract heaps. D: immutable data by value; U: data or a cell of the store;
    Rep: a value V in an abstract heap H bears the datum; Rel: the store is borne; Evo: how a heap may go on. -/
namespace Pu
open PySem L2

inductive D where
  | non | bl (b : Bool) | int (i : Int) | str (x : Str) | tup (xs : List D) | lst (xs : List D)
  | dic (kvs : List (D × D)) | ins (c : Nat) (fs : List (Str × D)) | cls (c : Nat) | ty (n : String) | frl (xs : List D) | exn (c : Nat) (fs : List (Str × D))

noncomputable instance : DecidableEq D := fun _ _ => Classical.propDecidable _

inductive U where
  | v (d : D) | r (n : Nat)

inductive Cell where
  | lst (xs : List U) | dic (kvs : List (D × U)) | ins (c : Nat) (fs : List (Str × U)) | dead | dicL (kvs : List (D × U)) | tpc (xs : List U)

noncomputable instance : DecidableEq U := fun _ _ => Classical.propDecidable _
noncomputable instance : DecidableEq Cell := fun _ _ => Classical.propDecidable _
abbrev Sto := List Cell
abbrev Env' := List (Option U)

/-- the text: the program, the world, what the top has written, the classes' addresses -/
structure Bx where
  prog : Program
  w : World
  K : PySem.W.Frag
  cl : Nat → Addr

/-- the key of a datum -/
def nkey : D → Option NestedKey
  | .non => some .none
  | .int i => some (.num i)
  | .str x => some (.text x)
  | .tup xs => (nkeys xs).map .tup
  | _ => none
where nkeys : List D → Option (List NestedKey)
  | [] => some []
  | x :: xs => match nkey x, nkeys xs with
    | some k, some ks => some (k :: ks)
    | _, _ => none

/-- the raw entries of a dict -/
abbrev Ent := NestedKey × Addr × Value
def DRaw (P : Program) (w : World) (a : Addr) (xs : List Ent) (h : Heap) : Prop :=
  ∃ o es ep, h.get? a = some o ∧ o.ExactDict ∧ o.data = .dict es ep ∧ es.toList = xs.map (entryOfKey (nestedKind P w)) ∧ (xs.map (·.1)).Nodup ∧ (a == sysModules) = false
def dicO (P : Program) (w : World) (a : Addr) (xs : List Ent) : HO := .ext (DRaw P w a xs)

/-- an exception that was caught -/
def xO (a : Addr) (oe : Obj) : HO := .ext fun h => h.get? a = some oe
/-- a list that stays as it is: locked, or of the written part -/
def Lk (K : PySem.W.Frag) (F : Addr → Prop) (H : Hp) (a : Addr) (xs : List V) : Prop := (F a ∧ ∃ o, H a = some (.frz o (.lst xs))) ∨
  ∃ (o : Obj) (its : Array Value) (n : Nat), K.lookup a = some o ∧ o.cls = .type "list" ∧ o.dict = none ∧ o.data = .seq its n ∧ its.size ≤ sizeLine ∧ Vals xs its.toList
theorem Lk.sq {K : PySem.W.Frag} {F : Addr → Prop} {H : Hp} {a : Addr} {xs : List V} (h : Lk K F H a xs) : SqL K H a xs := by
  rcases h with ⟨_, o, h⟩ | h
  · exact .inl (.inr ⟨o, h⟩)
  · exact .inr h
section
variable (B : Bx) (F : Addr → Prop) (H : Hp)
mutual
inductive Rep : V → D → Prop
  | non : Rep .non .non
  | bl (b : Bool) : Rep (.bl b) (.bl b)
  | int (i : Int) : Rep (.int i) (.int i)
  | str (x : Str) : PyData.strOk x = true → Rep (.str x) (.str x)
  | tup {a : Addr} {vs : List V} {ds : List D} : H a = some (.tup vs) → Reps vs ds → Rep (.ref a) (.tup ds)
  | lst {a : Addr} {vs : List V} {ds : List D} : F a → H a = some (.lst vs) → Reps vs ds → Rep (.ref a) (.lst ds)
  | frl {a : Addr} {vs : List V} {ds : List D} : Lk B.K F H a vs → Reps vs ds → Rep (.ref a) (.frl ds)
  | dic {a : Addr} {xs : List Ent} {kvs : List (D × D)} : F a → Rd H a (dicO B.prog B.w a xs) → xs.length ≤ sizeLine → RepK xs kvs → Rep (.ref a) (.dic kvs)
  | ins {a dx : Addr} {c : Nat} {vs : List (Str × V)} {fs : List (Str × D)} : F a → F dx → H a = some (.ins (B.cl c) dx vs) → H dx = some (.own a) → RepF vs fs → Rep (.ref a) (.ins c fs)
  | cls (c : Nat) : Rep (.ref (B.cl c)) (.cls c)
  | ty (n : String) : Rep (.ty n) (.ty n)
  | exn {a dx : Addr} {oe : Obj} {w : Array Value} {c : Nat} {vs : List (Str × V)} {fs : List (Str × D)} : F a → F dx → Rd H a (xO a oe) → oe.cls = .ref (B.cl c) → oe.dict = some dx → oe.data = .fields w → H dx = some (.xd vs) → RepF vs fs → Rep (.ref a) (.exn c fs)
inductive Reps : List V → List D → Prop
  | nil : Reps [] []
  | cons {v : V} {vs : List V} {d : D} {ds : List D} : Rep v d → Reps vs ds → Reps (v :: vs) (d :: ds)
inductive RepK : List Ent → List (D × D) → Prop
  | nil : RepK [] []
  | cons {nk : NestedKey} {b : Addr} {u : Value} {v : V} {k d : D} {xs : List Ent} {kvs : List (D × D)} : nkey k = some nk → Rep (.ref b) k → nk.depth ≤ 8 → RelV v u → Rep v d → RepK xs kvs → RepK ((nk, b, u) :: xs) ((k, d) :: kvs)
inductive RepF : List (Str × V) → List (Str × D) → Prop
  | nil : RepF [] []
  | cons {x : Str} {v : V} {d : D} {vs : List (Str × V)} {fs : List (Str × D)} : Rep v d → RepF vs fs → RepF ((x, v) :: vs) ((x, d) :: fs)
end
end

/-- a value, a cell of the store -/
inductive RepU (B : Bx) (ι : List Addr) (F : Addr → Prop) (H : Hp) : V → U → Prop
  | v {v : V} {d : D} : Rep B F H v d → RepU B ι F H v (.v d)
  | r {n : Nat} {a : Addr} : ι[n]? = some a → RepU B ι F H (.ref a) (.r n)
abbrev RepUs (B : Bx) (ι : List Addr) (F : Addr → Prop) (H : Hp) : List V → List U → Prop := Paired (RepU B ι F H)
/-- a dict's entries, a cell's -/
def RepKU (B : Bx) (ι : List Addr) (F : Addr → Prop) (H : Hp) : List Ent → List (D × U) → Prop :=
  Paired fun (e : Ent) (p : D × U) => nkey p.1 = some e.1 ∧ Rep B F H (.ref e.2.1) p.1 ∧ e.1.depth ≤ 8 ∧ ∃ v, RelV v e.2.2 ∧ RepU B ι F H v p.2
def RepFU (B : Bx) (ι : List Addr) (F : Addr → Prop) (H : Hp) : List (Str × V) → List (Str × U) → Prop :=
  Paired fun (e : Str × V) (p : Str × U) => e.1 = p.1 ∧ RepU B ι F H e.2 p.2

/-- the cell c stands at a -/
def CellOk (B : Bx) (ι : List Addr) (F : Addr → Prop) (H : Hp) (a : Addr) : Cell → Prop
  | .lst xs => ∃ vs, H a = some (.lst vs) ∧ RepUs B ι F H vs xs
  | .dic kvs => ∃ es, H a = some (dicO B.prog B.w a es) ∧ es.length ≤ sizeLine ∧ RepKU B ι F H es kvs
  | .ins c fs => ∃ dx vs, H a = some (.ins (B.cl c) dx vs) ∧ H dx = some (.own a) ∧ ¬ F dx ∧ RepFU B ι F H vs fs
  | .dead => True
  | .tpc xs => ∃ vs, H a = some (.tup vs) ∧ RepUs B ι F H vs xs
  | .dicL kvs => ∃ es od, H a = some (.frz od (dicO B.prog B.w a es)) ∧ es.length ≤ sizeLine ∧ RepKU B ι F H es kvs
def Cell.live : Cell → Bool
  | .dead => false
  | _ => true

structure Rel (B : Bx) (ι : List Addr) (F : Addr → Prop) (S : Sto) (H : Hp) : Prop where
  len : ι.length = S.length
  nd : ι.Nodup
  nf : ∀ (n : Nat) (a : Addr) (c : Cell), ι[n]? = some a → S[n]? = some c → c.live = true → ¬ F a
  ok : ∀ (n : Nat) (a : Addr) (c : Cell), ι[n]? = some a → S[n]? = some c → CellOk B ι F H a c
  there : ∀ a ∈ ι, H a ≠ none
  fthere : ∀ a, F a → H a ≠ none
  now : ∀ a ∈ ι, ∀ x, H a ≠ some (.own x)

/-- what values by value need of a heap's going on -/
structure Ev0 (F : Addr → Prop) (H : Hp) (F' : Addr → Prop) (H' : Hp) : Prop where
  sub : ∀ a, F a → F' a
  keep : ∀ a o, F a → H a = some o → (∀ φ, o ≠ .ext φ) → H' a = some o
  tups : ∀ a xs, H a = some (.tup xs) → H' a = some (.tup xs)
  kext : ∀ a φ, F a → Rd H a (.ext φ) → Rd H' a (.ext φ)
structure Evo (ι : List Addr) (F : Addr → Prop) (H : Hp) (ι' : List Addr) (F' : Addr → Prop) (H' : Hp) : Prop where
  pre : ∀ (n : Nat) (a : Addr), ι[n]? = some a → ι'[n]? = some a
  sub : ∀ a, F a → F' a
  keep : ∀ a o, F a → H a = some o → (∀ φ, o ≠ .ext φ) → H' a = some o
  tups : ∀ a xs, H a = some (.tup xs) → H' a = some (.tup xs)
  alive : ∀ a, H a ≠ none → H' a ≠ none
  lkd : ∀ a o u, H a = some (.frz o u) → H' a = some (.frz o u)
  kext : ∀ a φ, F a → Rd H a (.ext φ) → Rd H' a (.ext φ)
theorem Evo.e0 {ι ι' : List Addr} {F F' : Addr → Prop} {H H' : Hp} (e : Evo ι F H ι' F' H') : Ev0 F H F' H' := ⟨e.sub, e.keep, e.tups, e.kext⟩
theorem rd_ne {H : Hp} {a b : Addr} {o u : HO} (hb : b ≠ a) (h : Rd H b u) : Rd (upd H a o) b u := by
  unfold Rd
  rw [upd_ne hb]; exact h

theorem Evo.refl {ι : List Addr} {F : Addr → Prop} {H : Hp} : Evo ι F H ι F H := ⟨fun _ _ h => h, fun _ h => h, fun _ _ _ h _ => h, fun _ _ h => h, fun _ h => h, fun _ _ _ h => h, fun _ _ _ h => h⟩
theorem Evo.trans {ι ι1 ι2 : List Addr} {F F1 F2 : Addr → Prop} {H H1 H2 : Hp} (a : Evo ι F H ι1 F1 H1) (b : Evo ι1 F1 H1 ι2 F2 H2) : Evo ι F H ι2 F2 H2 :=
  ⟨fun n x h => b.pre n x (a.pre n x h), fun x h => b.sub x (a.sub x h), fun x o f h q => b.keep x o (a.sub x f) (a.keep x o f h q) q, fun x xs h => b.tups x xs (a.tups x xs h), fun x h => b.alive x (a.alive x h), fun x o u h => b.lkd x o u (a.lkd x o u h), fun x φ f h => b.kext x φ (a.sub x f) (a.kext x φ f h)⟩

section
variable {B : Bx} {ι ι' : List Addr} {F F' : Addr → Prop} {H H' : Hp}
mutual
theorem Rep.mono0 (e : Ev0 F H F' H') : ∀ {v : V} {d : D}, Rep B F H v d → Rep B F' H' v d
  | _, _, .non => .non
  | _, _, .bl b => .bl b
  | _, _, .int i => .int i
  | _, _, .str x h => .str x h
  | _, _, .tup h r => .tup (e.tups _ _ h) (Reps.mono0 e r)
  | _, _, .lst f h r => .lst (e.sub _ f) (e.keep _ _ f h nofun) (Reps.mono0 e r)
  | _, _, .frl h r => .frl (by
    rcases h with ⟨f, o, h⟩ | h
    · exact .inl ⟨e.sub _ f, o, e.keep _ _ f h nofun⟩
    · exact .inr h) (Reps.mono0 e r)
  | _, _, .dic f h z r => .dic (e.sub _ f) (e.kext _ _ f h) z (RepK.mono0 e r)
  | _, _, .ins f g h h2 r => .ins (e.sub _ f) (e.sub _ g) (e.keep _ _ f h nofun) (e.keep _ _ g h2 nofun) (RepF.mono0 e r)
  | _, _, .cls c => .cls c
  | _, _, .ty n => .ty n
  | _, _, .exn f g h a b c h2 r => .exn (e.sub _ f) (e.sub _ g) (e.kext _ _ f h) a b c (e.keep _ _ g h2 nofun) (RepF.mono0 e r)
theorem Reps.mono0 (e : Ev0 F H F' H') : ∀ {v : List V} {d : List D}, Reps B F H v d → Reps B F' H' v d
  | _, _, .nil => .nil
  | _, _, .cons a b => .cons (Rep.mono0 e a) (Reps.mono0 e b)
theorem RepK.mono0 (e : Ev0 F H F' H') : ∀ {v : List Ent} {d : List (D × D)}, RepK B F H v d → RepK B F' H' v d
  | _, _, .nil => .nil
  | _, _, .cons a b c d f g => .cons a (Rep.mono0 e b) c d (Rep.mono0 e f) (RepK.mono0 e g)
theorem RepF.mono0 (e : Ev0 F H F' H') : ∀ {v : List (Str × V)} {d : List (Str × D)}, RepF B F H v d → RepF B F' H' v d
  | _, _, .nil => .nil
  | _, _, .cons a b => .cons (Rep.mono0 e a) (RepF.mono0 e b)
end
theorem Rep.mono (e : Evo ι F H ι' F' H') {v : V} {d : D} (h : Rep B F H v d) : Rep B F' H' v d := h.mono0 e.e0
theorem Reps.mono (e : Evo ι F H ι' F' H') {v : List V} {d : List D} (h : Reps B F H v d) : Reps B F' H' v d := h.mono0 e.e0
theorem RepK.mono (e : Evo ι F H ι' F' H') {v : List Ent} {d : List (D × D)} (h : RepK B F H v d) : RepK B F' H' v d := h.mono0 e.e0
theorem RepF.mono (e : Evo ι F H ι' F' H') {v : List (Str × V)} {d : List (Str × D)} (h : RepF B F H v d) : RepF B F' H' v d := h.mono0 e.e0
theorem RepU.mono (e : Evo ι F H ι' F' H') {v : V} {u : U} (h : RepU B ι F H v u) : RepU B ι' F' H' v u := by
  cases h with
  | v h => exact .v (h.mono e)
  | r h => exact .r (e.pre _ _ h)
theorem RepUs.mono (e : Evo ι F H ι' F' H') {v : List V} {u : List U} (h : RepUs B ι F H v u) : RepUs B ι' F' H' v u := Paired.mapP h fun _ _ x => x.mono e
theorem RepKU.mono (e : Evo ι F H ι' F' H') {v : List Ent} {u : List (D × U)} (h : RepKU B ι F H v u) : RepKU B ι' F' H' v u :=
  Paired.mapP h fun _ _ ⟨a, b, c, w, x, y⟩ => ⟨a, b.mono e, c, w, x, y.mono e⟩
theorem RepFU.mono (e : Evo ι F H ι' F' H') {v : List (Str × V)} {u : List (Str × U)} (h : RepFU B ι F H v u) : RepFU B ι' F' H' v u :=
  Paired.mapP h fun _ _ ⟨a, b⟩ => ⟨a, b.mono e⟩
end
end Pu
/-! Pu: results, what is wanted behind a piece, the store's steps. -/
namespace Pu
open PySem L2

abbrev bx (X : Cx) (cl : Nat → Addr) : Bx := ⟨X.prog, X.w, X.K, cl⟩

inductive R (α : Type) where
  | ok (a : α) (S : Sto) | ex (c : Nat) (fs : List (Str × U)) (S : Sto) | er
def R.bind {α β : Type} (r : R α) (k : α → Sto → R β) : R β := match r with
  | .ok a S => k a S
  | .ex c fs S => .ex c fs S
  | .er => .er
@[simp] theorem R.bind_ok {α β : Type} (a : α) (S : Sto) (k : α → Sto → R β) : (R.ok a S).bind k = k a S := rfl
@[simp] theorem R.bind_ex {α β : Type} (c : Nat) (fs : List (Str × U)) (S : Sto) (k : α → Sto → R β) : (R.ex c fs S : R α).bind k = .ex c fs S := rfl
@[simp] theorem R.bind_er {α β : Type} (k : α → Sto → R β) : (R.er : R α).bind k = .er := rfl

abbrev ME := Env' → Sto → R U
abbrev MT := Env' → Sto → R Bool
abbrev MA := Env' → Sto → R (List U)
abbrev MG := U → Env' → Option Env'
/-- a statement's end -/
inductive RS where
  | nx (ρ : Env') (S : Sto) | rt (u : U) (S : Sto) | bk (ρ : Env') (S : Sto) | ct (ρ : Env') (S : Sto) | ex (c : Nat) (fs : List (Str × U)) (ρ : Env') (S : Sto) | er
abbrev MS := Env' → Sto → RS

/-- a slot -/
def RepO (B : Bx) (ι : List Addr) (F : Addr → Prop) (H : Hp) : Option V → Option U → Prop
  | _, none => True
  | some v, some u => RepU B ι F H v u
  | none, some _ => False
abbrev REnv (B : Bx) (ι : List Addr) (F : Addr → Prop) (H : Hp) : St → Env' → Prop := Paired (RepO B ι F H)

section
variable {B : Bx} {ι ι' : List Addr} {F F' : Addr → Prop} {H H' : Hp}
theorem RepO.mono (e : Evo ι F H ι' F' H') : ∀ {v : Option V} {u : Option U}, RepO B ι F H v u → RepO B ι' F' H' v u
  | _, none, _ => by unfold RepO; split <;> trivial
  | some v, some u, h => RepU.mono e (show RepU B ι F H v u from h)
  | none, some u, h => False.elim h
theorem REnv.mono (e : Evo ι F H ι' F' H') {σ : St} {ρ : Env'} (h : REnv B ι F H σ ρ) : REnv B ι' F' H' σ ρ := Paired.mapP h fun _ _ x => x.mono e
theorem paired_get {α β : Type} {P : α → β → Prop} : ∀ {xs : List α} {ys : List β} {i : Nat} {y : β}, Paired P xs ys → ys[i]? = some y → ∃ x, xs[i]? = some x ∧ P x y
  | _, _, _, _, .nil, h => by simp at h
  | _, _, 0, _, .cons r _, h => by simp at h; subst h; exact ⟨_, rfl, r⟩
  | _, _, i + 1, y, .cons _ t, h => by
    obtain ⟨x, h1, h2⟩ := paired_get (i := i) (y := y) t (by simpa using h)
    exact ⟨x, by simpa using h1, h2⟩
theorem paired_get' {α β : Type} {P : α → β → Prop} : ∀ {xs : List α} {ys : List β} {i : Nat} {x : α}, Paired P xs ys → xs[i]? = some x → ∃ y, ys[i]? = some y ∧ P x y
  | _, _, _, _, .nil, h => by simp at h
  | _, _, 0, _, .cons r _, h => by simp at h; subst h; exact ⟨_, rfl, r⟩
  | _, _, i + 1, y, .cons _ t, h => by
    obtain ⟨x, h1, h2⟩ := paired_get' (i := i) (x := y) t (by simpa using h)
    exact ⟨x, by simpa using h1, h2⟩
theorem paired_set {α β : Type} {P : α → β → Prop} {x : α} {y : β} (r : P x y) : ∀ {xs : List α} {ys : List β} (i : Nat), Paired P xs ys → Paired P (xs.set i x) (ys.set i y)
  | _, _, _, .nil => .nil
  | _, _, 0, .cons _ t => .cons r t
  | _, _, i + 1, .cons q t => .cons q (paired_set r i t)
theorem paired_append {α β : Type} {P : α → β → Prop} : ∀ {xs xs' : List α} {ys ys' : List β}, Paired P xs ys → Paired P xs' ys' → Paired P (xs ++ xs') (ys ++ ys')
  | _, _, _, _, .nil, h => h
  | _, _, _, _, .cons a b, h => .cons a (paired_append b h)
theorem paired_len {α β : Type} {P : α → β → Prop} : ∀ {xs : List α} {ys : List β}, Paired P xs ys → xs.length = ys.length
  | _, _, .nil => rfl
  | _, _, .cons _ b => by simp [paired_len b]
theorem paired_take {α β : Type} {P : α → β → Prop} : ∀ {xs : List α} {ys : List β} (n : Nat), Paired P xs ys → Paired P (xs.take n) (ys.take n)
  | _, _, 0, _ => by simp; exact .nil
  | _, _, _ + 1, .nil => by simp; exact .nil
  | _, _, n + 1, .cons a b => by simp; exact .cons a (paired_take n b)
theorem paired_drop {α β : Type} {P : α → β → Prop} : ∀ {xs : List α} {ys : List β} (n : Nat), Paired P xs ys → Paired P (xs.drop n) (ys.drop n)
  | _, _, 0, h => by simpa using h
  | _, _, _ + 1, .nil => by simp; exact .nil
  | _, _, n + 1, .cons a b => by simpa using paired_drop n b
theorem paired_rev {α β : Type} {P : α → β → Prop} : ∀ {xs : List α} {ys : List β}, Paired P xs ys → Paired P xs.reverse ys.reverse
  | _, _, .nil => .nil
  | _, _, .cons a b => by simp only [List.reverse_cons]; exact paired_append (paired_rev b) (.cons a .nil)
theorem reps_iff : ∀ {vs : List V} {ds : List D}, Reps B F H vs ds ↔ Paired (Rep B F H) vs ds
  | [], [] => ⟨fun _ => .nil, fun _ => .nil⟩
  | [], _ :: _ => ⟨nofun, nofun⟩
  | _ :: _, [] => ⟨nofun, nofun⟩
  | v :: vs, d :: ds => ⟨fun | .cons a b => .cons a (reps_iff.mp b), fun | .cons a b => .cons a (reps_iff.mpr b)⟩
theorem reps_u {vs : List V} {ds : List D} (h : Reps B F H vs ds) : RepUs B ι F H vs (ds.map U.v) := by
  have := reps_iff.mp h
  clear h
  induction this with
  | nil => exact .nil
  | cons a b ih => exact .cons (.v a) ih
/-- what a list of U's is as data -/
def allV : List U → Option (List D)
  | [] => some []
  | .v d :: us => (allV us).map (d :: ·)
  | .r _ :: _ => none
@[simp] theorem allV_map (ds : List D) : allV (ds.map U.v) = some ds := by
  induction ds with
  | nil => rfl
  | cons d ds ih => simp [allV, ih]
theorem allV_some : ∀ {us : List U} {ds : List D}, allV us = some ds → us = ds.map U.v
  | [], ds, h => by simp [allV] at h; subst h; rfl
  | .v d :: us, ds, h => by
    cases e : allV us with
    | none => simp [allV, e] at h
    | some es =>
      simp [allV, e] at h
      subst h
      simp [allV_some e]
  | .r _ :: _, ds, h => by simp [allV] at h
theorem repus_reps : ∀ {vs : List V} {ds : List D}, RepUs B ι F H vs (ds.map U.v) → Reps B F H vs ds
  | _, [], h => by cases h; exact .nil
  | _, d :: ds, h => by
    cases h with
    | cons a b =>
      cases a with
      | v a => exact .cons a (repus_reps b)
end

/-! ### heaps that go on -/
section
variable {B : Bx} {ι ι' : List Addr} {F F' : Addr → Prop} {H H' : Hp} {S : Sto} {p : Addr} {o : HO}
theorem Evo.kept (k : ∀ a o, H a = some o → H' a = some o) (hF : ∀ a, F a → F' a) : Evo ι F H ι F' H' :=
  ⟨fun _ _ h => h, hF, fun a o _ h _ => k a o h, fun a xs h => k a _ h, fun a h => by
    cases e : H a with
    | none => exact absurd e h
    | some o => rw [k a o e]; simp, fun a o u h => k a _ h, fun a φ _ h => h.elim (fun h => .inl (k a _ h)) fun ⟨o, h⟩ => .inr ⟨o, k a _ h⟩⟩
theorem kept_upd (h : H p = none) : ∀ a u, H a = some u → upd H p o a = some u := fun a u e => by
  rw [upd_ne (ne_of_none e h)]; exact e
theorem CellOk.kept {a : Addr} {c : Cell} (k : ∀ a o, H a = some o → H' a = some o) (hF : ∀ a, F a → F' a) (hF2 : ∀ a, F' a → ¬ F a → H a = none) (e : Evo ι F H ι' F' H') (x : CellOk B ι F H a c) : CellOk B ι' F' H' a c := by
  cases c with
  | lst xs => obtain ⟨vs, h, r⟩ := x; exact ⟨vs, k _ _ h, r.mono e⟩
  | tpc xs => obtain ⟨vs, h, r⟩ := x; exact ⟨vs, k _ _ h, r.mono e⟩
  | dic kvs => obtain ⟨es, h, z, r⟩ := x; exact ⟨es, k _ _ h, z, r.mono e⟩
  | dicL kvs => obtain ⟨es, od, h, z, r⟩ := x; exact ⟨es, od, k _ _ h, z, r.mono e⟩
  | ins c fs =>
    obtain ⟨dx, vs, h, h2, nf, r⟩ := x
    refine ⟨dx, vs, k _ _ h, k _ _ h2, fun z => ?_, r.mono e⟩
    have := hF2 dx z nf
    rw [h2] at this; cases this
  | dead => trivial
theorem Rel.ext (r : Rel B ι F S H) (k : ∀ a o, H a = some o → H' a = some o) (hF : ∀ a, F a → F' a) (hF2 : ∀ a, F' a → ¬ F a → H a = none) (hF3 : ∀ a, F' a → H' a ≠ none) : Rel B ι F' S H' := by
  have e : Evo ι F H ι F' H' := Evo.kept k hF
  refine ⟨r.len, r.nd, fun n a c h1 h2 h3 z => ?_, fun n a c h1 h2 => (r.ok n a c h1 h2).kept k hF hF2 e, fun a h => e.alive a (r.there a h), hF3, fun a h x z => ?_⟩
  · have := hF2 a z (r.nf n a c h1 h2 h3)
    exact r.there a (List.mem_of_getElem? h1) this
  · cases q : H a with
    | none => exact r.there a h q
    | some o => rw [k a o q] at z; cases z; exact r.now a h x q
/-- a new object that nobody owns (a tuple) -/
theorem Rel.new (r : Rel B ι F S H) (h : H p = none) : Rel B ι F S (upd H p o) :=
  r.ext (kept_upd h) (fun _ x => x) (fun _ x y => absurd x y) fun a f => (Evo.kept (ι := ι) (F' := F) (kept_upd (o := o) h) fun _ x => x).alive a (r.fthere a f)
theorem Evo.new (h : H p = none) : Evo ι F H ι F (upd H p o) := Evo.kept (kept_upd h) fun _ x => x
/-- a new object by value -/
abbrev addF (F : Addr → Prop) (p : Addr) : Addr → Prop := fun a => F a ∨ a = p
theorem Rel.newF (r : Rel B ι F S H) (h : H p = none) : Rel B ι (addF F p) S (upd H p o) :=
  r.ext (kept_upd h) (fun _ x => .inl x) (fun a x y => by
    rcases x with x | x
    · exact absurd x y
    · rw [x]; exact h) fun a f => by
    rcases f with f | f
    · exact (Evo.kept (ι := ι) (F' := F) (kept_upd (o := o) h) fun _ x => x).alive a (r.fthere a f)
    · rw [f, upd_same]; simp
theorem Evo.newF (h : H p = none) : Evo ι F H ι (addF F p) (upd H p o) := Evo.kept (kept_upd h) fun _ x => .inl x
/-- a new cell -/
theorem Evo.newS (h : H p = none) : Evo ι F H (ι ++ [p]) F (upd H p o) := by
  refine ⟨fun n a e => ?_, fun _ h => h, fun a o _ e _ => kept_upd h a o e, fun a xs e => kept_upd h a _ e, (Evo.new (ι := ι) (F := F) h).alive, fun a o u e => kept_upd h a _ e, fun a φ _ z => z.elim (fun z => .inl (kept_upd h a _ z)) fun ⟨o, z⟩ => .inr ⟨o, kept_upd h a _ z⟩⟩
  rw [List.getElem?_append_left (List.getElem?_eq_some_iff.mp e).1]
  exact e
theorem Rel.newS {c : Cell} (r : Rel B ι F S H) (h : H p = none) (ho : ∀ x, o ≠ .own x) (new : CellOk B (ι ++ [p]) F (upd H p o) p c) : Rel B (ι ++ [p]) F (S ++ [c]) (upd H p o) := by
  have np : p ∉ ι := fun z => r.there p z h
  have e : Evo ι F H (ι ++ [p]) F (upd H p o) := Evo.newS h
  refine ⟨by simp [r.len], ?_, fun n a c' h1 h2 h3 z => ?_, fun n a c' h1 h2 => ?_, fun a ha => ?_, fun a f => e.alive a (r.fthere a f), fun a ha x z => ?_⟩
  · rw [List.nodup_append]
    exact ⟨r.nd, by simp, fun a ha b hb => by simp at hb; subst hb; rintro rfl; exact np ha⟩
  · by_cases hn : n < ι.length
    · rw [List.getElem?_append_left hn] at h1
      rw [List.getElem?_append_left (by rw [← r.len]; exact hn)] at h2
      exact r.nf n a c' h1 h2 h3 z
    · rw [List.getElem?_append_right (by omega)] at h1
      have hn0 : n - ι.length = 0 := by
        have := (List.getElem?_eq_some_iff.mp h1).1
        simp at this; omega
      rw [hn0] at h1
      simp at h1; subst h1
      exact r.fthere _ z h
  · by_cases hn : n < ι.length
    · rw [List.getElem?_append_left hn] at h1
      rw [List.getElem?_append_left (by rw [← r.len]; exact hn)] at h2
      exact (r.ok n a c' h1 h2).kept (kept_upd h) (fun _ x => x) (fun _ x y => absurd x y) e
    · rw [List.getElem?_append_right (by omega)] at h1
      rw [List.getElem?_append_right (by rw [← r.len]; omega)] at h2
      have hn0 : n - ι.length = 0 := by
        have := (List.getElem?_eq_some_iff.mp h1).1
        simp at this; omega
      rw [← r.len, hn0] at h2
      rw [hn0] at h1
      simp at h1 h2; subst h1; subst h2
      exact new
  · rcases List.mem_append.mp ha with ha | ha
    · exact e.alive a (r.there a ha)
    · simp at ha; subst ha; rw [upd_same]; simp
  · rcases List.mem_append.mp ha with ha | ha
    · rw [upd_ne (fun z' : a = p => np (by rw [← z']; exact ha))] at z
      exact r.now a ha x z
    · simp at ha; subst ha; rw [upd_same] at z; exact ho x (Option.some.inj z)
/-- a live cell is written: the object at its address changes -/
theorem Rel.write {n : Nat} {a : Addr} {c c' : Cell} (r : Rel B ι F S H) (h1 : ι[n]? = some a) (h2 : S[n]? = some c) (h3 : c.live = true) (ht : ∀ xs, H a ≠ some (.tup xs)) (ho : ∀ x, o ≠ .own x) (hz : ∀ p u, H a ≠ some (.frz p u))
    (new : CellOk B ι F (upd H a o) a c') : Rel B ι F (S.set n c') (upd H a o) ∧ Evo ι F H ι F (upd H a o) := by
  have nf := r.nf n a c h1 h2 h3
  have hw := r.now a (List.mem_of_getElem? h1)
  have e : Evo ι F H ι F (upd H a o) := by
    refine ⟨fun _ _ h => h, fun _ h => h, fun b u f h _ => ?_, fun b xs h => ?_, fun b h => ?_, fun b p u h => ?_, fun b φ f h => rd_ne (fun z : b = a => nf (by rw [← z]; exact f)) h⟩
    · rw [upd_ne (fun z : b = a => nf (by rw [← z]; exact f))]; exact h
    · rw [upd_ne (fun z : b = a => ht xs (by rw [← z]; exact h))]; exact h
    · by_cases hb : b = a
      · rw [hb, upd_same]; simp
      · rw [upd_ne hb]; exact h
    · rw [upd_ne (fun z : b = a => hz p u (by rw [← z]; exact h))]; exact h
  refine ⟨⟨by simp [r.len], r.nd, fun m b d g1 g2 g3 => ?_, fun m b d g1 g2 => ?_, fun b hb => e.alive b (r.there b hb), fun b hb => e.alive b (r.fthere b hb), fun b hb x z => ?_⟩, e⟩
  · by_cases hm : m = n
    · subst hm; rw [h1] at g1; cases g1; exact nf
    · rw [List.getElem?_set_ne (Ne.symm hm)] at g2
      exact r.nf m b d g1 g2 g3
  · by_cases hm : m = n
    · subst hm
      rw [h1] at g1; cases g1
      rw [List.getElem?_set_self (List.getElem?_eq_some_iff.mp h2).1] at g2
      cases g2
      exact new
    · rw [List.getElem?_set_ne (Ne.symm hm)] at g2
      have hba : b ≠ a := fun z => by
        subst z
        obtain ⟨q1, e1⟩ := List.getElem?_eq_some_iff.mp h1
        obtain ⟨q2, e2⟩ := List.getElem?_eq_some_iff.mp g1
        exact hm ((List.getElem_inj r.nd).mp (e2.trans e1.symm))
      have x := r.ok m b d g1 g2
      cases d with
      | lst xs => obtain ⟨vs, h, q⟩ := x; exact ⟨vs, by rw [upd_ne hba]; exact h, q.mono e⟩
      | tpc xs => obtain ⟨vs, h, q⟩ := x; exact ⟨vs, by rw [upd_ne hba]; exact h, q.mono e⟩
      | dic kvs => obtain ⟨es, h, z, q⟩ := x; exact ⟨es, by rw [upd_ne hba]; exact h, z, q.mono e⟩
      | dicL kvs => obtain ⟨es, od, h, z, q⟩ := x; exact ⟨es, od, by rw [upd_ne hba]; exact h, z, q.mono e⟩
      | ins k fs =>
        obtain ⟨dx, vs, h, hd, nd, q⟩ := x
        have hda : dx ≠ a := fun z => by subst z; exact hw b hd
        exact ⟨dx, vs, by rw [upd_ne hba]; exact h, by rw [upd_ne hda]; exact hd, nd, q.mono e⟩
      | dead => trivial
  · by_cases hb' : b = a
    · rw [hb', upd_same] at z; exact ho x (Option.some.inj z)
    · rw [upd_ne hb'] at z; exact r.now b hb x z
end

/-! ### what is wanted -/
/-- the exception (class c, attributes fs) has come -/
def OutX (B : Bx) (W : WX) (σ : St) (ι : List Addr) (F : Addr → Prop) (H : Hp) (c : Nat) (fs : List (Str × U)) (S' : Sto) : Prop :=
  ∀ (dx : Addr) (vs : List (Str × V)) (ι' : List Addr) (F' : Addr → Prop) (H' : Hp), Evo ι F H ι' F' H' → Rel B ι' F' S' H' → H' dx = some (.xd vs) → RepFU B ι' F' H' vs fs → W (.ref (B.cl c)) (some dx) σ H'
/-- a piece's end: its value b in the heap bears a -/
def Out {α β : Type} (B : Bx) (W : WX) (σ : St) (ι : List Addr) (F : Addr → Prop) (H : Hp) (rep : List Addr → (Addr → Prop) → Hp → β → α → Prop) (Q : β → Hp → Prop) : R α → Prop
  | .ok a S' => ∀ (b : β) (ι' : List Addr) (F' : Addr → Prop) (H' : Hp), Evo ι F H ι' F' H' → Rel B ι' F' S' H' → rep ι' F' H' b a → Q b H'
  | .ex c fs S' => OutX B W σ ι F H c fs S'
  | .er => False
section
variable {α β γ δ : Type} {B : Bx} {W : WX} {σ : St} {ι ι1 : List Addr} {F F1 : Addr → Prop} {H H1 : Hp} {rep : List Addr → (Addr → Prop) → Hp → β → α → Prop} {rep1 : List Addr → (Addr → Prop) → Hp → δ → γ → Prop} {Q Q' : β → Hp → Prop}
theorem OutX.shift {c : Nat} {fs : List (Str × U)} {S' : Sto} (e : Evo ι F H ι1 F1 H1) (h : OutX B W σ ι F H c fs S') : OutX B W σ ι1 F1 H1 c fs S' := fun dx vs ι' F' H' e' => h dx vs ι' F' H' (e.trans e')
theorem Out.shift (e : Evo ι F H ι1 F1 H1) {r : R α} (h : Out B W σ ι F H rep Q r) : Out B W σ ι1 F1 H1 rep Q r := by
  cases r with
  | ok a S' => exact fun b ι' F' H' e' => h b ι' F' H' (e.trans e')
  | ex c fs S' => exact OutX.shift e h
  | er => exact h
theorem Out.mono {r : R α} (h : Out B W σ ι F H rep Q r) (k : ∀ b H', Q b H' → Q' b H') : Out B W σ ι F H rep Q' r := by
  cases r with
  | ok a S' => exact fun b ι' F' H' e' r' z => k b H' (h b ι' F' H' e' r' z)
  | ex c fs S' => exact h
  | er => exact h
/-- one piece behind another -/
theorem Out.bind {r : R γ} {k : γ → Sto → R α} (h : Out B W σ ι F H rep Q (r.bind k)) :
    Out B W σ ι F H rep1 (fun b H1 => ∃ ι1 F1 S1 a, Evo ι F H ι1 F1 H1 ∧ Rel B ι1 F1 S1 H1 ∧ rep1 ι1 F1 H1 b a ∧ Out B W σ ι1 F1 H1 rep Q (k a S1)) r := by
  cases r with
  | ok a S' => exact fun b ι' F' H' e' r' z => ⟨ι', F', S', a, e', r', z, Out.shift e' h⟩
  | ex c fs S' => exact h
  | er => exact h
end

/-! ### readings -/
def liftE (B : Bx) (W : WX) (m : ME) : TE := fun σ H Q => ∃ ι F S ρ, Rel B ι F S H ∧ REnv B ι F H σ ρ ∧ Out B W σ ι F H (RepU B) Q (m ρ S)
def liftT (B : Bx) (W : WX) (m : MT) : TT := fun σ H Q => ∃ ι F S ρ, Rel B ι F S H ∧ REnv B ι F H σ ρ ∧ Out B W σ ι F H (fun _ _ _ b c => b = c) Q (m ρ S)
def liftA (B : Bx) (W : WX) (m : MA) : TA := fun σ H Q => ∃ ι F S ρ, Rel B ι F S H ∧ REnv B ι F H σ ρ ∧ Out B W σ ι F H (fun ι F H => RepUs B ι F H) Q (m ρ S)
def liftG (B : Bx) (js : List Nat) (m : MG) : TG := fun v σ H Q => ∃ ι F S ρ u ρ', Rel B ι F S H ∧ REnv B ι F H σ ρ ∧ RepU B ι F H v u ∧ m u ρ = some ρ' ∧ ∀ σ', REnv B ι F H σ' ρ' → (∀ i, i ∉ js → σ'[i]? = σ[i]?) → σ'.length = σ.length → Q σ' H
def OutS (B : Bx) (W : WX) (ι : List Addr) (F : Addr → Prop) (H : Hp) (D : Ends) : RS → Prop
  | .nx ρ S' => ∀ (σ : St) (ι' : List Addr) (F' : Addr → Prop) (H' : Hp), Evo ι F H ι' F' H' → Rel B ι' F' S' H' → REnv B ι' F' H' σ ρ → D.nx σ H'
  | .bk ρ S' => ∀ (σ : St) (ι' : List Addr) (F' : Addr → Prop) (H' : Hp), Evo ι F H ι' F' H' → Rel B ι' F' S' H' → REnv B ι' F' H' σ ρ → D.bk σ H'
  | .ct ρ S' => ∀ (σ : St) (ι' : List Addr) (F' : Addr → Prop) (H' : Hp), Evo ι F H ι' F' H' → Rel B ι' F' S' H' → REnv B ι' F' H' σ ρ → D.ct σ H'
  | .rt u S' => ∀ (v : V) (ι' : List Addr) (F' : Addr → Prop) (H' : Hp), Evo ι F H ι' F' H' → Rel B ι' F' S' H' → RepU B ι' F' H' v u → D.rt v H'
  | .ex c fs ρ S' => ∀ (σ : St) (ι' : List Addr) (F' : Addr → Prop) (H' : Hp), Evo ι F H ι' F' H' → REnv B ι' F' H' σ ρ → OutX B W σ ι' F' H' c fs S'
  | .er => False
def liftS (B : Bx) (W : WX) (m : MS) : TS := fun D σ H => ∃ ι F S ρ, Rel B ι F S H ∧ REnv B ι F H σ ρ ∧ OutS B W ι F H D (m ρ S)
section
variable {B : Bx} {W : WX} {ι ι1 : List Addr} {F F1 : Addr → Prop} {H H1 : Hp} {D D' : Ends}
theorem OutS.shift (e : Evo ι F H ι1 F1 H1) {r : RS} (h : OutS B W ι F H D r) : OutS B W ι1 F1 H1 D r := by
  cases r with
  | nx ρ S' => exact fun σ ι' F' H' e' => h σ ι' F' H' (e.trans e')
  | bk ρ S' => exact fun σ ι' F' H' e' => h σ ι' F' H' (e.trans e')
  | ct ρ S' => exact fun σ ι' F' H' e' => h σ ι' F' H' (e.trans e')
  | rt u S' => exact fun v ι' F' H' e' => h v ι' F' H' (e.trans e')
  | ex c fs ρ S' => exact fun σ ι' F' H' e' => h σ ι' F' H' (e.trans e')
  | er => exact h
end

/-! ### judgements -/
def QE (X : Cx) (cl : Nat → Addr) (W : WX) (e : Expr) (m : ME) : Prop := PE X e (liftE (bx X cl) W m)
def QT (X : Cx) (cl : Nat → Addr) (W : WX) (e : Expr) (m : MT) : Prop := PT X e (liftT (bx X cl) W m)
def QA (X : Cx) (cl : Nat → Addr) (W : WX) (es : List Expr) (m : MA) : Prop := PA X es (liftA (bx X cl) W m)
def QG (X : Cx) (cl : Nat → Addr) (e : Expr) (js : List Nat) (m : MG) : Prop := PG X e (liftG (bx X cl) js m)
def QS (X : Cx) (cl : Nat → Addr) (W : WX) (s : Stmt) (m : MS) : Prop := PS X s (liftS (bx X cl) W m)
def QSs (X : Cx) (cl : Nat → Addr) (W : WX) (ss : List Stmt) (m : MS) : Prop := PSs X ss (liftS (bx X cl) W m)
theorem PE.imp {X : Cx} {e : Expr} {t t' : TE} (h : PE X e t) (k : ∀ σ H Q, t' σ H Q → t σ H Q) : PE X e t' := ⟨fun pins s σ H Q I hq => h.run pins s σ H Q I (k σ H Q hq)⟩
theorem PT.imp {X : Cx} {e : Expr} {t t' : TT} (h : PT X e t) (k : ∀ σ H Q, t' σ H Q → t σ H Q) : PT X e t' := ⟨fun pins s σ H Q I hq => h.run pins s σ H Q I (k σ H Q hq)⟩
theorem PA.imp {X : Cx} {e : List Expr} {t t' : TA} (h : PA X e t) (k : ∀ σ H Q, t' σ H Q → t σ H Q) : PA X e t' := ⟨fun pos pins s σ H Q I hq => h.run pos pins s σ H Q I (k σ H Q hq)⟩
theorem PG.imp {X : Cx} {e : Expr} {t t' : TG} (h : PG X e t) (k : ∀ v σ H Q, t' v σ H Q → t v σ H Q) : PG X e t' := ⟨fun pins s σ H v u Q I r hq => h.run pins s σ H v u Q I r (k v σ H Q hq)⟩
theorem PS.imp {X : Cx} {e : Stmt} {t t' : TS} (h : PS X e t) (k : ∀ D σ H, t' D σ H → t D σ H) : PS X e t' := ⟨fun pins s σ H D I hq => h.run pins s σ H D I (k D σ H hq)⟩
theorem PSs.imp {X : Cx} {e : List Stmt} {t t' : TS} (h : PSs X e t) (k : ∀ D σ H, t' D σ H → t D σ H) : PSs X e t' := ⟨fun pins s σ H D I hq => h.run pins s σ H D I (k D σ H hq)⟩
end Pu
/-! Pu: expressions. -/
namespace Pu
open PySem L2

/-! ### the pieces, pure -/
def eVar (i : Nat) : ME := fun ρ S => match ρ[i]? with
  | some (some u) => .ok u S
  | _ => .er
def eC (d : D) : ME := fun _ S => .ok (.v d) S
/-- by values -/
abbrev F1 := U → Sto → Option (U × Sto)
abbrev F2 := U → U → Sto → Option (U × Sto)
abbrev FA := List U → Sto → Option (U × Sto)
abbrev FM := U → List U → Sto → Option (U × Sto)
def ofO {α : Type} : Option (α × Sto) → R α
  | some (a, S) => .ok a S
  | none => .er
@[simp] theorem ofO_some {α : Type} (a : α) (S : Sto) : ofO (some (a, S)) = R.ok a S := rfl
@[simp] theorem ofO_none {α : Type} : (ofO none : R α) = R.er := rfl
def eOp (f : F2) (a b : ME) : ME := fun ρ S => (a ρ S).bind fun x S1 => (b ρ S1).bind fun y S2 => ofO (f x y S2)
def eUn (f : F1) (a : ME) : ME := fun ρ S => (a ρ S).bind fun x S1 => ofO (f x S1)
def aNil : MA := fun _ S => .ok [] S
def aCons (a : ME) (r : MA) : MA := fun ρ S => (a ρ S).bind fun x S1 => (r ρ S1).bind fun xs S2 => .ok (x :: xs) S2
def eCB (f : FA) (a : MA) : ME := fun ρ S => (a ρ S).bind fun xs S1 => ofO (f xs S1)
def eMt (f : FM) (o : ME) (a : MA) : ME := fun ρ S => (o ρ S).bind fun x S1 => (a ρ S1).bind fun xs S2 => ofO (f x xs S2)
def fTup : FA := fun us S => if us.length ≤ 100000 then (allV us).map fun ds => (.v (.tup ds), S) else none
/-- a list by value; a list that may change -/
def fLstV : FA := fun us S => if us.length ≤ 100000 then (allV us).map fun ds => (.v (.lst ds), S) else none
def fLstS : FA := fun us S => if us.length ≤ 100000 then some (.r S.length, S ++ [.lst us]) else none
/-- truth of a bool -/
def isB : U → Sto → Option (Bool × Sto)
  | .v (.bl b), S => some (b, S)
  | _, _ => none
def tB (m : ME) : MT := fun ρ S => (m ρ S).bind fun u S1 => ofO (isB u S1)
def tAnd (a b : MT) : MT := fun ρ S => (a ρ S).bind fun x S1 => if x = true then b ρ S1 else .ok false S1
def tOr (a b : MT) : MT := fun ρ S => (a ρ S).bind fun x S1 => if x = true then .ok true S1 else b ρ S1
def tNot (a : MT) : MT := fun ρ S => (a ρ S).bind fun x S1 => .ok (!x) S1
def eAnd (a b : ME) : ME := fun ρ S => (a ρ S).bind fun u S1 => (ofO (isB u S1)).bind fun x S2 => if x = true then b ρ S2 else .ok (.v (.bl false)) S2
def eOr (a b : ME) : ME := fun ρ S => (a ρ S).bind fun u S1 => (ofO (isB u S1)).bind fun x S2 => if x = true then .ok (.v (.bl true)) S2 else b ρ S2
def eNot (a : ME) : ME := fun ρ S => (a ρ S).bind fun u S1 => (ofO (isB u S1)).bind fun x S2 => .ok (.v (.bl (!x))) S2
def eIf (c : MT) (a b : ME) : ME := fun ρ S => (c ρ S).bind fun x S1 => if x = true then a ρ S1 else b ρ S1

/-! ### by values: the layer's readings -/
def Fin (B : Bx) (ι : List Addr) (F : Addr → Prop) (H : Hp) (Q : VK) (o : Option (U × Sto)) : Prop :=
  ∃ u S', o = some (u, S') ∧ ∀ (v : V) (ι' : List Addr) (F' : Addr → Prop) (H' : Hp), Evo ι F H ι' F' H' → Rel B ι' F' S' H' → RepU B ι' F' H' v u → Q v H'
def liftOp (B : Bx) (f : F2) : R2 := fun x y H Q => ∃ ι F S a b, Rel B ι F S H ∧ RepU B ι F H x a ∧ RepU B ι F H y b ∧ Fin B ι F H Q (f a b S)
def liftUn (B : Bx) (f : F1) : V → Hp → VK → Prop := fun x H Q => ∃ ι F S a, Rel B ι F S H ∧ RepU B ι F H x a ∧ Fin B ι F H Q (f a S)
def liftC (B : Bx) (f : FA) : List V → Hp → VK → Prop := fun xs H Q => ∃ ι F S as, Rel B ι F S H ∧ RepUs B ι F H xs as ∧ Fin B ι F H Q (f as S)
def liftM (B : Bx) (f : FM) : V → List V → Hp → VK → Prop := fun x xs H Q => ∃ ι F S a as, Rel B ι F S H ∧ RepU B ι F H x a ∧ RepUs B ι F H xs as ∧ Fin B ι F H Q (f a as S)
section
variable {B : Bx} {W : WX} {σ : St} {ι : List Addr} {F : Addr → Prop} {H : Hp} {Q : VK}
theorem Out.fin {o : Option (U × Sto)} (h : Out B W σ ι F H (RepU B) Q (ofO o)) : Fin B ι F H Q o := by
  cases o with
  | none => exact h.elim
  | some p =>
    obtain ⟨u, S'⟩ := p
    exact ⟨u, S', rfl, fun v ι' F' H' e r z => h v ι' F' H' e r z⟩
theorem Fin.val {u : U} {S' : Sto} {v : V} (h : Fin B ι F H Q (some (u, S'))) (r : Rel B ι F S' H) (z : RepU B ι F H v u) : Q v H := by
  obtain ⟨u', S'', e, k⟩ := h
  cases e
  exact k v ι F H Evo.refl r z
theorem Fin.go {u : U} {S' : Sto} {v : V} {ι' : List Addr} {F' : Addr → Prop} {H' : Hp} (h : Fin B ι F H Q (some (u, S'))) (e : Evo ι F H ι' F' H') (r : Rel B ι' F' S' H') (z : RepU B ι' F' H' v u) : Q v H' := by
  obtain ⟨u', S'', e', k⟩ := h
  cases e'
  exact k v ι' F' H' e r z
theorem Fin.no {P : Prop} (h : Fin B ι F H Q none) : P := by
  obtain ⟨u', S'', e', k⟩ := h
  cases e'
end

section
variable {X : Cx} {cl : Nat → Addr} {W : WX} {a b c e : Expr} {es : List Expr} {ma mb mc : ME} {mA : MA} {ta tb : MT} {pos : Pos}
theorem qe_var {i : Nat} {x : Str} (hN : X.N[i]? = some x) (hv : Vis X.env.scope x) (hd : (x == ("__debug__" : Str)) = false := by decide) (hcd : (x == ("__classdict__" : Str)) = false := by decide) : QE X cl W (.Name x pos) (eVar i) :=
  PE.imp (pe_var hN hv hd hcd) fun σ H Q ⟨ι, F, S, ρ, r, en, o⟩ => by
    unfold eVar at o
    split at o
    · rename_i u e
      obtain ⟨v, h1, h2⟩ := paired_get en e
      cases v with
      | none => exact h2.elim
      | some v => exact ⟨v, h1, o v ι F H Evo.refl r h2⟩
    · exact o.elim
theorem qe_const {d : D} {v : V} (h : PE X e (tC v)) (r : ∀ F H, Rep (bx X cl) F H v d) : QE X cl W e (eC d) :=
  PE.imp h fun σ H Q ⟨ι, F, S, ρ, r', en, o⟩ => o v ι F H Evo.refl r' (.v (r F H))
theorem qe_int {i j} : QE X cl W (.Constant (.int i) j pos) (eC (.int i)) := qe_const pe_int fun _ _ => .int i
theorem qe_bl {i j} : QE X cl W (.Constant (.bool i) j pos) (eC (.bl i)) := qe_const pe_bl fun _ _ => .bl i
theorem qe_non {j} : QE X cl W (.Constant .none j pos) (eC .non) := qe_const pe_non fun _ _ => .non
theorem qe_str {i j} (hs : PyData.strOk i = true := by decide +kernel) : QE X cl W (.Constant (.str i) j pos) (eC (.str i)) := qe_const pe_str fun _ _ => .str i hs
theorem qe_gInt {x : Str} {i : Int} {t : Tok} (hg : Gl X x) (hm : X.mg x = some (.int i t)) (hd : (x == ("__debug__" : Str)) = false := by decide) : QE X cl W (.Name x pos) (eC (.int i)) := qe_const (pe_glob (v := .int i) hg hm ⟨t, rfl⟩ hd) fun _ _ => .int i
theorem qe_gStr {x : Str} {i : Str} {t : Tok} (hg : Gl X x) (hm : X.mg x = some (.str i t)) (hs : PyData.strOk i = true := by decide +kernel) (hd : (x == ("__debug__" : Str)) = false := by decide) : QE X cl W (.Name x pos) (eC (.str i)) := qe_const (pe_glob (v := .str i) hg hm ⟨t, rfl⟩ hd) fun _ _ => .str i hs
theorem qe_gCls {x : Str} {i : Nat} (hg : Gl X x) (hm : X.mg x = some (.ref (cl i))) (hd : (x == ("__debug__" : Str)) = false := by decide) : QE X cl W (.Name x pos) (eC (.cls i)) := qe_const (pe_glob (v := .ref (cl i)) hg hm rfl hd) fun _ _ => .cls i
theorem qe_bTy {x : Str} {i : String} (hg : Gl X x) (hm : X.mg x = none) (hv : bootBuiltins x = some (.type i)) (hn : x ≠ "__name__" := by decide) (hd : (x == ("__debug__" : Str)) = false := by decide) : QE X cl W (.Name x pos) (eC (.ty i)) := qe_const (pe_bltn (v := .ty i) hg hm hv rfl hn hd) fun _ _ => .ty i

theorem lift_op {f : F2} {σ : St} {H : Hp} {Q : VK} (h : liftE (bx X cl) W (eOp f ma mb) σ H Q) : tOp (liftOp (bx X cl) f) (liftE (bx X cl) W ma) (liftE (bx X cl) W mb) σ H Q := by
  obtain ⟨ι, F, S, ρ, r, en, o⟩ := h
  refine ⟨ι, F, S, ρ, r, en, o.bind.mono fun x H1 ⟨ι1, F1, S1, x', e1, r1, z1, o1⟩ => ?_⟩
  refine ⟨ι1, F1, S1, ρ, r1, en.mono e1, o1.bind.mono fun y H2 ⟨ι2, F2, S2, y', e2, r2, z2, o2⟩ => ?_⟩
  exact ⟨ι2, F2, S2, x', y', r2, z1.mono e2, z2, o2.fin⟩
theorem qe_op {f : F2} {op : Operator} (ho : OpR X (binaryOp op) (liftOp (bx X cl) f)) (ha : QE X cl W a ma) (hb : QE X cl W b mb) : QE X cl W (.BinOp a op b pos) (eOp f ma mb) :=
  PE.imp (pe_op ho ha hb) fun _ _ _ => lift_op
theorem qe_cmp {f : F2} {op : CmpOp} (ho : OpR X (compareOp op) (liftOp (bx X cl) f)) (ha : QE X cl W a ma) (hb : QE X cl W b mb) (hm : behindInMarks op b = false) : QE X cl W (.Compare a [op] [b] pos) (eOp f ma mb) :=
  PE.imp (pe_cmpR ho ha hb hm) fun _ _ _ => lift_op
theorem qe_ix {f : F2} (ho : IxR X (liftOp (bx X cl) f)) (ha : QE X cl W a ma) (hb : QE X cl W b mb) (hs : PlainIx b) : QE X cl W (.Subscript a b pos) (eOp f ma mb) :=
  PE.imp (pe_ix ho ha hb hs) fun _ _ _ => lift_op
theorem lift_test {m : ME} {σ : St} {H : Hp} {Q : Bool → Hp → Prop} (h : liftT (bx X cl) W (tB m) σ H Q) : tTest (liftE (bx X cl) W m) σ H Q := by
  obtain ⟨ι, F, S, ρ, r, en, o⟩ := h
  refine ⟨ι, F, S, ρ, r, en, o.bind.mono fun x H1 ⟨ι1, F1, S1, x', e1, r1, z1, o1⟩ => ?_⟩
  unfold isB at o1
  split at o1
  · rename_i b
    cases z1 with
    | v z1 =>
      cases z1
      exact ⟨b, rfl, o1 b ι1 F1 H1 Evo.refl r1 rfl⟩
  · exact o1.elim
/-- a comparison as a test -/
theorem qt_cmp {f : F2} {op : CmpOp} (ho : OpR X (compareOp op) (liftOp (bx X cl) f)) (ha : QE X cl W a ma) (hb : QE X cl W b mb) (hm : behindInMarks op b = false) : QT X cl W (.Compare a [op] [b] pos) (tB (eOp f ma mb)) := by
  refine ⟨fun pins s σ H Q I h => ?_⟩
  refine (pt_cmpR ho ha hb hm).run pins s σ H Q I ?_
  obtain ⟨ι, F, S, ρ, r, en, o⟩ := lift_test h
  exact lift_op (X := X) (W := W) ⟨ι, F, S, ρ, r, en, o⟩
/-- a bool as a test -/
theorem qt_val {e : Expr} (h : QE X cl W e ma) (he : ∀ whole, isTrue e X.env whole = (do let v ← whole; standAt e.pos; holding [v] (truthy v)) := by intro _; rfl) : QT X cl W e (tB ma) :=
  PT.imp (pt_val h he) fun σ H Q h => lift_test h
theorem qt_not (ha : QT X cl W a ta) : QT X cl W (.UnaryOp .Not a pos) (tNot ta) :=
  PT.imp (pt_not ha) fun σ H Q ⟨ι, F, S, ρ, r, en, o⟩ => ⟨ι, F, S, ρ, r, en, o.bind.mono fun x H1 ⟨ι1, F1, S1, x', e1, r1, z1, o1⟩ => by
    subst z1; exact o1 _ ι1 F1 H1 Evo.refl r1 rfl⟩
def QW (X : Cx) (cl : Nat → Addr) (W : WX) (e : Expr) (m : MT) : Prop := PW X e (liftT (bx X cl) W m)
theorem PW.imp {X : Cx} {e : Expr} {t t' : TT} (h : PW X e t) (k : ∀ σ H Q, t' σ H Q → t σ H Q) : PW X e t' := ⟨fun wh pins s σ H Q I hq => h.run wh pins s σ H Q I (k σ H Q hq)⟩
theorem qt_w (h : QW X cl W e ta) : QT X cl W e ta := PW.pt h
variable {rest : List Expr}
theorem qw_and1 (ha : QT X cl W a ta) : QW X cl W (.BoolOp .And [a] pos) ta := pw_and1 ha
theorem qw_or1 (ha : QT X cl W a ta) : QW X cl W (.BoolOp .Or [a] pos) ta := pw_or1 ha
theorem qw_and (ha : QT X cl W a ta) (hb : QW X cl W (.BoolOp .And (b :: rest) pos) tb) : QW X cl W (.BoolOp .And (a :: b :: rest) pos) (tAnd ta tb) :=
  PW.imp (pw_and ha hb) fun σ H Q ⟨ι, F, S, ρ, r, en, o⟩ => ⟨ι, F, S, ρ, r, en, o.bind.mono fun x H1 ⟨ι1, F1, S1, x', e1, r1, z1, o1⟩ => by
    subst z1
    cases x with
    | true => exact ⟨ι1, F1, S1, ρ, r1, en.mono e1, o1⟩
    | false => exact o1 _ ι1 F1 H1 Evo.refl r1 rfl⟩
theorem qw_or (ha : QT X cl W a ta) (hb : QW X cl W (.BoolOp .Or (b :: rest) pos) tb) : QW X cl W (.BoolOp .Or (a :: b :: rest) pos) (tOr ta tb) :=
  PW.imp (pw_or ha hb) fun σ H Q ⟨ι, F, S, ρ, r, en, o⟩ => ⟨ι, F, S, ρ, r, en, o.bind.mono fun x H1 ⟨ι1, F1, S1, x', e1, r1, z1, o1⟩ => by
    subst z1
    cases x with
    | true => exact o1 _ ι1 F1 H1 Evo.refl r1 rfl
    | false => exact ⟨ι1, F1, S1, ρ, r1, en.mono e1, o1⟩⟩
/-- and, or, not as values of bools -/
theorem qe_one {op} (h : QE X cl W a ma) : QE X cl W (.BoolOp op [a] pos) ma := pe_one h
theorem qe_and (ha : QE X cl W a ma) (hb : QE X cl W (.BoolOp .And (b :: rest) pos) mb) : QE X cl W (.BoolOp .And (a :: b :: rest) pos) (eAnd ma mb) :=
  PE.imp (pe_and ha hb) fun σ H Q ⟨ι, F, S, ρ, r, en, o⟩ => ⟨ι, F, S, ρ, r, en, o.bind.mono fun x H1 ⟨ι1, F1, S1, x', e1, r1, z1, o1⟩ => by
    unfold isB at o1
    split at o1
    · rename_i b
      cases z1 with
      | v z1 =>
        cases z1
        refine ⟨b, rfl, ?_⟩
        cases b with
        | true => exact ⟨ι1, F1, S1, ρ, r1, en.mono e1, o1⟩
        | false => exact o1 _ ι1 F1 H1 Evo.refl r1 (.v (.bl false))
    · exact o1.elim⟩
theorem qe_or (ha : QE X cl W a ma) (hb : QE X cl W (.BoolOp .Or (b :: rest) pos) mb) : QE X cl W (.BoolOp .Or (a :: b :: rest) pos) (eOr ma mb) :=
  PE.imp (pe_or ha hb) fun σ H Q ⟨ι, F, S, ρ, r, en, o⟩ => ⟨ι, F, S, ρ, r, en, o.bind.mono fun x H1 ⟨ι1, F1, S1, x', e1, r1, z1, o1⟩ => by
    unfold isB at o1
    split at o1
    · rename_i b
      cases z1 with
      | v z1 =>
        cases z1
        refine ⟨b, rfl, ?_⟩
        cases b with
        | true => exact o1 _ ι1 F1 H1 Evo.refl r1 (.v (.bl true))
        | false => exact ⟨ι1, F1, S1, ρ, r1, en.mono e1, o1⟩
    · exact o1.elim⟩
theorem qe_not (ha : QE X cl W a ma) : QE X cl W (.UnaryOp .Not a pos) (eNot ma) :=
  PE.imp (pe_not ha) fun σ H Q ⟨ι, F, S, ρ, r, en, o⟩ => ⟨ι, F, S, ρ, r, en, o.bind.mono fun x H1 ⟨ι1, F1, S1, x', e1, r1, z1, o1⟩ => by
    unfold isB at o1
    split at o1
    · rename_i b
      cases z1 with
      | v z1 =>
        cases z1
        exact ⟨b, rfl, o1 _ ι1 F1 H1 Evo.refl r1 (.v (.bl _))⟩
    · exact o1.elim⟩
theorem qe_if (hc : QT X cl W c ta) (ha : QE X cl W a ma) (hb : QE X cl W b mb) : QE X cl W (.IfExp c a b pos) (eIf ta ma mb) :=
  PE.imp (pe_ifExp hc ha hb) fun σ H Q ⟨ι, F, S, ρ, r, en, o⟩ => ⟨ι, F, S, ρ, r, en, o.bind.mono fun x H1 ⟨ι1, F1, S1, x', e1, r1, z1, o1⟩ => by
    subst z1
    cases x with
    | true => exact ⟨ι1, F1, S1, ρ, r1, en.mono e1, o1⟩
    | false => exact ⟨ι1, F1, S1, ρ, r1, en.mono e1, o1⟩⟩
theorem qe_un {f : F1} {op : UnaryOp} (ho : UnR X (unaryOp op) (liftUn (bx X cl) f)) (ha : QE X cl W a ma) : QE X cl W (.UnaryOp op a pos) (eUn f ma) :=
  PE.imp (pe_un ho ha) fun σ H Q ⟨ι, F, S, ρ, r, en, o⟩ => ⟨ι, F, S, ρ, r, en, o.bind.mono fun x H1 ⟨ι1, F1, S1, x', e1, r1, z1, o1⟩ => ⟨ι1, F1, S1, x', r1, z1, o1.fin⟩⟩

/-! ### arguments, displays -/
theorem qa_nil : QA X cl W [] aNil := PA.imp pa_nil fun σ H Q ⟨ι, F, S, ρ, r, en, o⟩ => o [] ι F H Evo.refl r .nil
theorem qa_cons (ha : QE X cl W e ma) (hr : QA X cl W es mA) (hs : starEach (e :: es) X.env = (false, eval e X.env) :: starEach es X.env := by rfl) : QA X cl W (e :: es) (aCons ma mA) :=
  PA.imp (pa_cons ha hr hs) fun σ H Q ⟨ι, F, S, ρ, r, en, o⟩ => ⟨ι, F, S, ρ, r, en, o.bind.mono fun x H1 ⟨ι1, F1, S1, x', e1, r1, z1, o1⟩ =>
    ⟨ι1, F1, S1, ρ, r1, en.mono e1, o1.bind.mono fun y H2 ⟨ι2, F2, S2, y', e2, r2, z2, o2⟩ => o2 _ ι2 F2 H2 Evo.refl r2 (.cons (z1.mono e2) z2)⟩⟩
theorem sz {n : Nat} (h : n ≤ 100000) : n ≤ sizeLine := Nat.le_trans h (by decide)
theorem qe_tup {k : Nat} (h : QA X cl W es mA) : QE X cl W (.Tuple es k pos) (eCB fTup mA) :=
  PE.imp (pe_tup h) fun σ H Q ⟨ι, F, S, ρ, r, en, o⟩ => ⟨ι, F, S, ρ, r, en, o.bind.mono fun x H1 ⟨ι1, F1, S1, x', e1, r1, z1, o1⟩ => by
    have o2 := o1.fin
    unfold fTup at o2
    split at o2
    · rename_i hl
      cases ea : allV x' with
      | none => rw [ea] at o2; exact o2.no
      | some ds =>
        rw [ea] at o2
        rw [allV_some ea] at z1 hl
        refine ⟨sz (by rw [paired_len z1]; exact hl), fun p hp => ?_⟩
        exact o2.go (Evo.new hp) (r1.new hp) (.v (.tup upd_same ((repus_reps z1).mono (ι := ι1) (ι' := ι1) (Evo.new hp))))
    · exact o2.no⟩
theorem qe_lstV (h : QA X cl W es mA) : QE X cl W (.List es pos) (eCB fLstV mA) :=
  PE.imp (pe_lst h) fun σ H Q ⟨ι, F, S, ρ, r, en, o⟩ => ⟨ι, F, S, ρ, r, en, o.bind.mono fun x H1 ⟨ι1, F1, S1, x', e1, r1, z1, o1⟩ => by
    have o2 := o1.fin
    unfold fLstV at o2
    split at o2
    · rename_i hl
      cases ea : allV x' with
      | none => rw [ea] at o2; exact o2.no
      | some ds =>
        rw [ea] at o2
        rw [allV_some ea] at z1 hl
        refine ⟨sz (by rw [paired_len z1]; exact hl), fun p hp => ?_⟩
        exact o2.go (Evo.newF hp) (r1.newF hp) (.v (.lst (.inr rfl) upd_same ((repus_reps z1).mono (ι := ι1) (ι' := ι1) (Evo.newF hp))))
    · exact o2.no⟩
theorem qe_lstS (h : QA X cl W es mA) : QE X cl W (.List es pos) (eCB fLstS mA) :=
  PE.imp (pe_lst h) fun σ H Q ⟨ι, F, S, ρ, r, en, o⟩ => ⟨ι, F, S, ρ, r, en, o.bind.mono fun x H1 ⟨ι1, F1, S1, x', e1, r1, z1, o1⟩ => by
    have o2 := o1.fin
    unfold fLstS at o2
    split at o2
    · rename_i hl
      refine ⟨sz (by rw [paired_len z1]; exact hl), fun p hp => ?_⟩
      have e2 : Evo ι1 F1 H1 (ι1 ++ [p]) F1 (upd H1 p (.lst x)) := Evo.newS hp
      exact o2.go e2 (r1.newS hp nofun ⟨x, upd_same, z1.mono e2⟩) (.r (by rw [← r1.len]; simp))
    · exact o2.no⟩
/-- a built-in function, a built-in class, called -/
theorem qe_callB {f : FA} {x : Str} {id : String} {p : Pos} (hc : CallR X (.builtin id) (liftC (bx X cl) f)) (hg : Gl X x) (hm : X.mg x = none) (hv : bootBuiltins x = some (.builtin id)) (ha : QA X cl W (e :: es) mA) (hn : x ≠ "__name__" := by decide) (hdb : (x == ("__debug__" : Str)) = false := by decide)
    (he : starEach (e :: es) X.env = (false, eval e X.env) :: starEach es X.env := by rfl) (hpl : (backTo pos (starEach es X.env)).any (·.1) = false := by rfl) : QE X cl W (.Call (.Name x p) (e :: es) [] pos) (eCB f mA) :=
  PE.imp (pe_callB hc hg hm hv ha hn hdb he hpl) fun σ H Q ⟨ι, F, S, ρ, r, en, o⟩ => ⟨ι, F, S, ρ, r, en, o.bind.mono fun x H1 ⟨ι1, F1, S1, x', e1, r1, z1, o1⟩ => ⟨ι1, F1, S1, x', r1, z1, o1.fin⟩⟩
theorem qe_callTy {f : FA} {x : Str} {T : String} {p : Pos} (hc : CallR X (.type T) (liftC (bx X cl) f)) (hg : Gl X x) (hm : X.mg x = none) (hv : bootBuiltins x = some (.type T)) (ha : QA X cl W (e :: es) mA) (hn : x ≠ "__name__" := by decide) (hdb : (x == ("__debug__" : Str)) = false := by decide)
    (he : starEach (e :: es) X.env = (false, eval e X.env) :: starEach es X.env := by rfl) (hpl : (backTo pos (starEach es X.env)).any (·.1) = false := by rfl) : QE X cl W (.Call (.Name x p) (e :: es) [] pos) (eCB f mA) :=
  PE.imp (pe_callTy hc hg hm hv ha hn hdb he hpl) fun σ H Q ⟨ι, F, S, ρ, r, en, o⟩ => ⟨ι, F, S, ρ, r, en, o.bind.mono fun x H1 ⟨ι1, F1, S1, x', e1, r1, z1, o1⟩ => ⟨ι1, F1, S1, x', r1, z1, o1.fin⟩⟩
end
end Pu
/-! Pu: statements, loops. -/
namespace Pu
open PySem L2

def R.st {α : Type} (r : R α) (ρ : Env') (k : α → Sto → RS) : RS := match r with
  | .ok a S => k a S
  | .ex c fs S => .ex c fs ρ S
  | .er => .er
@[simp] theorem R.st_ok {α : Type} (a : α) (S : Sto) (ρ : Env') (k : α → Sto → RS) : (R.ok a S).st ρ k = k a S := rfl
@[simp] theorem R.st_ex {α : Type} (c : Nat) (fs : List (Str × U)) (S : Sto) (ρ : Env') (k : α → Sto → RS) : (R.ex c fs S : R α).st ρ k = .ex c fs ρ S := rfl
@[simp] theorem R.st_er {α : Type} (ρ : Env') (k : α → Sto → RS) : (R.er : R α).st ρ k = .er := rfl
def sNext : MS := fun ρ S => .nx ρ S
def sSeq (a b : MS) : MS := fun ρ S => match a ρ S with
  | .nx ρ1 S1 => b ρ1 S1
  | r => r
def sAsg (m : ME) (g : MG) : MS := fun ρ S => (m ρ S).st ρ fun u S1 => match g u ρ with
  | some ρ' => .nx ρ' S1
  | none => .er
def sExpr (m : ME) : MS := fun ρ S => (m ρ S).st ρ fun _ S1 => .nx ρ S1
def sRet (m : ME) : MS := fun ρ S => (m ρ S).st ρ fun u S1 => .rt u S1
def sRetN : MS := fun ρ S => .rt (.v .non) S
def sIf (c : MT) (a b : MS) : MS := fun ρ S => (c ρ S).st ρ fun x S1 => if x = true then a ρ S1 else b ρ S1
def sBrk : MS := fun ρ S => .bk ρ S
def sCont : MS := fun ρ S => .ct ρ S
def sNever : MS := fun _ _ => .er
def gName (i : Nat) : MG := fun u ρ => some (ρ.set i (some u))
abbrev MGs := List U → Env' → Option Env'
def gNil : MGs := fun us ρ => match us with
  | [] => some ρ
  | _ => none
def gCons (g : MG) (gs : MGs) : MGs := fun us ρ => match us with
  | u :: us => (g u ρ).bind fun ρ1 => gs us ρ1
  | [] => none
/-- a tuple unpacked into n targets -/
def gTup (n : Nat) (gs : MGs) : MG := fun u ρ => match u with
  | .v (.tup ds) => if ds.length = n then gs (ds.map U.v) ρ else none
  | _ => none

section
variable {B : Bx} {W : WX} {ι : List Addr} {F : Addr → Prop} {H : Hp} {D : Ends}
theorem OutS.st {α β : Type} {rep : List Addr → (Addr → Prop) → Hp → β → α → Prop} {σ : St} {ρ : Env'} {r : R α} {k : α → Sto → RS} (en : REnv B ι F H σ ρ) (h : OutS B W ι F H D (r.st ρ k)) :
    Out B W σ ι F H rep (fun b H1 => ∃ ι1 F1 S1 a, Evo ι F H ι1 F1 H1 ∧ Rel B ι1 F1 S1 H1 ∧ rep ι1 F1 H1 b a ∧ OutS B W ι1 F1 H1 D (k a S1)) r := by
  cases r with
  | ok a S' => exact fun b ι' F' H' e' r' z => ⟨ι', F', S', a, e', r', z, OutS.shift e' h⟩
  | ex c fs S' => exact h σ ι F H Evo.refl en
  | er => exact h
end

section
variable {X : Cx} {cl : Nat → Addr} {W : WX} {a b c e tg : Expr} {es : List Expr} {ma mb : ME} {tc : MT} {st : Stmt} {rest body : List Stmt} {s1 s2 : MS} {g : MG} {gs : MGs} {pos : Pos}
theorem qss_nil : QSs X cl W [] sNext := PSs.imp pss_nil fun D σ H ⟨ι, F, S, ρ, r, en, o⟩ => o σ ι F H Evo.refl r en
theorem qss_cons (h1 : QS X cl W st s1) (h2 : QSs X cl W rest s2) : QSs X cl W (st :: rest) (sSeq s1 s2) :=
  PSs.imp (pss_cons h1 h2) fun D σ H ⟨ι, F, S, ρ, r, en, o⟩ => by
    refine ⟨ι, F, S, ρ, r, en, ?_⟩
    unfold sSeq at o
    cases q : s1 ρ S with
    | nx ρ1 S1 => rw [q] at o; exact fun σ' ι' F' H' e r' en' => ⟨ι', F', S1, ρ1, r', en', OutS.shift e o⟩
    | rt u S1 => rw [q] at o; exact o
    | bk ρ1 S1 => rw [q] at o; exact o
    | ct ρ1 S1 => rw [q] at o; exact o
    | ex c fs ρ1 S1 => rw [q] at o; exact o
    | er => rw [q] at o; exact o
theorem qss_one (h1 : QS X cl W st s1) : QSs X cl W [st] s1 := pss_one h1
theorem qs_pass : QS X cl W (.Pass pos) sNext := PS.imp ps_pass fun D σ H ⟨ι, F, S, ρ, r, en, o⟩ => o σ ι F H Evo.refl r en
theorem qs_break : QS X cl W (.Break pos) sBrk := PS.imp ps_break fun D σ H ⟨ι, F, S, ρ, r, en, o⟩ => o σ ι F H Evo.refl r en
theorem qs_continue : QS X cl W (.Continue pos) sCont := PS.imp ps_continue fun D σ H ⟨ι, F, S, ρ, r, en, o⟩ => o σ ι F H Evo.refl r en
theorem qs_never : QS X cl W st sNever := PS.imp ps_never fun D σ H ⟨ι, F, S, ρ, r, en, o⟩ => o
theorem qss_never : QSs X cl W body sNever := PSs.imp pss_never fun D σ H ⟨ι, F, S, ρ, r, en, o⟩ => o
theorem qs_expr (he : QE X cl W e ma) (hs : swapsWith e none pos.line X.env = pure false := by rfl) : QS X cl W (.Expr e pos) (sExpr ma) :=
  PS.imp (ps_expr he hs) fun D σ H ⟨ι, F, S, ρ, r, en, o⟩ => ⟨ι, F, S, ρ, r, en, (o.st en).mono fun v H1 ⟨ι1, F1, S1, u, e1, r1, z1, o1⟩ => o1 σ ι1 F1 H1 Evo.refl r1 (en.mono e1)⟩
theorem qs_ret (he : QE X cl W e ma) : QS X cl W (.Return (some e) pos) (sRet ma) :=
  PS.imp (ps_ret he) fun D σ H ⟨ι, F, S, ρ, r, en, o⟩ => ⟨ι, F, S, ρ, r, en, (o.st en).mono fun v H1 ⟨ι1, F1, S1, u, e1, r1, z1, o1⟩ => o1 v ι1 F1 H1 Evo.refl r1 z1⟩
theorem qs_retN : QS X cl W (.Return none pos) sRetN := PS.imp ps_retN fun D σ H ⟨ι, F, S, ρ, r, en, o⟩ => o .non ι F H Evo.refl r (.v .non)
theorem qs_if (hc : QT X cl W c tc) (ha : QSs X cl W body s1) (hb : QSs X cl W rest s2) : QS X cl W (.If c body rest pos) (sIf tc s1 s2) :=
  PS.imp (ps_if hc ha hb) fun D σ H ⟨ι, F, S, ρ, r, en, o⟩ => ⟨ι, F, S, ρ, r, en, (o.st en).mono fun x H1 ⟨ι1, F1, S1, x', e1, r1, z1, o1⟩ => by
    subst z1
    cases x with
    | true => exact ⟨ι1, F1, S1, ρ, r1, en.mono e1, o1⟩
    | false => exact ⟨ι1, F1, S1, ρ, r1, en.mono e1, o1⟩⟩
/-! ### targets -/
theorem qg_name {i : Nat} {x : Str} (hN : X.N.Nodup) (hi : X.N[i]? = some x) (hx : Loc X.env.scope x) (hf : X.fn x = true ∨ X.env.scope.names.lookup x = some .local := by first | exact .inl rfl | exact .inr rfl | assumption) : QG X cl (.Name x pos) [i] (gName i) :=
  PG.imp (pg_name hN hi hx hf) fun v σ H Q ⟨ι, F, S, ρ, u, ρ', r, en, z, e, o⟩ => by
    unfold gName at e
    cases e
    exact o _ (paired_set (P := RepO (bx X cl) ι F H) (x := some v) (y := some u) z i en) (fun j hj => List.getElem?_set_ne (fun e => hj (by simp [e]))) (by simp)
def QGs (X : Cx) (cl : Nat → Addr) (ts : List Expr) (js : List Nat) (m : MGs) : Prop :=
  PGs X ts fun vs σ H Q => ∃ ι F S ρ us ρ', Rel (bx X cl) ι F S H ∧ REnv (bx X cl) ι F H σ ρ ∧ RepUs (bx X cl) ι F H vs us ∧ m us ρ = some ρ' ∧ ∀ σ', REnv (bx X cl) ι F H σ' ρ' → (∀ i, i ∉ js → σ'[i]? = σ[i]?) → σ'.length = σ.length → Q σ' H
theorem PGs.imp {X : Cx} {e : List Expr} {t t' : TGs} (h : PGs X e t) (k : ∀ v σ H Q, t' v σ H Q → t v σ H Q) : PGs X e t' := ⟨fun pins s σ H v u Q I r hq => h.run pins s σ H v u Q I r (k v σ H Q hq)⟩
theorem qgs_nil : QGs X cl [] [] gNil := PGs.imp pgs_nil fun vs σ H Q ⟨ι, F, S, ρ, us, ρ', r, en, z, e, o⟩ => by
  cases z with
  | nil => cases e; exact ⟨rfl, o σ en (fun _ _ => rfl) rfl⟩
  | cons _ _ => cases e
theorem qgs_cons {js ks : List Nat} (h1 : QG X cl e js g) (h2 : QGs X cl es ks gs) (hs : (assignEach (e :: es) X.env).map (·.2) = assign e X.env :: (assignEach es X.env).map (·.2) := by rfl) : QGs X cl (e :: es) (js ++ ks) (gCons g gs) :=
  PGs.imp (pgs_cons h1 h2 hs) fun vs σ H Q ⟨ι, F, S, ρ, us, ρ', r, en, z, e, o⟩ => by
    cases z with
    | nil => cases e
    | @cons v u vs us z1 zs =>
      unfold gCons at e
      cases q : g u ρ with
      | none => simp [q] at e
      | some ρ1 =>
        simp [q] at e
        exact ⟨v, vs, rfl, ι, F, S, ρ, u, ρ1, r, en, z1, q, fun σ1 en1 k1 l1 => ⟨ι, F, S, ρ1, us, ρ', r, en1, zs, e, fun σ2 en2 k2 l2 => o σ2 en2 (fun i hi => by
          simp only [List.mem_append, not_or] at hi
          rw [k2 i hi.2, k1 i hi.1]) (l2.trans l1)⟩⟩
theorem qg_tup {k n : Nat} {js : List Nat} (hc : X.calm = true) (h : QGs X cl es js gs) (hn : (assignEach es X.env).length = n := by rfl) (hst : (assignEach es X.env).findIdx? (·.1) = none := by rfl) : QG X cl (.Tuple es k pos) js (gTup n gs) :=
  PG.imp (pg_tup hc h hn hst) fun v σ H Q ⟨ι, F, S, ρ, u, ρ', r, en, z, e, o⟩ => by
    unfold gTup at e
    split at e
    · rename_i ds
      split at e
      · rename_i hl
        cases z with
        | v z =>
          cases z with
          | tup ha zs => exact ⟨_, _, rfl, SqT.of ha, by rw [paired_len (reps_iff.mp zs)]; exact hl, ι, F, S, ρ, ds.map U.v, ρ', r, en, reps_u zs, e, o⟩
      · cases e
    · cases e
theorem qs_asg {js : List Nat} (he : QE X cl W e ma) (hg : QG X cl tg js g) (hs : swapsWithSole [tg] e pos.line X.env = pure false := by rfl) (hw : swappedStores [tg] e X.env = pure none := by rfl)
    (h1 : (assignEach [tg] X.env).map (·.2) = [assign tg X.env] := by rfl) : QS X cl W (.Assign [tg] e pos) (sAsg ma g) :=
  PS.imp (ps_asg he hg hs hw h1) fun D σ H ⟨ι, F, S, ρ, r, en, o⟩ => ⟨ι, F, S, ρ, r, en, (o.st en).mono fun v H1 ⟨ι1, F1, S1, u, e1, r1, z1, o1⟩ => by
    cases q : g u ρ with
    | none => rw [q] at o1; exact o1.elim
    | some ρ' => rw [q] at o1; exact ⟨ι1, F1, S1, ρ, u, ρ', r1, en.mono e1, z1, q, fun σ' en' _ _ => o1 σ' ι1 F1 H1 Evo.refl r1 en'⟩⟩
theorem qs_set {i : Nat} {x : Str} {pos' : Pos} (hN : X.N.Nodup) (hi : X.N[i]? = some x) (hx : Loc X.env.scope x) (he : QE X cl W e ma) (hs : swapsWith e (some (.Name x pos')) pos.line X.env = pure false := by rfl) (hf : X.fn x = true ∨ X.env.scope.names.lookup x = some .local := by first | exact .inl rfl | exact .inr rfl | assumption) :
    QS X cl W (.Assign [.Name x pos'] e pos) (sAsg ma (gName i)) :=
  PS.imp (ps_set hN hi hx he hs hf) fun D σ H ⟨ι, F, S, ρ, r, en, o⟩ => ⟨ι, F, S, ρ, r, en, (o.st en).mono fun v H1 ⟨ι1, F1, S1, u, e1, r1, z1, o1⟩ =>
    o1 _ ι1 F1 H1 Evo.refl r1 (paired_set (P := RepO (bx X cl) ι1 F1 H1) (x := some v) (y := some u) z1 i (en.mono e1))⟩
end

/-! ### loops -/
/-- what is walked: its items, and the cell that must stay as it is -/
structure IterV where
  items : List U
  src : Option Nat
abbrev MI := Env' → Sto → R IterV
def Walk (B : Bx) (J : It) (iv : IterV) (S0 : Sto) (ι0 : List Addr) (F0 : Addr → Prop) (H0 : Hp) : Prop :=
  ∀ (i : Nat) (ι : List Addr) (F : Addr → Prop) (S : Sto) (H : Hp), Evo ι0 F0 H0 ι F H → Rel B ι F S H → (∀ n, iv.src = some n → S[n]? = S0[n]?) →
    (i < iv.items.length → J.go i H ∧ ∀ x H', J.yld i H x H' → Evo ι F H ι F H' ∧ Rel B ι F S H' ∧ ∀ u, iv.items[i]? = some u → RepU B ι F H' x u) ∧ (iv.items.length ≤ i → J.stop i H)
def liftI (B : Bx) (W : WX) (m : MI) : TI := fun σ H Q => ∃ ι F S ρ, Rel B ι F S H ∧ REnv B ι F H σ ρ ∧ match m ρ S with
  | .ok iv S' => ∀ (J : It) (ι' : List Addr) (F' : Addr → Prop) (H' : Hp), Evo ι F H ι' F' H' → Rel B ι' F' S' H' → Walk B J iv S' ι' F' H' → Q J H'
  | .ex c fs S' => OutX B W σ ι F H c fs S'
  | .er => False
def QI (X : Cx) (cl : Nat → Addr) (W : WX) (tg iter : Expr) (m : MI) : Prop := PI X tg iter (liftI (bx X cl) W m)
theorem PI.imp {X : Cx} {tg e : Expr} {t t' : TI} (h : PI X tg e t) (k : ∀ σ H Q, t' σ H Q → t σ H Q) : PI X tg e t' := ⟨fun pins s σ H Q I hq => h.run pins s σ H Q I (k σ H Q hq)⟩

def srcOk (src : Option Nat) (c0 : Option Cell) (S : Sto) : Prop := match src with
  | none => True
  | some n => S[n]? = c0
noncomputable instance (src : Option Nat) (c0 : Option Cell) (S : Sto) : Decidable (srcOk src c0 S) := Classical.propDecidable _
noncomputable def forGo (src : Option Nat) (c0 : Option Cell) (g : MG) (body : MS) : List U → Env' → Sto → RS
  | [], ρ, S => .nx ρ S
  | u :: us, ρ, S => match g u ρ with
    | none => .er
    | some ρ1 => match body ρ1 S with
      | .nx ρ2 S2 => if srcOk src c0 S2 then forGo src c0 g body us ρ2 S2 else .er
      | .ct ρ2 S2 => if srcOk src c0 S2 then forGo src c0 g body us ρ2 S2 else .er
      | .bk ρ2 S2 => .nx ρ2 S2
      | r => r
noncomputable def sFor (it : MI) (g : MG) (body : MS) : MS := fun ρ S => (it ρ S).st ρ fun iv S1 => forGo iv.src (iv.src.bind fun n => S1[n]?) g body iv.items ρ S1
def whileN (c : MT) (body : MS) : Nat → Env' → Sto → RS
  | 0, _, _ => .er
  | n + 1, ρ, S => (c ρ S).st ρ fun x S1 => if x = true then (match body ρ S1 with
      | .nx ρ2 S2 => whileN c body n ρ2 S2
      | .ct ρ2 S2 => whileN c body n ρ2 S2
      | .bk ρ2 S2 => .nx ρ2 S2
      | r => r) else .nx ρ S1
open Classical in
noncomputable def sWhile (c : MT) (body : MS) : MS := fun ρ S => if h : ∃ n, whileN c body n ρ S ≠ .er then whileN c body h.choose ρ S else .er
theorem whileN_mono {c : MT} {body : MS} : ∀ {n m : Nat} {ρ : Env'} {S : Sto}, n ≤ m → whileN c body n ρ S ≠ .er → whileN c body m ρ S = whileN c body n ρ S
  | 0, _, _, _, _, h => absurd rfl h
  | n + 1, 0, _, _, h, _ => by omega
  | n + 1, m + 1, ρ, S, hl, h => by
    unfold whileN at h ⊢
    cases q : c ρ S with
    | er => rfl
    | ex c fs S1 => rfl
    | ok x S1 =>
      rw [q] at h
      simp only [R.st_ok] at h ⊢
      split
      · rename_i hx
        rw [if_pos hx] at h
        cases qb : body ρ S1 with
        | nx ρ2 S2 => rw [qb] at h; exact whileN_mono (by omega) h
        | ct ρ2 S2 => rw [qb] at h; exact whileN_mono (by omega) h
        | bk ρ2 S2 => rfl
        | rt u S2 => rfl
        | ex c fs ρ2 S2 => rfl
        | er => rfl
      · rfl
theorem sWhile_eq {c : MT} {body : MS} {n : Nat} {ρ : Env'} {S : Sto} (h : whileN c body n ρ S ≠ .er) : sWhile c body ρ S = whileN c body n ρ S := by
  have hx : ∃ n, whileN c body n ρ S ≠ .er := ⟨n, h⟩
  unfold sWhile
  rw [dif_pos hx]
  rcases Nat.le_total n hx.choose with l | l
  · exact whileN_mono l h
  · exact (whileN_mono l hx.choose_spec).symm
section
variable {X : Cx} {cl : Nat → Addr} {W : WX} {c tg iter : Expr} {body : List Stmt} {mi : MI} {tc : MT} {mb : MS} {g : MG} {pos : Pos}
theorem qs_for {js : List Nat} (hp : PassesOwn (model X.prog X.w) X.A X.env X.xe) (hc : X.calm = true) (hi : QI X cl W tg iter mi) (hg : QG X cl tg js g) (hb : QSs X cl W body mb)
    (hs : ∀ x, foldedSetIterable iter X.env x = pure x := by intro _; rfl) : QS X cl W (.For tg iter body [] pos) (sFor mi g mb) :=
  PS.imp (ps_for hp hc hi hg hb hs) fun D σ H ⟨ι, F, S, ρ, r, en, o⟩ => by
    refine ⟨ι, F, S, ρ, r, en, ?_⟩
    unfold sFor at o
    cases q : mi ρ S with
    | er => rw [q] at o; exact o
    | ex k fs S1 => rw [q] at o; exact o σ ι F H Evo.refl en
    | ok iv S1 =>
      rw [q] at o
      intro J ι1 F1 H1 e1 r1 wk
      have o1 : OutS (bx X cl) W ι1 F1 H1 D (forGo iv.src (iv.src.bind fun n => S1[n]?) g mb iv.items ρ S1) := OutS.shift e1 o
      refine ⟨fun i m σ' H' => m = iv.items.length - i ∧ i ≤ iv.items.length ∧ ∃ ι2 F2 S2 ρ2, Evo ι1 F1 H1 ι2 F2 H' ∧ Rel (bx X cl) ι2 F2 S2 H' ∧ REnv (bx X cl) ι2 F2 H' σ' ρ2 ∧ srcOk iv.src (iv.src.bind fun n => S1[n]?) S2 ∧
        OutS (bx X cl) W ι2 F2 H' D (forGo iv.src (iv.src.bind fun n => S1[n]?) g mb (iv.items.drop i) ρ2 S2), ⟨iv.items.length, by simp, by simp, ι1, F1, S1, ρ, Evo.refl, r1, en.mono e1, ?_, by simpa using o1⟩, ?_⟩
      · unfold srcOk; split
        · trivial
        · rename_i n hn; simp [hn]
      · rintro i m σ2 H2 ⟨rfl, hi, ι2, F2, S2, ρ2, e2, r2, en2, so, o2⟩
        have so' : ∀ n, iv.src = some n → S2[n]? = S1[n]? := fun n hn => by
          unfold srcOk at so
          rw [hn] at so
          simpa [hn] using so
        obtain ⟨w1, w2⟩ := wk i ι2 F2 S2 H2 e2 r2 so'
        by_cases hlt : i < iv.items.length
        · obtain ⟨go, yl⟩ := w1 hlt
          refine .inr ⟨go, fun σ' H' => i + 1 ≤ iv.items.length ∧ ∃ ι3 F3 S3 ρ3, Evo ι1 F1 H1 ι3 F3 H' ∧ Rel (bx X cl) ι3 F3 S3 H' ∧ REnv (bx X cl) ι3 F3 H' σ' ρ3 ∧ srcOk iv.src (iv.src.bind fun n => S1[n]?) S3 ∧
            OutS (bx X cl) W ι3 F3 H' D (forGo iv.src (iv.src.bind fun n => S1[n]?) g mb (iv.items.drop (i + 1)) ρ3 S3), fun σ' H' p => ⟨iv.items.length - (i + 1), by omega, rfl, p⟩, fun x H' y => ?_⟩
          obtain ⟨e3, r3, z3⟩ := yl x H' y
          have hd : iv.items.drop i = iv.items[i] :: iv.items.drop (i + 1) := List.drop_eq_getElem_cons hlt
          rw [hd] at o2
          unfold forGo at o2
          cases qg : g iv.items[i] ρ2 with
          | none => rw [qg] at o2; exact o2.elim
          | some ρ3 =>
            rw [qg] at o2
            have o3 := OutS.shift e3 o2
            refine ⟨ι2, F2, S2, ρ2, iv.items[i], ρ3, r3, en2.mono e3, z3 _ (by simp [hlt]), qg, fun σ3 en3 _ _ => ⟨ι2, F2, S2, ρ3, r3, en3, ?_⟩⟩
            simp only at o3
            cases qb : mb ρ3 S2 with
            | nx ρ4 S4 =>
              rw [qb] at o3
              simp only at o3
              split at o3
              · rename_i hs
                exact fun σ' ι' F' H'' e' r' en' => ⟨hlt, ι', F', S4, ρ4, (e2.trans e3).trans e', r', en', hs, OutS.shift e' o3⟩
              · exact o3.elim
            | ct ρ4 S4 =>
              rw [qb] at o3
              simp only at o3
              split at o3
              · rename_i hs
                exact fun σ' ι' F' H'' e' r' en' => ⟨hlt, ι', F', S4, ρ4, (e2.trans e3).trans e', r', en', hs, OutS.shift e' o3⟩
              · exact o3.elim
            | bk ρ4 S4 => rw [qb] at o3; exact o3
            | rt u S4 => rw [qb] at o3; exact o3
            | ex k fs ρ4 S4 => rw [qb] at o3; exact o3
            | er => rw [qb] at o3; exact o3
        · have hd : iv.items.drop i = [] := List.drop_eq_nil_of_le (by omega)
          rw [hd] at o2
          exact .inl ⟨w2 (by omega), o2 σ2 ι2 F2 H2 Evo.refl r2 en2⟩
theorem qs_while (hp : PassesOwn (model X.prog X.w) X.A X.env X.xe) (hc : QT X cl W c tc) (hb : QSs X cl W body mb) : QS X cl W (.While c body [] pos) (sWhile tc mb) :=
  PS.imp (ps_while hp hc hb) fun D σ H ⟨ι, F, S, ρ, r, en, o⟩ => by
    unfold sWhile at o
    split at o
    · rename_i hx
      refine ⟨fun m σ' H' => ∃ ι1 F1 S1 ρ1, Rel (bx X cl) ι1 F1 S1 H' ∧ REnv (bx X cl) ι1 F1 H' σ' ρ1 ∧ OutS (bx X cl) W ι1 F1 H' D (whileN tc mb m ρ1 S1), ⟨_, ι, F, S, ρ, r, en, o⟩, ?_⟩
      rintro m σ1 H1 ⟨ι1, F1, S1, ρ1, r1, en1, o1⟩
      cases m with
      | zero => exact o1.elim
      | succ m =>
        unfold whileN at o1
        refine ⟨ι1, F1, S1, ρ1, r1, en1, (o1.st en1).mono fun x H2 ⟨ι2, F2, S2, x', e2, r2, z2, o2⟩ => ?_⟩
        subst z2
        cases x with
        | false => exact o2 σ1 ι2 F2 H2 Evo.refl r2 (en1.mono e2)
        | true =>
          refine ⟨fun σ' H' => ∃ ι1 F1 S1 ρ1, Rel (bx X cl) ι1 F1 S1 H' ∧ REnv (bx X cl) ι1 F1 H' σ' ρ1 ∧ OutS (bx X cl) W ι1 F1 H' D (whileN tc mb m ρ1 S1), fun σ' H' p => ⟨m, Nat.lt_succ_self m, p⟩, ι2, F2, S2, ρ1, r2, en1.mono e2, ?_⟩
          simp only [if_true] at o2
          cases qb : mb ρ1 S2 with
          | nx ρ4 S4 => rw [qb] at o2; exact fun σ' ι' F' H'' e' r' en' => ⟨ι', F', S4, ρ4, r', en', OutS.shift e' o2⟩
          | ct ρ4 S4 => rw [qb] at o2; exact fun σ' ι' F' H'' e' r' en' => ⟨ι', F', S4, ρ4, r', en', OutS.shift e' o2⟩
          | bk ρ4 S4 => rw [qb] at o2; exact o2
          | rt u S4 => rw [qb] at o2; exact o2
          | ex k fs ρ4 S4 => rw [qb] at o2; exact o2
          | er => rw [qb] at o2; exact o2
    · exact o.elim
end
end Pu
/-! Pu: defs: what leaves a def is frozen; promises; calls. -/
namespace Pu
open PySem L2

def optAll {α β : Type} (f : α → Option β) : List α → Option (List β)
  | [] => some []
  | x :: xs => match f x with
    | some y => (optAll f xs).map (y :: ·)
    | none => none
/-- a value that was made behind the first n cells, as data -/
def frz (n : Nat) : Nat → Sto → U → Option D
  | _, _, .v d => some d
  | 0, _, .r _ => none
  | k + 1, S, .r m => if m < n then none else match S[m]? with
    | some (.lst xs) => (optAll (frz n k S) xs).map D.lst
    | some (.tpc xs) => (optAll (frz n k S) xs).map D.tup
    | some (.dic kvs) => (optAll (fun p : D × U => (frz n k S p.2).map fun d => (p.1, d)) kvs).map D.dic
    | some (.ins c fs) => (optAll (fun p : Str × U => (frz n k S p.2).map fun d => (p.1, d)) fs).map (D.ins c)
    | _ => none
@[simp] theorem frz_v (n k : Nat) (S : Sto) (d : D) : frz n k S (.v d) = some d := by cases k <;> rfl
theorem optAll_vals {f : U → Option D} (h : ∀ d, f (.v d) = some d) : ∀ ds : List D, optAll f (ds.map U.v) = some ds
  | [] => rfl
  | d :: ds => by simp [optAll, h, optAll_vals h ds]
@[simp] theorem optAll_frz (n k : Nat) (S : Sto) (ds : List D) : optAll (frz n k S) (ds.map U.v) = some ds := optAll_vals (frz_v n k S) ds
def fixU (n k : Nat) (S : Sto) : U → Option U
  | .v d => some (.v d)
  | .r m => if m < n then some (.r m) else (frz n k S (.r m)).map U.v
def fixC (n k : Nat) (S : Sto) : Cell → Option Cell
  | .lst xs => (optAll (fixU n k S) xs).map Cell.lst
  | .tpc xs => (optAll (fixU n k S) xs).map Cell.tpc
  | .dic kvs => (optAll (fun p : D × U => (fixU n k S p.2).map fun d => (p.1, d)) kvs).map Cell.dic
  | .ins c fs => (optAll (fun p : Str × U => (fixU n k S p.2).map fun d => (p.1, d)) fs).map (Cell.ins c)
  | .dead => some .dead
  | .dicL _ => none
/-- the store behind a def: the caller's cells -/
noncomputable def fixS (S S' : Sto) : Option Sto := optAll (fun p : Cell × Cell => if p.2 = p.1 then some p.1 else fixC S.length 4 S' p.2) (S.zip S')
noncomputable def fin (S : Sto) (u : U) (S' : Sto) : R U := match fixU S.length 4 S' u, fixS S S' with
  | some u', some S'' => .ok u' S''
  | _, _ => .er
noncomputable def finX (S : Sto) (c : Nat) (fs : List (Str × U)) (S' : Sto) : R U := match optAll (fun p : Str × U => (fixU S.length 4 S' p.2).map fun d => (p.1, d)) fs, fixS S S' with
  | some fs', some S'' => .ex c fs' S''
  | _, _ => .er
/-- a def with N names and the body m -/
noncomputable def runF (N : Nat) (m : MS) (us : List U) (S : Sto) : R U := match m (us.map some ++ List.replicate (N - us.length) none) S with
  | .rt u S' => fin S u S'
  | .nx _ S' => fin S (.v .non) S'
  | .ex c fs _ S' => finX S c fs S'
  | _ => .er
/-- .. that hands on what may change -/
noncomputable def runK (N : Nat) (m : MS) (us : List U) (S : Sto) : R U := match m (us.map some ++ List.replicate (N - us.length) none) S with
  | .rt u S' => .ok u S'
  | .nx _ S' => .ok (.v .non) S'
  | .ex c fs _ S' => .ex c fs S'
  | _ => .er

theorem optAll_paired {α β γ : Type} {P : γ → α → Prop} {Q : γ → β → Prop} {f : α → Option β} (h : ∀ g a b, P g a → f a = some b → Q g b) : ∀ {gs : List γ} {as : List α} {bs : List β}, Paired P gs as → optAll f as = some bs → Paired Q gs bs
  | _, _, _, .nil, e => by cases e; exact .nil
  | _, _, _, .cons (l₁ := gs) (l₂ := as) (b := a) p ps, e => by
    unfold optAll at e
    cases q : f a with
    | none => rw [q] at e; cases e
    | some y =>
      rw [q] at e
      cases q2 : optAll f as with
      | none => rw [q2] at e; cases e
      | some ys =>
        rw [q2] at e
        cases e
        exact .cons (h _ _ _ p q) (optAll_paired h ps q2)

section
variable {B : Bx} {ι : List Addr} {F : Addr → Prop} {H : Hp} {S : Sto} {n : Nat}
/-- all that was made behind the first n cells is frozen -/
def frzF (n : Nat) (ι : List Addr) (F : Addr → Prop) (H : Hp) : Addr → Prop := fun a => F a ∨ (∃ m, n ≤ m ∧ ι[m]? = some a) ∨ ∃ m b, n ≤ m ∧ ι[m]? = some b ∧ H a = some (.own b)
theorem frz_evo : Evo ι F H ι (frzF n ι F H) H := ⟨fun _ _ h => h, fun _ h => .inl h, fun _ _ _ h _ => h, fun _ _ h => h, fun _ h => h, fun _ _ _ h => h, fun _ _ _ h => h⟩
theorem repK_of {F2 : Addr → Prop} : ∀ {es : List Ent} {kvs : List (D × D)}, Paired (fun (e : Ent) (p : D × D) => nkey p.1 = some e.1 ∧ Rep B F2 H (.ref e.2.1) p.1 ∧ e.1.depth ≤ 8 ∧ ∃ v, RelV v e.2.2 ∧ Rep B F2 H v p.2) es kvs → RepK B F2 H es kvs
  | _, _, .nil => .nil
  | _, _, .cons ⟨a, b, c, v, r, z⟩ t => .cons a b c r z (repK_of t)
theorem repF_of {F2 : Addr → Prop} : ∀ {es : List (Str × V)} {kvs : List (Str × D)}, Paired (fun (e : Str × V) (p : Str × D) => e.1 = p.1 ∧ Rep B F2 H e.2 p.2) es kvs → RepF B F2 H es kvs
  | _, _, .nil => .nil
  | _, _, .cons (a := (x, v)) (b := (y, d)) ⟨a, b⟩ t => by
    have a : x = y := a
    subst a
    exact .cons b (repF_of t)
theorem frz_ok (r : Rel B ι F S H) : ∀ (k : Nat) {v : V} {u : U} {d : D}, RepU B ι F H v u → frz n k S u = some d → Rep B (frzF n ι F H) H v d := by
  intro k
  induction k with
  | zero =>
    intro v u d h e
    cases h with
    | v h => simp at e; subst e; exact h.mono frz_evo
    | r h => simp [frz] at e
  | succ k ih =>
    intro v u d h e
    cases h with
    | v h => simp at e; subst e; exact h.mono frz_evo
    | @r m a h =>
      unfold frz at e
      split at e
      · cases e
      · rename_i hm
        have fa : frzF n ι F H a := .inr (.inl ⟨m, by omega, h⟩)
        cases q : S[m]? with
        | none => rw [q] at e; cases e
        | some c =>
          rw [q] at e
          have ok := r.ok m a c h q
          cases c with
          | dead => cases e
          | dicL kvs => cases e
          | lst xs =>
            obtain ⟨vs, ha, rs⟩ := ok
            obtain ⟨ds, e1, e2⟩ := Option.map_eq_some_iff.mp e
            subst e2
            exact .lst fa ha (reps_iff.mpr (optAll_paired (P := RepU B ι F H) (Q := Rep B (frzF n ι F H) H) (f := frz n k S) (fun g a b p q => ih p q) rs e1))
          | tpc xs =>
            obtain ⟨vs, ha, rs⟩ := ok
            obtain ⟨ds, e1, e2⟩ := Option.map_eq_some_iff.mp e
            subst e2
            exact .tup ha (reps_iff.mpr (optAll_paired (P := RepU B ι F H) (Q := Rep B (frzF n ι F H) H) (f := frz n k S) (fun g a b p q => ih p q) rs e1))
          | dic kvs =>
            obtain ⟨es, ha, z, rs⟩ := ok
            obtain ⟨ds, e1, e2⟩ := Option.map_eq_some_iff.mp e
            subst e2
            refine .dic fa (.inl ha) z (repK_of (optAll_paired (fun g a b p q => ?_) rs e1))
            obtain ⟨p1, p2, p3, w, p4, p5⟩ := p
            obtain ⟨d', q1, q2⟩ := Option.map_eq_some_iff.mp q
            subst q2
            exact ⟨p1, p2.mono (ι := ι) (ι' := ι) frz_evo, p3, w, p4, ih p5 q1⟩
          | ins c fs =>
            obtain ⟨dx, vs, ha, hd, nd, rs⟩ := ok
            obtain ⟨ds, e1, e2⟩ := Option.map_eq_some_iff.mp e
            subst e2
            refine .ins fa (.inr (.inr ⟨m, a, by omega, h, hd⟩)) ha hd (repF_of (optAll_paired (fun g a b p q => ?_) rs e1))
            obtain ⟨p1, p2⟩ := p
            obtain ⟨d', q1, q2⟩ := Option.map_eq_some_iff.mp q
            subst q2
            exact ⟨p1, ih p2 q1⟩
theorem take_get {α : Type} {l : List α} {n m : Nat} {x : α} (h : l[m]? = some x) (hm : m < n) : (l.take n)[m]? = some x := by
  rw [List.getElem?_take_of_lt hm]; exact h
theorem fixU_ok (r : Rel B ι F S H) {k : Nat} {v : V} {u u' : U} (h : RepU B ι F H v u) (e : fixU n k S u = some u') : RepU B (ι.take n) (frzF n ι F H) H v u' := by
  cases h with
  | v h => cases e; exact .v (h.mono (ι := ι) (ι' := ι) frz_evo)
  | @r m a h =>
    have e : (if m < n then some (U.r m) else (frz n k S (.r m)).map U.v) = some u' := e
    split at e
    · rename_i hm
      cases e
      exact .r (take_get h hm)
    · obtain ⟨d, e1, e2⟩ := Option.map_eq_some_iff.mp e
      subst e2
      exact .v (frz_ok r k (.r h) e1)
/-- refs below n -/
def refLt (n : Nat) : U → Prop
  | .v _ => True
  | .r m => m < n
def cellLt (n : Nat) : Cell → Prop
  | .lst xs => ∀ u ∈ xs, refLt n u
  | .tpc xs => ∀ u ∈ xs, refLt n u
  | .dic kvs => ∀ p ∈ kvs, refLt n p.2
  | .ins _ fs => ∀ p ∈ fs, refLt n p.2
  | .dead => True
  | .dicL kvs => ∀ p ∈ kvs, refLt n p.2
theorem RepU.lt {v : V} {u : U} (h : RepU B ι F H v u) : refLt ι.length u := by
  cases h with
  | v _ => trivial
  | r h => exact (List.getElem?_eq_some_iff.mp h).1
theorem paired_mem {α β : Type} {P : α → β → Prop} {Q : β → Prop} (h : ∀ a b, P a b → Q b) : ∀ {xs : List α} {ys : List β}, Paired P xs ys → ∀ y ∈ ys, Q y
  | _, _, .nil, _, hy => by cases hy
  | _, _, .cons p t, y, hy => by
    rcases List.mem_cons.mp hy with e | e
    · subst e; exact h _ _ p
    · exact paired_mem h t y e
theorem Rel.lt (r : Rel B ι F S H) {c : Cell} (hc : c ∈ S) : cellLt S.length c := by
  obtain ⟨m, hm⟩ := List.getElem?_of_mem hc
  have hlt := (List.getElem?_eq_some_iff.mp hm).1
  rw [← r.len] at hlt
  have ok := r.ok m ι[m] c (by simp [hlt]) hm
  rw [← r.len]
  cases c with
  | lst xs => obtain ⟨vs, _, q⟩ := ok; exact paired_mem (fun _ _ z => z.lt) q
  | tpc xs => obtain ⟨vs, _, q⟩ := ok; exact paired_mem (fun _ _ z => z.lt) q
  | dic kvs => obtain ⟨vs, _, _, q⟩ := ok; exact paired_mem (fun _ _ ⟨_, _, _, _, _, z⟩ => z.lt) q
  | dicL kvs => obtain ⟨vs, _, _, _, q⟩ := ok; exact paired_mem (fun _ _ ⟨_, _, _, _, _, z⟩ => z.lt) q
  | ins c fs => obtain ⟨_, vs, _, _, _, q⟩ := ok; exact paired_mem (fun _ _ ⟨_, z⟩ => z.lt) q
  | dead => trivial
theorem RepU.take {v : V} {u : U} (h : RepU B ι F H v u) (l : refLt n u) : RepU B (ι.take n) (frzF n ι F H) H v u := by
  cases h with
  | v h => exact .v (h.mono (ι := ι) (ι' := ι) frz_evo)
  | r h => exact .r (take_get h l)
theorem paired_memP {α β : Type} {P P' : α → β → Prop} {Q : β → Prop} (h : ∀ a b, P a b → Q b → P' a b) : ∀ {xs : List α} {ys : List β}, Paired P xs ys → (∀ y ∈ ys, Q y) → Paired P' xs ys
  | _, _, .nil, _ => .nil
  | _, _, .cons p t, hy => .cons (h _ _ p (hy _ (by simp))) (paired_memP h t fun y m => hy y (by simp [m]))
/-- a cell of the caller's: nothing of it is younger than n, or it was fixed -/
theorem CellOk.own_ne (r : Rel B ι F S H) {j : Nat} {a dx : Addr} (hj : j < n) (h1 : ι[j]? = some a) (hd : H dx = some (.own a)) (nd : ¬ F dx) : ¬ frzF n ι F H dx := by
  rintro (z | ⟨m, hm, z⟩ | ⟨m, b, hm, z, zb⟩)
  · exact nd z
  · exact r.now dx (List.mem_of_getElem? z) _ hd
  · rw [hd] at zb
    have zb : a = b := by injection zb with zb; injection zb
    subst zb
    obtain ⟨q1, e1⟩ := List.getElem?_eq_some_iff.mp h1
    obtain ⟨q2, e2⟩ := List.getElem?_eq_some_iff.mp z
    have := (List.getElem_inj r.nd).mp (e1.trans e2.symm)
    omega
theorem CellOk.take (r : Rel B ι F S H) {j : Nat} {a : Addr} {c : Cell} (hj : j < n) (h1 : ι[j]? = some a) (x : CellOk B ι F H a c) (l : cellLt n c) : CellOk B (ι.take n) (frzF n ι F H) H a c := by
  cases c with
  | lst xs => obtain ⟨vs, h, q⟩ := x; exact ⟨vs, h, paired_memP (fun _ _ z l => z.take l) q l⟩
  | tpc xs => obtain ⟨vs, h, q⟩ := x; exact ⟨vs, h, paired_memP (fun _ _ z l => z.take l) q l⟩
  | dic kvs => obtain ⟨vs, h, z, q⟩ := x; exact ⟨vs, h, z, paired_memP (Q := fun p : D × U => refLt n p.2) (fun _ _ ⟨a, b, c, w, d, e⟩ l => ⟨a, b.mono (ι := ι) (ι' := ι) frz_evo, c, w, d, e.take l⟩) q l⟩
  | dicL kvs => obtain ⟨vs, od, h, z, q⟩ := x; exact ⟨vs, od, h, z, paired_memP (Q := fun p : D × U => refLt n p.2) (fun _ _ ⟨a, b, c, w, d, e⟩ l => ⟨a, b.mono (ι := ι) (ι' := ι) frz_evo, c, w, d, e.take l⟩) q l⟩
  | ins c fs => obtain ⟨dx, vs, h, hd, nd, q⟩ := x; exact ⟨dx, vs, h, hd, CellOk.own_ne r hj h1 hd nd, paired_memP (Q := fun p : Str × U => refLt n p.2) (fun _ _ ⟨a, e⟩ l => ⟨a, e.take l⟩) q l⟩
  | dead => trivial
theorem CellOk.fixed (r : Rel B ι F S H) {j k : Nat} {a : Addr} {c c' : Cell} (hj : j < n) (h1 : ι[j]? = some a) (x : CellOk B ι F H a c) (e : fixC n k S c = some c') : CellOk B (ι.take n) (frzF n ι F H) H a c' := by
  cases c with
  | lst xs =>
    obtain ⟨vs, h, q⟩ := x
    obtain ⟨ys, e1, rfl⟩ := Option.map_eq_some_iff.mp e
    exact ⟨vs, h, optAll_paired (P := RepU B ι F H) (Q := RepU B (ι.take n) (frzF n ι F H) H) (f := fixU n k S) (fun _ _ _ p e => fixU_ok r p e) q e1⟩
  | tpc xs =>
    obtain ⟨vs, h, q⟩ := x
    obtain ⟨ys, e1, rfl⟩ := Option.map_eq_some_iff.mp e
    exact ⟨vs, h, optAll_paired (P := RepU B ι F H) (Q := RepU B (ι.take n) (frzF n ι F H) H) (f := fixU n k S) (fun _ _ _ p e => fixU_ok r p e) q e1⟩
  | dic kvs =>
    obtain ⟨vs, h, z, q⟩ := x
    obtain ⟨ys, e1, rfl⟩ := Option.map_eq_some_iff.mp e
    refine ⟨vs, h, z, optAll_paired (fun _ _ _ p e => ?_) q e1⟩
    obtain ⟨p1, p2, p3, w, p4, p5⟩ := p
    obtain ⟨u, q1, rfl⟩ := Option.map_eq_some_iff.mp e
    exact ⟨p1, p2.mono (ι := ι) (ι' := ι) frz_evo, p3, w, p4, fixU_ok r p5 q1⟩
  | ins c fs =>
    obtain ⟨dx, vs, h, hd, nd, q⟩ := x
    obtain ⟨ys, e1, rfl⟩ := Option.map_eq_some_iff.mp e
    refine ⟨dx, vs, h, hd, CellOk.own_ne r hj h1 hd nd, optAll_paired (fun _ _ _ p e => ?_) q e1⟩
    obtain ⟨p1, p5⟩ := p
    obtain ⟨u, q1, rfl⟩ := Option.map_eq_some_iff.mp e
    exact ⟨p1, fixU_ok r p5 q1⟩
  | dicL kvs => cases e
  | dead => cases e; trivial
theorem optAll_get {α β : Type} {f : α → Option β} : ∀ {as : List α} {bs : List β}, optAll f as = some bs → as.length = bs.length ∧ ∀ (i : Nat) b, bs[i]? = some b → ∃ a, as[i]? = some a ∧ f a = some b
  | [], bs, e => by cases e; exact ⟨rfl, fun i b h => by simp at h⟩
  | x :: xs, bs, e => by
    unfold optAll at e
    cases q : f x with
    | none => rw [q] at e; cases e
    | some y =>
      rw [q] at e
      obtain ⟨ys, e1, rfl⟩ := Option.map_eq_some_iff.mp e
      obtain ⟨l, g⟩ := optAll_get e1
      refine ⟨by simp [l], fun i b h => ?_⟩
      cases i with
      | zero => simp at h; subst h; exact ⟨x, rfl, q⟩
      | succ i => simpa using g i b (by simpa using h)
theorem fixC_live {n k : Nat} {S : Sto} {c c' : Cell} (e : fixC n k S c = some c') (h : c'.live = true) : c.live = true := by
  cases c <;> first | rfl | (cases e; cases h)
theorem Rel.exit {S0 S'' : Sto} {ι0 : List Addr} {F0 : Addr → Prop} {H0 : Hp} (r0 : Rel B ι0 F0 S0 H0) (e : Evo ι0 F0 H0 ι F H) (r : Rel B ι F S H) (hs : fixS S0 S = some S'') : Rel B (ι.take S0.length) (frzF S0.length ι F H) S'' H ∧ ι.take S0.length = ι0 := by
  have hle : S0.length ≤ S.length := by
    rw [← r0.len, ← r.len]
    cases q : ι0.length with
    | zero => omega
    | succ k =>
      have h1 : ι0[k]? = some ι0[k] := by simp
      have := (List.getElem?_eq_some_iff.mp (e.pre k _ h1)).1
      omega
  have et : ι.take S0.length = ι0 := by
    apply List.ext_getElem?
    intro m
    by_cases hm : m < S0.length
    · rw [List.getElem?_take_of_lt hm]
      have h1 : ι0[m]? = some (ι0[m]'(by rw [r0.len]; exact hm)) := by simp
      rw [h1]; exact e.pre m _ h1
    · rw [List.getElem?_eq_none (by simp; omega), List.getElem?_eq_none (by rw [r0.len]; omega)]
  refine ⟨?_, et⟩
  -- the cells behind
  have key : S''.length = S0.length ∧ ∀ (j : Nat) (c : Cell), S''[j]? = some c → ∃ c0, S[j]? = some c0 ∧ (c.live = true → c0.live = true) ∧ ∀ a, ι[j]? = some a → j < S0.length → CellOk B ι F H a c0 → CellOk B (ι.take S0.length) (frzF S0.length ι F H) H a c := by
    unfold fixS at hs
    obtain ⟨l, g⟩ := optAll_get hs
    refine ⟨by rw [← l]; simp [hle], fun j c hj => ?_⟩
    obtain ⟨p, h1, h2⟩ := g j c hj
    obtain ⟨e0, e1⟩ := List.getElem?_zip_eq_some.mp h1
    split at h2
    · rename_i hx
      cases h2
      exact ⟨p.1, by rw [← hx]; exact e1, fun z => z, fun a ha hl x => x.take r hl ha (r0.lt (List.mem_of_getElem? e0))⟩
    · exact ⟨p.2, e1, fixC_live h2, fun a ha hl x => x.fixed r hl ha h2⟩
  obtain ⟨kl, kc⟩ := key
  have lt_of : ∀ {j a}, (ι.take S0.length)[j]? = some a → j < S0.length ∧ ι[j]? = some a := fun {j a} h => by
    have hl := (List.getElem?_eq_some_iff.mp h).1
    simp at hl
    rw [List.getElem?_take_of_lt (by omega)] at h
    exact ⟨by omega, h⟩
  refine ⟨by simp [kl, r.len]; omega, r.nd.sublist (List.take_sublist _ _), fun j a c h1 h2 h3 => ?_, fun j a c h1 h2 => ?_, fun a h => r.there a (List.mem_of_mem_take h), fun a h => ?_, fun a h => r.now a (List.mem_of_mem_take h)⟩
  · obtain ⟨hl, h1⟩ := lt_of h1
    obtain ⟨c0, g1, g2, _⟩ := kc j c h2
    rintro (z | ⟨m, hm, z⟩ | ⟨m, b, hm, z, zb⟩)
    · exact r.nf j a c0 h1 g1 (g2 h3) z
    · obtain ⟨q1, e1⟩ := List.getElem?_eq_some_iff.mp h1
      obtain ⟨q2, e2⟩ := List.getElem?_eq_some_iff.mp z
      have := (List.getElem_inj r.nd).mp (e1.trans e2.symm)
      omega
    · exact r.now a (List.mem_of_getElem? h1) b zb
  · obtain ⟨hl, h1⟩ := lt_of h1
    obtain ⟨c0, g1, _, g3⟩ := kc j c h2
    exact g3 a h1 hl (r.ok j a c0 h1 g1)
  · rcases h with z | ⟨m, hm, z⟩ | ⟨m, b, hm, z, zb⟩
    · exact r.fthere a z
    · exact r.there a (List.mem_of_getElem? z)
    · rw [zb]; simp
end

/-! ### promises -/
def SpM (B : Bx) (n : Nat) (mf : List U → Sto → R U) : Sp := fun vs H Q E => vs.length = n ∧ ∃ ι F S us, Rel B ι F S H ∧ RepUs B ι F H vs us ∧ Out B (fun cls d _ H' => E cls d H') [] ι F H (RepU B) Q (mf us S)
theorem start_env {B : Bx} {ι : List Addr} {F : Addr → Prop} {H : Hp} {vs : List V} {us : List U} (h : RepUs B ι F H vs us) (N : Nat) : REnv B ι F H (vs.map some ++ List.replicate (N - vs.length) none) (us.map some ++ List.replicate (N - us.length) none) := by
  rw [paired_len h]
  refine paired_append ?_ ?_
  · induction h with
    | nil => exact .nil
    | cons a b ih => exact .cons a ih
  · induction N - us.length with
    | zero => exact .nil
    | succ k ih => exact .cons trivial ih
theorem spM_body {B : Bx} {n N : Nat} {m : MS} {vs : List V} {H : Hp} {Q : VK} {E : XK} (h : SpM B n (runF N m) vs H Q E) :
    liftS B (fun cls d _ H' => E cls d H') m { nx := fun _ H' => Q .non H', rt := Q } (vs.map some ++ List.replicate (N - vs.length) none) H := by
  obtain ⟨_, ι, F, S, us, r, z, o⟩ := h
  refine ⟨ι, F, S, _, r, start_env z N, ?_⟩
  unfold runF at o
  have val : ∀ {u : U} {S' : Sto}, Out B (fun cls d _ H' => E cls d H') [] ι F H (RepU B) Q (fin S u S') → ∀ (v : V) (ι' : List Addr) (F' : Addr → Prop) (H' : Hp), Evo ι F H ι' F' H' → Rel B ι' F' S' H' → RepU B ι' F' H' v u → Q v H' := by
    intro u S' o v ι' F' H' e r' z'
    unfold fin at o
    split at o
    · rename_i u' S'' e1 e2
      obtain ⟨r2, et⟩ := r.exit e r' e2
      refine o v _ _ H' (?_ : Evo ι F H (ι'.take S.length) (frzF S.length ι' F' H') H') r2 (fixU_ok r' z' e1)
      rw [et]
      exact ⟨fun _ _ h => h, fun a h => .inl (e.sub a h), e.keep, e.tups, e.alive, e.lkd, e.kext⟩
    · exact o.elim
  cases q : m (us.map some ++ List.replicate (N - us.length) none) S with
  | rt u S' => rw [q] at o; exact val o
  | nx ρ S' => rw [q] at o; exact fun σ ι' F' H' e r' en => val o .non ι' F' H' e r' (.v .non)
  | bk ρ S' => rw [q] at o; exact o.elim
  | ct ρ S' => rw [q] at o; exact o.elim
  | er => rw [q] at o; exact o.elim
  | ex c fs ρ S' =>
    rw [q] at o
    intro σ ι1 F1 H1 e1 en dx ws ι' F' H' e r' hx zx
    simp only at o
    unfold finX at o
    split at o
    · rename_i fs' S'' g1 g2
      have e' := e1.trans e
      obtain ⟨r2, et⟩ := r.exit e' r' g2
      refine o dx ws _ _ H' (?_ : Evo ι F H (ι'.take S.length) (frzF S.length ι' F' H') H') r2 hx ?_
      · rw [et]
        exact ⟨fun _ _ h => h, fun a h => .inl (e'.sub a h), e'.keep, e'.tups, e'.alive, e'.lkd, e'.kext⟩
      · refine optAll_paired (fun g a b p q => ?_) zx g1
        obtain ⟨p1, p5⟩ := p
        obtain ⟨u, q1, rfl⟩ := Option.map_eq_some_iff.mp q
        exact ⟨p1, fixU_ok r' p5 q1⟩
    · exact o.elim
theorem spM_bodyK {B : Bx} {n N : Nat} {m : MS} {vs : List V} {H : Hp} {Q : VK} {E : XK} (h : SpM B n (runK N m) vs H Q E) :
    liftS B (fun cls d _ H' => E cls d H') m { nx := fun _ H' => Q .non H', rt := Q } (vs.map some ++ List.replicate (N - vs.length) none) H := by
  obtain ⟨_, ι, F, S, us, r, z, o⟩ := h
  refine ⟨ι, F, S, _, r, start_env z N, ?_⟩
  unfold runK at o
  cases q : m (us.map some ++ List.replicate (N - us.length) none) S with
  | rt u S' => rw [q] at o; exact o
  | nx ρ S' => rw [q] at o; exact fun σ ι' F' H' e r' en => o .non ι' F' H' e r' (.v .non)
  | bk ρ S' => rw [q] at o; exact o.elim
  | ct ρ S' => rw [q] at o; exact o.elim
  | er => rw [q] at o; exact o.elim
  | ex c fs ρ S' => rw [q] at o; exact fun σ ι1 F1 H1 e1 en dx ws ι' F' H' e r' hx zx => o dx ws ι' F' H' (e1.trans e) r' hx zx
end Pu
/-! Pu: defs and calls, instances and their fields. -/
namespace Pu
open PySem PySem.Spec L2
open PyProof.Rows hiding St

abbrev Xd (P : Program) (w : World) (K : PySem.W.Frag) (mg : Str → Option Value) (base : Heap) (N : List Str) (qual : Str) (scope : Scope) (f : Addr) (cdv : Value) (A : Around) (outer : List Env) (s : Shared) (H : Hp) (E : XK) : Cx :=
  cxOf (L2.CX P w) P w K mg base N qual scope f cdv A outer s H E
abbrev Wd (E : XK) : WX := fun cls d _ H' => E cls d H'
section
variable {P : Program} {w : World} {K : PySem.W.Frag} {mg : Str → Option Value} {base : Heap} {cl : Nat → Addr} {x qual : Str} {params : Arguments} {body : List Stmt} {scope : Scope} {dvs : List V} {kws : List (Str × V)} {f : Addr} {fd : FuncData} {N ps : List Str} {k : Nat} {m : MS}
theorem fn_q (Fd : FunD K x qual params body scope dvs kws f fd) (Sc : FnScope N ps scope)
    (hb : ∀ (cdv : Value) (A : Around) (outer : List Env) (s : Shared) (H : Hp) (E : XK), Room k (A.deeper (envOfC qual scope s.heap.objs.size f cdv)) → QSs (Xd P w K mg base N qual scope f cdv A outer s H E) cl (Wd E) body m) :
    FnOk P w K mg base (L2.CX P w) (k + 1) f fd ps (SpM ⟨P, w, K, cl⟩ ps.length (runF N.length m)) :=
  Fd.ok Sc (fun _ _ _ _ h => h.1) fun cdv A outer s H vs Q E hr h => ⟨_, hb cdv A outer s H E hr, spM_body h⟩
theorem fn_qK (Fd : FunD K x qual params body scope dvs kws f fd) (Sc : FnScope N ps scope)
    (hb : ∀ (cdv : Value) (A : Around) (outer : List Env) (s : Shared) (H : Hp) (E : XK), Room k (A.deeper (envOfC qual scope s.heap.objs.size f cdv)) → QSs (Xd P w K mg base N qual scope f cdv A outer s H E) cl (Wd E) body m) :
    FnOk P w K mg base (L2.CX P w) (k + 1) f fd ps (SpM ⟨P, w, K, cl⟩ ps.length (runK N.length m)) :=
  Fd.ok Sc (fun _ _ _ _ h => h.1) fun cdv A outer s H vs Q E hr h => ⟨_, hb cdv A outer s H E hr, spM_bodyK h⟩
end

/-- a call of the def whose mirror is mf; dds: the defaults -/
def eCall (n : Nat) (mf : List U → Sto → R U) (dds : List U) (a : MA) : ME := fun ρ S => (a ρ S).bind fun us S1 => if us.length + dds.length = n then mf (us ++ dds) S1 else .er
section
variable {B : Bx} {W : WX} {σ : St} {ι : List Addr} {F : Addr → Prop} {H : Hp} {Q : VK}
theorem out_w {r : R U} (h : Out B W σ ι F H (RepU B) Q r) : Out B (fun cls d _ H' => WE W σ cls d H') [] ι F H (RepU B) Q r := by
  cases r with
  | ok a S' => exact h
  | ex c fs S' => exact h
  | er => exact h
end
section
variable {X : Cx} {cl : Nat → Addr} {W : WX} {k n : Nat} {f C : Addr} {fd : FuncData} {ps : List Str} {mf : List U → Sto → R U} {dvs : List V} {ds : List Value} {dds : List D} {x m : Str} {p pos apos : Pos} {e o : Expr} {es : List Expr} {mo : ME} {mA : MA}
/-- the defaults as data -/
def Dfl (cl : Nat → Addr) (dvs : List V) (dds : List D) : Prop := ∀ (B : Bx) (F : Addr → Prop) (H : Hp), B.cl = cl → Reps B F H dvs dds
theorem Dfl.nil : Dfl cl [] [] := fun _ _ _ _ => .nil
theorem sp_of {σ : St} {ι : List Addr} {F : Addr → Prop} {H : Hp} {S : Sto} {Q : VK} {vs : List V} {us : List U} (hD : Dfl cl dvs dds) (r : Rel (bx X cl) ι F S H) (z : RepUs (bx X cl) ι F H vs us)
    (o : Out (bx X cl) W σ ι F H (RepU (bx X cl)) Q (if us.length + (dds.map U.v).length = n then mf (us ++ dds.map U.v) S else .er)) : SpM (bx X cl) n mf (vs ++ dvs) H Q (WE W σ) := by
  have zz : RepUs (bx X cl) ι F H (vs ++ dvs) (us ++ dds.map U.v) := paired_append z (reps_u (hD _ F H rfl))
  split at o
  · rename_i hl
    refine ⟨?_, ι, F, S, _, r, zz, out_w o⟩
    rw [paired_len zz]
    simpa using hl
  · exact o.elim
theorem qe_call (Fn : FnOk X.prog X.w X.K X.mg X.base (L2.CX X.prog X.w) k f fd ps (SpM (bx X cl) n mf)) (tk : Takes X W) (hr : Room k X.A) (hg : Gl X x) (hm : X.mg x = some (.ref f)) (hk : PySem.W.keepIn X.K (.ref f) = true) (hb : Binds X.K fd ps ds) (hd : Vals dvs ds) (hD : Dfl cl dvs dds)
    (ha : QA X cl W (e :: es) mA) (hdb : (x == ("__debug__" : Str)) = false := by decide) (he : starEach (e :: es) X.env = (false, eval e X.env) :: starEach es X.env := by rfl) (hpl : (backTo pos (starEach es X.env)).any (·.1) = false := by rfl) :
    QE X cl W (.Call (.Name x p) (e :: es) [] pos) (eCall n mf (dds.map U.v) mA) :=
  PE.imp (pe_callSD Fn hr hg hm hk hb hd (fun σ => passAt tk σ) ha hdb he hpl) fun σ H Q ⟨ι, F, S, ρ, r, en, o⟩ => ⟨ι, F, S, ρ, r, en, o.bind.mono fun x H1 ⟨ι1, F1, S1, x', e1, r1, z1, o1⟩ => sp_of hD r1 z1 o1⟩
theorem qe_call0 (Fn : FnOk X.prog X.w X.K X.mg X.base (L2.CX X.prog X.w) k f fd ps (SpM (bx X cl) n mf)) (tk : Takes X W) (hr : Room k X.A) (hg : Gl X x) (hm : X.mg x = some (.ref f)) (hk : PySem.W.keepIn X.K (.ref f) = true) (hb : Binds X.K fd ps ds) (hd : Vals dvs ds) (hD : Dfl cl dvs dds)
    (hdb : (x == ("__debug__" : Str)) = false := by decide) : QE X cl W (.Call (.Name x p) [] [] pos) (eCall n mf (dds.map U.v) aNil) := by
  refine ⟨fun pins s σ H Q I h => ?_⟩
  obtain ⟨ι, F, S, ρ, r, en, o⟩ := h
  refine wpAny_Call_Name_kw (ld_glob I hg hm ?_ hdb)
  exact PySem.W.callWith_K0 I.kIn hk (run_fnSD (us := []) (vs := []) Fn hr hb hd (passAt tk σ) I .nil (sp_of hD r (.nil : RepUs (bx X cl) ι F H [] []) o))

/-! ### instances -/
/-- an instance of the class c: its attributes -/
def asIns (S : Sto) : U → Option (Nat × List (Str × U))
  | .v (.ins c fs) => some (c, fs.map fun p => (p.1, .v p.2))
  | .r n => match S[n]? with
    | some (.ins c fs) => some (c, fs)
    | _ => none
  | _ => none
theorem repF_paired {B : Bx} {ι : List Addr} {F : Addr → Prop} {H : Hp} : ∀ {vs : List (Str × V)} {fs : List (Str × D)}, RepF B F H vs fs → RepFU B ι F H vs (fs.map fun p => (p.1, U.v p.2))
  | _, _, .nil => .nil
  | _, _, .cons a b => .cons ⟨rfl, .v a⟩ (repF_paired b)
theorem asIns_ok {B : Bx} {ι : List Addr} {F : Addr → Prop} {H : Hp} {S : Sto} {v : V} {u : U} {c : Nat} {fs : List (Str × U)} (r : Rel B ι F S H) (z : RepU B ι F H v u) (e : asIns S u = some (c, fs)) :
    ∃ a dx vs, v = .ref a ∧ H a = some (.ins (B.cl c) dx vs) ∧ RepFU B ι F H vs fs := by
  cases z with
  | v z =>
    cases z with
    | ins f g h h2 rr => cases e; exact ⟨_, _, _, rfl, h, repF_paired rr⟩
    | _ => cases e
  | @r n a h =>
    unfold asIns at e
    simp only at e
    cases q : S[n]? with
    | none => rw [q] at e; cases e
    | some cc =>
      rw [q] at e
      have ok := r.ok n a cc h q
      cases cc with
      | ins c' fs' =>
        cases e
        obtain ⟨dx, vs, h1, _, _, rr⟩ := ok
        exact ⟨a, dx, vs, rfl, h1, rr⟩
      | _ => cases e
theorem lookup_paired {B : Bx} {ι : List Addr} {F : Addr → Prop} {H : Hp} {f : Str} : ∀ {vs : List (Str × V)} {fs : List (Str × U)}, RepFU B ι F H vs fs → (∀ u, fs.lookup f = some u → ∃ v, vs.lookup f = some v ∧ RepU B ι F H v u) ∧ (fs.lookup f = none → vs.lookup f = none)
  | _, _, .nil => ⟨fun u h => by simp at h, fun _ => rfl⟩
  | _, _, .cons (a := (x, v)) (b := (y, w)) ⟨a, b⟩ t => by
    have a : x = y := a
    subst a
    obtain ⟨i1, i2⟩ := lookup_paired t (f := f)
    refine ⟨fun u h => ?_, fun h => ?_⟩
    · rw [List.lookup_cons] at h ⊢
      split at h
      · cases h; exact ⟨v, rfl, b⟩
      · exact i1 u h
    · rw [List.lookup_cons] at h ⊢
      split at h
      · cases h
      · exact i2 h
def fFld (cs : List Nat) (f : Str) : F1 := fun u S => match asIns S u with
  | some (c', fs) => if c' ∈ cs then (fs.lookup f).map fun z => (z, S) else none
  | none => none
/-- plain classes without such a name of their own -/
def ClsF (K : PySem.W.Frag) (cl : Nat → Addr) (cs : List Nat) (f : Str) : Prop := ∀ c ∈ cs, Cls K (cl c) ∧ NoAttr K (cl c) f
theorem qe_fld {f : Str} {cs : List Nat} (he : QE X cl W e mo) (hc : ClsF X.K cl cs f) (hab : attributeBase e f X.env (eval e X.env) = eval e X.env := by rfl) : QE X cl W (.Attribute e f pos) (eUn (fFld cs f) mo) :=
  PE.imp (pe_fld he hab) fun σ H Q ⟨ι, F, S, ρ, r, en, o⟩ => ⟨ι, F, S, ρ, r, en, o.bind.mono fun x H1 ⟨ι1, F1, S1, x', e1, r1, z1, o1⟩ => by
    have o2 := o1.fin
    unfold fFld at o2
    cases q : asIns S1 x' with
    | none => rw [q] at o2; exact o2.no
    | some p =>
      obtain ⟨c', fs⟩ := p
      rw [q] at o2
      simp only at o2
      split at o2
      · rename_i hcc
        obtain ⟨a, dx, vs, ex, ha, rr⟩ := asIns_ok r1 z1 q
        cases ql : fs.lookup f with
        | none => rw [ql] at o2; exact o2.no
        | some u =>
          rw [ql] at o2
          obtain ⟨v, lv, zv⟩ := (lookup_paired rr (f := f)).1 u ql
          exact ⟨a, _, dx, vs, v, ex, ha, (hc c' hcc).1, (hc c' hcc).2, lv, o2.val r1 zv⟩
      · exact o2.no⟩
/-! ### a field is stored -/
def putU (f : Str) (v : U) : List (Str × U) → List (Str × U)
  | [] => [(f, v)]
  | (g, x) :: r => if g = f then (g, v) :: r else (g, x) :: putU f v r
theorem putU_ok {B : Bx} {ι : List Addr} {F : Addr → Prop} {H : Hp} {f : Str} {v : V} {u : U} (z : RepU B ι F H v u) : ∀ {vs : List (Str × V)} {fs : List (Str × U)}, RepFU B ι F H vs fs → RepFU B ι F H (putF f v vs) (putU f u fs)
  | _, _, .nil => .cons ⟨rfl, z⟩ .nil
  | _, _, .cons (a := (x, v')) (b := (y, w)) ⟨a, b⟩ t => by
    have a : x = y := a
    subst a
    unfold putF putU
    split
    · exact .cons ⟨rfl, z⟩ t
    · exact .cons ⟨rfl, b⟩ (putU_ok z t)
/-- o.f = value -/
def sFld (cs : List Nat) (f : Str) (mo mv : ME) : MS := fun ρ S => (mv ρ S).st ρ fun u S1 => (mo ρ S1).st ρ fun x S2 => match x with
  | .r n => match S2[n]? with
    | some (.ins c fs) => if c ∈ cs ∧ fs.length < 900 then .nx ρ (S2.set n (.ins c (putU f u fs))) else .er
    | _ => .er
  | _ => .er
theorem qs_fld {f : Str} {cs : List Nat} {mv : ME} {value : Expr} {pos' : Pos} (ha : QE X cl W o mo) (hv : QE X cl W value mv) (hc : ClsF X.K cl cs f) (hs : swapsWith value (some (.Attribute o f pos')) pos.line X.env = pure false := by rfl) :
    QS X cl W (.Assign [.Attribute o f pos'] value pos) (sFld cs f mo mv) :=
  PS.imp (ps_fld ha hv hs) fun D σ H ⟨ι, F, S, ρ, r, en, ot⟩ => ⟨ι, F, S, ρ, r, en, (ot.st en).mono fun v H1 ⟨ι1, F1, S1, u, e1, r1, z1, o1⟩ => by
    refine ⟨ι1, F1, S1, ρ, r1, en.mono e1, (o1.st (en.mono e1)).mono fun y H2 ⟨ι2, F2, S2, y', e2, r2, z2, o2⟩ => ?_⟩
    cases z2 with
    | v _ => exact o2.elim
    | @r n a h =>
      simp only at o2
      cases q : S2[n]? with
      | none => rw [q] at o2; exact o2.elim
      | some c =>
        rw [q] at o2
        cases c with
        | ins c fs =>
          simp only at o2
          split at o2
          · rename_i hcc
            obtain ⟨dx, vs, h1, h2, h3, rr⟩ := r2.ok n a _ h q
            have hlen : vs.length < 1000 := by rw [paired_len rr]; omega
            refine ⟨a, _, dx, vs, rfl, h1, (hc c hcc.1).1, (hc c hcc.1).2, hlen, ?_⟩
            have hda : dx ≠ a := fun z => by rw [z, h1] at h2; cases h2
            have e0 : Evo ι2 F2 H2 ι2 F2 (upd H2 a (.ins (cl c) dx (putF f v vs))) := by
              have nf := r2.nf n a _ h q rfl
              refine ⟨fun _ _ h => h, fun _ h => h, fun b u f h _ => ?_, fun b xs h => ?_, fun b h => ?_, fun b p u h => by rw [upd_ne (fun z : b = a => by rw [z, h1] at h; cases h)]; exact h, fun b φ f h => rd_ne (fun z : b = a => nf (by rw [← z]; exact f)) h⟩
              · rw [upd_ne (fun z : b = a => nf (by rw [← z]; exact f))]; exact h
              · rw [upd_ne (fun z : b = a => by rw [z, h1] at h; cases h)]; exact h
              · by_cases hb : b = a
                · rw [hb, upd_same]; simp
                · rw [upd_ne hb]; exact h
            obtain ⟨r3, e3⟩ := r2.write (o := .ins (cl c) dx (putF f v vs)) (c' := .ins c (putU f u fs)) h q rfl (fun xs z => by rw [h1] at z; cases z) nofun (fun p u z => by rw [h1] at z; cases z)
              ⟨dx, putF f v vs, upd_same, by rw [upd_ne hda]; exact h2, h3, putU_ok ((z1.mono e2).mono e0) (rr.mono e0)⟩
            exact o2 σ ι2 F2 _ e3 r3 (((en.mono e1).mono e2).mono e3)
          · exact o2.elim
        | _ => exact o2.elim⟩
end
end Pu
/-! Pu: operations on values: numbers, keys, sequences. -/
namespace Pu
open PySem L2

/-! ### keys -/
mutual
theorem nkey_inj : ∀ {a b : D} {k : NestedKey}, nkey a = some k → nkey b = some k → a = b
  | .non, b, k, h, h' => by
    simp [nkey] at h; subst h
    cases b <;> simp [nkey] at h' <;> rfl
  | .int i, b, k, h, h' => by
    simp [nkey] at h; subst h
    cases b <;> simp [nkey] at h'
    rw [h']
  | .str i, b, k, h, h' => by
    simp [nkey] at h; subst h
    cases b <;> simp [nkey] at h'
    rw [h']
  | .tup xs, b, k, h, h' => by
    simp only [nkey, Option.map_eq_some_iff] at h
    obtain ⟨ks, h1, rfl⟩ := h
    cases b with
    | tup ys =>
      simp only [nkey, Option.map_eq_some_iff] at h'
      obtain ⟨ks', h2, h3⟩ := h'
      cases h3
      rw [nkeys_inj h1 h2]
    | _ => simp [nkey] at h'
  | .bl _, _, _, h, _ => by simp [nkey] at h
  | .lst _, _, _, h, _ => by simp [nkey] at h
  | .dic _, _, _, h, _ => by simp [nkey] at h
  | .ins _ _, _, _, h, _ => by simp [nkey] at h
  | .cls _, _, _, h, _ => by simp [nkey] at h
  | .ty _, _, _, h, _ => by simp [nkey] at h
  | .frl _, _, _, h, _ => by simp [nkey] at h
theorem nkeys_inj : ∀ {a b : List D} {k : List NestedKey}, nkey.nkeys a = some k → nkey.nkeys b = some k → a = b
  | [], b, k, h, h' => by
    simp [nkey.nkeys] at h; subst h
    cases b with
    | nil => rfl
    | cons y ys =>
      unfold nkey.nkeys at h'
      split at h' <;> cases h'
  | x :: xs, b, k, h, h' => by
    unfold nkey.nkeys at h
    split at h
    · rename_i k1 ks1 e1 e2
      cases h
      cases b with
      | nil => simp [nkey.nkeys] at h'
      | cons y ys =>
        unfold nkey.nkeys at h'
        split at h'
        · rename_i k2 ks2 f1 f2
          cases h'
          rw [nkey_inj e1 f1, nkeys_inj e2 f2]
        · cases h'
    · cases h
end
/-- a key, nested to depth n -/
def keyAt : Nat → D → Bool
  | _, .non => true
  | _, .int _ => true
  | _, .str _ => true
  | n + 1, .tup xs => xs.all (keyAt n)
  | _, _ => false
abbrev isKey (d : D) : Bool := keyAt 8 d
@[simp] theorem keyAt_non (n : Nat) : keyAt n .non = true := by cases n <;> rfl
@[simp] theorem keyAt_int (n : Nat) (i : Int) : keyAt n (.int i) = true := by cases n <;> rfl
@[simp] theorem keyAt_str (n : Nat) (i : Str) : keyAt n (.str i) = true := by cases n <;> rfl
@[simp] theorem keyAt_tup (n : Nat) (xs : List D) : keyAt (n + 1) (.tup xs) = xs.all (keyAt n) := rfl
theorem nkeys_of {n : Nat} {f : D → Bool} (h : ∀ d, f d = true → ∃ k, nkey d = some k ∧ k.depth ≤ n) : ∀ {xs : List D}, xs.all f = true → ∃ ks, nkey.nkeys xs = some ks ∧ NestedKey.depthAll ks ≤ n
  | [], _ => ⟨[], rfl, by simp [NestedKey.depthAll]⟩
  | x :: xs, hx => by
    simp only [List.all_cons, Bool.and_eq_true] at hx
    obtain ⟨k, e, d⟩ := h x hx.1
    obtain ⟨ks, e2, d2⟩ := nkeys_of h hx.2
    refine ⟨k :: ks, by simp [nkey.nkeys, e, e2], ?_⟩
    simp only [NestedKey.depthAll]
    omega
theorem nkey_of : ∀ {n : Nat} {d : D}, keyAt n d = true → ∃ k, nkey d = some k ∧ k.depth ≤ n
  | n, .non, _ => ⟨.none, rfl, by simp [NestedKey.depth]⟩
  | n, .int i, _ => ⟨.num i, rfl, by simp [NestedKey.depth]⟩
  | n, .str i, _ => ⟨.text i, rfl, by simp [NestedKey.depth]⟩
  | n + 1, .tup xs, h => by
    obtain ⟨ks, e, d⟩ := nkeys_of (n := n) (fun d h => nkey_of h) h
    exact ⟨.tup ks, by simp [nkey, e], by simp only [NestedKey.depth]; omega⟩
  | 0, .tup _, h => by simp [keyAt] at h
  | 0, .bl _, h => by simp [keyAt] at h
  | 0, .lst _, h => by simp [keyAt] at h
  | 0, .dic _, h => by simp [keyAt] at h
  | 0, .ins _ _, h => by simp [keyAt] at h
  | 0, .cls _, h => by simp [keyAt] at h
  | 0, .ty _, h => by simp [keyAt] at h
  | 0, .frl _, h => by simp [keyAt] at h
  | 0, .exn _ _, h => by simp [keyAt] at h
  | _ + 1, .bl _, h => by simp [keyAt] at h
  | _ + 1, .lst _, h => by simp [keyAt] at h
  | _ + 1, .dic _, h => by simp [keyAt] at h
  | _ + 1, .ins _ _, h => by simp [keyAt] at h
  | _ + 1, .cls _, h => by simp [keyAt] at h
  | _ + 1, .ty _, h => by simp [keyAt] at h
  | _ + 1, .frl _, h => by simp [keyAt] at h
  | _ + 1, .exn _ _, h => by simp [keyAt] at h
section
variable {X : Cx} {cl : Nat → Addr} {pins : List (Addr × Obj)} {σ : L2.St} {F : Addr → Prop} {H : Hp} {s : Shared}
mutual
theorem rep_key (I : Inv X pins σ H s) : ∀ {v : V} {d : D} {u : Value} {k : NestedKey}, Rep (bx X cl) F H v d → RelV v u → nkey d = some k → NestedIs s.heap k u
  | _, _, u, k, .non, r, e => by simp [nkey] at e; subst e; cases r; exact .none
  | _, _, u, k, .int i, r, e => by simp [nkey] at e; subst e; obtain ⟨t, rfl⟩ := r; exact .int i t
  | _, _, u, k, .str i _, r, e => by simp [nkey] at e; subst e; obtain ⟨t, rfl⟩ := r; exact .text i t
  | _, _, u, k, .tup h rs, r, e => by
    simp only [nkey, Option.map_eq_some_iff] at e
    obtain ⟨ks, e1, rfl⟩ := e
    cases r
    obtain ⟨its, rv, ⟨o, ho, hc, n, hd⟩, hz⟩ := I.tuple (SqT.of h)
    exact .tup ho hc hd (by simpa using rep_keys I rs rv e1)
  | _, _, _, _, .bl _, _, e => by simp [nkey] at e
  | _, _, _, _, .lst _ _ _, _, e => by simp [nkey] at e
  | _, _, _, _, .frl _ _, _, e => by simp [nkey] at e
  | _, _, _, _, .dic _ _ _ _, _, e => by simp [nkey] at e
  | _, _, _, _, .ins _ _ _ _ _, _, e => by simp [nkey] at e
  | _, _, _, _, .cls _, _, e => by simp [nkey] at e
  | _, _, _, _, .ty _, _, e => by simp [nkey] at e
  | _, _, _, _, .exn _ _ _ _ _ _ _ _, _, e => by simp [nkey] at e
theorem rep_keys (I : Inv X pins σ H s) : ∀ {vs : List V} {ds : List D} {us : List Value} {ks : List NestedKey}, Reps (bx X cl) F H vs ds → Vals vs us → nkey.nkeys ds = some ks → NestedAll s.heap ks us
  | _, _, us, ks, .nil, r, e => by simp [nkey.nkeys] at e; subst e; cases r; exact .nil
  | _, _, us, ks, .cons a b, r, e => by
    cases r with
    | cons r1 r2 =>
      unfold nkey.nkeys at e
      split at e
      · rename_i k1 ks1 e1 e2
        cases e
        exact .cons (rep_key I a r1 e1) (rep_keys I b r2 e2)
      · cases e
end
end

/-! ### what a value is -/
/-- a list: by value, a cell -/
def asList (S : Sto) : U → Option (List U)
  | .v (.lst xs) => some (xs.map U.v)
  | .v (.frl xs) => some (xs.map U.v)
  | .r n => match S[n]? with
    | some (.lst xs) => some xs
    | _ => none
  | _ => none
def asSeq (S : Sto) : U → Option (List U)
  | .v (.lst xs) => some (xs.map U.v)
  | .v (.frl xs) => some (xs.map U.v)
  | .v (.tup xs) => some (xs.map U.v)
  | .r n => match S[n]? with
    | some (.lst xs) => some xs
    | some (.tpc xs) => some xs
    | _ => none
  | _ => none
section
variable {B : Bx} {ι : List Addr} {F : Addr → Prop} {H : Hp} {S : Sto} {v : V} {u : U}
theorem asList_ok {xs : List U} (r : Rel B ι F S H) (z : RepU B ι F H v u) (e : asList S u = some xs) : ∃ a vs, v = .ref a ∧ SqL B.K H a vs ∧ RepUs B ι F H vs xs := by
  cases z with
  | v z =>
    cases z with
    | lst f h rs => cases e; exact ⟨_, _, rfl, SqL.of h, reps_u rs⟩
    | frl h rs => cases e; exact ⟨_, _, rfl, h.sq, reps_u rs⟩
    | _ => cases e
  | @r n a h =>
    unfold asList at e
    simp only at e
    cases q : S[n]? with
    | none => rw [q] at e; cases e
    | some c =>
      rw [q] at e
      have ok := r.ok n a c h q
      cases c with
      | lst ys =>
        cases e
        obtain ⟨vs, h1, h2⟩ := ok
        exact ⟨a, vs, rfl, SqL.of h1, h2⟩
      | _ => cases e
theorem asSeq_ok {xs : List U} (r : Rel B ι F S H) (z : RepU B ι F H v u) (e : asSeq S u = some xs) : ∃ a vs, v = .ref a ∧ (SqL B.K H a vs ∨ SqT B.K H a vs) ∧ RepUs B ι F H vs xs := by
  cases z with
  | v z =>
    cases z with
    | lst f h rs => cases e; exact ⟨_, _, rfl, .inl (SqL.of h), reps_u rs⟩
    | frl h rs => cases e; exact ⟨_, _, rfl, .inl h.sq, reps_u rs⟩
    | tup h rs => cases e; exact ⟨_, _, rfl, .inr (SqT.of h), reps_u rs⟩
    | _ => cases e
  | @r n a h =>
    unfold asSeq at e
    simp only at e
    cases q : S[n]? with
    | none => rw [q] at e; cases e
    | some c =>
      rw [q] at e
      have ok := r.ok n a c h q
      cases c with
      | lst ys =>
        cases e
        obtain ⟨vs, h1, h2⟩ := ok
        exact ⟨a, vs, rfl, .inl (SqL.of h1), h2⟩
      | tpc ys =>
        cases e
        obtain ⟨vs, h1, h2⟩ := ok
        exact ⟨a, vs, rfl, .inr (SqT.of h1), h2⟩
      | _ => cases e
end

/-- a list that stands by itself (not the script) -/
def asLst (S : Sto) : U → Option (List U)
  | .v (.lst xs) => some (xs.map U.v)
  | .r n => match S[n]? with
    | some (.lst xs) => some xs
    | _ => none
  | _ => none
theorem asLst_ok {B : Bx} {ι : List Addr} {F : Addr → Prop} {H : Hp} {S : Sto} {v : V} {u : U} {xs : List U} (r : Rel B ι F S H) (z : RepU B ι F H v u) (e : asLst S u = some xs) : ∃ a vs, v = .ref a ∧ H a = some (.lst vs) ∧ RepUs B ι F H vs xs := by
  cases z with
  | v z =>
    cases z with
    | lst f h rs => cases e; exact ⟨_, _, rfl, h, reps_u rs⟩
    | _ => cases e
  | @r n a h =>
    unfold asLst at e
    simp only at e
    cases q : S[n]? with
    | none => rw [q] at e; cases e
    | some c =>
      rw [q] at e
      have ok := r.ok n a c h q
      cases c with
      | lst ys =>
        cases e
        obtain ⟨vs, h1, h2⟩ := ok
        exact ⟨a, vs, rfl, h1, h2⟩
      | _ => cases e

/-! ### numbers -/
def fI (g : Int → Int → Option D) : F2 := fun x y S => match x, y with
  | .v (.int i), .v (.int j) => (g i j).map fun d => (.v d, S)
  | _, _ => none
section
variable {X : Cx} {cl : Nat → Addr}
theorem opI_ok {f : Value → Value → Sem Value} {r : R2} {g : Int → Int → Option D} (h : OpR X f r) (hg : ∀ i j d, g i j = some d → ∃ v : V, (∀ F H, Rep (bx X cl) F H v d) ∧ ∀ (H : Hp) (Q : VK), Q v H → r (.int i) (.int j) H Q) : OpR X f (liftOp (bx X cl) (fI g)) := by
  intro pins s σ H x y v u Q I rx ry ⟨ι, F, S, a, b, rl, za, zb, fi⟩
  refine h pins s σ H x y v u Q I rx ry ?_
  unfold fI at fi
  split at fi
  · rename_i i j
    cases za with
    | v za =>
      cases za
      cases zb with
      | v zb =>
        cases zb
        cases q : g i j with
        | none => rw [q] at fi; exact fi.no
        | some d =>
          rw [q] at fi
          obtain ⟨w, hw, hq⟩ := hg i j d q
          exact hq H Q (fi.val rl (.v (hw F H)))
  · exact fi.no
def gSub (i j : Int) : Option D := some (.int (i - j))
def okMul (i j : Int) : Prop := i.natAbs < 2 ^ 64 ∨ j.natAbs < 2 ^ 64
def okDiv (j : Int) : Prop := 0 < j ∧ j < 1073741824
def okPow (i j : Int) : Prop := 0 ≤ j ∧ j ≤ 1000 ∧ i.natAbs < 2 ^ 64
noncomputable instance (i j : Int) : Decidable (okMul i j) := Classical.propDecidable _
noncomputable instance (j : Int) : Decidable (okDiv j) := Classical.propDecidable _
noncomputable instance (i j : Int) : Decidable (okPow i j) := Classical.propDecidable _
noncomputable def gMul (i j : Int) : Option D := if okMul i j then some (.int (i * j)) else none
def gMod (i j : Int) : Option D := if 0 < j then some (.int (i % j)) else none
noncomputable def gDiv (i j : Int) : Option D := if okDiv j then some (.int (i / j)) else none
noncomputable def gPow (i j : Int) : Option D := if okPow i j then some (.int (i ^ j.toNat)) else none
theorem oq_sub : OpR X (binaryOp .Sub) (liftOp (bx X cl) (fI gSub)) := opI_ok op_sub fun i j d e => by
  cases e; exact ⟨_, fun _ _ => .int _, fun H Q q => ⟨i, j, rfl, rfl, q⟩⟩
theorem oq_mod : OpR X (binaryOp .Mod) (liftOp (bx X cl) (fI gMod)) := opI_ok op_mod fun i j d e => by
  unfold gMod at e
  split at e
  · rename_i h; cases e; exact ⟨_, fun _ _ => .int _, fun H Q q => ⟨i, j, rfl, rfl, h, q⟩⟩
  · cases e
theorem oq_div : OpR X (binaryOp .FloorDiv) (liftOp (bx X cl) (fI gDiv)) := opI_ok op_fdiv fun i j d e => by
  unfold gDiv at e
  split at e
  · rename_i h; cases e; exact ⟨_, fun _ _ => .int _, fun H Q q => ⟨i, j, rfl, rfl, h, q⟩⟩
  · cases e
theorem oq_mulI : OpR X (binaryOp .Mult) (liftOp (bx X cl) (fI gMul)) := opI_ok op_mul fun i j d e => by
  unfold gMul at e
  split at e
  · rename_i h
    cases e
    refine ⟨_, fun _ _ => .int _, fun H Q q => ⟨i, j, rfl, rfl, ?_, q⟩⟩
    rcases h with h | h
    · exact .inl ⟨by omega, by omega⟩
    · exact .inr ⟨by omega, by omega⟩
  · cases e
theorem oq_pow : OpR X (binaryOp .Pow) (liftOp (bx X cl) (fI gPow)) := opI_ok op_pow fun i j d e => by
  unfold gPow at e
  split at e
  · rename_i h; unfold okPow at h; cases e; exact ⟨_, fun _ _ => .int _, fun H Q q => ⟨i, j, rfl, rfl, ⟨h.1, by omega, h.2.2⟩, q⟩⟩
  · cases e
def gCmp (p : Int → Int → Bool) (i j : Int) : Option D := some (.bl (p i j))
theorem oq_leI : OpR X (compareOp .LtE) (liftOp (bx X cl) (fI (gCmp fun i j => decide (i ≤ j)))) := opI_ok op_le fun i j d e => by
  cases e; exact ⟨_, fun _ _ => .bl _, fun H Q q => ⟨i, j, rfl, rfl, q⟩⟩
theorem oq_gtI : OpR X (compareOp .Gt) (liftOp (bx X cl) (fI (gCmp fun i j => decide (j < i)))) := opI_ok op_gt fun i j d e => by
  cases e; exact ⟨_, fun _ _ => .bl _, fun H Q q => ⟨i, j, rfl, rfl, q⟩⟩
theorem oq_geI : OpR X (compareOp .GtE) (liftOp (bx X cl) (fI (gCmp fun i j => decide (j ≤ i)))) := opI_ok op_ge fun i j d e => by
  cases e; exact ⟨_, fun _ _ => .bl _, fun H Q q => ⟨i, j, rfl, rfl, q⟩⟩
theorem oq_ltI : OpR X (compareOp .Lt) (liftOp (bx X cl) (fI (gCmp fun i j => decide (i < j)))) := opI_ok op_lt fun i j d e => by
  cases e; exact ⟨_, fun _ _ => .bl _, fun H Q q => ⟨i, j, rfl, rfl, q⟩⟩
/-! ### + -/
/-- numbers, texts, tuples; two lists: a new one, by value -/
def fAdd : F2 := fun x y S => match x, y with
  | .v (.int i), .v (.int j) => some (.v (.int (i + j)), S)
  | .v (.str i), .v (.str j) => if i.length + j.length ≤ 100000 then some (.v (.str (i ++ j)), S) else none
  | .v (.tup xs), .v (.tup ys) => if xs.length + ys.length ≤ 100000 then some (.v (.tup (xs ++ ys)), S) else none
  | _, _ => match asLst S x, asLst S y with
    | some xs, some ys => if xs.length + ys.length ≤ 100000 then (allV (xs ++ ys)).map fun ds => (.v (.lst ds), S) else none
    | _, _ => none
theorem reps_append {B : Bx} {F : Addr → Prop} {H : Hp} {xs ys : List V} {as bs : List D} (h1 : Reps B F H xs as) (h2 : Reps B F H ys bs) : Reps B F H (xs ++ ys) (as ++ bs) := reps_iff.mpr (paired_append (reps_iff.mp h1) (reps_iff.mp h2))
theorem strOk_iff {x : Str} : PyData.strOk x = true ↔ ∀ c ∈ x.cps.toList, c < 0x110000 := by
  unfold PyData.strOk
  rw [Array.all_eq_true_iff_forall_mem]
  constructor
  · intro h c hc; exact of_decide_eq_true (h c (by simpa using hc))
  · intro h c hc; exact decide_eq_true (h c (by simpa using hc))
theorem strOk_app {x y : Str} (h1 : PyData.strOk x = true) (h2 : PyData.strOk y = true) : PyData.strOk (x ++ y) = true := by
  rw [strOk_iff] at *
  intro c hc
  have e : (x ++ y).cps.toList = x.cps.toList ++ y.cps.toList := by
    show (x.cps ++ y.cps).toList = _
    simp
  rw [e] at hc
  rcases List.mem_append.mp hc with h | h
  · exact h1 c h
  · exact h2 c h
theorem oq_add : OpR X (binaryOp .Add) (liftOp (bx X cl) fAdd) := by
  intro pins s σ H x y v u Q I rx ry ⟨ι, F, S, a, b, rl, za, zb, fi⟩
  unfold fAdd at fi
  split at fi
  · rename_i i j
    cases za with
    | v za =>
      cases za
      cases zb with
      | v zb =>
        cases zb
        exact op_add pins s σ H _ _ v u Q I rx ry ⟨i, j, rfl, rfl, fi.val rl (.v (.int _))⟩
  · rename_i i j
    split at fi
    · rename_i hl
      cases za with
      | v za =>
        cases za with
        | str _ h1 =>
        cases zb with
        | v zb =>
          cases zb with
          | str _ h2 =>
          exact op_add_str pins s σ H _ _ v u Q I rx ry ⟨i, j, rfl, rfl, sz hl, fi.val rl (.v (.str _ (strOk_app h1 h2)))⟩
    · exact fi.no
  · rename_i xs ys
    split at fi
    · rename_i hl
      cases za with
      | v za =>
        cases za with
        | tup ha ra =>
          cases zb with
          | v zb =>
            cases zb with
            | tup hb rb =>
              have la := paired_len (reps_iff.mp ra)
              have lb := paired_len (reps_iff.mp rb)
              refine op_catA pins s σ H _ _ v u Q I rx ry ⟨_, _, _, _, rfl, rfl, SqT.of ha, SqT.of hb, sz (by omega), fun e => ?_, fun _ e => ?_, fun _ _ p hp => ?_⟩
              · subst e
                cases ra
                exact fi.val rl (.v (.tup hb (by simpa using rb)))
              · subst e
                cases rb
                exact fi.val rl (.v (.tup ha (by simpa using ra)))
              · exact fi.go (Evo.new hp) (rl.new hp) (.v (.tup upd_same ((reps_append ra rb).mono (ι := ι) (ι' := ι) (Evo.new hp))))
    · exact fi.no
  · cases qa : asLst S a with
    | none => rw [qa] at fi; exact fi.no
    | some xs =>
      cases qb : asLst S b with
      | none => rw [qa, qb] at fi; exact fi.no
      | some ys =>
        rw [qa, qb] at fi
        simp only at fi
        split at fi
        · rename_i hl
          obtain ⟨p, vs, rfl, hp, rp⟩ := asLst_ok rl za qa
          obtain ⟨q, ws, rfl, hq, rq⟩ := asLst_ok rl zb qb
          have la := paired_len rp
          have lb := paired_len rq
          cases qv : allV (xs ++ ys) with
          | none => rw [qv] at fi; exact fi.no
          | some ds =>
            rw [qv] at fi
            have rr : RepUs (bx X cl) ι F H (vs ++ ws) (xs ++ ys) := paired_append rp rq
            rw [allV_some qv] at rr
            exact op_cat pins s σ H _ _ v u Q I rx ry ⟨p, q, vs, ws, rfl, rfl, hp, hq, sz (by omega), fun z hz => fi.go (Evo.newF hz) (rl.newF hz) (.v (.lst (.inr rfl) upd_same ((repus_reps rr).mono (ι := ι) (ι' := ι) (Evo.newF hz))))⟩
        · exact fi.no
end
end Pu
/-! Pu: equality, membership, len, items, slices, methods of lists and texts, isinstance. -/
namespace Pu
open PySem L2

/-! ### data that are compared -/
mutual
def pyOf : D → Option PyData
  | .non => some .none
  | .int i => some (.int i)
  | .str x => some (.str x)
  | .tup xs => (pysOf xs).map .tuple
  | .lst xs => (pysOf xs).map .list
  | .bl _ => none
  | .dic _ => none
  | .ins _ _ => none
  | .cls _ => none
  | .ty _ => none
  | .frl _ => none
  | .exn _ _ => none
def pysOf : List D → Option (List PyData)
  | [] => some []
  | x :: xs => match pyOf x, pysOf xs with
    | some p, some ps => some (p :: ps)
    | _, _ => none
end
theorem pys_cons {x : D} {xs : List D} {ps : List PyData} (h : pysOf (x :: xs) = some ps) : ∃ p qs, ps = p :: qs ∧ pyOf x = some p ∧ pysOf xs = some qs := by
  unfold pysOf at h
  split at h
  · rename_i p qs h1 h2
    cases h
    exact ⟨p, qs, rfl, h1, h2⟩
  · cases h
mutual
theorem py_inj : ∀ {a b : D} {p : PyData}, pyOf a = some p → pyOf b = some p → a = b
  | .non, b, p, h, h' => by simp [pyOf] at h; subst h; cases b <;> simp [pyOf] at h' <;> rfl
  | .int i, b, p, h, h' => by simp [pyOf] at h; subst h; cases b <;> simp [pyOf] at h'; rw [h']
  | .str i, b, p, h, h' => by simp [pyOf] at h; subst h; cases b <;> simp [pyOf] at h'; rw [h']
  | .tup xs, b, p, h, h' => by
    simp only [pyOf, Option.map_eq_some_iff] at h
    obtain ⟨ps, h1, rfl⟩ := h
    cases b <;> simp [pyOf] at h'
    rw [pys_inj h1 h']
  | .lst xs, b, p, h, h' => by
    simp only [pyOf, Option.map_eq_some_iff] at h
    obtain ⟨ps, h1, rfl⟩ := h
    cases b <;> simp [pyOf] at h'
    rw [pys_inj h1 h']
  | .bl _, _, _, h, _ => by simp [pyOf] at h
  | .dic _, _, _, h, _ => by simp [pyOf] at h
  | .ins _ _, _, _, h, _ => by simp [pyOf] at h
  | .cls _, _, _, h, _ => by simp [pyOf] at h
  | .ty _, _, _, h, _ => by simp [pyOf] at h
  | .frl _, _, _, h, _ => by simp [pyOf] at h
  | .exn _ _, _, _, h, _ => by simp [pyOf] at h
theorem pys_inj : ∀ {a b : List D} {p : List PyData}, pysOf a = some p → pysOf b = some p → a = b
  | [], b, p, h, h' => by
    simp [pysOf] at h; subst h
    cases b with
    | nil => rfl
    | cons y ys => obtain ⟨_, _, e, _⟩ := pys_cons h'; cases e
  | x :: xs, b, p, h, h' => by
    obtain ⟨q, qs, rfl, h1, h2⟩ := pys_cons h
    cases b with
    | nil => simp [pysOf] at h'
    | cons y ys =>
      obtain ⟨q', qs', e, h3, h4⟩ := pys_cons h'
      cases e
      rw [py_inj h1 h3, pys_inj h2 h4]
end
theorem py_form {b : D} {q : PyData} (h : pyOf b = some q) : q = .none ∨ (∃ i, q = .int i) ∨ (∃ x, q = .str x) ∨ (∃ ys qs, pysOf ys = some qs ∧ q = .tuple qs ∧ b = .tup ys) ∨ ∃ ys qs, pysOf ys = some qs ∧ q = .list qs ∧ b = .lst ys := by
  cases b with
  | non => cases h; exact .inl rfl
  | int i => cases h; exact .inr (.inl ⟨i, rfl⟩)
  | str i => cases h; exact .inr (.inr (.inl ⟨i, rfl⟩))
  | tup ys =>
    obtain ⟨qs, h1, h2⟩ := Option.map_eq_some_iff.mp h
    exact .inr (.inr (.inr (.inl ⟨ys, qs, h1, h2.symm, rfl⟩)))
  | lst ys =>
    obtain ⟨qs, h1, h2⟩ := Option.map_eq_some_iff.mp h
    exact .inr (.inr (.inr (.inr ⟨ys, qs, h1, h2.symm, rfl⟩)))
  | _ => cases h
mutual
/-- without bools == is equality -/
theorem py_eqv : ∀ {a b : D} {p q : PyData}, pyOf a = some p → pyOf b = some q → (PyData.eqv p q = true ↔ p = q)
  | .non, b, p, q, h, h' => by
    simp [pyOf] at h; subst h
    rcases py_form h' with rfl | ⟨i, rfl⟩ | ⟨i, rfl⟩ | ⟨ys, qs, h2, rfl, rfl⟩ | ⟨ys, qs, h2, rfl, rfl⟩ <;> simp [PyData.eqv]
  | .int i, b, p, q, h, h' => by
    simp [pyOf] at h; subst h
    rcases py_form h' with rfl | ⟨i, rfl⟩ | ⟨i, rfl⟩ | ⟨ys, qs, h2, rfl, rfl⟩ | ⟨ys, qs, h2, rfl, rfl⟩ <;> simp [PyData.eqv]
  | .str i, b, p, q, h, h' => by
    simp [pyOf] at h; subst h
    rcases py_form h' with rfl | ⟨i, rfl⟩ | ⟨i, rfl⟩ | ⟨ys, qs, h2, rfl, rfl⟩ | ⟨ys, qs, h2, rfl, rfl⟩ <;> simp [PyData.eqv]
  | .tup xs, b, p, q, h, h' => by
    simp only [pyOf, Option.map_eq_some_iff] at h
    obtain ⟨ps, h1, rfl⟩ := h
    rcases py_form h' with rfl | ⟨i, rfl⟩ | ⟨i, rfl⟩ | ⟨ys, qs, h2, rfl, rfl⟩ | ⟨ys, qs, h2, rfl, rfl⟩ <;> simp [PyData.eqv]
    exact pys_eqv h1 h2
  | .lst xs, b, p, q, h, h' => by
    simp only [pyOf, Option.map_eq_some_iff] at h
    obtain ⟨ps, h1, rfl⟩ := h
    rcases py_form h' with rfl | ⟨i, rfl⟩ | ⟨i, rfl⟩ | ⟨ys, qs, h2, rfl, rfl⟩ | ⟨ys, qs, h2, rfl, rfl⟩ <;> simp [PyData.eqv]
    exact pys_eqv h1 h2
  | .bl _, _, _, _, h, _ => by simp [pyOf] at h
  | .dic _, _, _, _, h, _ => by simp [pyOf] at h
  | .ins _ _, _, _, _, h, _ => by simp [pyOf] at h
  | .cls _, _, _, _, h, _ => by simp [pyOf] at h
  | .ty _, _, _, _, h, _ => by simp [pyOf] at h
  | .frl _, _, _, _, h, _ => by simp [pyOf] at h
  | .exn _ _, _, _, _, h, _ => by simp [pyOf] at h
theorem pys_eqv : ∀ {a b : List D} {p q : List PyData}, pysOf a = some p → pysOf b = some q → (PyData.eqvAll p q = true ↔ p = q)
  | [], b, p, q, h, h' => by
    simp [pysOf] at h; subst h
    cases b with
    | nil => simp [pysOf] at h'; subst h'; simp [PyData.eqvAll]
    | cons y ys => obtain ⟨_, _, rfl, _⟩ := pys_cons h'; simp [PyData.eqvAll]
  | x :: xs, b, p, q, h, h' => by
    obtain ⟨r, rs, rfl, h1, h2⟩ := pys_cons h
    cases b with
    | nil => simp [pysOf] at h'; subst h'; simp [PyData.eqvAll]
    | cons y ys =>
      obtain ⟨q', qs', rfl, h3, h4⟩ := pys_cons h'
      simp [PyData.eqvAll, py_eqv h1 h3, pys_eqv h2 h4]
end
/-- data nested to depth n -/
def datAt : Nat → D → Bool
  | _, .non => true
  | _, .int _ => true
  | _, .str _ => true
  | n + 1, .tup xs => xs.all (datAt n)
  | n + 1, .lst xs => xs.all (datAt n)
  | _, _ => false
abbrev isDat (d : D) : Bool := datAt 20 d
@[simp] theorem datAt_non (n : Nat) : datAt n .non = true := by cases n <;> rfl
@[simp] theorem datAt_int (n : Nat) (i : Int) : datAt n (.int i) = true := by cases n <;> rfl
@[simp] theorem datAt_str (n : Nat) (i : Str) : datAt n (.str i) = true := by cases n <;> rfl
@[simp] theorem datAt_tup (n : Nat) (xs : List D) : datAt (n + 1) (.tup xs) = xs.all (datAt n) := rfl
@[simp] theorem datAt_lst (n : Nat) (xs : List D) : datAt (n + 1) (.lst xs) = xs.all (datAt n) := rfl
theorem pys_of {n : Nat} {f : D → Bool} (h : ∀ d, f d = true → ∃ k, pyOf d = some k ∧ k.depth ≤ n) : ∀ {xs : List D}, xs.all f = true → ∃ ks, pysOf xs = some ks ∧ PyData.depthAll ks ≤ n
  | [], _ => ⟨[], rfl, by simp [PyData.depthAll]⟩
  | x :: xs, hx => by
    simp only [List.all_cons, Bool.and_eq_true] at hx
    obtain ⟨k, e, d⟩ := h x hx.1
    obtain ⟨ks, e2, d2⟩ := pys_of h hx.2
    refine ⟨k :: ks, by simp [pysOf, e, e2], ?_⟩
    simp only [PyData.depthAll]
    omega
theorem py_of : ∀ {n : Nat} {d : D}, datAt n d = true → ∃ k, pyOf d = some k ∧ k.depth ≤ n
  | n, .non, _ => ⟨.none, rfl, by simp [PyData.depth]⟩
  | n, .int i, _ => ⟨.int i, rfl, by simp [PyData.depth]⟩
  | n, .str i, _ => ⟨.str i, rfl, by simp [PyData.depth]⟩
  | n + 1, .tup xs, h => by
    obtain ⟨ks, e, d⟩ := pys_of (n := n) (fun d h => py_of h) h
    exact ⟨.tuple ks, by simp [pyOf, e], by simp only [PyData.depth]; omega⟩
  | n + 1, .lst xs, h => by
    obtain ⟨ks, e, d⟩ := pys_of (n := n) (fun d h => py_of h) h
    exact ⟨.list ks, by simp [pyOf, e], by simp only [PyData.depth]; omega⟩
  | 0, .tup _, h => by simp [datAt] at h
  | 0, .lst _, h => by simp [datAt] at h
  | n, .bl _, h => by cases n <;> simp [datAt] at h
  | n, .dic _, h => by cases n <;> simp [datAt] at h
  | n, .ins _ _, h => by cases n <;> simp [datAt] at h
  | n, .cls _, h => by cases n <;> simp [datAt] at h
  | n, .ty _, h => by cases n <;> simp [datAt] at h
  | n, .frl _, h => by cases n <;> simp [datAt] at h
  | n, .exn _ _, h => by cases n <;> simp [datAt] at h
section
variable {B : Bx} {F : Addr → Prop} {H : Hp}
mutual
theorem rep_dp : ∀ {v : V} {d : D} {p : PyData}, Rep B F H v d → pyOf d = some p → Dp B.K H v p ∧ p.canLay0 = true
  | _, _, p, .non, e => by simp [pyOf] at e; subst e; exact ⟨.non, rfl⟩
  | _, _, p, .int i, e => by simp [pyOf] at e; subst e; exact ⟨.int i, rfl⟩
  | _, _, p, .str i h, e => by simp [pyOf] at e; subst e; exact ⟨.str i, h⟩
  | _, _, p, .tup h rs, e => by
    simp only [pyOf, Option.map_eq_some_iff] at e
    obtain ⟨ps, e1, rfl⟩ := e
    obtain ⟨h1, h2⟩ := reps_dp rs e1
    exact ⟨.tup (SqT.of h) h1, h2⟩
  | _, _, p, .lst _ h rs, e => by
    simp only [pyOf, Option.map_eq_some_iff] at e
    obtain ⟨ps, e1, rfl⟩ := e
    obtain ⟨h1, h2⟩ := reps_dp rs e1
    exact ⟨.lst (SqL.of h) h1, h2⟩
  | _, _, _, .bl _, e => by simp [pyOf] at e
  | _, _, _, .frl _ _, e => by simp [pyOf] at e
  | _, _, _, .exn _ _ _ _ _ _ _ _, e => by simp [pyOf] at e
  | _, _, _, .dic _ _ _ _, e => by simp [pyOf] at e
  | _, _, _, .ins _ _ _ _ _, e => by simp [pyOf] at e
  | _, _, _, .cls _, e => by simp [pyOf] at e
  | _, _, _, .ty _, e => by simp [pyOf] at e
theorem reps_dp : ∀ {vs : List V} {ds : List D} {ps : List PyData}, Reps B F H vs ds → pysOf ds = some ps → DpAll B.K H vs ps ∧ PyData.canLayAll0 ps = true
  | _, _, p, .nil, e => by simp [pysOf] at e; subst e; exact ⟨.nil, rfl⟩
  | _, _, p, .cons a b, e => by
    obtain ⟨q, qs, rfl, e1, e2⟩ := pys_cons e
    obtain ⟨h1, h2⟩ := rep_dp a e1
    obtain ⟨h3, h4⟩ := reps_dp b e2
    exact ⟨.cons h1 h3, by simp [PyData.canLayAll0, h2, h4]⟩
end
end
/-! ### equality -/
noncomputable def eqD (a b : D) : Option Bool :=
  if isDat a = true ∧ isDat b = true then some (decide (a = b)) else
  match a, b with
  | .bl x, .bl y => some (decide (x = y))
  | _, _ => none
/-- a cell that is a list, as a value -/
def deL (S : Sto) : U → Option D
  | .v d => some d
  | .r n => match S[n]? with
    | some (.lst xs) => (allV xs).map D.lst
    | _ => none
noncomputable def fEq : F2 := fun x y S => match deL S x, deL S y with
  | some a, some b => (eqD a b).map fun k => (.v (.bl k), S)
  | _, _ => none
noncomputable def fNe : F2 := fun x y S => match deL S x, deL S y with
  | some a, some b => (eqD a b).map fun k => (.v (.bl (!k)), S)
  | _, _ => none
section
variable {X : Cx} {cl : Nat → Addr}
theorem deL_dp {B : Bx} {ι : List Addr} {F : Addr → Prop} {H : Hp} {S : Sto} {v : V} {u : U} {d : D} {p : PyData} (r : Rel B ι F S H) (z : RepU B ι F H v u) (e : deL S u = some d) (ep : pyOf d = some p) : Dp B.K H v p ∧ p.canLay0 = true := by
  cases z with
  | v z => cases e; exact rep_dp z ep
  | @r n a h =>
    unfold deL at e
    simp only at e
    cases q : S[n]? with
    | none => rw [q] at e; cases e
    | some c =>
      rw [q] at e
      have ok := r.ok n a c h q
      cases c with
      | lst ys =>
        obtain ⟨ds, e1, rfl⟩ := Option.map_eq_some_iff.mp e
        obtain ⟨vs, h1, h2⟩ := ok
        simp only [pyOf, Option.map_eq_some_iff] at ep
        obtain ⟨ps, e2, rfl⟩ := ep
        rw [allV_some e1] at h2
        obtain ⟨g1, g2⟩ := reps_dp (repus_reps h2) e2
        exact ⟨.lst (SqL.of h1) g1, g2⟩
      | _ => cases e
theorem eqD_ok {a b : D} {k : Bool} (h : eqD a b = some k) : (∃ p q, pyOf a = some p ∧ pyOf b = some q ∧ p.depth ≤ 64 ∧ q.depth ≤ 64 ∧ PyData.eqv p q = k) ∨ ∃ x y, a = .bl x ∧ b = .bl y ∧ k = decide (x = y) := by
  unfold eqD at h
  split at h
  · rename_i hx
    cases h
    obtain ⟨p, e1, d1⟩ := py_of hx.1
    obtain ⟨q, e2, d2⟩ := py_of hx.2
    refine .inl ⟨p, q, e1, e2, by omega, by omega, ?_⟩
    have hv := py_eqv e1 e2
    by_cases hab : a = b
    · subst hab
      rw [e1] at e2; cases e2
      simp only [decide_true]
      exact hv.mpr rfl
    · simp only [hab, decide_false]
      cases qv : PyData.eqv p q with
      | false => rfl
      | true => exact absurd (py_inj e1 (by rw [e2, hv.mp qv])) hab
  · split at h
    · rename_i x y _
      cases h
      exact .inr ⟨x, y, rfl, rfl, rfl⟩
    · cases h
theorem oq_eq (hu : X.A.units + 64 < cLine) : OpR X (compareOp .Eq) (liftOp (bx X cl) fEq) := by
  intro pins s σ H x y v u Q I rx ry ⟨ι, F, S, a, b, rl, za, zb, fi⟩
  unfold fEq at fi
  split at fi
  · rename_i d e q1 q2
    cases qe : eqD d e with
    | none => rw [qe] at fi; exact fi.no
    | some k =>
      rw [qe] at fi
      rcases eqD_ok qe with ⟨p, q, e1, e2, d1, d2, ek⟩ | ⟨p, q, rfl, rfl, rfl⟩
      · obtain ⟨h1, c1⟩ := deL_dp rl za q1 e1
        obtain ⟨h2, c2⟩ := deL_dp rl zb q2 e2
        exact op_eqD hu pins s σ H x y v u Q I rx ry ⟨p, q, h1, h2, by simp [SeqAt.shaped, c1, d1], by simp [SeqAt.shaped, c2, d2], by rw [ek]; exact fi.val rl (.v (.bl _))⟩
      · have e1 : a = .v (.bl p) := by
          cases a with
          | v _ => cases q1; rfl
          | r n =>
            unfold deL at q1; simp only at q1
            split at q1
            · obtain ⟨_, _, z⟩ := Option.map_eq_some_iff.mp q1; cases z
            · cases q1
        have e2 : b = .v (.bl q) := by
          cases b with
          | v _ => cases q2; rfl
          | r n =>
            unfold deL at q2; simp only at q2
            split at q2
            · obtain ⟨_, _, z⟩ := Option.map_eq_some_iff.mp q2; cases z
            · cases q2
        subst e1 e2
        cases za with
        | v za =>
          cases za
          cases zb with
          | v zb =>
            cases zb
            refine op_eq pins s σ H _ _ v u Q I rx ry ⟨rfl, ?_⟩
            have : decide ((V.bl p) = V.bl q) = decide (p = q) := by simp
            rw [this]
            exact fi.val rl (.v (.bl _))
  · exact fi.no
theorem oq_ne (hu : X.A.units + 64 < cLine) : OpR X (compareOp .NotEq) (liftOp (bx X cl) fNe) := by
  intro pins s σ H x y v u Q I rx ry ⟨ι, F, S, a, b, rl, za, zb, fi⟩
  unfold fNe at fi
  split at fi
  · rename_i d e q1 q2
    cases qe : eqD d e with
    | none => rw [qe] at fi; exact fi.no
    | some k =>
      rw [qe] at fi
      rcases eqD_ok qe with ⟨p, q, e1, e2, d1, d2, ek⟩ | ⟨p, q, rfl, rfl, rfl⟩
      · obtain ⟨h1, c1⟩ := deL_dp rl za q1 e1
        obtain ⟨h2, c2⟩ := deL_dp rl zb q2 e2
        exact op_neD hu pins s σ H x y v u Q I rx ry ⟨p, q, h1, h2, by simp [SeqAt.shaped, c1, d1], by simp [SeqAt.shaped, c2, d2], by rw [ek]; exact fi.val rl (.v (.bl _))⟩
      · have e1 : a = .v (.bl p) := by
          cases a with
          | v _ => cases q1; rfl
          | r n =>
            unfold deL at q1; simp only at q1
            split at q1
            · obtain ⟨_, _, z⟩ := Option.map_eq_some_iff.mp q1; cases z
            · cases q1
        have e2 : b = .v (.bl q) := by
          cases b with
          | v _ => cases q2; rfl
          | r n =>
            unfold deL at q2; simp only at q2
            split at q2
            · obtain ⟨_, _, z⟩ := Option.map_eq_some_iff.mp q2; cases z
            · cases q2
        subst e1 e2
        cases za with
        | v za =>
          cases za
          cases zb with
          | v zb =>
            cases zb
            refine op_ne pins s σ H _ _ v u Q I rx ry ⟨rfl, ?_⟩
            have : decide ((V.bl p) = V.bl q) = decide (p = q) := by simp
            rw [this]
            exact fi.val rl (.v (.bl _))
  · exact fi.no
end
end Pu
/-! Pu: membership, len, items, slices, methods of lists and texts. -/
namespace Pu
open PySem L2

/-! ### x in xs: a list or tuple of keys -/
noncomputable def inSeq (d : D) (xs : List U) : Option Bool := if isKey d = true then match allV xs with
  | some ds => if ds.all isKey = true then some (decide (d ∈ ds)) else none
  | none => none else none
section
variable {X : Cx} {cl : Nat → Addr}
open SeqAt
theorem in_ok {pins : List (Addr × Obj)} {σ : L2.St} {F : Addr → Prop} {H : Hp} {s : Shared} {x : V} {u : Value} {d : D} {ds : List D} {vs : List V} {its : List Value} (I : Inv X pins σ H s) (hu : X.A.units + 20 < cLine) (zx : Rep (bx X cl) F H x d) (rx : RelV x u) (kd : isKey d = true)
    (zs : Reps (bx X cl) F H vs ds) (rv : Vals vs its) (ks : ds.all isKey = true) : ∃ e : Value → Bool, (∀ y, y ∈ its.toArray → EqAt X.A.in1 s y u (e y)) ∧ (its.toArray.any e = true ↔ d ∈ ds) := by
  obtain ⟨k, ek, dk⟩ := nkey_of kd
  have hx := rep_key I zx rx ek
  classical
  refine ⟨fun y => decide (∃ k', NestedIs s.heap k' y ∧ k' = k), fun y hy => ?_, ?_⟩
  · have hy' : y ∈ its := by simpa using hy
    obtain ⟨j, hj⟩ := List.getElem?_of_mem hy'
    obtain ⟨v, hv, rvy⟩ := paired_get rv hj
    obtain ⟨dy, hdy, zy⟩ := paired_get' (reps_iff.mp zs) hv
    obtain ⟨ky, eky, dky⟩ := nkey_of (List.all_eq_true.mp ks dy (List.mem_of_getElem? hdy))
    have hyk := rep_key I zy rvy eky
    have hq := eqAt_key ky k X.A.in1 s y u hyk hx (by show X.A.units + 1 + min ky.depth k.depth < cLine; omega)
    have eb : NestedKey.beq ky k = decide (∃ k', NestedIs s.heap k' y ∧ k' = k) := by
      rw [← NestedKey.decide_eq]
      by_cases hkk : ky = k
      · rw [decide_eq_true hkk, decide_eq_true ⟨ky, hyk, hkk⟩]
      · rw [decide_eq_false hkk, decide_eq_false]
        rintro ⟨k', h1, h2⟩
        exact hkk ((NestedIs.inj _ _ _ hyk h1).trans h2)
    show EqAt _ _ _ _ (decide (∃ k', NestedIs s.heap k' y ∧ k' = k))
    rw [← eb]
    exact hq
  · simp only [List.any_toArray, List.any_eq_true, decide_eq_true_eq]
    constructor
    · rintro ⟨y, hy, k', h1, rfl⟩
      obtain ⟨j, hj⟩ := List.getElem?_of_mem hy
      obtain ⟨v, hv, rvy⟩ := paired_get rv hj
      obtain ⟨dy, hdy, zy⟩ := paired_get' (reps_iff.mp zs) hv
      have hm := List.mem_of_getElem? hdy
      obtain ⟨ky, eky, dky⟩ := nkey_of (List.all_eq_true.mp ks dy hm)
      have hyk := rep_key I zy rvy eky
      have := NestedIs.inj _ _ _ hyk h1
      subst this
      rw [nkey_inj ek eky]
      exact hm
    · intro hm
      obtain ⟨j, hj⟩ := List.getElem?_of_mem hm
      obtain ⟨v, hv, zy⟩ := paired_get (reps_iff.mp zs) hj
      obtain ⟨y, hy, rvy⟩ := paired_get' rv hv
      exact ⟨y, List.mem_of_getElem? hy, k, rep_key I zy rvy ek, rfl⟩
/-- a text's sign in a text -/
noncomputable def fIn (neg : Bool) : F2 := fun x y S => match x, y with
  | .v (.str ⟨⟨[c]⟩⟩), .v (.str z) => some (.v (.bl (cond neg (!decide (c ∈ z.cps.toList)) (decide (c ∈ z.cps.toList)))), S)
  | .v d, _ => match asSeq S y with
    | some xs => (inSeq d xs).map fun b => (.v (.bl (cond neg (!b) b)), S)
    | none => none
  | _, _ => none
theorem oq_in (hu : X.A.units + 20 < cLine) : OpR X (compareOp .In) (liftOp (bx X cl) (fIn false)) := by
  intro pins s σ H x y v u Q I rx ry ⟨ι, F, S, a, b, rl, za, zb, fi⟩
  unfold fIn at fi
  split at fi
  · rename_i c z
    cases za with
    | v za =>
      cases za with
      | str _ h1 =>
        cases zb with
        | v zb =>
          cases zb with
          | str _ h2 => exact op_in_sign pins s σ H _ _ v u Q I rx ry ⟨c, z, rfl, rfl, fi.val rl (.v (.bl _))⟩
  · rename_i d _
    cases qs : asSeq S b with
    | none => rw [qs] at fi; exact fi.no
    | some xs =>
      rw [qs] at fi
      simp only at fi
      cases qi : inSeq d xs with
      | none => rw [qi] at fi; exact fi.no
      | some k =>
        rw [qi] at fi
        unfold inSeq at qi
        split at qi
        · rename_i kd
          cases qa : allV xs with
          | none => rw [qa] at qi; cases qi
          | some ds =>
            rw [qa] at qi
            simp only at qi
            split at qi
            · rename_i ks
              cases qi
              cases za with
              | v za =>
                obtain ⟨p, vs, rfl, hp, zs⟩ := asSeq_ok rl zb qs
                rw [allV_some qa] at zs
                have zs' := repus_reps zs
                cases ry
                rcases hp with hp | hp
                · obtain ⟨its, rv, pl, _⟩ := I.list hp
                  obtain ⟨e, he, hb⟩ := in_ok I hu za rx kd zs' rv ks
                  refine in_listAt e pl.isList he ⟨.bl _, H, I, rfl, ?_⟩
                  have : its.toArray.any e = decide (d ∈ ds) := by
                    by_cases hm : d ∈ ds
                    · rw [hb.mpr hm, decide_eq_true hm]
                    · rw [decide_eq_false hm]
                      cases qq : its.toArray.any e with
                      | false => rfl
                      | true => exact absurd (hb.mp qq) hm
                  rw [this]
                  have z := fi.val rl (v := .bl (decide (d ∈ ds))) (.v (.bl _))
                  exact z
                · obtain ⟨its, rv, pl, _⟩ := I.tuple hp
                  obtain ⟨e, he, hb⟩ := in_ok I hu za rx kd zs' rv ks
                  refine in_tupleAt e (show s.heap.IsTuple _ _ from pl) he ⟨.bl _, H, I, rfl, ?_⟩
                  have : its.toArray.any e = decide (d ∈ ds) := by
                    by_cases hm : d ∈ ds
                    · rw [hb.mpr hm, decide_eq_true hm]
                    · rw [decide_eq_false hm]
                      cases qq : its.toArray.any e with
                      | false => rfl
                      | true => exact absurd (hb.mp qq) hm
                  rw [this]
                  have z := fi.val rl (v := .bl (decide (d ∈ ds))) (.v (.bl _))
                  exact z
            · cases qi
        · cases qi
  · exact fi.no
theorem oq_notin (hu : X.A.units + 20 < cLine) : OpR X (compareOp .NotIn) (liftOp (bx X cl) (fIn true)) := by
  intro pins s σ H x y v u Q I rx ry ⟨ι, F, S, a, b, rl, za, zb, fi⟩
  unfold fIn at fi
  split at fi
  · rename_i c z
    cases za with
    | v za =>
      cases za with
      | str _ h1 =>
        cases zb with
        | v zb =>
          cases zb with
          | str _ h2 =>
            refine op_notIn_sign pins s σ H _ _ v u Q I rx ry ⟨c, z, rfl, rfl, ?_⟩
            have z := fi.val rl (v := .bl (!decide (c ∈ z.cps.toList))) (.v (.bl _))
            exact z
  · rename_i d _
    cases qs : asSeq S b with
    | none => rw [qs] at fi; exact fi.no
    | some xs =>
      rw [qs] at fi
      simp only at fi
      cases qi : inSeq d xs with
      | none => rw [qi] at fi; exact fi.no
      | some k =>
        rw [qi] at fi
        unfold inSeq at qi
        split at qi
        · rename_i kd
          cases qa : allV xs with
          | none => rw [qa] at qi; cases qi
          | some ds =>
            rw [qa] at qi
            simp only at qi
            split at qi
            · rename_i ks
              cases qi
              cases za with
              | v za =>
                obtain ⟨p, vs, rfl, hp, zs⟩ := asSeq_ok rl zb qs
                rw [allV_some qa] at zs
                have zs' := repus_reps zs
                cases ry
                have z := fi.val rl (v := .bl (!decide (d ∈ ds))) (.v (.bl _))
                rcases hp with hp | hp
                · obtain ⟨its, rv, pl, _⟩ := I.list hp
                  obtain ⟨e, he, hb⟩ := in_ok I hu za rx kd zs' rv ks
                  refine notIn_listAt e pl.isList he ⟨.bl _, H, I, rfl, ?_⟩
                  have : its.toArray.any e = decide (d ∈ ds) := by
                    by_cases hm : d ∈ ds
                    · rw [hb.mpr hm, decide_eq_true hm]
                    · rw [decide_eq_false hm]
                      cases qq : its.toArray.any e with
                      | false => rfl
                      | true => exact absurd (hb.mp qq) hm
                  rw [this]
                  exact z
                · obtain ⟨its, rv, pl, _⟩ := I.tuple hp
                  obtain ⟨e, he, hb⟩ := in_ok I hu za rx kd zs' rv ks
                  refine notIn_tupleAt e (show s.heap.IsTuple _ _ from pl) he ⟨.bl _, H, I, rfl, ?_⟩
                  have : its.toArray.any e = decide (d ∈ ds) := by
                    by_cases hm : d ∈ ds
                    · rw [hb.mpr hm, decide_eq_true hm]
                    · rw [decide_eq_false hm]
                      cases qq : its.toArray.any e with
                      | false => rfl
                      | true => exact absurd (hb.mp qq) hm
                  rw [this]
                  exact z
            · cases qi
        · cases qi
  · exact fi.no
/-! ### is None -/
def fIsN (neg : Bool) : F2 := fun x y S => match y with
  | .v .non => (match x with
    | .v .non => some (.v (.bl (!neg)), S)
    | _ => some (.v (.bl neg), S))
  | _ => none
theorem repu_non {B : Bx} {ι : List Addr} {F : Addr → Prop} {H : Hp} {v : V} {u : U} (z : RepU B ι F H v u) : v = .non ↔ u = .v .non := by
  cases z with
  | v z => cases z <;> simp
  | r _ => simp
theorem oq_isN : OpR X (compareOp .Is) (liftOp (bx X cl) (fIsN false)) := by
  intro pins s σ H x y v u Q I rx ry ⟨ι, F, S, a, b, rl, za, zb, fi⟩
  unfold fIsN at fi
  split at fi
  · have hy : y = .non := (repu_non zb).mpr rfl
    subst hy
    refine op_isN pins s σ H _ _ v u Q I rx ry ⟨rfl, ?_⟩
    split at fi
    · have hx := (repu_non za).mpr rfl
      rw [decide_eq_true hx]
      exact fi.val rl (.v (.bl _))
    · rename_i hn
      have hx : ¬ x = .non := fun e => hn ((repu_non za).mp e)
      rw [decide_eq_false hx]
      exact fi.val rl (.v (.bl _))
  · exact fi.no
theorem oq_notN : OpR X (compareOp .IsNot) (liftOp (bx X cl) (fIsN true)) := by
  intro pins s σ H x y v u Q I rx ry ⟨ι, F, S, a, b, rl, za, zb, fi⟩
  unfold fIsN at fi
  split at fi
  · have hy : y = .non := (repu_non zb).mpr rfl
    subst hy
    refine op_notN pins s σ H _ _ v u Q I rx ry ⟨rfl, ?_⟩
    split at fi
    · have hx := (repu_non za).mpr rfl
      rw [decide_eq_true hx]
      exact fi.val rl (.v (.bl _))
    · rename_i hn
      have hx : ¬ x = .non := fun e => hn ((repu_non za).mp e)
      rw [decide_eq_false hx]
      exact fi.val rl (.v (.bl _))
  · exact fi.no
/-! ### len, int, list, tuple -/
def fLen : FA := fun us S => match us with
  | [.v (.str z)] => if z.length ≤ 100000 then some (.v (.int z.length), S) else none
  | [u] => (asSeq S u).map fun xs => (.v (.int xs.length), S)
  | _ => none
theorem cq_len : CallR X (.builtin "len") (liftC (bx X cl) fLen) := by
  intro pins s σ H xs us Q I rv ⟨ι, F, S, as, rl, zs, fi⟩
  unfold fLen at fi
  split at fi
  · rename_i z
    split at fi
    · rename_i hl
      cases zs with
      | cons z1 z2 =>
        cases z2
        cases z1 with
        | v z1 =>
          cases z1 with
          | str _ h1 => exact call_len_str pins s σ H _ us Q I rv ⟨z, rfl, sz hl, fi.val rl (.v (.int _))⟩
    · exact fi.no
  · rename_i u _
    cases q : asSeq S u with
    | none => rw [q] at fi; exact fi.no
    | some ys =>
      rw [q] at fi
      cases zs with
      | cons z1 z2 =>
        cases z2
        obtain ⟨p, vs, rfl, hp, zz⟩ := asSeq_ok rl z1 q
        refine call_len_seq pins s σ H _ us Q I rv ⟨p, vs, rfl, hp, ?_⟩
        rw [paired_len zz]
        exact fi.val rl (.v (.int _))
  · exact fi.no
def fInt : FA := fun us S => match us with
  | [.v (.int i)] => some (.v (.int i), S)
  | [.v (.bl k)] => some (.v (.int (if k then 1 else 0)), S)
  | _ => none
theorem cq_int : CallR X (.type "int") (liftC (bx X cl) fInt) := by
  intro pins s σ H xs us Q I rv ⟨ι, F, S, as, rl, zs, fi⟩
  unfold fInt at fi
  split at fi
  · rename_i i
    cases zs with
    | cons z1 z2 =>
      cases z2
      cases z1 with
      | v z1 => cases z1; exact call_int1 pins s σ H _ us Q I rv (.inl ⟨i, rfl, fi.val rl (.v (.int _))⟩)
  · rename_i k
    cases zs with
    | cons z1 z2 =>
      cases z2
      cases z1 with
      | v z1 => cases z1; exact call_int1 pins s σ H _ us Q I rv (.inr ⟨k, rfl, fi.val rl (.v (.int _))⟩)
  · exact fi.no
/-- str(x) of a text -/
def fStr : FA := fun us S => match us with
  | [.v (.str i)] => some (.v (.str i), S)
  | _ => none
theorem cq_str : CallR X (.type "str") (liftC (bx X cl) fStr) := by
  intro pins s σ H xs us Q I rv ⟨ι, F, S, as, rl, zs, fi⟩
  unfold fStr at fi
  split at fi
  · rename_i i
    cases zs with
    | cons z1 z2 =>
      cases z2
      cases z1 with
      | v z1 =>
        cases z1 with
        | str _ h => exact SkE.call_str_str pins s σ H _ us Q I rv ⟨i, rfl, fi.val rl (.v (.str _ h))⟩
  · exact fi.no
/-- list(xs): by value; a cell -/
def fListV : FA := fun us S => match us with
  | [u] => match asSeq S u with
    | some xs => (allV xs).map fun ds => (.v (.lst ds), S)
    | none => none
  | _ => none
def fListS : FA := fun us S => match us with
  | [u] => (asSeq S u).map fun xs => (.r S.length, S ++ [.lst xs])
  | _ => none
theorem cq_listV : CallR X (.type "list") (liftC (bx X cl) fListV) := by
  intro pins s σ H xs us Q I rv ⟨ι, F, S, as, rl, zs, fi⟩
  unfold fListV at fi
  split at fi
  · rename_i u
    cases q : asSeq S u with
    | none => rw [q] at fi; exact fi.no
    | some ys =>
      rw [q] at fi
      simp only at fi
      cases qa : allV ys with
      | none => rw [qa] at fi; exact fi.no
      | some ds =>
        rw [qa] at fi
        cases zs with
        | cons z1 z2 =>
          cases z2
          obtain ⟨p, vs, rfl, hp, zz⟩ := asSeq_ok rl z1 q
          rw [allV_some qa] at zz
          exact call_list_of pins s σ H _ us Q I rv ⟨p, vs, rfl, hp, fun l hl => fi.go (Evo.newF hl) (rl.newF hl) (.v (.lst (.inr rfl) upd_same ((repus_reps zz).mono (ι := ι) (ι' := ι) (Evo.newF hl))))⟩
  · exact fi.no
theorem cq_listS : CallR X (.type "list") (liftC (bx X cl) fListS) := by
  intro pins s σ H xs us Q I rv ⟨ι, F, S, as, rl, zs, fi⟩
  unfold fListS at fi
  split at fi
  · rename_i u
    cases q : asSeq S u with
    | none => rw [q] at fi; exact fi.no
    | some ys =>
      rw [q] at fi
      cases zs with
      | cons z1 z2 =>
        cases z2
        obtain ⟨p, vs, rfl, hp, zz⟩ := asSeq_ok rl z1 q
        refine call_list_of pins s σ H _ us Q I rv ⟨p, vs, rfl, hp, fun l hl => ?_⟩
        have e2 : Evo ι F H (ι ++ [l]) F (upd H l (.lst vs)) := Evo.newS hl
        exact fi.go e2 (rl.newS hl nofun ⟨vs, upd_same, zz.mono e2⟩) (.r (by rw [← rl.len]; simp))
  · exact fi.no
def fTuple : FA := fun us S => match us with
  | [u] => match asSeq S u with
    | some xs => (allV xs).map fun ds => (.v (.tup ds), S)
    | none => none
  | _ => none
theorem cq_tuple : CallR X (.type "tuple") (liftC (bx X cl) fTuple) := by
  intro pins s σ H xs us Q I rv ⟨ι, F, S, as, rl, zs, fi⟩
  unfold fTuple at fi
  split at fi
  · rename_i u
    cases q : asSeq S u with
    | none => rw [q] at fi; exact fi.no
    | some ys =>
      rw [q] at fi
      simp only at fi
      cases qa : allV ys with
      | none => rw [qa] at fi; exact fi.no
      | some ds =>
        rw [qa] at fi
        cases zs with
        | cons z1 z2 =>
          cases z2
          have key : ∃ p vs, ‹V› = .ref p ∧ (SqL X.K H p vs ∨ H p = some (.tup vs)) ∧ RepUs (bx X cl) ι F H vs ys := by
            cases z1 with
            | v z =>
              cases z with
              | lst f h rs => cases q; exact ⟨_, _, rfl, .inl (SqL.of h), reps_u rs⟩
              | frl h rs => cases q; exact ⟨_, _, rfl, .inl h.sq, reps_u rs⟩
              | tup h rs => cases q; exact ⟨_, _, rfl, .inr h, reps_u rs⟩
              | _ => cases q
            | @r n a h =>
              unfold asSeq at q
              simp only at q
              cases qq : S[n]? with
              | none => rw [qq] at q; cases q
              | some c =>
                rw [qq] at q
                have ok := rl.ok n a c h qq
                cases c with
                | lst ys =>
                  cases q
                  obtain ⟨vs, h1, h2⟩ := ok
                  exact ⟨a, vs, rfl, .inl (SqL.of h1), h2⟩
                | tpc ys =>
                  cases q
                  obtain ⟨vs, h1, h2⟩ := ok
                  exact ⟨a, vs, rfl, .inr h1, h2⟩
                | _ => cases q
          obtain ⟨p, vs, rfl, hp, zz⟩ := key
          rw [allV_some qa] at zz
          refine call_tuple_of pins s σ H _ us Q I rv ⟨p, vs, rfl, ?_⟩
          rcases hp with hp | hp
          · exact .inl ⟨hp, fun l hl => fi.go (Evo.new hl) (rl.new hl) (.v (.tup upd_same ((repus_reps zz).mono (ι := ι) (ι' := ι) (Evo.new hl))))⟩
          · exact .inr ⟨SqT.of hp, fi.val rl (.v (.tup hp (repus_reps zz)))⟩
  · exact fi.no
end
end Pu
/-! Pu: items, slices, methods of lists and texts, what a loop walks, isinstance. -/
namespace Pu
open PySem L2

/-! ### items -/
def fIx : F2 := fun x y S => match x, y with
  | .v (.str z), .v (.int i) => if z.length ≤ 100000 then (atI z.cps.toList i).map fun c => (.v (.str ⟨#[c]⟩), S) else none
  | _, .v (.int i) => match asSeq S x with
    | some xs => (atI xs i).map fun u => (u, S)
    | none => none
  | _, _ => none
theorem atI_paired {α β : Type} {P : α → β → Prop} {xs : List α} {ys : List β} {i : Int} {y : β} (h : Paired P xs ys) (e : atI ys i = some y) : ∃ x, atI xs i = some x ∧ P x y := by
  unfold atI at e ⊢
  rw [paired_len h]
  cases q : ixN ys.length i with
  | none => rw [q] at e; cases e
  | some j =>
    rw [q] at e
    obtain ⟨x, h1, h2⟩ := paired_get h (show ys[j]? = some y from e)
    exact ⟨x, h1, h2⟩
theorem atI_mem {α : Type} {xs : List α} {i : Int} {x : α} (e : atI xs i = some x) : x ∈ xs := by
  unfold atI at e
  cases q : ixN xs.length i with
  | none => rw [q] at e; cases e
  | some j => rw [q] at e; exact List.mem_of_getElem? (show xs[j]? = some x from e)
section
variable {X : Cx} {cl : Nat → Addr} {W : WX}
theorem strOk_one {z : Str} {c : Nat} (h : PyData.strOk z = true) (hc : c ∈ z.cps.toList) : PyData.strOk ⟨#[c]⟩ = true := by
  rw [strOk_iff] at *
  intro d hd
  have : d = c := by simpa using hd
  subst this
  exact h d hc
theorem xq_ix : IxR X (liftOp (bx X cl) fIx) := by
  intro value slice pins s σ H x y v u Q I rx ry ⟨ι, F, S, a, b, rl, za, zb, fi⟩ hs
  unfold fIx at fi
  split at fi
  · rename_i z i
    split at fi
    · rename_i hl
      cases za with
      | v za =>
        cases za with
        | str _ h1 =>
          cases zb with
          | v zb =>
            cases zb
            cases q : atI z.cps.toList i with
            | none => rw [q] at fi; exact fi.no
            | some c =>
              rw [q] at fi
              exact ix_str value slice pins s σ H _ _ v u Q I rx ry ⟨z, i, c, rfl, rfl, sz hl, q, fi.val rl (.v (.str _ (strOk_one h1 (atI_mem q))))⟩ hs
    · exact fi.no
  · rename_i i _
    cases zb with
    | v zb =>
      cases zb
      cases q : asSeq S a with
      | none => rw [q] at fi; exact fi.no
      | some xs =>
        rw [q] at fi
        simp only at fi
        cases qi : atI xs i with
        | none => rw [qi] at fi; exact fi.no
        | some w =>
          rw [qi] at fi
          obtain ⟨p, vs, rfl, hp, zz⟩ := asSeq_ok rl za q
          obtain ⟨xv, h1, h2⟩ := atI_paired zz qi
          rcases hp with hp | hp
          · exact ix_list value slice pins s σ H _ _ v u Q I rx ry ⟨p, vs, i, xv, rfl, rfl, hp, h1, fi.val rl h2⟩ hs
          · exact ix_tup value slice pins s σ H _ _ v u Q I rx ry ⟨p, vs, i, xv, rfl, rfl, hp, h1, fi.val rl h2⟩ hs
  · exact fi.no
end
/-! ### slices -/
abbrev MO := Env' → Sto → R (Option Int)
def oNone : MO := fun _ S => .ok none S
def oSome (m : ME) : MO := fun ρ S => (m ρ S).bind fun u S1 => match u with
  | .v (.int i) => .ok (some i) S1
  | _ => .er
def cutU {α : Type} (xs : List α) (lo hi : Option Int) : List α := (xs.drop (HT.sIx xs.length 0 lo)).take (HT.sIx xs.length xs.length hi - HT.sIx xs.length 0 lo)
theorem cut_paired {α β : Type} {P : α → β → Prop} {xs : List α} {ys : List β} (lo hi : Option Int) (h : Paired P xs ys) : Paired P (cutU xs lo hi) (cutU ys lo hi) := by
  unfold cutU
  rw [paired_len h]
  exact paired_take _ (paired_drop _ h)
/-- a slice: of a text, of a tuple, of a list (a new one, by value) -/
def fSl : U → Option Int → Option Int → Sto → Option (U × Sto) := fun x lo hi S => match x with
  | .v (.str z) => if z.length ≤ 100000 then some (.v (.str (cutS z lo hi)), S) else none
  | .v (.tup xs) => some (.v (.tup (cutU xs lo hi)), S)
  | _ => match asList S x with
    | some xs => (allV (cutU xs lo hi)).map fun ds => (.v (.lst ds), S)
    | none => none
def eSl (f : U → Option Int → Option Int → Sto → Option (U × Sto)) (m : ME) (lo hi : MO) : ME := fun ρ S => (m ρ S).bind fun x S1 => (lo ρ S1).bind fun l S2 => (hi ρ S2).bind fun h S3 => ofO (f x l h S3)
def liftO (B : Bx) (W : WX) (m : MO) : TO := fun σ H Q => ∃ ι F S ρ, Rel B ι F S H ∧ REnv B ι F H σ ρ ∧ Out B W σ ι F H (fun _ _ _ b c => b = c) Q (m ρ S)
def QO (X : Cx) (cl : Nat → Addr) (W : WX) (e : Option Expr) (m : MO) : Prop := PO X e (liftO (bx X cl) W m)
theorem PO.imp {X : Cx} {e : Option Expr} {t t' : TO} (h : PO X e t) (k : ∀ σ H Q, t' σ H Q → t σ H Q) : PO X e t' := ⟨fun pins s σ H Q I hq => h.run pins s σ H Q I (k σ H Q hq)⟩
section
variable {X : Cx} {cl : Nat → Addr} {W : WX} {e : Expr} {lo hi : Option Expr} {m : ME} {mlo mhi : MO} {pos p2 : Pos}
theorem qo_none : QO X cl W none oNone := PO.imp po_none fun σ H Q ⟨ι, F, S, ρ, r, en, o⟩ => o none ι F H Evo.refl r rfl
theorem qo_some (h : QE X cl W e m) : QO X cl W (some e) (oSome m) := PO.imp (po_some h) fun σ H Q ⟨ι, F, S, ρ, r, en, o⟩ => ⟨ι, F, S, ρ, r, en, o.bind.mono fun x H1 ⟨ι1, F1, S1, x', e1, r1, z1, o1⟩ => by
  split at o1
  · rename_i i
    cases z1 with
    | v z1 => cases z1; exact ⟨i, rfl, o1 _ ι1 F1 H1 Evo.refl r1 rfl⟩
  · exact o1.elim⟩
theorem strOk_cut {z : Str} {l h : Option Int} (hz : PyData.strOk z = true) : PyData.strOk (cutS z l h) = true := by
  rw [strOk_iff] at *
  intro c hc
  unfold cutS at hc
  exact hz c (List.mem_of_mem_drop (List.mem_of_mem_take (by simpa using hc)))
def rSlQ (B : Bx) (f : U → Option Int → Option Int → Sto → Option (U × Sto)) : V → Option Int → Option Int → Hp → VK → Prop := fun x l h H Q => ∃ ι F S a, Rel B ι F S H ∧ RepU B ι F H x a ∧ Fin B ι F H Q (f a l h S)
theorem sq_sl : SlR X (rSlQ (bx X cl) fSl) := by
  intro pins s σ H x v vl vu l h sl Q I rx hs pl pu ⟨ι, F, S, a, rl, za, fi⟩
  unfold fSl at fi
  split at fi
  · rename_i z
    split at fi
    · rename_i hl
      cases za with
      | v za =>
        cases za with
        | str _ h1 => exact sl_str pins s σ H _ v vl vu l h sl Q I rx hs pl pu ⟨z, rfl, sz hl, fi.val rl (.v (.str _ (strOk_cut h1)))⟩
    · exact fi.no
  · rename_i xs
    cases za with
    | v za =>
      cases za with
      | tup ha ra =>
        have hc := cut_paired l h (reps_iff.mp ra)
        have ll := paired_len (reps_iff.mp ra)
        refine sl_tupA pins s σ H _ v vl vu l h sl Q I rx hs pl pu ⟨_, _, rfl, SqT.of ha, fun hw => ?_, fun hw p hp => ?_⟩
        · have e : cutU xs l h = xs := by
            unfold cutU
            rw [← ll, hw.1, hw.2]
            simp [ll]
          rw [e] at fi
          exact fi.val rl (.v (.tup ha ra))
        · exact fi.go (Evo.new hp) (rl.new hp) (.v (.tup upd_same ((reps_iff.mpr hc).mono (ι := ι) (ι' := ι) (Evo.new hp))))
  · cases q : asList S a with
    | none => rw [q] at fi; exact fi.no
    | some xs =>
      rw [q] at fi
      simp only at fi
      cases qa : allV (cutU xs l h) with
      | none => rw [qa] at fi; exact fi.no
      | some ds =>
        rw [qa] at fi
        obtain ⟨p, vs, rfl, hp, zz⟩ := asList_ok rl za q
        have hc := cut_paired l h zz
        rw [allV_some qa] at hc
        exact sl_list pins s σ H _ v vl vu l h sl Q I rx hs pl pu ⟨p, vs, rfl, hp, fun z hz => fi.go (Evo.newF hz) (rl.newF hz) (.v (.lst (.inr rfl) upd_same ((repus_reps hc).mono (ι := ι) (ι' := ι) (Evo.newF hz))))⟩
theorem qe_slice {f : U → Option Int → Option Int → Sto → Option (U × Sto)} (hr : SlR X (rSlQ (bx X cl) f)) (he : QE X cl W e m) (hl : QO X cl W lo mlo) (hu : QO X cl W hi mhi) : QE X cl W (.Subscript e (.Slice lo hi none p2) pos) (eSl f m mlo mhi) :=
  PE.imp (pe_slice hr he hl hu) fun σ H Q ⟨ι, F, S, ρ, r, en, o⟩ => ⟨ι, F, S, ρ, r, en, o.bind.mono fun x H1 ⟨ι1, F1, S1, x', e1, r1, z1, o1⟩ =>
    ⟨ι1, F1, S1, ρ, r1, en.mono e1, o1.bind.mono fun l H2 ⟨ι2, F2, S2, l', e2, r2, z2, o2⟩ => by
      subst z2
      exact ⟨ι2, F2, S2, ρ, r2, (en.mono e1).mono e2, o2.bind.mono fun h H3 ⟨ι3, F3, S3, h', e3, r3, z3, o3⟩ => by
        subst z3
        exact ⟨ι3, F3, S3, x', r3, (z1.mono e2).mono e3, o3.fin⟩⟩⟩⟩
/-- xs[::-1] -/
def fRev : F1 := fun x S => match asList S x with
  | some xs => (allV xs.reverse).map fun ds => (.v (.lst ds), S)
  | none => none
theorem qe_rev {k : Nat} {p1 p3 : Pos} (he : QE X cl W e m) : QE X cl W (.Subscript e (.Slice none none (some (.UnaryOp .USub (.Constant (.int 1) k p1) p2)) p3) pos) (eUn fRev m) :=
  PE.imp (pe_revL he) fun σ H Q ⟨ι, F, S, ρ, r, en, o⟩ => ⟨ι, F, S, ρ, r, en, o.bind.mono fun x H1 ⟨ι1, F1, S1, x', e1, r1, z1, o1⟩ => by
    have fi := o1.fin
    unfold fRev at fi
    cases q : asList S1 x' with
    | none => rw [q] at fi; exact fi.no
    | some xs =>
      rw [q] at fi
      simp only at fi
      cases qa : allV xs.reverse with
      | none => rw [qa] at fi; exact fi.no
      | some ds =>
        rw [qa] at fi
        obtain ⟨p, vs, rfl, hp, zz⟩ := asList_ok r1 z1 q
        have hc := paired_rev zz
        rw [allV_some qa] at hc
        exact ⟨p, vs, rfl, hp, fun z hz => fi.go (Evo.newF hz) (r1.newF hz) (.v (.lst (.inr rfl) upd_same ((repus_reps hc).mono (ι := ι1) (ι' := ι1) (Evo.newF hz))))⟩⟩
end

/-! ### methods -/
def isL (S : Sto) (x : U) : Bool := (asList S x).isSome
def isS (S : Sto) : U → Bool
  | .v (.str _) => true
  | _ => false
def eMtT (chk : Sto → U → Bool) (f : FM) (o : ME) (a : MA) : ME := fun ρ S => (o ρ S).bind fun x S1 => if chk S1 x = true then (a ρ S1).bind fun xs S2 => ofO (f x xs S2) else .er
section
variable {X : Cx} {cl : Nat → Addr} {W : WX} {o e : Expr} {es : List Expr} {mo : ME} {mA : MA} {f : FM} {name : Str} {apos cpos : Pos} {T id : String} {chk : Sto → U → Bool}
/-- what chk says is a value of the type T -/
def ChkTy (B : Bx) (T : String) (chk : Sto → U → Bool) : Prop := ∀ (ι : List Addr) (F : Addr → Prop) (S : Sto) (H : Hp) (v : V) (u : U), Rel B ι F S H → RepU B ι F H v u → chk S u = true → tyV B.K T v H
theorem chk_list {B : Bx} : ChkTy B "list" isL := fun ι F S H v u r z h => by
  unfold isL at h
  cases q : asList S u with
  | none => rw [q] at h; cases h
  | some xs =>
    obtain ⟨a, vs, rfl, hp, _⟩ := asList_ok r z q
    exact .inl ⟨rfl, vs, hp⟩
theorem chk_str {B : Bx} : ChkTy B "str" isS := fun ι F S H v u r z h => by
  unfold isS at h
  split at h
  · cases z with
    | v z => cases z; rfl
  · cases h
theorem qe_bm (ct : ChkTy (bx X cl) T chk) (pa : PlainAttrs T) (slot : Slot T name id) (hty : typeOf (.builtin id) = pure (.type "method_descriptor")) (hm : MtR X id (liftM (bx X cl) f)) (ho : QE X cl W o mo) (ha : QA X cl W (e :: es) mA)
    (hbase : attributeBase o name X.env (eval o X.env) = eval o X.env := by rfl)
    (hfew : ((backTo cpos (starEach (e :: es) X.env)).all (fun x => !x.1) && (backToKw cpos (keywordEach [] X.env)).all (fun x => x.1.isSome)
      && decide ((e :: es).length + ([] : List Keyword).length + (if ([] : List Keyword).isEmpty then 0 else 1) < 30)) = true := by rfl)
    (hline : (apos.endLine == cpos.line) = true := by rfl) (hs : starEach (e :: es) X.env = (false, eval e X.env) :: starEach es X.env := by rfl) (hplain : (backTo cpos (starEach es X.env)).any (·.1) = false := by rfl) :
    QE X cl W (.Call (.Attribute o name apos) (e :: es) [] cpos) (eMtT chk f mo mA) :=
  PE.imp (pe_bm pa slot hty hm ho ha hbase hfew hline hs hplain) fun σ H Q ⟨ι, F, S, ρ, r, en, ot⟩ => ⟨ι, F, S, ρ, r, en, ot.bind.mono fun x H1 ⟨ι1, F1, S1, x', e1, r1, z1, o1⟩ => by
    split at o1
    · rename_i hc
      exact ⟨ct ι1 F1 S1 H1 x x' r1 z1 hc, ι1, F1, S1, ρ, r1, en.mono e1, o1.bind.mono fun y H2 ⟨ι2, F2, S2, y', e2, r2, z2, o2⟩ => ⟨ι2, F2, S2, x', y', r2, z1.mono e2, z2, o2.fin⟩⟩
    · exact o1.elim⟩
theorem qe_bm0 (ct : ChkTy (bx X cl) T chk) (pa : PlainAttrs T) (slot : Slot T name id) (hty : typeOf (.builtin id) = pure (.type "method_descriptor")) (hm : MtR X id (liftM (bx X cl) f)) (ho : QE X cl W o mo)
    (hbase : attributeBase o name X.env (eval o X.env) = eval o X.env := by rfl) (hline : (apos.endLine == cpos.line) = true := by rfl) : QE X cl W (.Call (.Attribute o name apos) [] [] cpos) (eMtT chk f mo aNil) :=
  PE.imp (pe_bm0 pa slot hty hm ho hbase hline) fun σ H Q ⟨ι, F, S, ρ, r, en, ot⟩ => ⟨ι, F, S, ρ, r, en, ot.bind.mono fun x H1 ⟨ι1, F1, S1, x', e1, r1, z1, o1⟩ => by
    split at o1
    · rename_i hc
      exact ⟨ct ι1 F1 S1 H1 x x' r1 z1 hc, ι1, F1, S1, x', [], r1, z1, .nil, Out.fin o1⟩
    · exact o1.elim⟩
/-- the cell n becomes another list -/
theorem Rel.setL {B : Bx} {ι : List Addr} {F : Addr → Prop} {S : Sto} {H : Hp} {n : Nat} {a : Addr} {xs ys : List U} {vs ws : List V} (r : Rel B ι F S H) (h : ι[n]? = some a) (hs : S[n]? = some (.lst xs)) (ha : H a = some (.lst vs)) (z : RepUs B ι F H ws ys) :
    Rel B ι F (S.set n (.lst ys)) (upd H a (.lst ws)) ∧ Evo ι F H ι F (upd H a (.lst ws)) := by
  have nf := r.nf n a _ h hs rfl
  have e0 : Evo ι F H ι F (upd H a (.lst ws)) := by
    refine ⟨fun _ _ h => h, fun _ h => h, fun b u f h _ => ?_, fun b xs h => ?_, fun b h => ?_, fun b p u h => by rw [upd_ne (fun z : b = a => by rw [z, ha] at h; cases h)]; exact h, fun b φ f h => rd_ne (fun z : b = a => nf (by rw [← z]; exact f)) h⟩
    · rw [upd_ne (fun z : b = a => nf (by rw [← z]; exact f))]; exact h
    · rw [upd_ne (fun z : b = a => by rw [z, ha] at h; cases h)]; exact h
    · by_cases hb : b = a
      · rw [hb, upd_same]; simp
      · rw [upd_ne hb]; exact h
  exact r.write h hs rfl (fun xs z => by rw [ha] at z; cases z) nofun (fun p u z => by rw [ha] at z; cases z) ⟨ws, upd_same, z.mono e0⟩
def fAppend : FM := fun x us S => match x, us with
  | .r n, [u] => match S[n]? with
    | some (.lst xs) => if xs.length < 100000 then some (.v .non, S.set n (.lst (xs ++ [u]))) else none
    | _ => none
  | _, _ => none
theorem szl {n : Nat} (h : n < 100000) : n < sizeLine := Nat.lt_of_lt_of_le h (by decide)
theorem mq_append : MtR X "list.append" (liftM (bx X cl) fAppend) := by
  intro pins s σ H x xs v us Q I rx rxs ⟨ι, F, S, a, as, rl, za, zs, fi⟩
  unfold fAppend at fi
  split at fi
  · rename_i n u
    cases q : S[n]? with
    | none => rw [q] at fi; exact fi.no
    | some c =>
      rw [q] at fi
      cases c with
      | lst ys =>
        simp only at fi
        split at fi
        · rename_i hl
          cases za with
          | @r _ a h =>
            cases zs with
            | cons z1 z2 =>
              cases z2
              obtain ⟨vs, ha, zz⟩ := rl.ok n a _ h q
              obtain ⟨r2, e2⟩ := rl.setL h q ha (paired_append zz (.cons z1 .nil))
              exact mt_append pins s σ H _ _ v us Q I rx rxs ⟨a, vs, _, rfl, rfl, ha, szl (by rw [paired_len zz]; exact hl), fi.go e2 r2 (.v .non)⟩
        · exact fi.no
      | _ => exact fi.no
  · exact fi.no
def fReverse : FM := fun x us S => match x, us with
  | .r n, [] => match S[n]? with
    | some (.lst xs) => some (.v .non, S.set n (.lst xs.reverse))
    | _ => none
  | _, _ => none
theorem mq_reverse : MtR X "list.reverse" (liftM (bx X cl) fReverse) := by
  intro pins s σ H x xs v us Q I rx rxs ⟨ι, F, S, a, as, rl, za, zs, fi⟩
  unfold fReverse at fi
  split at fi
  · rename_i n
    cases q : S[n]? with
    | none => rw [q] at fi; exact fi.no
    | some c =>
      rw [q] at fi
      cases c with
      | lst ys =>
        cases za with
        | @r _ a h =>
          cases zs
          obtain ⟨vs, ha, zz⟩ := rl.ok n a _ h q
          obtain ⟨r2, e2⟩ := rl.setL h q ha (paired_rev zz)
          exact mt_reverse pins s σ H _ _ v us Q I rx rxs ⟨a, vs, rfl, rfl, ha, fi.go e2 r2 (.v .non)⟩
      | _ => exact fi.no
  · exact fi.no
/-- "..".join(texts) -/
def allS : List U → Option (List Str)
  | [] => some []
  | .v (.str x) :: us => (allS us).map (x :: ·)
  | _ :: _ => none
def fJoin : FM := fun x us S => match x, us with
  | .v (.str a), [u] => match asSeq S u with
    | some xs => match allS xs with
      | some ys => if (ys.map (·.length)).sum + ys.length * a.length ≤ 100000 then some (.v (.str (Txt.join a ys)), S) else none
      | none => none
    | none => none
  | _, _ => none
theorem allS_ok {B : Bx} {ι : List Addr} {F : Addr → Prop} {H : Hp} : ∀ {us : List U} {ys : List Str} {vs : List V}, RepUs B ι F H vs us → allS us = some ys → vs = ys.map V.str ∧ ∀ y ∈ ys, PyData.strOk y = true
  | _, ys, _, .nil, e => by simp [allS] at e; subst e; exact ⟨rfl, nofun⟩
  | _, ys, _, .cons (b := u) (l₂ := us) z zs, e => by
    unfold allS at e
    split at e
    · rename_i he; cases he
    · rename_i x us' he
      cases he
      obtain ⟨ys', e1, rfl⟩ := Option.map_eq_some_iff.mp e
      obtain ⟨h1, h2⟩ := allS_ok zs e1
      cases z with
      | v z =>
        cases z with
        | str _ h =>
          refine ⟨by rw [h1]; rfl, fun y hy => ?_⟩
          rcases List.mem_cons.mp hy with e | e
          · subst e; exact h
          · exact h2 y e
    · cases e
theorem join_ok {P : Nat → Prop} {a : List Nat} (ha : ∀ c ∈ a, P c) : ∀ {ps : List (List Nat)}, (∀ p ∈ ps, ∀ c ∈ p, P c) → ∀ c ∈ TL.joinL a ps, P c
  | [], _, c, hc => by simp [TL.joinL] at hc
  | [p], h, c, hc => h p (by simp) c hc
  | p :: q :: r, h, c, hc => by
    simp only [TL.joinL, List.mem_append] at hc
    rcases hc with hc | hc | hc
    · exact h p (by simp) c hc
    · exact ha c hc
    · exact join_ok ha (fun p' hp' => h p' (List.mem_cons_of_mem _ hp')) c hc
theorem strOk_join {a : Str} {ys : List Str} (h1 : PyData.strOk a = true) (h2 : ∀ y ∈ ys, PyData.strOk y = true) : PyData.strOk (Txt.join a ys) = true := by
  rw [strOk_iff]
  intro c hc
  rw [TL.join_eq] at hc
  have e := TL.tl_join a ys
  have hc' : c ∈ TL.tl (Str.join a ys) := hc
  rw [e] at hc'
  refine join_ok (P := fun c => c < 0x110000) (fun c hc => strOk_iff.mp h1 c hc) (fun p hp c hc => ?_) c hc'
  obtain ⟨y, hy, rfl⟩ := List.mem_map.mp hp
  exact strOk_iff.mp (h2 y hy) c hc
theorem mq_join : MtR X "str.join" (liftM (bx X cl) fJoin) := by
  intro pins s σ H x xs v us Q I rx rxs ⟨ι, F, S, a, as, rl, za, zs, fi⟩
  unfold fJoin at fi
  split at fi
  · rename_i z u
    cases q : asSeq S u with
    | none => rw [q] at fi; exact fi.no
    | some ws =>
      rw [q] at fi
      simp only at fi
      cases qs : allS ws with
      | none => rw [qs] at fi; exact fi.no
      | some ys =>
        rw [qs] at fi
        simp only at fi
        split at fi
        · rename_i hl
          cases za with
          | v za =>
            cases za with
            | str _ h1 =>
              cases zs with
              | cons z1 z2 =>
                cases z2
                obtain ⟨p, vs, rfl, hp, zz⟩ := asSeq_ok rl z1 q
                obtain ⟨rfl, h2⟩ := allS_ok zz qs
                exact mt_join pins s σ H _ _ v us Q I rx rxs ⟨z, p, ys, rfl, rfl, hp, Nat.le_trans hl (by decide), fi.val rl (.v (.str _ (strOk_join h1 h2)))⟩
        · exact fi.no
  · exact fi.no
end
end Pu
/-! Pu: what a loop walks; list comprehensions. -/
namespace Pu
open PySem L2

def srcOf : U → Option Nat
  | .r n => some n
  | _ => none
/-- a list or a tuple -/
def iVal (m : ME) : MI := fun ρ S => (m ρ S).bind fun u S1 => match asSeq S1 u with
  | some xs => .ok ⟨xs, srcOf u⟩ S1
  | none => .er
def rngU (lo : Int) (n : Nat) : List U := (List.range n).map fun (i : Nat) => .v (.int (lo + (i : Nat)))
/-- the bounds of a range; the tests stay closed -/
def okR1 (j : Int) : Prop := -1000000000 < j ∧ j < 1000000000
def okR2 (i j : Int) : Prop := -1000000000 < j ∧ j < 1000000000 ∧ -1000000000 < i ∧ i < 1000000000
noncomputable instance (j : Int) : Decidable (okR1 j) := Classical.propDecidable _
noncomputable instance (i j : Int) : Decidable (okR2 i j) := Classical.propDecidable _
noncomputable def iRng1 (a : MA) : MI := fun ρ S => (a ρ S).bind fun us S1 => match us with
  | [.v (.int j)] => if okR1 j then .ok ⟨rngU 0 j.toNat, none⟩ S1 else .er
  | _ => .er
noncomputable def iRng2 (a : MA) : MI := fun ρ S => (a ρ S).bind fun us S1 => match us with
  | [.v (.int i), .v (.int j)] => if okR2 i j then .ok ⟨rngU i (j - i).toNat, none⟩ S1 else .er
  | _ => .er
theorem asSeq_same {S S' : Sto} {u : U} {xs : List U} (h : asSeq S u = some xs) (hs : ∀ n, srcOf u = some n → S'[n]? = S[n]?) : asSeq S' u = some xs := by
  cases u with
  | v d => cases d <;> exact h
  | r n =>
    unfold asSeq at h ⊢
    simp only at h ⊢
    rw [hs n rfl]
    exact h
/-- a tuple, by value or as a cell -/
def isTp (S : Sto) (u : U) : Prop := (∃ ds, u = .v (.tup ds)) ∨ ∃ n xs, u = .r n ∧ S[n]? = some (.tpc xs)
/-- what kind of sequence it is -/
theorem asSeq_kind {B : Bx} {ι : List Addr} {F : Addr → Prop} {H : Hp} {S : Sto} {v : V} {u : U} {xs : List U} (r : Rel B ι F S H) (z : RepU B ι F H v u) (e : asSeq S u = some xs) :
    (∃ a vs, v = .ref a ∧ SqL B.K H a vs ∧ RepUs B ι F H vs xs ∧ ¬ isTp S u) ∨ (∃ a vs, isTp S u ∧ v = .ref a ∧ H a = some (.tup vs) ∧ RepUs B ι F H vs xs) := by
  cases z with
  | v z =>
    cases z with
    | lst f h rs => cases e; exact .inl ⟨_, _, rfl, SqL.of h, reps_u rs, by rintro (⟨_, z⟩ | ⟨_, _, z, _⟩) <;> cases z⟩
    | frl h rs => cases e; exact .inl ⟨_, _, rfl, h.sq, reps_u rs, by rintro (⟨_, z⟩ | ⟨_, _, z, _⟩) <;> cases z⟩
    | tup h rs => cases e; exact .inr ⟨_, _, .inl ⟨_, rfl⟩, rfl, h, reps_u rs⟩
    | _ => cases e
  | @r n a h =>
    unfold asSeq at e
    simp only at e
    cases q : S[n]? with
    | none => rw [q] at e; cases e
    | some c =>
      rw [q] at e
      have ok := r.ok n a c h q
      cases c with
      | lst ys =>
        cases e
        obtain ⟨vs, h1, h2⟩ := ok
        refine .inl ⟨a, vs, rfl, SqL.of h1, h2, ?_⟩
        rintro (⟨_, z⟩ | ⟨_, _, z, z2⟩)
        · cases z
        · cases z; rw [q] at z2; cases z2
      | tpc ys =>
        cases e
        obtain ⟨vs, h1, h2⟩ := ok
        exact .inr ⟨a, vs, .inr ⟨n, _, rfl, q⟩, rfl, h1, h2⟩
      | _ => cases e
theorem paired_ix {α β : Type} {P : α → β → Prop} {xs : List α} {ys : List β} {i : Nat} (h : Paired P xs ys) (hi : i < ys.length) : ∃ x y, xs[i]? = some x ∧ ys[i]? = some y ∧ P x y := by
  obtain ⟨x, h1, h2⟩ := paired_get h (List.getElem?_eq_getElem hi)
  exact ⟨x, _, h1, List.getElem?_eq_getElem hi, h2⟩
section
variable {X : Cx} {cl : Nat → Addr} {W : WX} {tg e : Expr} {m : ME} {mA : MA} {p pos : Pos}
theorem walk_l {ι : List Addr} {F : Addr → Prop} {S : Sto} {H : Hp} {u : U} {xs : List U} {a : Addr} (z : RepU (bx X cl) ι F H (.ref a) u) (q : asSeq S u = some xs) (nt : ¬ isTp S u) : Walk (bx X cl) (Itl X.K a) ⟨xs, srcOf u⟩ S ι F H := by
  intro i ι1 F1 S1 H1 e1 r1 so
  have z1 := z.mono e1
  have q1 := asSeq_same q so
  rcases asSeq_kind r1 z1 q1 with ⟨a', vs, ea, hs, zz, _⟩ | ⟨a', vs, hu, _⟩
  · cases ea
    refine ⟨fun hi => ?_, fun hi => ⟨vs, hs, by rw [paired_len zz]; exact hi⟩⟩
    obtain ⟨x, y, hx, hy, zy⟩ := paired_ix zz hi
    refine ⟨⟨vs, x, hs, hx⟩, fun x' H' hyld => ?_⟩
    obtain ⟨rfl, hx'⟩ := hyld
    have := hx' vs hs
    rw [hx] at this
    cases this
    exact ⟨Evo.refl, r1, fun u' hu' => by
      have : xs[i]? = some u' := hu'
      rw [hy] at this; cases this; exact zy⟩
  · refine absurd ?_ nt
    rcases hu with ⟨ds, rfl⟩ | ⟨n, us, rfl, hn⟩
    · exact .inl ⟨ds, rfl⟩
    · exact .inr ⟨n, us, rfl, by rw [← so n rfl]; exact hn⟩
theorem walk_t {ι : List Addr} {F : Addr → Prop} {S : Sto} {H : Hp} {ds : Option Nat} {vs : List V} {xs : List U} {a : Addr} (h : H a = some (.tup vs)) (zz : RepUs (bx X cl) ι F H vs xs) : Walk (bx X cl) (Itt X.K a) ⟨xs, ds⟩ S ι F H := by
  intro i ι1 F1 S1 H1 e1 r1 so
  have h1 := e1.tups _ _ h
  have zz1 := zz.mono e1
  refine ⟨fun hi => ?_, fun hi => ⟨vs, SqT.of h1, by rw [paired_len zz1]; exact hi⟩⟩
  obtain ⟨x, y, hx, hy, zy⟩ := paired_ix zz1 hi
  refine ⟨⟨vs, x, SqT.of h1, hx⟩, fun x' H' hyld => ?_⟩
  obtain ⟨rfl, hx'⟩ := hyld
  have := hx' vs (SqT.of h1)
  rw [hx] at this
  cases this
  exact ⟨Evo.refl, r1, fun u' hu' => by
    have : xs[i]? = some u' := hu'
    rw [hy] at this; cases this; exact zy⟩
theorem qi_val (h : QE X cl W e m) : QI X cl W tg e (iVal m) := by
  refine ⟨fun pins s σ H Rr I ⟨ι, F, S, ρ, r, en, o⟩ => ?_⟩
  unfold iVal at o
  cases q : m ρ S with
  | er => rw [q] at o; exact o.elim
  | ex c fs S1 =>
    rw [q] at o
    exact (pi_list h).run pins s σ H Rr I ⟨ι, F, S, ρ, r, en, by rw [q]; exact o⟩
  | ok u S1 =>
    rw [q] at o
    simp only [R.bind_ok] at o
    cases qs : asSeq S1 u with
    | none => rw [qs] at o; exact o.elim
    | some xs =>
      rw [qs] at o
      simp only at o
      by_cases hu : isTp S1 u
      · refine (pi_tup h).run pins s σ H Rr I ⟨ι, F, S, ρ, r, en, ?_⟩
        rw [q]
        intro v ι1 F1 H1 e1 r1 z1
        rcases asSeq_kind r1 z1 qs with ⟨a, vs, ea, hs, zz, nt⟩ | ⟨a, vs, _, ea, ha, zz⟩
        · exact absurd hu nt
        · subst ea
          exact ⟨a, rfl, ⟨vs, SqT.of ha⟩, o _ ι1 F1 H1 e1 r1 (walk_t ha zz)⟩
      · refine (pi_list h).run pins s σ H Rr I ⟨ι, F, S, ρ, r, en, ?_⟩
        rw [q]
        intro v ι1 F1 H1 e1 r1 z1
        have nt : ¬ isTp S1 u := hu
        rcases asSeq_kind r1 z1 qs with ⟨a, vs, ea, hs, zz, _⟩ | ⟨a, vs, hd, _⟩
        · subst ea
          exact ⟨a, rfl, ⟨vs, hs⟩, o _ ι1 F1 H1 e1 r1 (walk_l z1 qs nt)⟩
        · exact absurd hd nt
theorem walk_r {ι : List Addr} {F : Addr → Prop} {S : Sto} {H : Hp} (lo : Int) (n : Nat) : Walk (bx X cl) (Itr lo n) ⟨rngU lo n, none⟩ S ι F H := by
  intro i ι1 F1 S1 H1 e1 r1 so
  refine ⟨fun hi => ⟨show i < n by simpa [rngU] using hi, fun x' H' hyld => ?_⟩, fun hi => show n ≤ i by simpa [rngU] using hi⟩
  obtain ⟨rfl, rfl⟩ := hyld
  refine ⟨Evo.refl, r1, fun u' hu' => ?_⟩
  have hi' : i < n := by simpa [rngU] using hi
  have : u' = .v (.int (lo + (i : Nat))) := by
    simp [rngU, List.getElem?_map, List.getElem?_range hi'] at hu'
    exact hu'.symm
  subst this
  exact .v (.int _)
theorem qi_range1 {a : Expr} (hg : Gl X "range") (hm : X.mg "range" = none) (ha : QA X cl W [a] mA) (hs : starEach [a] X.env = [(false, eval a X.env)] := by rfl) : QI X cl W tg (.Call (.Name "range" p) [a] [] pos) (iRng1 mA) :=
  PI.imp (pi_range1 hg hm ha hs) fun σ H Rr ⟨ι, F, S, ρ, r, en, o⟩ => ⟨ι, F, S, ρ, r, en, by
    unfold iRng1 at o
    cases q : mA ρ S with
    | er => rw [q] at o; exact o.elim
    | ex c fs S1 => rw [q] at o; exact o
    | ok us S1 =>
      rw [q] at o
      intro vs ι1 F1 H1 e1 r1 z1
      simp only [R.bind_ok] at o
      split at o
      · rename_i j he
        split at he
        · rename_i j'
          split at he
          · rename_i hb
            unfold okR1 at hb
            cases he
            cases z1 with
            | cons z1 z2 =>
              cases z2
              cases z1 with
              | v z1 => cases z1; exact ⟨j', rfl, by omega, by omega, o _ ι1 F1 H1 e1 r1 (walk_r 0 j'.toNat)⟩
          · cases he
        · cases he
      · rename_i he
        split at he
        · split at he <;> cases he
        · cases he
      · exact False.elim o⟩
theorem qi_range2 {a b : Expr} (hg : Gl X "range") (hm : X.mg "range" = none) (ha : QA X cl W [a, b] mA) (hs : starEach [a, b] X.env = [(false, eval a X.env), (false, eval b X.env)] := by rfl) (hs2 : starEach [b] X.env = [(false, eval b X.env)] := by rfl) : QI X cl W tg (.Call (.Name "range" p) [a, b] [] pos) (iRng2 mA) :=
  PI.imp (pi_range2 hg hm ha hs hs2) fun σ H Rr ⟨ι, F, S, ρ, r, en, o⟩ => ⟨ι, F, S, ρ, r, en, by
    unfold iRng2 at o
    cases q : mA ρ S with
    | er => rw [q] at o; exact o.elim
    | ex c fs S1 => rw [q] at o; exact o
    | ok us S1 =>
      rw [q] at o
      intro vs ι1 F1 H1 e1 r1 z1
      simp only [R.bind_ok] at o
      split at o
      · rename_i j he
        split at he
        · rename_i i' j'
          split at he
          · rename_i hb
            unfold okR2 at hb
            cases he
            cases z1 with
            | cons z1 z2 =>
              cases z2 with
              | cons z2 z3 =>
                cases z3
                cases z1 with
                | v z1 =>
                  cases z1
                  cases z2 with
                  | v z2 => cases z2; exact ⟨i', j', rfl, ⟨by omega, by omega, by omega, by omega⟩, o _ ι1 F1 H1 e1 r1 (walk_r i' (j' - i').toNat)⟩
          · cases he
        · cases he
      · rename_i he
        split at he
        · split at he <;> cases he
        · cases he
      · exact False.elim o⟩
end

/-! ### list comprehensions, one clause -/
def wipeE (ρ : Env') : List Nat → Env'
  | [] => ρ
  | v :: vs => (wipeE ρ vs).set v none
theorem wipe_env {B : Bx} {ι : List Addr} {F : Addr → Prop} {H : Hp} {σ : L2.St} {ρ : Env'} (h : REnv B ι F H σ ρ) : ∀ vs, REnv B ι F H (wipe σ vs) (wipeE ρ vs)
  | [] => h
  | v :: vs => paired_set (P := RepO B ι F H) (x := none) (y := none) trivial v (wipe_env h vs)
theorem wipe_get {σ : L2.St} {i : Nat} : ∀ {vs : List Nat}, i ∉ vs → (wipe σ vs)[i]? = σ[i]?
  | [], _ => rfl
  | v :: vs, h => by
    simp only [List.mem_cons, not_or] at h
    unfold wipe
    rw [List.getElem?_set_ne (fun e => h.1 e.symm), wipe_get h.2]
theorem wipe_in {σ : L2.St} {i : Nat} : ∀ {vs : List Nat}, i ∈ vs → i < σ.length → (wipe σ vs)[i]? = some none
  | [], h, _ => by cases h
  | v :: vs, h, hl => by
    unfold wipe
    by_cases e : v = i
    · subst e
      rw [List.getElem?_set_self (by rw [wipe_length]; exact hl)]
    · rw [List.getElem?_set_ne e]
      exact wipe_in ((List.mem_cons.mp h).resolve_left (fun q => e q.symm)) hl
theorem wipe_eq {σ σ' : L2.St} {vs js : List Nat} (hl : σ'.length = σ.length) (hj : ∀ j ∈ js, j ∈ vs) (h : ∀ i, i ∉ js → σ'[i]? = (wipe σ vs)[i]?) : wipe σ' vs = wipe σ vs := by
  apply List.ext_getElem?
  intro i
  by_cases hi : i ∈ vs
  · by_cases hb : i < σ.length
    · rw [wipe_in hi hb, wipe_in hi (by omega)]
    · rw [List.getElem?_eq_none (by rw [wipe_length]; omega), List.getElem?_eq_none (by rw [wipe_length]; omega)]
  · rw [wipe_get hi, h i (fun z => hi (hj i z)), wipe_get hi]
/-- nothing may be raised here -/
def noEx {α : Type} : R α → R α
  | .ok a S => .ok a S
  | _ => .er
@[simp] theorem noEx_ok {α : Type} (a : α) (S : Sto) : noEx (R.ok a S) = .ok a S := rfl
/-- the turns: the new list is the cell n -/
noncomputable def lcGo (src : Option Nat) (c0 : Option Cell) (g : MG) (t : MT) (e : ME) (n : Nat) : List U → Env' → Sto → R Unit
  | [], _, S => .ok () S
  | u :: us, ρ, S => match g u ρ with
    | none => .er
    | some ρ1 => (noEx (t ρ1 S)).bind fun b S1 => if b = true then (noEx (e ρ1 S1)).bind fun y S2 => match S2[n]? with
        | some (.lst acc) => if acc.length < 100000 ∧ srcOk src c0 S2 then lcGo src c0 g t e n us ρ (S2.set n (.lst (acc ++ [y]))) else .er
        | _ => .er
      else if srcOk src c0 S1 then lcGo src c0 g t e n us ρ S1 else .er
noncomputable def lcRun (vs : List Nat) (it : MI) (g : MG) (t : MT) (e : ME) (kf : Sto → Unit → Sto → R U) : ME := fun ρ S => (it ρ S).bind fun iv S1 =>
  if srcOk iv.src (iv.src.bind fun n => S1[n]?) (S1 ++ [.lst []]) then
    (lcGo iv.src (iv.src.bind fun n => S1[n]?) g t e S1.length iv.items (wipeE ρ vs) (S1 ++ [.lst []])).bind (kf S1)
  else .er
/-- the new list may change -/
noncomputable def eLcS (vs : List Nat) (it : MI) (g : MG) (t : MT) (e : ME) : ME := lcRun vs it g t e fun S1 _ S2 => .ok (.r S1.length) S2
/-- .. by value -/
noncomputable def kfV (S1 : Sto) (_ : Unit) (S2 : Sto) : R U := match S2[S1.length]? with
  | some (.lst xs) => match allV xs with
    | some ds => if S2 = S1 ++ [.lst xs] then .ok (.v (.lst ds)) S1 else .er
    | none => .er
  | _ => .er
noncomputable def eLcV (vs : List Nat) (it : MI) (g : MG) (t : MT) (e : ME) : ME := lcRun vs it g t e kfV
def tYesM : MT := fun _ S => .ok true S
abbrev W0 : WX := fun _ _ _ _ => False
def QTs (X : Cx) (cl : Nat → Addr) (W : WX) (ifs : List Expr) (m : MT) : Prop := PTs X ifs (liftT (bx X cl) W m)
theorem PTs.imp {X : Cx} {e : List Expr} {t t' : TT} (h : PTs X e t) (k : ∀ σ H Q, t' σ H Q → t σ H Q) : PTs X e t' := ⟨fun pins s σ H Q I hq => h.run pins s σ H Q I (k σ H Q hq)⟩
section
variable {X : Cx} {cl : Nat → Addr} {W : WX}
theorem qts_nil : QTs X cl W [] tYesM := PTs.imp pts_nil fun σ H Q ⟨ι, F, S, ρ, r, en, o⟩ => o true ι F H Evo.refl r rfl
theorem qts_one {c : Expr} {t : MT} (h : QT X cl W c t) : QTs X cl W [c] t := pts_one h
/-- the last cell is given up: its list is a value now -/
theorem Rel.pop {B : Bx} {ι : List Addr} {F : Addr → Prop} {S : Sto} {H : Hp} {c : Cell} (r : Rel B ι F (S ++ [c]) H) (hlt : ∀ c ∈ S, cellLt S.length c) : ∃ ι0 a, ι = ι0 ++ [a] ∧ Rel B ι0 (addF F a) S H := by
  have hl := r.len
  simp only [List.length_append, List.length_singleton] at hl
  obtain ⟨ι0, a, rfl⟩ : ∃ ι0 a, ι = ι0 ++ [a] := by
    rcases List.eq_nil_or_concat ι with h | ⟨l, x, h⟩
    · subst h; simp at hl
    · exact ⟨l, x, by simpa using h⟩
  refine ⟨ι0, a, rfl, ?_⟩
  have hl0 : ι0.length = S.length := by simpa using hl
  have old : ∀ {n : Nat} {b : Addr} {d : Cell}, ι0[n]? = some b → S[n]? = some d → (ι0 ++ [a])[n]? = some b ∧ (S ++ [c])[n]? = some d := fun {n b d} h1 h2 =>
    ⟨by rw [List.getElem?_append_left (List.getElem?_eq_some_iff.mp h1).1]; exact h1, by rw [List.getElem?_append_left (List.getElem?_eq_some_iff.mp h2).1]; exact h2⟩
  have hla : (ι0 ++ [a])[ι0.length]? = some a := by simp
  have ne : ∀ {n : Nat} {b : Addr}, ι0[n]? = some b → b ≠ a := fun {n b} h1 e => by
    subst e
    have h1' : (ι0 ++ [b])[n]? = some b := by rw [List.getElem?_append_left (List.getElem?_eq_some_iff.mp h1).1]; exact h1
    obtain ⟨q1, e1⟩ := List.getElem?_eq_some_iff.mp h1'
    obtain ⟨q2, e2⟩ := List.getElem?_eq_some_iff.mp hla
    have := (List.getElem_inj r.nd).mp (e1.trans e2.symm)
    have := (List.getElem?_eq_some_iff.mp h1).1
    omega
  have e0 : Evo (ι0 ++ [a]) F H (ι0 ++ [a]) (addF F a) H := ⟨fun _ _ h => h, fun _ h => .inl h, fun _ _ _ h _ => h, fun _ _ h => h, fun _ h => h, fun _ _ _ h => h, fun _ _ _ h => h⟩
  have ru : ∀ {v : V} {u : U}, RepU B (ι0 ++ [a]) F H v u → refLt S.length u → RepU B ι0 (addF F a) H v u := fun {v u} z hz => by
    cases z with
    | v z => exact .v (z.mono e0)
    | @r m b h =>
      have hm : m < ι0.length := by rw [hl0]; exact hz
      rw [List.getElem?_append_left hm] at h
      exact .r h
  refine ⟨hl0, (List.nodup_append.mp r.nd).1, fun n b d h1 h2 h3 => ?_, fun n b d h1 h2 => ?_, fun b hb => r.there b (by simp [hb]), fun b hb => ?_, fun b hb => r.now b (by simp [hb])⟩
  · rintro (z | z)
    · exact r.nf n b d (old h1 h2).1 (old h1 h2).2 h3 z
    · exact ne h1 z
  · have ok := r.ok n b d (old h1 h2).1 (old h1 h2).2
    have lt := hlt d (List.mem_of_getElem? h2)
    cases d with
    | lst xs => obtain ⟨vs, h, q⟩ := ok; exact ⟨vs, h, paired_memP (P := RepU B (ι0 ++ [a]) F H) (P' := RepU B ι0 (addF F a) H) (Q := refLt S.length) (fun _ _ z l => ru z l) q lt⟩
    | tpc xs => obtain ⟨vs, h, q⟩ := ok; exact ⟨vs, h, paired_memP (P := RepU B (ι0 ++ [a]) F H) (P' := RepU B ι0 (addF F a) H) (Q := refLt S.length) (fun _ _ z l => ru z l) q lt⟩
    | dic kvs => obtain ⟨vs, h, z, q⟩ := ok; exact ⟨vs, h, z, paired_memP (Q := fun p : D × U => refLt S.length p.2) (fun _ _ ⟨a, b, c, w, d, e⟩ l => ⟨a, b.mono e0, c, w, d, ru e l⟩) q lt⟩
    | dicL kvs => obtain ⟨vs, od, h, z, q⟩ := ok; exact ⟨vs, od, h, z, paired_memP (Q := fun p : D × U => refLt S.length p.2) (fun _ _ ⟨a, b, c, w, d, e⟩ l => ⟨a, b.mono e0, c, w, d, ru e l⟩) q lt⟩
    | ins k fs =>
      obtain ⟨dx, vs, h, hd, nd, q⟩ := ok
      refine ⟨dx, vs, h, hd, ?_, paired_memP (Q := fun p : Str × U => refLt S.length p.2) (fun _ _ ⟨a, e⟩ l => ⟨a, ru e l⟩) q lt⟩
      rintro (z | z)
      · exact nd z
      · subst z; exact r.now dx (by simp) _ hd
    | dead => trivial
  · rcases hb with z | z
    · exact r.fthere b z
    · subst z; exact r.there b (by simp)
end
end Pu
/-! Pu: list comprehensions, one clause: the rules. -/
namespace Pu
open PySem L2
open PyProof.Rows hiding St
theorem Out.bindN {α β γ δ : Type} {B : Bx} {W : WX} {σ σ' : L2.St} {ι ι2 : List Addr} {F F2 : Addr → Prop} {H H2 : Hp} {rep : List Addr → (Addr → Prop) → Hp → β → α → Prop} {rep1 : List Addr → (Addr → Prop) → Hp → δ → γ → Prop} {Q : β → Hp → Prop} {r : R γ} {k : γ → Sto → R α}
    (h : Out B W σ ι F H rep Q ((noEx r).bind k)) : Out B W0 σ' ι2 F2 H2 rep1 (fun b H1 => ∃ ι1 F1 S1 a, Evo ι2 F2 H2 ι1 F1 H1 ∧ Rel B ι1 F1 S1 H1 ∧ rep1 ι1 F1 H1 b a ∧ Out B W σ ι F H rep Q (k a S1)) r := by
  cases r with
  | ok a S' => exact fun b ι' F' H' e' r' z => ⟨ι', F', S', a, e', r', z, h⟩
  | ex c fs S' => exact h.elim
  | er => exact h.elim
section
variable {X : Cx} {cl : Nat → Addr} {W : WX}
/-- the reading of a comprehension; kf: what is made of the cell at the end -/
theorem lc_read {σ : L2.St} {H : Hp} {Q : VK} {mi : MI} {g : MG} {js vs : List Nat} {t : MT} {e : ME} {kf : Sto → Unit → Sto → R U} (hj : ∀ j ∈ js, j ∈ vs) (h : liftE (bx X cl) W (lcRun vs mi g t e kf) σ H Q)
    (hk : ∀ (S1 S' : Sto) (ι1 : List Addr) (F1 : Addr → Prop) (H1 : Hp) (ι' : List Addr) (F' : Addr → Prop) (H' : Hp) (D : Addr), Rel (bx X cl) ι1 F1 S1 H1 → H1 D = none → Evo (ι1 ++ [D]) F1 (upd H1 D (.lst [])) ι' F' H' → Rel (bx X cl) ι' F' S' H' →
      Out (bx X cl) W σ ι1 F1 H1 (RepU (bx X cl)) Q (kf S1 () S') → Q (.ref D) H') :
    tLc (liftI (bx X cl) W mi) (liftG (bx X cl) js g) (liftT (bx X cl) W0 t) (liftE (bx X cl) W0 e) vs σ H Q := by
  obtain ⟨ι, F, S, ρ, r, en, o⟩ := h
  refine ⟨ι, F, S, ρ, r, en, ?_⟩
  unfold lcRun at o
  cases q : mi ρ S with
  | er => rw [q] at o; exact o
  | ex k fs S1 => rw [q] at o; exact o
  | ok iv S1 =>
    rw [q] at o
    intro J ι1 F1 H1 e1 r1 wk D hD
    have e2 : Evo ι1 F1 H1 (ι1 ++ [D]) F1 (upd H1 D (.lst [])) := Evo.newS hD
    have r2 : Rel (bx X cl) (ι1 ++ [D]) F1 (S1 ++ [.lst []]) (upd H1 D (.lst [])) := r1.newS hD nofun ⟨[], upd_same, .nil⟩
    have hDn : (ι1 ++ [D])[S1.length]? = some D := by rw [← r1.len]; simp
    simp only [R.bind_ok] at o
    split at o
    · rename_i so0
      have o2 := Out.shift e1 o
      refine ⟨fun i m H' => m = iv.items.length - i ∧ i ≤ iv.items.length ∧ ∃ ι3 F3 S3, Evo (ι1 ++ [D]) F1 (upd H1 D (.lst [])) ι3 F3 H' ∧ Rel (bx X cl) ι3 F3 S3 H' ∧ srcOk iv.src (iv.src.bind fun n => S1[n]?) S3 ∧
        Out (bx X cl) W σ ι1 F1 H1 (RepU (bx X cl)) Q ((lcGo iv.src (iv.src.bind fun n => S1[n]?) g t e S1.length (iv.items.drop i) (wipeE ρ vs) S3).bind (kf S1)), ⟨iv.items.length, by simp, by simp, _, _, _, Evo.refl, r2, so0, by simpa using o2⟩, ?_⟩
      rintro i m H3 ⟨rfl, hi, ι3, F3, S3, e3, r3, so, o3⟩
      have so' : ∀ n, iv.src = some n → S3[n]? = S1[n]? := fun n hn => by
        unfold srcOk at so
        rw [hn] at so
        simpa [hn] using so
      obtain ⟨w1, w2⟩ := wk i ι3 F3 S3 H3 (e2.trans e3) r3 so'
      by_cases hlt : i < iv.items.length
      · obtain ⟨go, yl⟩ := w1 hlt
        refine .inr ⟨go, fun H' => i + 1 ≤ iv.items.length ∧ ∃ ι3 F3 S3, Evo (ι1 ++ [D]) F1 (upd H1 D (.lst [])) ι3 F3 H' ∧ Rel (bx X cl) ι3 F3 S3 H' ∧ srcOk iv.src (iv.src.bind fun n => S1[n]?) S3 ∧
          Out (bx X cl) W σ ι1 F1 H1 (RepU (bx X cl)) Q ((lcGo iv.src (iv.src.bind fun n => S1[n]?) g t e S1.length (iv.items.drop (i + 1)) (wipeE ρ vs) S3).bind (kf S1)), fun H' p => ⟨iv.items.length - (i + 1), by omega, rfl, p⟩, fun x H' y => ?_⟩
        obtain ⟨e4, r4, z4⟩ := yl x H' y
        have hd : iv.items.drop i = iv.items[i] :: iv.items.drop (i + 1) := List.drop_eq_getElem_cons hlt
        rw [hd] at o3
        unfold lcGo at o3
        cases qg : g iv.items[i] (wipeE ρ vs) with
        | none => rw [qg] at o3; exact o3.elim
        | some ρ1 =>
          rw [qg] at o3
          have eall := ((e1.trans e2).trans e3).trans e4
          have o4 := o3
          refine ⟨ι3, F3, S3, wipeE ρ vs, iv.items[i], ρ1, r4, wipe_env (en.mono eall) vs, z4 _ (by simp [hlt]), qg, fun σ2 en2 k2 l2 => ⟨wipe_eq (by rw [l2, wipe_length]) hj k2, ι3, F3, S3, ρ1, r4, en2, ?_⟩⟩
          simp only at o4
          -- the test
          have o5 : Out (bx X cl) W σ ι1 F1 H1 (RepU (bx X cl)) Q ((noEx (t ρ1 S3)).bind fun b S4 => (if b = true then (noEx (e ρ1 S4)).bind fun y S5 => match S5[S1.length]? with
              | some (.lst acc) => if acc.length < 100000 ∧ srcOk iv.src (iv.src.bind fun n => S1[n]?) S5 then lcGo iv.src (iv.src.bind fun n => S1[n]?) g t e S1.length (iv.items.drop (i + 1)) (wipeE ρ vs) (S5.set S1.length (.lst (acc ++ [y]))) else .er
              | _ => .er
            else if srcOk iv.src (iv.src.bind fun n => S1[n]?) S4 then lcGo iv.src (iv.src.bind fun n => S1[n]?) g t e S1.length (iv.items.drop (i + 1)) (wipeE ρ vs) S4 else .er).bind (kf S1)) := by
            cases qt : noEx (t ρ1 S3) with
            | ok b S4 => rw [qt] at o4; exact o4
            | ex _ _ _ => rw [qt] at o4; exact o4
            | er => rw [qt] at o4; exact o4
          refine (Out.bindN o5).mono fun b H5 ⟨ι5, F5, S5, b', e5, r5, z5, o6⟩ => ?_
          subst z5
          cases b with
          | false =>
            simp only [Bool.false_eq_true, if_false] at o6
            split at o6
            · rename_i hs
              exact ⟨hlt, ι5, F5, S5, (e3.trans e4).trans e5, r5, hs, o6⟩
            · exact o6.elim
          | true =>
            simp only [if_true] at o6
            refine ⟨ι5, F5, S5, ρ1, r5, en2.mono e5, ?_⟩
            have o7 : Out (bx X cl) W σ ι1 F1 H1 (RepU (bx X cl)) Q ((noEx (e ρ1 S5)).bind fun y S6 => (match S6[S1.length]? with
              | some (.lst acc) => if acc.length < 100000 ∧ srcOk iv.src (iv.src.bind fun n => S1[n]?) S6 then lcGo iv.src (iv.src.bind fun n => S1[n]?) g t e S1.length (iv.items.drop (i + 1)) (wipeE ρ vs) (S6.set S1.length (.lst (acc ++ [y]))) else .er
              | _ => .er).bind (kf S1)) := by
              cases qe : noEx (e ρ1 S5) with
              | ok b S4 => rw [qe] at o6; exact o6
              | ex _ _ _ => rw [qe] at o6; exact o6
              | er => rw [qe] at o6; exact o6
            refine (Out.bindN o7).mono fun y H6 ⟨ι6, F6, S6, y', e6, r6, z6, o8⟩ => ?_
            cases qc : S6[S1.length]? with
            | none => rw [qc] at o8; exact o8.elim
            | some c =>
              rw [qc] at o8
              cases c with
              | lst acc =>
                simp only at o8
                split at o8
                · rename_i hs
                  have hDn6 : ι6[S1.length]? = some D := e6.pre _ _ (e5.pre _ _ (e4.pre _ _ (e3.pre _ _ hDn)))
                  obtain ⟨vs6, ha, zz⟩ := r6.ok _ _ _ hDn6 qc
                  obtain ⟨r7, e7⟩ := r6.setL hDn6 qc ha (paired_append zz (.cons z6 .nil))
                  refine ⟨vs6, ha, szl (by rw [paired_len zz]; exact hs.1), hlt, ι6, F6, _, (((e3.trans e4).trans e5).trans e6).trans e7, r7, ?_, o8⟩
                  have hs2 := hs.2
                  unfold srcOk at hs2 ⊢
                  split
                  · trivial
                  · rename_i n hn
                    rw [hn] at hs2
                    by_cases hnn : n = S1.length
                    · subst hnn
                      simp only [hn, Option.bind_some] at hs2
                      rw [qc, List.getElem?_eq_none (Nat.le_refl _)] at hs2
                      cases hs2
                    · rw [List.getElem?_set_ne (Ne.symm hnn), hn]
                      exact hs2
                · exact o8.elim
              | _ => exact o8.elim
      · have hd : iv.items.drop i = [] := List.drop_eq_nil_of_le (by omega)
        rw [hd] at o3
        exact .inl ⟨w2 (by omega), hk S1 S3 ι1 F1 H1 ι3 F3 H3 D r1 hD e3 r3 o3⟩
    · exact o.elim
theorem lc_endS {σ : L2.St} {Q : VK} (S1 S' : Sto) (ι1 : List Addr) (F1 : Addr → Prop) (H1 : Hp) (ι' : List Addr) (F' : Addr → Prop) (H' : Hp) (D : Addr) (r1 : Rel (bx X cl) ι1 F1 S1 H1) (hD : H1 D = none) (e : Evo (ι1 ++ [D]) F1 (upd H1 D (.lst [])) ι' F' H') (r : Rel (bx X cl) ι' F' S' H')
    (o : Out (bx X cl) W σ ι1 F1 H1 (RepU (bx X cl)) Q (.ok (.r S1.length) S')) : Q (.ref D) H' :=
  o (.ref D) ι' F' H' ((Evo.newS hD).trans e) r (.r (e.pre _ _ (by rw [← r1.len]; simp)))
theorem lc_endV {σ : L2.St} {Q : VK} (S1 S' : Sto) (ι1 : List Addr) (F1 : Addr → Prop) (H1 : Hp) (ι' : List Addr) (F' : Addr → Prop) (H' : Hp) (D : Addr) (r1 : Rel (bx X cl) ι1 F1 S1 H1) (hD : H1 D = none) (e : Evo (ι1 ++ [D]) F1 (upd H1 D (.lst [])) ι' F' H') (r : Rel (bx X cl) ι' F' S' H')
    (o : Out (bx X cl) W σ ι1 F1 H1 (RepU (bx X cl)) Q (kfV S1 () S')) : Q (.ref D) H' := by
  unfold kfV at o
  split at o
  · rename_i xs qx
    split at o
    · rename_i ds qa
      split at o
      · rename_i hS
        have hDn : ι'[S1.length]? = some D := e.pre _ _ (by rw [← r1.len]; simp)
        obtain ⟨vs, ha, zz⟩ := r.ok _ _ _ hDn qx
        subst hS
        obtain ⟨ι0, a, rfl, r0⟩ := r.pop fun c hc => r1.lt hc
        have hl0 := r0.len
        have ea : a = D := by
          rw [← hl0] at hDn
          simpa using hDn
        subst ea
        rw [allV_some qa] at zz
        have e0 : Evo (ι0 ++ [a]) F' H' (ι0 ++ [a]) (addF F' a) H' := ⟨fun _ _ h => h, fun _ h => .inl h, fun _ _ _ h _ => h, fun _ _ h => h, fun _ h => h, fun _ _ _ h => h, fun _ _ _ h => h⟩
        have hz : Rep (bx X cl) (addF F' a) H' (.ref a) (.lst ds) := .lst (.inr rfl) ha ((repus_reps zz).mono e0)
        have eb := (Evo.newS (ι := ι1) (F := F1) (o := .lst []) hD).trans e
        refine o (.ref a) ι0 (addF F' a) H' ⟨fun n b h => ?_, fun b h => .inl (eb.sub b h), eb.keep, eb.tups, eb.alive, eb.lkd, eb.kext⟩ r0 (.v hz)
        have h2 := eb.pre n b h
        rw [List.getElem?_append_left (by rw [hl0, ← r1.len]; exact (List.getElem?_eq_some_iff.mp h).1)] at h2
        exact h2
      · exact o.elim
    · exact o.elim
  · exact o.elim
variable {elt tg iter : Expr} {ifs : List Expr} {scope : Scope} {own : List (Str × Nat)} {pos spos py : Pos} {mi : MI} {g : MG} {js : List Nat} {t : MT} {me : ME} {i : Nat} {y : Str}
/-- every block of the comprehension -/
abbrev Blk (X : Cx) (scope : Scope) (Pr : Cx → Prop) : Prop := ∀ (s : Shared) (H : Hp) (C : Addr) (cz : List (Str × Addr)) (fp : List Addr), Pr (X.blk s H scope (compEnvC scope cz C X.env) fp)
theorem qe_lcS (hc : X.calm = true) (hN : X.N.Nodup) (hi : QI X cl W tg iter mi) (ok : BlkOk X.N X.env.scope scope own) (hg : Blk X scope fun Y => QG Y cl tg js g) (ht : Blk X scope fun Y => QTs Y cl W0 ifs t) (he : Blk X scope fun Y => QE Y cl W0 elt me) (hj : ∀ j ∈ js, j ∈ own.map (·.2))
    (hs : ∀ x, foldedSetIterable iter X.env x = pure x := by intro _; rfl) : QE X cl W (.ListComp elt [⟨tg, iter, ifs, 0⟩] scope pos) (eLcS (own.map (·.2)) mi g t me) :=
  PE.imp (pe_lc (own := own) (g := liftG (bx X cl) js g) (tt := liftT (bx X cl) W0 t) (te := liftE (bx X cl) W0 me) hc hN hi ok (fun a b c d e => hg a b c d e) (fun a b c d e => ht a b c d e) (fun a b c d e => he a b c d e) hs) fun σ H Q h => lc_read hj h lc_endS
theorem qe_lcV (hc : X.calm = true) (hN : X.N.Nodup) (hi : QI X cl W tg iter mi) (ok : BlkOk X.N X.env.scope scope own) (hg : Blk X scope fun Y => QG Y cl tg js g) (ht : Blk X scope fun Y => QTs Y cl W0 ifs t) (he : Blk X scope fun Y => QE Y cl W0 elt me) (hj : ∀ j ∈ js, j ∈ own.map (·.2))
    (hs : ∀ x, foldedSetIterable iter X.env x = pure x := by intro _; rfl) : QE X cl W (.ListComp elt [⟨tg, iter, ifs, 0⟩] scope pos) (eLcV (own.map (·.2)) mi g t me) :=
  PE.imp (pe_lc (own := own) (g := liftG (bx X cl) js g) (tt := liftT (bx X cl) W0 t) (te := liftE (bx X cl) W0 me) hc hN hi ok (fun a b c d e => hg a b c d e) (fun a b c d e => ht a b c d e) (fun a b c d e => he a b c d e) hs) fun σ H Q h => lc_read hj h lc_endV
theorem asg_lift {m : ME} {D : Ends} {σ : L2.St} {H : Hp} (h : liftS (bx X cl) W (sAsg m (gName i)) D σ H) : liftE (bx X cl) W m σ H (fun x H1 => L2.gName i x σ H1 D.nx) := by
  obtain ⟨ι, F, S, ρ, r, en, o⟩ := h
  exact ⟨ι, F, S, ρ, r, en, (o.st en).mono fun v H1 ⟨ι1, F1, S1, u, e1, r1, z1, o1⟩ =>
    o1 _ ι1 F1 H1 Evo.refl r1 (paired_set (P := RepO (bx X cl) ι1 F1 H1) (x := some v) (y := some u) z1 i (en.mono e1))⟩
theorem qs_setLcS (hc : X.calm = true) (hN : X.N.Nodup) (hy : X.N[i]? = some y) (hyl : X.env.scope.names.lookup y = some .local) (hsw : swapsWith (.ListComp elt [⟨tg, iter, ifs, 0⟩] scope pos) (some (.Name y py)) spos.line X.env = pure true)
    (hi : QI X cl W tg iter mi) (ok : BlkOk X.N X.env.scope scope own) (hg : Blk X scope fun Y => QG Y cl tg js g) (ht : Blk X scope fun Y => QTs Y cl W0 ifs t) (he : Blk X scope fun Y => QE Y cl W0 elt me) (hj : ∀ j ∈ js, j ∈ own.map (·.2))
    (hs : ∀ x, foldedSetIterable iter X.env x = pure x := by intro _; rfl) : QS X cl W (.Assign [.Name y py] (.ListComp elt [⟨tg, iter, ifs, 0⟩] scope pos) spos) (sAsg (eLcS (own.map (·.2)) mi g t me) (gName i)) :=
  PS.imp (ps_setLc (own := own) (g := liftG (bx X cl) js g) (tt := liftT (bx X cl) W0 t) (te := liftE (bx X cl) W0 me) hc hN hy hyl hsw hi ok (fun a b c d e => hg a b c d e) (fun a b c d e => ht a b c d e) (fun a b c d e => he a b c d e) hs) fun D σ H h => lc_read hj (asg_lift h) lc_endS
theorem qs_setLcV (hc : X.calm = true) (hN : X.N.Nodup) (hy : X.N[i]? = some y) (hyl : X.env.scope.names.lookup y = some .local) (hsw : swapsWith (.ListComp elt [⟨tg, iter, ifs, 0⟩] scope pos) (some (.Name y py)) spos.line X.env = pure true)
    (hi : QI X cl W tg iter mi) (ok : BlkOk X.N X.env.scope scope own) (hg : Blk X scope fun Y => QG Y cl tg js g) (ht : Blk X scope fun Y => QTs Y cl W0 ifs t) (he : Blk X scope fun Y => QE Y cl W0 elt me) (hj : ∀ j ∈ js, j ∈ own.map (·.2))
    (hs : ∀ x, foldedSetIterable iter X.env x = pure x := by intro _; rfl) : QS X cl W (.Assign [.Name y py] (.ListComp elt [⟨tg, iter, ifs, 0⟩] scope pos) spos) (sAsg (eLcV (own.map (·.2)) mi g t me) (gName i)) :=
  PS.imp (ps_setLc (own := own) (g := liftG (bx X cl) js g) (tt := liftT (bx X cl) W0 t) (te := liftE (bx X cl) W0 me) hc hN hy hyl hsw hi ok (fun a b c d e => hg a b c d e) (fun a b c d e => ht a b c d e) (fun a b c d e => he a b c d e) hs) fun D σ H h => lc_read hj (asg_lift h) lc_endV
end
end Pu
/-! Pu: dicts whose keys are (nested) tuples. -/
namespace Pu
open PySem L2

def asDic (S : Sto) : U → Option (List (D × U))
  | .v (.dic kvs) => some (kvs.map fun p => (p.1, .v p.2))
  | .r n => match S[n]? with
    | some (.dic kvs) => some kvs
    | some (.dicL kvs) => some kvs
    | _ => none
  | _ => none
noncomputable def dget (kvs : List (D × U)) (k : D) : Option U := (kvs.find? fun p => decide (p.1 = k)).map (·.2)
noncomputable def dhas (kvs : List (D × U)) (k : D) : Bool := (dget kvs k).isSome
noncomputable def dput (kvs : List (D × U)) (k : D) (w : U) : List (D × U) := if dhas kvs k = true then kvs.map fun p => if p.1 = k then (p.1, w) else p else kvs ++ [(k, w)]
theorem repK_paired {B : Bx} {ι : List Addr} {F : Addr → Prop} {H : Hp} : ∀ {es : List Ent} {kvs : List (D × D)}, RepK B F H es kvs → RepKU B ι F H es (kvs.map fun p => (p.1, U.v p.2))
  | _, _, .nil => .nil
  | _, _, .cons a b c d e f => .cons ⟨a, b, c, _, d, .v e⟩ (repK_paired f)
theorem asDic_ok {B : Bx} {ι : List Addr} {F : Addr → Prop} {H : Hp} {S : Sto} {v : V} {u : U} {kvs : List (D × U)} (r : Rel B ι F S H) (z : RepU B ι F H v u) (e : asDic S u = some kvs) :
    ∃ a es, v = .ref a ∧ Rd H a (dicO B.prog B.w a es) ∧ es.length ≤ sizeLine ∧ RepKU B ι F H es kvs := by
  cases z with
  | v z =>
    cases z with
    | dic f h hz rs => cases e; exact ⟨_, _, rfl, h, hz, repK_paired rs⟩
    | _ => cases e
  | @r n a h =>
    unfold asDic at e
    simp only at e
    cases q : S[n]? with
    | none => rw [q] at e; cases e
    | some c =>
      rw [q] at e
      have ok := r.ok n a c h q
      cases c with
      | dic ys =>
        cases e
        obtain ⟨es, h1, h2, h3⟩ := ok
        exact ⟨a, es, rfl, .inl h1, h2, h3⟩
      | dicL ys =>
        cases e
        obtain ⟨es, od, h1, h2, h3⟩ := ok
        exact ⟨a, es, rfl, .inr ⟨od, h1⟩, h2, h3⟩
      | _ => cases e
section
variable {X : Cx} {cl : Nat → Addr} {W : WX} {pins : List (Addr × Obj)} {σ : L2.St} {ι : List Addr} {F : Addr → Prop} {H : Hp} {s : Shared} {a b : Addr} {es : List Ent} {kvs : List (D × U)} {k : D} {nk : NestedKey} {w : U}
theorem keys_is (I : Inv X pins σ H s) : ∀ {es : List Ent} {kvs : List (D × U)}, RepKU (bx X cl) ι F H es kvs → ∀ x ∈ es, (nestedKind X.prog X.w).is s.heap x.1 x.2.1
  | _, _, .nil, x, hx => by cases hx
  | _, _, .cons ⟨h1, h2, h3, _⟩ t, x, hx => by
    rcases List.mem_cons.mp hx with e | e
    · subst e
      exact ⟨rep_key (u := .ref _) I h2 rfl h1, h3⟩
    · exact keys_is I t x e
theorem dic_h (I : Inv X pins σ H s) (h : Rd H a (dicO X.prog X.w a es)) (rk : RepKU (bx X cl) ι F H es kvs) : s.heap.DictOfH (nestedKind X.prog X.w) a es ∧ (a == sysModules) = false := by
  have hk : ObjOk X.prog X.w H s.heap a (dicO X.prog X.w a es) := by
    rcases h with h | ⟨od, h⟩
    · exact I.hok a _ h
    · exact (I.hok a _ h).2
  obtain ⟨⟨o, es', ep, h1, h2, h3, h4, h5, h6⟩, _, _⟩ := hk
  exact ⟨⟨o, es', ep, h1, h2, h3, h4, keys_is I rk, h5⟩, h6⟩
theorem atKey_cons (x : Ent) (xs : List Ent) (nk : NestedKey) : atKey (x :: xs) nk = if x.1 = nk then some x.2 else atKey xs nk := by
  unfold atKey
  rw [List.find?_cons]
  by_cases h : x.1 = nk
  · rw [decide_eq_true h, if_pos h]; rfl
  · rw [decide_eq_false h, if_neg h]
theorem dget_cons (p : D × U) (kvs : List (D × U)) (k : D) : dget (p :: kvs) k = if p.1 = k then some p.2 else dget kvs k := by
  unfold dget
  rw [List.find?_cons]
  by_cases h : p.1 = k
  · rw [decide_eq_true h, if_pos h]; rfl
  · rw [decide_eq_false h, if_neg h]
@[simp] theorem dget_nil (k : D) : dget [] k = none := rfl
theorem key_iff {p k : D} {x nk : NestedKey} (h1 : nkey p = some x) (h2 : nkey k = some nk) : x = nk ↔ p = k := ⟨fun e => nkey_inj h1 (by rw [h2, e]), fun e => by subst e; rw [h1] at h2; cases h2; rfl⟩
theorem at_get (hk : nkey k = some nk) : ∀ {es : List Ent} {kvs : List (D × U)}, RepKU (bx X cl) ι F H es kvs → (∃ b u v w, atKey es nk = some (b, u) ∧ dget kvs k = some w ∧ RelV v u ∧ RepU (bx X cl) ι F H v w) ∨ (atKey es nk = none ∧ dget kvs k = none)
  | _, _, .nil => .inr ⟨rfl, rfl⟩
  | _, _, .cons (a := x) (b := p) ⟨h1, h2, h3, v, h4, h5⟩ t => by
    rw [atKey_cons, dget_cons]
    by_cases e : p.1 = k
    · rw [if_pos e, if_pos ((key_iff h1 hk).mpr e)]
      exact .inl ⟨_, _, v, _, rfl, rfl, h4, h5⟩
    · rw [if_neg e, if_neg (fun z => e ((key_iff h1 hk).mp z))]
      exact at_get hk t
theorem put_map (hk : nkey k = some nk) {v : V} {u : Value} (hv : RelV v u) (zv : RepU (bx X cl) ι F H v w) : ∀ {es : List Ent} {kvs : List (D × U)}, RepKU (bx X cl) ι F H es kvs → RepKU (bx X cl) ι F H (es.map (putAt nk u)) (kvs.map fun p => if p.1 = k then (p.1, w) else p)
  | _, _, .nil => .nil
  | _, _, .cons (a := x) (b := p) ⟨h1, h2, h3, v', h4, h5⟩ t => by
    refine .cons ?_ (put_map hk hv zv t)
    unfold putAt
    dsimp only
    by_cases e : p.1 = k
    · rw [if_pos e, if_pos ((key_iff h1 hk).mpr e)]
      exact ⟨h1, h2, h3, v, hv, zv⟩
    · rw [if_neg e, if_neg (fun z => e ((key_iff h1 hk).mp z))]
      exact ⟨h1, h2, h3, v', h4, h5⟩
theorem put_ok (hk : nkey k = some nk) (hd : nk.depth ≤ 8) {v : V} {u : Value} (hv : RelV v u) (zv : RepU (bx X cl) ι F H v w) (zk : Rep (bx X cl) F H (.ref b) k) (rk : RepKU (bx X cl) ι F H es kvs) : RepKU (bx X cl) ι F H (storedH es nk b u) (dput kvs k w) := by
  unfold storedH dput dhas
  rcases at_get hk rk with ⟨b', u', v', w', h1, h2, _⟩ | ⟨h1, h2⟩
  · rw [h1, h2]
    exact put_map hk hv zv rk
  · rw [h1, h2]
    exact paired_append rk (.cons ⟨hk, zk, hd, v, hv, zv⟩ .nil)
theorem stored_len (es : List Ent) (nk : NestedKey) (b : Addr) (u : Value) : (storedH es nk b u).length ≤ es.length + 1 := by
  unfold storedH
  split
  · simp
  · simp
/-- the room that a key asks -/
theorem kroom {A : Around} (hu : A.units + 20 < cLine) (P : Program) (w : World) : (nestedKind P w).room A.in1 := by
  show A.units + 1 + 8 < cLine
  omega
/-! ### {} -/
def fDicS : FA := fun us S => match us with
  | [] => some (.r S.length, S ++ [.dic []])
  | _ => none
theorem raw_keep {P : Program} {w : World} {a : Addr} {es : List Ent} : ∀ h1 h2 : Heap, DRaw P w a es h1 → (∀ o, h1.get? a = some o → h2.get? a = some o) → DRaw P w a es h2 := fun h1 h2 ⟨o, es', ep, e1, r⟩ k => ⟨o, es', ep, k o e1, r⟩
theorem qe_dict {pos : Pos} : QE X cl W (.Dict [] [] pos) (eCB fDicS aNil) := by
  refine ⟨fun pins s σ H Q I ⟨ι, F, S, ρ, r, en, o⟩ => ?_⟩
  have hf : H s.heap.objs.size = none := I.hok.fresh (Nat.le_refl _)
  have raw : DRaw X.prog X.w s.heap.objs.size [] (s.heap.push { cls := .type "dict", data := .dict #[] }) :=
    ⟨_, #[], 0, Heap.get?_push_size _ rfl, ⟨rfl, rfl, rfl⟩, rfl, rfl, List.nodup_nil, beq_eq_false_iff_ne.mpr (Ne.symm (Nat.ne_of_lt I.big))⟩
  refine wpAny_Dict_empty ⟨.ref s.heap.objs.size, upd H s.heap.objs.size (dicO X.prog X.w s.heap.objs.size []), I.laid (t' := s.toks) (fun _ _ q => Heap.get?_push_of_some _ q) (Nat.le_refl _) ?_, rfl, ?_⟩
  · exact ⟨raw, ⟨_, Heap.get?_push_size _ rfl⟩, raw_keep⟩
  · have e2 : Evo ι F H (ι ++ [s.heap.objs.size]) F (upd H s.heap.objs.size (dicO X.prog X.w s.heap.objs.size [])) := Evo.newS hf
    have o2 := Out.fin (show Out (bx X cl) W σ ι F H (RepU (bx X cl)) Q (ofO (fDicS [] S)) from o)
    exact o2.go e2 (r.newS hf nofun ⟨[], upd_same, Nat.zero_le _, .nil⟩) (.r (by rw [← r.len]; simp))
/-! ### k in d -/
noncomputable def fInX (neg : Bool) : F2 := fun x y S => match asDic S y with
  | some kvs => match x with
    | .v (.tup ks) => if isKey (.tup ks) = true then some (.v (.bl (cond neg (!dhas kvs (.tup ks)) (dhas kvs (.tup ks)))), S) else none
    | _ => none
  | none => fIn neg x y S
theorem repu_tup {B : Bx} {v : V} {ks : List D} (z : RepU B ι F H v (.v (.tup ks))) : ∃ b, v = .ref b ∧ Rep B F H (.ref b) (.tup ks) := by
  cases z with
  | v z => cases z with
    | tup h r => exact ⟨_, rfl, .tup h r⟩
theorem Inv.toks {X : Cx} {pins : List (Addr × Obj)} {σ : L2.St} {H : Hp} {s : Shared} (I : Inv X pins σ H s) (t : Nat) : Inv X pins σ H { s with toks := t } := I.tok t
theorem oq_inX (hu : X.A.units + 20 < cLine) : OpR X (compareOp .In) (liftOp (bx X cl) (fInX false)) := by
  intro pins s σ H x y v u Q I rx ry ⟨ι, F, S, a, b, rl, za, zb, fi⟩
  unfold fInX at fi
  cases q : asDic S b with
  | none => rw [q] at fi; exact oq_in hu pins s σ H x y v u Q I rx ry ⟨ι, F, S, a, b, rl, za, zb, fi⟩
  | some kvs =>
    rw [q] at fi
    simp only at fi
    split at fi
    · rename_i ks
      split at fi
      · rename_i hk
        obtain ⟨nk, e, d⟩ := nkey_of hk
        obtain ⟨kb, rfl, zk⟩ := repu_tup za
        obtain ⟨p, es, rfl, hp, hz, rk⟩ := asDic_ok rl zb q
        obtain ⟨hd, hs⟩ := dic_h I hp rk
        cases rx
        cases ry
        refine in_keyed (kroom hu _ _) ⟨rep_key (u := .ref kb) I zk rfl e, d⟩ hs ⟨es, hd, rfl⟩ ⟨.bl _, H, I.tok _, rfl, ?_⟩
        rw [valueAt_pairsH, Option.isSome_map]
        have : (atKey es nk).isSome = dhas kvs (.tup ks) := by
          unfold dhas
          rcases at_get e rk with ⟨_, _, _, _, h1, h2, _⟩ | ⟨h1, h2⟩ <;> rw [h1, h2] <;> rfl
        rw [this]
        exact fi.val rl (.v (.bl _))
      · exact fi.no
    · exact fi.no
theorem oq_notinX (hu : X.A.units + 20 < cLine) : OpR X (compareOp .NotIn) (liftOp (bx X cl) (fInX true)) := by
  intro pins s σ H x y v u Q I rx ry ⟨ι, F, S, a, b, rl, za, zb, fi⟩
  unfold fInX at fi
  cases q : asDic S b with
  | none => rw [q] at fi; exact oq_notin hu pins s σ H x y v u Q I rx ry ⟨ι, F, S, a, b, rl, za, zb, fi⟩
  | some kvs =>
    rw [q] at fi
    simp only at fi
    split at fi
    · rename_i ks
      split at fi
      · rename_i hk
        obtain ⟨nk, e, d⟩ := nkey_of hk
        obtain ⟨kb, rfl, zk⟩ := repu_tup za
        obtain ⟨p, es, rfl, hp, hz, rk⟩ := asDic_ok rl zb q
        obtain ⟨hd, hs⟩ := dic_h I hp rk
        cases rx
        cases ry
        refine notIn_keyed (kroom hu _ _) ⟨rep_key (u := .ref kb) I zk rfl e, d⟩ hs ⟨es, hd, rfl⟩ ⟨.bl _, H, I.tok _, rfl, ?_⟩
        rw [valueAt_pairsH, Option.isSome_map]
        have : (atKey es nk).isSome = dhas kvs (.tup ks) := by
          unfold dhas
          rcases at_get e rk with ⟨_, _, _, _, h1, h2, _⟩ | ⟨h1, h2⟩ <;> rw [h1, h2] <;> rfl
        rw [this]
        exact fi.val rl (.v (.bl _))
      · exact fi.no
    · exact fi.no
/-! ### d[k], xs[i] -/
noncomputable def fIxX : F2 := fun x y S => match asDic S x with
  | some kvs => match y with
    | .v (.tup ks) => if isKey (.tup ks) = true then (dget kvs (.tup ks)).map fun w => (w, S) else none
    | _ => none
  | none => fIx x y S
theorem xq_ixX (hu : X.A.units + 20 < cLine) : IxR X (liftOp (bx X cl) fIxX) := by
  intro value slice pins s σ H x y v u Q I rx ry ⟨ι, F, S, a, b, rl, za, zb, fi⟩ hsl
  unfold fIxX at fi
  cases q : asDic S a with
  | none => rw [q] at fi; exact xq_ix value slice pins s σ H x y v u Q I rx ry ⟨ι, F, S, a, b, rl, za, zb, fi⟩ hsl
  | some kvs =>
    rw [q] at fi
    simp only at fi
    split at fi
    · rename_i ks
      split at fi
      · rename_i hk
        obtain ⟨nk, e, d⟩ := nkey_of hk
        obtain ⟨kb, rfl, zk⟩ := repu_tup zb
        obtain ⟨p, es, rfl, hp, hz, rk⟩ := asDic_ok rl za q
        obtain ⟨hd, hs⟩ := dic_h I hp rk
        cases rx
        cases ry
        rcases at_get e rk with ⟨b', u', v', w', h1, h2, h3, h4⟩ | ⟨h1, h2⟩
        · rw [h2] at fi
          refine PyProof.Rows.tail_any hd.typeIs PySem.F.slot_dict_getitem.lookup (getItem_keyed (kroom hu _ _) ⟨rep_key (u := .ref kb) I zk rfl e, d⟩ ⟨es, hd, rfl⟩ (v := u') (by rw [valueAt_pairsH, h1]; rfl) ⟨v', H, I.tok _, h3, fi.val rl h4⟩) hsl
        · rw [h2] at fi; exact fi.no
      · exact fi.no
    · exact fi.no
/-! ### d[k] = v, xs[i] = v -/
noncomputable def fSet : U → U → U → Sto → Option Sto := fun o i v S => match o with
  | .r n => match S[n]? with
    | some (.dic kvs) => (match i with
      | .v (.tup ks) => if isKey (.tup ks) = true ∧ kvs.length < 100000 then some (S.set n (.dic (dput kvs (.tup ks) v))) else none
      | _ => none)
    | some (.lst xs) => (match i with
      | .v (.int j) => (ixN xs.length j).map fun j => S.set n (.lst (xs.set j v))
      | _ => none)
    | _ => none
  | _ => none
noncomputable def sSet (mo mi mv : ME) : MS := fun ρ S => (mv ρ S).st ρ fun v S1 => (mo ρ S1).st ρ fun o S2 => (mi ρ S2).st ρ fun i S3 => match fSet o i v S3 with
  | some S4 => .nx ρ S4
  | none => .er
theorem kput_len (kvs : List (D × U)) (k : D) (w : U) : (dput kvs k w).length ≤ kvs.length + 1 := by
  unfold dput
  split
  · simp
  · simp
def liftSet (B : Bx) (f : U → U → U → Sto → Option Sto) : TSet := fun o i v H Q => ∃ ι F S a b c S', Rel B ι F S H ∧ RepU B ι F H o a ∧ RepU B ι F H i b ∧ RepU B ι F H v c ∧ f a b c S = some S' ∧ ∀ H', Evo ι F H ι F H' → Rel B ι F S' H' → Q H'
theorem pq_set (hu : X.A.units + 20 < cLine) : PSet X (liftSet (bx X cl) fSet) := by
  intro pins s σ H ov iv vv ou iu vu Q I ro ri rv ⟨ι, F, S, o, i, v, S', rl, zo, zi, zv, e, h⟩
  unfold fSet at e
  cases zo with
  | v _ => cases e
  | @r n a hn =>
    simp only at e
    cases q : S[n]? with
    | none => rw [q] at e; cases e
    | some c =>
      rw [q] at e
      cases c with
      | dic kvs =>
        simp only at e
        split at e
        · rename_i ks
          split at e
          · rename_i hk
            cases e
            cases ro
            obtain ⟨nk, ek, d⟩ := nkey_of hk.1
            obtain ⟨kb, rfl, zk⟩ := repu_tup zi
            cases ri
            obtain ⟨es, ha, hz, rk⟩ := rl.ok n a _ hn q
            obtain ⟨hd, hs⟩ := dic_h I (.inl ha) rk
            have hl : es.length < 100000 := by rw [paired_len rk]; exact hk.2
            refine wpAny_setItem_heap (hsz := sz (by omega)) (kroom hu _ _) ⟨rep_key (u := .ref kb) I zk rfl ek, d⟩ hd fun h' hm' sb => ?_
            have nf := rl.nf n a _ hn q rfl
            have e0 : Evo ι F H ι F (upd H a (dicO X.prog X.w a (storedH es nk kb vu))) := by
              refine ⟨fun _ _ h => h, fun _ h => h, fun b u f h _ => ?_, fun b xs h => ?_, fun b h => ?_, fun b p u h => by rw [upd_ne (fun z : b = a => by rw [z, ha] at h; cases h)]; exact h, fun b φ f h => rd_ne (fun z : b = a => nf (by rw [← z]; exact f)) h⟩
              · rw [upd_ne (fun z : b = a => nf (by rw [← z]; exact f))]; exact h
              · rw [upd_ne (fun z : b = a => by rw [z, ha] at h; cases h)]; exact h
              · by_cases hb : b = a
                · rw [hb, upd_same]; simp
                · rw [upd_ne hb]; exact h
            have rk' := put_ok (b := kb) ek d rv zv zk rk
            obtain ⟨r2, e2⟩ := rl.write (o := dicO X.prog X.w a (storedH es nk kb vu)) (c' := .dic (dput kvs (.tup ks) v)) hn q rfl (fun xs z => by rw [ha] at z; cases z) nofun (fun p u z => by rw [ha] at z; cases z)
              ⟨storedH es nk kb vu, upd_same, Nat.le_trans (stored_len _ _ _ _) (sz (by omega)), rk'.mono e0⟩
            obtain ⟨o', es', ep', g1, g2, g3, g4, g5, g6⟩ := hm'
            refine ⟨_, I.write (x := a) (e := a) (o := dicO X.prog X.w a (storedH es nk kb vu)) (by rw [ha]; trivial) (.inl rfl) (fun b u hb eb => (sb.2 b hb).trans eb) ⟨o', g1⟩ ?_, h _ e2 r2⟩
            exact ⟨⟨o', es', ep', g1, g2, g3, g4, g6, hs⟩, ⟨o', g1⟩, raw_keep⟩
          · cases e
        · cases e
      | lst xs =>
        simp only at e
        split at e
        · rename_i j
          obtain ⟨j', ej, rfl⟩ := Option.map_eq_some_iff.mp e
          obtain ⟨vs, ha, zz⟩ := rl.ok n a _ hn q
          obtain ⟨r2, e2⟩ := rl.setL hn q ha (paired_set zv j' zz)
          cases zi with
          | v zi =>
            cases zi
            exact set_list pins s σ H _ _ vv ou iu vu Q I ro ri rv ⟨a, vs, j, j', rfl, rfl, ha, by rw [paired_len zz]; exact ej, h _ e2 r2⟩
        · cases e
      | _ => cases e
theorem qs_sub {o i value : Expr} {mo mi mv : ME} {pos' pos : Pos} (hu : X.A.units + 20 < cLine) (ho : QE X cl W o mo) (hi : QE X cl W i mi) (hv : QE X cl W value mv) (hs : swapsWith value (some (.Subscript o i pos')) pos.line X.env = pure false := by rfl) :
    QS X cl W (.Assign [.Subscript o i pos'] value pos) (sSet mo mi mv) := by
  refine ⟨fun pins s σ H D I ⟨ι, F, S, ρ, r, en, ot⟩ => ?_⟩
  refine wpAny_Assign_Subscript (thn (hv.run pins s σ H _ I ⟨ι, F, S, ρ, r, en, ot.st en⟩) fun vu s1 ⟨v, H1, I1, rv, ι1, F1, S1, v', e1, r1, z1, o1⟩ => ?_) hs
  refine thn (ho.run pins s1 σ H1 _ I1 ⟨ι1, F1, S1, ρ, r1, en.mono e1, o1.st (en.mono e1)⟩) fun ou s2 ⟨ov, H2, I2, ro, ι2, F2, S2, o', e2, r2, z2, o2⟩ => ?_
  refine thn (hi.run pins s2 σ H2 _ I2 ⟨ι2, F2, S2, ρ, r2, (en.mono e1).mono e2, o2.st ((en.mono e1).mono e2)⟩) fun iu s3 ⟨iv, H3, I3, ri, ι3, F3, S3, i', e3, r3, z3, o3⟩ => ?_
  cases q : fSet o' i' v' S3 with
  | none => rw [q] at o3; exact o3.elim
  | some S4 =>
    rw [q] at o3
    refine thn (pq_set hu pins s3 σ H3 ov iv v ou iu vu (fun H' => D.nx σ H') I3 ro ri rv ⟨ι3, F3, S3, o', i', v', S4, r3, z2.mono e3, z3, (z1.mono e2).mono e3, q, fun H' e4 r4 => o3 σ ι3 F3 H' e4 r4 ((((en.mono e1).mono e2).mono e3).mono e4)⟩) fun _ s4 ⟨H4, I4, q4⟩ => ?_
    exact ⟨σ, H4, I4, q4⟩
/-! ### d.get(k, x) -/
def isDc (S : Sto) (x : U) : Bool := (asDic S x).isSome
noncomputable def fGet : FM := fun o us S => match asDic S o, us with
  | some kvs, [.v (.tup ks), w] => if isKey (.tup ks) = true then some ((dget kvs (.tup ks)).getD w, S) else none
  | some kvs, [.v (.tup ks)] => if isKey (.tup ks) = true then some ((dget kvs (.tup ks)).getD (.v .non), S) else none
  | _, _ => none
theorem mq_get (hu : X.A.units + 20 < cLine) : MtR X "dict.get" (liftM (bx X cl) fGet) := by
  intro pins s σ H x xs v us Q I rx rxs ⟨ι, F, S, a, as, rl, za, zs, fi⟩
  unfold fGet at fi
  split at fi
  · rename_i kvs ks w q
    split at fi
    · rename_i hk
      obtain ⟨nk, ek, d⟩ := nkey_of hk
      obtain ⟨p, es, rfl, hp, hz, rk⟩ := asDic_ok rl za q
      obtain ⟨hd, hs⟩ := dic_h I hp rk
      cases rx
      cases zs with
      | cons z1 zs =>
        cases zs with
        | cons z2 zs =>
          cases zs
          cases rxs with
          | cons r1 rxs =>
            cases rxs with
            | cons r2 rxs =>
              cases rxs
              obtain ⟨kb, rfl, zk⟩ := repu_tup z1
              cases r1
              rcases at_get ek rk with ⟨b', u', v', w', h1, h2, h3, h4⟩ | ⟨h1, h2⟩
              · rw [h2] at fi
                exact getOr_keyed (kroom hu _ _) ⟨rep_key (u := .ref kb) I zk rfl ek, d⟩ hs ⟨es, hd, rfl⟩ ⟨v', H, I.tok _, by rw [valueAt_pairsH, h1]; exact h3, fi.val rl h4⟩
              · rw [h2] at fi
                exact getOr_keyed (kroom hu _ _) ⟨rep_key (u := .ref kb) I zk rfl ek, d⟩ hs ⟨es, hd, rfl⟩ ⟨_, H, I.tok _, by rw [valueAt_pairsH, h1]; exact r2, fi.val rl z2⟩
    · exact fi.no
  · rename_i kvs ks q
    split at fi
    · rename_i hk
      obtain ⟨nk, ek, d⟩ := nkey_of hk
      obtain ⟨p, es, rfl, hp, hz, rk⟩ := asDic_ok rl za q
      obtain ⟨hd, hs⟩ := dic_h I hp rk
      cases rx
      cases zs with
      | cons z1 zs =>
        cases zs
        cases rxs with
        | cons r1 rxs =>
          cases rxs
          obtain ⟨kb, rfl, zk⟩ := repu_tup z1
          cases r1
          rcases at_get ek rk with ⟨b', u', v', w', h1, h2, h3, h4⟩ | ⟨h1, h2⟩
          · rw [h2] at fi
            exact get_keyed (kroom hu _ _) ⟨rep_key (u := .ref kb) I zk rfl ek, d⟩ hs ⟨es, hd, rfl⟩ ⟨v', H, I.tok _, by rw [valueAt_pairsH, h1]; exact h3, fi.val rl h4⟩
          · rw [h2] at fi
            exact get_keyed (kroom hu _ _) ⟨rep_key (u := .ref kb) I zk rfl ek, d⟩ hs ⟨es, hd, rfl⟩ ⟨.non, H, I.tok _, by rw [valueAt_pairsH, h1]; rfl, fi.val rl (.v .non)⟩
    · exact fi.no
  · exact fi.no
/-- a dict's method -/
theorem qe_dm {o e : Expr} {es : List Expr} {mo : ME} {mA : MA} {f : FM} {name : Str} {id : String} {apos cpos : Pos} (slot : Slot "dict" name id) (hty : typeOf (.builtin id) = pure (.type "method_descriptor")) (hm : MtR X id (liftM (bx X cl) f)) (ho : QE X cl W o mo) (ha : QA X cl W (e :: es) mA)
    (hbase : attributeBase o name X.env (eval o X.env) = eval o X.env := by rfl)
    (hfew : ((backTo cpos (starEach (e :: es) X.env)).all (fun x => !x.1) && (backToKw cpos (keywordEach [] X.env)).all (fun x => x.1.isSome)
      && decide ((e :: es).length + ([] : List Keyword).length + (if ([] : List Keyword).isEmpty then 0 else 1) < 30)) = true := by rfl)
    (hline : (apos.endLine == cpos.line) = true := by rfl) (hs : starEach (e :: es) X.env = (false, eval e X.env) :: starEach es X.env := by rfl) (hplain : (backTo cpos (starEach es X.env)).any (·.1) = false := by rfl) :
    QE X cl W (.Call (.Attribute o name apos) (e :: es) [] cpos) (eMtT isDc f mo mA) := by
  refine ⟨fun pins s σ H Q I ⟨ι, F, S, ρ, r, en, ot⟩ => ?_⟩
  refine wpAny_Call_method hbase hfew hline PySem.F.plainAttrs_dict slot hty (thn (ho.run pins s σ H _ I ⟨ι, F, S, ρ, r, en, ot.bind⟩) fun u s1 ⟨x, H1, I1, rx, ι1, F1, S1, x', e1, r1, z1, o1⟩ => ?_)
  split at o1
  · rename_i hc
    unfold isDc at hc
    cases q : asDic S1 x' with
    | none => rw [q] at hc; cases hc
    | some kvs =>
      obtain ⟨p, ens, rfl, hp, hz, rk⟩ := asDic_ok r1 z1 q
      obtain ⟨hd, hsm⟩ := dic_h I1 hp rk
      obtain rfl : u = Value.ref p := rx
      refine ⟨hd.typeIs, fun b eb => ?_, ?_⟩
      · cases eb
        obtain ⟨ob, _, _, g1, g2, _⟩ := hd
        exact ⟨ob, g1, g2.2.1⟩
      · have hA := PA.run ha cpos pins s1 σ H1 _ I1 ⟨ι1, F1, S1, ρ, r1, en.mono e1, o1.bind⟩
        rw [hs] at hA ⊢
        refine Calls.callWith_builtin (by show (false || (backTo cpos (starEach es X.env)).any (·.1)) = false; rw [hplain] <;> rfl) (Calls.evalArgs_plain ?_)
        exact thn hA fun us s2 ⟨vs, H2, I2, r2, ι2, F2, S2, y', e2, rr2, z2, o2⟩ => hm pins s2 σ H2 (.ref p) vs (.ref p) us Q I2 rfl r2 ⟨ι2, F2, S2, x', y', rr2, z1.mono e2, z2, o2.fin⟩
  · exact o1.elim
end
end Pu
/-! Pu: classes made, methods, instances called, isinstance. -/
namespace Pu
open PySem L2
open PyProof.Rows hiding St

/-- the wish does not look at the slots -/
def WI (W : WX) : Prop := ∀ cls d σ σ' H, W cls d σ H → W cls d σ' H
theorem wi_d (E : XK) : WI (Wd E) := fun _ _ _ _ _ h => h
theorem wi_0 : WI W0 := fun _ _ _ _ _ h => h
abbrev E1 (W : WX) : XK := fun cls d H => W cls d [] H
theorem passW {X : Cx} {W : WX} (tk : Takes X W) (wi : WI W) : Passes (L2.CX X.prog X.w) X (E1 W) := fun pins σ H s e s' I c => passes_call tk (fun cls d σ H h => wi _ _ _ _ _ h) pins σ H s e s' I c
section
variable {B : Bx} {W : WX} {σ : L2.St} {ι : List Addr} {F : Addr → Prop} {H : Hp}
theorem out_e {β α : Type} {rep : List Addr → (Addr → Prop) → Hp → β → α → Prop} {Q : β → Hp → Prop} {r : R α} (wi : WI W) (h : Out B W σ ι F H rep Q r) : Out B (fun cls d _ H' => E1 W cls d H') [] ι F H rep Q r := by
  cases r with
  | ok a S' => exact h
  | ex c fs S' => exact fun dx vs ι' F' H' e r hx z => wi _ _ _ _ _ (h dx vs ι' F' H' e r hx z)
  | er => exact h
end
/-! ### a new instance -/
/-- C(..): the new instance is a cell; args: how the arguments come to the parameters -/
def eMake (c n : Nat) (mf : List U → Sto → R U) (args : List U) (S : Sto) : R U :=
  if args.length + 1 = n then (mf (.r S.length :: args) (S ++ [.ins c []])).bind fun u S1 => match u with
    | .v .non => .ok (.r S.length) S1
    | _ => .er
  else .er
section
variable {X : Cx} {cl : Nat → Addr} {W : WX} {k n : Nat} {f C : Addr} {fd : FuncData} {ps ks : List Str} {mf : List U → Sto → R U} {x m : Str} {p pos apos : Pos} {e o : Expr} {es : List Expr} {mo : ME} {mA mK : MA} {kws : List Keyword}
theorem make_sp {c : Nat} {σ : L2.St} {ι : List Addr} {F : Addr → Prop} {H : Hp} {S : Sto} {Q : VK} {vs : List V} {us : List U} (wi : WI W) (r : Rel (bx X cl) ι F S H) (z : RepUs (bx X cl) ι F H vs us)
    (o : Out (bx X cl) W σ ι F H (RepU (bx X cl)) Q (eMake c n mf us S)) : ∀ x dx, H x = none → H dx = none → dx ≠ x → SpM (bx X cl) n mf (.ref x :: vs) (upd (upd H dx (.own x)) x (.ins (cl c) dx [])) (fun v H2 => v = .non ∧ Q (.ref x) H2) (E1 W) := by
  intro x dx hx hdx ne
  unfold eMake at o
  split at o
  · rename_i hl
    have hx' : (upd H dx (.own x)) x = none := by rw [upd_ne (Ne.symm ne)]; exact hx
    have e1 : Evo ι F H ι F (upd H dx (.own x)) := Evo.new hdx
    have e2 : Evo ι F (upd H dx (.own x)) (ι ++ [x]) F (upd (upd H dx (.own x)) x (.ins (cl c) dx [])) := Evo.newS hx'
    have r2 : Rel (bx X cl) (ι ++ [x]) F (S ++ [.ins c []]) (upd (upd H dx (.own x)) x (.ins (cl c) dx [])) :=
      (r.new hdx).newS hx' nofun ⟨dx, [], upd_same, by rw [upd_ne ne, upd_same], fun z => r.fthere dx z hdx, .nil⟩
    refine ⟨by rw [List.length_cons, paired_len z]; exact hl, ι ++ [x], F, S ++ [.ins c []], .r S.length :: us, r2, .cons (.r (by rw [← r.len]; simp)) ((z.mono e1).mono e2), ?_⟩
    have o2 := Out.shift (e1.trans e2) (out_e wi o)
    refine (o2.bind).mono fun v H3 ⟨ι3, F3, S3, u, e3, r3, z3, o3⟩ => ?_
    split at o3
    · have hv : v = .non := (repu_non z3).mpr rfl
      exact ⟨hv, o3 _ ι3 F3 H3 Evo.refl r3 (.r (e3.pre _ _ (by rw [← r.len]; simp)))⟩
    · exact o3.elim
  · exact o.elim
/-- C(e, ..), the defaults dds fill up -/
def eMk (c n : Nat) (mf : List U → Sto → R U) (dds : List U) (a : MA) : ME := fun ρ S => (a ρ S).bind fun us S1 => eMake c n mf (us ++ dds) S1
theorem qe_make {c : Nat} {dvs : List V} {ds : List Value} {dds : List D} (M : Mk X.K (cl c) f) (Fn : FnOk X.prog X.w X.K X.mg X.base (L2.CX X.prog X.w) k f fd ps (SpM (bx X cl) n mf)) (tk : Takes X W) (wi : WI W) (hr : Room (k + 1) X.A) (hg : Gl X x) (hm : X.mg x = some (.ref (cl c))) (hb : Binds X.K fd ps ds) (hd : Vals dvs ds) (hD : Dfl cl dvs dds)
    (ha : QA X cl W (e :: es) mA) (hdb : (x == ("__debug__" : Str)) = false := by decide) (he : starEach (e :: es) X.env = (false, eval e X.env) :: starEach es X.env := by rfl) (hpl : (backTo pos (starEach es X.env)).any (·.1) = false := by rfl) :
    QE X cl W (.Call (.Name x p) (e :: es) [] pos) (eMk c n mf (dds.map U.v) mA) :=
  PE.imp (pe_make M Fn hr hg hm hb hd (passW tk wi) ha hdb he hpl) fun σ H Q ⟨ι, F, S, ρ, r, en, o⟩ => ⟨ι, F, S, ρ, r, en, o.bind.mono fun vs H1 ⟨ι1, F1, S1, us, e1, r1, z1, o1⟩ =>
    fun x dx hx hdx ne => make_sp wi r1 (paired_append z1 (reps_u (hD _ F1 H1 rfl))) o1 x dx hx hdx ne⟩
/-- keywords -/
def QK (X : Cx) (cl : Nat → Addr) (W : WX) (kws : List Keyword) (m : MA) : Prop := PK X kws (liftA (bx X cl) W m)
theorem PK.imp {X : Cx} {e : List Keyword} {t t' : TA} (h : PK X e t) (k : ∀ σ H Q, t' σ H Q → t σ H Q) : PK X e t' := ⟨fun pos pins s σ H Q I hq => h.run pos pins s σ H Q I (k σ H Q hq)⟩
theorem qk_nil : QK X cl W [] aNil := PK.imp pk_nil fun σ H Q ⟨ι, F, S, ρ, r, en, o⟩ => o [] ι F H Evo.refl r .nil
theorem qk_cons {nm : Option Str} {kpos : Pos} (ha : QE X cl W e mo) (hr : QK X cl W kws mA) : QK X cl W (⟨nm, e, kpos⟩ :: kws) (aCons mo mA) :=
  PK.imp (pk_cons ha hr) fun σ H Q ⟨ι, F, S, ρ, r, en, o⟩ => ⟨ι, F, S, ρ, r, en, o.bind.mono fun x H1 ⟨ι1, F1, S1, x', e1, r1, z1, o1⟩ =>
    ⟨ι1, F1, S1, ρ, r1, en.mono e1, o1.bind.mono fun y H2 ⟨ι2, F2, S2, y', e2, r2, z2, o2⟩ => o2 _ ι2 F2 H2 Evo.refl r2 (.cons (z1.mono e2) z2)⟩⟩
/-- how the values come to the parameters: gV on V's, gU on U's -/
def GRel (gV : List V → List V → List V) (gU : List U → List U → List U) : Prop := ∀ (B : Bx) (ι : List Addr) (F : Addr → Prop) (H : Hp) (vs zs : List V) (us ws : List U), RepUs B ι F H vs us → RepUs B ι F H zs ws → RepUs B ι F H (gV vs zs) (gU us ws)
def eMkK (c n np nk : Nat) (mf : List U → Sto → R U) (gU : List U → List U → List U) (a b : MA) : ME := fun ρ S => (a ρ S).bind fun us S1 => (b ρ S1).bind fun ws S2 => if us.length = np ∧ ws.length = nk then eMake c n mf (gU us ws) S2 else .er
theorem qe_makeK {c np : Nat} {g : List Value → List Value → List Value} {gV : List V → List V → List V} {gU : List U → List U → List U} (M : Mk X.K (cl c) f) (Fn : FnOk X.prog X.w X.K X.mg X.base (L2.CX X.prog X.w) k f fd ps (SpM (bx X cl) n mf)) (tk : Takes X W) (wi : WI W) (hr : Room (k + 1) X.A) (hg : Gl X x) (hm : X.mg x = some (.ref (cl c)))
    (hb : KBn X.K fd ps (np + 1) ks g gV) (hG : GRel (fun vs zs => (gV (.ref 0 :: vs) zs).tail) gU) (hH : ∀ v vs zs, gV (v :: vs) zs = v :: (gV (.ref 0 :: vs) zs).tail) (ha : QA X cl W (e :: es) mA) (hkw : QK X cl W kws mK)
    (hall : (backToKw pos (keywordEach kws X.env)).all (·.1.isSome) = true := by rfl) (hks : (backToKw pos (keywordEach kws X.env)).filterMap (·.1) = ks := by rfl) (hdb : (x == ("__debug__" : Str)) = false := by decide)
    (he : starEach (e :: es) X.env = (false, eval e X.env) :: starEach es X.env := by rfl) (hpl : ((backTo pos (starEach (e :: es) X.env)).any (·.1) || (backToKw pos (keywordEach kws X.env)).any (·.1.isNone)) = false := by rfl) :
    QE X cl W (.Call (.Name x p) (e :: es) kws pos) (eMkK c n np ks.length mf gU mA mK) :=
  PE.imp (pe_makeK M Fn hr hg hm hb (passW tk wi) ha hkw hall hks hdb he hpl) fun σ H Q ⟨ι, F, S, ρ, r, en, o⟩ => ⟨ι, F, S, ρ, r, en, o.bind.mono fun vs H1 ⟨ι1, F1, S1, us, e1, r1, z1, o1⟩ =>
    ⟨ι1, F1, S1, ρ, r1, en.mono e1, o1.bind.mono fun zs H2 ⟨ι2, F2, S2, ws, e2, r2, z2, o2⟩ => by
      split at o2
      · rename_i hl
        refine ⟨by rw [paired_len z1]; exact hl.1, by rw [paired_len z2]; exact hl.2, fun x dx hx hdx ne => ?_⟩
        rw [hH]
        exact make_sp wi r2 (hG _ _ _ _ _ _ _ _ (z1.mono e2) z2) o2 x dx hx hdx ne
      · exact o2.elim⟩⟩
/-! ### o.m(..) -/
/-- a method of the class c with n parameters -/
def eMeth (c n : Nat) (m : Str) (mf : List U → Sto → R U) (dds : List U) (mo : ME) (a : MA) : ME := fun ρ S => (mo ρ S).bind fun x S1 => match asIns S1 x with
  | some (c', fs) => if c' = c ∧ fs.lookup m = none then (a ρ S1).bind fun us S2 => if us.length + dds.length + 1 = n then mf (x :: (us ++ dds)) S2 else .er else .er
  | none => .er
theorem meth_sp {σ : L2.St} {ι : List Addr} {F : Addr → Prop} {H : Hp} {S : Sto} {Q : VK} {v : V} {u : U} {vs dvs : List V} {us : List U} {dds : List D} (wi : WI W) (hD : Dfl cl dvs dds) (r : Rel (bx X cl) ι F S H) (zv : RepU (bx X cl) ι F H v u) (z : RepUs (bx X cl) ι F H vs us)
    (o : Out (bx X cl) W σ ι F H (RepU (bx X cl)) Q (if us.length + (dds.map U.v).length + 1 = n then mf (u :: (us ++ dds.map U.v)) S else .er)) : SpM (bx X cl) n mf (v :: (vs ++ dvs)) H Q (E1 W) := by
  have zz : RepUs (bx X cl) ι F H (v :: (vs ++ dvs)) (u :: (us ++ dds.map U.v)) := .cons zv (paired_append z (reps_u (hD _ F H rfl)))
  split at o
  · rename_i hl
    refine ⟨?_, ι, F, S, _, r, zz, out_e wi o⟩
    rw [paired_len zz]
    simpa using hl
  · exact o.elim
theorem qe_meth {c : Nat} {dvs : List V} {ds : List Value} {dds : List D} {pl : Sem Bool} (ho : QE X cl W o mo) (hc : Cls X.K (cl c)) (hm : Meth X.K (cl c) m f) (Fn : FnOk X.prog X.w X.K X.mg X.base (L2.CX X.prog X.w) k f fd ps (SpM (bx X cl) n mf)) (tk : Takes X W) (wi : WI W) (hr : Room k X.A) (hb : Binds X.K fd ps ds) (hd : Vals dvs ds) (hD : Dfl cl dvs dds) (ha : QA X cl W (e :: es) mA)
    (hst : starEach (e :: es) X.env = (false, eval e X.env) :: starEach es X.env := by rfl) (hpl : (backTo pos (starEach es X.env)).any (·.1) = false := by rfl)
    (ht : eval (.Call (.Attribute o m apos) (e :: es) [] pos) X.env = (do
      let ov ← eval o X.env
      standAt apos.atName
      let (f, first) ← holding [ov] (getMethod ov m pl)
      callWith pos f first (backTo pos (starEach (e :: es) X.env)) (backToKw pos (keywordEach [] X.env))) := by rfl) :
    QE X cl W (.Call (.Attribute o m apos) (e :: es) [] pos) (eMeth c n m mf (dds.map U.v) mo mA) :=
  PE.imp (pe_meth (pl := pl) ho hc hm Fn hr hb hd (passW tk wi) ha hst hpl ht) fun σ H Q ⟨ι, F, S, ρ, r, en, o⟩ => ⟨ι, F, S, ρ, r, en, o.bind.mono fun x H1 ⟨ι1, F1, S1, x', e1, r1, z1, o1⟩ => by
    cases q : asIns S1 x' with
    | none => rw [q] at o1; exact o1.elim
    | some pr =>
      obtain ⟨c', fs⟩ := pr
      rw [q] at o1
      simp only at o1
      split at o1
      · rename_i hcc
        obtain ⟨rfl, hl⟩ := hcc
        obtain ⟨a, dx, vs, rfl, hx, zf⟩ := asIns_ok r1 z1 q
        exact ⟨a, dx, vs, rfl, hx, (lookup_paired zf).2 hl, ι1, F1, S1, ρ, r1, en.mono e1, o1.bind.mono fun ys H2 ⟨ι2, F2, S2, y', e2, r2, z2, o2⟩ => meth_sp wi hD r2 (z1.mono e2) z2 o2⟩
      · exact o1.elim⟩
theorem qe_meth0 {c : Nat} {dvs : List V} {ds : List Value} {dds : List D} {pl : Sem Bool} (ho : QE X cl W o mo) (hc : Cls X.K (cl c)) (hm : Meth X.K (cl c) m f) (Fn : FnOk X.prog X.w X.K X.mg X.base (L2.CX X.prog X.w) k f fd ps (SpM (bx X cl) n mf)) (tk : Takes X W) (wi : WI W) (hr : Room k X.A) (hb : Binds X.K fd ps ds) (hd : Vals dvs ds) (hD : Dfl cl dvs dds)
    (ht : eval (.Call (.Attribute o m apos) [] [] pos) X.env = (do
      let ov ← eval o X.env
      standAt apos.atName
      let (f, first) ← holding [ov] (getMethod ov m pl)
      callWith pos f first (backTo pos (starEach [] X.env)) (backToKw pos (keywordEach [] X.env))) := by rfl) :
    QE X cl W (.Call (.Attribute o m apos) [] [] pos) (eMeth c n m mf (dds.map U.v) mo aNil) :=
  PE.imp (pe_meth0 (pl := pl) ho hc hm Fn hr hb hd (passW tk wi) ht) fun σ H Q ⟨ι, F, S, ρ, r, en, o⟩ => ⟨ι, F, S, ρ, r, en, o.bind.mono fun x H1 ⟨ι1, F1, S1, x', e1, r1, z1, o1⟩ => by
    cases q : asIns S1 x' with
    | none => rw [q] at o1; exact o1.elim
    | some pr =>
      obtain ⟨c', fs⟩ := pr
      rw [q] at o1
      simp only at o1
      split at o1
      · rename_i hcc
        obtain ⟨rfl, hl⟩ := hcc
        obtain ⟨a, dx, vs, rfl, hx, zf⟩ := asIns_ok r1 z1 q
        exact ⟨a, dx, vs, rfl, hx, (lookup_paired zf).2 hl, meth_sp (vs := []) (us := []) wi hD r1 z1 .nil o1⟩
      · exact o1.elim⟩
/-! ### an instance called -/
def eCallO (c n : Nat) (mf : List U → Sto → R U) (mo : ME) (a : MA) : ME := fun ρ S => (mo ρ S).bind fun x S1 => (match asIns S1 x with
  | some _ => .ok () S1
  | none => .er : R Unit).bind fun _ S1 => (a ρ S1).bind fun us S2 => match asIns S2 x with
  | some (c', _) => if c' = c ∧ us.length + 1 = n then mf (x :: us) S2 else .er
  | none => .er
theorem fnR_of (Fn : FnOk X.prog X.w X.K X.mg X.base (L2.CX X.prog X.w) k f fd ps (SpM (bx X cl) n mf)) (hb : Binds X.K fd ps []) : FnR X.prog X.w X.K X.mg X.base (L2.CX X.prog X.w) k f (SpM (bx X cl) n mf) :=
  (FnOk.raw Fn hb .nil).imp fun vs H Q E h => by rw [List.append_nil]; exact h
theorem qe_callO {c : Nat} {fe : Expr} {mfe : ME} (hf : QE X cl W fe mfe) (co : StX.CallO X.K (cl c) f) (Fn : FnOk X.prog X.w X.K X.mg X.base (L2.CX X.prog X.w) k f fd ps (SpM (bx X cl) n mf)) (tk : Takes X W) (wi : WI W) (hr : Room k X.A) (hb : Binds X.K fd ps []) (ha : QA X cl W (e :: es) mA)
    (ht : eval (.Call fe (e :: es) [] pos) X.env = (do callWith pos (← eval fe X.env) [] (backTo pos (starEach (e :: es) X.env)) (backToKw pos (keywordEach [] X.env))) := by rfl)
    (he : starEach (e :: es) X.env = (false, eval e X.env) :: starEach es X.env := by rfl) (hpl : (backTo pos (starEach es X.env)).any (·.1) = false := by rfl) :
    QE X cl W (.Call fe (e :: es) [] pos) (eCallO c n mf mfe mA) :=
  PE.imp (StX.pe_callO hf co (fnR_of Fn hb) hr (passW tk wi) ha ht he hpl) fun σ H Q ⟨ι, F, S, ρ, r, en, o⟩ => ⟨ι, F, S, ρ, r, en, o.bind.mono fun x H1 ⟨ι1, F1, S1, x', e1, r1, z1, o1⟩ => by
    cases q : asIns S1 x' with
    | none => rw [q] at o1; exact o1.elim
    | some pr =>
      rw [q] at o1
      obtain ⟨c', fs⟩ := pr
      obtain ⟨a, dx, vs, rfl, hx, zf⟩ := asIns_ok r1 z1 q
      change Out _ _ _ _ _ _ _ _ ((mA ρ S1).bind _) at o1
      refine ⟨a, rfl, ι1, F1, S1, ρ, r1, en.mono e1, o1.bind.mono fun ys H2 ⟨ι2, F2, S2, y', e2, r2, z2, o2⟩ => ?_⟩
      cases q2 : asIns S2 x' with
      | none => rw [q2] at o2; exact o2.elim
      | some pr2 =>
        rw [q2] at o2
        obtain ⟨c2, fs2⟩ := pr2
        simp only at o2
        split at o2
        · rename_i hcc
          obtain ⟨rfl, hl⟩ := hcc
          obtain ⟨a2, dx2, vs2, ea, hx2, zf2⟩ := asIns_ok r2 (z1.mono e2) q2
          cases ea
          have zz : RepUs (bx X cl) ι2 F2 H2 (.ref a :: ys) (x' :: y') := .cons (z1.mono e2) z2
          exact ⟨.inr ⟨dx2, vs2, hx2⟩, by rw [paired_len zz]; exact hl, ι2, F2, S2, _, r2, zz, out_e wi o2⟩
        · exact o2.elim⟩
/-! ### isinstance(x, T), T a built-in type -/
def tyNm (S : Sto) : U → Option String
  | .v .non => some "NoneType"
  | .v (.bl _) => some "bool"
  | .v (.int _) => some "int"
  | .v (.str _) => some "str"
  | .v (.tup _) => some "tuple"
  | .v (.lst _) => some "list"
  | .v (.frl _) => some "list"
  | .r n => match S[n]? with
    | some (.lst _) => some "list"
    | _ => none
  | _ => none
theorem tyNm_ok {ι : List Addr} {F : Addr → Prop} {H : Hp} {S : Sto} {v : V} {u : U} {t : String} (r : Rel (bx X cl) ι F S H) (z : RepU (bx X cl) ι F H v u) (h : tyNm S u = some t) : TyX X.K H v (.type t) := by
  cases z with
  | v z =>
    cases z with
    | non => cases h; exact .base .non
    | bl b => cases h; exact .base (.bl b)
    | int i => cases h; exact .base (.int i)
    | str y _ => cases h; exact .base (.str y)
    | tup e _ => cases h; exact .base (.tup e)
    | lst _ e _ => cases h; exact .base (.lst e)
    | frl e _ =>
      cases h
      rcases e with ⟨_, o, e⟩ | ⟨o, its, n, e1, e2, _⟩
      · exact .base (.frz e)
      · exact .kList e1 e2
    | _ => cases h
  | @r n a e =>
    unfold tyNm at h
    simp only at h
    cases q : S[n]? with
    | none => rw [q] at h; cases h
    | some c =>
      rw [q] at h
      have ok := r.ok n a c e q
      cases c with
      | lst ys =>
        cases h
        obtain ⟨vs, h1, h2⟩ := ok
        exact .base (.lst h1)
      | _ => cases h
def fIsi : FA := fun us S => match us with
  | [u, .v (.ty T)] => (tyNm S u).bind fun t => (kitB t T).map fun b => (.v (.bl b), S)
  | _ => none
theorem cq_isi : CallR X (.builtin "isinstance") (liftC (bx X cl) fIsi) := by
  intro pins s σ H xs us Q I rv ⟨ι, F, S, as, rl, zs, fi⟩
  unfold fIsi at fi
  split at fi
  · rename_i u T
    cases zs with
    | cons z1 z2 =>
      cases z2 with
      | cons z2 z3 =>
        cases z3
        cases z2 with
        | v z2 =>
          cases z2 with
          | ty _ =>
            cases q : tyNm S u with
            | none => rw [q] at fi; exact fi.no
            | some t =>
              rw [q] at fi
              simp only [Option.bind_some] at fi
              cases q2 : kitB t T with
              | none => rw [q2] at fi; exact fi.no
              | some b =>
                rw [q2] at fi
                exact call_isi pins s σ H _ us Q I rv ⟨_, _, _, _, b, rfl, .ty T, tyNm_ok rl z1 q, kit_ty q2, fi.val rl (.v (.bl b))⟩
  · exact fi.no
@[simp] theorem kB_ii : kitB "int" "int" = some true := by decide +kernel
@[simp] theorem kB_ib : kitB "int" "bool" = some false := by decide +kernel
@[simp] theorem kB_bi : kitB "bool" "int" = some true := by decide +kernel
@[simp] theorem kB_bb : kitB "bool" "bool" = some true := by decide +kernel
@[simp] theorem kB_tt : kitB "tuple" "tuple" = some true := by decide +kernel
@[simp] theorem kB_ll : kitB "list" "list" = some true := by decide +kernel
@[simp] theorem kB_ss : kitB "str" "str" = some true := by decide +kernel
@[simp] theorem kB_si : kitB "str" "int" = some false := by decide +kernel
@[simp] theorem kB_ni : kitB "NoneType" "int" = some false := by decide +kernel
@[simp] theorem kB_nt : kitB "NoneType" "tuple" = some false := by decide +kernel
@[simp] theorem kB_it : kitB "int" "tuple" = some false := by decide +kernel
@[simp] theorem kB_lt : kitB "list" "tuple" = some false := by decide +kernel
@[simp] theorem kB_tl : kitB "tuple" "list" = some false := by decide +kernel
end
theorem fnIn_of {K : PySem.W.Frag} {x qual : Str} {params : Arguments} {body : List Stmt} {scope : Scope} {dvs : List V} {kws : List (Str × V)} {f : Addr} {fd : FuncData} (F : FunD K x qual params body scope dvs kws f fd) : PySem.W.fnIn K f = true := by
  obtain ⟨oc, od, dV, kV, doc, pm, an, cdv, ct, osl, rfl, lk, hcd, _, _⟩ := F.ex
  unfold PySem.W.fnIn
  rw [lk]
end Pu
/-! Pu: the law's own def, called with a script. -/
namespace Pu
open PySem L2
open PyProof.Rows hiding St
theorem reps_ints {B : Bx} {F : Addr → Prop} {H : Hp} : ∀ ns : List Int, Reps B F H (ns.map V.int) (ns.map D.int)
  | [] => .nil
  | n :: ns => .cons (.int n) (reps_ints ns)
theorem law_start {P : Program} {w : World} {K : PySem.W.Frag} {cl : Nat → Addr} {H : Hp} {a : Addr} {ns : List Int} {mf : List U → Sto → R U} (hO : Only H) (hS : SqL K H a (ns.map V.int)) (h : ∃ S', mf [.v (.frl (ns.map D.int))] [] = .ok (.v (.bl true)) S') :
    SpM ⟨P, w, K, cl⟩ 1 mf [.ref a] H (fun v _ => v = .bl true) fun _ _ _ => False := by
  obtain ⟨S', h⟩ := h
  have lk : Lk K (fun b => H b ≠ none) H a (ns.map V.int) := by
    rcases hS with (h1 | ⟨o, h1⟩) | h1
    · rcases hO a with h2 | ⟨o, xs, h2⟩
      · rw [h2] at h1; cases h1
      · rw [h2] at h1; cases h1
    · exact .inl ⟨by show H a ≠ none; rw [h1]; simp, o, h1⟩
    · exact .inr h1
  refine ⟨rfl, [], fun b => H b ≠ none, [], [.v (.frl (ns.map D.int))], ⟨rfl, List.nodup_nil, by simp, by simp, by simp, fun _ h => h, by simp⟩, .cons (.v (.frl lk (reps_ints ns))) .nil, ?_⟩
  rw [h]
  intro v ι' F' H' _ _ z
  cases z with
  | v z => cases z; rfl
theorem cx_no {P : Program} {w : World} (H : Hp) (s : Shared) (e : Value) (s' : Shared) (h : L2.CX P w [] H s (fun _ _ _ => False) e s') : False := by
  obtain ⟨_, _, _, _, _, _, _, _, _, _, _, _, h⟩ := h
  exact h
/-- the law's end over a head by facts: what leaves a def may hang on the world -/
theorem law_end {l : PySem.W.OpenLaw} {n k : Nat} {q : Program} {loose : List Str} {XP : (Str → Option Value) → Heap → Prop} {YP : World → Heap → Prop} {d : DefRec} {x : Str} {mf : List U → Sto → R U} {cl : PySem.W.Frag → Nat → Addr}
    (hn : l.most = some n) (hn2 : n ≤ sizeLine) (hdf : d.params.defaults = []) (hr : Room k callerA) (pu : ∀ ns : List Int, ns.length ≤ n → ∃ S', mf [.v (.frl (ns.map D.int))] [] = .ok (.v (.bl true)) S')
    (hF : ∀ (w : World) (mg : Str → Option Value) (fa : Addr) (h : Heap), YP w h → h.Ns mainGlobals mg → mg d.name = some (.ref fa) →
      ∃ (K : PySem.W.Frag) (fd : FuncData), K.In h ∧ (∀ (s : Shared) (u : Value), BindsTo s fd ⟨[u], []⟩ [(x, u)]) ∧ ∀ base : Heap, FnOk l.prog w K mg base (L2.CX l.prog w) k fa fd [x] (SpM ⟨l.prog, w, K, cl K⟩ 1 mf)) :
    PySem.W.WalkO q loose XP YP l.row.toRowW d [] (fun f vs => PySem.call f vs) := by
  refine Att.attach_call hn hdf fun w s₀ s₁ mg mb fa o pm cd doc a vs ns G Y ho hd hcd hmg hobj hints hlen hg => ?_
  obtain ⟨K, fd, KX, hb, hf⟩ := hF w mg fa _ Y G.T.g hmg
  exact law_call KX G.T.g G.T.b G.T.builtins G.T.nolimit hg hobj hints (Nat.le_trans hlen hn2) hr (fun base _ _ => hf base) hb (fun H hO hS => law_start hO hS (pu ns hlen)) fun H e s' => cx_no H s₁ e s'
theorem funD_same {K : PySem.W.Frag} {x qual x2 q2 : Str} {params p2 : Arguments} {body b2 : List Stmt} {scope sc2 : Scope} {dvs dvs2 : List V} {kws kws2 : List (Str × V)} {f : Addr} {fd fd2 : FuncData} (F : FunD K x qual params body scope dvs kws f fd) (G : FunD K x2 q2 p2 b2 sc2 dvs2 kws2 f fd2) : fd = fd2 := by
  obtain ⟨oc, od, dV, kV, doc, pm, an, cdv, ct, osl, _, lk, _⟩ := F.ex
  obtain ⟨oc', od', dV', kV', doc', pm', an', cdv', ct', osl', _, lk', _⟩ := G.ex
  rw [lk] at lk'
  cases lk'
  rfl
end Pu
/-! Pu: what a mirror ends in, as verification conditions. -/
namespace Pu
open PySem

structure Post where
  nx : Env' → Sto → Prop := fun _ _ => False
  rt : U → Sto → Prop := fun _ _ => False
  bk : Env' → Sto → Prop := fun _ _ => False
  ct : Env' → Sto → Prop := fun _ _ => False
  ex : Nat → List (Str × U) → Env' → Sto → Prop := fun _ _ _ _ => False
def wps (r : RS) (Q : Post) : Prop := match r with
  | .nx ρ S => Q.nx ρ S
  | .rt u S => Q.rt u S
  | .bk ρ S => Q.bk ρ S
  | .ct ρ S => Q.ct ρ S
  | .ex c fs ρ S => Q.ex c fs ρ S
  | .er => False
abbrev XP := Nat → List (Str × U) → Sto → Prop
def wpr {α : Type} (r : R α) (Q : α → Sto → Prop) (X : XP) : Prop := match r with
  | .ok a S => Q a S
  | .ex c fs S => X c fs S
  | .er => False
def wpo {α : Type} (o : Option α) (Q : α → Prop) : Prop := match o with
  | some a => Q a
  | none => False
def wpO (o : Option (U × Sto)) (Q : U → Sto → Prop) : Prop := match o with
  | some p => Q p.1 p.2
  | none => False
def getv (ρ : Env') (i : Nat) (k : U → Prop) : Prop := match ρ[i]? with
  | some (some u) => k u
  | _ => False
section
variable {α β : Type} {Q : Post} {q : U → Sto → Prop} {X : XP} {ρ : Env'} {S : Sto} {k : U → Prop}
@[simp ↓] theorem getv_0 (u : U) : getv (some u :: ρ) 0 k = k u := id rfl
@[simp ↓] theorem getv_s (x : Option U) (i : Nat) : getv (x :: ρ) (i + 1) k = getv ρ i k := id rfl
@[simp ↓] theorem wpo_some (a : α) (q : α → Prop) : wpo (some a) q = q a := id rfl
@[simp ↓] theorem wpo_none (q : α → Prop) : wpo none q = False := id rfl
@[simp ↓] theorem wpO_some (u : U) : wpO (some (u, S)) q = q u S := id rfl
@[simp ↓] theorem wpO_none : wpO none q = False := id rfl
@[simp ↓] theorem wpr_ok (a : α) (q : α → Sto → Prop) : wpr (.ok a S) q X = q a S := id rfl
@[simp ↓] theorem wpr_ex (c : Nat) (fs : List (Str × U)) (q : α → Sto → Prop) : wpr (.ex c fs S) q X = X c fs S := id rfl
@[simp ↓] theorem wpr_er (q : α → Sto → Prop) : wpr .er q X = False := id rfl
@[simp ↓] theorem wpr_ofO (o : Option (U × Sto)) : wpr (ofO o) q X = wpO o q := by cases o <;> rfl
theorem wpr_bind (r : R α) (f : α → Sto → R β) (q : β → Sto → Prop) : wpr (r.bind f) q X = wpr r (fun a S => wpr (f a S) q X) X := by cases r <;> rfl
theorem wps_st (r : R α) (f : α → Sto → RS) : wps (r.st ρ f) Q = wpr r (fun a S => wps (f a S) Q) (fun c fs S => Q.ex c fs ρ S) := by cases r <;> rfl
theorem wpr_mono {r : R α} {q q' : α → Sto → Prop} {X X' : XP} (h : wpr r q X) (k : ∀ a S, q a S → q' a S) (kx : ∀ c fs S, X c fs S → X' c fs S) : wpr r q' X' := by cases r with
  | ok a S => exact k a S h
  | ex c fs S => exact kx c fs S h
  | er => exact h
theorem wpr_iff {r : R α} {q : α → Sto → Prop} : wpr r q (fun _ _ _ => False) ↔ ∃ a S, r = .ok a S ∧ q a S := by
  cases r with
  | ok a S => exact ⟨fun h => ⟨a, S, rfl, h⟩, fun ⟨_, _, e, h⟩ => by cases e; exact h⟩
  | ex c fs S => exact ⟨fun h => h.elim, fun ⟨_, _, e, h⟩ => by cases e⟩
  | er => exact ⟨fun h => h.elim, fun ⟨_, _, e, h⟩ => by cases e⟩
/-! expressions -/
@[simp ↓] theorem w_var (i : Nat) : wpr (eVar i ρ S) q X = getv ρ i (fun u => q u S) := by
  unfold eVar getv
  split <;> rename_i h <;> simp_all [wpr]
@[simp ↓] theorem w_c (d : D) : wpr (eC d ρ S) q X = q (.v d) S := id rfl
@[simp ↓] theorem w_op (f : F2) (a b : ME) : wpr (eOp f a b ρ S) q X = wpr (a ρ S) (fun x S1 => wpr (b ρ S1) (fun y S2 => wpO (f x y S2) q) X) X := by
  simp only [eOp, wpr_bind, wpr_ofO]
@[simp ↓] theorem w_un (f : F1) (a : ME) : wpr (eUn f a ρ S) q X = wpr (a ρ S) (fun x S1 => wpO (f x S1) q) X := by simp only [eUn, wpr_bind, wpr_ofO]
@[simp ↓] theorem w_nil (q : List U → Sto → Prop) : wpr (aNil ρ S) q X = q [] S := id rfl
@[simp ↓] theorem w_cons (a : ME) (r : MA) (q : List U → Sto → Prop) : wpr (aCons a r ρ S) q X = wpr (a ρ S) (fun x S1 => wpr (r ρ S1) (fun xs S2 => q (x :: xs) S2) X) X := by simp only [aCons, wpr_bind, wpr_ok]
@[simp ↓] theorem w_cb (f : FA) (a : MA) : wpr (eCB f a ρ S) q X = wpr (a ρ S) (fun xs S1 => wpO (f xs S1) q) X := by simp only [eCB, wpr_bind, wpr_ofO]
@[simp ↓] theorem w_mtT (chk : Sto → U → Bool) (f : FM) (o : ME) (a : MA) : wpr (eMtT chk f o a ρ S) q X = wpr (o ρ S) (fun x S1 => chk S1 x = true ∧ wpr (a ρ S1) (fun xs S2 => wpO (f x xs S2) q) X) X := by
  simp only [eMtT, wpr_bind]
  congr 1; funext x S1
  by_cases h : chk S1 x = true
  · simp only [h, if_true, wpr_bind, wpr_ofO, true_and]
  · rw [if_neg h]; simp [h]
@[simp ↓] theorem w_sl (f : U → Option Int → Option Int → Sto → Option (U × Sto)) (m : ME) (lo hi : MO) : wpr (eSl f m lo hi ρ S) q X = wpr (m ρ S) (fun x S1 => wpr (lo ρ S1) (fun l S2 => wpr (hi ρ S2) (fun h S3 => wpO (f x l h S3) q) X) X) X := by
  simp only [eSl, wpr_bind, wpr_ofO]
@[simp ↓] theorem w_oNone (q : Option Int → Sto → Prop) : wpr (oNone ρ S) q X = q none S := id rfl
def isInt (u : U) (k : Int → Prop) : Prop := match u with
  | .v (.int i) => k i
  | _ => False
@[simp ↓] theorem isInt_i (i : Int) (k : Int → Prop) : isInt (.v (.int i)) k = k i := id rfl
@[simp ↓] theorem w_oSome (m : ME) (q : Option Int → Sto → Prop) : wpr (oSome m ρ S) q X = wpr (m ρ S) (fun u S1 => isInt u fun i => q (some i) S1) X := by
  simp only [oSome, wpr_bind]
  congr 1; funext u S1
  unfold isInt
  split
  · rfl
  · first
      | rfl
      | (split <;> first | rfl | simp_all)
def isBl (u : U) (k : Bool → Prop) : Prop := match u with
  | .v (.bl b) => k b
  | _ => False
@[simp ↓] theorem isBl_b (b : Bool) (k : Bool → Prop) : isBl (.v (.bl b)) k = k b := id rfl
theorem wpr_isB (u : U) (q : Bool → Sto → Prop) : wpr (ofO (isB u S)) q X = isBl u fun b => q b S := by
  unfold isB isBl
  split
  · rfl
  · first
      | rfl
      | (split <;> first | rfl | simp_all)
@[simp ↓] theorem w_tB (m : ME) (q : Bool → Sto → Prop) : wpr (tB m ρ S) q X = wpr (m ρ S) (fun u S1 => isBl u fun b => q b S1) X := by simp only [tB, wpr_bind, wpr_isB]
@[simp ↓] theorem w_tYes (q : Bool → Sto → Prop) : wpr (tYesM ρ S) q X = q true S := id rfl
theorem wpr_ite (c : Prop) [Decidable c] (a b : R α) (q : α → Sto → Prop) : wpr (if c then a else b) q X = if c then wpr a q X else wpr b q X := by split <;> rfl
theorem wps_ite (c : Prop) [Decidable c] (a b : RS) : wps (if c then a else b) Q = if c then wps a Q else wps b Q := by split <;> rfl
@[simp ↓] theorem w_tAnd (a b : MT) (q : Bool → Sto → Prop) : wpr (tAnd a b ρ S) q X = wpr (a ρ S) (fun x S1 => if x = true then wpr (b ρ S1) q X else q false S1) X := by simp only [tAnd, wpr_bind, wpr_ite, wpr_ok]
@[simp ↓] theorem w_tOr (a b : MT) (q : Bool → Sto → Prop) : wpr (tOr a b ρ S) q X = wpr (a ρ S) (fun x S1 => if x = true then q true S1 else wpr (b ρ S1) q X) X := by simp only [tOr, wpr_bind, wpr_ite, wpr_ok]
@[simp ↓] theorem w_tNot (a : MT) (q : Bool → Sto → Prop) : wpr (tNot a ρ S) q X = wpr (a ρ S) (fun x S1 => q (!x) S1) X := by simp only [tNot, wpr_bind, wpr_ok]
@[simp ↓] theorem w_eAnd (a b : ME) : wpr (eAnd a b ρ S) q X = wpr (a ρ S) (fun u S1 => isBl u fun x => if x = true then wpr (b ρ S1) q X else q (.v (.bl false)) S1) X := by simp only [eAnd, wpr_bind, wpr_isB, wpr_ite, wpr_ok]
@[simp ↓] theorem w_eOr (a b : ME) : wpr (eOr a b ρ S) q X = wpr (a ρ S) (fun u S1 => isBl u fun x => if x = true then q (.v (.bl true)) S1 else wpr (b ρ S1) q X) X := by simp only [eOr, wpr_bind, wpr_isB, wpr_ite, wpr_ok]
@[simp ↓] theorem w_eNot (a : ME) : wpr (eNot a ρ S) q X = wpr (a ρ S) (fun u S1 => isBl u fun x => q (.v (.bl (!x))) S1) X := by simp only [eNot, wpr_bind, wpr_isB, wpr_ok]
@[simp ↓] theorem w_eIf (c : MT) (a b : ME) : wpr (eIf c a b ρ S) q X = wpr (c ρ S) (fun x S1 => if x = true then wpr (a ρ S1) q X else wpr (b ρ S1) q X) X := by simp only [eIf, wpr_bind, wpr_ite]
@[simp ↓] theorem w_call (n : Nat) (mf : List U → Sto → R U) (dds : List U) (a : MA) : wpr (eCall n mf dds a ρ S) q X = wpr (a ρ S) (fun us S1 => us.length + dds.length = n ∧ wpr (mf (us ++ dds) S1) q X) X := by
  simp only [eCall, wpr_bind, wpr_ite, wpr_er]
  congr 1; funext us S1
  by_cases h : us.length + dds.length = n <;> simp [h]
def isIns (S : Sto) (u : U) (k : Nat → List (Str × U) → Prop) : Prop := match asIns S u with
  | some p => k p.1 p.2
  | none => False
@[simp ↓] theorem w_callO (c n : Nat) (mf : List U → Sto → R U) (o : ME) (a : MA) : wpr (eCallO c n mf o a ρ S) q X = wpr (o ρ S) (fun x S1 => isIns S1 x fun _ _ => wpr (a ρ S1) (fun us S2 => isIns S2 x fun c' _ => (c' = c ∧ us.length + 1 = n) ∧ wpr (mf (x :: us) S2) q X) X) X := by
  simp only [eCallO, wpr_bind]
  congr 1; funext x S1
  unfold isIns
  cases asIns S1 x with
  | none => rfl
  | some p =>
    simp only [wpr_ok]
    congr 1; funext us S2
    cases asIns S2 x with
    | none => rfl
    | some p =>
      by_cases h : p.1 = c ∧ us.length + 1 = n <;> simp [h]
@[simp ↓] theorem w_meth (c n : Nat) (m : Str) (mf : List U → Sto → R U) (dds : List U) (o : ME) (a : MA) : wpr (eMeth c n m mf dds o a ρ S) q X = wpr (o ρ S) (fun x S1 => isIns S1 x fun c' fs => (c' = c ∧ fs.lookup m = none) ∧ wpr (a ρ S1) (fun us S2 => us.length + dds.length + 1 = n ∧ wpr (mf (x :: (us ++ dds)) S2) q X) X) X := by
  simp only [eMeth, wpr_bind]
  congr 1; funext x S1
  unfold isIns
  cases asIns S1 x with
  | none => rfl
  | some p =>
    by_cases h : p.1 = c ∧ p.2.lookup m = none
    · simp only [h, and_self, if_true, wpr_bind, true_and]
      congr 1; funext us S2
      by_cases h : us.length + dds.length + 1 = n <;> simp [h]
    · simp only [h, if_false, wpr_er, false_and]
@[simp ↓] theorem w_make (c n : Nat) (mf : List U → Sto → R U) (us : List U) : wpr (eMake c n mf us S) q X = (us.length + 1 = n ∧ wpr (mf (.r S.length :: us) (S ++ [.ins c []])) (fun u S1 => u = .v .non ∧ q (.r S.length) S1) X) := by
  unfold eMake
  by_cases h : us.length + 1 = n
  · simp only [h, if_true, wpr_bind, true_and]
    congr 1; funext u S1
    split <;> simp_all
  · simp [h]
@[simp ↓] theorem w_mk (c n : Nat) (mf : List U → Sto → R U) (dds : List U) (a : MA) : wpr (eMk c n mf dds a ρ S) q X = wpr (a ρ S) (fun us S1 => wpr (eMake c n mf (us ++ dds) S1) q X) X := by simp only [eMk, wpr_bind]
@[simp ↓] theorem w_mkK (c n np nk : Nat) (mf : List U → Sto → R U) (gU : List U → List U → List U) (a b : MA) : wpr (eMkK c n np nk mf gU a b ρ S) q X = wpr (a ρ S) (fun us S1 => wpr (b ρ S1) (fun ws S2 => (us.length = np ∧ ws.length = nk) ∧ wpr (eMake c n mf (gU us ws) S2) q X) X) X := by
  simp only [eMkK, wpr_bind, wpr_ite, wpr_er]
  congr 1; funext us S1; congr 1; funext ws S2
  by_cases h : us.length = np ∧ ws.length = nk <;> simp [h]
/-! statements -/
@[simp ↓] theorem s_next : wps (sNext ρ S) Q = Q.nx ρ S := id rfl
@[simp ↓] theorem s_seq (a b : MS) : wps (sSeq a b ρ S) Q = wps (a ρ S) { Q with nx := fun ρ S => wps (b ρ S) Q } := by unfold sSeq; cases a ρ S <;> rfl
@[simp ↓] theorem s_asg (m : ME) (g : MG) : wps (sAsg m g ρ S) Q = wpr (m ρ S) (fun u S1 => wpo (g u ρ) fun ρ' => Q.nx ρ' S1) (fun c fs S => Q.ex c fs ρ S) := by
  simp only [sAsg, wps_st]
  congr 1; funext u S1
  cases g u ρ <;> rfl
@[simp ↓] theorem s_expr (m : ME) : wps (sExpr m ρ S) Q = wpr (m ρ S) (fun _ S1 => Q.nx ρ S1) (fun c fs S => Q.ex c fs ρ S) := by simp only [sExpr, wps_st]; rfl
@[simp ↓] theorem s_ret (m : ME) : wps (sRet m ρ S) Q = wpr (m ρ S) (fun u S1 => Q.rt u S1) (fun c fs S => Q.ex c fs ρ S) := by simp only [sRet, wps_st]; rfl
@[simp ↓] theorem s_retN : wps (sRetN ρ S) Q = Q.rt (.v .non) S := id rfl
@[simp ↓] theorem s_if (c : MT) (a b : MS) : wps (sIf c a b ρ S) Q = wpr (c ρ S) (fun x S1 => if x = true then wps (a ρ S1) Q else wps (b ρ S1) Q) (fun c fs S => Q.ex c fs ρ S) := by simp only [sIf, wps_st, wps_ite]
@[simp ↓] theorem s_brk : wps (sBrk ρ S) Q = Q.bk ρ S := id rfl
@[simp ↓] theorem s_cont : wps (sCont ρ S) Q = Q.ct ρ S := id rfl
@[simp ↓] theorem s_never : wps (sNever ρ S) Q = False := id rfl
@[simp ↓] theorem w_gName (i : Nat) (u : U) (q : Env' → Prop) : wpo (gName i u ρ) q = q (ρ.set i (some u)) := id rfl
@[simp ↓] theorem w_gTup (n : Nat) (gs : MGs) (ds : List D) (q : Env' → Prop) : wpo (gTup n gs (.v (.tup ds)) ρ) q = (ds.length = n ∧ wpo (gs (ds.map U.v) ρ) q) := by
  unfold gTup; by_cases h : ds.length = n <;> simp [h]
@[simp ↓] theorem w_gNil (q : Env' → Prop) : wpo (gNil [] ρ) q = q ρ := id rfl
@[simp ↓] theorem w_gCons (g : MG) (gs : MGs) (u : U) (us : List U) (q : Env' → Prop) : wpo (gCons g gs (u :: us) ρ) q = wpo (g u ρ) fun ρ1 => wpo (gs us ρ1) q := by
  show wpo ((g u ρ).bind _) q = _
  cases g u ρ <;> rfl
def wpS (o : Option Sto) (q : Sto → Prop) : Prop := match o with
  | some S => q S
  | none => False
@[simp ↓] theorem wpS_some (q : Sto → Prop) : wpS (some S) q = q S := id rfl
@[simp ↓] theorem wpS_none (q : Sto → Prop) : wpS none q = False := id rfl
@[simp ↓] theorem s_set (mo mi mv : ME) : wps (sSet mo mi mv ρ S) Q = wpr (mv ρ S) (fun v S1 => wpr (mo ρ S1) (fun o S2 => wpr (mi ρ S2) (fun i S3 => wpS (fSet o i v S3) fun S4 => Q.nx ρ S4) (fun c fs S => Q.ex c fs ρ S)) (fun c fs S => Q.ex c fs ρ S)) (fun c fs S => Q.ex c fs ρ S) := by
  simp only [sSet, wps_st]
  congr 1; funext v S1; congr 1; funext o S2; congr 1; funext i S3
  cases fSet o i v S3 <;> rfl
def putFld (cs : List Nat) (f : Str) (u x : U) (S : Sto) (k : Sto → Prop) : Prop := match x with
  | .r n => match S[n]? with
    | some (.ins c fs) => (c ∈ cs ∧ fs.length < 900) ∧ k (S.set n (.ins c (putU f u fs)))
    | _ => False
  | _ => False
@[simp ↓] theorem s_fld (cs : List Nat) (f : Str) (mo mv : ME) : wps (sFld cs f mo mv ρ S) Q = wpr (mv ρ S) (fun u S1 => wpr (mo ρ S1) (fun x S2 => putFld cs f u x S2 fun S3 => Q.nx ρ S3) (fun c fs S => Q.ex c fs ρ S)) (fun c fs S => Q.ex c fs ρ S) := by
  simp only [sFld, wps_st]
  congr 1; funext u S1; congr 1; funext x S2
  unfold putFld
  cases x with
  | v d => rfl
  | r n =>
    simp only
    cases S2[n]? with
    | none => rfl
    | some c =>
      cases c with
      | ins c fs => by_cases h : c ∈ cs ∧ fs.length < 900 <;> simp [h, wps]
      | _ => rfl
@[simp ↓] theorem s_for (it : MI) (g : MG) (body : MS) : wps (sFor it g body ρ S) Q = wpr (it ρ S) (fun iv S1 => wps (forGo iv.src (iv.src.bind fun n => S1[n]?) g body iv.items ρ S1) Q) (fun c fs S => Q.ex c fs ρ S) := by simp only [sFor, wps_st]
theorem for_go (src : Option Nat) (c0 : Option Cell) (g : MG) (body : MS) (items : List U) (I : Nat → Env' → Sto → Prop) : ∀ (n i : Nat) (ρ : Env') (S : Sto), i + n = items.length → I i ρ S →
    (∀ (i : Nat) (u : U) (ρ : Env') (S : Sto), items[i]? = some u → I i ρ S → wpo (g u ρ) fun ρ1 => wps (body ρ1 S) { nx := fun ρ2 S2 => srcOk src c0 S2 ∧ I (i + 1) ρ2 S2, ct := fun ρ2 S2 => srcOk src c0 S2 ∧ I (i + 1) ρ2 S2, bk := Q.nx, rt := Q.rt, ex := Q.ex }) →
    (∀ ρ S, I items.length ρ S → Q.nx ρ S) → wps (forGo src c0 g body (items.drop i) ρ S) Q
  | 0, i, ρ, S, hl, h0, hs, hn => by
    rw [List.drop_eq_nil_of_le (by omega)]
    exact hn ρ S (by have : i = items.length := by omega
                     rw [← this]; exact h0)
  | n + 1, i, ρ, S, hl, h0, hs, hn => by
    have hi : i < items.length := by omega
    rw [List.drop_eq_getElem_cons hi]
    have h1 := hs i items[i] ρ S (List.getElem?_eq_getElem hi) h0
    have ih := fun ρ S h => for_go src c0 g body items I n (i + 1) ρ S (by omega) h hs hn
    unfold forGo
    cases q : g items[i] ρ with
    | none => rw [q] at h1; exact h1.elim
    | some ρ1 =>
      rw [q] at h1
      simp only [wpo_some] at h1 ⊢
      cases qb : body ρ1 S with
      | nx ρ2 S2 =>
        rw [qb] at h1
        simp only
        have h2 : srcOk src c0 S2 ∧ I (i + 1) ρ2 S2 := h1
        rw [if_pos h2.1]
        exact ih ρ2 S2 h2.2
      | ct ρ2 S2 =>
        rw [qb] at h1
        simp only
        have h2 : srcOk src c0 S2 ∧ I (i + 1) ρ2 S2 := h1
        rw [if_pos h2.1]
        exact ih ρ2 S2 h2.2
      | bk ρ2 S2 => rw [qb] at h1; exact h1
      | rt u S2 => rw [qb] at h1; exact h1
      | ex c fs ρ2 S2 => rw [qb] at h1; exact h1
      | er => rw [qb] at h1; exact h1.elim
/-- a loop by an invariant -/
theorem for_inv {src : Option Nat} {c0 : Option Cell} {g : MG} {body : MS} {items : List U} (I : Nat → Env' → Sto → Prop) (h0 : I 0 ρ S)
    (hs : ∀ (i : Nat) (u : U) (ρ : Env') (S : Sto), items[i]? = some u → I i ρ S → wpo (g u ρ) fun ρ1 => wps (body ρ1 S) { nx := fun ρ2 S2 => srcOk src c0 S2 ∧ I (i + 1) ρ2 S2, ct := fun ρ2 S2 => srcOk src c0 S2 ∧ I (i + 1) ρ2 S2, bk := Q.nx, rt := Q.rt, ex := Q.ex })
    (hn : ∀ ρ S, I items.length ρ S → Q.nx ρ S) : wps (forGo src c0 g body items ρ S) Q := by
  have h := for_go (Q := Q) src c0 g body items I items.length 0 ρ S (by omega) h0 hs hn
  simpa using h
@[simp] theorem srcOk_none (c0 : Option Cell) : srcOk none c0 S = True := id rfl
@[simp] theorem srcOk_some (n : Nat) (c0 : Option Cell) : srcOk (some n) c0 S = (S[n]? = c0) := id rfl
/-! iteration -/
def seqV (S : Sto) (u : U) (k : List U → Prop) : Prop := match asSeq S u with
  | some xs => k xs
  | none => False
@[simp ↓] theorem w_iVal (m : ME) (q : IterV → Sto → Prop) : wpr (iVal m ρ S) q X = wpr (m ρ S) (fun u S1 => seqV S1 u fun xs => q ⟨xs, srcOf u⟩ S1) X := by
  simp only [iVal, wpr_bind]
  congr 1; funext u S1
  unfold seqV
  cases asSeq S1 u <;> rfl
def int1 (us : List U) (k : Int → Prop) : Prop := match us with
  | [.v (.int j)] => k j
  | _ => False
@[simp ↓] theorem int1_i (j : Int) (k : Int → Prop) : int1 [.v (.int j)] k = k j := id rfl
@[simp ↓] theorem w_rng1 (a : MA) (q : IterV → Sto → Prop) : wpr (iRng1 a ρ S) q X = wpr (a ρ S) (fun us S1 => int1 us fun j => (-1000000000 < j ∧ j < 1000000000) ∧ q ⟨rngU 0 j.toNat, none⟩ S1) X := by
  simp only [iRng1, wpr_bind]
  congr 1; funext us S1
  unfold int1
  split
  · rename_i j
    change wpr (if okR1 j then _ else _) q X = (okR1 j ∧ _)
    by_cases h : okR1 j <;> simp [h]
  · first
      | rfl
      | (split <;> first | rfl | simp_all)
def int2 (us : List U) (k : Int → Int → Prop) : Prop := match us with
  | [.v (.int i), .v (.int j)] => k i j
  | _ => False
@[simp ↓] theorem int2_i (i j : Int) (k : Int → Int → Prop) : int2 [.v (.int i), .v (.int j)] k = k i j := id rfl
@[simp ↓] theorem w_rng2 (a : MA) (q : IterV → Sto → Prop) : wpr (iRng2 a ρ S) q X = wpr (a ρ S) (fun us S1 => int2 us fun i j => (-1000000000 < j ∧ j < 1000000000 ∧ -1000000000 < i ∧ i < 1000000000) ∧ q ⟨rngU i (j - i).toNat, none⟩ S1) X := by
  simp only [iRng2, wpr_bind]
  congr 1; funext us S1
  unfold int2
  split
  · rename_i i j
    change wpr (if okR2 i j then _ else _) q X = (okR2 i j ∧ _)
    by_cases h : okR2 i j <;> simp [h]
  · first
      | rfl
      | (split <;> first | rfl | simp_all)
@[simp] theorem rngU_len (lo : Int) (n : Nat) : (rngU lo n).length = n := by simp [rngU]
theorem rngU_get {lo : Int} {n i : Nat} {u : U} (h : (rngU lo n)[i]? = some u) : i < n ∧ u = .v (.int (lo + i)) := by
  unfold rngU at h
  rw [List.getElem?_map, Option.map_eq_some_iff] at h
  obtain ⟨a, h1, rfl⟩ := h
  have h2 := List.getElem?_eq_some_iff.mp h1
  obtain ⟨h3, h4⟩ := h2
  simp at h3 h4
  subst h4
  exact ⟨h3, rfl⟩
/-! defs -/
def start0 (N : Nat) (us : List U) : Env' := us.map some ++ List.replicate (N - us.length) none
theorem wp_runF {N : Nat} {m : MS} {us : List U} : wpr (runF N m us S) q X = wps (m (start0 N us) S) { rt := fun u S2 => wpr (fin S u S2) q X, nx := fun _ S2 => wpr (fin S (.v .non) S2) q X, ex := fun c fs _ S2 => wpr (finX S c fs S2) q X } := by
  unfold runF start0
  cases m (us.map some ++ List.replicate (N - us.length) none) S <;> rfl
theorem runF_eq {N : Nat} {m : MS} {us : List U} {u : U} {S' : Sto} (h : wps (m (start0 N us) S) { rt := fun v S2 => fin S v S2 = .ok u S', nx := fun _ S2 => fin S (.v .non) S2 = .ok u S' }) : runF N m us S = .ok u S' := by
  unfold runF
  unfold start0 at h
  cases q : m (us.map some ++ List.replicate (N - us.length) none) S <;> rw [q] at h <;> first | exact h | exact h.elim
theorem wp_runK {N : Nat} {m : MS} {us : List U} : wpr (runK N m us S) q X = wps (m (start0 N us) S) { rt := q, nx := fun _ S2 => q (.v .non) S2, ex := fun c fs _ S2 => X c fs S2 } := by
  unfold runK start0
  cases m (us.map some ++ List.replicate (N - us.length) none) S <;> rfl
end
end Pu
/-! Pu: the value functions on plain values; the store; the end of a def; list comprehensions. -/
namespace Pu
open PySem L2
section
variable {q : U → Sto → Prop} {S : Sto} {X : XP}
theorem wpO_ite (c : Prop) [Decidable c] (a b : Option (U × Sto)) : wpO (if c then a else b) q = if c then wpO a q else wpO b q := by split <;> rfl
@[simp ↓] theorem v_sub (i j : Int) : wpO (fI gSub (.v (.int i)) (.v (.int j)) S) q = q (.v (.int (i - j))) S := id rfl
@[simp ↓] theorem v_mul (i j : Int) : wpO (fI gMul (.v (.int i)) (.v (.int j)) S) q = ((i.natAbs < 2 ^ 64 ∨ j.natAbs < 2 ^ 64) ∧ q (.v (.int (i * j))) S) := by
  unfold fI gMul; change _ = (okMul i j ∧ _); by_cases h : okMul i j <;> simp [h]
@[simp ↓] theorem v_mod (i j : Int) : wpO (fI gMod (.v (.int i)) (.v (.int j)) S) q = (0 < j ∧ q (.v (.int (i % j))) S) := by
  unfold fI gMod; by_cases h : 0 < j <;> simp [h]
@[simp ↓] theorem v_div (i j : Int) : wpO (fI gDiv (.v (.int i)) (.v (.int j)) S) q = ((0 < j ∧ j < 1073741824) ∧ q (.v (.int (i / j))) S) := by
  unfold fI gDiv; change _ = (okDiv j ∧ _); by_cases h : okDiv j <;> simp [h]
@[simp ↓] theorem v_pow (i j : Int) : wpO (fI gPow (.v (.int i)) (.v (.int j)) S) q = ((0 ≤ j ∧ j ≤ 1000 ∧ i.natAbs < 2 ^ 64) ∧ q (.v (.int (i ^ j.toNat))) S) := by
  unfold fI gPow; change _ = (okPow i j ∧ _); by_cases h : okPow i j <;> simp [h]
@[simp ↓] theorem v_cmp (p : Int → Int → Bool) (i j : Int) : wpO (fI (gCmp p) (.v (.int i)) (.v (.int j)) S) q = q (.v (.bl (p i j))) S := id rfl
@[simp ↓] theorem v_addI (i j : Int) : wpO (fAdd (.v (.int i)) (.v (.int j)) S) q = q (.v (.int (i + j))) S := id rfl
@[simp ↓] theorem v_addS (i j : Str) : wpO (fAdd (.v (.str i)) (.v (.str j)) S) q = (i.length + j.length ≤ 100000 ∧ q (.v (.str (i ++ j))) S) := by
  unfold fAdd; by_cases h : i.length + j.length ≤ 100000 <;> simp [h]
@[simp ↓] theorem v_addT (i j : List D) : wpO (fAdd (.v (.tup i)) (.v (.tup j)) S) q = (i.length + j.length ≤ 100000 ∧ q (.v (.tup (i ++ j))) S) := by
  unfold fAdd; by_cases h : i.length + j.length ≤ 100000 <;> simp [h]
@[simp ↓] theorem v_addL (i j : List D) : wpO (fAdd (.v (.lst i)) (.v (.lst j)) S) q = (i.length + j.length ≤ 100000 ∧ q (.v (.lst (i ++ j))) S) := by
  unfold fAdd asLst
  simp only [List.length_map, ← List.map_append, allV_map]
  by_cases h : i.length + j.length ≤ 100000 <;> simp [h]
@[simp ↓] theorem v_int (i : Int) : wpO (fInt [.v (.int i)] S) q = q (.v (.int i)) S := id rfl
@[simp ↓] theorem v_intB (b : Bool) : wpO (fInt [.v (.bl b)] S) q = q (.v (.int (if b = true then 1 else 0))) S := id rfl
@[simp ↓] theorem v_isN (n : Bool) : wpO (fIsN n (.v .non) (.v .non) S) q = q (.v (.bl (!n))) S := id rfl
theorem v_isN' (n : Bool) (u : U) (h : u ≠ .v .non) : wpO (fIsN n u (.v .non) S) q = q (.v (.bl n)) S := by
  unfold fIsN
  simp only
  all_goals rfl
@[simp ↓] theorem v_isNt (n : Bool) (d : List D) : wpO (fIsN n (.v (.tup d)) (.v .non) S) q = q (.v (.bl n)) S := id rfl
@[simp ↓] theorem v_isNi (n : Bool) (d : Int) : wpO (fIsN n (.v (.int d)) (.v .non) S) q = q (.v (.bl n)) S := id rfl
@[simp ↓] theorem v_isNr (n : Bool) (d : Nat) : wpO (fIsN n (.r d) (.v .non) S) q = q (.v (.bl n)) S := id rfl
@[simp ↓] theorem v_isNl (n : Bool) (d : List D) : wpO (fIsN n (.v (.lst d)) (.v .non) S) q = q (.v (.bl n)) S := id rfl
@[simp ↓] theorem v_isNn (n : Bool) (c : Nat) (d : List (Str × D)) : wpO (fIsN n (.v (.ins c d)) (.v .non) S) q = q (.v (.bl n)) S := id rfl
@[simp ↓] theorem v_tup (us : List U) : wpO (fTup us S) q = (us.length ≤ 100000 ∧ wpo (allV us) fun ds => q (.v (.tup ds)) S) := by
  unfold fTup; by_cases h : us.length ≤ 100000
  · simp only [h, if_true, true_and]; cases allV us <;> rfl
  · simp [h]
@[simp ↓] theorem v_lstV (us : List U) : wpO (fLstV us S) q = (us.length ≤ 100000 ∧ wpo (allV us) fun ds => q (.v (.lst ds)) S) := by
  unfold fLstV; by_cases h : us.length ≤ 100000
  · simp only [h, if_true, true_and]; cases allV us <;> rfl
  · simp [h]
@[simp ↓] theorem v_lstS (us : List U) : wpO (fLstS us S) q = (us.length ≤ 100000 ∧ q (.r S.length) (S ++ [.lst us])) := by
  unfold fLstS; by_cases h : us.length ≤ 100000 <;> simp [h]
@[simp] theorem allV_nil : allV [] = some [] := id rfl
@[simp ↓] theorem allV_consV (d : D) (us : List U) (k : List D → Prop) : wpo (allV (.v d :: us)) k = wpo (allV us) fun ds => k (d :: ds) := by
  show wpo ((allV us).map _) k = _
  cases allV us <;> rfl
@[simp ↓] theorem wpo_allV_nil (k : List D → Prop) : wpo (allV []) k = k [] := id rfl
@[simp ↓] theorem wpo_allV_map (ds : List D) (k : List D → Prop) : wpo (allV (ds.map U.v)) k = k ds := by rw [allV_map]; rfl
@[simp ↓] theorem v_dicS : wpO (fDicS [] S) q = q (.r S.length) (S ++ [.dic []]) := id rfl
/-! sequences -/
@[simp ↓] theorem seqV_l (ds : List D) (k : List U → Prop) : seqV S (.v (.lst ds)) k = k (ds.map U.v) := id rfl
@[simp ↓] theorem seqV_f (ds : List D) (k : List U → Prop) : seqV S (.v (.frl ds)) k = k (ds.map U.v) := id rfl
@[simp ↓] theorem seqV_t (ds : List D) (k : List U → Prop) : seqV S (.v (.tup ds)) k = k (ds.map U.v) := id rfl
def cellL (c : Option Cell) (k : List U → Prop) : Prop := match c with
  | some (.lst xs) => k xs
  | _ => False
@[simp ↓] theorem cellL_l (xs : List U) (k : List U → Prop) : cellL (some (.lst xs)) k = k xs := id rfl
def cellQ (c : Option Cell) (k : List U → Prop) : Prop := match c with
  | some (.lst xs) => k xs
  | some (.tpc xs) => k xs
  | _ => False
@[simp ↓] theorem cellQ_l (xs : List U) (k : List U → Prop) : cellQ (some (.lst xs)) k = k xs := id rfl
@[simp ↓] theorem cellQ_t (xs : List U) (k : List U → Prop) : cellQ (some (.tpc xs)) k = k xs := id rfl
@[simp ↓] theorem seqV_r (n : Nat) (k : List U → Prop) : seqV S (.r n) k = cellQ S[n]? k := by
  unfold seqV asSeq cellQ
  simp only
  cases S[n]? with
  | none => rfl
  | some c => cases c <;> rfl
@[simp] theorem srcOf_v (d : D) : srcOf (.v d) = none := id rfl
@[simp] theorem srcOf_r (n : Nat) : srcOf (.r n) = some n := id rfl
@[simp ↓] theorem v_listV (u : U) : wpO (fListV [u] S) q = seqV S u fun xs => wpo (allV xs) fun ds => q (.v (.lst ds)) S := by
  unfold fListV seqV; simp only
  cases asSeq S u with
  | none => rfl
  | some xs => simp only; cases allV xs <;> rfl
@[simp ↓] theorem v_tuple (u : U) : wpO (fTuple [u] S) q = seqV S u fun xs => wpo (allV xs) fun ds => q (.v (.tup ds)) S := by
  unfold fTuple seqV; simp only
  cases asSeq S u with
  | none => rfl
  | some xs => simp only; cases allV xs <;> rfl
@[simp ↓] theorem v_listS (u : U) : wpO (fListS [u] S) q = seqV S u fun xs => q (.r S.length) (S ++ [.lst xs]) := by
  unfold fListS seqV; simp only
  cases asSeq S u <;> rfl
@[simp ↓] theorem v_lenS (z : Str) : wpO (fLen [.v (.str z)] S) q = (z.length ≤ 100000 ∧ q (.v (.int z.length)) S) := by
  unfold fLen; by_cases h : z.length ≤ 100000 <;> simp [h]
theorem v_lenQ (u : U) (h : ∀ z, u ≠ .v (.str z)) : wpO (fLen [u] S) q = seqV S u fun xs => q (.v (.int xs.length)) S := by
  unfold fLen seqV
  split
  · rename_i z e; cases e; exact absurd rfl (h z)
  · rename_i e; cases e; cases asSeq S _ <;> rfl
  · rename_i h1 h2; exact absurd rfl (h2 u)
@[simp ↓] theorem v_lenL (ds : List D) : wpO (fLen [.v (.lst ds)] S) q = q (.v (.int ds.length)) S := by rw [v_lenQ _ (by simp)]; simp
@[simp ↓] theorem v_lenF (ds : List D) : wpO (fLen [.v (.frl ds)] S) q = q (.v (.int ds.length)) S := by rw [v_lenQ _ (by simp)]; simp
@[simp ↓] theorem v_lenT (ds : List D) : wpO (fLen [.v (.tup ds)] S) q = q (.v (.int ds.length)) S := by rw [v_lenQ _ (by simp)]; simp
@[simp ↓] theorem v_lenR (n : Nat) : wpO (fLen [.r n] S) q = cellQ S[n]? fun xs => q (.v (.int xs.length)) S := by rw [v_lenQ _ (by simp)]; simp
/-! items -/
@[simp] theorem atI_map {α β : Type} (f : α → β) (xs : List α) (i : Int) : atI (xs.map f) i = (atI xs i).map f := by
  unfold atI; rw [List.length_map]; cases ixN xs.length i <;> simp
theorem ixX_q (u : U) (i : Int) (h : ∀ z, u ≠ .v (.str z)) (hd : asDic S u = none) : wpO (fIxX u (.v (.int i)) S) q = seqV S u fun xs => wpo (atI xs i) fun w => q w S := by
  unfold fIxX
  rw [hd]
  have e : fIx u (.v (.int i)) S = (match asSeq S u with
    | some xs => (atI xs i).map fun u => (u, S)
    | none => none) := by
    cases u with
    | v d =>
      cases d with
      | str z => exact absurd rfl (h z)
      | _ => rfl
    | r n => rfl
  simp only [e]
  unfold seqV
  cases asSeq S u with
  | none => rfl
  | some xs => simp only; cases atI xs i <;> rfl
@[simp ↓] theorem v_ixL (ds : List D) (i : Int) : wpO (fIxX (.v (.lst ds)) (.v (.int i)) S) q = wpo (atI ds i) fun d => q (.v d) S := by
  rw [ixX_q _ _ (by simp) rfl]; simp only [seqV_l, atI_map]; cases atI ds i <;> rfl
@[simp ↓] theorem v_ixF (ds : List D) (i : Int) : wpO (fIxX (.v (.frl ds)) (.v (.int i)) S) q = wpo (atI ds i) fun d => q (.v d) S := by
  rw [ixX_q _ _ (by simp) rfl]; simp only [seqV_f, atI_map]; cases atI ds i <;> rfl
@[simp ↓] theorem v_ixT (ds : List D) (i : Int) : wpO (fIxX (.v (.tup ds)) (.v (.int i)) S) q = wpo (atI ds i) fun d => q (.v d) S := by
  rw [ixX_q _ _ (by simp) rfl]; simp only [seqV_t, atI_map]; cases atI ds i <;> rfl
@[simp ↓] theorem v_ixS (z : Str) (i : Int) : wpO (fIxX (.v (.str z)) (.v (.int i)) S) q = (z.length ≤ 100000 ∧ wpo (atI z.cps.toList i) fun c => q (.v (.str ⟨#[c]⟩)) S) := by
  unfold fIxX asDic fIx
  simp only
  by_cases h : z.length ≤ 100000
  · simp only [h, if_true, true_and]; cases atI z.cps.toList i <;> rfl
  · simp [h]
def cellX (c : Option Cell) (i : Int) (k : U → Prop) : Prop := match c with
  | some (.lst xs) => wpo (atI xs i) k
  | _ => False
@[simp ↓] theorem cellX_l (xs : List U) (i : Int) (k : U → Prop) : cellX (some (.lst xs)) i k = wpo (atI xs i) k := id rfl
theorem atI_nat {α : Type} (xs : List α) (n : Nat) : atI xs (n : Int) = xs[n]? := by
  unfold atI ixN
  rw [if_pos (by omega)]
  by_cases h : (n : Int) < xs.length
  · rw [if_pos h]; simp
  · rw [if_neg h, List.getElem?_eq_none (by omega)]; rfl
@[simp ↓] theorem atI_c0 {α : Type} (x : α) (xs : List α) (k : α → Prop) : wpo (atI (x :: xs) 0) k = k x := by rw [show (0 : Int) = ((0 : Nat) : Int) from rfl, atI_nat]; rfl
@[simp ↓] theorem atI_c1 {α : Type} (x y : α) (xs : List α) (k : α → Prop) : wpo (atI (x :: y :: xs) 1) k = k y := by rw [show (1 : Int) = ((1 : Nat) : Int) from rfl, atI_nat]; rfl
@[simp ↓] theorem atI_c2 {α : Type} (x y z : α) (xs : List α) (k : α → Prop) : wpo (atI (x :: y :: z :: xs) 2) k = k z := by rw [show (2 : Int) = ((2 : Nat) : Int) from rfl, atI_nat]; rfl
@[simp ↓] theorem wpo_map {α β : Type} (f : α → β) (o : Option α) (k : β → Prop) : wpo (o.map f) k = wpo o fun x => k (f x) := by cases o <;> rfl
/-- an item that is there -/
theorem atI_get {α : Type} {xs : List α} {i : Int} {k : α → Prop} (x0 : α) (h0 : 0 ≤ i) (h1 : i < xs.length) : wpo (atI xs i) k = k (xs.getD i.toNat x0) := by
  obtain ⟨n, rfl⟩ := Int.eq_ofNat_of_zero_le h0
  have h2 : n < xs.length := by omega
  simp only [Int.toNat_natCast]
  rw [atI_nat, List.getElem?_eq_getElem h2]
  simp [List.getD, List.getElem?_eq_getElem h2]
/-! methods -/
@[simp] theorem isL_l (ds : List D) : isL S (.v (.lst ds)) = true := id rfl
@[simp] theorem isS_s (z : Str) : isS S (.v (.str z)) = true := id rfl
theorem isL_r (n : Nat) (k : Prop) : (isL S (.r n) = true ∧ k) = cellL S[n]? fun _ => k := by
  unfold isL asList cellL
  simp only
  cases S[n]? with
  | none => simp
  | some c => cases c <;> simp
@[simp ↓] theorem v_append (n : Nat) (u : U) : wpO (fAppend (.r n) [u] S) q = cellL S[n]? fun xs => xs.length < 100000 ∧ q (.v .non) (S.set n (.lst (xs ++ [u]))) := by
  unfold fAppend cellL
  simp only
  cases S[n]? with
  | none => rfl
  | some c =>
    cases c with
    | lst xs => by_cases h : xs.length < 100000 <;> simp [h]
    | _ => rfl
@[simp ↓] theorem v_reverse (n : Nat) : wpO (fReverse (.r n) [] S) q = cellL S[n]? fun xs => q (.v .non) (S.set n (.lst xs.reverse)) := by
  unfold fReverse cellL
  simp only
  cases S[n]? with
  | none => rfl
  | some c => cases c <;> rfl
/-! the store -/
@[simp] theorem sto_0 (S l : Sto) : (S ++ l)[S.length]? = l[0]? := by rw [List.getElem?_append_right (Nat.le_refl _)]; simp
@[simp] theorem sto_k (S l : Sto) (k : Nat) : (S ++ l)[S.length + k]? = l[k]? := by rw [List.getElem?_append_right (by omega)]; simp
@[simp] theorem set_0 (S l : Sto) (c : Cell) : (S ++ l).set S.length c = S ++ l.set 0 c := by rw [List.set_append_right _ _ (Nat.le_refl _)]; simp
@[simp] theorem set_k (S l : Sto) (k : Nat) (c : Cell) : (S ++ l).set (S.length + k) c = S ++ l.set k c := by rw [List.set_append_right _ _ (by omega)]; simp
/-! the end of a def that leaves the caller's cells -/
theorem optAll_same {n : Nat} {T : Sto} : ∀ (S l : Sto), optAll (fun p : Cell × Cell => if p.2 = p.1 then some p.1 else fixC n 4 T p.2) (S.zip (S ++ l)) = some S
  | [], l => by simp [optAll]
  | c :: S, l => by simp [optAll, optAll_same S l]
@[simp] theorem fixS_same (S l : Sto) : fixS S (S ++ l) = some S := optAll_same S l
@[simp] theorem fixS_id (S : Sto) : fixS S S = some S := by have := fixS_same S []; simpa using this
@[simp] theorem fin_v (S : Sto) (d : D) (l : Sto) : fin S (.v d) (S ++ l) = .ok (.v d) S := by unfold fin; simp [fixU]
@[simp] theorem fin_v0 (S : Sto) (d : D) : fin S (.v d) S = .ok (.v d) S := by unfold fin; simp [fixU]
theorem fin_l {S l : Sto} {k : Nat} {ds : List D} (h : l[k]? = some (.lst (ds.map U.v))) : fin S (.r (S.length + k)) (S ++ l) = .ok (.v (.lst ds)) S := by
  unfold fin
  simp only [fixU, fixS_same]
  rw [if_neg (by omega)]
  have e : frz S.length 4 (S ++ l) (.r (S.length + k)) = some (.lst ds) := by
    show (if S.length + k < S.length then none else _) = _
    rw [if_neg (by omega), sto_k, h]
    simp
  rw [e]; rfl
theorem fin_l0 {S l : Sto} {ds : List D} : fin S (.r S.length) (S ++ .lst (ds.map U.v) :: l) = .ok (.v (.lst ds)) S := fin_l (k := 0) rfl
end
/-! ### a list comprehension whose turns leave the store -/
theorem lc_go {src : Option Nat} {c0 : Option Cell} {g : MG} {t : MT} {e : ME} {ρ : Env'} {S : Sto} (p : D → Bool) (f : D → D) : ∀ (ds acc : List D), acc.length + ds.length < 100000 → (∀ acc : List D, srcOk src c0 (S ++ [.lst (acc.map U.v)])) →
    (∀ d ∈ ds, ∀ acc : List D, ∃ ρ1, g (.v d) ρ = some ρ1 ∧ t ρ1 (S ++ [.lst (acc.map U.v)]) = .ok (p d) (S ++ [.lst (acc.map U.v)]) ∧ (p d = true → e ρ1 (S ++ [.lst (acc.map U.v)]) = .ok (.v (f d)) (S ++ [.lst (acc.map U.v)]))) →
    lcGo src c0 g t e S.length (ds.map U.v) ρ (S ++ [.lst (acc.map U.v)]) = .ok () (S ++ [.lst ((acc ++ (ds.filter p).map f).map U.v)])
  | [], acc, hl, hs, h => by simp [lcGo]
  | d :: ds, acc, hl, hs, h => by
    obtain ⟨ρ1, h1, h2, h3⟩ := h d (by simp) acc
    simp only [List.map_cons, lcGo, h1, h2, noEx_ok, R.bind_ok]
    cases hp : p d with
    | false =>
      simp only [Bool.false_eq_true, if_false]
      rw [if_pos (hs acc), lc_go p f ds acc (by simp at hl; omega) hs (fun d hd => h d (by simp [hd]))]
      simp [hp]
    | true =>
      simp only [if_true, h3 hp, noEx_ok, R.bind_ok, sto_0, List.getElem?_cons_zero, set_0, List.set_cons_zero]
      rw [if_pos ⟨by simp at hl ⊢; omega, hs acc⟩]
      have := lc_go p f ds (acc ++ [f d]) (by simp at hl ⊢; omega) hs (fun d hd => h d (by simp [hd]))
      simp only [List.map_append, List.map_cons, List.map_nil] at this
      rw [this]
      simp [hp]
theorem lcV_eq {vs : List Nat} {it : MI} {g : MG} {t : MT} {e : ME} {ρ : Env'} {S S1 : Sto} {src : Option Nat} {ds : List D} (p : D → Bool) (f : D → D) (hi : it ρ S = .ok ⟨ds.map U.v, src⟩ S1) (hl : ds.length < 100000) (hs : ∀ n, src = some n → n < S1.length)
    (h : ∀ d ∈ ds, ∀ acc : List D, ∃ ρ1, g (.v d) (wipeE ρ vs) = some ρ1 ∧ t ρ1 (S1 ++ [.lst (acc.map U.v)]) = .ok (p d) (S1 ++ [.lst (acc.map U.v)]) ∧ (p d = true → e ρ1 (S1 ++ [.lst (acc.map U.v)]) = .ok (.v (f d)) (S1 ++ [.lst (acc.map U.v)]))) :
    eLcV vs it g t e ρ S = .ok (.v (.lst ((ds.filter p).map f))) S1 := by
  have so : ∀ l : Sto, srcOk src (src.bind fun n => S1[n]?) (S1 ++ l) := fun l => by
    unfold srcOk
    cases src with
    | none => trivial
    | some n => simp only [Option.bind_some]; rw [List.getElem?_append_left (hs n rfl)]
  have hg := lc_go (src := src) (c0 := src.bind fun n => S1[n]?) (S := S1) p f ds [] (by simpa using hl) (fun acc => so _) h
  simp only [List.map_nil, List.nil_append] at hg
  unfold eLcV lcRun
  simp only [hi, R.bind_ok]
  rw [if_pos (so _), hg]
  simp only [R.bind_ok, kfV, sto_0, List.getElem?_cons_zero, allV_map, if_true]
end Pu
/-! Pu: more value functions on plain values. -/
namespace Pu
open PySem L2
section
variable {q : U → Sto → Prop} {S : Sto} {X : XP}
/-! equality -/
@[simp] theorem datAt_bl (n : Nat) (b : Bool) : datAt n (.bl b) = false := by cases n <;> rfl
theorem v_eq {a b : D} (ha : isDat a = true) (hb : isDat b = true) : wpO (fEq (.v a) (.v b) S) q = q (.v (.bl (decide (a = b)))) S := by
  unfold fEq deL eqD
  simp only [ha, hb, and_self, if_true]
  rfl
theorem v_ne {a b : D} (ha : isDat a = true) (hb : isDat b = true) : wpO (fNe (.v a) (.v b) S) q = q (.v (.bl (!decide (a = b)))) S := by
  unfold fNe deL eqD
  simp only [ha, hb, and_self, if_true]
  rfl
@[simp ↓] theorem v_eqI (i j : Int) : wpO (fEq (.v (.int i)) (.v (.int j)) S) q = q (.v (.bl (decide (i = j)))) S := by rw [v_eq (by simp) (by simp)]; simp
@[simp ↓] theorem v_neI (i j : Int) : wpO (fNe (.v (.int i)) (.v (.int j)) S) q = q (.v (.bl (!decide (i = j)))) S := by rw [v_ne (by simp) (by simp)]; simp
@[simp ↓] theorem v_eqS (i j : Str) : wpO (fEq (.v (.str i)) (.v (.str j)) S) q = q (.v (.bl (decide (i = j)))) S := by rw [v_eq (by simp) (by simp)]; simp
@[simp ↓] theorem v_eqB (i j : Bool) : wpO (fEq (.v (.bl i)) (.v (.bl j)) S) q = q (.v (.bl (decide (i = j)))) S := by
  unfold fEq deL eqD; simp only [datAt_bl, isDat, Bool.false_eq_true, and_self, if_false]; rfl
@[simp ↓] theorem v_neB (i j : Bool) : wpO (fNe (.v (.bl i)) (.v (.bl j)) S) q = q (.v (.bl (!decide (i = j)))) S := by
  unfold fNe deL eqD; simp only [datAt_bl, isDat, Bool.false_eq_true, and_self, if_false]; rfl
theorem v_neL {n m : Nat} {xs ys : List D} (h1 : S[n]? = some (.lst (xs.map U.v))) (h2 : S[m]? = some (.lst (ys.map U.v))) (ha : isDat (.lst xs) = true) (hb : isDat (.lst ys) = true) : wpO (fNe (.r n) (.r m) S) q = q (.v (.bl (!decide (xs = ys)))) S := by
  unfold fNe deL eqD
  simp only [h1, h2, allV_map, Option.map_some, ha, hb, and_self, if_true]
  show q _ S = _
  simp
theorem v_eqRV {n : Nat} {xs ys : List D} (h1 : S[n]? = some (.lst (xs.map U.v))) (ha : isDat (.lst xs) = true) (hb : isDat (.lst ys) = true) : wpO (fEq (.r n) (.v (.lst ys)) S) q = q (.v (.bl (decide (xs = ys)))) S := by
  unfold fEq deL eqD
  simp only [h1, allV_map, Option.map_some, ha, hb, and_self, if_true]
  show q _ S = _
  simp
/-! fields -/
def cellI (c : Option Cell) (k : Nat → List (Str × U) → Prop) : Prop := match c with
  | some (.ins c fs) => k c fs
  | _ => False
@[simp ↓] theorem cellI_i (c : Nat) (fs : List (Str × U)) (k : Nat → List (Str × U) → Prop) : cellI (some (.ins c fs)) k = k c fs := id rfl
@[simp ↓] theorem isIns_r (n : Nat) (k : Nat → List (Str × U) → Prop) : isIns S (.r n) k = cellI S[n]? k := by
  unfold isIns asIns cellI
  simp only
  cases S[n]? with
  | none => rfl
  | some c => cases c <;> rfl
@[simp ↓] theorem isIns_v (c : Nat) (fs : List (Str × D)) (k : Nat → List (Str × U) → Prop) : isIns S (.v (.ins c fs)) k = k c (fs.map fun p => (p.1, .v p.2)) := id rfl
@[simp ↓] theorem putFld_r (cs : List Nat) (f : Str) (u : U) (n : Nat) (k : Sto → Prop) : putFld cs f u (.r n) S k = cellI S[n]? fun c fs => (c ∈ cs ∧ fs.length < 900) ∧ k (S.set n (.ins c (putU f u fs))) := by
  cases h : S[n]? with
  | none => simp [putFld, cellI, h]
  | some c => cases c <;> simp [putFld, cellI, h]
@[simp ↓] theorem v_fld (cs : List Nat) (f : Str) (u : U) : wpO (fFld cs f u S) q = isIns S u fun c fs => c ∈ cs ∧ wpo (fs.lookup f) fun z => q z S := by
  unfold fFld isIns
  cases asIns S u with
  | none => rfl
  | some p =>
    by_cases h : p.1 ∈ cs
    · simp only [h, if_true, true_and]; cases p.2.lookup f <;> rfl
    · simp [h]
/-! slices -/
@[simp ↓] theorem v_slS (z : Str) (lo hi : Option Int) : wpO (fSl (.v (.str z)) lo hi S) q = (z.length ≤ 100000 ∧ q (.v (.str (cutS z lo hi))) S) := by
  unfold fSl; by_cases h : z.length ≤ 100000 <;> simp [h]
@[simp ↓] theorem v_slT (ds : List D) (lo hi : Option Int) : wpO (fSl (.v (.tup ds)) lo hi S) q = q (.v (.tup (cutU ds lo hi))) S := id rfl
theorem cutU_map {α β : Type} (f : α → β) (xs : List α) (lo hi : Option Int) : cutU (xs.map f) lo hi = (cutU xs lo hi).map f := by unfold cutU; simp
@[simp ↓] theorem v_slL (ds : List D) (lo hi : Option Int) : wpO (fSl (.v (.lst ds)) lo hi S) q = q (.v (.lst (cutU ds lo hi))) S := by
  unfold fSl asList
  simp only [cutU_map, allV_map, Option.map_some]
  rfl
@[simp ↓] theorem v_revL (ds : List D) : wpO (fRev (.v (.lst ds)) S) q = q (.v (.lst ds.reverse)) S := by
  unfold fRev asList
  simp only [← List.map_reverse, allV_map, Option.map_some]
  rfl
@[simp ↓] theorem v_revR (n : Nat) : wpO (fRev (.r n) S) q = cellL S[n]? fun xs => wpo (allV xs.reverse) fun ds => q (.v (.lst ds)) S := by
  unfold fRev asList cellL
  simp only
  cases S[n]? with
  | none => rfl
  | some c =>
    cases c with
    | lst xs => simp only; cases allV xs.reverse <;> rfl
    | _ => rfl
theorem cutS_len (z : Str) (lo hi : Option Int) : (cutS z lo hi).length ≤ z.length := by
  unfold cutS
  show (List.toArray _).size ≤ z.cps.size
  simp
  omega
/-! join -/
@[simp] theorem allS_map (xs : List Str) : allS (xs.map fun x => U.v (.str x)) = some xs := by
  induction xs with
  | nil => rfl
  | cons x xs ih => simp [allS, ih]
theorem v_join (a : Str) (xs : List Str) (h : (xs.map (·.length)).sum + xs.length * a.length ≤ 100000) : wpO (fJoin (.v (.str a)) [.v (.lst (xs.map D.str))] S) q = q (.v (.str (Txt.join a xs))) S := by
  unfold fJoin asSeq
  simp only [List.map_map]
  rw [show (U.v ∘ D.str) = fun x => U.v (.str x) from rfl, allS_map]
  simp [h]
/-! dicts -/
def dicV (S : Sto) (u : U) (k : List (D × U) → Prop) : Prop := match asDic S u with
  | some kvs => k kvs
  | none => False
def cellD (c : Option Cell) (k : List (D × U) → Prop) : Prop := match c with
  | some (.dic kvs) => k kvs
  | some (.dicL kvs) => k kvs
  | _ => False
@[simp ↓] theorem cellD_l (kvs : List (D × U)) (k : List (D × U) → Prop) : cellD (some (.dicL kvs)) k = k kvs := id rfl
@[simp ↓] theorem cellD_d (kvs : List (D × U)) (k : List (D × U) → Prop) : cellD (some (.dic kvs)) k = k kvs := id rfl
@[simp ↓] theorem dicV_v (kvs : List (D × D)) (k : List (D × U) → Prop) : dicV S (.v (.dic kvs)) k = k (kvs.map fun p => (p.1, .v p.2)) := id rfl
@[simp ↓] theorem dicV_r (n : Nat) (k : List (D × U) → Prop) : dicV S (.r n) k = cellD S[n]? k := by
  unfold dicV asDic cellD
  simp only
  cases S[n]? with
  | none => rfl
  | some c => cases c <;> rfl
theorem v_inD {neg : Bool} {u : U} {ks : List D} {kvs : List (D × U)} (h : asDic S u = some kvs) : wpO (fInX neg (.v (.tup ks)) u S) q = (isKey (.tup ks) = true ∧ q (.v (.bl (cond neg (!dhas kvs (.tup ks)) (dhas kvs (.tup ks))))) S) := by
  unfold fInX
  rw [h]
  by_cases hk : isKey (.tup ks) = true <;> simp [hk]
theorem v_setD {n : Nat} {ks : List D} {v : U} {kvs : List (D × U)} {k : Sto → Prop} (h : S[n]? = some (.dic kvs)) : wpS (fSet (.r n) (.v (.tup ks)) v S) k = ((isKey (.tup ks) = true ∧ kvs.length < 100000) ∧ k (S.set n (.dic (dput kvs (.tup ks) v)))) := by
  unfold fSet
  simp only [h]
  by_cases hk : isKey (.tup ks) = true ∧ kvs.length < 100000
  · rw [if_pos hk, wpS_some, eq_iff_iff]; exact ⟨fun z => ⟨hk, z⟩, fun z => z.2⟩
  · rw [if_neg hk, wpS_none, eq_iff_iff]; exact ⟨False.elim, fun z => hk z.1⟩
@[simp] theorem isDc_v (kvs : List (D × D)) : isDc S (.v (.dic kvs)) = true := rfl
theorem v_get2 {u w : U} {ks : List D} {kvs : List (D × U)} (h : asDic S u = some kvs) : wpO (fGet u [.v (.tup ks), w] S) q = (isKey (.tup ks) = true ∧ q ((dget kvs (.tup ks)).getD w) S) := by
  unfold fGet
  rw [h]
  by_cases hk : isKey (.tup ks) = true <;> simp [hk]
/-! isinstance -/
@[simp ↓] theorem v_isi (u : U) (T : String) : wpO (fIsi [u, .v (.ty T)] S) q = wpo (tyNm S u) fun t => wpo (kitB t T) fun b => q (.v (.bl b)) S := by
  unfold fIsi
  simp only
  cases tyNm S u with
  | none => rfl
  | some t => simp only [Option.bind_some, wpo_some]; cases kitB t T <;> rfl
@[simp] theorem tyNm_i (i : Int) : tyNm S (.v (.int i)) = some "int" := id rfl
@[simp] theorem tyNm_b (i : Bool) : tyNm S (.v (.bl i)) = some "bool" := id rfl
@[simp] theorem tyNm_s (i : Str) : tyNm S (.v (.str i)) = some "str" := id rfl
@[simp] theorem tyNm_t (i : List D) : tyNm S (.v (.tup i)) = some "tuple" := id rfl
@[simp] theorem tyNm_l (i : List D) : tyNm S (.v (.lst i)) = some "list" := id rfl
@[simp] theorem tyNm_n : tyNm S (.v .non) = some "NoneType" := id rfl
end
/-! ### the caller's cells -/
def uOk (n : Nat) : U → Bool
  | .v _ => true
  | .r m => decide (m < n)
def cOk (n : Nat) : Cell → Bool
  | .lst xs => xs.all (uOk n)
  | .tpc xs => xs.all (uOk n)
  | .dic kvs => kvs.all fun p => uOk n p.2
  | .ins _ fs => fs.all fun p => uOk n p.2
  | .dead => true
  | .dicL _ => false
def Wf (S : Sto) : Prop := ∀ c ∈ S, cOk S.length c = true
theorem fixU_id {n k : Nat} {S : Sto} {u : U} (h : uOk n u = true) : fixU n k S u = some u := by
  cases u with
  | v d => rfl
  | r m => unfold fixU; simp only [uOk, decide_eq_true_eq] at h; simp [h]
theorem optAll_id {α : Type} {f : α → Option α} : ∀ {xs : List α}, (∀ x ∈ xs, f x = some x) → optAll f xs = some xs
  | [], _ => rfl
  | x :: xs, h => by
    have ih := optAll_id (xs := xs) fun y hy => h y (List.mem_cons_of_mem _ hy)
    simp [optAll, h x (by simp), ih]
theorem fixC_ok {n k : Nat} {S : Sto} {c : Cell} (h : cOk n c = true) : fixC n k S c = some c := by
  cases c with
  | lst xs => show (optAll _ xs).map _ = _; rw [optAll_id fun x hx => fixU_id (List.all_eq_true.mp h x hx)]; rfl
  | tpc xs => show (optAll _ xs).map _ = _; rw [optAll_id fun x hx => fixU_id (List.all_eq_true.mp h x hx)]; rfl
  | dic xs => show (optAll _ xs).map _ = _; rw [optAll_id fun x hx => by rw [fixU_id (List.all_eq_true.mp h x hx)]; rfl]; rfl
  | ins c xs => show (optAll _ xs).map _ = _; rw [optAll_id fun x hx => by rw [fixU_id (List.all_eq_true.mp h x hx)]; rfl]; rfl
  | dead => rfl
  | dicL xs => cases h
theorem uOk_mono {n m : Nat} (h : n ≤ m) {u : U} (hu : uOk n u = true) : uOk m u = true := by
  cases u with
  | v d => rfl
  | r k => simp only [uOk, decide_eq_true_eq] at hu ⊢; omega
theorem cOk_mono {n m : Nat} (h : n ≤ m) {c : Cell} (hc : cOk n c = true) : cOk m c = true := by
  cases c with
  | lst xs => exact List.all_eq_true.mpr fun x hx => uOk_mono h (List.all_eq_true.mp hc x hx)
  | tpc xs => exact List.all_eq_true.mpr fun x hx => uOk_mono h (List.all_eq_true.mp hc x hx)
  | dic xs => exact List.all_eq_true.mpr fun x hx => uOk_mono h (List.all_eq_true.mp hc x hx)
  | ins c xs => exact List.all_eq_true.mpr fun x hx => uOk_mono h (List.all_eq_true.mp hc x hx)
  | dead => rfl
  | dicL xs => cases hc
theorem optAll_app {α β : Type} {f : α → Option β} {xs ys : List α} {as bs : List β} (h1 : optAll f xs = some as) (h2 : optAll f ys = some bs) : optAll f (xs ++ ys) = some (as ++ bs) := by
  induction xs generalizing as with
  | nil => simp [optAll] at h1; subst h1; exact h2
  | cons x xs ih =>
    unfold optAll at h1
    cases q : f x with
    | none => rw [q] at h1; cases h1
    | some y =>
      rw [q] at h1
      simp only [Option.map_eq_some_iff] at h1
      obtain ⟨bs', e1, rfl⟩ := h1
      simp [optAll, q, ih e1]
/-- the cells S stay, the cell behind them was the def's argument's -/
theorem fixS_last (S : Sto) (c0 c1 : Cell) (l : Sto) : fixS (S ++ [c0]) (S ++ c1 :: l) = (if c1 = c0 then some c0 else fixC (S.length + 1) 4 (S ++ c1 :: l) c1).map fun c => S ++ [c] := by
  unfold fixS
  have e : (S ++ [c0]).zip (S ++ c1 :: l) = S.zip S ++ [(c0, c1)] := by rw [List.zip_append rfl]; simp
  rw [e]
  have h1 := optAll_same (n := (S ++ [c0]).length) (T := S ++ c1 :: l) S []
  simp only [List.append_nil] at h1
  cases q : (if c1 = c0 then some c0 else fixC (S.length + 1) 4 (S ++ c1 :: l) c1) with
  | none =>
    have : ∀ (xs : List (Cell × Cell)) (f : Cell × Cell → Option Cell) (y : Cell × Cell), f y = none → optAll f (xs ++ [y]) = none := by
      intro xs f y hy
      induction xs with
      | nil => simp [optAll, hy]
      | cons x xs ih => simp only [List.cons_append, optAll, ih]; cases f x <;> rfl
    rw [this _ _ _ (by simpa using q)]; rfl
  | some c => rw [optAll_app h1 (bs := [c]) (by simp only [optAll]; simp only [List.length_append, List.length_cons, List.length_nil]; rw [q]; rfl)]; rfl
theorem fin_last {S : Sto} {c0 c1 : Cell} {l : Sto} {d : D} (h : fixC (S.length + 1) 4 (S ++ c1 :: l) c1 = some c1) : fin (S ++ [c0]) (.v d) (S ++ c1 :: l) = .ok (.v d) (S ++ [c1]) := by
  unfold fin
  rw [fixS_last, h]
  by_cases e : c1 = c0
  · subst e; simp [fixU]
  · simp [fixU, e]
theorem eq_of_wpr {α : Type} {r : R α} {a : α} {S : Sto} (h : wpr r (fun x T => x = a ∧ T = S) (fun _ _ _ => False)) : r = .ok a S := by
  cases r with
  | ok x T => obtain ⟨rfl, rfl⟩ := (show x = a ∧ T = S from h); rfl
  | ex c fs T => exact (show False from h).elim
  | er => exact (show False from h).elim
theorem w_lcV {vs : List Nat} {it : MI} {g : MG} {t : MT} {e : ME} {ρ : Env'} {S S1 : Sto} {src : Option Nat} {ds : List D} {q : U → Sto → Prop} {X : XP} (p : D → Bool) (f : D → D)
    (hi : wpr (it ρ S) (fun iv T => iv = ⟨ds.map U.v, src⟩ ∧ T = S1) (fun _ _ _ => False)) (hl : ds.length < 100000) (hs : ∀ n, src = some n → n < S1.length)
    (h : ∀ d ∈ ds, ∀ acc : List D, wpo (g (.v d) (wipeE ρ vs)) fun ρ1 => wpr (t ρ1 (S1 ++ [.lst (acc.map U.v)])) (fun b T => b = p d ∧ T = S1 ++ [.lst (acc.map U.v)]) (fun _ _ _ => False) ∧
      (p d = true → wpr (e ρ1 (S1 ++ [.lst (acc.map U.v)])) (fun u T => u = .v (f d) ∧ T = S1 ++ [.lst (acc.map U.v)]) (fun _ _ _ => False)))
    (k : q (.v (.lst ((ds.filter p).map f))) S1) : wpr (eLcV vs it g t e ρ S) q X := by
  rw [lcV_eq p f (eq_of_wpr hi) hl hs fun d hd acc => ?_]
  · exact k
  · have h1 := h d hd acc
    cases q : g (.v d) (wipeE ρ vs) with
    | none => rw [q] at h1; exact h1.elim
    | some ρ1 =>
      rw [q] at h1
      exact ⟨ρ1, rfl, eq_of_wpr h1.1, fun z => eq_of_wpr (h1.2 z)⟩
theorem joinL_len (a : List Nat) : ∀ ps : List (List Nat), (TL.joinL a ps).length ≤ (ps.map (·.length)).sum + ps.length * a.length
  | [] => by simp [TL.joinL]
  | [p] => by simp [TL.joinL]
  | p :: q :: r => by
    have ih := joinL_len a (q :: r)
    simp only [TL.joinL, List.length_append, List.map_cons, List.sum_cons, List.length_cons, Nat.add_mul, Nat.one_mul] at ih ⊢
    omega
theorem join_len (a : Str) (ys : List Str) : (Txt.join a ys).length ≤ (ys.map (·.length)).sum + ys.length * a.length := by
  rw [TL.join_eq]
  have e := congrArg List.length (TL.tl_join a ys)
  have h := joinL_len (TL.tl a) (ys.map TL.tl)
  have e2 : (Str.join a ys).length = (TL.tl (Str.join a ys)).length := by
    show (Str.join a ys).cps.size = _
    simp [TL.tl]
  rw [e2, e]
  refine Nat.le_trans h ?_
  simp only [List.map_map, List.length_map]
  have e3 : ((·.length) ∘ TL.tl : Str → Nat) = (·.length) := by
    funext z
    show (TL.tl z).length = z.cps.size
    simp [TL.tl]
  rw [e3]
  have e4 : (TL.tl a).length = a.length := by
    show (TL.tl a).length = a.cps.size
    simp [TL.tl]
  rw [e4]
  exact Nat.le_refl _
theorem sum_ones {α : Type} {g : α → Nat} : ∀ {xs : List α}, (∀ x ∈ xs, g x = 1) → (xs.map g).sum = xs.length
  | [], _ => rfl
  | x :: xs, h => by simp [h x (by simp), sum_ones (xs := xs) fun y hy => h y (List.mem_cons_of_mem _ hy)]; omega
theorem optAll_dic {n k : Nat} {S : Sto} : ∀ kvs : List (D × D), optAll (fun p : D × U => (frz n k S p.2).map fun d => (p.1, d)) (kvs.map fun p => (p.1, U.v p.2)) = some kvs
  | [] => rfl
  | p :: r => by simp [optAll, optAll_dic r]
theorem asSeq_app {S : Sto} {u : U} {xs : List U} (l : Sto) (h : asSeq S u = some xs) : asSeq (S ++ l) u = some xs :=
  asSeq_same h fun n hn => by
    cases u with
    | v d => cases hn
    | r m =>
      obtain rfl : m = n := by cases hn; rfl
      unfold asSeq at h
      simp only at h
      rw [List.getElem?_append_left]
      by_cases hm : m < S.length
      · exact hm
      · rw [List.getElem?_eq_none (by omega)] at h; cases h
theorem src_app {S : Sto} {u : U} {xs : List U} (l l' : Sto) (h : asSeq S u = some xs) : srcOk (srcOf u) ((srcOf u).bind fun n => (S ++ l)[n]?) (S ++ l') := by
  cases u with
  | v d => trivial
  | r m =>
    have hm : m < S.length := by
      by_cases hm : m < S.length
      · exact hm
      · unfold asSeq at h
        simp only at h
        rw [List.getElem?_eq_none (by omega)] at h; cases h
    show (S ++ l')[m]? = (S ++ l)[m]?
    rw [List.getElem?_append_left hm, List.getElem?_append_left hm]
/-- a list of data in a list of cells -/
theorem data_get {α : Type} {f : α → D} {rows : List α} {i : Nat} {w : U} (hw : ((rows.map f).map U.v)[i]? = some w) : ∃ r, rows[i]? = some r ∧ w = .v (f r) ∧ rows.drop i = r :: rows.drop (i + 1) := by
  rw [List.getElem?_map, List.getElem?_map, Option.map_eq_some_iff] at hw
  obtain ⟨d, hd, rfl⟩ := hw
  obtain ⟨r, hr1, rfl⟩ := Option.map_eq_some_iff.mp hd
  obtain ⟨hl, e⟩ := List.getElem?_eq_some_iff.mp hr1
  exact ⟨r, hr1, rfl, by rw [List.drop_eq_getElem_cons hl, e]⟩
theorem ofStr_inj {a b : String} (h : Str.ofString a = Str.ofString b) : a = b := by
  rw [Str.ofString_eq_toList, Str.ofString_eq_toList] at h
  have h1 : (a.toList.map Char.toNat).toArray = (b.toList.map Char.toNat).toArray := congrArg Str.cps h
  have h2 : a.toList.map Char.toNat = b.toList.map Char.toNat := by simpa using congrArg Array.toList h1
  have h3 : a.toList = b.toList := List.map_inj_right (fun x y e => by exact Char.toNat_inj.mp e) |>.mp h2
  exact String.toList_inj.mp h3
@[simp] theorem ofStr_eq (a b : String) : (Str.ofString a = Str.ofString b) = (a = b) := by
  rw [eq_iff_iff]; exact ⟨ofStr_inj, fun h => by rw [h]⟩
@[simp] theorem ofStr_beq (a b : String) : (Str.ofString a == Str.ofString b) = (a == b) := by
  by_cases h : a = b
  · subst h; simp
  · have h2 : Str.ofString a ≠ Str.ofString b := fun z => h (ofStr_inj z)
    rw [beq_eq_false_iff_ne.mpr h, beq_eq_false_iff_ne.mpr h2]
@[simp ↓] theorem lookup_hit {α : Type} (a : String) (v : α) (r : List (Str × α)) (k : α → Prop) : wpo (((Str.ofString a, v) :: r).lookup (Str.ofString a)) k = k v := by
  simp
@[simp ↓] theorem lookup_cons' {α : Type} (a b : String) (v : α) (r : List (Str × α)) (k : α → Prop) : wpo (((Str.ofString a, v) :: r).lookup (Str.ofString b)) k = if b = a then k v else wpo (r.lookup (Str.ofString b)) k := by
  rw [List.lookup_cons]
  by_cases h : b = a
  · subst h; simp
  · have h2 : (Str.ofString b == Str.ofString a) = false := by rw [ofStr_beq]; simpa using h
    rw [h2, if_neg h]
@[simp ↓] theorem wpo_allV_rev (ds : List D) (k : List D → Prop) : wpo (allV (ds.map U.v).reverse) k = k ds.reverse := by rw [← List.map_reverse, wpo_allV_map]
end Pu
/-! Pu: a def whose body is super().__init__(its parameters). -/
namespace Pu
open PySem PySem.Spec L2
open PyProof.Rows hiding St
open PySem.W (ksEnv ksFn)

/-- its context -/
def cxS (CX : CXT) (P : Program) (w : World) (K : PySem.W.Frag) (mg : Str → Option Value) (base : Heap) (N : List Str) (qual : Str) (scope : Scope) (f : Addr) (cd : Value) (cc : Addr) (A : Around) (outer : List Env) (s : Shared) (H : Hp) (E : XK) : Cx where
  prog := P
  w := w
  K := K
  mg := mg
  base := base
  A := A.deeper (ksEnv qual scope s.heap.objs.size f cd cc)
  N := N
  s_0 := s
  H_0 := H
  env := ksEnv qual scope s.heap.objs.size f cd cc
  outer := outer
  stack := ksEnv qual scope s.heap.objs.size f cd cc :: outer
  ex := []
  calm := true
  fn := fun x => !(x == ("__class__" : Str))
  pn := []
  xe := fun e s' => wpAny (model P w) (A.deeper (ksEnv qual scope s.heap.objs.size f cd cc)) (leaving (ksEnv qual scope s.heap.objs.size f cd cc) e) (fun _ s'' => CX outer H s E e s'') (fun e' s'' => CX outer H s E e' s'') s'
structure SupScope (ps : List Str) (sc : Scope) : Prop where
  kind : sc.kind = .function
  co : sc.isCoroutine = false
  gen : sc.isGenerator = false
  nd : ps.Nodup
  par : ∀ x ∈ ps, sc.names.lookup x = some .local
  nocell : ∀ y ∈ sc.names, y.2 ≠ .cell
  free : ∀ y ∈ sc.names, y.2 = .free → y.1 = ("__class__" : Str)
  cls : sc.names.lookup ("__class__" : Str) = some .free
  sup : sc.names.lookup ("super" : Str) = some .globalImplicit
theorem zip_fst : ∀ (ps : List Str) (us : List Value), ((ps.zip us).map (·.1)).Sublist ps
  | [], _ => by simp
  | _ :: _, [] => by simp
  | p :: ps, u :: us => by simpa using zip_fst ps us
theorem zip_lookup : ∀ {ps : List Str} {us : List Value} {i : Nat} {x : Str} {u : Value}, ps.Nodup → ps[i]? = some x → us[i]? = some u → (ps.zip us).reverse.lookup x = some u := by
  intro ps us i x u nd hp hu
  have mem : (x, u) ∈ (ps.zip us).reverse := by
    rw [List.mem_reverse]
    refine List.mem_of_getElem? (i := i) ?_
    rw [List.getElem?_zip_eq_some]
    exact ⟨hp, hu⟩
  have ndk : ((ps.zip us).reverse.map (·.1)).Nodup := by
    rw [List.map_reverse]
    unfold List.Nodup
    rw [List.pairwise_reverse]
    exact (nd.sublist (zip_fst ps us)).imp fun h => Ne.symm h
  generalize (ps.zip us).reverse = l at mem ndk
  induction l with
  | nil => cases mem
  | cons q l ih =>
    obtain ⟨y, v⟩ := q
    rw [List.lookup_cons]
    simp only [List.map_cons, List.nodup_cons] at ndk
    by_cases h : x = y
    · subst h
      rcases List.mem_cons.mp mem with e | e
      · cases e; simp
      · exact absurd (List.mem_map.mpr ⟨_, e, rfl⟩) ndk.1
    · have h2 : (x == y) = false := by simpa using h
      rw [h2]
      rcases List.mem_cons.mp mem with e | e
      · cases e; exact absurd rfl h
      · exact ih e ndk.2
theorem inv_startS {CX : CXT} {P : Program} {w : World} {K : PySem.W.Frag} {mg : Str → Option Value} {base : Heap} {ps : List Str} {qual : Str} {scope : Scope} {f cc D : Addr} {cd : Value} {A : Around} {outer : List Env} {s : Shared} {H : Hp} {E : XK} {us : List Value} {vs : List V} {h1 : Heap} {tk : Nat} {cl : Value} {cld : Option Addr} {csl : Array (Option Value)}
    (S : SupScope ps scope) (hd : A.handled = none) (e0 : Env0 P w K mg base A outer s H) (hl : vs.length = ps.length) (r : Vals vs us) (hcell : K.lookup cc = some ⟨cl, cld, .cell (some (.ref D)), csl⟩)
    (hns : h1.Ns s.heap.objs.size (fun x => (ps.zip us).reverse.lookup x)) (hk : ∀ b o, s.heap.get? b = some o → h1.get? b = some o) :
    Inv (cxS CX P w K mg base ps qual scope f cd cc A outer s H E) [] (L2.start ps vs) H { s with heap := h1, toks := tk } := by
  have noA : ∀ b : Addr, b ∉ (cxS CX P w K mg base ps qual scope f cd cc A outer s H E).ex := fun b z => absurd (show b ∈ ([] : List Addr) from z) (by simp)
  have lk : ∀ y c, [(("__class__" : Str), cc)].lookup y = some c → y = "__class__" ∧ c = cc := fun y c h => by
    rw [List.lookup_cons] at h
    split at h
    · rename_i e; cases h; exact ⟨by simpa using e, rfl⟩
    · cases h
  have hb : base.get? cc = some ⟨cl, cld, .cell (some (.ref D)), csl⟩ := e0.mod.kin _ _ hcell
  refine ⟨⟨e0.mod, S.kind, rfl, rfl, Nat.le_refl _, fun y z c h1 h2 => ?_, fun y hy => ?_, fun y c hf h => ?_, fun _ => hd, Around.frames_deeper e0.frames, .inr ⟨rfl, rfl⟩, fun b z => absurd z (noA b), e0.bs, e0.bsz, fun b _ _ => noA b, fun b z => absurd z (noA b), e0.funs, e0.frf⟩,
    rfl, e0.bare, Un.kept hk, ⟨_, hns, fun i y v h1 h2 h3 => ?_⟩, fun y c h => ?_, e0.hok.fresh (Nat.le_refl _), fun y c h => ?_, fun p hp => absurd (show p ∈ ([] : List (Addr × Obj)) from hp) (by simp), e0.hok.kept hk, ?_⟩
  · rw [(lk y c h1).1, (lk z c h2).1]
  · have hy : scope.names.lookup y = some .cell ∨ scope.names.lookup y = some .free := hy
    rcases hy with hy | hy
    · exact absurd rfl (S.nocell _ (PySem.mem_of_lookup hy))
    · have e := S.free _ (PySem.mem_of_lookup hy) rfl
      simp only at e
      subst e
      exact ⟨cc, by show [(("__class__" : Str), cc)].lookup _ = _; simp⟩
  · have e := (lk y c h).1
    subst e
    exact absurd (show (!(("__class__" : Str) == ("__class__" : Str))) = true from hf) (by simp)
  · have hi : i < vs.length := by
      unfold L2.start at h2
      by_cases hi : i < vs.length
      · exact hi
      · rw [List.getElem?_append_right (by simpa using hi)] at h2
        rw [List.getElem?_replicate] at h2
        split at h2 <;> cases h2
    have ha : vs[i]? = some v := by
      unfold L2.start at h2
      rw [List.getElem?_append_left (by simpa using hi), List.getElem?_map] at h2
      cases e : vs[i]? with
      | none => rw [e] at h2; cases h2
      | some a => rw [e] at h2; cases h2; rfl
    obtain ⟨u, hu, rv⟩ := r.get ha
    exact ⟨u, rv, .inl ⟨S.par y (List.mem_of_getElem? h1), zip_lookup S.nd h1 hu⟩⟩
  · obtain ⟨rfl, rfl⟩ := lk y c h
    exact ⟨_, _, hk _ _ (e0.bs _ _ hb).1, rfl⟩
  · obtain ⟨rfl, rfl⟩ := lk y c h
    exact (e0.bs _ _ hb).2
  · unfold L2.start
    show _ = ps.length
    rw [List.length_append, List.length_map, List.length_replicate]
    omega
/-- such a def behind the top; C: its class, f2: the method that super() finds -/
structure SupD (P : Program) (K : PySem.W.Frag) (name qual : Str) (params : Arguments) (body : List Stmt) (scope : Scope) (dvs : List V) (C f2 f : Addr) (fd : FuncData) : Prop where
  ex : ∃ (oc : Value) (od : Option Addr) (dV kV doc pm : Value) (an : Option Addr) (cda : Addr) (ct : Value) (osl : Array (Option Value)) (cc : Addr) (cl : Value) (cld : Option Addr) (csl : Array (Option Value)) (ccl : Value) (cdd : Option Addr) (vs : Array Value) (ccs : Array (Option Value)) (file : Str) (tf : Tok),
    fd = ksFn name qual params body scope dV kV doc pm an (.ref cda) ct cc ∧ K.lookup f = some ⟨oc, od, .func fd, osl⟩ ∧ PySem.W.codeIn K (.ref cda) qual = true ∧ K.lookup cc = some ⟨cl, cld, .cell (some (.ref C)), csl⟩ ∧
    K.lookup cda = some ⟨ccl, cdd, .fields vs, ccs⟩ ∧ vs[2]? = some (.str file tf) ∧ ((P.main.file : Str) == file) = true ∧ DflV K dV dvs
  cls : ∃ cd, PySem.W.clsIn K C = some cd
  sub : PySem.W.mroIn K C (.ref C) = some true
  sn : PySem.W.nsIn K mainGlobals "super" = some none
  op : PySem.W.nsIn K cStatics "thirdparty.any" = some none
  si : PySem.W.ks_superIn K C C "__init__" = some (some (.ref f2))
  ty : PySem.W.typeIn K (.ref f2) = some (.type "function")
  fi : PySem.W.fnIn K f2 = true
  kp : PySem.W.keepIn K (.ref f) = true
theorem SupD.ok {P : Program} {w : World} {K : PySem.W.Frag} {mg : Str → Option Value} {base : Heap} {name qual : Str} {params : Arguments} {scope : Scope} {dvs : List V} {C f2 f : Addr} {fd fd2 : FuncData} {ps ps2 qs : List Str} {ar : Arg} {k : Nat} {sp2 : Sp} {p0 p1 apos cpos epos : Pos} {e : Expr} {es : List Expr} {t : TA} {pl : Sem Bool}
    (Sd : SupD P K name qual params [.Expr (.Call (.Attribute (.Call (.Name "super" p0) [] [] p1) "__init__" apos) (e :: es) [] cpos) epos] scope dvs C f2 f fd) (S : SupScope ps scope) (hpar : (params.posonlyargs ++ params.args).head? = some ar) (har : ps = ar.arg :: qs)
    (htop : (P.main.scope.names.lookup ("super" : Str)).isSome = false) (hmg : mg ("super" : Str) = none) (F2 : FnOk P w K mg base (L2.CX P w) k f2 fd2 ps2 sp2) (B2 : Binds K fd2 ps2 [])
    (ha : ∀ (cd : Value) (cc : Addr) (A : Around) (outer : List Env) (s : Shared) (H : Hp) (E : XK), PA (cxS (L2.CX P w) P w K mg base ps qual scope f cd cc A outer s H E) (e :: es) t)
    (ht : ∀ (v : V) (ws : List V) (H : Hp) (Q : List V → Hp → Prop), (v :: ws).length = ps.length → Q ws H → t (L2.start ps (v :: ws)) H Q)
    (he : ∀ env : Env, starEach (e :: es) env = (false, eval e env) :: starEach es env) (hpl : ∀ env : Env, (backTo cpos (starEach es env)).any (·.1) = false)
    (hev : ∀ env : Env, eval (.Call (.Attribute (.Call (.Name "super" p0) [] [] p1) "__init__" apos) (e :: es) [] cpos) env = (do
      let ov ← attributeBase (.Call (.Name "super" p0) [] [] p1) "__init__" env (eval (.Call (.Name "super" p0) [] [] p1) env)
      standAt apos.atName
      let (f, first) ← holding [ov] (getMethod ov "__init__" pl)
      callWith cpos f first (backTo cpos (starEach (e :: es) env)) []))
    (hsw : ∀ env : Env, swapsWith (.Call (.Attribute (.Call (.Name "super" p0) [] [] p1) "__init__" apos) (e :: es) [] cpos) none epos.line env = pure false) (hin : ∀ (L : Addr) (cd : Value) (cc : Addr), interactive (ksEnv qual scope L f cd cc) = false) :
    FnOk P w K mg base (L2.CX P w) (k + 1) f fd ps (fun vs H Q E => vs.length = ps.length ∧ (∃ x dx fs ws, vs = .ref x :: ws ∧ H x = some (.ins C dx fs)) ∧ sp2 vs H (fun _ H' => Q .non H') E) := by
  obtain ⟨oc, od, dV, kV, doc, pm, an, cda, ct, osl, cc, cl, cld, csl, ccl, cdd, vsc, ccs, file, tf, rfl, lk, hcd, hcell, hcode, hvs, hfile, _⟩ := Sd.ex
  refine ⟨fun vs H Q E h => h.1, fun A outer s H args us vs Q E hr e0 hb r hsp => ?_⟩
  obtain ⟨hl, ⟨x, dx, fs, ws, rfl, hx⟩, hsp⟩ := hsp
  have KX : K.In s.heap := e0.mod.kin.keeps fun b o e => (e0.bs b o e).1
  have lim : s.heap.NoLimit := e0.mod.nolimit.keeps fun b o e => (e0.bs b o e).1
  refine ks_codeAny_call_defAt hr.depth (KX _ _ lk) rfl lim (PySem.W.codeRec_of KX hcd) rfl hb S.nocell (fun y hy => S.par _ (List.of_mem_zip hy).1) (fun h₀ hns hk => ?_) S.co S.gen S.kind
  have I := inv_startS (CX := L2.CX P w) (qual := qual) (f := f) (cd := .ref cda) (E := E) (tk := s.toks + (ps.zip us).length) S hr.hd e0 hl r hcell hns hk
  change _root_.PySem.wpAt (model P w) (A.deeper (ksEnv qual scope s.heap.objs.size f (.ref cda) cc)) (.func _ (ksEnv qual scope s.heap.objs.size f (.ref cda) cc)) (execs _ (ksEnv qual scope s.heap.objs.size f (.ref cda) cc)) _ _ _
  have tk : Takes (cxS (L2.CX P w) P w K mg base ps qual scope f (.ref cda) cc A outer s H E) (Wd E) := takes_of rfl rfl rfl rfl
  obtain ⟨cdD, hD⟩ := Sd.cls
  obtain ⟨u0, us', rfl, ru, rus⟩ : ∃ u0 us', us = u0 :: us' ∧ RelV (.ref x) u0 ∧ Vals ws us' := by
    cases r with
    | cons a b => exact ⟨_, _, rfl, a, b⟩
  obtain rfl : u0 = .ref x := ru
  have hself : (ps.zip (Value.ref x :: us')).reverse.lookup ar.arg = some (.ref x) := zip_lookup (i := 0) S.nd (by rw [har]; rfl) rfl
  have hr2 : Room k (A.deeper (ksEnv qual scope s.heap.objs.size f (.ref cda) cc)) := hr.deeper _
  have hev2 := hev (ksEnv qual scope s.heap.objs.size f (.ref cda) cc)
  have hsw2 := hsw (ksEnv qual scope s.heap.objs.size f (.ref cda) cc)
  refine ks_wpAt_execs_cons (ks_wpAt_Expr_any (ks_wpAt_MethodCall (pl := pl) ?_ hev2) (hin _ _ _) hsw2)
  obtain ⟨oD, hD1, hD2⟩ : ∃ oD, K.lookup C = some oD ∧ oD.data = .cls cdD := by
    unfold PySem.W.clsIn at hD
    split at hD
    · rename_i c d cd' sl ho
      cases hD
      exact ⟨_, ho, rfl⟩
    · cases hD
  obtain ⟨mA, O, _⟩ := ins_get I.hok hx
  obtain ⟨odx, J, _⟩ := O.look
  obtain ⟨mb, b1, b2⟩ := I.mod.blt
  refine ks_wpAt_super_base (env := ksEnv qual scope s.heap.objs.size f (.ref cda) cc) S.sup S.cls (by decide) rfl (I.kIn _ _ lk) rfl hpar rfl (I.kIn _ _ hcode) rfl hvs hfile htop ?_
  refine PySem.W.ks_loadName_global S.kind S.sup (Calls.loadGlobal_builtin (env := ksEnv qual scope s.heap.objs.size f (.ref cda) cc) (I.mod.glob.keeps I.bk) hmg (b1.keeps I.bk) ((b2 _ (by decide +kernel)).trans (by first | rfl | kernel_rfl)) ⟨rfl, ?_⟩)
  refine wpAny_loadName_free S.kind S.cls (c := cc) (by show [(("__class__" : Str), cc)].lookup _ = _; simp) ⟨_, I.kIn _ _ hcell, rfl⟩ ?_
  refine wpAny_loadName_local S.kind (S.par _ (by rw [har]; simp)) hns hself ?_
  refine ks_wpAny_isType_cls (I.kIn _ _ hD1) hD2 ⟨rfl, ?_⟩
  refine ks_wpAny_call_super (I.kIn _ _ hD1) hD2 J.at_ J.cls (fun c e => ?_) (PySem.W.looks_mroIn I.kIn Sd.sub) (fun h' e kp => ?_)
  · have := J.no
    unfold PySem.W.notCls at this
    rw [e] at this
    exact Bool.noConfusion this
  have I2 := ClX.pin_new (t' := s.toks + (ps.zip (Value.ref x :: us')).length) I kp (Nat.le_refl _) e (fun v z => nomatch z)
  have X2 : K.In h' := I2.kIn
  have hxC : x ≠ C := PySem.W.ks_ne I.kIn J hD
  obtain ⟨of, hof, hofc⟩ : ∃ of, K.lookup f2 = some of ∧ of.cls = .type "function" := by
    have ht' : (K.lookup f2).map (·.cls) = some (.type "function") := Sd.ty
    cases z : K.lookup f2 with
    | none => rw [z] at ht'; cases ht'
    | some of => rw [z] at ht'; exact ⟨of, rfl, Option.some.inj ht'⟩
  have hm := Sd.si
  unfold PySem.W.ks_superIn at hm
  rw [hD] at hm
  refine ks_wpAny_getMethod_super (so := h₀.objs.size) (D := C) (x := x) (C := C) (l₀ := cdD.mro) e (PySem.W.looks_opaque X2 Sd.op) ?_ rfl X2 hm (X2 _ _ hof) hofc hxC (by decide) ?_
  · exact fun A Q E s k q => wpAny_bind ((PySem.W.looks_clsIn X2 hD) A _ E s k (wpAny_pure q))
  have I3 := ClX.met_new (g := f2) (C := x) I2
  refine ClX.callwith_cm I3 (ClX.base_none I2 (Nat.le_refl _)) Sd.fi (thn ((ha _ _ _ _ _ _ _).run cpos _ _ _ _ (fun vs' H2 => vs' = ws ∧ H2 = H) I3 (ht _ _ _ _ hl ⟨rfl, rfl⟩)) fun us2 s3 ⟨vs', H2, I4, rv, q1, q2⟩ => ⟨⟨ClX.pin_at I4, I4.kIn⟩, ?_⟩) (he _) (hpl _)
  subst q1 q2
  have FR : FnR P w K mg base (L2.CX P w) k f2 sp2 := (FnOk.raw F2 B2 .nil).imp fun vs H Q E h => by rw [List.append_nil]; exact h
  refine thn (ClX.run_cm (X := cxS (L2.CX P w) P w K mg base ps qual scope f (.ref cda) cc A outer s H2 E) FR hr2 (passW tk (wi_d E)) I4 rv hsp) fun u s4 ⟨v, H4, I5, rv4, q4⟩ => ?_
  exact wpAt_of_wpAny (wpAny_execs_nil ⟨.non, H4, I5.os, I5.bare, I5.base, I5.hok, rfl, q4⟩)
end Pu
/-! Pu: < of data, all, any, insert, properties, defs that say super().__init__. -/
namespace Pu
open PySem PySem.Spec L2
open PyProof.Rows hiding St
/-! ### < -/
noncomputable def fLtD : F2 := fun x y S => match x, y with
  | .v a, .v b => match pyOf a, pyOf b with
    | some p, some q => if (isDat a = true ∧ isDat b = true) ∧ PySem.W.alike p q = true ∧ a ≠ .non then some (.v (.bl (PySem.W.dataLt p q)), S) else none
    | _, _ => none
  | _, _ => none
section
variable {X : Cx} {cl : Nat → Addr} {W : WX}
theorem oq_ltD (hu : X.A.units + 64 < cLine) : OpR X (compareOp .Lt) (liftOp (bx X cl) fLtD) := by
  intro pins s σ H x y v u Q I rx ry ⟨ι, F, S, a, b, rl, za, zb, fi⟩
  unfold fLtD at fi
  split at fi
  · rename_i a b
    cases q1 : pyOf a with
    | none => rw [q1] at fi; exact fi.no
    | some p =>
      cases q2 : pyOf b with
      | none => rw [q1, q2] at fi; exact fi.no
      | some r =>
        rw [q1, q2] at fi
        simp only at fi
        split at fi
        · rename_i hc
          obtain ⟨⟨h1, h2⟩, h3, h4⟩ := hc
          cases za with
          | v za =>
            cases zb with
            | v zb =>
              obtain ⟨p', e1, d1⟩ := py_of h1
              obtain ⟨r', e2, d2⟩ := py_of h2
              rw [q1] at e1; cases e1
              rw [q2] at e2; cases e2
              obtain ⟨as, r1⟩ := Dp.reads I p x v (rep_dp za q1).1 rx
              obtain ⟨bs, r2⟩ := Dp.reads I r y u (rep_dp zb q2).1 ry
              refine PySem.W.lt_data r1 r2 h3 (fun z => h4 ?_) (by omega) ⟨.bl _, H, I, rfl, fi.val rl (.v (.bl _))⟩
              subst z
              cases a <;> simp [pyOf] at q1 <;> rfl
        · exact fi.no
  · exact fi.no
/-! ### all, any of a list of bools -/
def allB : List U → Option (List Bool)
  | [] => some []
  | .v (.bl b) :: us => (allB us).map (b :: ·)
  | _ :: _ => none
def fAll : FA := fun us S => match us with
  | [u] => match asList S u with
    | some xs => (allB xs).map fun bs => (.v (.bl (bs.all id)), S)
    | none => none
  | _ => none
def fAny : FA := fun us S => match us with
  | [u] => match asList S u with
    | some xs => (allB xs).map fun bs => (.v (.bl (bs.any id)), S)
    | none => none
  | _ => none
theorem allB_ok {B : Bx} {ι : List Addr} {F : Addr → Prop} {H : Hp} : ∀ {us : List U} {bs : List Bool} {vs : List V}, RepUs B ι F H vs us → allB us = some bs → vs = bs.map V.bl
  | _, bs, _, .nil, e => by simp [allB] at e; subst e; rfl
  | _, bs, _, .cons (b := u) (l₂ := us) z zs, e => by
    unfold allB at e
    split at e
    · rename_i he; cases he
    · rename_i x us' he
      cases he
      obtain ⟨ys', e1, rfl⟩ := Option.map_eq_some_iff.mp e
      have h1 := allB_ok zs e1
      cases z with
      | v z => cases z; rw [h1]; rfl
    · cases e
theorem vals_bl : ∀ {bs : List Bool} {us : List Value}, Vals (bs.map V.bl) us → us = bs.map Value.bool
  | [], _, .nil => rfl
  | b :: bs, _, .cons h t => by rw [show _ = Value.bool b from h, vals_bl t]; rfl
theorem reads_bl (h : Heap) : ∀ bs : List Bool, ReadsAll h (bs.map Value.bool) (bs.map PyData.bool) []
  | [] => .nil
  | b :: bs => .cons (.bool b) (reads_bl h bs)
theorem plain_bl : ∀ bs : List Bool, PyData.plainAll (bs.map PyData.bool) = true
  | [] => rfl
  | b :: bs => by
    show (PyData.plain (.bool b) && PyData.plainAll (bs.map PyData.bool)) = true
    rw [plain_bl bs]; rfl
theorem cq_all (hcalm : X.calm = true) : CallR X (.builtin "all") (liftC (bx X cl) fAll) := by
  intro pins s σ H xs us Q I rv ⟨ι, F, S, as, rl, zs, fi⟩
  unfold fAll at fi
  split at fi
  · rename_i u
    cases q : asList S u with
    | none => rw [q] at fi; exact fi.no
    | some ys =>
      rw [q] at fi
      simp only at fi
      cases qb : allB ys with
      | none => rw [qb] at fi; exact fi.no
      | some bs =>
        rw [qb] at fi
        cases zs with
        | cons z1 z2 =>
          cases z2
          obtain ⟨p, vs, rfl, hp, zz⟩ := asList_ok rl z1 q
          have e := allB_ok zz qb
          subst e
          cases rv with
          | cons r1 r2 =>
            cases r2
            obtain rfl : _ = Value.ref p := r1
            obtain ⟨its, ri, hpl, _⟩ := I.list hp
            rw [vals_bl ri] at hpl
            refine PySem.W.all_list_data (I.ok.hd hcalm) (by obtain ⟨o, n, h1, h2, h3, h4⟩ := hpl; exact ⟨o, h1, h2, n, h4⟩) (by simpa using reads_bl s.heap bs) (plain_bl bs) (fun x hx => by obtain ⟨b, _, rfl⟩ := List.mem_map.mp hx; trivial) fun h' tk hk => ?_
            have e2 : (bs.map PyData.bool).all PyData.truthy = bs.all id := by
              rw [List.all_map]; congr 1
            rw [e2]
            exact ⟨.bl _, H, I.kept (t' := tk) hk, rfl, fi.val rl (.v (.bl _))⟩
  · exact fi.no
theorem cq_any (hcalm : X.calm = true) : CallR X (.builtin "any") (liftC (bx X cl) fAny) := by
  intro pins s σ H xs us Q I rv ⟨ι, F, S, as, rl, zs, fi⟩
  unfold fAny at fi
  split at fi
  · rename_i u
    cases q : asList S u with
    | none => rw [q] at fi; exact fi.no
    | some ys =>
      rw [q] at fi
      simp only at fi
      cases qb : allB ys with
      | none => rw [qb] at fi; exact fi.no
      | some bs =>
        rw [qb] at fi
        cases zs with
        | cons z1 z2 =>
          cases z2
          obtain ⟨p, vs, rfl, hp, zz⟩ := asList_ok rl z1 q
          have e := allB_ok zz qb
          subst e
          cases rv with
          | cons r1 r2 =>
            cases r2
            obtain rfl : _ = Value.ref p := r1
            obtain ⟨its, ri, hpl, _⟩ := I.list hp
            rw [vals_bl ri] at hpl
            refine PySem.W.any_list_data (I.ok.hd hcalm) (by obtain ⟨o, n, h1, h2, h3, h4⟩ := hpl; exact ⟨o, h1, h2, n, h4⟩) (by simpa using reads_bl s.heap bs) (plain_bl bs) (fun x hx => by obtain ⟨b, _, rfl⟩ := List.mem_map.mp hx; trivial) fun h' tk hk => ?_
            have e2 : (bs.map PyData.bool).any PyData.truthy = bs.any id := by
              rw [List.any_map]; congr 1
            rw [e2]
            exact ⟨.bl _, H, I.kept (t' := tk) hk, rfl, fi.val rl (.v (.bl _))⟩
  · exact fi.no
/-! ### xs.insert(i, y) -/
def fInsert : FM := fun x us S => match x, us with
  | .r n, [.v (.int i), u] => match S[n]? with
    | some (.lst xs) => if xs.length < 100000 ∧ 0 ≤ i ∧ i < 1000000 then some (.v .non, S.set n (.lst (xs.take i.toNat ++ [u] ++ xs.drop i.toNat))) else none
    | _ => none
  | _, _ => none
theorem mq_insert : MtR X "list.insert" (liftM (bx X cl) fInsert) := by
  intro pins s σ H x xs v us Q I rx rxs ⟨ι, F, S, a, as, rl, za, zs, fi⟩
  unfold fInsert at fi
  split at fi
  · rename_i n i u
    cases q : S[n]? with
    | none => rw [q] at fi; exact fi.no
    | some c =>
      rw [q] at fi
      cases c with
      | lst ys =>
        simp only at fi
        split at fi
        · rename_i hc
          cases za with
          | @r _ a h =>
            cases zs with
            | cons z1 z2 =>
              cases z2 with
              | cons z2 z3 =>
                cases z3
                cases z1 with
                | v z1 =>
                  cases z1
                  obtain ⟨vs, ha, zz⟩ := rl.ok n a _ h q
                  obtain ⟨r2, e2⟩ := rl.setL h q ha (paired_append (paired_append (paired_take i.toNat zz) (.cons z2 .nil)) (paired_drop i.toNat zz))
                  exact mt_insert pins s σ H _ _ v us Q I rx rxs ⟨a, vs, i, _, rfl, rfl, ha, szl (by rw [paired_len zz]; exact hc.1), hc.2.1, by omega, fi.go e2 r2 (.v .non)⟩
        · exact fi.no
      | _ => exact fi.no
  · exact fi.no
end
/-! ### e.f, a property -/
def noX (r : R U) : R U := match r with
  | .ok a S => .ok a S
  | _ => .er
def eProp (cs : List Nat) (mf : List U → Sto → R U) (mo : ME) : ME := fun ρ S => (mo ρ S).bind fun x S1 => match asIns S1 x with
  | some (c', _) => if c' ∈ cs then noX (mf [x] S1) else .er
  | none => .er
section
variable {X : Cx} {cl : Nat → Addr} {W : WX} {k : Nat} {fd : FuncData} {ps : List Str} {mf : List U → Sto → R U} {e : Expr} {mo : ME} {f : Str} {g : Addr} {pos : Pos} {cs : List Nat}
theorem qe_prop (he : QE X cl W e mo) (hc : ∀ c ∈ cs, Cls X.K (cl c) ∧ ∃ p, PropOf X.K (cl c) f p g) (Fn : FnOk X.prog X.w X.K X.mg X.base (L2.CX X.prog X.w) k g fd ps (SpM (bx X cl) 1 mf)) (hr : Room (k + 1) X.A) (hb : Binds X.K fd ps [])
    (hab : attributeBase e f X.env (eval e X.env) = eval e X.env := by rfl) : QE X cl W (.Attribute e f pos) (eProp cs mf mo) := by
  refine ⟨fun pins s σ H Q I h => ?_⟩
  obtain ⟨ι, F, S, ρ, r, en, o⟩ := h
  refine attr_of hab (thn (he.run pins s σ H _ I ⟨ι, F, S, ρ, r, en, o.bind⟩) fun u s1 ⟨x, H1, I1, rx, ι1, F1, S1, x', e1, r1, z1, o1⟩ => ?_)
  cases q : asIns S1 x' with
  | none => rw [q] at o1; exact o1.elim
  | some pr =>
    obtain ⟨c', fs⟩ := pr
    rw [q] at o1
    simp only at o1
    split at o1
    · rename_i hcc
      obtain ⟨a, dx, vs, rfl, hx, zf⟩ := asIns_ok r1 z1 q
      obtain rfl : u = Value.ref a := rx
      obtain ⟨c1, p, hp⟩ := hc c' hcc
      have hx0 : Passes (L2.CX X.prog X.w) X.nox (fun _ _ _ => False) := fun pins σ H s e s' I c => by
        obtain ⟨_, _, _, _, _, _, _, _, _, _, _, _, h⟩ := c
        exact h.elim
      refine getprop_ok I1 hx c1 hp Fn hr hb .nil hx0 ⟨rfl, ι1, F1, S1, [x'], r1, .cons z1 .nil, ?_⟩
      cases qr : mf [x'] S1 with
      | ok a' S2 => rw [qr] at o1; exact o1
      | ex c fs S2 => rw [qr] at o1; exact o1.elim
      | er => rw [qr] at o1; exact o1.elim
    · exact o1.elim
end
/-! ### a def that says super().__init__(..) -/
def supN (c : Nat) (mf : List U → Sto → R U) (us : List U) (S : Sto) : R U := match us with
  | x :: _ => match asIns S x with
    | some (c', _) => if c' = c then (mf us S).bind fun _ S1 => .ok (.v .non) S1 else .er
    | none => .er
  | [] => .er
theorem sup_sp {B : Bx} {n c : Nat} {mf : List U → Sto → R U} {vs : List V} {H : Hp} {Q : VK} {E : XK} (h : SpM B n (supN c mf) vs H Q E) : vs.length = n ∧ (∃ x dx fs ws, vs = .ref x :: ws ∧ H x = some (.ins (B.cl c) dx fs)) ∧ SpM B n mf vs H (fun _ H' => Q .non H') E := by
  obtain ⟨hl, ι, F, S, us, r, z, o⟩ := h
  unfold supN at o
  cases z with
  | nil => exact o.elim
  | cons z1 z2 =>
    rename_i v u vs us
    simp only at o
    cases q : asIns S u with
    | none => rw [q] at o; exact o.elim
    | some pr =>
      obtain ⟨c', fs⟩ := pr
      rw [q] at o
      simp only at o
      split at o
      · rename_i hc
        subst hc
        obtain ⟨a, dx, fs', rfl, hx, zf⟩ := asIns_ok r z1 q
        refine ⟨hl, ⟨a, dx, fs', vs, rfl, hx⟩, hl, ι, F, S, u :: us, r, .cons z1 z2, ?_⟩
        cases qr : mf (u :: us) S with
        | ok a' S2 =>
          rw [qr] at o
          intro w ι' F' H' e' r' _
          exact o .non ι' F' H' e' r' (.v .non)
        | ex c fs S2 => rw [qr] at o; exact o
        | er => rw [qr] at o; exact o.elim
      · exact o.elim
end Pu
/-! Pu: own __getitem__, __setitem__, __bool__. -/
namespace Pu
open PySem PySem.Spec L2
open PyProof.Rows hiding St
section
variable {X : Cx} {cl : Nat → Addr} {W : WX} {k n : Nat} {f : Addr} {fd : FuncData} {ps : List Str} {mf : List U → Sto → R U} {pins : List (Addr × Obj)} {σ : L2.St} {H : Hp} {s : Shared} {Q : VK} {us : List Value} {vs : List V}
/-- a def called by the machine, at any place around that has the room -/
theorem run_at {A : Around} {Ex : XK} (Fn : FnOk X.prog X.w X.K X.mg X.base (L2.CX X.prog X.w) k f fd ps (SpM (bx X cl) n mf)) (hr : Room k A) (hA : Env0 X.prog X.w X.K X.mg X.base A X.stack s H) (hb : Binds X.K fd ps []) (hx : Passes (L2.CX X.prog X.w) X Ex) (I : Inv X pins σ H s) (r : Vals vs us) (h : SpM (bx X cl) n mf vs H Q Ex) :
    wpAny (model X.prog X.w) A (call (.ref f) us) (EP X pins σ Q) X.xe s := by
  have hl : (us ++ []).length = ps.length := by rw [List.append_nil, ← r.length]; exact Fn.len _ _ _ _ h
  have hb2 := hb s us I.kIn hl
  rw [List.append_nil] at hb2
  refine wpAny_call (codeAny_mono (Fn.run A X.stack s H ⟨us, []⟩ us vs Q Ex hr hA hb2 r h) fun r s' hq => ?_)
  cases r with
  | error e => exact hx pins σ H s e s' I hq
  | ok fl =>
    cases fl with
    | ret u => exact I.after hq
    | next => exact False.elim hq
    | brk => exact False.elim hq
    | cont => exact False.elim hq
end
/-- how a class has a special def -/
structure OwnM (K : PySem.W.Frag) (C : Addr) (m : Str) (f : Addr) : Prop where
  at_ : PySem.W.findIn K (.ref C) m = some (some (.ref f))
  fn : PySem.W.isFn K (.ref f) = true
  fi : PySem.W.fnIn K f = true
  ns : PySem.W.noSeq K C = true
/-! ### o[i] -/
def eIxO (cs : List Nat) (mf : List U → Sto → R U) (mo mi : ME) : ME := fun ρ S => (mo ρ S).bind fun x S1 => (mi ρ S1).bind fun i S2 => match asIns S2 x with
  | some (c', _) => if c' ∈ cs then mf [x, i] S2 else .er
  | none => .er
section
variable {X : Cx} {cl : Nat → Addr} {W : WX} {k : Nat} {f : Addr} {fd : FuncData} {ps : List Str} {mf : List U → Sto → R U} {o i value : Expr} {mo mi mv : ME} {cs : List Nat} {pos pos' : Pos}
theorem qe_ixO (ho : QE X cl W o mo) (hi : QE X cl W i mi) (hc : ∀ c ∈ cs, OwnM X.K (cl c) "__getitem__" f) (Fn : FnOk X.prog X.w X.K X.mg X.base (L2.CX X.prog X.w) k f fd ps (SpM (bx X cl) 2 mf)) (tk : Takes X W) (wi : WI W) (hr : Room (k + 1) X.A) (hb : Binds X.K fd ps [])
    (hsl : ∀ x y, subscripted i true x y = runValue (.builtin "lifetime.subscript" ⟨[x, y], []⟩) := by intro _ _; with_unfolding_all rfl) : QE X cl W (.Subscript o i pos) (eIxO cs mf mo mi) := by
  refine ⟨fun pins s σ H Q I ⟨ι, F, S, ρ, r, en, ot⟩ => ?_⟩
  refine PyProof.Rows.Subscript_ (thn (ho.run pins s σ H _ I ⟨ι, F, S, ρ, r, en, ot.bind⟩) fun u s1 ⟨x, H1, I1, rx, ι1, F1, S1, x', e1, r1, z1, o1⟩ => ?_)
  refine thn (hi.run pins s1 σ H1 _ I1 ⟨ι1, F1, S1, ρ, r1, en.mono e1, o1.bind⟩) fun iu s2 ⟨iv, H2, I2, ri, ι2, F2, S2, i', e2, r2, z2, o2⟩ => ?_
  cases q : asIns S2 x' with
  | none => rw [q] at o2; exact o2.elim
  | some pr =>
    obtain ⟨c', fs⟩ := pr
    rw [q] at o2
    simp only at o2
    split at o2
    · rename_i hcc
      have m := hc c' hcc
      obtain ⟨a, dx, vs, rfl, hx, zf⟩ := asIns_ok r2 (z1.mono e2) q
      obtain rfl : u = Value.ref a := rx
      obtain ⟨mA, O, _⟩ := ins_get I2.hok hx
      obtain ⟨od, J, _⟩ := O.look
      obtain ⟨mm, Ff⟩ := I2.fr
      refine PySem.W.sub_K Ff I2.ok.mod.kin J m.at_ m.fi m.fn ?_ (hsl _ _)
      exact run_at Fn hr.in1 I2.env0.in1 hb (passW tk wi) I2 (vs := [.ref a, iv]) (.cons rfl (.cons ri .nil)) ⟨rfl, ι2, F2, S2, [x', i'], r2, .cons (z1.mono e2) (.cons z2 .nil), out_e wi o2⟩
    · exact o2.elim
/-! ### o[i] = v -/
def sSetO (cs : List Nat) (mf : List U → Sto → R U) (mo mi mv : ME) : MS := fun ρ S => (mv ρ S).st ρ fun v S1 => (mo ρ S1).st ρ fun x S2 => (mi ρ S2).st ρ fun i S3 => match asIns S3 x with
  | some (c', _) => if c' ∈ cs then (mf [x, i, v] S3).st ρ fun _ S4 => .nx ρ S4 else .er
  | none => .er
theorem outS_e {D : Ends} {ι : List Addr} {F : Addr → Prop} {H : Hp} {σ : L2.St} {ρ : Env'} {r : R U} (wi : WI W) (en : REnv (bx X cl) ι F H σ ρ) (h : OutS (bx X cl) W ι F H D (r.st ρ fun _ S4 => .nx ρ S4)) :
    Out (bx X cl) (fun cls d _ H' => E1 W cls d H') [] ι F H (RepU (bx X cl)) (fun _ H' => D.nx σ H') r := by
  refine out_e (σ := σ) wi ((h.st en).mono fun v H1 ⟨ι1, F1, S1, u, e1, r1, z1, o1⟩ => ?_)
  exact o1 σ ι1 F1 H1 Evo.refl r1 (en.mono e1)
theorem qs_setO (ho : QE X cl W o mo) (hi : QE X cl W i mi) (hv : QE X cl W value mv) (hc : ∀ c ∈ cs, OwnM X.K (cl c) "__setitem__" f) (Fn : FnOk X.prog X.w X.K X.mg X.base (L2.CX X.prog X.w) k f fd ps (SpM (bx X cl) 3 mf)) (tk : Takes X W) (wi : WI W) (hr : Room k X.A) (hb : Binds X.K fd ps [])
    (hs : swapsWith value (some (.Subscript o i pos')) pos.line X.env = pure false := by rfl) : QS X cl W (.Assign [.Subscript o i pos'] value pos) (sSetO cs mf mo mi mv) := by
  refine ⟨fun pins s σ H D I ⟨ι, F, S, ρ, r, en, ot⟩ => ?_⟩
  refine wpAny_Assign_Subscript (thn (hv.run pins s σ H _ I ⟨ι, F, S, ρ, r, en, ot.st en⟩) fun vu s1 ⟨v, H1, I1, rv, ι1, F1, S1, v', e1, r1, z1, o1⟩ => ?_) hs
  refine thn (ho.run pins s1 σ H1 _ I1 ⟨ι1, F1, S1, ρ, r1, en.mono e1, o1.st (en.mono e1)⟩) fun ou s2 ⟨ov, H2, I2, ro, ι2, F2, S2, x', e2, r2, z2, o2⟩ => ?_
  refine thn (hi.run pins s2 σ H2 _ I2 ⟨ι2, F2, S2, ρ, r2, (en.mono e1).mono e2, o2.st ((en.mono e1).mono e2)⟩) fun iu s3 ⟨iv, H3, I3, ri, ι3, F3, S3, i', e3, r3, z3, o3⟩ => ?_
  cases q : asIns S3 x' with
  | none => rw [q] at o3; exact o3.elim
  | some pr =>
    obtain ⟨c', fs⟩ := pr
    rw [q] at o3
    simp only at o3
    split at o3
    · rename_i hcc
      have m := hc c' hcc
      obtain ⟨a, dx, vs, rfl, hx, zf⟩ := asIns_ok r3 (z2.mono e3) q
      obtain rfl : ou = Value.ref a := ro
      obtain ⟨mA, O, _⟩ := ins_get I3.hok hx
      obtain ⟨od, J, _⟩ := O.look
      obtain ⟨mm, Ff⟩ := I3.fr
      refine PySem.W.ksp_setItem Ff I3.ok.mod.kin J m.ns m.at_ m.fn ?_
      refine thn (run_at (Q := fun _ H' => D.nx σ H') Fn hr I3.env0 hb (passW tk wi) I3 (vs := [.ref a, iv, v]) (.cons rfl (.cons ri (.cons rv .nil))) ⟨rfl, ι3, F3, S3, [x', i', v'], r3, .cons (z2.mono e3) (.cons z3 (.cons ((z1.mono e2).mono e3) .nil)), outS_e wi (((en.mono e1).mono e2).mono e3) o3⟩) fun u s4 ⟨_, H4, I4, _, q4⟩ => ?_
      exact ⟨σ, H4, I4, q4⟩
    · exact o3.elim
/-! ### the truth of o -/
def tOwn (cs : List Nat) (mf : List U → Sto → R U) (mo : ME) : MT := fun ρ S => (mo ρ S).bind fun x S1 => match asIns S1 x with
  | some (c', _) => if c' ∈ cs then (mf [x] S1).bind fun u S2 => ofO (isB u S2) else .er
  | none => .er
theorem qt_own (ho : QE X cl W o mo) (hc : ∀ c ∈ cs, OwnM X.K (cl c) "__bool__" f) (Fn : FnOk X.prog X.w X.K X.mg X.base (L2.CX X.prog X.w) k f fd ps (SpM (bx X cl) 1 mf)) (tk : Takes X W) (wi : WI W) (hr : Room k X.A) (hb : Binds X.K fd ps [])
    (he : ∀ whole, isTrue o X.env whole = (do let v ← whole; standAt o.pos; holding [v] (truthy v)) := by intro _; rfl) : QT X cl W o (tOwn cs mf mo) := by
  refine ⟨fun pins s σ H Q I ⟨ι, F, S, ρ, r, en, ot⟩ => ?_⟩
  refine isTrue_plain (thn (ho.run pins s σ H _ I ⟨ι, F, S, ρ, r, en, ot.bind⟩) fun u s1 ⟨x, H1, I1, rx, ι1, F1, S1, x', e1, r1, z1, o1⟩ => ?_) (he _)
  cases q : asIns S1 x' with
  | none => rw [q] at o1; exact o1.elim
  | some pr =>
    obtain ⟨c', fs⟩ := pr
    rw [q] at o1
    simp only at o1
    split at o1
    · rename_i hcc
      have m := hc c' hcc
      obtain ⟨a, dx, vs, rfl, hx, zf⟩ := asIns_ok r1 z1 q
      obtain rfl : u = Value.ref a := rx
      obtain ⟨mA, O, _⟩ := ins_get I1.hok hx
      obtain ⟨od, J, _⟩ := O.look
      obtain ⟨mm, Ff⟩ := I1.fr
      refine PySem.W.truthy_K Ff I1.ok.mod.kin J m.at_ m.fn ?_
      refine thn (run_at (Q := fun v H' => ∃ b, v = .bl b ∧ Q b H') Fn hr I1.env0 hb (passW tk wi) I1 (vs := [.ref a]) (.cons rfl .nil) ⟨rfl, ι1, F1, S1, [x'], r1, .cons z1 .nil, ?_⟩) fun u s4 ⟨v, H4, I4, rv, b, ev, q4⟩ => ?_
      · refine out_e wi (o1.bind.mono fun v H2 ⟨ι2, F2, S2, u', e2, r2, z2, o2⟩ => ?_)
        unfold isB at o2
        split at o2
        · rename_i b
          cases z2 with
          | v z2 =>
            cases z2
            exact ⟨b, rfl, o2 b ι2 F2 H2 Evo.refl r2 rfl⟩
        · exact o2.elim
      · subst ev
        obtain rfl : u = Value.bool b := rv
        exact ⟨H4, I4, q4⟩
    · exact o1.elim
end
end Pu
/-! Pu: for over an instance whose __iter__ says return iter(self.f), f a tuple. -/
namespace Pu
open PySem PySem.Spec L2
open PyProof.Rows hiding St
/-- at it a new iterator over the tuple at t -/
def TtO (t it : Addr) : HO := .ext fun h => h.IsTupleIter it t 0
def rIterT (K : PySem.W.Frag) (n : Nat) : List V → Hp → VK → Prop := fun xs H Q => ∃ (t : Addr) (zs : List V), xs = [.ref t] ∧ SqT K H t zs ∧ ∀ it, H it = none → n ≤ it → Q (.ref it) (upd H it (TtO t it))
theorem call_iterT {X : Cx} : CallR X (.builtin "iter") (rIterT X.K X.s_0.heap.objs.size) := by
  intro pins s σ H xs us Q I r ⟨t, zs, e, hq, q⟩
  subst e
  cases r with
  | cons r1 r2 =>
    cases r2
    obtain rfl : _ = Value.ref t := r1
    obtain ⟨its, rv, p, hz⟩ := I.tuple hq
    refine Calls.call_function_entry (by decide +kernel) (by decide +kernel) PySem.W.kdk_entry_iter (PySem.W.kdk_args_iter _) ?_
    unfold Builtin.«iter»
    refine wpAny_bind (m := someArgs "iter" 1 2 _) (wpAny_of_eq (a := [Value.ref t]) (by first | rfl | kernel_rfl!) ?_)
    show wpAny _ _ (pyIter (.ref t) >>= _) _ _ _
    refine wpAny_bind (wpAny_pyIter_tuple (show s.heap.IsTuple t its.toArray from p) (wpAny_pure ⟨_, rfl, ?_⟩))
    refine ⟨.ref s.heap.objs.size, upd H s.heap.objs.size (TtO t s.heap.objs.size), I.laid (t' := s.toks) (fun b u e => Heap.get?_push_of_some _ e) (Nat.le_refl _) ?_, rfl, q _ (I.hok.fresh (Nat.le_refl _)) I.sz⟩
    have e : (s.heap.push { cls := .type "tuple_iterator", data := .fields #[.ref t, .int 0 0] }).IsTupleIter s.heap.objs.size t 0 := ⟨_, Heap.get?_push_size _ rfl, rfl, rfl⟩
    exact ⟨e, ⟨_, Heap.get?_push_size _ rfl⟩, fun h1 h2 ⟨o, e1, e2, e3⟩ k => ⟨o, k o e1, e2, e3⟩⟩
section
variable {P : Program} {w : World} {K : PySem.W.Frag} {mg : Str → Option Value} {base : Heap} {x qual : Str} {params : Arguments} {body : List Stmt} {scope : Scope} {dvs : List V} {kws : List (Str × V)} {f : Addr} {fd : FuncData} {N ps : List Str} {k : Nat} {CX : CXT}
/-- one run of a def, its reading for this very entry -/
theorem fn_run (Fd : FunD K x qual params body scope dvs kws f fd) (Sc : FnScope N ps scope) {A : Around} {outer : List Env} {s : Shared} {H : Hp} {args : Args} {us : List Value} {vs : List V} {Q : VK} {E : XK} {t : Value → TS} (hr : Room (k + 1) A) (e0 : Env0 P w K mg base A outer s H) (hb : BindsTo s fd args (ps.zip us)) (r : Vals vs us) (hl : vs.length = ps.length)
    (ht : ∀ cdv, PSs (cxOf CX P w K mg base N qual scope f cdv A outer s H E) body (t cdv)) (hq : ∀ cdv, t cdv { nx := fun _ H' => Q .non H', rt := Q } (L2.start N vs) H) : codeAny (model P w) A (.call (.ref f) args) (CR CX outer P w H s Q E) s := by
  obtain ⟨oc, od, dV, kV, doc, pm, an, cdv, ct, osl, ef, lk, hcd, _⟩ := Fd.ex
  subst ef
  have inK : K.In s.heap := e0.mod.kin.keeps (fun b o z => (e0.bs b o z).1)
  have noL := e0.mod.nolimit.keeps (fun b o z => (e0.bs b o z).1)
  refine codeAny_call_function hr.depth (inK _ _ lk) rfl Sc.co Sc.gen rfl (PySem.W.codeRec_of inK hcd) (hb _ _ _ _ (wpAny_newFunctionEnv_cells Sc.kind (fun ⟨nm, v⟩ hy => ?_) fun env he s1 xx => ?_))
  · rcases Sc.par nm (List.of_mem_zip hy).1 with z | z
    · exact .inl z
    · exact .inr ⟨z, PySem.W.cellsFrom_some _ _ _ (.inl z)⟩
  · subst he
    refine ⟨noL.keeps xx.toInCall.keep, codeAny_func (wpAny_mono ((ht cdv).run [] s1 (L2.start N vs) H _ (inv_start Sc hr.hd e0 hl r xx) (hq cdv)) (fun fl s' hs => ?_) fun _ _ z => z)⟩
    have fin : ∀ {σ' : L2.St} {H' : Hp} {v : V} {u : Value}, Inv (cxOf CX P w K mg base N qual scope f cdv A outer s H E) [] σ' H' s' → RelV v u → Q v H' → CE outer P w H s Q u s' := fun {_ H' v _} J rv q => ⟨v, H', J.os, J.bare, J.base, J.hok, rv, q⟩
    match fl, hs with
    | .ret u, ⟨v, σ', H', J, rv, q⟩ => exact fin J rv q
    | .next, ⟨σ', H', J, q⟩ => exact fin (v := V.non) (u := Value.none) J rfl q
    | .brk, ⟨_, _, _, q⟩ => exact q.elim
    | .cont, ⟨_, _, _, q⟩ => exact q.elim
end
theorem cx_no' {P : Program} {w : World} {outer : List Env} {H : Hp} {s : Shared} {e : Value} {s' : Shared} (h : L2.CX P w outer H s (fun _ _ _ => False) e s') : False := by
  obtain ⟨_, _, _, _, _, _, _, _, _, _, _, _, z⟩ := h
  exact z
def iOwn (cs : List Nat) (fld : Str) (mo : ME) : MI := fun ρ S => (mo ρ S).bind fun x S1 => match asIns S1 x with
  | some (c', fs) => if c' ∈ cs then (match fs.lookup fld with
    | some (.v (.tup ds)) => .ok ⟨ds.map U.v, none⟩ S1
    | _ => .er) else .er
  | none => .er
section
variable {X : Cx} {cl : Nat → Addr} {W : WX} {tg o : Expr} {mo : ME} {cs : List Nat} {fld qual : Str} {params : Arguments} {scope : Scope} {f : Addr} {fd : FuncData} {p1 p2 p3 p4 p5 : Pos}
theorem qi_own (ho : QE X cl W o mo) (hc : ∀ c ∈ cs, OwnM X.K (cl c) "__iter__" f ∧ Cls X.K (cl c) ∧ NoAttr X.K (cl c) fld)
    (Fd : FunD X.K "__iter__" qual params [.Return (some (.Call (.Name "iter" p1) [.Attribute (.Name "self" p2) fld p3] [] p4)) p5] scope [] [] f fd) (Sc : FnScope ["self"] ["self"] scope) (hg : scope.names.lookup ("iter" : Str) = some .globalImplicit) (hv : Vis scope "self")
    (hm : X.mg "iter" = none) (hr : Room 1 X.A) (hb : Binds X.K fd ["self"] []) : QI X cl W tg o (iOwn cs fld mo) := by
  refine ⟨fun pins s σ H Rr I ⟨ι, F, S, ρ, r, en, ot⟩ => ?_⟩
  unfold iOwn at ot
  cases q : mo ρ S with
  | er => rw [q] at ot; exact ot.elim
  | ex c fs S1 =>
    rw [q] at ot
    exact (pi_list ho).run pins s σ H Rr I ⟨ι, F, S, ρ, r, en, by rw [q]; exact ot⟩
  | ok u S1 =>
    rw [q] at ot
    simp only [R.bind_ok] at ot
    cases qi : asIns S1 u with
    | none => rw [qi] at ot; exact ot.elim
    | some pr =>
      obtain ⟨c', fs⟩ := pr
      rw [qi] at ot
      simp only at ot
      by_cases hcc : c' ∈ cs
      · rw [if_pos hcc] at ot
        cases ql : fs.lookup fld with
        | none => rw [ql] at ot; exact ot.elim
        | some z =>
          rw [ql] at ot
          cases z with
          | r n => exact ot.elim
          | v d =>
            cases d with
            | tup ds =>
              simp only at ot
              refine thn (ho.run pins s σ H (fun v H1 => ∃ ι1 F1, Evo ι F H ι1 F1 H1 ∧ Rel (bx X cl) ι1 F1 S1 H1 ∧ RepU (bx X cl) ι1 F1 H1 v u) I ⟨ι, F, S, ρ, r, en, by rw [q]; exact fun v ι1 F1 H1 e1 r1 z1 => ⟨ι1, F1, e1, r1, z1⟩⟩) fun uv s1 ⟨v, H1, I1, rv, ι1, F1, e1, r1, z1⟩ => ?_
              obtain ⟨m, hcl, hna⟩ := hc c' hcc
              obtain ⟨a, dx, vs, rfl, hx, zf⟩ := asIns_ok r1 z1 qi
              obtain rfl : uv = Value.ref a := rv
              obtain ⟨mA, O, _⟩ := ins_get I1.hok hx
              obtain ⟨od, J, _⟩ := O.look
              obtain ⟨mm, Ff⟩ := I1.fr
              obtain ⟨tv, hlk, zt⟩ := (lookup_paired zf (f := fld)).1 _ ql
              cases zt with
              | v zt =>
                cases zt with
                | @tup t zs _ ht rs =>
                  refine PySem.W.owit_iter Ff I1.ok.mod.kin J m.at_ m.fn (wpAny_call (codeAny_mono (fn_run (k := 0) (CX := L2.CX X.prog X.w) (E := fun _ _ _ => False) (Q := fun v H' => ∃ it, v = .ref it ∧ H1 it = none ∧ s1.heap.objs.size ≤ it ∧ H' = upd H1 it (TtO t it)) (vs := [.ref a]) (us := [.ref a])
                    (t := fun _ => tRet (tCB (rIterT X.K s1.heap.objs.size) (tCons (tFld X.K (tVar 0) fld) tNil))) Fd Sc hr I1.env0 (hb s1 [.ref a] I1.kIn rfl) (.cons rfl .nil) rfl (fun cdv => ?_) (fun cdv => ?_)) fun rr s' hq => ?_))
                  · exact pss_one (ps_ret (pe_callB call_iterT hg hm rfl (pa_cons (pe_fld (pe_var (i := 0) (x := "self") rfl hv) rfl) pa_nil)))
                  · exact ⟨.ref a, rfl, a, _, dx, vs, _, rfl, hx, hcl, hna, hlk, t, zs, rfl, SqT.of ht, fun it h1 h2 => ⟨it, rfl, h1, h2, rfl⟩⟩
                  · cases rr with
                    | error e => exact (cx_no' hq).elim
                    | ok fl =>
                      cases fl with
                      | ret u' =>
                        obtain ⟨v, H', I2, rv2, it, rfl, h1, h2, rfl⟩ := I1.after hq
                        obtain rfl : u' = Value.ref it := rv2
                        have st : s'.heap.IsTupleIter it t 0 := (I2.hok it _ upd_same).1
                        show PySem.W.OwitIt _ _ _ _ _ _
                        unfold PySem.W.OwitIt
                        refine wpAny_specialOf st.typeIs PySem.F.slot_tuple_iterator_next.lookup ?_
                        have hd := ItX.inv_drop I2 (show upd H1 it (TtO t it) it = some (.ext _) from upd_same)
                        rw [ItX.dropH_upd h1] at hd
                        have hf := ItX.inv_fp I2 (u := TtO t it) upd_same (Nat.le_trans I1.sz h2)
                        rw [ItX.dropH_upd h1] at hf
                        refine ⟨it, [it], _, Itt X.K t, H1, rfl, hd, turn_tuple t it, st, fun b hb => ?_, ot _ ι1 F1 H1 e1 r1 (walk_t ht (reps_u rs))⟩
                        obtain rfl : b = it := by simpa using hb
                        exact hf
                      | next => exact False.elim hq
                      | brk => exact False.elim hq
                      | cont => exact False.elim hq
            | _ => exact ot.elim
      · rw [if_neg hcc] at ot; exact ot.elim
end
end Pu
/-! Pu: sorted, isinstance of own classes, texts walked. -/
namespace Pu
open PySem PySem.Spec L2
open PyProof.Rows hiding St
/-! ### sorted(xs) -/
def encD (d : D) : PyData := (pyOf d).getD .none
noncomputable def sortD (ds : List D) : List D := ds.mergeSort (PySem.W.dataLe false encD)
def okSort (ds : List D) : Prop := (∀ d ∈ ds, isDat d = true) ∧ PySem.W.AllAlike (ds.map encD) ∧ PySem.W.Sortable (ds.map encD) ∧ ds.length ≤ 100000
noncomputable instance (ds : List D) : Decidable (okSort ds) := Classical.propDecidable _
noncomputable def fSorted : FA := fun us S => match us with
  | [u] => match asList S u with
    | some xs => match allV xs with
      | some ds => if okSort ds then some (.v (.lst (sortD ds)), S) else none
      | none => none
    | none => none
  | _ => none
section
variable {X : Cx} {cl : Nat → Addr} {W : WX}
theorem each_of {B : Bx} {F : Addr → Prop} {H : Hp} : ∀ {vs : List V} {ds : List D} {us : List Value}, Reps B F H vs ds → Vals vs us → PySem.W.EachIs (fun u d => ∃ x : V, RelV x u ∧ Rep B F H x d) us ds
  | _, _, _, .nil, .nil => .nil
  | _, _, _, .cons a b, .cons c d => .cons ⟨_, c, a⟩ (each_of b d)
theorem of_each {B : Bx} {F : Addr → Prop} {H : Hp} : ∀ {us : List Value} {ds : List D}, PySem.W.EachIs (fun u d => ∃ x : V, RelV x u ∧ Rep B F H x d) us ds → ∃ xs : List V, Vals xs us ∧ Reps B F H xs ds
  | _, _, .nil => ⟨[], .nil, .nil⟩
  | _, _, .cons ⟨x, h1, h2⟩ t => by
    obtain ⟨xs, h3, h4⟩ := of_each t
    exact ⟨x :: xs, .cons h1 h3, .cons h2 h4⟩
theorem cq_sorted (hu : X.A.units + 64 < cLine) : CallR X (.builtin "sorted") (liftC (bx X cl) fSorted) := by
  intro pins s σ H xs us Q I rv ⟨ι, F, S, as, rl, zs, fi⟩
  unfold fSorted at fi
  split at fi
  · rename_i u
    cases q : asList S u with
    | none => rw [q] at fi; exact fi.no
    | some ys =>
      rw [q] at fi
      simp only at fi
      cases qv : allV ys with
      | none => rw [qv] at fi; exact fi.no
      | some ds =>
        rw [qv] at fi
        simp only at fi
        split at fi
        · rename_i hok
          obtain ⟨h1, h2, h3, h4⟩ := hok
          cases zs with
          | cons z1 z2 =>
            cases z2
            obtain ⟨p, vs, rfl, hp, zz⟩ := asList_ok rl z1 q
            rw [allV_some qv] at zz
            have rs := repus_reps zz
            cases rv with
            | cons r1 r2 =>
              cases r2
              obtain rfl : _ = Value.ref p := r1
              obtain ⟨its, ri, hpl, hz⟩ := I.list hp
              have hE := each_of rs ri
              have hen : ∀ d ∈ ds, ∃ k, pyOf d = some k ∧ encD d = k ∧ k.depth ≤ 20 := fun d hd => by
                obtain ⟨k, e1, e3⟩ := py_of (h1 d hd)
                exact ⟨k, e1, by simp [encD, e1], e3⟩
              have er : PySem.W.EachIs (fun v d => ∃ as, Reads s.heap v (encD d) as) its ds := (PySem.W.each_mem hE).mono fun v d z => by
                obtain ⟨⟨x, hx, zx⟩, hd⟩ := z
                obtain ⟨k, e1, e2, _⟩ := hen d hd
                rw [e2]
                exact Dp.reads I k x v (rep_dp zx e1).1 hx
              refine PySem.W.sorted_data (enc := encD) hpl.isList hE er h2 h3 (Nat.le_trans h4 (by decide)) (fun d hd => ?_) (fun out ho hO => ?_)
              · obtain ⟨k, _, e2, e3⟩ := hen d hd
                rw [e2]; omega
              · obtain ⟨xs, hx1, hx2⟩ := of_each hO
                have hfr : H (s.heap.objs.size + 1) = none := I.hok.fresh (Nat.le_succ _)
                refine ⟨.ref (s.heap.objs.size + 1), upd H (s.heap.objs.size + 1) (.lst xs), I.laid (t' := s.toks) (o := .lst xs) (fun b u e => sortedAll_old e) (Nat.le_succ _) ?_, rfl, fi.go (Evo.newF hfr) (rl.newF hfr) (.v (.lst (.inr rfl) upd_same (hx2.mono (ι := ι) (ι' := ι) (Evo.newF hfr))))⟩
                obtain ⟨c, hc⟩ := sortedAll_at s.heap its out.toArray
                refine ⟨by have := hx1.length; have := hE.length; have := ri.length; omega, out, c, hx1, hc⟩
        · exact fi.no
  · exact fi.no
/-! ### isinstance(x, C), own classes too -/
structure OkTy (K : PySem.W.Frag) (C : Addr) : Prop where
  cl : Cls K C
  ha : PySem.W.findIn K (.ref C) "__class__" = some (some (.builtin "object.__class__"))
  hn : PySem.W.specialIn K (.builtin "object.__class__") "__get__" = some (some (.builtin "getset_descriptor.__get__"))
  tk : PySem.W.takesIn K (.builtin "object.__class__") = some true
  hm : PySem.W.mroIn K C (.type "object") = some true
def IsTab (K : PySem.W.Frag) (cl : Nat → Addr) (tab : Nat → Nat → Option Bool) : Prop := ∀ c' c b, tab c' c = some b → OkTy K (cl c') ∧ PySem.W.kitOne K (.ref (cl c')) (.ref (cl c)) = some b
def fIsX (tab : Nat → Nat → Option Bool) : FA := fun us S => match us with
  | [u, .v (.cls c)] => match asIns S u with
    | some (c', _) => (tab c' c).map fun b => (.v (.bl b), S)
    | none => none
  | us => fIsi us S
theorem cq_isX {tab : Nat → Nat → Option Bool} (ht : IsTab X.K cl tab) : CallR X (.builtin "isinstance") (liftC (bx X cl) (fIsX tab)) := by
  intro pins s σ H xs us Q I rv ⟨ι, F, S, as, rl, zs, fi⟩
  unfold fIsX at fi
  split at fi
  · rename_i u c
    cases zs with
    | cons z1 z2 =>
      cases z2 with
      | cons z2 z3 =>
        cases z3
        cases z2 with
        | v z2 =>
          cases z2 with
          | cls _ =>
            cases q : asIns S u with
            | none => rw [q] at fi; exact fi.no
            | some pr =>
              obtain ⟨c', fs⟩ := pr
              rw [q] at fi
              simp only at fi
              cases qt : tab c' c with
              | none => rw [qt] at fi; exact fi.no
              | some b =>
                rw [qt] at fi
                obtain ⟨ot, hk⟩ := ht c' c b qt
                obtain ⟨a, dx, vs, rfl, hx, _⟩ := asIns_ok rl z1 q
                exact call_isi pins s σ H _ us Q I rv ⟨_, _, _, _, b, rfl, .own _, .base (.ins hx ot.cl ot.ha ot.hn ot.tk ot.hm), hk, fi.val rl (.v (.bl b))⟩
  · exact cq_isi pins s σ H xs us Q I rv ⟨ι, F, S, _, rl, zs, fi⟩
/-! ### a text walked -/
def chrs (z : Str) : List U := z.cps.toList.map fun c => .v (.str ⟨#[c]⟩)
def iChr (m : ME) : MI := fun ρ S => (m ρ S).bind fun u S1 => match u with
  | .v (.str z) => .ok ⟨chrs z, none⟩ S1
  | _ => .er
theorem walk_s {ι : List Addr} {F : Addr → Prop} {S : Sto} {H : Hp} {z : Str} (hz : PyData.strOk z = true) : Walk (bx X cl) (Its z) ⟨chrs z, none⟩ S ι F H := by
  intro i ι1 F1 S1 H1 e1 r1 so
  have hl : (chrs z).length = z.cps.size := by simp [chrs]
  refine ⟨fun hi => ⟨show i < z.cps.size by rw [← hl]; exact hi, fun x' H' hyld => ?_⟩, fun hi => show z.cps.size ≤ i by rw [← hl]; exact hi⟩
  obtain ⟨rfl, c, hc, rfl⟩ := hyld
  refine ⟨Evo.refl, r1, fun u' hu' => ?_⟩
  have hcl : z.cps.toList[i]? = some c := by simpa using hc
  have : u' = .v (.str ⟨#[c]⟩) := by
    have h2 : (chrs z)[i]? = some u' := hu'
    simp only [chrs, List.getElem?_map, hcl, Option.map_some, Option.some.injEq] at h2
    exact h2.symm
  subst this
  exact .v (.str _ (strOk_one hz (List.mem_of_getElem? hcl)))
theorem qi_chr {tg e : Expr} {m : ME} (h : QE X cl W e m) : QI X cl W tg e (iChr m) := by
  refine ⟨fun pins s σ H Rr I ⟨ι, F, S, ρ, r, en, o⟩ => ?_⟩
  unfold iChr at o
  cases q : m ρ S with
  | er => rw [q] at o; exact o.elim
  | ex c fs S1 => rw [q] at o; exact (pi_str h).run pins s σ H Rr I ⟨ι, F, S, ρ, r, en, by rw [q]; exact o⟩
  | ok u S1 =>
    rw [q] at o
    simp only [R.bind_ok] at o
    cases u with
    | r n => exact o.elim
    | v d =>
      cases d with
      | str z =>
        refine (pi_str h).run pins s σ H Rr I ⟨ι, F, S, ρ, r, en, ?_⟩
        rw [q]
        intro v ι1 F1 H1 e1 r1 z1
        cases z1 with
        | v z1 =>
          cases z1 with
          | str _ hz => exact ⟨z, rfl, o _ ι1 F1 H1 e1 r1 (walk_s hz)⟩
      | _ => exact o.elim
end
end Pu
/-! Pu: a head that also tells getters, defs that say super().__init__, special defs, properties, isinstance. -/
namespace Pu
open PySem PySem.Spec L2
open PyProof.Rows hiding St
namespace Hx
abbrev FnY : Type := Option (Str × Str × Arguments × FuncBody × Scope × Addr × List Str × Addr)
structure DefX where
  ad : PySem.W.Frag → Addr
  name : Str
  qual : Str
  params : Arguments
  body : List Stmt
  scope : Scope
  dfl : List He.Dv := []
  clo : List Str := []
def DefX.obs (K : PySem.W.Frag) (d : DefX) : FnY := match K.lookup (d.ad K) with
  | some ⟨_, _, .func fd, _⟩ => some (fd.name, fd.qualname, fd.params, fd.body, fd.scope, fd.globals, fd.closure.map (·.1), fd.builtins)
  | _ => none
def DefX.val (d : DefX) : FnY := some (d.name, d.qual, d.params, .stmts d.body, d.scope, mainGlobals, d.clo, builtinsNs)
def DefX.dvs (K : PySem.W.Frag) (d : DefX) : List V := d.dfl.map (He.Dv.v K)
def DefX.ok (K : PySem.W.Frag) (d : DefX) : Bool := PySem.W.keepIn K (.ref (d.ad K)) && (match K.lookup (d.ad K) with
  | some ⟨_, _, .func fd, _⟩ => PySem.W.codeIn K fd.code d.qual && He.dflB K fd.defaults (d.dvs K)
  | _ => false)
theorem DefX.get {K : PySem.W.Frag} {d : DefX} (e : d.obs K = d.val) (c : d.ok K = true) : PySem.W.keepIn K (.ref (d.ad K)) = true ∧ ∃ oc od osl cl dV kV doc pm an cdv ct, cl.map (·.1) = d.clo ∧
    K.lookup (d.ad K) = some ⟨oc, od, .func (PySem.W.fnX d.name d.qual d.params d.body d.scope cl dV kV doc pm an cdv ct), osl⟩ ∧ PySem.W.codeIn K cdv d.qual = true ∧ DflV K dV (d.dvs K) := by
  obtain ⟨kp, c2⟩ := He.ba c
  unfold DefX.obs at e
  cases q : K.lookup (d.ad K) with
  | none => rw [q] at c2; cases c2
  | some o =>
    obtain ⟨oc, od, dt, osl⟩ := o
    rw [q] at c2 e
    cases dt with
    | func fd =>
      obtain ⟨n1, n2, n3, n4, n5, n6, n7, n8, n9, n10, n11, n12, n13, n14, n15⟩ := fd
      have e2 : (some (n1, n2, n3, n4, n5, n6, n7.map (·.1), n15) : FnY) = some (d.name, d.qual, d.params, .stmts d.body, d.scope, mainGlobals, d.clo, builtinsNs) := e
      simp only [Option.some.injEq, Prod.mk.injEq] at e2
      obtain ⟨h1, h2, h3, h4, h5, h6, h7, h8⟩ := e2
      subst h1 h2 h3 h4 h5 h6 h8
      obtain ⟨k1, k2⟩ := He.ba (show (PySem.W.codeIn K n13 d.qual && He.dflB K n8 (d.dvs K)) = true from c2)
      exact ⟨kp, oc, od, osl, n7, n8, n9, n10, n11, n12, n13, n14, h7, rfl, k1, He.dflB_ok k2⟩
    | _ => cases c2
/-- a def without a closure -/
theorem DefX.funD {K : PySem.W.Frag} {d : DefX} (e : d.obs K = d.val) (c : d.ok K = true) (hc : d.clo = []) : ∃ fd, FunD K d.name d.qual d.params d.body d.scope (d.dvs K) [] (d.ad K) fd := by
  obtain ⟨kp, oc, od, osl, cl, dV, kV, doc, pm, an, cdv, ct, h7, lk, k1, k2⟩ := DefX.get e c
  rw [hc] at h7
  obtain rfl : cl = [] := List.map_eq_nil_iff.mp h7
  exact ⟨_, ⟨oc, od, dV, kV, doc, pm, an, cdv, ct, osl, rfl, lk, k1, k2, .inl rfl⟩, kp⟩
/-- the rest of what a def with super() asks -/
def supB (P : Program) (K : PySem.W.Frag) (f C f2 : Addr) : Bool := (match K.lookup f with
  | some ⟨_, _, .func fd, _⟩ => (match fd.closure with
    | [(_, cc)] => (match K.lookup cc with
      | some ⟨_, _, .cell (some (.ref D)), _⟩ => decide (D = C)
      | _ => false)
    | _ => false) && (match fd.code with
    | .ref cda => (match K.lookup cda with
      | some ⟨_, _, .fields vs, _⟩ => (match (vs[2]? : Option Value) with
        | some (.str file _) => ((P.main.file : Str) == file)
        | _ => false)
      | _ => false)
    | _ => false)
  | _ => false) && ((PySem.W.clsIn K C).isSome && (decide (PySem.W.mroIn K C (.ref C) = some true) && (He.eqO (PySem.W.nsIn K mainGlobals "super") (some none) && (He.eqO (PySem.W.nsIn K cStatics "thirdparty.any") (some none) &&
    (He.eqO (PySem.W.ks_superIn K C C "__init__") (some (some (.ref f2))) && (decide (PySem.W.typeIn K (.ref f2) = some (.type "function")) && PySem.W.fnIn K f2))))))
theorem DefX.supD {P : Program} {K : PySem.W.Frag} {d : DefX} {C f2 : Addr} (e : d.obs K = d.val) (c : d.ok K = true) (hc : d.clo = [("__class__" : Str)]) (b : supB P K (d.ad K) C f2 = true) : ∃ fd, SupD P K d.name d.qual d.params d.body d.scope (d.dvs K) C f2 (d.ad K) fd := by
  obtain ⟨kp, oc, od, osl, cl, dV, kV, doc, pm, an, cdv, ct, h7, lk, k1, k2⟩ := DefX.get e c
  rw [hc] at h7
  obtain ⟨⟨nm, cc⟩, rfl⟩ : ∃ p, cl = [p] := by
    cases cl with
    | nil => simp at h7
    | cons p r => cases r with
      | nil => exact ⟨p, rfl⟩
      | cons _ _ => simp at h7
  obtain rfl : nm = ("__class__" : Str) := by simpa using h7
  unfold supB at b
  rw [lk] at b
  obtain ⟨b1, b⟩ := He.ba b
  obtain ⟨b2, b⟩ := He.ba b
  obtain ⟨b3, b⟩ := He.ba b
  obtain ⟨b4, b⟩ := He.ba b
  obtain ⟨b5, b⟩ := He.ba b
  obtain ⟨b6, b⟩ := He.ba b
  obtain ⟨b7, b8⟩ := He.ba b
  obtain ⟨a1, a2⟩ := He.ba b1
  have a1' : (match K.lookup cc with
      | some ⟨_, _, .cell (some (.ref D)), _⟩ => decide (D = C)
      | _ => false) = true := a1
  split at a1'
  · rename_i cl cld D csl hcc
    obtain rfl : D = C := of_decide_eq_true a1'
    cases cdv with
    | ref cda =>
      have a2' : (match K.lookup cda with
        | some ⟨_, _, .fields vs, _⟩ => (match (vs[2]? : Option Value) with
          | some (.str file _) => ((P.main.file : Str) == file)
          | _ => false)
        | _ => false) = true := a2
      split at a2'
      · rename_i ccl cdd vs ccs hcode
        split at a2'
        · rename_i file tf hvs
          exact ⟨_, ⟨oc, od, dV, kV, doc, pm, an, cda, ct, osl, cc, cl, cld, csl, ccl, cdd, vs, ccs, file, tf, rfl, lk, k1, hcc, hcode, hvs, a2', k2⟩, Option.isSome_iff_exists.mp b2, of_decide_eq_true b3, He.eqO_ok b4, He.eqO_ok b5, He.eqO_ok b6, of_decide_eq_true b7, b8, kp⟩
        · cases a2'
      · cases a2'
    | _ => cases (show false = true from a2)
  · cases a1'
/-! ### more facts -/
def gp (K : PySem.W.Frag) (B f : Str) : Addr := match PySem.W.recIn K (He.ma K (He.ga K B) f) "property" with
  | some (.ref g :: _) => g
  | _ => 0
inductive Fx where
  | own (C B m : Str)
  | prop (C B f : Str)
  | okty (C : Str)
  | isi (C D : Str) (b : Bool)
  | sup (C B : Str)
  | gen (b : Program → PySem.W.Frag → Bool)
def Fx.ok (P : Program) (K : PySem.W.Frag) : Fx → Bool
  | .own C B m => He.eqO (PySem.W.findIn K (.ref (He.ga K C)) m) (some (some (.ref (He.ma K (He.ga K B) m)))) && (PySem.W.isFn K (.ref (He.ma K (He.ga K B) m)) && (PySem.W.fnIn K (He.ma K (He.ga K B) m) && PySem.W.noSeq K (He.ga K C)))
  | .prop C B f => He.eqO (PySem.W.findIn K (.ref (He.ga K C)) f) (some (some (.ref (He.ma K (He.ga K B) f)))) && (He.eqO (PySem.W.specialIn K (.ref (He.ma K (He.ga K B) f)) "__get__") (some (some (.builtin "property.__get__"))) &&
      (decide (PySem.W.takesIn K (.ref (He.ma K (He.ga K B) f)) = some true) && (match PySem.W.recIn K (He.ma K (He.ga K B) f) "property" with
        | some (.ref _ :: _) => true
        | _ => false)))
  | .okty C => He.eqO (PySem.W.findIn K (.ref (He.ga K C)) "__class__") (some (some (.builtin "object.__class__"))) && (He.eqO (PySem.W.specialIn K (.builtin "object.__class__") "__get__") (some (some (.builtin "getset_descriptor.__get__"))) &&
      (decide (PySem.W.takesIn K (.builtin "object.__class__") = some true) && decide (PySem.W.mroIn K (He.ga K C) (.type "object") = some true)))
  | .isi C D b => decide (PySem.W.kitOne K (.ref (He.ga K C)) (.ref (He.ga K D)) = some b)
  | .sup C B => supB P K (He.ma K (He.ga K C) "__init__") (He.ga K C) (He.ma K (He.ga K B) "__init__")
  | .gen b => b P K
section
variable {P : Program} {K : PySem.W.Frag}
theorem own_ok {C B m : Str} (h : (Fx.own C B m).ok P K = true) : OwnM K (He.ga K C) m (He.ma K (He.ga K B) m) := by
  obtain ⟨h1, h⟩ := He.ba h
  obtain ⟨h2, h⟩ := He.ba h
  obtain ⟨h3, h4⟩ := He.ba h
  exact ⟨He.eqO_ok h1, h2, h3, h4⟩
theorem prop_ok {C B f : Str} (h : (Fx.prop C B f).ok P K = true) : PropOf K (He.ga K C) f (He.ma K (He.ga K B) f) (gp K B f) := by
  obtain ⟨h1, h⟩ := He.ba h
  obtain ⟨h2, h⟩ := He.ba h
  obtain ⟨h3, h4⟩ := He.ba h
  refine ⟨He.eqO_ok h1, He.eqO_ok h2, of_decide_eq_true h3, ?_⟩
  unfold gp
  split at h4
  · rename_i g r e
    exact ⟨r, by rw [e]⟩
  · cases h4
theorem okty_ok {C : Str} (hc : Cls K (He.ga K C)) (h : (Fx.okty C).ok P K = true) : OkTy K (He.ga K C) := by
  obtain ⟨h1, h⟩ := He.ba h
  obtain ⟨h2, h⟩ := He.ba h
  obtain ⟨h3, h4⟩ := He.ba h
  exact ⟨hc, He.eqO_ok h1, He.eqO_ok h2, of_decide_eq_true h3, of_decide_eq_true h4⟩
theorem isi_ok {C D : Str} {b : Bool} (h : (Fx.isi C D b).ok P K = true) : PySem.W.kitOne K (.ref (He.ga K C)) (.ref (He.ga K D)) = some b := of_decide_eq_true h
end
/-! ### the Hook -/
abbrev AlX : Type := He.AlD × Bool × List FnY
def obsX (P : Program) (fa : List He.Fa) (fn : List He.DefD) (fx : List Fx) (dx : List DefX) (K : PySem.W.Frag) : AlX := (He.obsD fa fn K, (fx.all fun f => f.ok P K) && dx.all fun d => d.ok K, dx.map fun d => d.obs K)
def valX (fn : List He.DefD) (dx : List DefX) : AlX := (He.valD fn, true, dx.map DefX.val)
def SaysX (P : Program) (fa : List He.Fa) (fn : List He.DefD) (fx : List Fx) (dx : List DefX) (K : PySem.W.Frag) : Prop := obsX P fa fn fx dx K = valX fn dx
def obsXG (P : Program) (n : Nat) (fa : List He.Fa) (fn : List He.DefD) (fx : List Fx) (dx : List DefX) (g : Addr → Option Obj) : AlX := obsX P fa fn fx dx (He.frG g (cStatics :: He.asD g n))
def hookX (P : Program) (n : Nat) (fa : List He.Fa) (fn : List He.DefD) (fx : List Fx) (dx : List DefX) : PySem.W.Hook where
  α := AlX
  obs := fun s => obsXG P n fa fn fx dx s.heap.get?
  val := fun _ => valX fn dx
  says := fun _ h => ∃ K : PySem.W.Frag, K.In h ∧ SaysX P fa fn fx dx K
  of := fun _ _ e => ⟨_, He.frG_in, e⟩
  keeps := fun _ _ _ ⟨K, hK, c⟩ k => ⟨K, PySem.W.Frag.In.keeps hK k, c⟩
theorem obsXG_eq {P : Program} {n : Nat} {fa : List He.Fa} {fn : List He.DefD} {fx : List Fx} {dx : List DefX} {g : Addr → Option Obj} {s : Shared} (h : ∀ a, g a = s.heap.get? a) : obsXG P n fa fn fx dx g = (hookX P n fa fn fx dx).obs s := by
  have e : g = s.heap.get? := funext h
  rw [e]; rfl
section
variable {P : Program} {fa : List He.Fa} {fn : List He.DefD} {fx : List Fx} {dx : List DefX} {K : PySem.W.Frag}
theorem SaysX.d (c : SaysX P fa fn fx dx K) : He.SaysD fa fn K := congrArg (fun z : AlX => z.1) c
theorem SaysX.more (c : SaysX P fa fn fx dx K) : (fx.all fun f => f.ok P K) = true ∧ (dx.all fun d => d.ok K) = true := He.ba (congrArg (fun z : AlX => z.2.1) c)
theorem SaysX.fact (c : SaysX P fa fn fx dx K) (i : Nat) {f : Fx} (h : fx[i]? = some f := by rfl) : f.ok P K = true := List.all_eq_true.mp c.more.1 f (List.mem_of_getElem? h)
theorem SaysX.def_ (c : SaysX P fa fn fx dx K) (i : Nat) {d : DefX} (h : dx[i]? = some d := by rfl) : d.obs K = d.val ∧ d.ok K = true := by
  refine ⟨?_, List.all_eq_true.mp c.more.2 d (List.mem_of_getElem? h)⟩
  have e : dx.map (fun d => d.obs K) = dx.map DefX.val := congrArg (fun z : AlX => z.2.2) c
  have e2 : (dx.map fun d => d.obs K)[i]? = (dx.map DefX.val)[i]? := by rw [e]
  rw [List.getElem?_map, List.getElem?_map, h] at e2
  exact Option.some.inj e2
end
end Hx
end Pu
/-! Pu: slices of lists with a step. -/
namespace Pu
open PySem PySem.Spec L2
open PyProof.Rows hiding St
def pickU {α : Type} (xs : List α) (lo hi st : Option Int) : List α :=
  (sliceRange (sliceBounds lo hi st xs.length).1 (sliceBounds lo hi st xs.length).2.1 (sliceBounds lo hi st xs.length).2.2).filterMap fun i => xs[i]?
theorem pick_paired {α β : Type} {P : α → β → Prop} {xs : List α} {ys : List β} (h : Paired P xs ys) (lo hi st : Option Int) : Paired P (pickU xs lo hi st) (pickU ys lo hi st) := by
  unfold pickU
  rw [paired_len h]
  generalize sliceRange _ _ _ = is
  induction is with
  | nil => exact .nil
  | cons i is ih =>
    cases q : ys[i]? with
    | none =>
      have q2 : xs[i]? = none := by
        rw [List.getElem?_eq_none_iff] at q ⊢
        rw [paired_len h]; exact q
      simp only [List.filterMap_cons, q, q2]
      exact ih
    | some y =>
      obtain ⟨x, q2, hp⟩ := paired_get h q
      simp only [List.filterMap_cons, q, q2]
      exact .cons hp ih
theorem pick_arr (its : List Value) (lo hi st : Option Int) : slicePick its.toArray lo hi st = (pickU its lo hi st).toArray := by
  unfold slicePick pickU
  simp
noncomputable def fSlK (k : Int) : U → Option Int → Option Int → Sto → Option (U × Sto) := fun x lo hi S => match asList S x with
  | some xs => if (pickU xs lo hi (some k)).length ≤ 100000 then (allV (pickU xs lo hi (some k))).map fun ds => (.v (.lst ds), S) else none
  | none => none
section
variable {X : Cx} {cl : Nat → Addr} {W : WX} {e : Expr} {m : ME} {lo hi : Option Expr} {mlo mhi : MO} {pos p2 p3 : Pos} {k : Int} {j : Nat}
theorem qe_sliceK (hk : k ≠ 0) (he : QE X cl W e m) (hl : QO X cl W lo mlo) (hu : QO X cl W hi mhi) (hsl : ∀ x y, subscripted (.Slice lo hi (some (.Constant (.int k) j p3)) p2) false x y = operate [x, y] (getItem x y) := by intro _ _; with_unfolding_all rfl) :
    QE X cl W (.Subscript e (.Slice lo hi (some (.Constant (.int k) j p3)) p2) pos) (eSl (fSlK k) m mlo mhi) := by
  refine ⟨fun pins s σ H Q I ⟨ι, F, S, ρ, r, en, o⟩ => ?_⟩
  refine Subscript_ (thn (he.run pins s σ H _ I ⟨ι, F, S, ρ, r, en, o.bind⟩) fun v s1 ⟨x, H1, I1, rx, ι1, F1, S1, x', e1, r1, z1, o1⟩ => ?_)
  refine wpAny_Slice (thn (hl.run pins s1 σ H1 _ I1 ⟨ι1, F1, S1, ρ, r1, en.mono e1, o1.bind⟩) fun vl s2 ⟨l, H2, I2, pl, ι2, F2, S2, l', e2, r2, z2, o2⟩ => ?_)
  subst z2
  refine thn (hu.run pins s2 σ H2 _ I2 ⟨ι2, F2, S2, ρ, r2, (en.mono e1).mono e2, o2.bind⟩) fun vu s3 ⟨h, H3, I3, pu, ι3, F3, S3, h', e3, r3, z3, o3⟩ => ?_
  subst z3
  have hst : PO X (some (.Constant (.int k) j p3)) (tPart (tC (.int k))) := po_some pe_int
  refine thn (hst.run pins s3 σ H3 (fun o H4 => o = some k ∧ H4 = H3) I3 ⟨k, rfl, rfl, rfl⟩) fun vs s4 ⟨st, H4, I4, ps, eo, e4⟩ => ?_
  subst eo e4
  have fi := o3.fin
  unfold fSlK at fi
  cases q : asList S3 x' with
  | none => rw [q] at fi; exact fi.no
  | some xs =>
    rw [q] at fi
    simp only at fi
    split at fi
    · rename_i hlen
      cases qa : allV (pickU xs l h (some k)) with
      | none => rw [qa] at fi; exact fi.no
      | some ds =>
        rw [qa] at fi
        obtain ⟨a, ws, rfl, hp, zz⟩ := asList_ok r3 ((z1.mono e2).mono e3) q
        obtain rfl : v = Value.ref a := rx
        have I5 : Inv X pins σ H4 { s4 with heap := s4.heap.push { cls := .type "slice", data := .fields #[vl, vu, vs] } } := I4.kept (t' := s4.toks) fun b ob z => Heap.get?_push_of_some _ z
        obtain ⟨its, ri, ht, hz⟩ := I5.list hp
        have hpk := pick_paired zz l h (some k)
        rw [allV_some qa] at hpk
        have hfr : H4 (s4.heap.objs.size + 1) = none := I4.hok.fresh (Nat.le_succ _)
        show wpAny (model X.prog X.w) X.A (subscriptTail e _ (.ref a) (.ref s4.heap.objs.size)) (EP X pins σ Q) X.xe { s4 with heap := s4.heap.push { cls := .type "slice", data := .fields #[vl, vu, vs] } }
        refine tail_any (ops := [.ref a, .ref s4.heap.objs.size]) ht.isList.typeIs (PySem.slot_list_getitem.lookup) ?_ (hsl _ _)
        refine wpAny_getItem_list_slice ht.isList (Heap.IsSliceOf.new _ vl vu vs) pl pu ps (by simpa using hk) ?_ (by have := ri.length; rw [List.size_toArray]; omega)
        rw [pick_arr]
        have hnew := I5.hok.fresh (Nat.le_refl _)
        refine ⟨.ref _, _, I5.laid (t' := s4.toks) (o := .lst (pickU ws l h (some k))) (fun b ob z => Heap.get?_push_of_some _ z) (Nat.le_refl _) ⟨?_, _, 0, pick_paired ri l h (some k), Heap.get?_push_size _ rfl⟩, rfl, fi.go (Evo.newF hnew) (r3.newF hnew) (.v (.lst (.inr rfl) upd_same ((repus_reps hpk).mono (ι := ι3) (ι' := ι3) (Evo.newF hnew))))⟩
        have e5 := paired_len (pick_paired zz l h (some k))
        exact Nat.le_trans (by omega) (show 100000 ≤ sizeLine by decide)
    · exact fi.no
end
end Pu
/-! Pu: how a call binds, defs with positional defaults. -/
namespace Pu
open PySem PySem.Spec L2
open PyProof.Rows hiding St
open PySem.W (ksFn)
section
variable {P : Program} {K : PySem.W.Frag} {x qual : Str} {params : Arguments} {body : List Stmt} {scope : Scope} {dvs : List V} {kws : List (Str × V)} {C f2 f : Addr} {fd : FuncData} {ps : List Str}
/-- the defaults behind the first j fill up -/
theorem SupD.binds1 (Sd : SupD P K x qual params body scope dvs C f2 f fd) (n j : Nat) (hd : dvs ≠ []) (hn : n + (dvs.length - j) = ps.length)
    (h : ∀ (T cda cc : Addr) (kV doc pm : Value) (an : Option Addr) (ct : Value) (us its : List Value), us.length = n → its.length = dvs.length →
      ∃ k, bindArgs (ksFn x qual params body scope (.ref T) kV doc pm an (.ref cda) ct cc) ⟨us, []⟩ = seqItems? (.ref T) >>= k ∧ k (some its.toArray) = pure (ps.zip (us ++ its.drop j))) : ∃ ds, Vals (dvs.drop j) ds ∧ Binds K fd ps ds := by
  obtain ⟨oc, od, dV, kV, doc, pm, an, cda, ct, osl, cc, cl, cld, csl, ccl, cdd, vs, ccs, file, tf, rfl, lk, k1, hcc, hcode, hvs, hf, hD⟩ := Sd.ex
  rcases hD with ⟨e, _⟩ | ⟨_, T, o, its, m, rfl, lT, oT, rT⟩
  · exact absurd e hd
  · have l1 : its.length = dvs.length := rT.length.symm
    refine ⟨its.drop j, rT.drop j, fun s us X hlen => BindsTo.of_looks fun M => ?_⟩
    obtain ⟨k, e1, e2⟩ := h T cda cc kV doc pm an ct us its (by rw [List.length_append, List.length_drop, l1] at hlen; omega) l1
    rw [e1]; exact looks_items X lT oT (.of_pure e2)
/-- keywords behind the positional values, nothing lacks -/
theorem SupD.kb (Sd : SupD P K x qual params body scope dvs C f2 f fd) (n : Nat) (ks : List Str) (hd : dvs ≠ [])
    (h : ∀ (T cda cc : Addr) (kV doc pm : Value) (an : Option Addr) (ct : Value) (us its ws : List Value), us.length = n → its.length = dvs.length → ws.length = ks.length →
      ∃ k, bindArgs (ksFn x qual params body scope (.ref T) kV doc pm an (.ref cda) ct cc) ⟨us, ks.zip ws⟩ = seqItems? (.ref T) >>= k ∧ k (some its.toArray) = pure (ps.zip (us ++ ws))) : KBn K fd ps n ks (fun us ws => us ++ ws) (fun vs zs => vs ++ zs) := by
  obtain ⟨oc, od, dV, kV, doc, pm, an, cda, ct, osl, cc, cl, cld, csl, ccl, cdd, vs, ccs, file, tf, rfl, lk, k1, hcc, hcode, hvs, hf, hD⟩ := Sd.ex
  rcases hD with ⟨e, _⟩ | ⟨_, T, o, its, m, rfl, lT, oT, rT⟩
  · exact absurd e hd
  · refine ⟨fun s us ws X h1 h2 => BindsTo.of_looks fun M => ?_, fun a b => a.append b⟩
    obtain ⟨k, e1, e2⟩ := h T cda cc kV doc pm an ct us its ws h1 rT.length.symm h2
    rw [e1]; exact looks_items X lT oT (.of_pure e2)
theorem funD_kb (F : FunD K x qual params body scope dvs kws f fd) (n : Nat) (ks : List Str) (hd : dvs ≠ [])
    (h : ∀ (T : Addr) (kV doc pm : Value) (an : Option Addr) (cdv ct : Value) (us its ws : List Value), us.length = n → its.length = dvs.length → ws.length = ks.length →
      ∃ k, bindArgs (PySem.W.fnOf x qual params body scope (.ref T) kV doc pm an cdv ct) ⟨us, ks.zip ws⟩ = seqItems? (.ref T) >>= k ∧ k (some its.toArray) = pure (ps.zip (us ++ ws))) : KBn K fd ps n ks (fun us ws => us ++ ws) (fun vs zs => vs ++ zs) := by
  obtain ⟨oc, od, dV, kV, doc, pm, an, cdv, ct, osl, rfl, lk, hcd, hD, hK⟩ := F.ex
  rcases hD with ⟨e, _⟩ | ⟨_, T, o, its, m, rfl, lT, oT, rT⟩
  · exact absurd e hd
  · refine ⟨fun s us ws X h1 h2 => BindsTo.of_looks fun M => ?_, fun a b => a.append b⟩
    obtain ⟨k, e1, e2⟩ := h T kV doc pm an cdv ct us its ws h1 rT.length.symm h2
    rw [e1]; exact looks_items X lT oT (.of_pure e2)
end
/-- the mirror of a def that says super().__init__ -/
theorem sup_q {P : Program} {w : World} {K : PySem.W.Frag} {mg : Str → Option Value} {base : Heap} {cl : Nat → Addr} {c n k : Nat} {f : Addr} {fd : FuncData} {ps : List Str} {mf : List U → Sto → R U} (hn : ps.length = n)
    (h : FnOk P w K mg base (L2.CX P w) k f fd ps (fun vs H Q E => vs.length = ps.length ∧ (∃ x dx fs ws, vs = .ref x :: ws ∧ H x = some (.ins (cl c) dx fs)) ∧ SpM ⟨P, w, K, cl⟩ n mf vs H (fun _ H' => Q .non H') E)) :
    FnOk P w K mg base (L2.CX P w) k f fd ps (SpM ⟨P, w, K, cl⟩ n (supN c mf)) :=
  h.imp fun vs H Q E z => by
    obtain ⟨h1, h2, h3⟩ := sup_sp z
    exact ⟨h1.trans hn.symm, h2, h3⟩
end Pu
/-! Pu: small helpers for printed derivations. -/
namespace Pu
open PySem PySem.Spec L2
open PyProof.Rows hiding St
theorem tk0 {Y : Cx} : Takes Y W0 := fun u s' ⟨_, _, _, _, _, _, _, _, _, _, _, _, _, _, _, _, z⟩ => z.elim
theorem nil_vals {ds : List Value} (h : Vals [] ds) : ds = [] := by cases h; rfl
/-! ### -x -/
def fNeg : F1 := fun u S => match u with
  | .v (.int i) => some (.v (.int (-i)), S)
  | _ => none
theorem uq_neg {X : Cx} {cl : Nat → Addr} : UnR X (unaryOp .USub) (liftUn (bx X cl) fNeg) := by
  intro pins s σ H x v Q I rx ⟨ι, F, S, a, rl, za, fi⟩
  unfold fNeg at fi
  split at fi
  · rename_i i
    cases za with
    | v za =>
      cases za
      exact un_neg pins s σ H _ v Q I rx ⟨i, rfl, fi.val rl (.v (.int _))⟩
  · exact fi.no
/-! ### xs + ys, a list that may change -/
def fAddS : F2 := fun x y S => match asLst S x, asLst S y with
  | some xs, some ys => if xs.length + ys.length ≤ 100000 then some (.r S.length, S ++ [.lst (xs ++ ys)]) else none
  | _, _ => none
theorem oq_addS {X : Cx} {cl : Nat → Addr} : OpR X (binaryOp .Add) (liftOp (bx X cl) fAddS) := by
  intro pins s σ H x y v u Q I rx ry ⟨ι, F, S, a, b, rl, za, zb, fi⟩
  unfold fAddS at fi
  cases qa : asLst S a with
  | none => rw [qa] at fi; exact fi.no
  | some xs =>
    cases qb : asLst S b with
    | none => rw [qa, qb] at fi; exact fi.no
    | some ys =>
      rw [qa, qb] at fi
      simp only at fi
      split at fi
      · rename_i hl
        obtain ⟨p, vs, rfl, hp, rp⟩ := asLst_ok rl za qa
        obtain ⟨q, ws, rfl, hq, rq⟩ := asLst_ok rl zb qb
        have la := paired_len rp
        have lb := paired_len rq
        have rr : RepUs (bx X cl) ι F H (vs ++ ws) (xs ++ ys) := paired_append rp rq
        exact op_cat pins s σ H _ _ v u Q I rx ry ⟨p, q, vs, ws, rfl, rfl, hp, hq, sz (by omega), fun z hz => by
          have e2 : Evo ι F H (ι ++ [z]) F (upd H z (.lst (vs ++ ws))) := Evo.newS hz
          exact fi.go e2 (rl.newS hz nofun ⟨vs ++ ws, upd_same, rr.mono e2⟩) (.r (by rw [← rl.len]; simp))⟩
      · exact fi.no
end Pu
/-! Pu: verification conditions of the newer mirrors. -/
namespace Pu
open PySem L2
section
variable {q : U → Sto → Prop} {S : Sto} {X : XP} {ρ : Env'} {Q : Post}
@[simp ↓] theorem wpr_noX (r : R U) : wpr (noX r) q X = wpr r q (fun _ _ _ => False) := by cases r <;> rfl
@[simp ↓] theorem w_prop (cs : List Nat) (mf : List U → Sto → R U) (mo : ME) : wpr (eProp cs mf mo ρ S) q X = wpr (mo ρ S) (fun x S1 => isIns S1 x fun c _ => c ∈ cs ∧ wpr (mf [x] S1) q (fun _ _ _ => False)) X := by
  simp only [eProp, wpr_bind]
  congr 1; funext x S1
  unfold isIns
  cases asIns S1 x with
  | none => rfl
  | some p => by_cases h : p.1 ∈ cs <;> simp [h]
@[simp ↓] theorem w_sup (c : Nat) (mf : List U → Sto → R U) (x : U) (us : List U) : wpr (supN c mf (x :: us) S) q X = isIns S x fun c' _ => c' = c ∧ wpr (mf (x :: us) S) (fun _ S1 => q (.v .non) S1) X := by
  unfold supN isIns
  cases hx : asIns S x with
  | none => simp [hx]
  | some p =>
    by_cases h : p.1 = c
    · simp only [hx, h, if_true, wpr_bind, wpr_ok, true_and]
    · simp [hx, h]
@[simp ↓] theorem w_iChr (m : ME) (k : IterV → Sto → Prop) : wpr (iChr m ρ S) k X = wpr (m ρ S) (fun u S1 => match u with
    | .v (.str z) => k ⟨chrs z, none⟩ S1
    | _ => False) X := by
  simp only [iChr, wpr_bind]
  congr 1; funext u S1
  cases u with
  | r n => rfl
  | v d => cases d <;> rfl
@[simp ↓] theorem v_neg (i : Int) : wpO (fNeg (.v (.int i)) S) q = q (.v (.int (-i))) S := id rfl
@[simp ↓] theorem v_insert (n : Nat) (i : Int) (u : U) : wpO (fInsert (.r n) [.v (.int i), u] S) q = cellL S[n]? fun xs => (xs.length < 100000 ∧ 0 ≤ i ∧ i < 1000000) ∧ q (.v .non) (S.set n (.lst (xs.take i.toNat ++ [u] ++ xs.drop i.toNat))) := by
  cases h : S[n]? with
  | none => simp [fInsert, cellL, h]
  | some c =>
    cases c with
    | lst xs => by_cases hh : xs.length < 100000 ∧ 0 ≤ i ∧ i < 1000000 <;> simp [fInsert, cellL, h, hh]
    | _ => simp [fInsert, cellL, h]
/-- a while loop by an invariant with a measure -/
theorem while_inv {c : MT} {body : MS} (I : Nat → Env' → Sto → Prop) (hs : ∀ (n : Nat) (ρ : Env') (S : Sto), I n ρ S → wpr (c ρ S) (fun b S1 => if b = true then wps (body ρ S1) { nx := fun ρ2 S2 => ∃ m, m < n ∧ I m ρ2 S2, ct := fun ρ2 S2 => ∃ m, m < n ∧ I m ρ2 S2, bk := Q.nx, rt := Q.rt, ex := Q.ex } else Q.nx ρ S1) (fun k fs S => Q.ex k fs ρ S)) :
    ∀ (n : Nat) (ρ : Env') (S : Sto), I n ρ S → ∃ k, wps (whileN c body k ρ S) Q := by
  intro n
  induction n using Nat.strongRecOn with
  | ind n ih =>
    intro ρ S h
    have h1 := hs n ρ S h
    cases qc : c ρ S with
    | er => rw [qc] at h1; exact h1.elim
    | ex k fs S1 => exact ⟨1, by rw [qc] at h1; simp only [whileN, qc, R.st_ex]; exact h1⟩
    | ok b S1 =>
      rw [qc] at h1
      simp only [wpr_ok] at h1
      cases b with
      | false => exact ⟨1, by simp only [whileN, qc, R.st_ok, Bool.false_eq_true, if_false] at h1 ⊢; exact h1⟩
      | true =>
        simp only [if_true] at h1
        cases qb : body ρ S1 with
        | nx ρ2 S2 =>
          rw [qb] at h1
          obtain ⟨m, hm, hI⟩ := (show ∃ m, m < n ∧ I m ρ2 S2 from h1)
          obtain ⟨k, hk⟩ := ih m hm ρ2 S2 hI
          exact ⟨k + 1, by simp only [whileN, qc, R.st_ok, if_true, qb]; exact hk⟩
        | ct ρ2 S2 =>
          rw [qb] at h1
          obtain ⟨m, hm, hI⟩ := (show ∃ m, m < n ∧ I m ρ2 S2 from h1)
          obtain ⟨k, hk⟩ := ih m hm ρ2 S2 hI
          exact ⟨k + 1, by simp only [whileN, qc, R.st_ok, if_true, qb]; exact hk⟩
        | bk ρ2 S2 => exact ⟨1, by rw [qb] at h1; simp only [whileN, qc, R.st_ok, if_true, qb]; exact h1⟩
        | rt u S2 => exact ⟨1, by rw [qb] at h1; simp only [whileN, qc, R.st_ok, if_true, qb]; exact h1⟩
        | ex k fs ρ2 S2 => exact ⟨1, by rw [qb] at h1; simp only [whileN, qc, R.st_ok, if_true, qb]; exact h1⟩
        | er => rw [qb] at h1; exact h1.elim
theorem s_while (c : MT) (body : MS) (I : Nat → Env' → Sto → Prop) (n : Nat) (h0 : I n ρ S) (hs : ∀ (n : Nat) (ρ : Env') (S : Sto), I n ρ S → wpr (c ρ S) (fun b S1 => if b = true then wps (body ρ S1) { nx := fun ρ2 S2 => ∃ m, m < n ∧ I m ρ2 S2, ct := fun ρ2 S2 => ∃ m, m < n ∧ I m ρ2 S2, bk := Q.nx, rt := Q.rt, ex := Q.ex } else Q.nx ρ S1) (fun k fs S => Q.ex k fs ρ S)) :
    wps (sWhile c body ρ S) Q := by
  obtain ⟨k, hk⟩ := while_inv I hs n ρ S h0
  have hne : whileN c body k ρ S ≠ .er := fun z => by rw [z] at hk; exact hk
  rw [sWhile_eq hne]
  exact hk
end
end Pu
/-! Pu: verification conditions of all, any, sorted, isinstance, own iteration. -/
namespace Pu
open PySem L2
section
variable {q : U → Sto → Prop} {S : Sto} {X : XP} {ρ : Env'} {Q : Post}
@[simp] theorem allB_map (bs : List Bool) : allB (bs.map fun b => U.v (.bl b)) = some bs := by
  induction bs with
  | nil => rfl
  | cons b bs ih => simp [allB, ih]
theorem v_all (bs : List Bool) : wpO (fAll [.v (.lst (bs.map D.bl))] S) q = q (.v (.bl (bs.all id))) S := by
  unfold fAll asList
  simp only [List.map_map]
  rw [show (U.v ∘ D.bl) = fun b => U.v (.bl b) from rfl, allB_map]
  rfl
theorem v_any (bs : List Bool) : wpO (fAny [.v (.lst (bs.map D.bl))] S) q = q (.v (.bl (bs.any id))) S := by
  unfold fAny asList
  simp only [List.map_map]
  rw [show (U.v ∘ D.bl) = fun b => U.v (.bl b) from rfl, allB_map]
  rfl
theorem v_sorted (ds : List D) (h : okSort ds) : wpO (fSorted [.v (.lst ds)] S) q = q (.v (.lst (sortD ds))) S := by
  unfold fSorted asList
  simp only [allV_map, if_pos h]
  rfl
theorem v_isX (tab : Nat → Nat → Option Bool) (u : U) (c : Nat) : wpO (fIsX tab [u, .v (.cls c)] S) q = isIns S u fun c' _ => wpo (tab c' c) fun b => q (.v (.bl b)) S := by
  unfold fIsX isIns
  simp only
  cases asIns S u with
  | none => rfl
  | some p => simp only; cases tab p.1 c <;> rfl
theorem v_ltD {a b : D} {p r : PyData} (h1 : pyOf a = some p) (h2 : pyOf b = some r) (ha : isDat a = true) (hb : isDat b = true) (hal : PySem.W.alike p r = true) (hn : a ≠ .non) : wpO (fLtD (.v a) (.v b) S) q = q (.v (.bl (PySem.W.dataLt p r))) S := by
  unfold fLtD
  simp only [h1, h2, ha, hb, hal, and_self, true_and, ne_eq, hn, not_false_eq_true, if_true]
  rfl
theorem v_ixR {n : Nat} {xs : List U} (i : Int) (h : S[n]? = some (.lst xs)) : wpO (fIxX (.r n) (.v (.int i)) S) q = wpo (atI xs i) fun w => q w S := by
  rw [ixX_q _ _ (by simp) (by unfold asDic; simp only [h])]
  simp [h]
@[simp ↓] theorem v_ixR0 (S : Sto) (xs : List U) (l : Sto) (i : Int) : wpO (fIxX (.r S.length) (.v (.int i)) (S ++ .lst xs :: l)) q = wpo (atI xs i) fun w => q w (S ++ .lst xs :: l) := v_ixR i (by simp)
end
end Pu
/-! Plain: strictly ascending lists. -/
namespace Pu
/-- two strictly ascending lists with the same members are the same -/
theorem asc_ext {α : Type} {lt : α → α → Prop} (irr : ∀ a, ¬ lt a a) (tr : ∀ a b c, lt a b → lt b c → lt a c) : ∀ {xs ys : List α}, xs.Pairwise lt → ys.Pairwise lt → (∀ a, a ∈ xs ↔ a ∈ ys) → xs = ys
  | [], [], _, _, _ => rfl
  | [], y :: ys, _, _, h => by have := (h y).mpr (by simp); simp at this
  | x :: xs, [], _, _, h => by have := (h x).mp (by simp); simp at this
  | x :: xs, y :: ys, hx, hy, h => by
    rw [List.pairwise_cons] at hx hy
    have exy : x = y := by
      rcases List.mem_cons.mp ((h x).mp (by simp)) with e | e
      · exact e
      · rcases List.mem_cons.mp ((h y).mpr (by simp)) with e2 | e2
        · exact e2.symm
        · exact absurd (tr _ _ _ (hx.1 y e2) (hy.1 x e)) (irr x)
    subst exy
    congr 1
    refine asc_ext irr tr hx.2 hy.2 fun a => ⟨fun ha => ?_, fun ha => ?_⟩
    · rcases List.mem_cons.mp ((h a).mp (List.mem_cons_of_mem _ ha)) with e | e
      · subst e; exact absurd (hx.1 a ha) (irr a)
      · exact e
    · rcases List.mem_cons.mp ((h a).mpr (List.mem_cons_of_mem _ ha)) with e | e
      · subst e; exact absurd (hy.1 a ha) (irr a)
      · exact e
end Pu
/-! Pu: arguments by keywords behind those by position. -/
namespace Pu
open PySem L2
def gApp (us ws : List U) : List U := us ++ ws
theorem hG_app : GRel (fun vs zs => ((.ref 0 :: vs) ++ zs : List V).tail) gApp := fun B ι F H vs zs us ws a b => paired_append a b
theorem hH_app (v : V) (vs zs : List V) : (v :: vs) ++ zs = v :: (((.ref 0 :: vs) ++ zs : List V)).tail := rfl
end Pu
/-! Pu: wp of own items, truth, iteration; loops over data. -/
namespace Pu
open PySem L2
section
variable {q : U → Sto → Prop} {S : Sto} {X : XP} {ρ : Env'} {Q : Post}
def tupV (o : Option U) (k : List D → Prop) : Prop := match o with
  | some (.v (.tup ds)) => k ds
  | _ => False
@[simp ↓] theorem tupV_t (ds : List D) (k : List D → Prop) : tupV (some (.v (.tup ds))) k = k ds := id rfl
@[simp ↓] theorem w_iOwn (cs : List Nat) (fld : Str) (mo : ME) (k : IterV → Sto → Prop) : wpr (iOwn cs fld mo ρ S) k X = wpr (mo ρ S) (fun x S1 => isIns S1 x fun c fs => c ∈ cs ∧ tupV (fs.lookup fld) fun ds => k ⟨ds.map U.v, none⟩ S1) X := by
  simp only [iOwn, wpr_bind]
  congr 1; funext x S1
  unfold isIns
  cases asIns S1 x with
  | none => rfl
  | some p =>
    obtain ⟨c, fs⟩ := p
    simp only
    by_cases h : c ∈ cs
    · simp only [h, if_true, true_and]
      unfold tupV
      cases fs.lookup fld with
      | none => rfl
      | some u =>
        cases u with
        | r n => rfl
        | v d => cases d <;> rfl
    · simp [h]
@[simp ↓] theorem w_ixO (cs : List Nat) (mf : List U → Sto → R U) (mo mi : ME) : wpr (eIxO cs mf mo mi ρ S) q X = wpr (mo ρ S) (fun x S1 => wpr (mi ρ S1) (fun i S2 => isIns S2 x fun c _ => c ∈ cs ∧ wpr (mf [x, i] S2) q X) X) X := by
  simp only [eIxO, wpr_bind]
  congr 1; funext x S1; congr 1; funext i S2
  unfold isIns
  cases asIns S2 x with
  | none => rfl
  | some p => obtain ⟨c, fs⟩ := p; simp only; by_cases h : c ∈ cs <;> simp [h]
@[simp ↓] theorem s_setO (cs : List Nat) (mf : List U → Sto → R U) (mo mi mv : ME) : wps (sSetO cs mf mo mi mv ρ S) Q = wpr (mv ρ S) (fun v S1 => wpr (mo ρ S1) (fun x S2 => wpr (mi ρ S2) (fun i S3 => isIns S3 x fun c _ => c ∈ cs ∧ wpr (mf [x, i, v] S3) (fun _ S4 => Q.nx ρ S4) (fun k fs S => Q.ex k fs ρ S)) (fun k fs S => Q.ex k fs ρ S)) (fun k fs S => Q.ex k fs ρ S)) (fun k fs S => Q.ex k fs ρ S) := by
  simp only [sSetO, wps_st]
  congr 1; funext v S1; congr 1; funext x S2; congr 1; funext i S3
  unfold isIns
  cases asIns S3 x with
  | none => rfl
  | some p =>
    obtain ⟨c, fs⟩ := p
    simp only
    by_cases h : c ∈ cs
    · simp only [h, if_true, true_and, wps_st]; rfl
    · simp [h, wps]
@[simp ↓] theorem w_tOwn (cs : List Nat) (mf : List U → Sto → R U) (mo : ME) (k : Bool → Sto → Prop) : wpr (tOwn cs mf mo ρ S) k X = wpr (mo ρ S) (fun x S1 => isIns S1 x fun c _ => c ∈ cs ∧ wpr (mf [x] S1) (fun u S2 => isBl u fun b => k b S2) X) X := by
  simp only [tOwn, wpr_bind]
  congr 1; funext x S1
  unfold isIns
  cases asIns S1 x with
  | none => rfl
  | some p =>
    obtain ⟨c, fs⟩ := p
    simp only
    by_cases h : c ∈ cs
    · simp only [h, if_true, true_and, wpr_bind, wpr_isB]
    · simp [h]
/-- a loop over data by a fold -/
theorem for_st {α β : Type} {src : Option Nat} {c0 : Option Cell} {g : MG} {body : MS} (enc : β → U) (f : α → β → α) (I : α → Env' → Sto → Prop) : ∀ (xs : List β) (a : α) (ρ : Env') (S : Sto), I a ρ S →
    (∀ a x ρ S, x ∈ xs → I a ρ S → wpo (g (enc x) ρ) fun ρ1 => wps (body ρ1 S) { nx := fun ρ2 S2 => srcOk src c0 S2 ∧ I (f a x) ρ2 S2, ct := fun ρ2 S2 => srcOk src c0 S2 ∧ I (f a x) ρ2 S2, bk := Q.nx, rt := Q.rt, ex := Q.ex }) →
    (∀ ρ S, I (xs.foldl f a) ρ S → Q.nx ρ S) → wps (forGo src c0 g body (xs.map enc) ρ S) Q
  | [], a, ρ, S, h0, hs, hn => hn ρ S h0
  | x :: xs, a, ρ, S, h0, hs, hn => by
    have h1 := hs a x ρ S (by simp) h0
    have ih := fun ρ S h => for_st (src := src) (c0 := c0) (body := body) (g := g) enc f I xs (f a x) ρ S h (fun a y ρ S hy => hs a y ρ S (by simp [hy])) hn
    rw [List.map_cons]
    unfold forGo
    cases q : g (enc x) ρ with
    | none => rw [q] at h1; exact h1.elim
    | some ρ1 =>
      rw [q] at h1
      simp only [wpo_some] at h1 ⊢
      cases qb : body ρ1 S with
      | nx ρ2 S2 =>
        rw [qb] at h1
        simp only
        have h2 : srcOk src c0 S2 ∧ I (f a x) ρ2 S2 := h1
        rw [if_pos h2.1]
        exact ih ρ2 S2 h2.2
      | ct ρ2 S2 =>
        rw [qb] at h1
        simp only
        have h2 : srcOk src c0 S2 ∧ I (f a x) ρ2 S2 := h1
        rw [if_pos h2.1]
        exact ih ρ2 S2 h2.2
      | bk ρ2 S2 => rw [qb] at h1; exact h1
      | rt u S2 => rw [qb] at h1; exact h1
      | ex c fs ρ2 S2 => rw [qb] at h1; exact h1
      | er => rw [qb] at h1; exact h1.elim
/-- data compared: by values or as lists that may change -/
theorem v_eqA {u w : U} {a b : D} (h1 : deL S u = some a) (h2 : deL S w = some b) (ha : isDat a = true) (hb : isDat b = true) : wpO (fEq u w S) q = q (.v (.bl (decide (a = b)))) S := by
  unfold fEq eqD
  simp only [h1, h2, ha, hb, and_self, if_true]
  rfl
theorem v_neA {u w : U} {a b : D} (h1 : deL S u = some a) (h2 : deL S w = some b) (ha : isDat a = true) (hb : isDat b = true) : wpO (fNe u w S) q = q (.v (.bl (!decide (a = b)))) S := by
  unfold fNe eqD
  simp only [h1, h2, ha, hb, and_self, if_true]
  rfl
theorem deL_lst {u : U} {xs : List D} (h : asLst S u = some (xs.map U.v)) : deL S u = some (.lst xs) := by
  cases u with
  | v d =>
    cases d <;> first | (cases h; done) | skip
    have : ∀ {as bs : List D}, as.map U.v = bs.map U.v → as = bs := fun {as bs} e => by
      have := congrArg allV e
      simpa using this
    have h : List.map U.v _ = List.map U.v xs := Option.some.inj h
    rw [this h]; rfl
  | r n =>
    unfold asLst at h; unfold deL
    simp only at h ⊢
    cases e : S[n]? with
    | none => rw [e] at h; cases h
    | some c =>
      rw [e] at h
      cases c with
      | lst ys => cases h; simp
      | _ => cases h
end
end Pu
/-! Pu: bool(o) by an own __bool__. -/
namespace Pu
open PySem PySem.Spec L2
open PyProof.Rows hiding St
section
variable {prog : Program} {w : World} {A : Around} {E : Value → Shared → Prop} {s : Shared}
/-- bool(x): the truth of x within the call -/
theorem call_bool_in {x : Value} {Q : Value → Shared → Prop} (h : wpAny (model prog w) A.in1.in1 (truthy x) (fun b s' => Q (.bool b) s') E s) : wpAny (model prog w) A (call (.type "bool") [x]) Q E s := by
  have ft := F.called_bool
  obtain ⟨c, tl, hmro⟩ := ft.mro
  have hmade := ft.made
  have hsub := ft.sub
  have hct := F.typeCall_bool_1 x
  refine wpAny_call (codeAny_of_tree ?_)
  change wpAny _ _ (callAny (.type "bool") _) _ _ _
  refine wpAny_pure ⟨Code.quiet_builtin _ (by decide +kernel), codeAny_builtin F.entry_type_call ?_⟩
  rw [Around.under_plain (weight_type_call_type "bool" [x] []) (units_type_call_type "bool" [x] [])]
  have h1 := ft.notType
  have h2 := ft.canCreate
  repeat any_goals first | assumption | wp_step
  have f1 := F.conv_sub_bool
  have gn : wpAny (model prog w) A.in1.in1 (Builtin.«bool.__new__» ⟨[.type "bool", x], []⟩) (fun fin s' => ∃ b, fin = .done (.ret (.bool b)) ∧ Q (.bool b) s') E s := by
    unfold Builtin.«bool.__new__»
    repeat any_goals first | assumption | (with_reducible refine wpAny_bind (m := truthy x) ?_) | wp_step
    exact wpAny_mono (t := truthy x) h (fun b s' hq => wpAny_pure ⟨b, rfl, hq⟩) fun _ _ z => z
  refine codeAny_mono (codeAny_call_builtin (R := wants (fun v s' => ∃ b, v = .bool b ∧ Q (.bool b) s') E) ft.plain F.entry_bool_new (wpAny_of_eq (F.newCall_bool_1 x) (wpAny_mono gn (fun fin s' hf => ?_) fun _ _ z => z))) fun r s₁ hr => ?_
  · obtain ⟨b, rfl, q⟩ := hf
    exact ⟨b, rfl, q⟩
  · cases r with
    | error e => exact hr
    | ok fl =>
      cases fl with
      | ret obj =>
        obtain ⟨b, rfl, hq⟩ := hr
        have hT : s₁.TypeIs (.bool b) "bool" := rfl
        have hli := ft.init.lookup
        have hbi := ft.init.bind (.bool b)
        repeat any_goals first | assumption | wp_step
        have gi := object_init_meets (self := .bool b) (rest := [x]) ft.init.lookup ft.made F.newNe_bool
        refine codeAny_mono (codeAny_call_builtin ft.init.plain F.entry_object_init (ft.init.check _ _ _ _ _ _ _ _ hT (F.args_object_init_2 _ _) (gi prog w A.in1 (wants (fun v s2 => v = .none ∧ Q (.bool b) s2) E) s₁ ⟨hT, rfl, hq⟩))) fun r₂ s₂ hr₂ => ?_
        cases r₂ with
        | error e => exact hr₂
        | ok fl₂ =>
          cases fl₂ with
          | ret r =>
            obtain ⟨rfl, hq⟩ := hr₂
            repeat any_goals first | assumption | wp_step
          | _ => exact hr₂.elim
      | _ => exact hr.elim
end
/-- bool(x): x a truth value, or an instance with its own __bool__ -/
def fBoolO (cs : List Nat) (mf : List U → Sto → R U) : FA := fun us S => match us with
  | [x] => (match asIns S x with
    | some (c', _) => if c' ∈ cs then (match mf [x] S with
      | .ok (.v (.bl b)) S' => some (.v (.bl b), S')
      | _ => none) else none
    | none => none)
  | _ => none
def fBoolV : FA := fun us S => match us with
  | [.v (.bl b)] => some (.v (.bl b), S)
  | _ => none
section
variable {X : Cx} {cl : Nat → Addr} {k : Nat} {f : Addr} {fd : FuncData} {ps : List Str} {mf : List U → Sto → R U} {cs : List Nat}
theorem pass_no : Passes (L2.CX X.prog X.w) X (fun _ _ _ => False) := fun pins σ H s e s' I c => (cx_no' c).elim
theorem cq_boolV : CallR X (.type "bool") (liftC (bx X cl) fBoolV) := by
  intro pins s σ H xs us Q I r ⟨ι, F, S, as, rl, z, fi⟩
  unfold fBoolV at fi
  split at fi
  · rename_i b
    cases z with
    | cons z1 z2 =>
      cases z2
      cases z1 with
      | v z1 =>
        cases z1
        exact call_bool1 pins s σ H _ us Q I r (.inr ⟨b, rfl, fi.val rl (.v (.bl b))⟩)
  · exact fi.no
theorem cq_boolO (hc : ∀ c ∈ cs, OwnM X.K (cl c) "__bool__" f) (Fn : FnOk X.prog X.w X.K X.mg X.base (L2.CX X.prog X.w) k f fd ps (SpM (bx X cl) 1 mf)) (hr : Room (k + 2) X.A) (hb : Binds X.K fd ps []) :
    CallR X (.type "bool") (liftC (bx X cl) (fBoolO cs mf)) := by
  intro pins s σ H xs us Q I r ⟨ι, F, S, as, rl, z, fi⟩
  unfold fBoolO at fi
  split at fi
  · rename_i x'
    cases z with
    | @cons x _ xs' _ z1 z2 =>
      cases z2
      obtain ⟨u, rfl, rx⟩ := vals1 r
      cases q : asIns S x' with
      | none => rw [q] at fi; exact fi.no
      | some pr =>
        obtain ⟨c', fs⟩ := pr
        rw [q] at fi
        simp only at fi
        split at fi
        · rename_i hcc
          have m := hc c' hcc
          obtain ⟨a, dx, vs, rfl, hx, zf⟩ := asIns_ok rl z1 q
          obtain rfl : u = Value.ref a := rx
          obtain ⟨mA, O, _⟩ := ins_get I.hok hx
          obtain ⟨od, J, _⟩ := O.look
          obtain ⟨mm, Ff⟩ := I.fr
          refine call_bool_in (PySem.W.truthy_K Ff I.ok.mod.kin J m.at_ m.fn ?_)
          split at fi
          · rename_i b S' qm
            refine thn (run_at (Q := fun v H' => ∃ b, v = .bl b ∧ Q (.bl b) H') Fn hr.in1.in1 I.env0.in1.in1 hb pass_no I (vs := [.ref a]) (.cons rfl .nil) ⟨rfl, ι, F, S, [x'], rl, .cons z1 .nil, ?_⟩) fun u s4 ⟨v, H4, I4, rv, b', ev, q4⟩ => ?_
            · rw [qm]
              intro v ι' F' H' e' r' z'
              cases z' with
              | v z' => cases z'; exact ⟨b, rfl, fi.go e' r' (.v (.bl b))⟩
            · subst ev
              obtain rfl : u = Value.bool b' := rv
              exact ⟨.bl b', H4, I4, rfl, q4⟩
          · exact fi.no
        · exact fi.no
  · exact fi.no
end
section
variable {q : U → Sto → Prop} {S : Sto}
@[simp ↓] theorem v_boolV (b : Bool) : wpO (fBoolV [.v (.bl b)] S) q = q (.v (.bl b)) S := id rfl
theorem v_boolO (cs : List Nat) (mf : List U → Sto → R U) (x : U) {b : Bool} (h : mf [x] S = .ok (.v (.bl b)) S) : wpO (fBoolO cs mf [x] S) q = isIns S x fun c _ => c ∈ cs ∧ q (.v (.bl b)) S := by
  unfold fBoolO isIns
  simp only
  cases asIns S x with
  | none => rfl
  | some p => obtain ⟨c, fs⟩ := p; simp only; by_cases hc : c ∈ cs <;> simp [hc, h]
end
end Pu
/-! Pu: comprehensions of several clauses, lists and dicts. -/
namespace Pu
open PySem PySem.Spec L2
open PyProof.Rows hiding St
/-- the wish of a turn's rest -/
abbrev BW := Program → World → Around → (Value → Shared → Prop) → Value → Env → (Shared → Prop) → Shared → Prop
/-- what a turn of the clause d does: its rest by bw -/
structure CompAt (e : Expr) (d : Nat) (t i : Expr) (ifs : List Expr) (bw : BW) : Prop where
  qt : ∀ it acc env, (Code.compLoop e d it acc env).quiet = true
  uL : ∀ (A : Around) it acc env, A.under (.compLoop e d it acc env) = A
  uS : ∀ (A : Around) it acc env, A.under (.compStart e d it acc env) = A
  dL : ∀ (P : Program) (w : World) it acc env, (model P w).den (.compLoop e d it acc env) = (compTurn e d it acc env).onRaise (fun x => do noteFrame x env; theTreesLotGoes x)
  dS : ∀ (P : Program) (w : World) it acc env, (model P w).den (.compStart e d it acc env) = (compStart e d it acc env).onRaise (fun x => do noteFrame x env; standAt theWindowsPlace)
  cl : (clausesOf e)[d]? = some ⟨t, i, ifs, 0⟩
  turn : ∀ {P : Program} {w : World} {A : Around} {E : Value → Shared → Prop} {s : Shared} {it acc : Value} {env : Env} {Q : PySem.Fin → Shared → Prop},
    wpAny (model P w) A (pyNext it) (fun r s1 => match r with
      | none => Q (.done .next) s1
      | some v => wpAny (model P w) A (letOwnedTupleGo t it v) (fun _ s2 => wpAny (model P w) A (assign t env v) (fun _ s3 =>
        wpAny (model P w) A (forIn ifs true fun c r => if r = true then do let ok ← isTrue c env (eval c env); pure (ForInStep.yield ok) else pure (ForInStep.yield r)) (fun ok s4 =>
          if ok = true then bw P w A E acc env (fun s5 => Q (.again (.compLoop e d it acc env)) s5) s4 else Q (.again (.compLoop e d it acc env)) s4) E s3) E s2) E s1) E s →
    wpAny (model P w) A (compTurn e d it acc env) Q E s
def bwNext (e : Expr) (d : Nat) (i : Expr) : BW := fun P w A E acc env Q s => (∀ x, foldedSetIterable i env x = pure x) ∧ wpAny (model P w) A (eval i env) (fun x s1 => wpAny (model P w) A (pyIter x) (fun it s2 =>
  codeAny (model P w) A (.compStart e d it acc env) (fun r s3 => match r with
    | .ok _ => Q s3
    | .error _ => False) s2) E s1) E s
def bwL (elt : Expr) : BW := fun P w A E acc env Q s => wpAny (model P w) A (eval elt env) (fun x s1 => wpAny (model P w) A (call (.builtin "list.append") [acc, x]) (fun _ s2 => Q s2) E s1) E s
def bwD (k v : Expr) : BW := fun P w A E acc env Q s => ∃ D, acc = .ref D ∧ wpAny (model P w) A (eval k env) (fun x s1 => wpAny (model P w) A (eval v env) (fun y s2 => wpAny (model P w) A (dictSet D x y) (fun _ s3 => Q s3) E s2) E s1) E s
section
variable {elt kx vx t0 i0 t1 i1 t2 i2 : Expr} {f0 f1 f2 : List Expr} {sc : Scope} {pos : Pos}
theorem turn_of {e : Expr} {d : Nat} {t i : Expr} {ifs : List Expr} {bd : Value → Value → Env → Sem PySem.Fin} {bw : BW} (hE : ∀ it acc env, compTurn e d it acc env = (standAt i.pos >>= fun _ => pyNext it >>= fun r => match r with
      | none => pure (.done .next)
      | some v => letOwnedTupleGo t it v >>= fun _ => assign t env v >>= fun _ =>
        (forIn ifs true fun c r => if r = true then do let ok ← isTrue c env (eval c env); pure (ForInStep.yield ok) else pure (ForInStep.yield r)) >>= fun ok =>
          if ok = true then bd it acc env else again (.compLoop e d it acc env)))
    {P : Program} {w : World} {A : Around} {E : Value → Shared → Prop} {s : Shared} {it acc : Value} {env : Env} {Q : PySem.Fin → Shared → Prop}
    (hb : ∀ s4, bw P w A E acc env (fun s5 => Q (.again (.compLoop e d it acc env)) s5) s4 → wpAny (model P w) A (bd it acc env) Q E s4)
    (h : wpAny (model P w) A (pyNext it) (fun r s1 => match r with
      | none => Q (.done .next) s1
      | some v => wpAny (model P w) A (letOwnedTupleGo t it v) (fun _ s2 => wpAny (model P w) A (assign t env v) (fun _ s3 =>
        wpAny (model P w) A (forIn ifs true fun c r => if r = true then do let ok ← isTrue c env (eval c env); pure (ForInStep.yield ok) else pure (ForInStep.yield r)) (fun ok s4 =>
          if ok = true then bw P w A E acc env (fun s5 => Q (.again (.compLoop e d it acc env)) s5) s4 else Q (.again (.compLoop e d it acc env)) s4) E s3) E s2) E s1) E s) :
    wpAny (model P w) A (compTurn e d it acc env) Q E s := by
  rw [hE]
  refine wpAny_bind (wpAny_standAt (wpAny_bind (wpAny_mono h (fun r s1 h1 => ?_) fun _ _ z => z)))
  cases r with
  | none => exact wpAny_pure h1
  | some v =>
    refine wpAny_bind (wpAny_mono h1 (fun _ s2 h2 => wpAny_bind (wpAny_mono h2 (fun _ s3 h3 => wpAny_bind (wpAny_mono h3 (fun ok s4 h4 => ?_) fun _ _ z => z)) fun _ _ z => z)) fun _ _ z => z)
    cases ok with
    | false => exact wpAny_pure h4
    | true => exact hb s4 h4
def bdNext (e : Expr) (d : Nat) (i : Expr) (d0 : Nat) (it acc : Value) (env : Env) : Sem PySem.Fin := do
  let x ← eval i env
  standAt i.pos
  let y ← foldedSetIterable i env x
  let _ ← runOwn (.compStart e d (← holding [y] (pyIter y)) acc env) env
  again (.compLoop e d0 it acc env)
def bdL (elt e : Expr) (d0 : Nat) (it acc : Value) (env : Env) : Sem PySem.Fin := (do let _ ← call (.builtin "list.append") [acc, ← eval elt env]) >>= fun _ => again (.compLoop e d0 it acc env)
theorem next_ok {e : Expr} {d d0 : Nat} {i : Expr} {P : Program} {w : World} {A : Around} {E : Value → Shared → Prop} {s : Shared} {it acc : Value} {env : Env} {Q : PySem.Fin → Shared → Prop}
    (h : bwNext e d i P w A E acc env (fun s5 => Q (.again (.compLoop e d0 it acc env)) s5) s) : wpAny (model P w) A (bdNext e d i d0 it acc env) Q E s := by
  unfold bdNext
  obtain ⟨hs, h⟩ := h
  refine wpAny_bind (wpAny_mono h (fun x s1 h1 => ?_) fun _ _ z => z)
  refine wpAny_bind (wpAny_standAt (wpAny_bind (wpAny_of_eq (hs x) (wpAny_bind (wpAny_holding (wpAny_mono h1 (fun it1 s2 h2 => ?_) fun _ _ z => z))))))
  refine wpAny_bind (wpAny_runOwn ?_)
  rw [Around.mark_none]
  refine codeAny_mono h2 fun r s3 hr => ?_
  cases r with
  | ok f => exact wpAny_pure hr
  | error e => exact hr.elim
theorem l_ok {elt e : Expr} {d0 : Nat} {P : Program} {w : World} {A : Around} {E : Value → Shared → Prop} {s : Shared} {it acc : Value} {env : Env} {Q : PySem.Fin → Shared → Prop}
    (h : bwL elt P w A E acc env (fun s5 => Q (.again (.compLoop e d0 it acc env)) s5) s) : wpAny (model P w) A (bdL elt e d0 it acc env) Q E s := by
  unfold bdL
  exact wpAny_bind (wpAny_bind (wpAny_mono h (fun x s1 h1 => wpAny_bind (wpAny_mono h1 (fun _ s2 h2 => wpAny_pure (wpAny_pure h2)) fun _ _ z => z)) fun _ _ z => z))
abbrev L2' (elt t0 i0 t1 i1 : Expr) (f0 f1 : List Expr) (sc : Scope) (pos : Pos) : Expr := .ListComp elt [⟨t0, i0, f0, 0⟩, ⟨t1, i1, f1, 0⟩] sc pos
abbrev L3 (elt t0 i0 t1 i1 t2 i2 : Expr) (f0 f1 f2 : List Expr) (sc : Scope) (pos : Pos) : Expr := .ListComp elt [⟨t0, i0, f0, 0⟩, ⟨t1, i1, f1, 0⟩, ⟨t2, i2, f2, 0⟩] sc pos
theorem at_l2_0 : CompAt (L2' elt t0 i0 t1 i1 f0 f1 sc pos) 0 t0 i0 f0 (bwNext (L2' elt t0 i0 t1 i1 f0 f1 sc pos) 1 i1) := ⟨fun _ _ _ => rfl, fun _ _ _ _ => rfl, fun _ _ _ _ => rfl, fun _ _ _ _ _ => rfl, fun _ _ _ _ _ => rfl, rfl,
  fun h => turn_of (i := i0) (bd := bdNext (L2' elt t0 i0 t1 i1 f0 f1 sc pos) 1 i1 0) (fun _ _ _ => rfl) (fun _ => next_ok) h⟩
theorem at_l2_1 : CompAt (L2' elt t0 i0 t1 i1 f0 f1 sc pos) 1 t1 i1 f1 (bwL elt) := ⟨fun _ _ _ => rfl, fun _ _ _ _ => rfl, fun _ _ _ _ => rfl, fun _ _ _ _ _ => rfl, fun _ _ _ _ _ => rfl, rfl,
  fun h => turn_of (i := i1) (bd := bdL elt (L2' elt t0 i0 t1 i1 f0 f1 sc pos) 1) (fun _ _ _ => rfl) (fun _ => l_ok) h⟩
theorem at_l3_0 : CompAt (L3 elt t0 i0 t1 i1 t2 i2 f0 f1 f2 sc pos) 0 t0 i0 f0 (bwNext (L3 elt t0 i0 t1 i1 t2 i2 f0 f1 f2 sc pos) 1 i1) := ⟨fun _ _ _ => rfl, fun _ _ _ _ => rfl, fun _ _ _ _ => rfl, fun _ _ _ _ _ => rfl, fun _ _ _ _ _ => rfl, rfl,
  fun h => turn_of (i := i0) (bd := bdNext (L3 elt t0 i0 t1 i1 t2 i2 f0 f1 f2 sc pos) 1 i1 0) (fun _ _ _ => rfl) (fun _ => next_ok) h⟩
theorem at_l3_1 : CompAt (L3 elt t0 i0 t1 i1 t2 i2 f0 f1 f2 sc pos) 1 t1 i1 f1 (bwNext (L3 elt t0 i0 t1 i1 t2 i2 f0 f1 f2 sc pos) 2 i2) := ⟨fun _ _ _ => rfl, fun _ _ _ _ => rfl, fun _ _ _ _ => rfl, fun _ _ _ _ _ => rfl, fun _ _ _ _ _ => rfl, rfl,
  fun h => turn_of (i := i1) (bd := bdNext (L3 elt t0 i0 t1 i1 t2 i2 f0 f1 f2 sc pos) 2 i2 1) (fun _ _ _ => rfl) (fun _ => next_ok) h⟩
theorem at_l3_2 : CompAt (L3 elt t0 i0 t1 i1 t2 i2 f0 f1 f2 sc pos) 2 t2 i2 f2 (bwL elt) := ⟨fun _ _ _ => rfl, fun _ _ _ _ => rfl, fun _ _ _ _ => rfl, fun _ _ _ _ _ => rfl, fun _ _ _ _ _ => rfl, rfl,
  fun h => turn_of (i := i2) (bd := bdL elt (L3 elt t0 i0 t1 i1 t2 i2 f0 f1 f2 sc pos) 2) (fun _ _ _ => rfl) (fun _ => l_ok) h⟩
def bdD (k v e : Expr) (d0 : Nat) (it acc : Value) (env : Env) : Sem PySem.Fin := (do
  let kv ← eval k env
  let vv ← holding [kv] (eval v env)
  match acc with
  | .ref d => do
    standAt { k.pos with endLine := v.pos.endLine, endCol := v.pos.endCol }
    holding [kv, vv] (dictSet d kv vv)
  | _ => unsupported "internal:dictcomp") >>= fun _ => again (.compLoop e d0 it acc env)
theorem d_ok {k v e : Expr} {d0 : Nat} {P : Program} {w : World} {A : Around} {E : Value → Shared → Prop} {s : Shared} {it acc : Value} {env : Env} {Q : PySem.Fin → Shared → Prop}
    (h : bwD k v P w A E acc env (fun s5 => Q (.again (.compLoop e d0 it acc env)) s5) s) : wpAny (model P w) A (bdD k v e d0 it acc env) Q E s := by
  obtain ⟨D, rfl, h⟩ := h
  unfold bdD
  refine wpAny_bind (wpAny_bind (wpAny_mono h (fun x s1 h1 => wpAny_bind (wpAny_holding (wpAny_mono h1 (fun y s2 h2 => ?_) fun _ _ z => z))) fun _ _ z => z))
  exact wpAny_bind (wpAny_standAt (wpAny_holding (wpAny_mono h2 (fun _ s3 h3 => wpAny_pure h3) fun _ _ z => z)))
abbrev C1 (kx vx t0 i0 : Expr) (f0 : List Expr) (sc : Scope) (pos : Pos) : Expr := .DictComp kx vx [⟨t0, i0, f0, 0⟩] sc pos
abbrev C3 (kx vx t0 i0 t1 i1 t2 i2 : Expr) (f0 f1 f2 : List Expr) (sc : Scope) (pos : Pos) : Expr := .DictComp kx vx [⟨t0, i0, f0, 0⟩, ⟨t1, i1, f1, 0⟩, ⟨t2, i2, f2, 0⟩] sc pos
theorem at_d1_0 : CompAt (C1 kx vx t0 i0 f0 sc pos) 0 t0 i0 f0 (bwD kx vx) := ⟨fun _ _ _ => rfl, fun _ _ _ _ => rfl, fun _ _ _ _ => rfl, fun _ _ _ _ _ => rfl, fun _ _ _ _ _ => rfl, rfl,
  fun h => turn_of (i := i0) (bd := bdD kx vx (C1 kx vx t0 i0 f0 sc pos) 0) (fun _ _ _ => rfl) (fun _ => d_ok) h⟩
theorem at_d3_0 : CompAt (C3 kx vx t0 i0 t1 i1 t2 i2 f0 f1 f2 sc pos) 0 t0 i0 f0 (bwNext (C3 kx vx t0 i0 t1 i1 t2 i2 f0 f1 f2 sc pos) 1 i1) := ⟨fun _ _ _ => rfl, fun _ _ _ _ => rfl, fun _ _ _ _ => rfl, fun _ _ _ _ _ => rfl, fun _ _ _ _ _ => rfl, rfl,
  fun h => turn_of (i := i0) (bd := bdNext (C3 kx vx t0 i0 t1 i1 t2 i2 f0 f1 f2 sc pos) 1 i1 0) (fun _ _ _ => rfl) (fun _ => next_ok) h⟩
theorem at_d3_1 : CompAt (C3 kx vx t0 i0 t1 i1 t2 i2 f0 f1 f2 sc pos) 1 t1 i1 f1 (bwNext (C3 kx vx t0 i0 t1 i1 t2 i2 f0 f1 f2 sc pos) 2 i2) := ⟨fun _ _ _ => rfl, fun _ _ _ _ => rfl, fun _ _ _ _ => rfl, fun _ _ _ _ _ => rfl, fun _ _ _ _ _ => rfl, rfl,
  fun h => turn_of (i := i1) (bd := bdNext (C3 kx vx t0 i0 t1 i1 t2 i2 f0 f1 f2 sc pos) 2 i2 1) (fun _ _ _ => rfl) (fun _ => next_ok) h⟩
theorem at_d3_2 : CompAt (C3 kx vx t0 i0 t1 i1 t2 i2 f0 f1 f2 sc pos) 2 t2 i2 f2 (bwD kx vx) := ⟨fun _ _ _ => rfl, fun _ _ _ _ => rfl, fun _ _ _ _ => rfl, fun _ _ _ _ _ => rfl, fun _ _ _ _ _ => rfl, rfl,
  fun h => turn_of (i := i2) (bd := bdD kx vx (C3 kx vx t0 i0 t1 i1 t2 i2 f0 f1 f2 sc pos) 2) (fun _ _ _ => rfl) (fun _ => d_ok) h⟩
end
/-! ### the mirror's loops -/
noncomputable def lcL (src : Option Nat) (c0 : Option Cell) (g : MG) (t : MT) (mb : Env' → Sto → R Unit) : List U → Env' → Sto → R Unit
  | [], _, S => .ok () S
  | u :: us, ρ, S => match g u ρ with
    | none => .er
    | some ρ1 => (noEx (t ρ1 S)).bind fun b S1 => if b = true then (noEx (mb ρ1 S1)).bind fun _ S2 => if srcOk src c0 S2 then lcL src c0 g t mb us ρ S2 else .er
      else if srcOk src c0 S1 then lcL src c0 g t mb us ρ S1 else .er
/-- a further clause -/
noncomputable def cNext (ws : List Nat) (mi : MI) (g : MG) (t : MT) (mb : Env' → Sto → R Unit) : Env' → Sto → R Unit := fun ρ S => (noEx (mi ρ S)).bind fun iv S1 => lcL iv.src (iv.src.bind fun n => S1[n]?) g t mb iv.items (wipeE ρ ws) S1
/-- the item of a list -/
def cItem (n : Nat) (e : ME) : Env' → Sto → R Unit := fun ρ S => (noEx (e ρ S)).bind fun y S1 => match S1[n]? with
  | some (.lst acc) => if acc.length < 100000 then .ok () (S1.set n (.lst (acc ++ [y]))) else .er
  | _ => .er
/-- what the rest of a turn does: the new object is the cell n -/
def BodyOk (Y : Cx) (cl : Nat → Addr) (bw : BW) (ws : List Nat) (n : Nat) (D : Addr) (m : Env' → Sto → R Unit) : Prop :=
  ∀ (pins : List (Addr × Obj)) (s : Shared) (σ : L2.St) (H : Hp) (ι : List Addr) (F : Addr → Prop) (S S' : Sto) (ρ : Env') (K : Shared → Prop) (E : Value → Shared → Prop), Inv Y pins σ H s → Rel (bx Y cl) ι F S H → REnv (bx Y cl) ι F H σ ρ → ι[n]? = some D → m ρ S = .ok () S' →
    (∀ s' ι' F' H', Inv Y pins (wipe σ ws) H' s' → Evo ι F H ι' F' H' → Rel (bx Y cl) ι' F' S' H' → K s') → bw Y.prog Y.w Y.A E (.ref D) Y.env K s
theorem noEx_eq {α : Type} {r : R α} {a : α} {S : Sto} (h : noEx r = .ok a S) : r = .ok a S := by
  cases r <;> first | exact h | cases h
theorem bind_okE {α β : Type} {r : R α} {k : α → Sto → R β} {b : β} {S' : Sto} (h : (noEx r).bind k = .ok b S') : ∃ a S, r = .ok a S ∧ k a S = .ok b S' := by
  cases r with
  | ok a S => exact ⟨a, S, rfl, h⟩
  | ex c fs S => cases h
  | er => cases h
section
variable {Y : Cx} {cl : Nat → Addr} {e t i : Expr} {ifs : List Expr} {bw : BW} {d n : Nat} {D : Addr} {ws ws1 js : List Nat} {g : MG} {tm : MT} {mb : Env' → Sto → R Unit}
theorem body_item {elt : Expr} {me : ME} (he : QE Y cl W0 elt me) (hx : ∀ a s, ¬ Y.xe a s) : BodyOk Y cl (bwL elt) [] n D (cItem n me) := by
  intro pins s σ H ι F S S' ρ K E I r en hD hm hK
  obtain ⟨y, S1, q1, q2⟩ := bind_okE hm
  refine wpAny_mono (he.run pins s σ H (fun v H1 => ∃ ι1 F1, Evo ι F H ι1 F1 H1 ∧ Rel (bx Y cl) ι1 F1 S1 H1 ∧ RepU (bx Y cl) ι1 F1 H1 v y) I ⟨ι, F, S, ρ, r, en, ?_⟩) (fun v s1 ⟨x, H1, I1, rx, ι1, F1, e1, r1, z1⟩ => ?_) fun _ _ z => (hx _ _ z).elim
  · rw [q1]
    exact fun v ι' F' H' e' r' z' => ⟨ι', F', e', r', z'⟩
  · have hD1 := e1.pre _ _ hD
    cases qc : S1[n]? with
    | none => rw [qc] at q2; cases q2
    | some c =>
      rw [qc] at q2
      cases c with
      | lst acc =>
        simp only at q2
        split at q2
        · rename_i hl
          cases q2
          obtain ⟨vs, ha, zz⟩ := r1.ok _ _ _ hD1 qc
          obtain ⟨r2, e2⟩ := r1.setL hD1 qc ha (paired_append zz (.cons z1 .nil))
          exact app_ok I1 ha (szl (by rw [paired_len zz]; exact hl)) rx fun s2 I2 => hK s2 _ _ _ I2 (e1.trans e2) r2
        · cases q2
      | _ => cases q2
/-- the turns of a clause -/
theorem loop_ok {it : Addr} {fp : List Addr} {tn : Nat → Heap → Prop} {J : It} {iv : IterV} {pins : List (Addr × Obj)} {s : Shared} {σ : L2.St} {H : Hp} {ι ι0 : List Addr} {F F0 : Addr → Prop} {S S0 S' : Sto} {H0 : Hp} {ρ : Env'} {Q : Hp → Prop}
    (C : CompAt e d t i ifs bw) (hc : Y.calm = true) (hx : ∀ a s, ¬ Y.xe a s) (pg : QG Y cl t js g) (pt : QTs Y cl W0 ifs tm) (hb : BodyOk Y cl bw ws1 n D mb) (hj : ∀ j ∈ js, j ∈ ws) (hw : ∀ j ∈ ws1, j ∈ ws)
    (T : Turn Y.prog Y.w Y.K t J fp it tn) (I : Inv Y pins (wipe σ ws) H s) (st : tn 0 s.heap) (hfp : ∀ b ∈ fp, FpOk Y pins H b) (r : Rel (bx Y cl) ι F S H) (en : REnv (bx Y cl) ι F H σ ρ) (hD : ι[n]? = some D)
    (e0 : Evo ι0 F0 H0 ι F H) (wk : Walk (bx Y cl) J iv S0 ι0 F0 H0) (so : srcOk iv.src (iv.src.bind fun n => S0[n]?) S) (hm : lcL iv.src (iv.src.bind fun n => S0[n]?) g tm mb iv.items (wipeE ρ ws) S = .ok () S')
    (hQ : ∀ ι' F' H', Evo ι F H ι' F' H' → Rel (bx Y cl) ι' F' S' H' → Q H') :
    codeAny (model Y.prog Y.w) Y.A (.compLoop e d (.ref it) (.ref D) Y.env) (fun r s' => match r with
      | .ok f => f = .next ∧ ∃ H', Inv Y pins (wipe σ ws) H' s' ∧ Q H'
      | .error _ => False) s := by
  have fpk : ∀ {H' : Hp}, (∀ b ∈ fp, H' b = none) → ∀ b ∈ fp, FpOk Y pins H' b := fun hn b hb => ⟨hn b hb, (hfp b hb).2⟩
  refine codeAny_loop (C.qt _ _ _) (fun k s' => ∃ (i : Nat) (H' : Hp) (ι1 : List Addr) (F1 : Addr → Prop) (S1 : Sto), k = iv.items.length - i ∧ i ≤ iv.items.length ∧ Inv Y pins (wipe σ ws) H' s' ∧ tn i s'.heap ∧ (∀ b ∈ fp, H' b = none) ∧ Evo ι F H ι1 F1 H' ∧ Rel (bx Y cl) ι1 F1 S1 H' ∧
    srcOk iv.src (iv.src.bind fun n => S0[n]?) S1 ∧ lcL iv.src (iv.src.bind fun n => S0[n]?) g tm mb (iv.items.drop i) (wipeE ρ ws) S1 = .ok () S') (fun k s1 hk => ?_) iv.items.length ⟨0, H, ι, F, S, by simp, by simp, I, st, fun b hb => (hfp b hb).1, Evo.refl, r, so, by simpa using hm⟩
  rw [C.uL, C.dL]
  refine wpAny_noted (C.turn ?_)
  obtain ⟨i, H1, ι1, F1, S1, rfl, hi, I1, st1, n1, e1, r1, so1, hm1⟩ := hk
  have so' : ∀ n, iv.src = some n → S1[n]? = S0[n]? := fun n hn => by
    unfold srcOk at so1
    rw [hn] at so1
    simpa [hn] using so1
  obtain ⟨w1, w2⟩ := wk i ι1 F1 S1 H1 (e0.trans e1) r1 so'
  by_cases hlt : i < iv.items.length
  · obtain ⟨go, yl⟩ := w1 hlt
    refine thnF (T.item Y rfl rfl rfl hc i pins s1 _ H1 (fun _ _ => False) I1 (fpk n1) st1 go) fun r s2 ⟨u, hr, h2⟩ => ?_
    subst hr
    refine thnF h2 fun _ s3 ⟨x, H3, I3, r3, y3, st3, n3⟩ => ?_
    obtain ⟨e4, r4, z4⟩ := yl x H3 y3
    have hd : iv.items.drop i = iv.items[i] :: iv.items.drop (i + 1) := List.drop_eq_getElem_cons hlt
    rw [hd] at hm1
    unfold lcL at hm1
    cases qg : g iv.items[i] (wipeE ρ ws) with
    | none => rw [qg] at hm1; cases hm1
    | some ρ1 =>
      rw [qg] at hm1
      simp only at hm1
      have I3' := I3.pinned (fpk n3) (T.obj _ _ st3)
      have en3 : REnv (bx Y cl) ι1 F1 H3 (wipe σ ws) (wipeE ρ ws) := wipe_env ((en.mono e1).mono e4) ws
      refine wpAny_mono (pg.run _ s3 _ H3 x u (fun σ' H' => H' = H3 ∧ REnv (bx Y cl) ι1 F1 H3 σ' ρ1 ∧ wipe σ' ws = wipe σ ws) I3' r3 ⟨ι1, F1, S1, wipeE ρ ws, iv.items[i], ρ1, r4, en3, z4 _ (by simp [hlt]), qg, fun σ' en' k' l' => ⟨rfl, en', wipe_eq (by rw [l', wipe_length]) hj k'⟩⟩) (fun _ s5 ⟨σ5, H5, I5, hH, en5, hw5⟩ => ?_) fun _ _ z => (hx _ _ z).elim
      subst hH
      obtain ⟨b, S6, q6, hm2⟩ := bind_okE hm1
      refine wpAny_mono (pt.run _ s5 σ5 H5 (fun b' H' => b' = b ∧ ∃ ι6 F6, Evo ι1 F1 H5 ι6 F6 H' ∧ Rel (bx Y cl) ι6 F6 S6 H') I5 ⟨ι1, F1, S1, ρ1, r4, en5, ?_⟩) (fun b' s6 ⟨H6, I6, hb', ι6, F6, e6, r6⟩ => ?_) fun _ _ z => (hx _ _ z).elim
      · rw [q6]
        exact fun b' ι' F' H' e' r' z' => ⟨z', ι', F', e', r'⟩
      subst hb'
      have hl5 : (wipe σ ws).length = σ5.length := by rw [← hw5, wipe_length]
      -- the turn's end
      have fin : ∀ {σ7 : L2.St} {s' : Shared} {H' : Hp} {ι' : List Addr} {F' : Addr → Prop} {S2 : Sto}, Inv Y (pins ++ pinsAt fp s3.heap) σ7 H' s' → (wipe σ ws).length = σ7.length → (∀ (j : Nat) v, (wipe σ ws)[j]? = some (some v) → σ7[j]? = some (some v)) → Evo ι1 F1 H5 ι' F' H' → Rel (bx Y cl) ι' F' S2 H' → srcOk iv.src (iv.src.bind fun n => S0[n]?) S2 →
          lcL iv.src (iv.src.bind fun n => S0[n]?) g tm mb (iv.items.drop (i + 1)) (wipeE ρ ws) S2 = .ok () S' → ∃ m, m < iv.items.length - i ∧ ∃ (i : Nat) (H' : Hp) (ι1 : List Addr) (F1 : Addr → Prop) (S1 : Sto), m = iv.items.length - i ∧ i ≤ iv.items.length ∧ Inv Y pins (wipe σ ws) H' s' ∧ tn i s'.heap ∧ (∀ b ∈ fp, H' b = none) ∧ Evo ι F H ι1 F1 H' ∧ Rel (bx Y cl) ι1 F1 S1 H' ∧
            srcOk iv.src (iv.src.bind fun n => S0[n]?) S1 ∧ lcL iv.src (iv.src.bind fun n => S0[n]?) g tm mb (iv.items.drop i) (wipeE ρ ws) S1 = .ok () S' := fun {σ7 s' H' ι' F' S2} I' hl hk e' r' so2 hm' => by
        have pin' : ∀ b ∈ fp, ∀ o, s3.heap.get? b = some o → s'.heap.get? b = some o ∧ H' b = none := fun b hb o eo =>
          let z := I'.pin (b, o) (List.mem_append_right _ (List.mem_append_right _ (mem_pinsAt hb eo)))
          ⟨z.1, z.2.1⟩
        refine ⟨iv.items.length - (i + 1), by omega, i + 1, H', ι', F', S2, rfl, hlt, I'.unpinned.weak hl hk, T.keep _ _ _ st3 fun b hb o eo => (pin' b hb o eo).1, fun b hb => ?_, (e1.trans e4).trans e', r', so2, hm'⟩
        obtain ⟨o, eo, _⟩ := T.obj _ _ st3 b hb
        exact (pin' b hb o eo).2
      have hk5 : ∀ (j : Nat) v, (wipe σ ws)[j]? = some (some v) → σ5[j]? = some (some v) := fun j v ev => by
        rw [← hw5] at ev
        exact (wipe_some ev).1
      cases b' with
      | false =>
        simp only [Bool.false_eq_true, if_false] at hm2 ⊢
        split at hm2
        · rename_i hs
          exact ⟨trivial, fin I6 hl5 hk5 e6 r6 hs hm2⟩
        · cases hm2
      | true =>
        simp only [if_true] at hm2 ⊢
        obtain ⟨_, S7, q7, hm3⟩ := bind_okE hm2
        split at hm3
        · rename_i hs
          have hD6 : ι6[n]? = some D := e6.pre _ _ (e4.pre _ _ (e1.pre _ _ hD))
          refine hb _ s6 σ5 H6 ι6 F6 S6 S7 ρ1 _ _ I6 r6 (en5.mono e6) hD6 q7 fun s8 ι8 F8 H8 I8 e8 r8 => ⟨trivial, fin I8 (hl5.trans (wipe_length _ _).symm) (fun j v ev => ?_) (e6.trans e8) r8 hs hm3⟩
          rw [← hw5] at ev
          obtain ⟨a1, a2⟩ := wipe_some ev
          rw [wipe_get fun z => a2 (hw j z)]
          exact a1
        · cases hm3
  · have hd : iv.items.drop i = [] := List.drop_eq_nil_of_le (by omega)
    rw [hd] at hm1
    cases hm1
    refine thnF (T.done Y rfl rfl rfl hc i pins s1 _ H1 (fun _ _ => False) I1 (fpk n1) st1 (w2 (by omega))) fun r s2 ⟨hr, I2⟩ => ?_
    subst hr
    exact ⟨rfl, H1, I2, hQ _ _ _ e1 r1⟩
end
end Pu
/-! Pu: comprehensions of several clauses: the item of a dict, further clauses, the whole. -/
namespace Pu
open PySem PySem.Spec L2
open PyProof.Rows hiding St
theorem kroom0 {A : Around} (hu : A.units + 20 < cLine) (P : Program) (w : World) : (nestedKind P w).room A := by
  have := kroom (A := A) hu P w
  first
    | exact this
    | (show _ < _; omega)
    | (unfold nestedKind; simp only; omega)
/-- a dict's cell is written -/
theorem dic_write {X : Cx} {cl : Nat → Addr} {pins : List (Addr × Obj)} {σ : L2.St} {H : Hp} {s : Shared} {ι : List Addr} {F : Addr → Prop} {S : Sto} {n : Nat} {a kb : Addr} {kvs : List (D × U)} {es : List Ent} {ks : List D} {v : U} {vv : V} {vu : Value} {nk : NestedKey} {h' : Heap} {t' : Nat}
    (I : Inv X pins σ H s) (rl : Rel (bx X cl) ι F S H) (hn : ι[n]? = some a) (q : S[n]? = some (.dic kvs)) (ha : H a = some (dicO X.prog X.w a es)) (rk : RepKU (bx X cl) ι F H es kvs) (hs : (a == sysModules) = false) (ek : nkey (.tup ks) = some nk) (hd : nk.depth ≤ 8) (rv : RelV vv vu) (zv : RepU (bx X cl) ι F H vv v) (zk : Rep (bx X cl) F H (.ref kb) (.tup ks)) (hl : es.length < 100000)
    (hm' : h'.DictOfH (nestedKind X.prog X.w) a (storedH es nk kb vu)) (sb : Heap.SameBut a s.heap h') :
    ∃ H', Inv X pins σ H' { s with heap := h', toks := t' } ∧ Evo ι F H ι F H' ∧ Rel (bx X cl) ι F (S.set n (.dic (dput kvs (.tup ks) v))) H' := by
  have nf := rl.nf n a _ hn q rfl
  have e0 : Evo ι F H ι F (upd H a (dicO X.prog X.w a (storedH es nk kb vu))) := by
    refine ⟨fun _ _ h => h, fun _ h => h, fun b u f h _ => ?_, fun b xs h => ?_, fun b h => ?_, fun b p u h => by rw [upd_ne (fun z : b = a => by rw [z, ha] at h; cases h)]; exact h, fun b φ f h => rd_ne (fun z : b = a => nf (by rw [← z]; exact f)) h⟩
    · rw [upd_ne (fun z : b = a => nf (by rw [← z]; exact f))]; exact h
    · rw [upd_ne (fun z : b = a => by rw [z, ha] at h; cases h)]; exact h
    · by_cases hb : b = a
      · rw [hb, upd_same]; simp
      · rw [upd_ne hb]; exact h
  have rk' := put_ok (b := kb) ek hd rv zv zk rk
  obtain ⟨r2, e2⟩ := rl.write (o := dicO X.prog X.w a (storedH es nk kb vu)) (c' := .dic (dput kvs (.tup ks) v)) hn q rfl (fun xs z => by rw [ha] at z; cases z) nofun (fun p u z => by rw [ha] at z; cases z)
    ⟨storedH es nk kb vu, upd_same, Nat.le_trans (stored_len _ _ _ _) (sz (by omega)), rk'.mono e0⟩
  obtain ⟨o', es', ep', g1, g2, g3, g4, g5, g6⟩ := hm'
  refine ⟨_, I.write (x := a) (e := a) (o := dicO X.prog X.w a (storedH es nk kb vu)) (by rw [ha]; trivial) (.inl rfl) (fun b u hb eb => (sb.2 b hb).trans eb) ⟨o', g1⟩ ?_, e2, r2⟩
  exact ⟨⟨o', es', ep', g1, g2, g3, g4, g6, hs⟩, ⟨o', g1⟩, raw_keep⟩
/-- the item of a dict -/
noncomputable def cKey (n : Nat) (k e : ME) : Env' → Sto → R Unit := fun ρ S => (noEx (k ρ S)).bind fun x S1 => (noEx (e ρ S1)).bind fun y S2 => match x with
  | .v (.tup ks) => (match S2[n]? with
    | some (.dic kvs) => if isKey (.tup ks) = true ∧ kvs.length < 100000 then .ok () (S2.set n (.dic (dput kvs (.tup ks) y))) else .er
    | _ => .er)
  | _ => .er
section
variable {Y : Cx} {cl : Nat → Addr} {e t i : Expr} {ifs : List Expr} {bw : BW} {d n : Nat} {D : Addr} {ws ws1 js : List Nat} {g : MG} {tm : MT} {mb : Env' → Sto → R Unit}
theorem body_key {kx vx : Expr} {mk me : ME} (hk : QE Y cl W0 kx mk) (he : QE Y cl W0 vx me) (hu : Y.A.units + 20 < cLine) (hx : ∀ a s, ¬ Y.xe a s) : BodyOk Y cl (bwD kx vx) [] n D (cKey n mk me) := by
  intro pins s σ H ι F S S' ρ K E I r en hD hm hK
  obtain ⟨x, S1, q1, q2⟩ := bind_okE hm
  obtain ⟨y, S2, q3, q4⟩ := bind_okE q2
  refine ⟨D, rfl, wpAny_mono (hk.run pins s σ H (fun v H1 => ∃ ι1 F1, Evo ι F H ι1 F1 H1 ∧ Rel (bx Y cl) ι1 F1 S1 H1 ∧ RepU (bx Y cl) ι1 F1 H1 v x) I ⟨ι, F, S, ρ, r, en, ?_⟩) (fun v s1 ⟨xv, H1, I1, rx, ι1, F1, e1, r1, z1⟩ => ?_) fun _ _ z => (hx _ _ z).elim⟩
  · rw [q1]
    exact fun v ι' F' H' e' r' z' => ⟨ι', F', e', r', z'⟩
  refine wpAny_mono (he.run pins s1 σ H1 (fun v H2 => ∃ ι2 F2, Evo ι1 F1 H1 ι2 F2 H2 ∧ Rel (bx Y cl) ι2 F2 S2 H2 ∧ RepU (bx Y cl) ι2 F2 H2 v y) I1 ⟨ι1, F1, S1, ρ, r1, en.mono e1, ?_⟩) (fun v2 s2 ⟨yv, H2, I2, ry, ι2, F2, e2, r2, z2⟩ => ?_) fun _ _ z => (hx _ _ z).elim
  · rw [q3]
    exact fun v ι' F' H' e' r' z' => ⟨ι', F', e', r', z'⟩
  split at q4
  · rename_i ks
    have hD2 := e2.pre _ _ (e1.pre _ _ hD)
    cases qc : S2[n]? with
    | none => rw [qc] at q4; cases q4
    | some c =>
      rw [qc] at q4
      cases c with
      | dic kvs =>
        simp only at q4
        split at q4
        · rename_i hkk
          cases q4
          obtain ⟨nk, ek, dd⟩ := nkey_of hkk.1
          obtain ⟨kb, rfl, zk⟩ := repu_tup (z1.mono e2)
          obtain rfl : v = Value.ref kb := rx
          obtain ⟨es, ha, hz, rk⟩ := r2.ok n D _ hD2 qc
          obtain ⟨hd, hs⟩ := dic_h I2 (.inl ha) rk
          have hl : es.length < 100000 := by rw [paired_len rk]; exact hkk.2
          refine wpAny_dictSet_heap (hsz := sz (by omega)) (kroom0 hu _ _) ⟨rep_key (u := .ref kb) I2 zk rfl ek, dd⟩ hd fun h' hm' sb => ?_
          obtain ⟨H3, I3, e3, r3⟩ := dic_write I2 r2 hD2 qc ha rk hs ek dd ry z2 zk hl hm' sb
          exact hK _ _ _ _ I3 ((e1.trans e2).trans e3) r3
        · cases q4
      | _ => cases q4
  · cases q4
/-- the start of a clause -/
theorem start_ok {P : Program} {w : World} {A : Around} {R : Result → Shared → Prop} {s : Shared} {it acc : Value} {env : Env} (C : CompAt e d t i ifs bw) (h0 : codeAny (model P w) A (.compLoop e d it acc env) R s)
    (h : wpAny (model P w) A (pyIter it) (fun it' s' => codeAny (model P w) A (.compLoop e d it' acc env) R s') (fun _ _ => False) s) : codeAny (model P w) A (.compStart e d it acc env) R s := by
  refine codeAny_of_tree ?_
  rw [C.uS, C.dS]
  refine wpAny_notedAt ?_
  unfold compStart
  rw [C.cl]
  show wpAny _ _ (ask >>= _) _ _ s
  refine wpAny_bind (wpAny_askSetting (wpAny_ite ?_))
  have hq := C.qt
  split
  · first
      | exact wpAny_bind (wpAny_pure (wpAny_pure ⟨hq _ _ _, h0⟩))
      | exact wpAny_pure ⟨hq _ _ _, h0⟩
  · first
      | exact wpAny_bind (wpAny_rule (wpAny_bind (wpAny_standAt (wpAny_bind (thnF h fun it' s' h' => wpAny_pure ⟨hq _ _ _, h'⟩)))))
      | (refine wpAny_bind (wpAny_rule ?_); show wpAny _ _ (standAt i.pos >>= _) _ _ s; exact wpAny_bind (wpAny_standAt (wpAny_bind (thnF h fun it' s' h' => wpAny_pure ⟨hq _ _ _, h'⟩))))
/-- a further clause -/
theorem body_next {mi : MI} (C : CompAt e d t i ifs bw) (hi : QI Y cl W0 t i mi) (hs : ∀ x, foldedSetIterable i Y.env x = pure x) (hc : Y.calm = true) (hx : ∀ a s, ¬ Y.xe a s) (pg : QG Y cl t js g) (pt : QTs Y cl W0 ifs tm) (hb : BodyOk Y cl bw ws1 n D mb) (hj : ∀ j ∈ js, j ∈ ws) (hw : ∀ j ∈ ws1, j ∈ ws) :
    BodyOk Y cl (bwNext e d i) ws n D (cNext ws mi g tm mb) := by
  intro pins s σ H ι F S S' ρ K E I r en hD hm hK
  obtain ⟨iv, S1, q1, q2⟩ := bind_okE hm
  refine ⟨hs, wpAny_mono (hi.run pins s σ H (fun J H1 => ∃ ι1 F1, Evo ι F H ι1 F1 H1 ∧ Rel (bx Y cl) ι1 F1 S1 H1 ∧ Walk (bx Y cl) J iv S1 ι1 F1 H1) I ⟨ι, F, S, ρ, r, en, ?_⟩) (fun v s1 h1 => ?_) fun _ _ z => (hx _ _ z).elim⟩
  · rw [q1]
    exact fun J ι' F' H' e' r' w' => ⟨ι', F', e', r', w'⟩
  refine wpAny_mono h1 (fun itv s2 h2 => ?_) fun _ _ z => (hx _ _ z).elim
  obtain ⟨it, fp, tn, J, H2, rfl, I2, T, st2, f2, ι1, F1, e1, r1, wk⟩ := h2
  have I2' : Inv Y pins (wipe σ ws) H2 s2 := I2.weak (wipe_length _ _) fun j v ev => (wipe_some ev).1
  have so : srcOk iv.src (iv.src.bind fun n => S1[n]?) S1 := by
    unfold srcOk; split
    · trivial
    · rename_i k hk; simp [hk]
  have lp := loop_ok (Q := fun H' => ∃ ι' F', Evo ι F H ι' F' H' ∧ Rel (bx Y cl) ι' F' S' H') C hc hx pg pt hb hj hw T I2' st2 f2 r1 (en.mono e1) (e1.pre _ _ hD) Evo.refl wk so q2 (fun ι' F' H' e' r' => ⟨ι', F', e1.trans e', r'⟩)
  refine start_ok C (codeAny_mono lp fun r s3 hr => ?_) (T.self Y.A 0 _ _ _ st2 (codeAny_mono lp fun r s3 hr => ?_))
  all_goals
    cases r with
    | error _ => exact hr
    | ok f =>
      obtain ⟨_, H', I', ι', F', e', r'⟩ := hr
      exact hK s3 ι' F' H' I' e' r'
end
end Pu
/-! Pu: comprehensions of several clauses: the whole. -/
namespace Pu
open PySem PySem.Spec L2
open PyProof.Rows hiding St
/-- how the new object is made -/
structure NewC (X : Cx) (cl : Nat → Addr) (mk : Sem Value) (o0 : Obj) (ho : Addr → HO) (c0 : Cell) : Prop where
  run : ∀ {A : Around} {E : Value → Shared → Prop} {s : Shared} {Q : Value → Shared → Prop}, Q (.ref s.heap.objs.size) { s with heap := s.heap.push o0 } → wpAny (model X.prog X.w) A mk Q E s
  laid : ∀ {pins : List (Addr × Obj)} {σ : L2.St} {H : Hp} {s : Shared}, Inv X pins σ H s → Inv X pins σ (upd H s.heap.objs.size (ho s.heap.objs.size)) { s with heap := s.heap.push o0 }
  own : ∀ D x, ho D ≠ .own x
  cell : ∀ (ι : List Addr) (F : Addr → Prop) (H : Hp) (D : Addr), H D = some (ho D) → CellOk (bx X cl) ι F H D c0
theorem new_list {X : Cx} {cl : Nat → Addr} : NewC X cl (newList []) { cls := .type "list", data := .seq ([] : List Value).toArray } (fun _ => .lst []) (.lst []) where
  run := fun {A E s Q} h => wpAny_newObj_type h (by show 0 ≤ sizeLine; decide)
  laid := fun {pins σ H s} I => I.laid (t' := s.toks) (fun b o e => Heap.get?_push_of_some _ e) (Nat.le_refl _) ⟨Nat.zero_le _, [], 0, .nil, Heap.get?_push_size _ rfl⟩
  own := fun _ _ => nofun
  cell := fun ι F H D h => ⟨[], h, .nil⟩
theorem new_dict {X : Cx} {cl : Nat → Addr} : NewC X cl newDict { cls := .type "dict", data := .dict #[] } (fun D => dicO X.prog X.w D []) (.dic []) where
  run := fun {A E s Q} h => wpAny_newObj_type h
  laid := fun {pins σ H s} I => by
    have raw : DRaw X.prog X.w s.heap.objs.size [] (s.heap.push { cls := .type "dict", data := .dict #[] }) :=
      ⟨_, #[], 0, Heap.get?_push_size _ rfl, ⟨rfl, rfl, rfl⟩, rfl, rfl, List.nodup_nil, beq_eq_false_iff_ne.mpr (Ne.symm (Nat.ne_of_lt I.big))⟩
    exact I.laid (t' := s.toks) (fun b o e => Heap.get?_push_of_some _ e) (Nat.le_refl _) ⟨raw, ⟨_, Heap.get?_push_size _ rfl⟩, raw_keep⟩
  own := fun _ _ => nofun
  cell := fun ι F H D h => ⟨[], h, Nat.zero_le _, .nil⟩
/-- a comprehension: the new cell, the first source, what is made of it at the end -/
noncomputable def cRun (c0 : Cell) (ws : List Nat) (mi : MI) (g : MG) (t : MT) (mb : Nat → Env' → Sto → R Unit) (kf : Sto → Unit → Sto → R U) : ME := fun ρ S => (mi ρ S).bind fun iv S1 =>
  if srcOk iv.src (iv.src.bind fun n => S1[n]?) (S1 ++ [c0]) then (noEx (lcL iv.src (iv.src.bind fun n => S1[n]?) g t (mb S1.length) iv.items (wipeE ρ ws) (S1 ++ [c0]))).bind (kf S1) else .er
section
variable {X : Cx} {cl : Nat → Addr} {W : WX} {e t i : Expr} {ifs : List Expr} {gs : List Comprehension} {bw : BW} {ws1 js : List Nat} {g : MG} {tm : MT} {mb : Nat → Env' → Sto → R Unit} {kf : Sto → Unit → Sto → R U} {mi : MI} {scope : Scope} {own : List (Str × Nat)} {mk : Sem Value} {o0 : Obj} {ho : Addr → HO} {c0 : Cell}
theorem cmp_core {pins : List (Addr × Obj)} {s : Shared} {σ : L2.St} {H : Hp} {Q : VK} {pos' : Pos} {use : Option (Value → Sem Unit)} {Qf : Value → Shared → Prop}
    (hc : X.calm = true) (hN : X.N.Nodup) (I : Inv X pins σ H s) (C : CompAt e 0 t i ifs bw) (hcl : clausesOf e = ⟨t, i, ifs, 0⟩ :: gs) (nw : NewC X cl mk o0 ho c0) (hi : QI X cl W t i mi) (ok : BlkOk X.N X.env.scope scope own) (hg : Blk X scope fun Y => QG Y cl t js g) (ht : Blk X scope fun Y => QTs Y cl W0 ifs tm)
    (hb : ∀ (n : Nat) (D : Addr), Blk X scope fun Y => BodyOk Y cl bw ws1 n D (mb n)) (hj : ∀ j ∈ js, j ∈ own.map (·.2)) (hw : ∀ j ∈ ws1, j ∈ own.map (·.2)) (hs : ∀ x, foldedSetIterable i X.env x = pure x)
    (h : liftE (bx X cl) W (cRun c0 (own.map (·.2)) mi g tm mb kf) σ H Q)
    (hk : ∀ (S1 S' : Sto) (ι1 : List Addr) (F1 : Addr → Prop) (H1 : Hp) (ι' : List Addr) (F' : Addr → Prop) (H' : Hp) (D : Addr), Rel (bx X cl) ι1 F1 S1 H1 → H1 D = none → Evo (ι1 ++ [D]) F1 (upd H1 D (ho D)) ι' F' H' → Rel (bx X cl) ι' F' S' H' →
      Out (bx X cl) W σ ι1 F1 H1 (RepU (bx X cl)) Q (kf S1 () S') → Q (.ref D) H')
    (hRR : ∀ D C s' m H', Inv X pins σ H' s' → Q (.ref D) H' → s'.heap.Ns C m → FpOk X pins H' C → compPost (model X.prog X.w) X.A X.xe use Qf (.ref D) C (.ok .next) s') :
    wpAny (model X.prog X.w) X.A (comprehension e scope X.env pos' mk false (eval i X.env) use) Qf X.xe s := by
  obtain ⟨ι, F, S, ρ, r, en, o⟩ := h
  unfold cRun at o
  have hfree : ∀ y ∈ scope.names, y.2 = .free → ∃ c, X.env.cells.lookup y.1 = some c := fun y hy ev => (ok.free y hy ev).elim (fun k => I.ok.has _ (.inl k)) fun k => I.ok.has _ (.inr k)
  have hq : liftI (bx X cl) W mi σ H (fun J H1 => ∃ iv S1 ι1 F1, Evo ι F H ι1 F1 H1 ∧ Rel (bx X cl) ι1 F1 S1 H1 ∧ Walk (bx X cl) J iv S1 ι1 F1 H1 ∧ Out (bx X cl) W σ ι F H (RepU (bx X cl)) Q (if srcOk iv.src (iv.src.bind fun n => S1[n]?) (S1 ++ [c0]) then (noEx (lcL iv.src (iv.src.bind fun n => S1[n]?) g tm (mb S1.length) iv.items (wipeE ρ (own.map (·.2))) (S1 ++ [c0]))).bind (kf S1) else .er)) := by
    refine ⟨ι, F, S, ρ, r, en, ?_⟩
    cases q : mi ρ S with
    | er => rw [q] at o; exact o
    | ex k fs S1 => rw [q] at o; exact o
    | ok iv S1 =>
      rw [q] at o
      exact fun J ι1 F1 H1 e1 r1 wk => ⟨iv, S1, ι1, F1, e1, r1, wk, o⟩
  refine wpAny_comprehension_free (use := use) hcl hs (closure_ok hfree) ok.kind (fun y hy ev => by rw [ok.uniq y hy, ev]) (thn (hi.run pins s σ H _ I hq) fun xv s1 hx => thn hx fun itv s2 h2 => ?_)
  obtain ⟨it, fp, tn, J, H2, rfl, I2, T, st2, f2, iv, S1, ι1, F1, e1, r1, wk, o1⟩ := h2
  split at o1
  case isFalse => exact o1.elim
  rename_i so0
  refine nw.run (newEnv_comp ?_)
  have hDn : H2 s2.heap.objs.size = none := I2.hok.fresh (Nat.le_refl _)
  have I3 := nw.laid I2
  have sz2 : ∀ b ∈ fp, b < s2.heap.objs.size := fun b hb => by
    obtain ⟨ob, eb, _⟩ := T.obj _ _ st2 b hb
    exact Heap.lt_size eb
  generalize hs3 : ({ s2 with heap := s2.heap.push o0 } : Shared) = s3 at I3
  have h3 : s3.heap = s2.heap.push o0 := by rw [← hs3]
  have e2 : Evo ι1 F1 H2 (ι1 ++ [s2.heap.objs.size]) F1 (upd H2 s2.heap.objs.size (ho s2.heap.objs.size)) := Evo.newS hDn
  have r2 : Rel (bx X cl) (ι1 ++ [s2.heap.objs.size]) F1 (S1 ++ [c0]) (upd H2 s2.heap.objs.size (ho s2.heap.objs.size)) := r1.newS hDn (nw.own _) (nw.cell _ _ _ _ upd_same)
  have f3 : ∀ b ∈ fp, FpOk X pins (upd H2 s2.heap.objs.size (ho s2.heap.objs.size)) b ∧ b < s3.heap.objs.size := fun b hb => by
    have hlt := sz2 b hb
    refine ⟨⟨?_, (f2 b hb).2⟩, by rw [h3, Heap.size_push]; exact Nat.lt_succ_of_lt hlt⟩
    rw [upd_ne (Nat.ne_of_lt hlt)]
    exact (f2 b hb).1
  have st3 : tn 0 s3.heap := T.keep _ _ _ st2 fun b _ ob eb => by rw [h3]; exact Heap.get?_push_of_some _ eb
  have I4 := block_start I3 ok hN f3
  generalize hD : s2.heap.objs.size = D at *
  generalize hcz : cellsFrom (s3.heap.objs.size + 1) scope.names (cloFrom X.env.cells scope.names []) = cz at I4
  have pg := hg s3 (upd H2 D (ho D)) s3.heap.objs.size cz fp
  have pt := ht s3 (upd H2 D (ho D)) s3.heap.objs.size cz fp
  have pb := hb S1.length D s3 (upd H2 D (ho D)) s3.heap.objs.size cz fp
  change codeAny _ _ (.compStart e 0 (.ref it) (.ref D) (compEnvC scope cz s3.heap.objs.size X.env)) (compPost (model X.prog X.w) X.A X.xe use Qf (.ref D) s3.heap.objs.size) { s3 with heap := pushCells (s3.heap.push { cls := .type "dict", data := .dict #[] }) scope.names }
  have nfp : ∀ b ∈ fp, (upd H2 D (ho D)) b = none := fun b hb => (f3 b hb).1.1
  generalize hce : compEnvC scope cz s3.heap.objs.size X.env = ce at I4 pg pt pb ⊢
  have cL : ce.locals = s3.heap.objs.size := by subst hce; rfl
  generalize hH3 : upd H2 D (ho D) = H3 at *
  generalize hs4 : ({ s3 with heap := pushCells (s3.heap.push { cls := .type "dict", data := .dict #[] }) scope.names } : Shared) = s4 at I4 ⊢
  have st4 : tn 0 s4.heap := T.keep _ _ _ st3 fun b _ ob eb => by rw [← hs4]; exact pushCells_keeps _ _ _ _ (Heap.get?_push_of_some _ eb)
  have fpb : ∀ b ∈ fp, FpOk (X.blk s3 H3 scope ce fp) [] H3 b := fun b hb => ⟨nfp b hb, (I4.ok.exf b hb).1, I4.ok.exfs b hb, .inl hb, fun x c ev => (I4.ok.exf b hb).2 x c ev, fun p hp => absurd (show p ∈ ([] : List (Addr × Obj)) ++ [] from hp) (by simp)⟩
  have hDn1 : (ι1 ++ [D])[S1.length]? = some D := by rw [← r1.len]; simp
  cases qm : noEx (lcL iv.src (iv.src.bind fun n => S1[n]?) g tm (mb S1.length) iv.items (wipeE ρ (own.map (·.2))) (S1 ++ [c0])) with
  | er => rw [qm] at o1; exact o1.elim
  | ex k fs S2 => cases hz : lcL iv.src (iv.src.bind fun n => S1[n]?) g tm (mb S1.length) iv.items (wipeE ρ (own.map (·.2))) (S1 ++ [c0]) <;> rw [hz] at qm <;> cases qm
  | ok un S2 =>
    rw [qm] at o1
    have o2 := Out.shift e1 (show Out (bx X cl) W σ ι F H (RepU (bx X cl)) Q (kf S1 () S2) from o1)
    have lp := loop_ok (Y := X.blk s3 H3 scope ce fp) (Q := fun H' => ∃ ι' F', Evo (ι1 ++ [D]) F1 H3 ι' F' H' ∧ Rel (bx X cl) ι' F' S2 H') C hc (fun _ _ z => z) pg pt pb hj hw T I4 st4 fpb r2 (en.mono (e1.trans e2)) hDn1 e2 wk so0 (noEx_eq qm) (fun ι' F' H' e' r' => ⟨ι', F', e', r'⟩)
    have lp2 : codeAny (model X.prog X.w) X.A (.compLoop e 0 (.ref it) (.ref D) ce) (compPost (model X.prog X.w) X.A X.xe use Qf (.ref D) s3.heap.objs.size) s4 := by
      refine codeAny_mono lp fun rr s5 hr => ?_
      cases rr with
      | error _ => exact hr.elim
      | ok f =>
        obtain ⟨rfl, H5, I5, ι5, F5, e5, r5⟩ := hr
        have I7 : Inv X pins σ H5 s5 := I3.call' (ch := fp) I5.os I5.base I5.hok I5.bare fun b hb => ⟨(f3 b hb).1.2.2.2.1, (f3 b hb).1.2.1, (f3 b hb).1.2.2.2.2.1, (f3 b hb).1.2.2.2.2.2⟩
        have nC : H5 s3.heap.objs.size = none := by
          have z : H5 ce.locals = none := I5.free
          rw [cL] at z
          exact z
        obtain ⟨m, hn, _⟩ := I5.loc
        have hn : s5.heap.Ns ce.locals m := hn
        rw [cL] at hn
        refine hRR D s3.heap.objs.size s5 m H5 I7 (hk S1 S2 ι1 F1 H2 ι5 F5 H5 D r1 hDn ?_ r5 o2) hn (I3.fpOk (Nat.le_refl _) nC)
        rw [hH3]; exact e5
    exact start_ok C lp2 (T.self X.A 0 _ _ _ st4 lp2)
end
end Pu
/-! Pu: comprehensions of two and three clauses, of dicts: the rules. -/
namespace Pu
open PySem PySem.Spec L2
open PyProof.Rows hiding St
def kS (S1 : Sto) (_ : Unit) (S2 : Sto) : R U := .ok (.r S1.length) S2
noncomputable def eL2 (kf : Sto → Unit → Sto → R U) (ws ws1 : List Nat) (mi : MI) (g : MG) (t : MT) (mi1 : MI) (g1 : MG) (t1 : MT) (e : ME) : ME := cRun (.lst []) ws mi g t (fun n => cNext ws1 mi1 g1 t1 (cItem n e)) kf
noncomputable def eL3 (kf : Sto → Unit → Sto → R U) (ws ws1 ws2 : List Nat) (mi : MI) (g : MG) (t : MT) (mi1 : MI) (g1 : MG) (t1 : MT) (mi2 : MI) (g2 : MG) (t2 : MT) (e : ME) : ME := cRun (.lst []) ws mi g t (fun n => cNext ws1 mi1 g1 t1 (cNext ws2 mi2 g2 t2 (cItem n e))) kf
noncomputable def eD1 (ws : List Nat) (mi : MI) (g : MG) (t : MT) (k e : ME) : ME := cRun (.dic []) ws mi g t (fun n => cKey n k e) kS
noncomputable def eD3 (ws ws1 ws2 : List Nat) (mi : MI) (g : MG) (t : MT) (mi1 : MI) (g1 : MG) (t1 : MT) (mi2 : MI) (g2 : MG) (t2 : MT) (k e : ME) : ME := cRun (.dic []) ws mi g t (fun n => cNext ws1 mi1 g1 t1 (cNext ws2 mi2 g2 t2 (cKey n k e))) kS
section
variable {X : Cx} {cl : Nat → Addr} {W : WX}
/-- what is made of the cell at the end -/
def KfOk (X : Cx) (cl : Nat → Addr) (W : WX) (ho : Addr → HO) (kf : Sto → Unit → Sto → R U) : Prop := ∀ (σ : L2.St) (Q : VK) (S1 S' : Sto) (ι1 : List Addr) (F1 : Addr → Prop) (H1 : Hp) (ι' : List Addr) (F' : Addr → Prop) (H' : Hp) (D : Addr), Rel (bx X cl) ι1 F1 S1 H1 → H1 D = none → Evo (ι1 ++ [D]) F1 (upd H1 D (ho D)) ι' F' H' → Rel (bx X cl) ι' F' S' H' →
      Out (bx X cl) W σ ι1 F1 H1 (RepU (bx X cl)) Q (kf S1 () S') → Q (.ref D) H'
theorem kf_S {ho : Addr → HO} : KfOk X cl W ho kS := fun σ Q S1 S' ι1 F1 H1 ι' F' H' D r1 hD e r o => o (.ref D) ι' F' H' ((Evo.newS hD).trans e) r (.r (e.pre _ _ (by rw [← r1.len]; simp)))
theorem kf_V : KfOk X cl W (fun _ => .lst []) kfV := fun σ Q S1 S' ι1 F1 H1 ι' F' H' D r1 hD e r o => lc_endV S1 S' ι1 F1 H1 ι' F' H' D r1 hD e r o
variable {e t i : Expr} {ifs : List Expr} {gs : List Comprehension} {bw : BW} {ws1 js : List Nat} {g : MG} {tm : MT} {mb : Nat → Env' → Sto → R Unit} {kf : Sto → Unit → Sto → R U} {mi : MI} {scope : Scope} {own : List (Str × Nat)} {mk : Sem Value} {o0 : Obj} {ho : Addr → HO} {c0 : Cell} {pos' py spos : Pos} {k : Nat} {y : Str}
theorem qe_cmpN (hc : X.calm = true) (hN : X.N.Nodup) (C : CompAt e 0 t i ifs bw) (hcl : clausesOf e = ⟨t, i, ifs, 0⟩ :: gs) (nw : NewC X cl mk o0 ho c0) (hev : eval e X.env = comprehension e scope X.env pos' mk false (eval i X.env) none) (hi : QI X cl W t i mi) (ok : BlkOk X.N X.env.scope scope own) (hg : Blk X scope fun Y => QG Y cl t js g) (ht : Blk X scope fun Y => QTs Y cl W0 ifs tm)
    (hb : ∀ (n : Nat) (D : Addr), Blk X scope fun Y => BodyOk Y cl bw ws1 n D (mb n)) (hj : ∀ j ∈ js, j ∈ own.map (·.2)) (hw : ∀ j ∈ ws1, j ∈ own.map (·.2)) (hs : ∀ x, foldedSetIterable i X.env x = pure x) (hk : KfOk X cl W ho kf) : QE X cl W e (cRun c0 (own.map (·.2)) mi g tm mb kf) := by
  refine ⟨fun pins s σ H Q I h => ?_⟩
  rw [hev]
  refine cmp_core hc hN I C hcl nw hi ok hg ht hb hj hw hs h (hk σ Q) fun D C s' m H' I' q hn f => ⟨m, hn, fun h'' sb => ?_⟩
  obtain ⟨f0, f1, f2, f3, f4, f5⟩ := f
  exact ⟨.ref D, H', I'.turned (t' := s'.toks) (fun b ob hb eb => (sb.2 b hb).trans eb) f0 f1 f3 f4 f5, rfl, q⟩
/-- name = the comprehension, on one line -/
theorem qs_setCmp (hc : X.calm = true) (hN : X.N.Nodup) (hy : X.N[k]? = some y) (hyl : X.env.scope.names.lookup y = some .local) (hsw : swapsWith e (some (.Name y py)) spos.line X.env = pure true) (C : CompAt e 0 t i ifs bw) (hcl : clausesOf e = ⟨t, i, ifs, 0⟩ :: gs) (nw : NewC X cl mk o0 ho c0)
    (hex : ∀ u : Value → Sem Unit, evalThenUse e X.env u = (do let _ ← comprehension e scope X.env pos' mk false (eval i X.env) (some u))) (hi : QI X cl W t i mi) (ok : BlkOk X.N X.env.scope scope own) (hg : Blk X scope fun Y => QG Y cl t js g) (ht : Blk X scope fun Y => QTs Y cl W0 ifs tm)
    (hb : ∀ (n : Nat) (D : Addr), Blk X scope fun Y => BodyOk Y cl bw ws1 n D (mb n)) (hj : ∀ j ∈ js, j ∈ own.map (·.2)) (hw : ∀ j ∈ ws1, j ∈ own.map (·.2)) (hs : ∀ x, foldedSetIterable i X.env x = pure x) (hk : KfOk X cl W ho kf) : QS X cl W (.Assign [.Name y py] e spos) (sAsg (cRun c0 (own.map (·.2)) mi g tm mb kf) (gName k)) := by
  refine ⟨fun pins s σ H D I h => ?_⟩
  rw [exec_Assign_Name_used _ _ _ _ hsw]
  refine wpAny_bind (wpAny_standAt (wpAny_bind ?_))
  rw [hex]
  have h2 := asg_lift h
  refine wpAny_bind (thn (cmp_core (Qf := fun _ s' => SP X pins D .next s') hc hN I C hcl nw hi ok hg ht hb hj hw hs h2 (hk σ _) fun L C s' m H' I' q hn f => ?_) fun _ s' hq => wpAny_pure (wpAny_pure hq))
  change wpAny _ _ (assign (.Name y py) X.env (.ref L)) _ _ _
  refine wpAny_assign_Name (store_ok2 (v := V.ref L) I' hN hy (.inl hyl) rfl (fun s2 I2 ⟨a, sb, ha⟩ => ?_) (.inr hyl))
  obtain ⟨f0, f1, f2, f3, f4, f5⟩ := f
  have haC : C ≠ a := ha.elim (fun z => by rw [z]; exact f1) fun z ee => f4 y a z ee.symm
  exact ⟨m, hn.sameBut sb haC, fun h3 sb3 => ⟨_, H', I2.turned (t' := s2.toks) (fun b ob hb eb => (sb3.2 b hb).trans eb) f0 f1 f3 f4 f5, q⟩⟩
variable {elt kx vx t0 i0 t1 i1 t2 i2 : Expr} {f0 f1 f2 : List Expr} {pos : Pos} {ws2 js1 js2 : List Nat} {g1 g2 : MG} {tm1 tm2 : MT} {mi1 mi2 : MI} {me mk0 : ME}
theorem blk_xe (X : Cx) (s : Shared) (H : Hp) (sc : Scope) (ce : Env) (fp : List Addr) : ∀ a z, ¬ (X.blk s H sc ce fp).xe a z := fun _ _ z => z
theorem qe_l2 (kf : Sto → Unit → Sto → R U) (hk : KfOk X cl W (fun _ => .lst []) kf) (hc : X.calm = true) (hN : X.N.Nodup) (ws1 : List Nat) (hi : QI X cl W t0 i0 mi) (ok : BlkOk X.N X.env.scope scope own) (hg : Blk X scope fun Y => QG Y cl t0 js g) (ht : Blk X scope fun Y => QTs Y cl W0 f0 tm)
    (hi1 : Blk X scope fun Y => QI Y cl W0 t1 i1 mi1) (hg1 : Blk X scope fun Y => QG Y cl t1 js1 g1) (ht1 : Blk X scope fun Y => QTs Y cl W0 f1 tm1) (he : Blk X scope fun Y => QE Y cl W0 elt me) (hj : (∀ j ∈ js, j ∈ own.map (·.2)) ∧ (∀ j ∈ ws1, j ∈ own.map (·.2)) ∧ ∀ j ∈ js1, j ∈ ws1)
    (hs : ∀ x, foldedSetIterable i0 X.env x = pure x := by intro _; rfl) (hs1 : ∀ env x, foldedSetIterable i1 env x = pure x := by intro _ _; rfl) : QE X cl W (L2' elt t0 i0 t1 i1 f0 f1 scope pos) (eL2 kf (own.map (·.2)) ws1 mi g tm mi1 g1 tm1 me) :=
  qe_cmpN hc hN at_l2_0 rfl new_list rfl hi ok hg ht (fun n D s H C cz fp => body_next at_l2_1 (hi1 s H C cz fp) (hs1 _) hc (blk_xe _ _ _ _ _ _) (hg1 s H C cz fp) (ht1 s H C cz fp) (body_item (he s H C cz fp) (blk_xe _ _ _ _ _ _)) hj.2.2 nofun) hj.1 hj.2.1 hs hk
theorem qs_l2 (kf : Sto → Unit → Sto → R U) (hk : KfOk X cl W (fun _ => .lst []) kf) (hc : X.calm = true) (hN : X.N.Nodup) (hy : X.N[k]? = some y) (hyl : X.env.scope.names.lookup y = some .local) (hsw : swapsWith (L2' elt t0 i0 t1 i1 f0 f1 scope pos) (some (.Name y py)) spos.line X.env = pure true) (ws1 : List Nat) (hi : QI X cl W t0 i0 mi) (ok : BlkOk X.N X.env.scope scope own) (hg : Blk X scope fun Y => QG Y cl t0 js g) (ht : Blk X scope fun Y => QTs Y cl W0 f0 tm)
    (hi1 : Blk X scope fun Y => QI Y cl W0 t1 i1 mi1) (hg1 : Blk X scope fun Y => QG Y cl t1 js1 g1) (ht1 : Blk X scope fun Y => QTs Y cl W0 f1 tm1) (he : Blk X scope fun Y => QE Y cl W0 elt me) (hj : (∀ j ∈ js, j ∈ own.map (·.2)) ∧ (∀ j ∈ ws1, j ∈ own.map (·.2)) ∧ ∀ j ∈ js1, j ∈ ws1)
    (hs : ∀ x, foldedSetIterable i0 X.env x = pure x := by intro _; rfl) (hs1 : ∀ env x, foldedSetIterable i1 env x = pure x := by intro _ _; rfl) : QS X cl W (.Assign [.Name y py] (L2' elt t0 i0 t1 i1 f0 f1 scope pos) spos) (sAsg (eL2 kf (own.map (·.2)) ws1 mi g tm mi1 g1 tm1 me) (gName k)) :=
  qs_setCmp hc hN hy hyl hsw at_l2_0 rfl new_list (fun _ => rfl) hi ok hg ht (fun n D s H C cz fp => body_next at_l2_1 (hi1 s H C cz fp) (hs1 _) hc (blk_xe _ _ _ _ _ _) (hg1 s H C cz fp) (ht1 s H C cz fp) (body_item (he s H C cz fp) (blk_xe _ _ _ _ _ _)) hj.2.2 nofun) hj.1 hj.2.1 hs hk
theorem qe_l3 (kf : Sto → Unit → Sto → R U) (hk : KfOk X cl W (fun _ => .lst []) kf) (hc : X.calm = true) (hN : X.N.Nodup) (ws1 ws2 : List Nat) (hi : QI X cl W t0 i0 mi) (ok : BlkOk X.N X.env.scope scope own) (hg : Blk X scope fun Y => QG Y cl t0 js g) (ht : Blk X scope fun Y => QTs Y cl W0 f0 tm)
    (hi1 : Blk X scope fun Y => QI Y cl W0 t1 i1 mi1) (hg1 : Blk X scope fun Y => QG Y cl t1 js1 g1) (ht1 : Blk X scope fun Y => QTs Y cl W0 f1 tm1) (hi2 : Blk X scope fun Y => QI Y cl W0 t2 i2 mi2) (hg2 : Blk X scope fun Y => QG Y cl t2 js2 g2) (ht2 : Blk X scope fun Y => QTs Y cl W0 f2 tm2) (he : Blk X scope fun Y => QE Y cl W0 elt me)
    (hj : (∀ j ∈ js, j ∈ own.map (·.2)) ∧ (∀ j ∈ ws1, j ∈ own.map (·.2)) ∧ (∀ j ∈ js1, j ∈ ws1) ∧ (∀ j ∈ ws2, j ∈ ws1) ∧ ∀ j ∈ js2, j ∈ ws2)
    (hs : ∀ x, foldedSetIterable i0 X.env x = pure x := by intro _; rfl) (hs1 : ∀ env x, foldedSetIterable i1 env x = pure x := by intro _ _; rfl) (hs2 : ∀ env x, foldedSetIterable i2 env x = pure x := by intro _ _; rfl) : QE X cl W (L3 elt t0 i0 t1 i1 t2 i2 f0 f1 f2 scope pos) (eL3 kf (own.map (·.2)) ws1 ws2 mi g tm mi1 g1 tm1 mi2 g2 tm2 me) :=
  qe_cmpN hc hN at_l3_0 rfl new_list rfl hi ok hg ht (fun n D s H C cz fp => body_next at_l3_1 (hi1 s H C cz fp) (hs1 _) hc (blk_xe _ _ _ _ _ _) (hg1 s H C cz fp) (ht1 s H C cz fp)
    (body_next at_l3_2 (hi2 s H C cz fp) (hs2 _) hc (blk_xe _ _ _ _ _ _) (hg2 s H C cz fp) (ht2 s H C cz fp) (body_item (he s H C cz fp) (blk_xe _ _ _ _ _ _)) hj.2.2.2.2 nofun) hj.2.2.1 hj.2.2.2.1) hj.1 hj.2.1 hs hk
theorem qe_d1 (hu : X.A.units + 20 < cLine) (hc : X.calm = true) (hN : X.N.Nodup) (hi : QI X cl W t0 i0 mi) (ok : BlkOk X.N X.env.scope scope own) (hg : Blk X scope fun Y => QG Y cl t0 js g) (ht : Blk X scope fun Y => QTs Y cl W0 f0 tm) (hk : Blk X scope fun Y => QE Y cl W0 kx mk0) (he : Blk X scope fun Y => QE Y cl W0 vx me) (hj : ∀ j ∈ js, j ∈ own.map (·.2))
    (hs : ∀ x, foldedSetIterable i0 X.env x = pure x := by intro _; rfl) : QE X cl W (C1 kx vx t0 i0 f0 scope pos) (eD1 (own.map (·.2)) mi g tm mk0 me) :=
  qe_cmpN (ws1 := []) hc hN at_d1_0 rfl new_dict rfl hi ok hg ht (fun n D s H C cz fp => body_key (hk s H C cz fp) (he s H C cz fp) hu (blk_xe _ _ _ _ _ _)) hj nofun hs kf_S
theorem qs_d1 (hu : X.A.units + 20 < cLine) (hc : X.calm = true) (hN : X.N.Nodup) (hy : X.N[k]? = some y) (hyl : X.env.scope.names.lookup y = some .local) (hsw : swapsWith (C1 kx vx t0 i0 f0 scope pos) (some (.Name y py)) spos.line X.env = pure true) (hi : QI X cl W t0 i0 mi) (ok : BlkOk X.N X.env.scope scope own) (hg : Blk X scope fun Y => QG Y cl t0 js g) (ht : Blk X scope fun Y => QTs Y cl W0 f0 tm) (hk : Blk X scope fun Y => QE Y cl W0 kx mk0) (he : Blk X scope fun Y => QE Y cl W0 vx me) (hj : ∀ j ∈ js, j ∈ own.map (·.2))
    (hs : ∀ x, foldedSetIterable i0 X.env x = pure x := by intro _; rfl) : QS X cl W (.Assign [.Name y py] (C1 kx vx t0 i0 f0 scope pos) spos) (sAsg (eD1 (own.map (·.2)) mi g tm mk0 me) (gName k)) :=
  qs_setCmp (ws1 := []) hc hN hy hyl hsw at_d1_0 rfl new_dict (fun _ => rfl) hi ok hg ht (fun n D s H C cz fp => body_key (hk s H C cz fp) (he s H C cz fp) hu (blk_xe _ _ _ _ _ _)) hj nofun hs kf_S
theorem qs_d3 (hu : X.A.units + 20 < cLine) (hc : X.calm = true) (hN : X.N.Nodup) (hy : X.N[k]? = some y) (hyl : X.env.scope.names.lookup y = some .local) (hsw : swapsWith (C3 kx vx t0 i0 t1 i1 t2 i2 f0 f1 f2 scope pos) (some (.Name y py)) spos.line X.env = pure true) (ws1 ws2 : List Nat) (hi : QI X cl W t0 i0 mi) (ok : BlkOk X.N X.env.scope scope own) (hg : Blk X scope fun Y => QG Y cl t0 js g) (ht : Blk X scope fun Y => QTs Y cl W0 f0 tm)
    (hi1 : Blk X scope fun Y => QI Y cl W0 t1 i1 mi1) (hg1 : Blk X scope fun Y => QG Y cl t1 js1 g1) (ht1 : Blk X scope fun Y => QTs Y cl W0 f1 tm1) (hi2 : Blk X scope fun Y => QI Y cl W0 t2 i2 mi2) (hg2 : Blk X scope fun Y => QG Y cl t2 js2 g2) (ht2 : Blk X scope fun Y => QTs Y cl W0 f2 tm2) (hk : Blk X scope fun Y => QE Y cl W0 kx mk0) (he : Blk X scope fun Y => QE Y cl W0 vx me)
    (hj : (∀ j ∈ js, j ∈ own.map (·.2)) ∧ (∀ j ∈ ws1, j ∈ own.map (·.2)) ∧ (∀ j ∈ js1, j ∈ ws1) ∧ (∀ j ∈ ws2, j ∈ ws1) ∧ ∀ j ∈ js2, j ∈ ws2)
    (hs : ∀ x, foldedSetIterable i0 X.env x = pure x := by intro _; rfl) (hs1 : ∀ env x, foldedSetIterable i1 env x = pure x := by intro _ _; rfl) (hs2 : ∀ env x, foldedSetIterable i2 env x = pure x := by intro _ _; rfl) :
    QS X cl W (.Assign [.Name y py] (C3 kx vx t0 i0 t1 i1 t2 i2 f0 f1 f2 scope pos) spos) (sAsg (eD3 (own.map (·.2)) ws1 ws2 mi g tm mi1 g1 tm1 mi2 g2 tm2 mk0 me) (gName k)) :=
  qs_setCmp hc hN hy hyl hsw at_d3_0 rfl new_dict (fun _ => rfl) hi ok hg ht (fun n D s H C cz fp => body_next at_d3_1 (hi1 s H C cz fp) (hs1 _) hc (blk_xe _ _ _ _ _ _) (hg1 s H C cz fp) (ht1 s H C cz fp)
    (body_next at_d3_2 (hi2 s H C cz fp) (hs2 _) hc (blk_xe _ _ _ _ _ _) (hg2 s H C cz fp) (ht2 s H C cz fp) (body_key (hk s H C cz fp) (he s H C cz fp) hu (blk_xe _ _ _ _ _ _)) hj.2.2.2.2 nofun) hj.2.2.1 hj.2.2.2.1) hj.1 hj.2.1 hs kf_S
end
end Pu
/-! Pu: dicts walked by their keys; cells locked meanwhile. -/
namespace Pu
open PySem PySem.Spec L2
open PyProof.Rows hiding St
section
variable {X : Cx} {pins : List (Addr × Obj)} {σ : L2.St} {H : Hp} {s : Shared} {d : Addr} {o : Obj} {es : List Ent}
theorem frzN (I : Inv X pins σ H s) (h : H d = some (.frz o (dicO X.prog X.w d es))) :
    (d == sysModules) = false ∧ s.heap.get? d = some o ∧ o.ExactDict ∧ ∃ (ar : Array DictEntry) (ep : Nat), o.data = .dict ar ep ∧ ar.size = es.length ∧ ∀ (i : Nat) (e : Ent), es[i]? = some e → ∃ en : DictEntry, ar[i]? = some en ∧ en.key = .ref e.2.1 ∧ en.val = e.2.2 := by
  obtain ⟨hd, ⟨o', ar, ep, ho, hx, hdt, he, _, hs⟩, _, _⟩ := I.hok d _ h
  rw [hd] at ho
  cases ho
  refine ⟨hs, hd, hx, ar, ep, hdt, ?_, fun i e hi => ?_⟩
  · have := congrArg List.length he
    simpa using this
  · have q : ar.toList[i]? = some (entryOfKey (nestedKind X.prog X.w) e) := by rw [he, List.getElem?_map, hi]; rfl
    refine ⟨_, by simpa using q, rfl, rfl⟩
end
/-- the items of the locked thing at d -/
def ItN (d : Addr) (o : Obj) (u : HO) (ks : List V) : It := ⟨fun i H => H d = some (.frz o u) ∧ i < ks.length, fun i H x H' => H' = H ∧ ks[i]? = some x, fun i H => H d = some (.frz o u) ∧ ks.length ≤ i⟩
theorem turn_keysN {P : Program} {w : World} {K : PySem.W.Frag} {tg : Expr} {d : Addr} {o : Obj} {es : List Ent} {ar : Array DictEntry} {ep : Nat} (it : Addr) (hod : o.data = .dict ar ep) : Turn P w K tg (ItN d o (dicO P w d es) (es.map fun e => .ref e.2.1)) [it] it (fun i h => h.IsKeyIter it d i es.length ep) where
  mem := by simp
  obj := fun i h st b hb => by
    obtain rfl : b = it := by simpa using hb
    obtain ⟨oi, e, c, dd⟩ := st
    exact ⟨oi, e, fun v z => by rw [dd] at z; cases z⟩
  keep := fun i h h' st k => st.at fun oi e => k it (by simp) oi e
  item := by
    intro X hP hw hK hc i pins s σ H E I hf st hg
    subst hP hw hK
    obtain ⟨hd, hi⟩ := hg
    obtain ⟨f0, f1, f2, f3, f4, f5⟩ := hf it (by simp)
    obtain ⟨hs, hgd, hx, ar', ep', hdt, hsz, ent⟩ := frzN I hd
    obtain ⟨rfl, rfl⟩ := dict_ep hod hdt
    have hi' : i < es.length := by simpa using hi
    obtain ⟨en, hen, hkey, _⟩ := ent i es[i] (List.getElem?_eq_getElem hi')
    refine next_key_item st hgd hdt hsz hen fun h' st' sb => ?_
    have I1 : Inv X pins σ H { s with heap := h' } := I.turned (t' := s.toks) (fun b ob hb e => (sb.2 b hb).trans e) f0 f1 f3 f4 f5
    obtain ⟨oi, e, c, dd⟩ := id st'
    exact ⟨en.key, rfl, go_of (s := { s with heap := h' }) e c dd (by decide) ⟨.ref es[i].2.1, H, I1, hkey, ⟨rfl, by simp [hi']⟩, st', fun b hb => (hf b hb).1⟩⟩
  done := by
    intro X hP hw hK hc i pins s σ H E I hf st hg
    subst hP hw hK
    obtain ⟨hd, hi⟩ := hg
    obtain ⟨f0, f1, f2, f3, f4, f5⟩ := hf it (by simp)
    obtain ⟨hs, hgd, hx, ar', ep', hdt, hsz, ent⟩ := frzN I hd
    obtain ⟨rfl, rfl⟩ := dict_ep hod hdt
    exact next_key_end (I.ok.hd hc) st hgd hdt hsz (by simpa using hi) fun h' eb => ⟨rfl, I.turned (t' := s.toks) (fun b ob hb e => eb b ob hb e) f0 f1 f3 f4 f5⟩
  self := fun A i s Q E st h => by
    refine wpAny_pyIter_slot st.typeIs F.slot_dict_keyiterator_iter (wpAny_call_entry F.slot_dict_keyiterator_iter st.typeIs F.entry_dict_keyiterator_iter ?_ (F.args_dict_keyiterator_iter_1 _))
    change wpAny _ _ (ret (.ref it)) _ _ s
    exact wpAny_pure ⟨_, rfl, "dict_keyiterator", _, st.typeIs, F.slot_dict_keyiterator_next.lookup, h⟩
section
variable {B : Bx} {ι : List Addr} {F : Addr → Prop} {H : Hp} {S : Sto} {a : Addr} {φ : Heap → Prop} {od : Obj}
/-- a value by value is locked for good -/
theorem Evo.lockF (h : H a = some (.ext φ)) : Evo ι F H ι F (upd H a (.frz od (.ext φ))) := by
  refine ⟨fun _ _ h => h, fun _ h => h, fun b u f z q => ?_, fun b xs z => ?_, fun b z => ?_, fun b p u z => ?_, fun b ψ f z => ?_⟩
  · rw [upd_ne (fun e : b = a => by rw [e, h] at z; cases z; exact q _ rfl)]; exact z
  · rw [upd_ne (fun e : b = a => by rw [e, h] at z; cases z)]; exact z
  · by_cases e : b = a
    · rw [e, upd_same]; simp
    · rw [upd_ne e]; exact z
  · rw [upd_ne (fun e : b = a => by rw [e, h] at z; cases z)]; exact z
  · by_cases e : b = a
    · subst e
      rcases z with z | ⟨p, z⟩
      · rw [h] at z; cases z; exact .inr ⟨od, upd_same⟩
      · rw [h] at z; cases z
    · exact rd_ne e z
theorem Rel.lockF (r : Rel B ι F S H) (f : F a) (h : H a = some (.ext φ)) : Rel B ι F S (upd H a (.frz od (.ext φ))) := by
  have e := Evo.lockF (ι := ι) (F := F) (od := od) h
  refine ⟨r.len, r.nd, r.nf, fun n b c h1 h2 => ?_, fun b hb => e.alive b (r.there b hb), fun b hb => e.alive b (r.fthere b hb), fun b hb x z => ?_⟩
  · have x := r.ok n b c h1 h2
    have hne : c.live = true → b ≠ a := fun hl z => r.nf n b c h1 h2 hl (by rw [z]; exact f)
    cases c with
    | lst xs => obtain ⟨vs, q, rr⟩ := x; exact ⟨vs, by rw [upd_ne (hne rfl)]; exact q, rr.mono e⟩
    | tpc xs => obtain ⟨vs, q, rr⟩ := x; exact ⟨vs, by rw [upd_ne (hne rfl)]; exact q, rr.mono e⟩
    | dic kvs => obtain ⟨vs, q, z, rr⟩ := x; exact ⟨vs, by rw [upd_ne (hne rfl)]; exact q, z, rr.mono e⟩
    | dicL kvs => obtain ⟨vs, od', q, z, rr⟩ := x; exact ⟨vs, od', by rw [upd_ne (hne rfl)]; exact q, z, rr.mono e⟩
    | ins c fs => obtain ⟨dx, vs, q, q2, nf, rr⟩ := x; exact ⟨dx, vs, by rw [upd_ne (hne rfl)]; exact q, by rw [upd_ne (fun z : dx = a => by rw [z, h] at q2; cases q2)]; exact q2, nf, rr.mono e⟩
    | dead => trivial
  · by_cases eb : b = a
    · rw [eb, upd_same] at z; cases z
    · rw [upd_ne eb] at z; exact r.now b hb x z
end
/-- a dict by its keys -/
def iDic (m : ME) : MI := fun ρ S => (m ρ S).bind fun u S1 => match u with
  | .v (.dic kvs) => .ok ⟨kvs.map fun p => .v p.1, none⟩ S1
  | .r n => (match S1[n]? with
    | some (.dicL kvs) => .ok ⟨kvs.map fun p => .v p.1, none⟩ S1
    | _ => .er)
  | _ => .er
section
variable {X : Cx} {cl : Nat → Addr} {W : WX} {tg e : Expr} {me : ME}
theorem walk_keys {ι : List Addr} {F : Addr → Prop} {S : Sto} {H : Hp} {d : Addr} {od : Obj} {es : List Ent} {kvs : List (D × U)} (h : H d = some (.frz od (dicO X.prog X.w d es))) (rk : RepKU (bx X cl) ι F H es kvs) :
    Walk (bx X cl) (ItN d od (dicO X.prog X.w d es) (es.map fun e => .ref e.2.1)) ⟨kvs.map fun p => .v p.1, none⟩ S ι F H := by
  intro i ι1 F1 S1 H1 e1 r1 _
  have hl : es.length = kvs.length := paired_len rk
  have h1 := e1.lkd _ _ _ h
  refine ⟨fun hi => ⟨⟨h1, by simpa [hl] using hi⟩, fun x H' ⟨hH, hx⟩ => ?_⟩, fun hi => ⟨h1, by simpa [hl] using hi⟩⟩
  subst hH
  refine ⟨Evo.refl, r1, fun u hu => ?_⟩
  rw [List.getElem?_map, Option.map_eq_some_iff] at hu hx
  obtain ⟨p, hp, rfl⟩ := hu
  obtain ⟨en, hen, rfl⟩ := hx
  obtain ⟨en', hen', _, zk, _⟩ := Pu.paired_get rk hp
  rw [hen] at hen'
  cases hen'
  exact .v (zk.mono e1)
theorem qi_dic (he : QE X cl W e me) : QI X cl W tg e (iDic me) := by
  refine ⟨fun pins s σ H R I ⟨ι, F, S, ρ, r, en, o⟩ => ?_⟩
  have h2 : liftE (bx X cl) W me σ H (fun v H1 => ∃ u S1 ι1 F1, Evo ι F H ι1 F1 H1 ∧ Rel (bx X cl) ι1 F1 S1 H1 ∧ RepU (bx X cl) ι1 F1 H1 v u ∧ ∃ kvs, asDic S1 u = some kvs ∧ (∀ n kvs, u = .r n → S1[n]? ≠ some (.dic kvs)) ∧
      ∀ (J : It) (ι' : List Addr) (F' : Addr → Prop) (H' : Hp), Evo ι F H ι' F' H' → Rel (bx X cl) ι' F' S1 H' → Walk (bx X cl) J ⟨kvs.map fun p => .v p.1, none⟩ S1 ι' F' H' → R J H') := by
    refine ⟨ι, F, S, ρ, r, en, ?_⟩
    unfold iDic at o
    cases q : me ρ S with
    | er => rw [q] at o; exact o
    | ex k fs S1 => rw [q] at o; exact o
    | ok u S1 =>
      rw [q] at o
      intro v ι1 F1 H1 e1 r1 z1
      refine ⟨u, S1, ι1, F1, e1, r1, z1, ?_⟩
      simp only [Pu.R.bind_ok] at o
      cases u with
      | v dd =>
        cases dd with
        | dic kvs => exact ⟨_, rfl, nofun, by rw [List.map_map]; exact o⟩
        | _ => exact o.elim
      | r n =>
        simp only at o
        cases qc : S1[n]? with
        | none => rw [qc] at o; exact o.elim
        | some c =>
          rw [qc] at o
          cases c with
          | dicL kvs => exact ⟨kvs, by unfold asDic; simp only [qc], fun m k' em z => (by cases em; rw [qc] at z; cases z), o⟩
          | _ => exact o.elim
  refine thn (he.run pins s σ H _ I h2) fun v s1 ⟨x, H1, I1, rx, u, S1, ι1, F1, e1, r1, z1, kvs, qk, hnd, hR⟩ => ?_
  -- where it is, locked
  have key : ∃ (a : Addr) (es : List Ent) (od : Obj) (H2 : Hp), x = .ref a ∧ H2 a = some (.frz od (dicO X.prog X.w a es)) ∧ Inv X pins σ H2 s1 ∧ Evo ι1 F1 H1 ι1 F1 H2 ∧ Rel (bx X cl) ι1 F1 S1 H2 ∧ RepKU (bx X cl) ι1 F1 H2 es kvs := by
    cases z1 with
    | v z1 =>
      cases z1 with
      | @dic a es _ f h hz rs =>
        cases qk
        rcases h with h | ⟨od, h⟩
        · obtain ⟨od, I2⟩ := I1.lock h trivial
          exact ⟨a, es, od, _, rfl, upd_same, I2, Evo.lockF h, r1.lockF f h, (repK_paired rs).mono (Evo.lockF h)⟩
        · exact ⟨a, es, od, H1, rfl, h, I1, Evo.refl, r1, repK_paired rs⟩
      | _ => cases qk
    | @r n a h =>
      unfold asDic at qk
      simp only at qk
      cases qc : S1[n]? with
      | none => rw [qc] at qk; cases qk
      | some c =>
        rw [qc] at qk
        cases c with
        | dicL ys =>
          cases qk
          obtain ⟨es, od, h1, h2, h3⟩ := r1.ok n a _ h qc
          exact ⟨a, es, od, H1, rfl, h1, I1, Evo.refl, r1, h3⟩
        | dic ys => exact absurd qc (hnd n ys rfl)
        | _ => cases qk
  obtain ⟨a, es, od, H2, rfl, h2, I2, e2, r2, rk2⟩ := key
  obtain rfl : v = Value.ref a := rx
  obtain ⟨hs, hgd, hx, ar, ep, hdt, hsz, ent⟩ := frzN I2 h2
  refine iter_keys hs hgd hx hdt (pi_one (tk := s1.toks) I2 _ (turn_keysN _ hdt) ⟨_, Heap.get?_push_size _ rfl, rfl, ?_⟩ (hR _ ι1 F1 H2 (e1.trans e2) r2 (walk_keys h2 rk2)))
  rw [hsz] <;> rfl
/-- while it runs, the cell that pick chooses is locked -/
noncomputable def eLk (pick : Env' → Sto → Option Nat) (m : ME) : ME := fun ρ S => match pick ρ S with
  | none => m ρ S
  | some n => match S[n]? with
    | some (.dic kvs) => (noEx (m ρ (S.set n (.dicL kvs)))).bind fun u S2 => (match S2[n]? with
      | some (.dicL kvs') => .ok u (S2.set n (.dic kvs'))
      | _ => .er)
    | _ => m ρ S
def unlS (n : Nat) (S : Sto) (k : Sto → RS) : RS := match S[n]? with
  | some (.dicL kvs) => k (S.set n (.dic kvs))
  | _ => .er
noncomputable def sLk (pick : Env' → Sto → Option Nat) (m : MS) : MS := fun ρ S => match pick ρ S with
  | none => m ρ S
  | some n => match S[n]? with
    | some (.dic kvs) => (match m ρ (S.set n (.dicL kvs)) with
      | .nx ρ2 S2 => unlS n S2 (.nx ρ2)
      | .rt u S2 => unlS n S2 (.rt u)
      | .bk ρ2 S2 => unlS n S2 (.bk ρ2)
      | .ct ρ2 S2 => unlS n S2 (.ct ρ2)
      | _ => .er)
    | _ => m ρ S
/-- unlocked again -/
theorem unlock_ok {B : Bx} {ι ι' : List Addr} {F F' : Addr → Prop} {H H' : Hp} {S' : Sto} {n : Nat} {a : Addr} {od : Obj} {es : List Ent} {kvs' : List (D × U)} (hf : ¬ F a) (h : H a = some (dicO B.prog B.w a es)) (hn : ι[n]? = some a) (e : Evo ι F (upd H a (.frz od (dicO B.prog B.w a es))) ι' F' H') (r : Rel B ι' F' S' H') (q : S'[n]? = some (.dicL kvs')) :
    H' a = some (.frz od (dicO B.prog B.w a es)) ∧ Evo ι F H ι' F' (upd H' a (dicO B.prog B.w a es)) ∧ Rel B ι' F' (S'.set n (.dic kvs')) (upd H' a (dicO B.prog B.w a es)) ∧ (∀ v u, RepU B ι' F' H' v u → RepU B ι' F' (upd H' a (dicO B.prog B.w a es)) v u) ∧ ∀ σ ρ, REnv B ι' F' H' σ ρ → REnv B ι' F' (upd H' a (dicO B.prog B.w a es)) σ ρ := by
  have h1 := e.lkd _ _ _ (upd_same (H := H) (a := a) (o := .frz od (dicO B.prog B.w a es)))
  have hn' := e.pre _ _ hn
  have nf' : ¬ F' a := r.nf n a _ hn' q rfl
  have e0 : Ev0 F' H' F' (upd H' a (dicO B.prog B.w a es)) := by
    refine ⟨fun _ h => h, fun b u f z _ => ?_, fun b xs z => ?_, fun b φ f z => rd_ne (fun z' : b = a => nf' (by rw [← z']; exact f)) z⟩
    · rw [upd_ne (fun z' : b = a => nf' (by rw [← z']; exact f))]; exact z
    · rw [upd_ne (fun z' : b = a => by rw [z', h1] at z; cases z)]; exact z
  have ru : ∀ v u, RepU B ι' F' H' v u → RepU B ι' F' (upd H' a (dicO B.prog B.w a es)) v u := fun v u z => by
    cases z with
    | v z => exact .v (z.mono0 e0)
    | r z => exact .r z
  have rku : ∀ es' kvs, RepKU B ι' F' H' es' kvs → RepKU B ι' F' (upd H' a (dicO B.prog B.w a es)) es' kvs := fun es' kvs z => Paired.mapP z fun _ _ ⟨a1, b1, c1, w1, x1, y1⟩ => ⟨a1, b1.mono0 e0, c1, w1, x1, ru _ _ y1⟩
  refine ⟨h1, ?_, ?_, ru, fun σ ρ z => Paired.mapP z fun v u x => ?_⟩
  · refine ⟨e.pre, e.sub, fun b u f z q => ?_, fun b xs z => ?_, fun b z => ?_, fun b p u z => ?_, fun b φ f z => ?_⟩
    · have hb : b ≠ a := fun z' => hf (by rw [← z']; exact f)
      rw [upd_ne hb]
      exact e.keep b u f (by rw [upd_ne hb]; exact z) q
    · have hb : b ≠ a := fun z' => by rw [z', h] at z; cases z
      rw [upd_ne hb]
      exact e.tups b xs (by rw [upd_ne hb]; exact z)
    · by_cases hb : b = a
      · rw [hb, upd_same]; simp
      · rw [upd_ne hb]; exact e.alive b (by rw [upd_ne hb]; exact z)
    · have hb : b ≠ a := fun z' => by rw [z', h] at z; cases z
      rw [upd_ne hb]
      exact e.lkd b p u (by rw [upd_ne hb]; exact z)
    · have hb : b ≠ a := fun z' => hf (by rw [← z']; exact f)
      exact rd_ne hb (e.kext b φ f (rd_ne hb z))
  · refine ⟨by simp [r.len], r.nd, fun m b d g1 g2 g3 => ?_, fun m b d g1 g2 => ?_, fun b hb => ?_, fun b hb => ?_, fun b hb x z => ?_⟩
    · by_cases hm : m = n
      · subst hm; rw [hn'] at g1; cases g1; exact nf'
      · rw [List.getElem?_set_ne (Ne.symm hm)] at g2; exact r.nf m b d g1 g2 g3
    · by_cases hm : m = n
      · subst hm
        rw [hn'] at g1; cases g1
        rw [List.getElem?_set_self (List.getElem?_eq_some_iff.mp q).1] at g2
        cases g2
        obtain ⟨es', od', x1, x2, x3⟩ := r.ok m a _ hn' q
        rw [h1] at x1
        have : dicO B.prog B.w a es = dicO B.prog B.w a es' := (HO.frz.inj (Option.some.inj x1)).2
        exact ⟨es', by rw [upd_same, this], x2, rku _ _ x3⟩
      · rw [List.getElem?_set_ne (Ne.symm hm)] at g2
        have hba : b ≠ a := fun z => by
          subst z
          obtain ⟨q1, e1⟩ := List.getElem?_eq_some_iff.mp hn'
          obtain ⟨q2, e2⟩ := List.getElem?_eq_some_iff.mp g1
          exact hm ((List.getElem_inj r.nd).mp (e2.trans e1.symm))
        have x := r.ok m b d g1 g2
        cases d with
        | lst xs => obtain ⟨vs, y, z⟩ := x; exact ⟨vs, by rw [upd_ne hba]; exact y, Paired.mapP z fun _ _ t => ru _ _ t⟩
        | tpc xs => obtain ⟨vs, y, z⟩ := x; exact ⟨vs, by rw [upd_ne hba]; exact y, Paired.mapP z fun _ _ t => ru _ _ t⟩
        | dic kvs => obtain ⟨vs, y, w, z⟩ := x; exact ⟨vs, by rw [upd_ne hba]; exact y, w, rku _ _ z⟩
        | dicL kvs => obtain ⟨vs, od', y, w, z⟩ := x; exact ⟨vs, od', by rw [upd_ne hba]; exact y, w, rku _ _ z⟩
        | ins k fs =>
          obtain ⟨dx, vs, y, y2, nd, z⟩ := x
          exact ⟨dx, vs, by rw [upd_ne hba]; exact y, by rw [upd_ne (fun z : dx = a => by rw [z, h1] at y2; cases y2)]; exact y2, nd, Paired.mapP z fun _ _ ⟨t1, t2⟩ => ⟨t1, ru _ _ t2⟩⟩
        | dead => trivial
    · by_cases hb' : b = a
      · rw [hb', upd_same]; simp
      · rw [upd_ne hb']; exact r.there b hb
    · by_cases hb' : b = a
      · rw [hb', upd_same]; simp
      · rw [upd_ne hb']; exact r.fthere b hb
    · by_cases hb' : b = a
      · rw [hb', upd_same] at z; cases z
      · rw [upd_ne hb'] at z; exact r.now b hb x z
  · cases u with
    | none => cases v <;> trivial
    | some u =>
      cases v with
      | none => exact x.elim
      | some v => exact ru v u x
/-- locked -/
theorem lock_ok {B : Bx} {ι : List Addr} {F : Addr → Prop} {H : Hp} {S : Sto} {n : Nat} {a : Addr} {kvs : List (D × U)} {es : List Ent} (od : Obj) (r : Rel B ι F S H) (hn : ι[n]? = some a) (q : S[n]? = some (.dic kvs)) (h : H a = some (dicO B.prog B.w a es)) (hl : es.length ≤ sizeLine) (rk : RepKU B ι F H es kvs) :
    Rel B ι F (S.set n (.dicL kvs)) (upd H a (.frz od (dicO B.prog B.w a es))) ∧ Evo ι F H ι F (upd H a (.frz od (dicO B.prog B.w a es))) := by
  have nf := r.nf n a _ hn q rfl
  exact r.write hn q rfl (fun xs z => by rw [h] at z; cases z) nofun (fun p u z => by rw [h] at z; cases z) ⟨es, od, upd_same, hl, rk.mono (Evo.lockF h)⟩
theorem qe_lk {m : ME} (h : QE X cl W e m) (pick : Env' → Sto → Option Nat) : QE X cl W e (eLk pick m) := by
  refine ⟨fun pins s σ H Q I ⟨ι, F, S, ρ, r, en, o⟩ => ?_⟩
  unfold eLk at o
  split at o
  · exact h.run pins s σ H Q I ⟨ι, F, S, ρ, r, en, o⟩
  · rename_i n hp
    split at o
    · rename_i kvs qc
      have hlt : n < ι.length := by rw [r.len]; exact (List.getElem?_eq_some_iff.mp qc).1
      obtain ⟨a, hn⟩ : ∃ a, ι[n]? = some a := ⟨ι[n], List.getElem?_eq_getElem hlt⟩
      obtain ⟨es, ha, hl, rk⟩ := r.ok n a _ hn qc
      refine (pe_lock h).run pins s σ H Q I ⟨a, _, ha, trivial, fun od => ?_⟩
      obtain ⟨r1, e1⟩ := lock_ok od r hn qc ha hl rk
      refine ⟨ι, F, _, ρ, r1, en.mono e1, ?_⟩
      cases qm : m ρ (S.set n (.dicL kvs)) with
      | er => rw [qm] at o; exact o
      | ex k fs S2 => rw [qm] at o; exact o.elim
      | ok u S2 =>
        rw [qm] at o
        intro v ι' F' H' e' r' z'
        simp only [noEx_ok, Pu.R.bind_ok] at o
        split at o
        · rename_i kvs' q2
          obtain ⟨g1, g2, g3, g4, _⟩ := unlock_ok (r.nf n a _ hn qc rfl) ha hn e' r' q2
          exact ⟨g1, o v ι' F' _ g2 g3 (g4 _ _ z')⟩
        · exact o.elim
    · exact h.run pins s σ H Q I ⟨ι, F, S, ρ, r, en, o⟩
theorem qs_lk {st : Stmt} {m : MS} (h : QS X cl W st m) (pick : Env' → Sto → Option Nat) : QS X cl W st (sLk pick m) := by
  refine ⟨fun pins s σ H D I ⟨ι, F, S, ρ, r, en, o⟩ => ?_⟩
  unfold sLk at o
  split at o
  · exact h.run pins s σ H D I ⟨ι, F, S, ρ, r, en, o⟩
  · rename_i n hp
    split at o
    · rename_i kvs qc
      have hlt : n < ι.length := by rw [r.len]; exact (List.getElem?_eq_some_iff.mp qc).1
      obtain ⟨a, hn⟩ : ∃ a, ι[n]? = some a := ⟨ι[n], List.getElem?_eq_getElem hlt⟩
      obtain ⟨es, ha, hl, rk⟩ := r.ok n a _ hn qc
      refine (ps_lock h).run pins s σ H D I ⟨a, _, ha, trivial, fun od => ?_⟩
      obtain ⟨r1, e1⟩ := lock_ok od r hn qc ha hl rk
      have nf := r.nf n a _ hn qc rfl
      refine ⟨ι, F, _, ρ, r1, en.mono e1, ?_⟩
      unfold unlS at o
      cases qm : m ρ (S.set n (.dicL kvs)) with
      | er => rw [qm] at o; exact o
      | ex k fs ρ2 S2 => rw [qm] at o; exact o.elim
      | nx ρ2 S2 =>
        rw [qm] at o
        intro σ' ι' F' H' e' r' en'
        simp only at o
        split at o
        · rename_i kvs' q2
          obtain ⟨g1, g2, g3, g4, g5⟩ := unlock_ok nf ha hn e' r' q2
          exact ⟨g1, o σ' ι' F' _ g2 g3 (g5 _ _ en')⟩
        · exact o.elim
      | bk ρ2 S2 =>
        rw [qm] at o
        intro σ' ι' F' H' e' r' en'
        simp only at o
        split at o
        · rename_i kvs' q2
          obtain ⟨g1, g2, g3, g4, g5⟩ := unlock_ok nf ha hn e' r' q2
          exact ⟨g1, o σ' ι' F' _ g2 g3 (g5 _ _ en')⟩
        · exact o.elim
      | ct ρ2 S2 =>
        rw [qm] at o
        intro σ' ι' F' H' e' r' en'
        simp only at o
        split at o
        · rename_i kvs' q2
          obtain ⟨g1, g2, g3, g4, g5⟩ := unlock_ok nf ha hn e' r' q2
          exact ⟨g1, o σ' ι' F' _ g2 g3 (g5 _ _ en')⟩
        · exact o.elim
      | rt u S2 =>
        rw [qm] at o
        intro v ι' F' H' e' r' z'
        simp only at o
        split at o
        · rename_i kvs' q2
          obtain ⟨g1, g2, g3, g4, g5⟩ := unlock_ok nf ha hn e' r' q2
          exact ⟨g1, o v ι' F' _ g2 g3 (g4 _ _ z')⟩
        · exact o.elim
    · exact h.run pins s σ H D I ⟨ι, F, S, ρ, r, en, o⟩
end
end Pu
/-! Pu: list(d), pop, extend, max, min; own <=, len, in; op=; chains. -/
namespace Pu
open PySem PySem.Spec L2
open PyProof.Rows hiding St
/-! ### list(d) -/
section
variable {prog : Program} {w : World} {A : Around} {d : Addr} {od : Obj} {ar : Array DictEntry} {ep : Nat}
theorem walks_raw (hh : A.handled = none) (I : Addr) (hne : d ≠ I) (hx : od.ExactDict) (hdt : od.data = .dict ar ep) :
    Walks prog w A I [I, d] [I] ar.size (fun i v => ∃ en, ar[i]? = some en ∧ v = en.key) (fun i h => h.IsKeyIter I d i ar.size ep ∧ h.get? d = some od) where
  sub := fun b hb => by simp at hb; simp [hb]
  frame := fun _ _ _ st hk => ⟨st.1.at fun o e => hk I (by simp) o e, hk d (by simp) _ st.2⟩
  item := fun i s Q E hi st hQ => by
    obtain ⟨en, he⟩ : ∃ en, ar[i]? = some en := ⟨ar[i], by simp [hi]⟩
    refine next_key_item st.1 st.2 hdt rfl he fun h' st' sb => ?_
    exact hQ en.key h' s.toks ⟨en, he, rfl⟩ ⟨st', (sb.2 d hne).trans st.2⟩ fun b o hb e => (sb.2 b (fun z => hb (by simp [z]))).trans e
  done := fun s Q E st hQ => next_key_end hh st.1 st.2 hdt rfl (Nat.le_refl _) fun h' eb => hQ h' s.toks fun b o hb e => eb b o (fun z => hb (by simp [z])) e
  self := fun _ _ _ _ st hQ => wpAny_pyIter_keyiter st.1 hQ
theorem src_raw (lo : (d == sysModules) = false) (hx : od.ExactDict) (hdt : od.data = .dict ar ep) : PySem.W.KdlSrc prog w "dict" d d ar.size (fun i v => ∃ en, ar[i]? = some en ∧ v = en.key) (fun h => h.get? d = some od) where
  type := fun _ h => ⟨od, h, hx.1⟩
  there := fun _ h => ⟨Heap.lt_size h, Heap.lt_size h⟩
  keep := fun _ _ h hk => hk d (.inl rfl) _ h
  notList := by decide
  notTuple := by decide
  hint := fun _ _ _ _ h hq => PySem.W.kdl_hint_dict ⟨od, h, hx.1⟩ hq
  iter := fun A s hh h => ⟨_, _, (fun _ _ hq => iter_keys lo h hx hdt hq), walks_raw hh _ (Nat.ne_of_lt (Heap.lt_size h)) hx hdt, ⟨⟨_, Heap.get?_push_size _ rfl, rfl, rfl⟩, Heap.get?_push_of_some _ h⟩⟩
end
/-- list(x): a dict's keys, or the items of a list or tuple; by value, or as a list that may change -/
def keysD (kvs : List (D × U)) : List D := kvs.map (·.1)
noncomputable def fListX : FA := fun us S => match us with
  | [u] => (match asDic S u with
    | some kvs => some (.v (.lst (keysD kvs)), S)
    | none => fListV [u] S)
  | _ => none
theorem vals_map {α : Type} {f : α → V} : ∀ {as : List α} {us : List Value}, as.length = us.length → (∀ (i : Nat) a u, as[i]? = some a → us[i]? = some u → RelV (f a) u) → Vals (as.map f) us
  | [], [], _, _ => .nil
  | [], _ :: _, h, _ => by simp at h
  | _ :: _, [], h, _ => by simp at h
  | a :: as, u :: us, h, hr => .cons (hr 0 a u rfl rfl) (vals_map (by simpa using h) fun i b v hb hv => hr (i + 1) b v (by simpa using hb) (by simpa using hv))
section
variable {X : Cx} {cl : Nat → Addr}
theorem repKU_keys {B : Bx} {ι : List Addr} {F : Addr → Prop} {H : Hp} : ∀ {es : List Ent} {kvs : List (D × U)}, RepKU B ι F H es kvs → Reps B F H (es.map fun e => V.ref e.2.1) (keysD kvs)
  | _, _, .nil => .nil
  | _, _, .cons ⟨_, b, _, _⟩ t => .cons b (repKU_keys t)
theorem cq_listX (hcalm : X.calm = true) : CallR X (.type "list") (liftC (bx X cl) fListX) := by
  intro pins s σ H xs us Q I r ⟨ι, F, S, as, rl, z, fi⟩
  unfold fListX at fi
  split at fi
  · rename_i u'
    cases qd : asDic S u' with
    | none => rw [qd] at fi; exact cq_listV pins s σ H xs us Q I r ⟨ι, F, S, [u'], rl, z, fi⟩
    | some kvs =>
      rw [qd] at fi
      cases z with
      | @cons x _ xs' _ z1 z2 =>
        cases z2
        obtain ⟨u, rfl, rx⟩ := vals1 r
        obtain ⟨a, es, rfl, ha, hz, rk⟩ := asDic_ok rl z1 qd
        obtain rfl : u = Value.ref a := rx
        have hk : ObjOk X.prog X.w H s.heap a (dicO X.prog X.w a es) := by
          rcases ha with h | ⟨od, h⟩
          · exact I.hok a _ h
          · exact (I.hok a _ h).2
        obtain ⟨⟨o, ar, ep, h1, h2, h3, h4, h5, h6⟩, _, _⟩ := hk
        have hsz : ar.size = es.length := by have := congrArg List.length h4; simpa using this
        refine PySem.W.kdl_call (src_raw (prog := X.prog) (w := X.w) (ep := ep) h6 h2 h3) (I.ok.hd hcalm) h1 (by rw [hsz]; exact hz) fun h' tk acc c' hkp hD hacc => ?_
        have hv : Vals (es.map fun e => V.ref e.2.1) acc.toList := vals_map (by have := hacc.1; simp only [Array.length_toList]; omega) fun i e v he hv => by
          obtain ⟨en, hen, rfl⟩ := hacc.2 i v (by rw [← Array.getElem?_toList]; exact hv)
          have q : ar.toList[i]? = some (entryOfKey (nestedKind X.prog X.w) e) := by rw [h4, List.getElem?_map, he]; rfl
          rw [Array.getElem?_toList, hen] at q
          cases q
          rfl
        have hf : H s.heap.objs.size = none := I.hok.fresh (Nat.le_refl _)
        have e2 : Evo ι F H ι (addF F s.heap.objs.size) (upd H s.heap.objs.size (.lst (es.map fun e => V.ref e.2.1))) := Evo.newF hf
        refine ⟨.ref s.heap.objs.size, upd H s.heap.objs.size (.lst (es.map fun e => V.ref e.2.1)), I.laid (t' := tk) hkp (Nat.le_refl _)
          (show ObjOk X.prog X.w _ _ _ (.lst (es.map fun e => V.ref e.2.1)) from ⟨by rw [List.length_map]; exact hz, acc.toList, c', hv, by rw [Array.toArray_toList]; exact hD⟩), rfl, ?_⟩
        exact fi.go e2 (rl.newF hf) (.v (.lst (.inr rfl) upd_same ((repKU_keys rk).mono e2)))
  · exact fi.no
/-! ### pop, extend, max, min -/
def fPop : FM := fun x us S => match x, us with
  | .r n, [] => (match S[n]? with
    | some (.lst xs) => (match xs[xs.length - 1]? with
      | some y => some (y, S.set n (.lst xs.dropLast))
      | none => none)
    | _ => none)
  | _, _ => none
theorem paired_dropLast {α β : Type} {P : α → β → Prop} {xs : List α} {ys : List β} (h : Paired P xs ys) : Paired P xs.dropLast ys.dropLast := by
  rw [List.dropLast_eq_take, List.dropLast_eq_take, paired_len h]
  exact paired_take _ h
theorem mq_pop : MtR X "list.pop" (liftM (bx X cl) fPop) := by
  intro pins s σ H x xs v us Q I rx rxs ⟨ι, F, S, a, as, rl, za, zs, fi⟩
  unfold fPop at fi
  split at fi
  · rename_i n
    cases q : S[n]? with
    | none => rw [q] at fi; exact fi.no
    | some c =>
      rw [q] at fi
      cases c with
      | lst ys =>
        simp only at fi
        split at fi
        · rename_i y hy
          cases za with
          | @r _ a h =>
            cases zs
            obtain ⟨vs, ha, zz⟩ := rl.ok n a _ h q
            obtain ⟨yv, hyv, zy⟩ := Pu.paired_get zz hy
            obtain ⟨r2, e2⟩ := rl.setL h q ha (paired_dropLast zz)
            exact mt_pop pins s σ H _ _ v us Q I rx rxs ⟨a, vs, yv, rfl, rfl, ha, by rw [paired_len zz]; exact hyv, fi.go e2 r2 (zy.mono e2)⟩
        · exact fi.no
      | _ => exact fi.no
  · exact fi.no
def fExtend : FM := fun x us S => match x, us with
  | .r n, [w] => (match S[n]?, asLst S w with
    | some (.lst xs), some zs => if xs.length + zs.length ≤ 100000 then some (.v .non, S.set n (.lst (xs ++ zs))) else none
    | _, _ => none)
  | _, _ => none
theorem mq_extend : MtR X "list.extend" (liftM (bx X cl) fExtend) := by
  intro pins s σ H x xs v us Q I rx rxs ⟨ι, F, S, a, as, rl, za, zs, fi⟩
  unfold fExtend at fi
  split at fi
  · rename_i n w'
    cases q : S[n]? with
    | none => rw [q] at fi; exact fi.no
    | some c =>
      cases q2 : asLst S w' with
      | none => rw [q, q2] at fi; cases c <;> exact fi.no
      | some ws =>
        rw [q, q2] at fi
        cases c with
        | lst ys =>
          simp only at fi
          split at fi
          · rename_i hl
            cases za with
            | @r _ a h =>
              cases zs with
              | cons z1 z2 =>
                cases z2
                obtain ⟨vs, ha, zz⟩ := rl.ok n a _ h q
                obtain ⟨b, bs, rfl, hb, zb⟩ := asLst_ok rl z1 q2
                obtain ⟨r2, e2⟩ := rl.setL h q ha (paired_append zz zb)
                exact mt_extend pins s σ H _ _ v us Q I rx rxs ⟨a, b, vs, bs, rfl, rfl, ha, hb, sz (by rw [paired_len zz, paired_len zb]; exact hl), fi.go e2 r2 (.v .non)⟩
          · exact fi.no
        | _ => exact fi.no
  · exact fi.no
def fMax2 : FA := fun us S => match us with
  | [.v (.int i), .v (.int j)] => some (.v (.int (if j > i then j else i)), S)
  | _ => none
def fMin2 : FA := fun us S => match us with
  | [.v (.int i), .v (.int j)] => some (.v (.int (if j < i then j else i)), S)
  | _ => none
theorem two_ints {B : Bx} {ι : List Addr} {F : Addr → Prop} {H : Hp} {xs : List V} {i j : Int} (h : RepUs B ι F H xs [.v (.int i), .v (.int j)]) : xs = [.int i, .int j] := by
  cases h with
  | cons a b =>
    cases b with
    | cons b c =>
      cases c
      cases a with
      | v a =>
        cases b with
        | v b => cases a; cases b; rfl
theorem cq_max2 (hc : X.calm = true) : CallR X (.builtin "max") (liftC (bx X cl) fMax2) := by
  intro pins s σ H xs us Q I r ⟨ι, F, S, as, rl, z, fi⟩
  unfold fMax2 at fi
  split at fi
  · rename_i i j
    exact call_max2 hc pins s σ H xs us Q I r ⟨i, j, two_ints z, fi.val rl (.v (.int _))⟩
  · exact fi.no
theorem cq_min2 (hc : X.calm = true) : CallR X (.builtin "min") (liftC (bx X cl) fMin2) := by
  intro pins s σ H xs us Q I r ⟨ι, F, S, as, rl, z, fi⟩
  unfold fMin2 at fi
  split at fi
  · rename_i i j
    exact call_min2 hc pins s σ H xs us Q I r ⟨i, j, two_ints z, fi.val rl (.v (.int _))⟩
  · exact fi.no
/-! ### own comparison, len, in -/
/-- a def of one's own by values: nothing is raised -/
def okO : R U → Option (U × Sto)
  | .ok u S => some (u, S)
  | _ => none
def fCmpO (cs : List Nat) (mf : List U → Sto → R U) : F2 := fun x y S => match asIns S x, asIns S y with
  | some (c, _), some (c', _) => if c = c' ∧ c ∈ cs then okO (mf [x, y] S) else none
  | _, _ => none
variable {k : Nat} {f : Addr} {fd : FuncData} {ps : List Str} {mf : List U → Sto → R U} {cs : List Nat}
theorem no_ni {v : V} {u : Value} (h : RelV v u) : u ≠ .notImplemented := by
  intro e; subst e
  cases v <;> first | (cases h; done) | (obtain ⟨t, h⟩ := h; cases h)
theorem cmpb {pins : List (Addr × Obj)} {σ : L2.St} {Q : VK} {u : Value} {s : Shared} (h : EP X pins σ Q u s) : PySem.W.CmpBack (fun v s' => EP X pins σ Q v s') u s := by
  obtain ⟨v, H', I', r, q⟩ := h
  have hn := no_ni r
  unfold PySem.W.CmpBack
  split
  · exact absurd rfl hn
  · exact ⟨v, H', I', r, q⟩
theorem oq_cmpO {op : CmpOp} {m : Str} (hop : ∀ a b, compareOp op a b = richCompare op a b) (hm : (cmpInfo op).2.1 = m) (hc : ∀ c ∈ cs, OwnM X.K (cl c) m f) (Fn : FnOk X.prog X.w X.K X.mg X.base (L2.CX X.prog X.w) k f fd ps (SpM (bx X cl) 2 mf)) (hr : Room k X.A) (hb : Binds X.K fd ps []) :
    OpR X (compareOp op) (liftOp (bx X cl) (fCmpO cs mf)) := by
  intro pins s σ H x y v u Q I rx ry ⟨ι, F, S, a, b, rl, za, zb, fi⟩
  unfold fCmpO at fi
  cases qa : asIns S a with
  | none => rw [qa] at fi; exact fi.no
  | some pa =>
    cases qb : asIns S b with
    | none => rw [qa, qb] at fi; exact fi.no
    | some pb =>
      rw [qa, qb] at fi
      obtain ⟨c, fs⟩ := pa
      obtain ⟨c', fs'⟩ := pb
      simp only at fi
      split at fi
      · rename_i hcc
        obtain ⟨rfl, hin⟩ := hcc
        have mm := hc c hin
        obtain ⟨p, dx, vs, rfl, hp, _⟩ := asIns_ok rl za qa
        obtain ⟨q, dy, ws, rfl, hq, _⟩ := asIns_ok rl zb qb
        obtain rfl : v = Value.ref p := rx
        obtain rfl : u = Value.ref q := ry
        obtain ⟨mA, O, _⟩ := ins_get I.hok hp
        obtain ⟨od, J, _⟩ := O.look
        obtain ⟨mB, O2, _⟩ := ins_get I.hok hq
        obtain ⟨od2, J2, _⟩ := O2.look
        obtain ⟨mf', Ff⟩ := I.fr
        rw [hop]
        refine PySem.W.cmp_K (tb := .ref (cl c)) hr.units0 Ff I.ok.mod.kin J J2.type (by unfold PySem.W.notFirst; simp) (by rw [hm]; exact mm.at_) mm.fn ?_
        cases qm : mf [a, b] S with
        | ok uu S' =>
          rw [qm] at fi
          refine thn (run_at (Q := Q) Fn hr I.env0 hb pass_no I (vs := [.ref p, .ref q]) (.cons rfl (.cons rfl .nil)) ⟨rfl, ι, F, S, [a, b], rl, .cons za (.cons zb .nil), ?_⟩) fun z s' hz => cmpb hz
          rw [qm]
          exact fun v' ι' F' H' e' r' z' => fi.go e' r' z'
        | ex _ _ _ => rw [qm] at fi; exact fi.no
        | er => rw [qm] at fi; exact fi.no
      · exact fi.no
def fLenO (cs : List Nat) (mf : List U → Sto → R U) : FA := fun us S => match us with
  | [x] => (match asIns S x with
    | some (c, _) => if c ∈ cs then (match mf [x] S with
      | .ok (.v (.int i)) S' => if 0 ≤ i ∧ i < 1000000 then some (.v (.int i), S') else none
      | _ => none) else none
    | none => none)
  | _ => none
theorem cq_lenO (hc : ∀ c ∈ cs, OwnM X.K (cl c) "__len__" f) (Fn : FnOk X.prog X.w X.K X.mg X.base (L2.CX X.prog X.w) k f fd ps (SpM (bx X cl) 1 mf)) (hr : Room (k + 1) X.A) (hb : Binds X.K fd ps []) :
    CallR X (.builtin "len") (liftC (bx X cl) (fLenO cs mf)) := by
  intro pins s σ H xs us Q I r ⟨ι, F, S, as, rl, z, fi⟩
  unfold fLenO at fi
  split at fi
  · rename_i x'
    cases z with
    | @cons x _ xs' _ z1 z2 =>
      cases z2
      obtain ⟨u, rfl, rx⟩ := vals1 r
      cases q : asIns S x' with
      | none => rw [q] at fi; exact fi.no
      | some pr =>
        obtain ⟨c', fs⟩ := pr
        rw [q] at fi
        simp only at fi
        split at fi
        · rename_i hcc
          have m := hc c' hcc
          obtain ⟨a, dx, vs, rfl, hx, zf⟩ := asIns_ok rl z1 q
          obtain rfl : u = Value.ref a := rx
          obtain ⟨mA, O, _⟩ := ins_get I.hok hx
          obtain ⟨od, J, _⟩ := O.look
          obtain ⟨mm, Ff⟩ := I.fr
          refine PySem.W.len_K Ff I.ok.mod.kin J m.at_ m.fn ?_
          split at fi
          · rename_i i S' qm
            split at fi
            · rename_i hi
              refine thn (run_at (Q := fun v H' => v = .int i ∧ Q (.int i) H') Fn hr.in1 I.env0.in1 hb pass_no I (vs := [.ref a]) (.cons rfl .nil) ⟨rfl, ι, F, S, [x'], rl, .cons z1 .nil, ?_⟩) fun u s4 ⟨v, H4, I4, rv, ev, q4⟩ => ?_
              · rw [qm]
                intro v ι' F' H' e' r' z'
                cases z' with
                | v z' => cases z'; exact ⟨rfl, fi.go e' r' (.v (.int i))⟩
              · subst ev
                obtain ⟨t, rfl⟩ := rv
                exact ⟨⟨hi.1, by omega⟩, .int i, H4, I4.tok _, ⟨_, rfl⟩, q4⟩
            · exact fi.no
          · exact fi.no
        · exact fi.no
  · exact fi.no
end
/-! ### name op= e -/
def sAug (i : Nat) (f : F2) (m : ME) : MS := fun ρ S => match ρ[i]? with
  | some (some x) => (m ρ S).st ρ fun y S1 => (match f x y S1 with
    | some (z, S2) => .nx (ρ.set i (some z)) S2
    | none => .er)
  | _ => .er
section
variable {X : Cx} {cl : Nat → Addr} {W : WX} {e : Expr} {m : ME} {i : Nat} {x : Str} {op : Operator} {f : F2} {pos pos' : Pos}
theorem qs_aug (hN : X.N.Nodup) (hi : X.N[i]? = some x) (hx : Loc X.env.scope x) (he : QE X cl W e m) (ho : OpR X (inplaceOp op) (liftOp (bx X cl) f)) (hf : X.fn x = true ∨ X.env.scope.names.lookup x = some .local := by first | exact .inl rfl | exact .inr rfl | assumption) : QS X cl W (.AugAssign (.Name x pos') op e pos) (sAug i f m) :=
  PS.imp (ps_aug hN hi hx he ho hf) fun D σ H ⟨ι, F, S, ρ, r, en, o⟩ => by
    unfold sAug at o
    split at o
    · rename_i u eu
      obtain ⟨v, h1, h2⟩ := Pu.paired_get en eu
      cases v with
      | none => exact h2.elim
      | some v =>
        refine ⟨v, h1, ι, F, S, ρ, r, en, (o.st en).mono fun y H1 ⟨ι1, F1, S1, y', e1, r1, z1, o1⟩ => ?_⟩
        have h2 : RepU (bx X cl) ι F H v u := h2
        refine ⟨ι1, F1, S1, u, y', r1, h2.mono e1, z1, ?_⟩
        cases qf : f u y' S1 with
        | none => rw [qf] at o1; exact o1.elim
        | some p =>
          obtain ⟨z, S2⟩ := p
          rw [qf] at o1
          exact ⟨z, S2, rfl, fun zv ι2 F2 H2 e2 r2 z2 => o1 _ ι2 F2 H2 e2 r2 (paired_set (P := RepO (bx X cl) ι2 F2 H2) (x := some zv) (y := some z) z2 i ((en.mono e1).mono e2))⟩
    · exact o.elim
theorem iq_addI : OpR X (inplaceOp .Add) (liftOp (bx X cl) (fI fun i j => some (.int (i + j)))) := opI_ok iop_add fun i j d e => by
  cases e; exact ⟨_, fun _ _ => .int _, fun H Q q => ⟨i, j, rfl, rfl, q⟩⟩
theorem iq_mulI : OpR X (inplaceOp .Mult) (liftOp (bx X cl) (fI gMul)) := opI_ok iop_mul fun i j d e => by
  unfold gMul at e
  split at e
  · rename_i h
    cases e
    refine ⟨_, fun _ _ => .int _, fun H Q q => ⟨i, j, rfl, rfl, ?_, q⟩⟩
    unfold okMul at h
    rcases h with h | h
    · exact .inl ⟨by omega, by omega⟩
    · exact .inr ⟨by omega, by omega⟩
  · cases e
/-- xs += ys, the list itself -/
def fExt2 : F2 := fun x y S => match x with
  | .r n => (match S[n]?, asLst S y with
    | some (.lst xs), some zs => if xs.length + zs.length ≤ 100000 then some (.r n, S.set n (.lst (xs ++ zs))) else none
    | _, _ => none)
  | _ => none
theorem iq_ext : OpR X (inplaceOp .Add) (liftOp (bx X cl) fExt2) := by
  intro pins s σ H x y v u Q I rx ry ⟨ι, F, S, a, b, rl, za, zb, fi⟩
  unfold fExt2 at fi
  split at fi
  · rename_i n
    cases q : S[n]? with
    | none => rw [q] at fi; exact fi.no
    | some c =>
      cases q2 : asLst S b with
      | none => rw [q, q2] at fi; cases c <;> exact fi.no
      | some ws =>
        rw [q, q2] at fi
        cases c with
        | lst ys =>
          simp only at fi
          split at fi
          · rename_i hl
            cases za with
            | @r _ a h =>
              obtain ⟨vs, ha, zz⟩ := rl.ok n a _ h q
              obtain ⟨b', bs, rfl, hb, zb'⟩ := asLst_ok rl zb q2
              obtain ⟨r2, e2⟩ := rl.setL h q ha (paired_append zz zb')
              exact iop_ext pins s σ H _ _ v u Q I rx ry ⟨a, b', vs, bs, rfl, rfl, ha, hb, sz (by rw [paired_len zz, paired_len zb']; exact hl), fi.go e2 r2 (.r h)⟩
          · exact fi.no
        | _ => exact fi.no
  · exact fi.no
/-! ### a op b op' c -/
def eChain (f f' : F2) (a b c : ME) : ME := fun ρ S => (a ρ S).bind fun x S1 => (b ρ S1).bind fun y S2 => (ofO (f x y S2)).bind fun z S3 => (ofO (isB z S3)).bind fun k S4 => if k = true then (c ρ S4).bind fun w S5 => ofO (f' y w S5) else .ok (.v (.bl false)) S4
theorem qe_chain {a b c : Expr} {ma mb mc : ME} {op op' : CmpOp} {f f' : F2} (ho : OpR X (compareOp op) (liftOp (bx X cl) f)) (ho' : OpR X (compareOp op') (liftOp (bx X cl) f')) (ha : QE X cl W a ma) (hb : QE X cl W b mb) (hc : QE X cl W c mc)
    (hm : lastMarks [op, op'] [b, c] = false := by with_unfolding_all rfl) : QE X cl W (.Compare a [op, op'] [b, c] pos) (eChain f f' ma mb mc) :=
  PE.imp (pe_chain ho ho' ha hb hc hm) fun σ H Q ⟨ι, F, S, ρ, r, en, o⟩ => ⟨ι, F, S, ρ, r, en, o.bind.mono fun x H1 ⟨ι1, F1, S1, x', e1, r1, z1, o1⟩ =>
    ⟨ι1, F1, S1, ρ, r1, en.mono e1, o1.bind.mono fun y H2 ⟨ι2, F2, S2, y', e2, r2, z2, o2⟩ => by
      refine ⟨ι2, F2, S2, x', y', r2, z1.mono e2, z2, ?_⟩
      cases qf : f x' y' S2 with
      | none => rw [qf] at o2; exact o2.elim
      | some p =>
        obtain ⟨z, S3⟩ := p
        rw [qf] at o2
        refine ⟨z, S3, rfl, fun zv ι3 F3 H3 e3 r3 z3 => ?_⟩
        simp only [ofO_some, Pu.R.bind_ok] at o2
        unfold isB at o2
        split at o2
        · rename_i k
          cases z3 with
          | v z3 =>
            cases z3
            refine ⟨k, rfl, ?_⟩
            simp only [ofO_some, Pu.R.bind_ok] at o2
            cases k with
            | true =>
              exact ⟨ι3, F3, _, ρ, r3, ((en.mono e1).mono e2).mono e3, (Out.shift e3 o2).bind.mono fun w H4 ⟨ι4, F4, S4, w', e4, r4, z4, o4⟩ => ⟨ι4, F4, S4, y', w', r4, (z2.mono e3).mono e4, z4, o4.fin⟩⟩
            | false => exact o2 _ ι3 F3 H3 e3 r3 (.v (.bl false))
        · exact o2.elim⟩⟩
end
end Pu
/-! Plain: dicts of data. -/
namespace Pu
open PySem
def vv (p : D × D) : D × U := (p.1, .v p.2)
noncomputable def dgetD (kvs : List (D × D)) (k : D) : Option D := (kvs.find? fun p => decide (p.1 = k)).map (·.2)
noncomputable def dhasD (kvs : List (D × D)) (k : D) : Bool := (dgetD kvs k).isSome
noncomputable def dputD (kvs : List (D × D)) (k : D) (w : D) : List (D × D) := if dhasD kvs k = true then kvs.map fun p => if p.1 = k then (p.1, w) else p else kvs ++ [(k, w)]
theorem dget_vv (kvs : List (D × D)) (k : D) : dget (kvs.map vv) k = (dgetD kvs k).map U.v := by
  unfold dget dgetD
  rw [List.find?_map]
  simp only [Option.map_map]
  rfl
theorem dhas_vv (kvs : List (D × D)) (k : D) : dhas (kvs.map vv) k = dhasD kvs k := by
  unfold dhas dhasD
  rw [dget_vv]; cases dgetD kvs k <;> rfl
theorem dput_vv (kvs : List (D × D)) (k d : D) : dput (kvs.map vv) k (.v d) = (dputD kvs k d).map vv := by
  unfold dput dputD
  rw [dhas_vv]
  split
  · simp only [List.map_map]
    congr 1
    funext p
    simp only [Function.comp]
    by_cases h : p.1 = k <;> simp [vv, h]
  · simp [vv]
theorem dgetD_nil (k : D) : dgetD [] k = none := rfl
theorem dgetD_cons (p : D × D) (kvs : List (D × D)) (k : D) : dgetD (p :: kvs) k = if p.1 = k then some p.2 else dgetD kvs k := by
  unfold dgetD
  rw [List.find?_cons]
  by_cases h : p.1 = k <;> simp [h]
theorem dgetD_app (acc : List (D × D)) (k' w k : D) : dgetD (acc ++ [(k', w)]) k = (dgetD acc k).or (if k' = k then some w else none) := by
  induction acc with
  | nil => simp [dgetD_cons, dgetD_nil]
  | cons p r ih => simp only [List.cons_append, dgetD_cons, ih]; split <;> rfl
theorem dgetD_map (kvs : List (D × D)) (k w k' : D) : dgetD (kvs.map fun p => if p.1 = k then (p.1, w) else p) k' = if k' = k then (dgetD kvs k).map (fun _ => w) else dgetD kvs k' := by
  induction kvs with
  | nil => simp [dgetD_nil]
  | cons p r ih =>
    simp only [List.map_cons, dgetD_cons, ih]
    by_cases h1 : p.1 = k
    · by_cases h2 : k' = k
      · simp [h1, h2]
      · have h3 : ¬ k = k' := fun z => h2 z.symm
        simp [h1, h2, h3]
    · by_cases h2 : k' = k
      · simp [h1, h2]
      · simp [h1, h2]
theorem dgetD_put (kvs : List (D × D)) (k w k' : D) : dgetD (dputD kvs k w) k' = if k' = k then some w else dgetD kvs k' := by
  unfold dputD
  by_cases h : dhasD kvs k = true
  · rw [if_pos h, dgetD_map]
    unfold dhasD at h
    obtain ⟨x, hx⟩ := Option.isSome_iff_exists.mp h
    rw [hx]; rfl
  · rw [if_neg h, dgetD_app]
    unfold dhasD at h
    have hn : dgetD kvs k = none := by simpa using h
    by_cases h2 : k' = k
    · subst h2; rw [hn]; simp
    · have h3 : ¬ k = k' := fun z => h2 z.symm
      simp [h2, h3]
theorem dputD_len (kvs : List (D × D)) (k w : D) : (dputD kvs k w).length ≤ kvs.length + 1 := by
  unfold dputD; split <;> simp
theorem dputD_keys (kvs : List (D × D)) (k w : D) : (dputD kvs k w).map (·.1) = if dhasD kvs k = true then kvs.map (·.1) else kvs.map (·.1) ++ [k] := by
  unfold dputD
  split
  · rw [List.map_map]; congr 1; funext p; simp only [Function.comp]; split <;> rfl
  · simp
theorem dhasD_iff (kvs : List (D × D)) (k : D) : dhasD kvs k = true ↔ k ∈ kvs.map (·.1) := by
  unfold dhasD
  induction kvs with
  | nil => simp [dgetD_nil]
  | cons p r ih =>
    rw [dgetD_cons, List.map_cons, List.mem_cons]
    by_cases h : p.1 = k
    · simp [h]
    · have h2 : ¬ k = p.1 := fun z => h z.symm
      simp [h, h2, ih]
theorem dputD_nd {kvs : List (D × D)} {k w : D} (h : (kvs.map (·.1)).Nodup) : ((dputD kvs k w).map (·.1)).Nodup := by
  rw [dputD_keys]
  split
  · exact h
  · rename_i hk
    rw [dhasD_iff] at hk
    rw [List.nodup_append]
    exact ⟨h, by simp, fun a ha b hb => by simp at hb; subst hb; rintro rfl; exact hk ha⟩
theorem dgetD_mem {kvs : List (D × D)} {k v : D} (nd : (kvs.map (·.1)).Nodup) (h : (k, v) ∈ kvs) : dgetD kvs k = some v := by
  induction kvs with
  | nil => cases h
  | cons p r ih =>
    rw [dgetD_cons]
    rw [List.map_cons, List.nodup_cons] at nd
    rcases List.mem_cons.mp h with e | e
    · subst e; simp
    · have : p.1 ≠ k := fun z => nd.1 (by rw [z]; exact List.mem_map_of_mem (f := (·.1)) e)
      rw [if_neg this]; exact ih nd.2 e
theorem mem_of_dgetD {kvs : List (D × D)} {k v : D} (h : dgetD kvs k = some v) : (k, v) ∈ kvs := by
  induction kvs with
  | nil => cases h
  | cons p r ih =>
    rw [dgetD_cons] at h
    split at h
    · rename_i e; cases h; subst e; simp
    · exact List.mem_cons_of_mem _ (ih h)
section
variable {q : U → Sto → Prop} {S : Sto}
/-! the same on the store -/
theorem v_inC {n : Nat} {k : List D} {kvs : List (D × D)} (neg : Bool) (h : S[n]? = some (.dic (kvs.map vv))) : wpO (fInX neg (.v (.tup k)) (.r n) S) q = (isKey (.tup k) = true ∧ q (.v (.bl (cond neg (!dhasD kvs (.tup k)) (dhasD kvs (.tup k))))) S) := by
  rw [v_inD (kvs := kvs.map vv) (by unfold asDic; simp only [h]), dhas_vv]
theorem v_inV {k : List D} {kvs : List (D × D)} (neg : Bool) : wpO (fInX neg (.v (.tup k)) (.v (.dic kvs)) S) q = (isKey (.tup k) = true ∧ q (.v (.bl (cond neg (!dhasD kvs (.tup k)) (dhasD kvs (.tup k))))) S) := by
  rw [v_inD (kvs := kvs.map vv) rfl, dhas_vv]
theorem v_getC {n : Nat} {k : List D} {w : D} {kvs : List (D × D)} (h : S[n]? = some (.dic (kvs.map vv))) : wpO (fGet (.r n) [.v (.tup k), .v w] S) q = (isKey (.tup k) = true ∧ q (.v ((dgetD kvs (.tup k)).getD w)) S) := by
  rw [v_get2 (kvs := kvs.map vv) (by unfold asDic; simp only [h]), dget_vv]
  cases dgetD kvs (.tup k) <;> rfl
theorem v_getV {k : List D} {w : D} {kvs : List (D × D)} : wpO (fGet (.v (.dic kvs)) [.v (.tup k), .v w] S) q = (isKey (.tup k) = true ∧ q (.v ((dgetD kvs (.tup k)).getD w)) S) := by
  rw [v_get2 (kvs := kvs.map vv) rfl, dget_vv]
  cases dgetD kvs (.tup k) <;> rfl
theorem v_setC {n : Nat} {k : List D} {d : D} {kvs : List (D × D)} {p : Sto → Prop} (h : S[n]? = some (.dic (kvs.map vv))) : wpS (fSet (.r n) (.v (.tup k)) (.v d) S) p = ((isKey (.tup k) = true ∧ kvs.length < 100000) ∧ p (S.set n (.dic ((dputD kvs (.tup k) d).map vv)))) := by
  rw [v_setD h, dput_vv, List.length_map]
theorem isDc_c {n : Nat} {kvs : List (D × U)} (h : S[n]? = some (.dic kvs)) : isDc S (.r n) = true := by
  unfold isDc asDic; simp [h]
theorem fin_d {l : Sto} {k : Nat} {kvs : List (D × D)} (h : l[k]? = some (.dic (kvs.map vv))) : fin S (.r (S.length + k)) (S ++ l) = .ok (.v (.dic kvs)) S := by
  unfold fin
  simp only [fixU, fixS_same]
  rw [if_neg (by omega)]
  have e : frz S.length 4 (S ++ l) (.r (S.length + k)) = some (.dic kvs) := by
    show (if S.length + k < S.length then none else _) = _
    rw [if_neg (by omega), sto_k, h]
    show (optAll _ (kvs.map vv)).map D.dic = _
    rw [show vv = fun p : D × D => (p.1, U.v p.2) from rfl, optAll_dic]
    rfl
  rw [e]; rfl
theorem fin_d0 {l : Sto} {kvs : List (D × D)} : fin S (.r S.length) (S ++ .dic (kvs.map vv) :: l) = .ok (.v (.dic kvs)) S := fin_d (k := 0) rfl
theorem seqV_at {u : U} {xs : List U} {k : List U → Prop} (l : Sto) (h : asSeq S u = some xs) : seqV (S ++ l) u k = k xs := by
  unfold seqV; rw [asSeq_app l h]
theorem seqV_at0 {u : U} {xs : List U} {k : List U → Prop} (h : asSeq S u = some xs) : seqV S u k = k xs := by
  unfold seqV; rw [h]
theorem data_get2 {α : Type} {f : α → D} {rows : List α} {i : Nat} {w : U} (hw : (rows.map (U.v ∘ f))[i]? = some w) : ∃ r, rows[i]? = some r ∧ w = .v (f r) ∧ rows.drop i = r :: rows.drop (i + 1) :=
  data_get (by rw [List.map_map]; exact hw)
/-- an instance with plain fields, frozen -/
def uFs (fs : List (Str × D)) : List (Str × U) := fs.map fun p => (p.1, .v p.2)
theorem fixC_ins (n k : Nat) (c : Nat) (fs : List (Str × D)) (T : Sto) : fixC n k T (.ins c (uFs fs)) = some (.ins c (uFs fs)) := by
  show (optAll _ (uFs fs)).map _ = _
  rw [optAll_id fun x hx => ?_]
  · rfl
  · obtain ⟨p, _, rfl⟩ := List.mem_map.mp hx
    rfl
theorem fin_i {l : Sto} {k c : Nat} {fs : List (Str × D)} (h : l[k]? = some (.ins c (uFs fs))) : fin S (.r (S.length + k)) (S ++ l) = .ok (.v (.ins c fs)) S := by
  unfold fin
  simp only [fixU, fixS_same]
  rw [if_neg (by omega)]
  have e : frz S.length 4 (S ++ l) (.r (S.length + k)) = some (.ins c fs) := by
    show (if S.length + k < S.length then none else _) = _
    rw [if_neg (by omega), sto_k, h]
    show (optAll _ (uFs fs)).map (D.ins c) = _
    have : ∀ fs : List (Str × D), optAll (fun p : Str × U => (frz S.length 3 (S ++ l) p.2).map fun d => (p.1, d)) (uFs fs) = some fs := by
      intro fs
      induction fs with
      | nil => rfl
      | cons p r ih => unfold uFs at ih ⊢; simp [optAll, ih]
    rw [this]; rfl
  rw [e]; rfl
theorem fin_i0 {l : Sto} {c : Nat} {fs : List (Str × D)} : fin S (.r S.length) (S ++ .ins c (uFs fs) :: l) = .ok (.v (.ins c fs)) S := fin_i (k := 0) rfl
end
end Pu
/-! Pu: wp of the newer mirrors. -/
namespace Pu
open PySem L2
section
variable {q : U → Sto → Prop} {S : Sto} {X : XP} {ρ : Env'} {Q : Post}
/-! dicts walked -/
def dicW (S : Sto) (u : U) (k : List D → Prop) : Prop := match u with
  | .v (.dic kvs) => k (kvs.map (·.1))
  | .r n => (match S[n]? with
    | some (.dicL kvs) => k (kvs.map (·.1))
    | _ => False)
  | _ => False
@[simp ↓] theorem dicW_v (kvs : List (D × D)) (k : List D → Prop) : dicW S (.v (.dic kvs)) k = k (kvs.map (·.1)) := id rfl
theorem dicW_r {n : Nat} {kvs : List (D × U)} (h : S[n]? = some (.dicL kvs)) (k : List D → Prop) : dicW S (.r n) k = k (kvs.map (·.1)) := by unfold dicW; simp only [h]
@[simp ↓] theorem w_iDic (m : ME) (k : IterV → Sto → Prop) : wpr (iDic m ρ S) k X = wpr (m ρ S) (fun u S1 => dicW S1 u fun ds => k ⟨ds.map U.v, none⟩ S1) X := by
  simp only [iDic, wpr_bind]
  congr 1; funext u S1
  unfold dicW
  cases u with
  | v d =>
    cases d <;> first | rfl | skip
    simp only [List.map_map]; rfl
  | r n =>
    simp only
    cases S1[n]? with
    | none => rfl
    | some c =>
      cases c <;> first | rfl | skip
      simp only [List.map_map]; rfl
theorem w_lk {pick : Env' → Sto → Option Nat} {m : ME} {n : Nat} {kvs : List (D × U)} (hp : pick ρ S = some n) (hc : S[n]? = some (.dic kvs)) : wpr (eLk pick m ρ S) q X = wpr (m ρ (S.set n (.dicL kvs))) (fun u S2 => (match S2[n]? with
      | some (.dicL kvs') => q u (S2.set n (.dic kvs'))
      | _ => False)) (fun _ _ _ => False) := by
  unfold eLk
  simp only [hp, hc, wpr_bind]
  cases m ρ (S.set n (.dicL kvs)) with
  | ok u S2 =>
    simp only [noEx_ok, wpr_ok]
    cases S2[n]? with
    | none => rfl
    | some c => cases c <;> rfl
  | ex k fs S2 => rfl
  | er => rfl
theorem w_lk0 {pick : Env' → Sto → Option Nat} {m : ME} (h : ∀ n kvs, pick ρ S = some n → S[n]? ≠ some (.dic kvs)) : eLk pick m ρ S = m ρ S := by
  unfold eLk
  cases hp : pick ρ S with
  | none => rfl
  | some n =>
    simp only
    cases hc : S[n]? with
    | none => rfl
    | some c => cases c <;> first | rfl | exact absurd hc (h n _ hp)
theorem s_lk0 {pick : Env' → Sto → Option Nat} {m : MS} (h : ∀ n kvs, pick ρ S = some n → S[n]? ≠ some (.dic kvs)) : sLk pick m ρ S = m ρ S := by
  unfold sLk
  cases hp : pick ρ S with
  | none => rfl
  | some n =>
    simp only
    cases hc : S[n]? with
    | none => rfl
    | some c => cases c <;> first | rfl | exact absurd hc (h n _ hp)
def unl (n : Nat) (S : Sto) (k : Sto → Prop) : Prop := match S[n]? with
  | some (.dicL kvs) => k (S.set n (.dic kvs))
  | _ => False
theorem unl_at {n : Nat} {kvs : List (D × U)} (h : S[n]? = some (.dicL kvs)) (k : Sto → Prop) : unl n S k = k (S.set n (.dic kvs)) := by unfold unl; simp only [h]
theorem s_lk {pick : Env' → Sto → Option Nat} {m : MS} {n : Nat} {kvs : List (D × U)} (hp : pick ρ S = some n) (hc : S[n]? = some (.dic kvs)) : wps (sLk pick m ρ S) Q = wps (m ρ (S.set n (.dicL kvs))) { nx := fun ρ2 S2 => unl n S2 (Q.nx ρ2), rt := fun u S2 => unl n S2 (Q.rt u), bk := fun ρ2 S2 => unl n S2 (Q.bk ρ2), ct := fun ρ2 S2 => unl n S2 (Q.ct ρ2), ex := fun _ _ _ _ => False } := by
  have hu : ∀ (S2 : Sto) (f : Sto → RS) (g : Sto → Prop), (∀ T, wps (f T) Q = g T) → wps (unlS n S2 f) Q = unl n S2 g := fun S2 f g h => by
    unfold unlS unl
    cases S2[n]? with
    | none => rfl
    | some c => cases c <;> first | rfl | exact h _
  unfold sLk
  simp only [hp, hc]
  cases m ρ (S.set n (.dicL kvs)) with
  | nx ρ2 S2 => exact hu _ _ _ fun _ => rfl
  | rt u S2 => exact hu _ _ _ fun _ => rfl
  | bk ρ2 S2 => exact hu _ _ _ fun _ => rfl
  | ct ρ2 S2 => exact hu _ _ _ fun _ => rfl
  | ex k fs ρ2 S2 => rfl
  | er => rfl
/-! values -/
theorem v_listX_d {u : U} {kvs : List (D × U)} (h : asDic S u = some kvs) : wpO (fListX [u] S) q = q (.v (.lst (keysD kvs))) S := by
  unfold fListX; simp only [h]; rfl
theorem asDic_seq {u : U} {xs : List U} (h : asSeq S u = some xs) : asDic S u = none := by
  cases u with
  | v d => cases d <;> first | rfl | cases h
  | r n =>
    unfold asSeq at h; unfold asDic
    simp only at h ⊢
    cases hc : S[n]? with
    | none => rfl
    | some c => rw [hc] at h; cases c <;> first | rfl | cases h
theorem v_listX_s {u : U} {ds : List D} (h : asSeq S u = some (ds.map U.v)) : wpO (fListX [u] S) q = q (.v (.lst ds)) S := by
  unfold fListX
  simp only [asDic_seq h]
  rw [v_listV, seqV_at0 h, wpo_allV_map]
@[simp ↓] theorem v_listX_t (ds : List D) : wpO (fListX [.v (.tup ds)] S) q = q (.v (.lst ds)) S := v_listX_s rfl
@[simp ↓] theorem v_listX_l (ds : List D) : wpO (fListX [.v (.lst ds)] S) q = q (.v (.lst ds)) S := v_listX_s rfl
@[simp ↓] theorem v_listX_v (kvs : List (D × D)) : wpO (fListX [.v (.dic kvs)] S) q = q (.v (.lst (kvs.map (·.1)))) S := by
  rw [v_listX_d rfl]; unfold keysD; rw [List.map_map]; rfl
theorem v_pop {n : Nat} {xs : List U} {y : U} (h : S[n]? = some (.lst (xs ++ [y]))) : wpO (fPop (.r n) [] S) q = q y (S.set n (.lst xs)) := by
  unfold fPop; simp [h]
theorem v_extend {n : Nat} {w : U} {xs zs : List U} (h : S[n]? = some (.lst xs)) (h2 : asLst S w = some zs) : wpO (fExtend (.r n) [w] S) q = (xs.length + zs.length ≤ 100000 ∧ q (.v .non) (S.set n (.lst (xs ++ zs)))) := by
  unfold fExtend; simp only [h, h2]
  by_cases hl : xs.length + zs.length ≤ 100000 <;> simp [hl]
theorem v_ext2 {n : Nat} {w : U} {xs zs : List U} (h : S[n]? = some (.lst xs)) (h2 : asLst S w = some zs) : wpO (fExt2 (.r n) w S) q = (xs.length + zs.length ≤ 100000 ∧ q (.r n) (S.set n (.lst (xs ++ zs)))) := by
  unfold fExt2; simp only [h, h2]
  by_cases hl : xs.length + zs.length ≤ 100000 <;> simp [hl]
@[simp ↓] theorem v_max2 (i j : Int) : wpO (fMax2 [.v (.int i), .v (.int j)] S) q = q (.v (.int (if j > i then j else i))) S := id rfl
@[simp ↓] theorem v_min2 (i j : Int) : wpO (fMin2 [.v (.int i), .v (.int j)] S) q = q (.v (.int (if j < i then j else i))) S := id rfl
@[simp ↓] theorem v_iaddI (i j : Int) : wpO (fI (fun i j => some (.int (i + j))) (.v (.int i)) (.v (.int j)) S) q = q (.v (.int (i + j))) S := id rfl
theorem v_cmpO {cs : List Nat} {mf : List U → Sto → R U} {x y : U} {c : Nat} {fs fs' : List (Str × U)} (hx : asIns S x = some (c, fs)) (hy : asIns S y = some (c, fs')) (hc : c ∈ cs) {u : U} {S' : Sto} (hm : mf [x, y] S = .ok u S') : wpO (fCmpO cs mf x y S) q = q u S' := by
  unfold fCmpO
  simp only [hx, hy, true_and, hc, if_true, hm, okO]
  rfl
theorem v_lenO {cs : List Nat} {mf : List U → Sto → R U} {x : U} {c : Nat} {fs : List (Str × U)} (hx : asIns S x = some (c, fs)) (hc : c ∈ cs) {i : Int} {S' : Sto} (hm : mf [x] S = .ok (.v (.int i)) S') (h0 : 0 ≤ i) (h1 : i < 1000000) : wpO (fLenO cs mf [x] S) q = q (.v (.int i)) S' := by
  unfold fLenO
  simp only [hx, hc, if_true, hm, h0, h1, and_self]
  rfl
@[simp ↓] theorem s_aug (i : Nat) (f : F2) (m : ME) : wps (sAug i f m ρ S) Q = getv ρ i (fun x => wpr (m ρ S) (fun y S1 => wpO (f x y S1) fun z S2 => Q.nx (ρ.set i (some z)) S2) (fun c fs S => Q.ex c fs ρ S)) := by
  unfold sAug getv
  cases ρ[i]? with
  | none => rfl
  | some o =>
    cases o with
    | none => rfl
    | some x =>
      simp only [wps_st]
      congr 1; funext y S1
      cases f x y S1 <;> rfl
@[simp ↓] theorem w_chain (f f' : F2) (a b c : ME) : wpr (eChain f f' a b c ρ S) q X = wpr (a ρ S) (fun x S1 => wpr (b ρ S1) (fun y S2 => wpO (f x y S2) fun z S3 => isBl z fun k => if k = true then wpr (c ρ S3) (fun w S5 => wpO (f' y w S5) q) X else q (.v (.bl false)) S3) X) X := by
  simp only [eChain, wpr_bind, wpr_ofO]
  congr 1; funext x S1; congr 1; funext y S2
  congr 1; funext z S3
  simp only [wpr_isB, wpr_ite, wpr_bind, wpr_ofO, wpr_ok]
end
/-! ### comprehensions of several clauses -/
section
variable {α : Type} {S : Sto} {src : Option Nat} {c0 : Option Cell} {g : MG} {t : MT} {mb : Env' → Sto → R Unit} {ρ : Env'}
/-- the turns, the last cell bearing the state -/
theorem lcL_fold (c : α → Cell) (p : D → Bool) (F : α → D → α) (J : α → Prop) : ∀ (ds : List D) (a : α), J a → (∀ a, srcOk src c0 (S ++ [c a])) →
    (∀ a d, d ∈ ds → J a → wpo (g (.v d) ρ) fun ρ1 => wpr (t ρ1 (S ++ [c a])) (fun b T => b = p d ∧ T = S ++ [c a]) (fun _ _ _ => False) ∧ (p d = true → J (F a d) ∧ wpr (mb ρ1 (S ++ [c a])) (fun _ T => T = S ++ [c (F a d)]) (fun _ _ _ => False))) →
    lcL src c0 g t mb (ds.map U.v) ρ (S ++ [c a]) = .ok () (S ++ [c ((ds.filter p).foldl F a)]) ∧ J ((ds.filter p).foldl F a)
  | [], a, hJ, hs, h => ⟨rfl, hJ⟩
  | d :: ds, a, hJ, hs, h => by
    have h1 := h a d (by simp) hJ
    have ih := fun a' hJ' => lcL_fold c p F J ds a' hJ' hs (fun a d hd => h a d (by simp [hd]))
    rw [List.map_cons]
    unfold lcL
    cases qg : g (.v d) ρ with
    | none => rw [qg] at h1; exact h1.elim
    | some ρ1 =>
      rw [qg] at h1
      obtain ⟨h2, h3⟩ := h1
      have e2 := eq_of_wpr h2
      simp only [e2, noEx_ok, R.bind_ok]
      cases hp : p d with
      | false =>
        simp only [Bool.false_eq_true, if_false]
        rw [if_pos (hs a), List.filter_cons_of_neg (by simp [hp])]
        exact ih a hJ
      | true =>
        obtain ⟨hJ', h4⟩ := h3 hp
        obtain ⟨u, T, e4, rfl⟩ := wpr_iff.mp h4
        simp only [if_true, e4, noEx_ok, R.bind_ok]
        rw [if_pos (hs _), List.filter_cons_of_pos hp]
        exact ih _ hJ'
theorem w_next {ws : List Nat} {mi : MI} {src : Option Nat} {q : Unit → Sto → Prop} {X : XP} (c : α → Cell) (p : D → Bool) (F : α → D → α) (J : α → Prop) (ds : List D) (a : α) (hi : wpr (mi ρ (S ++ [c a])) (fun iv T => iv = ⟨ds.map U.v, src⟩ ∧ T = S ++ [c a]) (fun _ _ _ => False)) (hs : ∀ n, src = some n → n < S.length) (hJ : J a)
    (h : ∀ a d, d ∈ ds → J a → wpo (g (.v d) (wipeE ρ ws)) fun ρ1 => wpr (t ρ1 (S ++ [c a])) (fun b T => b = p d ∧ T = S ++ [c a]) (fun _ _ _ => False) ∧ (p d = true → J (F a d) ∧ wpr (mb ρ1 (S ++ [c a])) (fun _ T => T = S ++ [c (F a d)]) (fun _ _ _ => False)))
    (k : q () (S ++ [c ((ds.filter p).foldl F a)])) : wpr (cNext ws mi g t mb ρ (S ++ [c a])) q X := by
  unfold cNext
  rw [eq_of_wpr hi]
  simp only [noEx_ok, R.bind_ok]
  have so : ∀ a', srcOk src (src.bind fun n => (S ++ [c a])[n]?) (S ++ [c a']) := fun a' => by
    unfold srcOk
    cases src with
    | none => trivial
    | some n => simp only [Option.bind_some]; rw [List.getElem?_append_left (hs n rfl), List.getElem?_append_left (hs n rfl)]
  rw [(lcL_fold c p F J ds a hJ so h).1]
  exact k
theorem w_cRun {ws : List Nat} {mi : MI} {mb : Nat → Env' → Sto → R Unit} {kf : Sto → Unit → Sto → R U} {q : U → Sto → Prop} {X : XP} {S1 : Sto} (c : α → Cell) (p : D → Bool) (F : α → D → α) (J : α → Prop) (ds : List D) (a : α) (hi : wpr (mi ρ S) (fun iv T => iv = ⟨ds.map U.v, src⟩ ∧ T = S1) (fun _ _ _ => False)) (hs : ∀ n, src = some n → n < S1.length) (hJ : J a)
    (h : ∀ a d, d ∈ ds → J a → wpo (g (.v d) (wipeE ρ ws)) fun ρ1 => wpr (t ρ1 (S1 ++ [c a])) (fun b T => b = p d ∧ T = S1 ++ [c a]) (fun _ _ _ => False) ∧ (p d = true → J (F a d) ∧ wpr (mb S1.length ρ1 (S1 ++ [c a])) (fun _ T => T = S1 ++ [c (F a d)]) (fun _ _ _ => False)))
    (k : J ((ds.filter p).foldl F a) → wpr (kf S1 () (S1 ++ [c ((ds.filter p).foldl F a)])) q X) : wpr (cRun (c a) ws mi g t mb kf ρ S) q X := by
  unfold cRun
  rw [eq_of_wpr hi]
  simp only [R.bind_ok]
  have so : ∀ a', srcOk src (src.bind fun n => S1[n]?) (S1 ++ [c a']) := fun a' => by
    unfold srcOk
    cases src with
    | none => trivial
    | some n => simp only [Option.bind_some]; rw [List.getElem?_append_left (hs n rfl)]
  have hg := lcL_fold c p F J ds a hJ so h
  rw [if_pos (so a), hg.1]
  simp only [noEx_ok, R.bind_ok]
  exact k hg.2
def cL (acc : List D) : Cell := .lst (acc.map U.v)
noncomputable def cD (kvs : List (D × D)) : Cell := .dic (kvs.map vv)
theorem w_item {e : ME} {q : Unit → Sto → Prop} {X : XP} {acc : List D} (y : D) (hl : acc.length < 100000) (he : wpr (e ρ (S ++ [cL acc])) (fun u T => u = .v y ∧ T = S ++ [cL acc]) (fun _ _ _ => False)) (k : q () (S ++ [cL (acc ++ [y])])) : wpr (cItem S.length e ρ (S ++ [cL acc])) q X := by
  unfold cItem
  rw [eq_of_wpr he]
  simp only [noEx_ok, R.bind_ok, sto_0, List.getElem?_cons_zero, cL, List.length_map]
  rw [if_pos hl]
  simp only [set_0, List.set_cons_zero, wpr_ok]
  simpa [cL] using k
theorem w_key {k e : ME} {q : Unit → Sto → Prop} {X : XP} {kvs : List (D × D)} (ks : List D) (y : D) (hl : kvs.length < 100000) (hk : isKey (.tup ks) = true) (h1 : wpr (k ρ (S ++ [cD kvs])) (fun u T => u = .v (.tup ks) ∧ T = S ++ [cD kvs]) (fun _ _ _ => False)) (h2 : wpr (e ρ (S ++ [cD kvs])) (fun u T => u = .v y ∧ T = S ++ [cD kvs]) (fun _ _ _ => False))
    (kk : q () (S ++ [cD (dputD kvs (.tup ks) y)])) : wpr (cKey S.length k e ρ (S ++ [cD kvs])) q X := by
  unfold cKey
  rw [eq_of_wpr h1]
  simp only [noEx_ok, R.bind_ok]
  rw [eq_of_wpr h2]
  simp only [noEx_ok, R.bind_ok, sto_0, List.getElem?_cons_zero, cD, List.length_map]
  rw [if_pos ⟨hk, hl⟩]
  simp only [set_0, List.set_cons_zero, wpr_ok, dput_vv]
  exact kk
theorem kfV_at {S1 : Sto} {acc : List D} {q : U → Sto → Prop} {X : XP} : wpr (kfV S1 () (S1 ++ [cL acc])) q X = q (.v (.lst acc)) S1 := by
  unfold kfV
  simp only [sto_0, List.getElem?_cons_zero, cL, allV_map, if_true, wpr_ok]
end
end Pu
namespace Pu
/-- the cell that the slot i names -/
def pickV (i : Nat) : Env' → Sto → Option Nat := fun ρ _ => match ρ[i]? with
  | some (some (.r n)) => some n
  | _ => none
end Pu
/-! Pu: a cell frozen in the midst of a def. -/
namespace Pu
open PySem L2
section
variable {B : Bx} {ι : List Addr} {F F' : Addr → Prop} {H : Hp} {S : Sto} {n : Nat} {a : Addr}
theorem Evo.same (hF : ∀ a, F a → F' a) : Evo ι F H ι F' H := Evo.kept (fun _ _ h => h) hF
theorem Rel.kill (r : Rel B ι F S H) (h1 : ι[n]? = some a) (hF : ∀ x, F x → F' x) (hF2 : ∀ x, F' x → F x ∨ x = a ∨ H x = some (.own a)) : Rel B ι F' (S.set n .dead) H := by
  have e : Evo ι F H ι F' H := Evo.same hF
  have ne : ∀ (m : Nat) (b : Addr), ι[m]? = some b → m ≠ n → b ≠ a := fun m b g1 hm z => by
    subst z
    obtain ⟨q1, e1⟩ := List.getElem?_eq_some_iff.mp h1
    obtain ⟨q2, e2⟩ := List.getElem?_eq_some_iff.mp g1
    exact hm ((List.getElem_inj r.nd).mp (e2.trans e1.symm))
  refine ⟨by simp [r.len], r.nd, fun m b d g1 g2 g3 z => ?_, fun m b d g1 g2 => ?_, r.there, fun x z => ?_, r.now⟩
  · by_cases hm : m = n
    · subst hm
      rw [List.getElem?_set] at g2
      simp only [if_true] at g2
      split at g2
      · cases g2; cases g3
      · cases g2
    · rw [List.getElem?_set_ne (Ne.symm hm)] at g2
      rcases hF2 b z with z | z | z
      · exact r.nf m b d g1 g2 g3 z
      · exact ne m b g1 hm z
      · exact r.now b (List.mem_of_getElem? g1) _ z
  · by_cases hm : m = n
    · subst hm
      rw [List.getElem?_set] at g2
      simp only [if_true] at g2
      split at g2
      · cases g2; trivial
      · cases g2
    · rw [List.getElem?_set_ne (Ne.symm hm)] at g2
      have x := r.ok m b d g1 g2
      cases d with
      | lst xs => obtain ⟨vs, h, q⟩ := x; exact ⟨vs, h, q.mono e⟩
      | tpc xs => obtain ⟨vs, h, q⟩ := x; exact ⟨vs, h, q.mono e⟩
      | dic kvs => obtain ⟨es, h, z, q⟩ := x; exact ⟨es, h, z, q.mono e⟩
      | dicL kvs => obtain ⟨es, od, h, z, q⟩ := x; exact ⟨es, od, h, z, q.mono e⟩
      | ins k fs =>
        obtain ⟨dx, vs, h, hd, nd, q⟩ := x
        refine ⟨dx, vs, h, hd, fun z => ?_, q.mono e⟩
        rcases hF2 dx z with z | z | z
        · exact nd z
        · subst z; exact r.now dx (List.mem_of_getElem? h1) _ hd
        · rw [hd] at z
          have : b = a := by injection z with z; injection z
          exact ne m b g1 hm this
      | dead => trivial
  · rcases hF2 x z with z | z | z
    · exact r.fthere x z
    · subst z; exact r.there x (List.mem_of_getElem? h1)
    · rw [z]; simp
end
def plainU : U → Option D
  | .v d => some d
  | .r _ => none
noncomputable def fFz : F1 := fun u S => match u with
  | .v d => some (.v d, S)
  | .r n => match S[n]? with
    | some (.lst xs) => (allV xs).map fun ds => (.v (.lst ds), S.set n .dead)
    | some (.dic kvs) => (optAll (fun p : D × U => (plainU p.2).map fun d => (p.1, d)) kvs).map fun ds => (.v (.dic ds), S.set n .dead)
    | some (.ins c fs) => (optAll (fun p : Str × U => (plainU p.2).map fun d => (p.1, d)) fs).map fun ds => (.v (.ins c ds), S.set n .dead)
    | _ => none
noncomputable def eFz (m : ME) : ME := fun ρ S => (m ρ S).bind fun u S1 => ofO (fFz u S1)
theorem plainU_some {u : U} {d : D} (h : plainU u = some d) : u = .v d := by cases u <;> cases h; rfl
section
variable {X : Cx} {cl : Nat → Addr} {W : WX}
theorem RepU.plain {B : Bx} {ι : List Addr} {F : Addr → Prop} {H : Hp} {v : V} {d : D} (h : RepU B ι F H v (.v d)) : Rep B F H v d := by cases h; assumption
theorem Fin.fz {B : Bx} {ι : List Addr} {F : Addr → Prop} {H : Hp} {S : Sto} {Q : VK} {v : V} {u : U} (h : Fin B ι F H Q (fFz u S)) (r : Rel B ι F S H) (z : RepU B ι F H v u) : Q v H := by
  cases z with
  | v z => exact h.val r (.v z)
  | @r n a hn =>
    unfold fFz at h
    simp only at h
    cases q : S[n]? with
    | none => rw [q] at h; obtain ⟨_, _, e, _⟩ := h; cases e
    | some c =>
      rw [q] at h
      have ok := r.ok n a c hn q
      cases c with
      | dead => obtain ⟨_, _, e, _⟩ := h; cases e
      | dicL kvs => obtain ⟨_, _, e, _⟩ := h; cases e
      | tpc xs => obtain ⟨_, _, e, _⟩ := h; cases e
      | lst xs =>
        simp only at h
        cases qa : allV xs with
        | none => rw [qa] at h; obtain ⟨_, _, e, _⟩ := h; cases e
        | some ds =>
          rw [qa] at h
          obtain ⟨vs, ha, rs⟩ := ok
          have e : Evo ι F H ι (addF F a) H := Evo.same fun _ z => .inl z
          have rk : Rel B ι (addF F a) (S.set n .dead) H := r.kill hn (fun _ z => .inl z) fun x z => z.elim .inl fun z => .inr (.inl z)
          refine h.go e rk (.v (.lst (.inr rfl) ha ?_))
          rw [allV_some qa] at rs
          exact repus_reps (rs.mono e)
      | dic kvs =>
        simp only at h
        cases qa : optAll (fun p : D × U => (plainU p.2).map fun d => (p.1, d)) kvs with
        | none => rw [qa] at h; obtain ⟨_, _, e, _⟩ := h; cases e
        | some ds =>
          rw [qa] at h
          obtain ⟨es, ha, hl, rs⟩ := ok
          have e : Evo ι F H ι (addF F a) H := Evo.same fun _ z => .inl z
          have rk : Rel B ι (addF F a) (S.set n .dead) H := r.kill hn (fun _ z => .inl z) fun x z => z.elim .inl fun z => .inr (.inl z)
          refine h.go e rk (.v (.dic (.inr rfl) (.inl ha) hl (repK_of (optAll_paired (fun g p b pz qz => ?_) rs qa))))
          obtain ⟨p1, p2, p3, w, p4, p5⟩ := pz
          obtain ⟨d, q1, q2⟩ := Option.map_eq_some_iff.mp qz
          subst q2
          rw [plainU_some q1] at p5
          cases p5 with
          | v p5 => exact ⟨p1, p2.mono (ι := ι) (ι' := ι) e, p3, w, p4, p5.mono (ι := ι) (ι' := ι) e⟩
      | ins c fs =>
        simp only at h
        cases qa : optAll (fun p : Str × U => (plainU p.2).map fun d => (p.1, d)) fs with
        | none => rw [qa] at h; obtain ⟨_, _, e, _⟩ := h; cases e
        | some ds =>
          rw [qa] at h
          obtain ⟨dx, vs, ha, hd, nd, rs⟩ := ok
          have e : Evo ι F H ι (addF (addF F a) dx) H := Evo.same fun _ z => .inl (.inl z)
          have rk : Rel B ι (addF (addF F a) dx) (S.set n .dead) H := r.kill hn (fun _ z => .inl (.inl z)) fun x z => by
            rcases z with (z | z) | z
            · exact .inl z
            · exact .inr (.inl z)
            · subst z; exact .inr (.inr hd)
          refine h.go e rk (.v (.ins (.inl (.inr rfl)) (.inr rfl) ha hd (repF_of (optAll_paired (fun g p b pz qz => ?_) rs qa))))
          obtain ⟨p1, p5⟩ := pz
          obtain ⟨d, q1, q2⟩ := Option.map_eq_some_iff.mp qz
          subst q2
          rw [plainU_some q1] at p5
          exact ⟨p1, p5.plain.mono (ι := ι) (ι' := ι) e⟩
theorem qe_fz {e : Expr} {m : ME} (h : QE X cl W e m) : QE X cl W e (eFz m) :=
  PE.imp h fun σ H Q ⟨ι, F, S, ρ, r, en, o⟩ => ⟨ι, F, S, ρ, r, en, o.bind.mono fun x H1 ⟨ι1, F1, S1, x', e1, r1, z1, o1⟩ => o1.fin.fz r1 z1⟩
end
section
variable {q : U → Sto → Prop} {S : Sto} {X : XP} {ρ : Env'}
@[simp ↓] theorem w_fz (m : ME) : wpr (eFz m ρ S) q X = wpr (m ρ S) (fun u S1 => wpO (fFz u S1) q) X := by
  simp only [eFz, wpr_bind, wpr_ofO]
@[simp ↓] theorem v_fzV (d : D) : wpO (fFz (.v d) S) q = q (.v d) S := id rfl
theorem v_fzL {n : Nat} {ds : List D} (h : S[n]? = some (.lst (ds.map U.v))) : wpO (fFz (.r n) S) q = q (.v (.lst ds)) (S.set n .dead) := by
  unfold fFz
  simp only [h, allV_map, Option.map_some]
  rfl
end
end Pu
/-! Pu: own error classes over ValueError whose __init__ says super().__init__(text) and then lays down its parameters. -/
namespace Pu
open PySem PySem.Spec L2
open PyProof.Rows hiding St
open PySem.W (ksEnv ksFn)

/-- what is said of the __init__ of the error class C -/
structure ErrD (P : Program) (K : PySem.W.Frag) (name qual : Str) (params : Arguments) (body : List Stmt) (scope : Scope) (C f : Addr) (fd : FuncData) : Prop where
  ex : ∃ (oc : Value) (od : Option Addr) (dV kV doc pm : Value) (an : Option Addr) (cda : Addr) (ct : Value) (osl : Array (Option Value)) (cc : Addr) (cl : Value) (cld : Option Addr) (csl : Array (Option Value)) (ccl : Value) (cdd : Option Addr) (vs : Array Value) (ccs : Array (Option Value)) (file : Str) (tf : Tok),
    fd = ksFn name qual params body scope dV kV doc pm an (.ref cda) ct cc ∧ K.lookup f = some ⟨oc, od, .func fd, osl⟩ ∧ PySem.W.codeIn K (.ref cda) qual = true ∧ K.lookup cc = some ⟨cl, cld, .cell (some (.ref C)), csl⟩ ∧
    K.lookup cda = some ⟨ccl, cdd, .fields vs, ccs⟩ ∧ vs[2]? = some (.str file tf) ∧ ((P.main.file : Str) == file) = true ∧ DflV K dV []
  cls : ∃ cd, PySem.W.clsIn K C = some cd
  sub : PySem.W.mroIn K C (.ref C) = some true
  op : PySem.W.nsIn K cStatics "thirdparty.any" = some none
  si : PySem.W.ks_superIn K C C "__init__" = some (some (.builtin "ValueError.__init__"))
  sv : PySem.W.subIn K (.ref C) (.type "ValueError") = some true
  oex : OexC K C
  kp : PySem.W.keepIn K (.ref f) = true
/-- the object of an error behind its base's __init__ -/
theorem bw_ok {X : Cx} {pins : List (Addr × Obj)} {σ : L2.St} {H : Hp} {s : Shared} {A : Around} {E : Value → Shared → Prop} {u a C : Addr} {us : List Value} {Q : Value → Shared → Prop} (T : OexC X.K C) (I : Inv X pins σ H s) (e : H a = some (exo a C none))
    (hu : s.heap.get? u = some (PySem.W.kxs_mw "ValueError.__init__" a)) (hl : us.length ≤ sizeLine) (h : ∀ s', Inv X pins σ H s' → Q .none s') : wpAny (model X.prog X.w) A (call (.ref u) us) Q E s := by
  obtain ⟨nm, q, N, bs, bm, sn, sub, ab, col, dd, k0, k1, k2, k3, k5, hC, hbm⟩ := T.cls
  obtain ⟨t1, ho⟩ := exo_at I.hok e
  obtain ⟨hp, g, d, t, os⟩ := s
  refine wpAny_call (codeAny_of_tree ?_)
  show wpAny _ A.in1 (callAny (.ref u) ⟨us, []⟩) _ _ _
  unfold callAny
  refine wpAny_bind (wpAny_load hu ?_)
  refine PySem.W.KFB.if_so (by show (Value.type "method-wrapper" == Value.type "method" || Value.type "method-wrapper" == Value.type "builtin_function_or_method" || Value.type "method-wrapper" == Value.type "method-wrapper") = true; decide) ?_
  refine wpAny_bind (PySem.W.check_bound_init F.excBase_ValueError.toExcCallFacts (I.kIn _ _ hC) ho rfl ?_)
  refine wpAny_bind (wpAny_pure (wpAny_pure ?_))
  refine ⟨plainId_quiet F.excBase_ValueError.init.plain _, codeAny_builtin F.excBase_ValueError.initEntry ?_⟩
  refine PySem.W.exc_init_tree (cls := .ref C) (t0 := t1) (dv := none) (c2 := .none) (c3 := .none) (b4 := .bool false) ho hl fun h' k hx _ => ?_
  have J := I.write (t' := t) (x := a) (e := a) (o := exo a C none) (by rw [e]; exact True.intro) (.inl rfl) k ⟨_, hx⟩ (exo_ok hx)
  have eu : upd H a (exo a C none) = H := funext fun b => by
    by_cases hb : b = a
    · subst hb; rw [upd_same]; exact e.symm
    · exact upd_ne hb
  exact h _ (eu ▸ J)

/-- its promise: tr reads what stands behind super().__init__(..) -/
def errSp (C : Addr) (ps : List Str) (tr : TS) : Sp := fun vs H Q _ => vs.length = ps.length ∧ (∃ a ws, vs = .ref a :: ws ∧ H a = some (exo a C none)) ∧ tr { nx := fun _ H' => Q .non H', rt := fun _ _ => False, bk := fun _ _ => False, ct := fun _ _ => False } (L2.start ps vs) H
theorem ErrD.ok {P : Program} {w : World} {K : PySem.W.Frag} {mg : Str → Option Value} {base : Heap} {name qual : Str} {params : Arguments} {scope : Scope} {C f : Addr} {fd : FuncData} {ps qs : List Str} {ar : Arg} {p0 p1 apos cpos epos : Pos} {e : Expr} {es : List Expr} {rest : List Stmt} {t : TA} {tr : TS} {pl : Sem Bool}
    (Sd : ErrD P K name qual params (.Expr (.Call (.Attribute (.Call (.Name "super" p0) [] [] p1) "__init__" apos) (e :: es) [] cpos) epos :: rest) scope C f fd) (S : SupScope ps scope) (hpar : (params.posonlyargs ++ params.args).head? = some ar) (har : ps = ar.arg :: qs)
    (htop : (P.main.scope.names.lookup ("super" : Str)).isSome = false) (hmg : mg ("super" : Str) = none)
    (ha : ∀ (cd : Value) (cc : Addr) (A : Around) (outer : List Env) (s : Shared) (H : Hp) (E : XK), PA (cxS (L2.CX P w) P w K mg base ps qual scope f cd cc A outer s H E) (e :: es) t)
    (ht : ∀ (σ : L2.St) (H : Hp) (Q : List V → Hp → Prop), (∀ us : List V, us.length ≤ 1000 → Q us H) → t σ H Q)
    (hrest : ∀ (cd : Value) (cc : Addr) (A : Around) (outer : List Env) (s : Shared) (H : Hp) (E : XK), PSs (cxS (L2.CX P w) P w K mg base ps qual scope f cd cc A outer s H E) rest tr)
    (he : ∀ env : Env, starEach (e :: es) env = (false, eval e env) :: starEach es env) (hpl : ∀ env : Env, (backTo cpos (starEach es env)).any (·.1) = false)
    (hev : ∀ env : Env, eval (.Call (.Attribute (.Call (.Name "super" p0) [] [] p1) "__init__" apos) (e :: es) [] cpos) env = (do
      let ov ← attributeBase (.Call (.Name "super" p0) [] [] p1) "__init__" env (eval (.Call (.Name "super" p0) [] [] p1) env)
      standAt apos.atName
      let (f, first) ← holding [ov] (getMethod ov "__init__" pl)
      callWith cpos f first (backTo cpos (starEach (e :: es) env)) []))
    (hsw : ∀ env : Env, swapsWith (.Call (.Attribute (.Call (.Name "super" p0) [] [] p1) "__init__" apos) (e :: es) [] cpos) none epos.line env = pure false) (hin : ∀ (L : Addr) (cd : Value) (cc : Addr), interactive (ksEnv qual scope L f cd cc) = false) :
    FnOk P w K mg base (L2.CX P w) 1 f fd ps (errSp C ps tr) := by
  obtain ⟨oc, od, dV, kV, doc, pm, an, cda, ct, osl, cc, cl, cld, csl, ccl, cdd, vsc, ccs, file, tf, rfl, lk, hcd, hcell, hcode, hvs, hfile, _⟩ := Sd.ex
  refine ⟨fun vs H Q E h => h.1, fun A outer s H args us vs Q E hr e0 hb r hsp => ?_⟩
  obtain ⟨hl, ⟨x, ws, rfl, hx⟩, hsp⟩ := hsp
  have KX : K.In s.heap := e0.mod.kin.keeps fun b o e => (e0.bs b o e).1
  have lim : s.heap.NoLimit := e0.mod.nolimit.keeps fun b o e => (e0.bs b o e).1
  refine ks_codeAny_call_defAt hr.depth (KX _ _ lk) rfl lim (PySem.W.codeRec_of KX hcd) rfl hb S.nocell (fun y hy => S.par _ (List.of_mem_zip hy).1) (fun h₀ hns hk => ?_) S.co S.gen S.kind
  have I := inv_startS (CX := L2.CX P w) (qual := qual) (f := f) (cd := .ref cda) (E := E) (tk := s.toks + (ps.zip us).length) S hr.hd e0 hl r hcell hns hk
  change _root_.PySem.wpAt (model P w) (A.deeper (ksEnv qual scope s.heap.objs.size f (.ref cda) cc)) (.func _ (ksEnv qual scope s.heap.objs.size f (.ref cda) cc)) (execs _ (ksEnv qual scope s.heap.objs.size f (.ref cda) cc)) _ _ _
  obtain ⟨cdD, hD⟩ := Sd.cls
  obtain ⟨u0, us', rfl, ru, rus⟩ : ∃ u0 us', us = u0 :: us' ∧ RelV (.ref x) u0 ∧ Vals ws us' := by
    cases r with
    | cons a b => exact ⟨_, _, rfl, a, b⟩
  obtain rfl : u0 = .ref x := ru
  have hself : (ps.zip (Value.ref x :: us')).reverse.lookup ar.arg = some (.ref x) := zip_lookup (i := 0) S.nd (by rw [har]; rfl) rfl
  have hev2 := hev (ksEnv qual scope s.heap.objs.size f (.ref cda) cc)
  have hsw2 := hsw (ksEnv qual scope s.heap.objs.size f (.ref cda) cc)
  refine ks_wpAt_execs_cons (ks_wpAt_Expr_any (ks_wpAt_MethodCall (pl := pl) ?_ hev2) (hin _ _ _) hsw2)
  obtain ⟨oD, hD1, hD2⟩ : ∃ oD, K.lookup C = some oD ∧ oD.data = .cls cdD := by
    unfold PySem.W.clsIn at hD
    split at hD
    · rename_i c d cd' sl ho
      cases hD
      exact ⟨_, ho, rfl⟩
    · cases hD
  obtain ⟨tx, hxo⟩ := exo_at I.hok hx
  obtain ⟨mb, b1, b2⟩ := I.mod.blt
  refine ks_wpAt_super_base (env := ksEnv qual scope s.heap.objs.size f (.ref cda) cc) S.sup S.cls (by decide) rfl (I.kIn _ _ lk) rfl hpar rfl (I.kIn _ _ hcode) rfl hvs hfile htop ?_
  refine PySem.W.ks_loadName_global S.kind S.sup (Calls.loadGlobal_builtin (env := ksEnv qual scope s.heap.objs.size f (.ref cda) cc) (I.mod.glob.keeps I.bk) hmg (b1.keeps I.bk) ((b2 _ (by decide +kernel)).trans (by first | rfl | kernel_rfl)) ⟨rfl, ?_⟩)
  refine wpAny_loadName_free S.kind S.cls (c := cc) (by show [(("__class__" : Str), cc)].lookup _ = _; simp) ⟨_, I.kIn _ _ hcell, rfl⟩ ?_
  refine wpAny_loadName_local S.kind (S.par _ (by rw [har]; simp)) hns hself ?_
  refine ks_wpAny_isType_cls (I.kIn _ _ hD1) hD2 ⟨rfl, ?_⟩
  refine ks_wpAny_call_super (I.kIn _ _ hD1) hD2 hxo rfl (fun c e => nomatch e) (PySem.W.looks_mroIn I.kIn Sd.sub) (fun h' hso kp => ?_)
  have I2 := ClX.pin_new (t' := s.toks + (ps.zip (Value.ref x :: us')).length) I kp (Nat.le_refl _) hso (fun v z => nomatch z)
  have X2 : K.In h' := I2.kIn
  have J : PySem.W.InstAt h' x _ C none := ⟨kp _ _ hxo, rfl, rfl, trivial⟩
  have hxC : x ≠ C := PySem.W.ks_ne X2 J hD
  have hm := Sd.si
  unfold PySem.W.ks_superIn at hm
  rw [hD] at hm
  have hI : PySem.W.Looks (model P w) h' (isInstance (.ref x) (.type "ValueError")) true := J.type.andThen (PySem.W.looks_subIn X2 Sd.sv)
  refine PySem.W.kxs_getMethod PySem.W.kxs_ValueError (so := h₀.objs.size) (D := C) (x := x) (C := C) (l₀ := cdD.mro) hso (PySem.W.looks_opaque X2 Sd.op) ?_ rfl X2 hm hI hxC (by decide) ?_
  · exact fun A Q E s k q => wpAny_bind ((PySem.W.looks_clsIn X2 hD) A _ E s k (wpAny_pure q))
  have I3 := ClX.pin_new (t' := s.toks + (ps.zip (Value.ref x :: us')).length + 1) (o := PySem.W.kxs_mw "ValueError.__init__" x) I2 (fun _ _ z => Heap.get?_push_of_some _ z) (Nat.le_refl _) (Heap.get?_push_size h' rfl) (fun v z => nomatch z)
  have pl2 : (backTo cpos (starEach (e :: es) (ksEnv qual scope s.heap.objs.size f (.ref cda) cc))).any (·.1) = false := by
    rw [he]
    show (false || (backTo cpos (starEach es _)).any (·.1)) = false
    rw [hpl]; rfl
  refine PySem.W.kxs_callWith (i := "ValueError.__init__") (x := x) pl2 ?_
  have run := (ha (.ref cda) cc A outer s H E).run cpos _ _ _ _ (fun us' H2 => us'.length ≤ 1000 ∧ H2 = H) I3 (ht _ _ _ fun us hus => ⟨hus, rfl⟩)
  have he2 := he (ksEnv qual scope s.heap.objs.size f (.ref cda) cc)
  refine (congrArg (fun z => wpAny _ _ (evalArgs _ true (backTo cpos z) []) _ _ _) he2).mpr ?_
  refine PySem.Calls.evalArgs_plain ((congrArg (fun z => wpAny _ _ (spliced (backTo cpos z)) _ _ _) he2).mp (thn run fun us2 s3 ⟨vs', H2, I4, rv, q1, q2⟩ => ?_))
  subst q2
  refine ⟨ClX.pin_at I4, bw_ok Sd.oex I4 hx (ClX.pin_at I4) (by show us2.length ≤ sizeLine; rw [← Paired.length rv, sizeLine_eq]; omega) fun s5 I5 => ?_⟩
  refine wpAt_of_wpAny (thn ((hrest (.ref cda) cc A outer s H2 E).run _ _ _ _ _ I5 hsp) fun fl s6 hfl => ?_)
  cases fl with
  | next =>
    obtain ⟨σ6, H6, I6, q6⟩ := hfl
    exact ⟨.non, H6, I6.os, I6.bare, I6.base, I6.hok, rfl, q6⟩
  | brk => obtain ⟨_, _, _, q6⟩ := hfl; exact q6.elim
  | cont => obtain ⟨_, _, _, q6⟩ := hfl; exact q6.elim
  | ret u => obtain ⟨_, _, _, _, _, q6⟩ := hfl; exact q6.elim
end Pu
/-! Pu: raise C(..) of an own error class. -/
namespace Pu
open PySem PySem.Spec L2
open PyProof.Rows hiding St

/-- what stands behind super().__init__(..): the parameters are laid down -/
def tErr (K : PySem.W.Frag) : List Str → Nat → TS
  | [], _ => tNext
  | [f], i => tOst K f (tVar 0) (tVar i)
  | f :: g :: r, i => tSeq (tOst K f (tVar 0) (tVar i)) (tErr K (g :: r) (i + 1))
/-- raise: the class c with its fields -/
def sRaise (c : Nat) (fns : List Str) (mA : MA) : MS := fun ρ S => (mA ρ S).st ρ fun us S1 => if us.length = fns.length then .ex c (fns.zip us).reverse ρ S1 else .er
section
variable {K : PySem.W.Frag} {C a : Addr} {H1 : Hp} {Q : XK} {f g : Str} {y z : V}
theorem end_eq {fs : List (Str × V)} {H2 : Hp} {d : Addr} (ha : H1 a = none) (h : ∀ b, b ≠ a → b ≠ d → H2 b = H1 b) : upd (del H2 a) d (.xd fs) = upd H1 d (.xd fs) := by
  funext b
  by_cases hb : b = d
  · subst hb; rw [upd_same, upd_same]
  · rw [upd_ne hb, upd_ne hb]
    by_cases hba : b = a
    · subst hba; rw [del_same]; exact ha.symm
    · rw [del_ne hba]; exact h b hba hb
theorem err1 {p0 p1 : Str} (T : OexC K C) (hf : PySem.W.findIn K (.ref C) f = some none) (ha : H1 a = none) (h : ∀ d, H1 d = none → Q (.ref C) (some d) (upd H1 d (.xd [(f, y)]))) :
    errSp C [p0, p1] (tErr K [f] 1) [.ref a, y] (upd H1 a (exo a C none)) (fun v H2 => v = .non ∧ ∃ (d : Addr) (fs : List (Str × V)), H2 a = some (exo a C (some d)) ∧ H2 d = some (exd d fs) ∧ H1 d = none ∧ Q (.ref C) (some d) (upd (del H2 a) d (.xd fs))) (fun _ _ _ => False) := by
  refine ⟨rfl, ⟨a, _, rfl, upd_same⟩, y, rfl, .ref a, rfl, a, C, rfl, T, hf, .inl ⟨upd_same, fun dx h1 h2 => ⟨rfl, dx, [(f, y)], upd_same, ?_, ?_, ?_⟩⟩⟩
  · rw [upd_ne h2, upd_same]
  · rw [upd_ne h2] at h1; exact h1
  · rw [end_eq ha fun b h3 h4 => by rw [upd_ne h3, upd_ne h4, upd_ne h3]]
    exact h dx (by rw [upd_ne h2] at h1; exact h1)
theorem err2 {p0 p1 p2 : Str} (T : OexC K C) (hf : PySem.W.findIn K (.ref C) f = some none) (hg : PySem.W.findIn K (.ref C) g = some none) (ha : H1 a = none) (h : ∀ d, H1 d = none → Q (.ref C) (some d) (upd H1 d (.xd [(g, z), (f, y)]))) :
    errSp C [p0, p1, p2] (tErr K [f, g] 1) [.ref a, y, z] (upd H1 a (exo a C none)) (fun v H2 => v = .non ∧ ∃ (d : Addr) (fs : List (Str × V)), H2 a = some (exo a C (some d)) ∧ H2 d = some (exd d fs) ∧ H1 d = none ∧ Q (.ref C) (some d) (upd (del H2 a) d (.xd fs))) (fun _ _ _ => False) := by
  refine ⟨rfl, ⟨a, _, rfl, upd_same⟩, y, rfl, .ref a, rfl, a, C, rfl, T, hf, .inl ⟨upd_same, fun dx h1 h2 => ⟨z, rfl, .ref a, rfl, a, C, rfl, T, hg, .inr ⟨dx, [(f, y)], upd_same, ?_, by simp, rfl, dx, [(g, z), (f, y)], ?_, upd_same, ?_, ?_⟩⟩⟩⟩
  · rw [upd_ne h2, upd_same]
  · rw [upd_ne (Ne.symm h2), upd_same]
  · rw [upd_ne h2] at h1; exact h1
  · rw [end_eq ha fun b h3 h4 => by rw [upd_ne h4, upd_ne h3, upd_ne h4, upd_ne h3]]
    exact h dx (by rw [upd_ne h2] at h1; exact h1)
end
section
variable {X : Cx} {cl : Nat → Addr} {W : WX} {c : Nat} {fI : Addr} {fd : FuncData} {x f g : Str} {p pos pos' : Pos} {e : Expr} {es : List Expr} {mA : MA} {p0 p1 p2 : Str}
theorem qs_raise1 (hc : X.calm = true) (tk : Takes X W) (T : OexC X.K (cl c)) (hf : PySem.W.findIn X.K (.ref (cl c)) f = some none) (iC : PySem.W.findIn X.K (.ref (cl c)) "__init__" = some (some (.ref fI))) (tI : PySem.W.typeIn X.K (.ref fI) = some (.type "function"))
    (F1 : FnOk X.prog X.w X.K X.mg X.base (L2.CX X.prog X.w) 1 fI fd [p0, p1] (errSp (cl c) [p0, p1] (tErr X.K [f] 1))) (hr : Room 2 X.A) (hb : Binds X.K fd [p0, p1] []) (hg : Gl X x) (hm : X.mg x = some (.ref (cl c))) (hA : QA X cl W (e :: es) mA)
    (hdb : (x == ("__debug__" : Str)) = false := by decide) (he : starEach (e :: es) X.env = (false, eval e X.env) :: starEach es X.env := by rfl) (hpl : (backTo pos (starEach es X.env)).any (·.1) = false := by rfl) :
    QS X cl W (.Raise (some (.Call (.Name x p) (e :: es) [] pos)) none pos') (sRaise c [f] mA) := by
  refine PS.imp (ps_raise hc tk (pmk_oex (dvs := []) T iC tI F1 hr hb .nil (passes_call tk fun _ _ _ _ h => h.elim) hg hm hA hdb he hpl)) fun D σ H ⟨ι, F, S, ρ, r, en, o⟩ => ?_
  refine ⟨ι, F, S, ρ, r, en, (o.st en).mono fun vs H1 ⟨ι1, F1, S1, us, e1, r1, z1, o1⟩ => ?_⟩
  split at o1
  · rename_i hl
    cases z1 with
    | nil => cases hl
    | cons za zr =>
      cases zr with
      | cons _ _ => simp at hl
      | nil =>
        refine ⟨by simp, fun a ha => err1 (Q := fun cls d H' => W cls d σ H') T hf ha fun d hd => ?_⟩
        exact o1 σ ι1 F1 H1 Evo.refl (en.mono e1) d _ ι1 F1 _ (Evo.new hd) (r1.new hd) upd_same (.cons ⟨rfl, za.mono (Evo.new (ι := ι1) (F := F1) hd)⟩ .nil)
  · exact o1.elim
theorem qs_raise2 (hc : X.calm = true) (tk : Takes X W) (T : OexC X.K (cl c)) (hf : PySem.W.findIn X.K (.ref (cl c)) f = some none) (hf2 : PySem.W.findIn X.K (.ref (cl c)) g = some none) (iC : PySem.W.findIn X.K (.ref (cl c)) "__init__" = some (some (.ref fI))) (tI : PySem.W.typeIn X.K (.ref fI) = some (.type "function"))
    (F1 : FnOk X.prog X.w X.K X.mg X.base (L2.CX X.prog X.w) 1 fI fd [p0, p1, p2] (errSp (cl c) [p0, p1, p2] (tErr X.K [f, g] 1))) (hr : Room 2 X.A) (hb : Binds X.K fd [p0, p1, p2] []) (hg : Gl X x) (hm : X.mg x = some (.ref (cl c))) (hA : QA X cl W (e :: es) mA)
    (hdb : (x == ("__debug__" : Str)) = false := by decide) (he : starEach (e :: es) X.env = (false, eval e X.env) :: starEach es X.env := by rfl) (hpl : (backTo pos (starEach es X.env)).any (·.1) = false := by rfl) :
    QS X cl W (.Raise (some (.Call (.Name x p) (e :: es) [] pos)) none pos') (sRaise c [f, g] mA) := by
  refine PS.imp (ps_raise hc tk (pmk_oex (dvs := []) T iC tI F1 hr hb .nil (passes_call tk fun _ _ _ _ h => h.elim) hg hm hA hdb he hpl)) fun D σ H ⟨ι, F, S, ρ, r, en, o⟩ => ?_
  refine ⟨ι, F, S, ρ, r, en, (o.st en).mono fun vs H1 ⟨ι1, F1, S1, us, e1, r1, z1, o1⟩ => ?_⟩
  split at o1
  · rename_i hl
    cases z1 with
    | nil => cases hl
    | cons za zr =>
      cases zr with
      | nil => simp at hl
      | cons zb zr =>
        cases zr with
        | cons _ _ => simp at hl
        | nil =>
          refine ⟨by simp, fun a ha => err2 (Q := fun cls d H' => W cls d σ H') T hf hf2 ha fun d hd => ?_⟩
          exact o1 σ ι1 F1 H1 Evo.refl (en.mono e1) d _ ι1 F1 _ (Evo.new hd) (r1.new hd) upd_same (.cons ⟨rfl, zb.mono (Evo.new (ι := ι1) (F := F1) hd)⟩ (.cons ⟨rfl, za.mono (Evo.new (ι := ι1) (F := F1) hd)⟩ .nil))
  · exact o1.elim
end
end Pu
/-! Pu: try with several except clauses, each with or without a name; the caught exception stands in the abstract heap, so that it is a value like others. -/
namespace Pu
open PySem PySem.Spec L2
open PyProof.Rows hiding St

theorem xO_ok {P : Program} {w : World} {H : Hp} {h : Heap} {a : Addr} {oe : Obj} (he : h.get? a = some oe) : ObjOk P w H h a (xO a oe) :=
  ⟨he, ⟨oe, he⟩, fun h1 h2 z k => k _ z⟩
theorem inv_lay {X : Cx} {pins : List (Addr × Obj)} {σ : L2.St} {H : Hp} {s : Shared} {a : Addr} {oe : Obj} {vs : Array Value} (I : Inv X pins σ H s) (ha : s.heap.get? a = some oe) (hd : oe.data = .fields vs) (h0 : X.s_0.heap.get? a = none) (na : H a = none) (nL : a ≠ X.env.locals) (np : ∀ p ∈ X.pn ++ pins, p.1 ≠ a) :
    Inv X pins σ (upd H a (xO a oe)) s := by
  have nt : ∀ {b : Addr} {o : HO}, H b = some o → upd H a (xO a oe) b = some o := fun {b o} e => by
    rw [upd_ne (fun z => by rw [z, na] at e; cases e)]; exact e
  have nc : ∀ x c, X.env.cells.lookup x = some c → c ≠ a := fun x c e z => by
    obtain ⟨v, o, h1, h2⟩ := I.cell x c e
    rw [z, ha] at h1
    cases h1
    rw [hd] at h2; cases h2
  refine ⟨I.ok, I.os, I.bare, ⟨I.base.keep, I.base.slot, fun b o e n hx => ?_, I.base.there, fun b xs e => nt (I.base.tups b xs e), fun b o u e => nt (I.base.frzs b o u e), fun b ps e => ?_⟩, I.loc, I.cell, ?_, fun x c e => ?_, fun p hp => ?_, fun b o e => ?_, I.len⟩
  · rw [upd_ne (fun z => by rw [z, h0] at e; cases e)]; exact I.base.free b o e n hx
  · obtain ⟨more, q⟩ := I.base.tbls b ps e
    exact ⟨more, nt q⟩
  · rw [upd_ne (Ne.symm nL)]; exact I.free
  · rw [upd_ne (nc x c e)]; exact I.freeC x c e
  · obtain ⟨q1, q2, q3⟩ := I.pin p hp
    exact ⟨q1, by rw [upd_ne (np p hp)]; exact q2, q3⟩
  · by_cases hb : b = a
    · subst hb
      rw [upd_same] at e; cases e
      exact xO_ok ha
    · rw [upd_ne hb] at e
      exact (I.hok b o e).stay (fun _ _ _ q => q) (fun c q => nt q) fun c xs q => nt q

/-- what an except clause is: the class it names, the slot of its name, its suite -/
structure Hd where
  c : Value
  i : Option Nat
  ts : TS
/-- the ends of a suite: the name goes -/
def offN (i : Option Nat) (σ : L2.St) : L2.St := match i with
  | none => σ
  | some i => σ.set i none
def onN (i : Option Nat) (a : Addr) (σ : L2.St) : L2.St := match i with
  | none => σ
  | some i => σ.set i (some (.ref a))
def endN (i : Option Nat) (D : Ends) : Ends := { nx := fun σ H => D.nx (offN i σ) H, rt := D.rt, bk := fun σ H => D.bk (offN i σ) H, ct := fun σ H => D.ct (offN i σ) H }
/-- what the clauses wish of an exception -/
def wHds (K : PySem.W.Frag) (Wout : WX) (D : Ends) : List Hd → WX
  | [] => Wout
  | h :: r => fun cls d σ H => ∃ b, PySem.W.exmOne K cls h.c = some b ∧
      (b = true → ∀ (a : Addr) (oe : Obj) (vs : Array Value), H a = none → Zc cls d oe → oe.data = .fields vs → h.ts (endN h.i D) (onN h.i a σ) (upd H a (xO a oe))) ∧ (b = false → wHds K Wout D r cls d σ H)
/-- the clause's name stands in slot i -/
def NmOk (X : Cx) : Option Str → Option Nat → Prop
  | none, none => True
  | some n, some i => X.N[i]? = some n ∧ X.env.kindOf n = some .local
  | _, _ => False
inductive HdOk (X : Cx) : List ExceptHandler → List Hd → Prop
  | nil : HdOk X [] []
  | cons {x : Str} {c : Value} {n : Option Str} {i : Option Nat} {ts : TS} {b₀ : Stmt} {suite : List Stmt} {np pos' : Pos} {hds : List ExceptHandler} {l : List Hd} (hc : Names X x c) (hn : NmOk X n i)
      (hsu : ∀ (a : Addr) (pn : List (Addr × Obj)), PSs (X.suite a pn) (b₀ :: suite) ts) (r : HdOk X hds l) : HdOk X (.ExceptHandler (some (.Name x np)) n (b₀ :: suite) pos' :: hds) (⟨c, i, ts⟩ :: l)
section
variable {X : Cx} {pins : List (Addr × Obj)} {σ : L2.St} {H : Hp} {s : Shared} {D : Ends}
/-- behind a suite the handled exception is left -/
theorem out_suite {a : Addr} {pn' : List (Addr × Obj)} (I : Inv (X.suite a (X.pn ++ pins)) pn' σ H s) (ok : X.Ok) : Inv X pins σ H s :=
  { ok := ok, os := I.os, bare := I.bare, base := I.base, loc := I.loc, cell := I.cell, free := I.free, freeC := I.freeC, hok := I.hok, len := I.len, pin := fun p hp => I.pin p (List.mem_append.mpr (.inl hp)) }
theorem in_suite {a : Addr} {oe : Obj} {vs : Array Value} (I : Inv X pins σ H s) (ha : s.heap.get? a = some oe) (hd : oe.data = .fields vs) (h0 : X.s_0.heap.get? a = none) (na : H a = none) (nL : a ≠ X.env.locals) (np : ∀ p ∈ X.pn ++ pins, p.1 ≠ a) : Inv (X.suite a (X.pn ++ pins)) [] σ (upd H a (xO a oe)) s := by
  have J := inv_lay I ha hd h0 na nL np
  exact { ok := J.ok.suite _ _, os := J.os, bare := J.bare, base := J.base, loc := J.loc, cell := J.cell, free := J.free, freeC := J.freeC, hok := J.hok, len := J.len, pin := fun p hp => J.pin p (by rw [List.append_nil] at hp; exact hp) }
/-- the same without the exception in the abstract heap: for the test of a clause -/
theorem in_test {a : Addr} (I : Inv X pins σ H s) : Inv (X.suite a (X.pn ++ pins)) [] σ H s :=
  { ok := I.ok.suite _ _, os := I.os, bare := I.bare, base := I.base, loc := I.loc, cell := I.cell, free := I.free, freeC := I.freeC, hok := I.hok, len := I.len, pin := fun p hp => I.pin p (by rw [List.append_nil] at hp; exact hp) }
end

/-- an exception that has landed in X's frame -/
structure Air (X : Cx) (pins : List (Addr × Obj)) (σ : L2.St) (H : Hp) (a : Addr) (B : Heap) (cls : Value) (d : Option Addr) (sI s : Shared) : Prop where
  inv : Inv X pins σ H sI
  gr : ∀ b o, sI.heap.get? b = some o → b ∉ frs X.stack → B.get? b = some o
  up : sI.heap.UpToSlots s.heap
  fl : HandSPX.FlyingZ B (X.env :: X.outer) a (Zc cls d) s.heap
  na : H a = none
  os : s.os = sI.os
  ag : AllBare s.gens
section
variable {X : Cx} {pins : List (Addr × Obj)} {σ : L2.St} {H : Hp} {a : Addr} {B : Heap} {cls : Value} {d : Option Addr} {sI s : Shared}
theorem Air.now (A : Air X pins σ H a B cls d sI s) : Inv X pins σ H s := A.inv.landed A.gr A.fl.1 A.up A.os A.ag
theorem Air.nfr (A : Air X pins σ H a B cls d sI s) : a ∉ frs (X.env :: X.outer) := fun hm => by
  obtain ⟨oe, vs, h1, _, h3⟩ := A.fl.there
  obtain ⟨_, o, e, nf⟩ := A.fl.2.2.1.mem hm
  cases h1.symm.trans e
  exact nf vs h3
theorem Air.nL (A : Air X pins σ H a B cls d sI s) (hf : X.env.frame = some X.env.locals) : a ≠ X.env.locals := fun z => A.nfr (by
  rw [z]; exact List.mem_filterMap.mpr ⟨X.env, .head _, hf⟩)
theorem Air.gone (A : Air X pins σ H a B cls d sI s) (hs : X.stack = X.env :: X.outer) : sI.heap.get? a = none := by
  cases e : sI.heap.get? a with
  | none => rfl
  | some o =>
    have z := A.gr a o e (by rw [hs]; exact A.nfr)
    rw [A.fl.2.1] at z; cases z
theorem Air.h0 (A : Air X pins σ H a B cls d sI s) (hs : X.stack = X.env :: X.outer) (hx : X.ex = []) : X.s_0.heap.get? a = none := by
  cases e : X.s_0.heap.get? a with
  | none => rfl
  | some o =>
    obtain ⟨o', z⟩ := A.inv.base.there a o e (by rw [hx]; simp)
    rw [A.gone hs] at z; cases z
theorem Air.np (A : Air X pins σ H a B cls d sI s) (hs : X.stack = X.env :: X.outer) : ∀ p ∈ X.pn ++ pins, p.1 ≠ a := fun p hp z => by
  have e := (A.inv.pin p hp).1
  rw [z, A.gone hs] at e; cases e
theorem Air.again {s4 : Shared} (A : Air X pins σ H a B cls d sI s) (h4 : Heap) (fl : HandSPX.FlyingZ B (X.env :: X.outer) a (Zc cls d) h4) (up : s.heap.UpToSlots h4) : Air X pins σ H a B cls d sI { s with heap := h4 } :=
  ⟨A.inv, A.gr, A.up.trans up, fl, A.na, A.os, A.ag⟩
end
section
variable {X : Cx} {pins : List (Addr × Obj)} {Wout : WX} {D : Ends}
/-- the clauses asked one after the other -/
theorem hds_go (hs : X.stack = X.env :: X.outer) (hx : X.ex = []) (hf : X.env.frame = some X.env.locals) (hN : X.N.Nodup) (tk : Takes X Wout) {hds : List ExceptHandler} {l : List Hd} (hk : HdOk X hds l) :
    ∀ {σ : L2.St} {H : Hp} {a : Addr} {B : Heap} {cls : Value} {d : Option Addr} {sI s : Shared}, Air X pins σ H a B cls d sI s → wHds X.K Wout D l cls d σ H → wpAny (model X.prog X.w) X.A (handleBy (.ref a) X.env hds) (SP X pins D) X.xe s := by
  induction hk with
  | nil =>
    intro σ H a B cls d sI s A w
    refine wpAny_handleBy_nil ?_
    obtain ⟨_, _, _, oe, vs, T, _, _, he, _, hd, h1, _⟩ := id A.fl
    have last : wpAny (model X.prog X.w) X.A (setFlight (.ref a) X.env.frame) (fun _ s4 => wpAny (model X.prog X.w) X.A (throw (.ref a) : Sem Flow) (SP X pins D) X.xe s4) X.xe s := by
      rw [hf]
      exact HandSPX.setFlight_upZ A.fl fun h4 hh up => wpAny_throw (tk _ _ ⟨a, B, sI, pins, σ, H, cls, d, rfl, A.inv, A.gr, A.up.trans up, .inr (.inr (by rw [hs]; exact hh)), A.na, A.os, A.ag, w⟩)
    unfold PySem.passOn
    refine wpAny_bind (wpAny_field he hd h1 ?_)
    rw [if_neg (by simp : ¬ ((Value.ref T == Value.none) = true))]
    first
      | exact wpAny_bind (wpAny_pure (wpAny_bind last))
      | exact wpAny_bind last
  | @cons x c n i ts b₀ suite np pos' hds2 l2 hc hn hsu r ih =>
    intro σ H a B cls d sI s A w
    obtain ⟨b, hb1, hyes, hno⟩ := w
    refine wpAny_handleBy_cons (codeAny_handlers_test ?_) (by intro q; cases q)
    obtain ⟨oe3, vs3, he3, hz3, hd3⟩ := A.fl.there
    have J3 := A.now
    have LT : PySem.W.Looks (model X.prog X.w) s.heap (typeOf (.ref a)) cls := fun _ _ _ _ k q => wpAny_typeOf_ref (k _ _ he3) (hz3.1 ▸ q)
    have LM := PySem.W.exm_one J3.kIn LT hb1
    have ask : ∀ {Q : Value → Shared → Prop} {E : Value → Shared → Prop}, Q c s → wpAny (model X.prog X.w) (X.A.mark (some (.ref a))) (eval (.Name x np) X.env) Q E s := fun {Q E} q => by
      rcases hc with ⟨g1, g2, g3 | ⟨g3, g4, g5⟩⟩
      · exact ld_glob (in_test (a := a) J3) g1 g3 q g2
      · exact ld_blt (in_test (a := a) J3) g1 g3 g4 q g5 g2
    refine ask (LM.here ?_)
    cases b with
    | false =>
      show wpAny _ X.A (handleBy (.ref a) X.env hds2) _ _ _
      exact ih A (hno rfl)
    | true =>
      have go : ∀ (h4 : Heap), HandSPX.FlyingZ B (X.env :: X.outer) a (Zc cls d) h4 → s.heap.UpToSlots h4 → ∃ oe, Inv (X.suite a (X.pn ++ pins)) [] σ (upd H a (xO a oe)) { s with heap := h4 } ∧ ts (endN i D) (onN i a σ) (upd H a (xO a oe)) := fun h4 fl4 up4 => by
        have A4 := A.again (s4 := s) h4 fl4 up4
        obtain ⟨oe4, vs4, he4, hz4, hd4⟩ := fl4.there
        exact ⟨oe4, in_suite A4.now he4 hd4 (A4.h0 hs hx) A.na (A.nL hf) (A4.np hs), hyes rfl a oe4 vs4 A.na hz4 hd4⟩
      cases n with
      | none =>
        cases i with
        | some i => exact hn.elim
        | none =>
          refine codeAny_handlers_suite (HandSPX.lands_againZ A.fl fun h4 fl4 up4 => ?_)
          obtain ⟨oe, S4, w4⟩ := go h4 fl4 up4
          refine wpAny_mono ((hsu a (X.pn ++ pins)).run [] _ _ _ _ S4 w4) (fun f s6 hsp => ?_) fun _ _ z => z.elim
          cases f with
          | ret u => obtain ⟨v, σ6, H6, I6, r6, q6⟩ := hsp; exact ⟨v, σ6, H6, out_suite I6 J3.ok, r6, q6⟩
          | next => obtain ⟨σ6, H6, I6, q6⟩ := hsp; exact ⟨σ6, H6, out_suite I6 J3.ok, q6⟩
          | brk => obtain ⟨σ6, H6, I6, q6⟩ := hsp; exact ⟨σ6, H6, out_suite I6 J3.ok, q6⟩
          | cont => obtain ⟨σ6, H6, I6, q6⟩ := hsp; exact ⟨σ6, H6, out_suite I6 J3.ok, q6⟩
      | some n =>
        cases i with
        | none => exact hn.elim
        | some i =>
          obtain ⟨hi, hln⟩ := hn
          refine codeAny_handlers_suite_as (HandSPX.lands_againZ A.fl fun h4 fl4 up4 => ?_)
          obtain ⟨oe, S4, w4⟩ := go h4 fl4 up4
          refine store_ok (X := X.suite a (X.pn ++ pins)) (v := .ref a) S4 hN hi (.inl hln) rfl (fun s5 S5 => ?_) (.inr hln)
          refine wpAny_mono ((hsu a (X.pn ++ pins)).run [] _ _ _ _ S5 w4) (fun f s6 hsp => ?_) fun _ _ z => z.elim
          have off : ∀ {σ6 : L2.St} {H6 : Hp} {Q : Shared → Prop}, Inv (X.suite a (X.pn ++ pins)) [] σ6 H6 s6 → (∀ s7, Inv X pins (σ6.set i none) H6 s7 → Q s7) → wpAny (model X.prog X.w) X.A (do bindName X.env n .none; unbindBehindTheSuite X.env n pos') (fun _ s7 => Q s7) X.xe s6 :=
            fun I6 q => gone_ok (out_suite I6 J3.ok) hN hi hln q
          cases f with
          | ret u => obtain ⟨v, σ6, H6, I6, r6, q6⟩ := hsp; exact off I6 fun s7 J7 => ⟨v, _, H6, J7, r6, q6⟩
          | next => obtain ⟨σ6, H6, I6, q6⟩ := hsp; exact off I6 fun s7 J7 => ⟨_, H6, J7, q6⟩
          | brk => obtain ⟨σ6, H6, I6, q6⟩ := hsp; exact off I6 fun s7 J7 => ⟨_, H6, J7, q6⟩
          | cont => obtain ⟨σ6, H6, I6, q6⟩ := hsp; exact off I6 fun s7 J7 => ⟨_, H6, J7, q6⟩
/-- try: body, except ..: -/
theorem ps_tryX {body : List Stmt} {h₀ : ExceptHandler} {hds : List ExceptHandler} {l : List Hd} {pos : Pos} {tb : WX → TS} (hs : X.stack = X.env :: X.outer) (hx : X.ex = []) (hf : X.env.frame = some X.env.locals) (hN : X.N.Nodup) (tk : Takes X Wout)
    (hb : ∀ (W : WX) (pn : List (Addr × Obj)) (xe : Value → Shared → Prop), Takes (X.tr pn xe) W → PassesOwn (model X.prog X.w) X.A X.env xe → PSs (X.tr pn xe) body (tb W))
    (hk : HdOk X (h₀ :: hds) l) : PS X (.Try body (h₀ :: hds) [] [] pos) (fun D σ H => tb (wHds X.K Wout D l) D σ H) := by
  refine ⟨fun pins s σ H D I h => ?_⟩
  have fr : X.A.frames = some (X.env :: X.outer) := by rw [← hs]; exact I.ok.frames
  have land : Takes (X.tr (X.pn ++ pins) (fun e s₁ => wpAny (model X.prog X.w) X.A (noteFrame e X.env) (fun _ s₂ => wpAny (model X.prog X.w) X.A (setFlight e none) (fun _ s₃ => wpAny (model X.prog X.w) X.A (handleBy e X.env (h₀ :: hds)) (SP X pins D) X.xe s₃) X.xe s₂) X.xe s₁)) (wHds X.K Wout D l) := by
    rintro u s1 ⟨a, B, sI, pins', σ1, H1, cls, d, rfl, J, gr, up, sky, na, os, ag, w⟩
    have sky2 : Sky B (X.env :: X.outer) a (Zc cls d) X.env.locals s1.heap := by rw [← hs]; exact sky
    exact Sky.land Zc.steady fr hf sky2 fun h3 fl3 up3 => hds_go hs hx hf hN tk hk ⟨J.ofTry I.ok, gr, up.trans up3, fl3, na, os, ag⟩ w
  refine wpAny_Try_except (wpAny_mono ((hb _ _ _ land PassesOwn.looking).run [] s σ H D (I.toTry _) h) (fun f s1 hsp => ?_) fun _ _ z => z)
  cases f with
  | ret u => obtain ⟨v, σ6, H6, I6, r6, q6⟩ := hsp; exact ⟨v, σ6, H6, I6.ofTry I.ok, r6, q6⟩
  | next => obtain ⟨σ6, H6, I6, q6⟩ := hsp; exact wpAny_execs_nil ⟨σ6, H6, I6.ofTry I.ok, q6⟩
  | brk => obtain ⟨σ6, H6, I6, q6⟩ := hsp; exact ⟨σ6, H6, I6.ofTry I.ok, q6⟩
  | cont => obtain ⟨σ6, H6, I6, q6⟩ := hsp; exact ⟨σ6, H6, I6.ofTry I.ok, q6⟩
end
end Pu
/-! Pu: defs that let nothing out may be called wherever an exception is handled; try with mirrors. -/
namespace Pu
open PySem PySem.Spec L2
open PyProof.Rows hiding St

structure RoomL (k : Nat) (A : Around) : Prop where
  dp : A.depth + 3 * k + 5 < recursionLimit
  un : A.units + 16 * k + 200 < cLine
theorem RoomL.mono {j k : Nat} {A : Around} (r : RoomL k A) (h : j ≤ k) : RoomL j A := ⟨by have := r.dp; omega, by have := r.un; omega⟩
theorem RoomL.deeper {k : Nat} {A : Around} (r : RoomL (k + 1) A) (env : Env) : RoomL k (A.deeper env) := by
  obtain ⟨r1, r2⟩ := r
  constructor
  · show A.depth + 1 + 3 * k + 5 < _; omega
  · show A.units + 3 + 16 * k + 200 < _; omega
theorem Room.l {k : Nat} {A : Around} (r : Room k A) : RoomL k A := ⟨r.dp, r.un⟩
theorem Room.mark {k : Nat} {A : Around} (r : Room k A) (v : Option Value) : RoomL k (A.mark v) := ⟨r.dp, r.un⟩
/-- what a def promises wherever it is called -/
structure FnL (P : Program) (w : World) (K : PySem.W.Frag) (mg : Str → Option Value) (base : Heap) (k : Nat) (f : Addr) (fd : FuncData) (ps : List Str) (sp : Sp) : Prop where
  len : ∀ vs H Q E, sp vs H Q E → vs.length = ps.length
  run : ∀ (A : Around) (outer : List Env) (s : Shared) (H : Hp) (args : Args) (us : List Value) (vs : List V) (Q : VK), RoomL k A → Env0 P w K mg base A outer s H → BindsTo s fd args (ps.zip us) → Vals vs us → sp vs H Q (fun _ _ _ => False) →
    codeAny (model P w) A (.call (.ref f) args) (fun r s' => ∃ u, r = .ok (.ret u) ∧ CE outer P w H s Q u s') s
abbrev cx0 : CXT := fun _ _ _ _ _ _ => False
/-- the body's context -/
abbrev XdL (P : Program) (w : World) (K : PySem.W.Frag) (mg : Str → Option Value) (base : Heap) (N : List Str) (qual : Str) (scope : Scope) (f : Addr) (cdv : Value) (A : Around) (outer : List Env) (s : Shared) (H : Hp) : Cx :=
  { cxOf cx0 P w K mg base N qual scope f cdv A outer s H (fun _ _ _ => False) with calm := false, xe := fun _ _ => False }
section
variable {P : Program} {w : World} {K : PySem.W.Frag} {mg : Str → Option Value} {base : Heap} {x qual : Str} {params : Arguments} {body : List Stmt} {scope : Scope} {dvs : List V} {kws : List (Str × V)} {f : Addr} {fd : FuncData} {N ps : List Str} {cl : Nat → Addr} {m : MS} {k : Nat}
theorem fn_l (Fd : FunD K x qual params body scope dvs kws f fd) (Sc : FnScope N ps scope)
    (hbd : ∀ (cdv : Value) (A : Around) (outer : List Env) (s : Shared) (H : Hp), RoomL k (A.deeper (envOfC qual scope s.heap.objs.size f cdv)) → QSs (XdL P w K mg base N qual scope f cdv A outer s H) cl W0 body m) :
    FnL P w K mg base (k + 1) f fd ps (SpM ⟨P, w, K, cl⟩ ps.length (runF N.length m)) := by
  obtain ⟨oc, od, dV, kV, doc, pm, an, cdv, ct, osl, rfl, lk, hcd, _, _⟩ := Fd.ex
  refine ⟨fun _ _ _ _ h => h.1, fun A outer s H args us vs Q hr e0 hb r hsp => ?_⟩
  have kin : K.In s.heap := e0.mod.kin.keeps fun b o e => (e0.bs b o e).1
  have nol : s.heap.NoLimit := e0.mod.nolimit.keeps fun b o e => (e0.bs b o e).1
  have kinds : ∀ y ∈ ps.zip us, scope.names.lookup y.1 = some .local ∨ (scope.names.lookup y.1 = some .cell ∧ ((cellsFrom (s.heap.objs.size + 1) scope.names []).lookup y.1).isSome = true) := by
    rintro ⟨n, v⟩ hy
    rcases Sc.par n (List.of_mem_zip hy).1 with q | q
    · exact .inl q
    · exact .inr ⟨q, PySem.W.cellsFrom_some _ _ _ (.inl q)⟩
  refine codeAny_call_function (by have := hr.dp; omega) (kin _ _ lk) rfl Sc.co Sc.gen rfl (PySem.W.codeRec_of kin hcd) (hb _ _ _ _ (wpAny_newFunctionEnv_cells Sc.kind kinds fun env he s1 z => ?_))
  subst he
  refine ⟨nol.keeps z.toInCall.keep, codeAny_func ?_⟩
  have e1 : Env0 P w K mg base ({ A with handled := none }) outer s H := ⟨e0.frames, e0.mod, e0.bs, e0.bsz, e0.funs, e0.frf, e0.hok, e0.bare⟩
  have I0 : Inv (cxOf cx0 P w K mg base N qual scope f cdv ({ A with handled := none }) outer s H fun _ _ _ => False) [] (L2.start N vs) H s1 := inv_start Sc rfl e1 hsp.1 r z
  have o0 := I0.ok
  have I : Inv (XdL P w K mg base N qual scope f cdv A outer s H) [] (L2.start N vs) H s1 :=
    { ok := ⟨o0.mod, o0.kind, o0.glob, o0.blt, o0.above, o0.inj, o0.has, o0.cab, (fun z => Bool.noConfusion (show false = true from z)), o0.frames, o0.stk, o0.exf, o0.bs, o0.bsz, o0.noex, o0.exfs, o0.funs, o0.frf⟩
      os := I0.os, bare := I0.bare, base := I0.base, loc := I0.loc, cell := I0.cell, free := I0.free, freeC := I0.freeC, pin := I0.pin, hok := I0.hok, len := I0.len }
  refine wpAny_mono ((hbd cdv A outer s H (hr.deeper _)).run [] s1 _ H _ I (spM_body hsp)) (fun fl s' hs => ?_) fun _ _ z => z.elim
  cases fl with
  | ret u => obtain ⟨v, σ', H', J, rv, q⟩ := hs; exact ⟨u, rfl, v, H', J.os, J.bare, J.base, J.hok, rv, q⟩
  | next => obtain ⟨σ', H', J, q⟩ := hs; exact ⟨.none, rfl, .non, H', J.os, J.bare, J.base, J.hok, rfl, q⟩
  | brk => obtain ⟨_, _, _, q⟩ := hs; exact q.elim
  | cont => obtain ⟨_, _, _, q⟩ := hs; exact q.elim
end
def eCallL (n : Nat) (mf : List U → Sto → R U) (a : MA) : ME := fun ρ S => (a ρ S).bind fun us S1 => if us.length = n then noX (mf us S1) else .er
section
variable {X : Cx} {cl : Nat → Addr} {W : WX} {k n : Nat} {f : Addr} {fd : FuncData} {ps : List Str} {mf : List U → Sto → R U} {x : Str} {p pos : Pos} {e : Expr} {es : List Expr} {mA : MA}
theorem qe_callL (F : FnL X.prog X.w X.K X.mg X.base k f fd ps (SpM (bx X cl) n mf)) (hr : RoomL k X.A) (hg : Gl X x) (hm : X.mg x = some (.ref f)) (hk : PySem.W.keepIn X.K (.ref f) = true) (hb : Binds X.K fd ps []) (hA : QA X cl W (e :: es) mA)
    (hdb : (x == ("__debug__" : Str)) = false := by decide) (he : starEach (e :: es) X.env = (false, eval e X.env) :: starEach es X.env := by rfl) (hpl : (backTo pos (starEach es X.env)).any (·.1) = false := by rfl) :
    QE X cl W (.Call (.Name x p) (e :: es) [] pos) (eCallL n mf mA) := by
  refine ⟨fun pins s σ H Q I ⟨ι, F0, S, ρ, r, en, o⟩ => ?_⟩
  refine wpAny_Call_Name_kw (ld_glob I hg hm ?_ hdb)
  refine PySem.W.callWith_K (h₀ := X.base) I.ok.mod.kin hk (thn (hA.run pos pins s σ H _ I ⟨ι, F0, S, ρ, r, en, o.bind⟩) fun us s1 ⟨vs, H1, I1, rv, ι1, F1, S1, ws, e1, r1, z1, o1⟩ => ⟨I1.kIn, ?_⟩) he hpl
  split at o1
  · rename_i hl
    have hlen : vs.length = n := by rw [paired_len z1]; exact hl
    have sp : SpM (bx X cl) n mf vs H1 Q (fun _ _ _ => False) := by
      refine ⟨hlen, ι1, F1, S1, ws, r1, z1, ?_⟩
      cases q : mf ws S1 with
      | ok a S' => rw [q] at o1; exact o1
      | ex c fs S' => rw [q] at o1; exact o1.elim
      | er => rw [q] at o1; exact o1
    have hps : us.length = ps.length := by rw [← rv.length]; exact F.len _ _ _ _ sp
    have b := hb s1 us I1.kIn (by rw [List.append_nil]; exact hps)
    rw [List.append_nil] at b
    refine wpAny_call (codeAny_mono (F.run X.A X.stack s1 H1 ⟨us, []⟩ us vs Q hr I1.env0 b rv sp) fun r s' hq => ?_)
    obtain ⟨u, rfl, hq⟩ := hq
    exact I1.after hq
  · exact o1.elim
end
end Pu
/-! Pu: caught errors as values: their fields, isinstance; try. -/
namespace Pu
open PySem PySem.Spec L2
open PyProof.Rows hiding St

/-- what an error class must say -/
structure XC (K : PySem.W.Frag) (C : Addr) : Prop where
  cl : (PySem.W.clsIn K C).isSome = true
  ga : PySem.W.findIn K (.ref C) "__getattribute__" = some (some (.builtin "BaseException.__getattribute__"))
  gg : PySem.W.findIn K (.ref C) "__getattr__" = some none
  sb : PySem.W.subIn K (.ref C) (.type "BaseException") = some true
  hd : PySem.W.hasDictIn K C = true
  ca : PySem.W.findIn K (.ref C) "__class__" = some (some (.builtin "object.__class__"))
  cg : PySem.W.specialIn K (.builtin "object.__class__") "__get__" = some (some (.builtin "getset_descriptor.__get__"))
  ct : PySem.W.takesIn K (.builtin "object.__class__") = some true
  mo : PySem.W.mroIn K C (.type "object") = some true
  ve : PySem.W.kitOne K (.ref C) (.type "ValueError") = some true
def xcB (K : PySem.W.Frag) (C : Addr) : Bool := (PySem.W.clsIn K C).isSome && (He.eqO (PySem.W.findIn K (.ref C) "__getattribute__") (some (some (.builtin "BaseException.__getattribute__"))) && (He.eqO (PySem.W.findIn K (.ref C) "__getattr__") (some none) &&
  (decide (PySem.W.subIn K (.ref C) (.type "BaseException") = some true) && (PySem.W.hasDictIn K C && (He.eqO (PySem.W.findIn K (.ref C) "__class__") (some (some (.builtin "object.__class__"))) && (He.eqO (PySem.W.specialIn K (.builtin "object.__class__") "__get__") (some (some (.builtin "getset_descriptor.__get__"))) &&
  (decide (PySem.W.takesIn K (.builtin "object.__class__") = some true) && (decide (PySem.W.mroIn K C (.type "object") = some true) && decide (PySem.W.kitOne K (.ref C) (.type "ValueError") = some true)))))))))
theorem xcB_ok {K : PySem.W.Frag} {C : Addr} (h : xcB K C = true) : XC K C := by
  obtain ⟨h1, h⟩ := He.ba h
  obtain ⟨h2, h⟩ := He.ba h
  obtain ⟨h3, h⟩ := He.ba h
  obtain ⟨h4, h⟩ := He.ba h
  obtain ⟨h5, h⟩ := He.ba h
  obtain ⟨h6, h⟩ := He.ba h
  obtain ⟨h7, h⟩ := He.ba h
  obtain ⟨h8, h⟩ := He.ba h
  obtain ⟨h9, h⟩ := He.ba h
  exact ⟨h1, He.eqO_ok h2, He.eqO_ok h3, of_decide_eq_true h4, h5, He.eqO_ok h6, He.eqO_ok h7, of_decide_eq_true h8, of_decide_eq_true h9, of_decide_eq_true h⟩
def XTab (K : PySem.W.Frag) (cl : Nat → Addr) (tab : Nat → Nat → Option Bool) : Prop := ∀ c c' b, tab c c' = some b → XC K (cl c) ∧ PySem.W.kitOne K (.ref (cl c)) (.ref (cl c')) = some b
/-- the exception's object, its dict -/
theorem exn_at {X : Cx} {cl : Nat → Addr} {pins : List (Addr × Obj)} {σ : L2.St} {F : Addr → Prop} {H : Hp} {s : Shared} {v : V} {c : Nat} {fs : List (Str × D)} (I : Inv X pins σ H s) (z : Rep (bx X cl) F H v (.exn c fs)) :
    ∃ a oe od dx vs, v = .ref a ∧ PySem.W.InstAt s.heap a oe (cl c) (some od) ∧ s.heap.get? dx = some od ∧ H dx = some (.xd vs) ∧ oe.dict = some dx ∧ RepF (bx X cl) F H vs fs := by
  cases z with
  | exn f g h h1 h2 h3 h4 r =>
    have x := (h.ok I.hok).1
    have hx : ObjOk X.prog X.w H s.heap _ (.xd _) := I.hok _ _ h4
    obtain ⟨mA, hns, hr⟩ := hx
    obtain ⟨od, ho, hl⟩ := lookIn_ns hns
    exact ⟨_, _, od, _, _, rfl, ⟨x, h1, by unfold PySem.W.notCls; rw [h3] <;> rfl, by rw [h2]; exact ho⟩, ho, h4, h2, r⟩
def fIsE (tab : Nat → Nat → Option Bool) : FA := fun us S => match us with
  | [.v (.exn c _), .v (.cls c')] => (tab c c').map fun b => (.v (.bl b), S)
  | [.v (.exn c _), .v (.ty n)] => if n = "ValueError" ∧ (tab c c).isSome = true then some (.v (.bl true), S) else none
  | us => fIsi us S
section
variable {X : Cx} {cl : Nat → Addr} {W : WX}
theorem isE_run {pins : List (Addr × Obj)} {σ : L2.St} {F : Addr → Prop} {H : Hp} {s : Shared} {v : V} {u cv : Value} {c : Nat} {b : Bool} {fs : List (Str × D)} {Q : VK} (I : Inv X pins σ H s) (z : Rep (bx X cl) F H v (.exn c fs)) (rv : RelV v u) (C : XC X.K (cl c)) (e : PySem.W.kitOne X.K (.ref (cl c)) cv = some b) (q : Q (.bl b) H) :
    wpAny (model X.prog X.w) X.A (call (.builtin "isinstance") [u, cv]) (EP X pins σ Q) X.xe s := by
  obtain ⟨a, oe, od, dx, vs, rfl, J, _⟩ := exn_at I z
  obtain rfl : u = Value.ref a := rv
  exact PySem.W.kia_one (PySem.W.kitx_exc C.cl C.ga C.gg C.sb C.ca C.cg C.ct C.mo) I.kIn J e (fun z => nomatch z) fun tk => ⟨.bl b, H, I.kept (t' := tk) fun _ _ z => z, rfl, q⟩
theorem cq_isE {tab : Nat → Nat → Option Bool} (ht : XTab X.K cl tab) : CallR X (.builtin "isinstance") (liftC (bx X cl) (fIsE tab)) := by
  intro pins s σ H xs us Q I rv ⟨ι, F, S, as, rl, zs, fi⟩
  unfold fIsE at fi
  split at fi
  · rename_i c fs c'
    cases q : tab c c' with
    | none => rw [q] at fi; exact fi.no
    | some b =>
      rw [q] at fi
      obtain ⟨C, e⟩ := ht c c' b q
      cases zs with
      | cons z1 z2 => cases z2 with
        | cons z2 z3 =>
          cases z3
          cases rv with
          | cons r1 r2 => cases r2 with
            | cons r2 r3 =>
              cases r3
              cases z1 with
              | v z1 => cases z2 with
                | v z2 => cases z2; cases r2; exact isE_run I z1 r1 C e (fi.val rl (.v (.bl b)))
  · rename_i c fs n
    split at fi
    · rename_i hn
      obtain ⟨rfl, hn⟩ := hn
      obtain ⟨b, q⟩ := Option.isSome_iff_exists.mp hn
      obtain ⟨C, _⟩ := ht c c b q
      cases zs with
      | cons z1 z2 => cases z2 with
        | cons z2 z3 =>
          cases z3
          cases rv with
          | cons r1 r2 => cases r2 with
            | cons r2 r3 =>
              cases r3
              cases z1 with
              | v z1 => cases z2 with
                | v z2 => cases z2; cases r2; exact isE_run I z1 r1 C C.ve (fi.val rl (.v (.bl true)))
    · exact fi.no
  · exact cq_isi pins s σ H xs us Q I rv ⟨ι, F, S, _, rl, zs, fi⟩
/-- e.f -/
def fXf (cs : List Nat) (f : Str) : F1 := fun u S => match u with
  | .v (.exn c fs) => if c ∈ cs then (fs.lookup f).map fun d => (.v d, S) else none
  | _ => none
theorem repF_lookup {B : Bx} {F : Addr → Prop} {H : Hp} {f : Str} {d : D} : ∀ {vs : List (Str × V)} {fs : List (Str × D)}, RepF B F H vs fs → fs.lookup f = some d → ∃ v, vs.lookup f = some v ∧ Rep B F H v d
  | _, _, .nil, e => by cases e
  | _, _, .cons (x := x) a b, e => by
    rw [List.lookup_cons] at e ⊢
    cases q : f == x with
    | true => rw [q] at e; cases e; exact ⟨_, rfl, a⟩
    | false => rw [q] at e; exact repF_lookup b e
theorem qe_xf {cs : List Nat} {f : Str} {e : Expr} {m : ME} {pos : Pos} (he : QE X cl W e m) (hc : ∀ c ∈ cs, XC X.K (cl c) ∧ PySem.W.findIn X.K (.ref (cl c)) f = some none) (hb : attributeBase e f X.env (eval e X.env) = eval e X.env := by rfl) :
    QE X cl W (.Attribute e f pos) (eUn (fXf cs f) m) := by
  refine ⟨fun pins s σ H Q I ⟨ι, F, S, ρ, r, en, o⟩ => ?_⟩
  refine attr_of hb (thn (he.run pins s σ H _ I ⟨ι, F, S, ρ, r, en, o.bind⟩) fun u s1 ⟨x, H1, I1, rx, ι1, F1, S1, ux, e1, r1, z1, o1⟩ => ?_)
  have fi := Out.fin o1
  unfold fXf at fi
  split at fi
  · rename_i c fs
    split at fi
    · rename_i hcs
      obtain ⟨C, hno⟩ := hc c hcs
      cases q : fs.lookup f with
      | none => rw [q] at fi; exact fi.no
      | some d =>
        rw [q] at fi
        cases z1 with
        | v z1 =>
          obtain ⟨a, oe, od, dx, vs, rfl, J, ho, h4, _, rf⟩ := exn_at I1 z1
          obtain rfl : u = Value.ref a := rx
          obtain ⟨v, lv, zv⟩ := repF_lookup rf q
          have hx : ObjOk X.prog X.w H1 s1.heap dx (.xd vs) := I1.hok dx _ h4
          obtain ⟨mA, hns, hr⟩ := hx
          obtain ⟨od', ho', hl⟩ := lookIn_ns hns
          cases ho.symm.trans ho'
          obtain ⟨w, hw, rw'⟩ := RelO.some_of (v := v) (o := mA f) (by rw [← lv]; exact hr f)
          exact HandSPX.exc_get I1.kIn J C.ga C.gg C.sb (PySem.W.findObj_own C.hd hno rfl (by rw [hl, hw])) (handed_of rw') ⟨v, H1, I1.tok _, rw', fi.val r1 (.v zv)⟩
    · exact fi.no
  · exact fi.no
end
end Pu
/-! Pu: try with mirrors. -/
namespace Pu
open PySem PySem.Spec L2
open PyProof.Rows hiding St

def fldV : List (Str × U) → Option (List (Str × D)) := optAll fun p => match p.2 with
  | .v d => some (p.1, d)
  | .r _ => none
/-- an except clause: its class, the slot of its name, its suite -/
structure MH where
  c : Nat
  i : Option Nat
  m : MS
def offR (i : Option Nat) (ρ : Env') : Env' := match i with
  | none => ρ
  | some i => ρ.set i none
def endR (i : Option Nat) : RS → RS
  | .nx ρ S => .nx (offR i ρ) S
  | .bk ρ S => .bk (offR i ρ) S
  | .ct ρ S => .ct (offR i ρ) S
  | .rt u S => .rt u S
  | _ => .er
def catchM (tab : Nat → Nat → Option Bool) (c : Nat) (fs : List (Str × U)) (ρ : Env') (S : Sto) : List MH → RS
  | [] => .ex c fs ρ S
  | h :: r => match tab c h.c with
    | some true => match h.i with
      | none => endR none (h.m ρ S)
      | some i => match fldV fs with
        | some ds => endR (some i) (h.m (ρ.set i (some (.v (.exn c ds)))) S)
        | none => .er
    | some false => catchM tab c fs ρ S r
    | none => .er
def sTry (tab : Nat → Nat → Option Bool) (b : MS) (hs : List MH) : MS := fun ρ S => match b ρ S with
  | .ex c fs ρ1 S1 => catchM tab c fs ρ1 S1 hs
  | r => r
def ETab (K : PySem.W.Frag) (cl : Nat → Addr) (tab : Nat → Nat → Option Bool) : Prop := ∀ c c' b, tab c c' = some b → PySem.W.exmOne K (.ref (cl c)) (.ref (cl c')) = some b
section
variable {B : Bx} {ι : List Addr} {F : Addr → Prop} {H : Hp} {S : Sto}
/-- an exception's dict by value -/
theorem Rel.addX {dx : Addr} {vs : List (Str × V)} (r : Rel B ι F S H) (h : H dx = some (.xd vs)) : Rel B ι (addF F dx) S H ∧ Evo ι F H ι (addF F dx) H := by
  have e : Evo ι F H ι (addF F dx) H := Evo.kept (fun _ _ z => z) fun _ z => .inl z
  refine ⟨⟨r.len, r.nd, fun n a c h1 h2 h3 z => ?_, fun n a c h1 h2 => ?_, r.there, fun a z => ?_, r.now⟩, e⟩
  · rcases z with z | rfl
    · exact r.nf n a c h1 h2 h3 z
    · have ok := r.ok n a c h1 h2
      cases c with
      | lst xs => obtain ⟨_, q, _⟩ := ok; rw [h] at q; cases q
      | tpc xs => obtain ⟨_, q, _⟩ := ok; rw [h] at q; cases q
      | dic kvs => obtain ⟨_, q, _⟩ := ok; rw [h] at q; cases q
      | dicL kvs => obtain ⟨_, _, q, _⟩ := ok; rw [h] at q; cases q
      | ins c fs => obtain ⟨_, _, q, _⟩ := ok; rw [h] at q; cases q
      | dead => cases h3
  · have ok := r.ok n a c h1 h2
    cases c with
    | lst xs => obtain ⟨vs, q, z⟩ := ok; exact ⟨vs, q, z.mono e⟩
    | tpc xs => obtain ⟨vs, q, z⟩ := ok; exact ⟨vs, q, z.mono e⟩
    | dic kvs => obtain ⟨vs, q, y, z⟩ := ok; exact ⟨vs, q, y, z.mono e⟩
    | dicL kvs => obtain ⟨vs, od, q, y, z⟩ := ok; exact ⟨vs, od, q, y, z.mono e⟩
    | ins c fs =>
      obtain ⟨d2, vs, q, q2, nf, z⟩ := ok
      refine ⟨d2, vs, q, q2, ?_, z.mono e⟩
      rintro (y | rfl)
      · exact nf y
      · rw [h] at q2; cases q2
    | dead => trivial
  · rcases z with z | rfl
    · exact r.fthere a z
    · rw [h]; simp
theorem repF_ofP : ∀ {vs : List (Str × V)} {ds : List (Str × D)}, Paired (fun (a : Str × V) (b : Str × D) => a.1 = b.1 ∧ Rep B F H a.2 b.2) vs ds → RepF B F H vs ds
  | _, _, .nil => .nil
  | (_, _) :: _, (_, _) :: _, .cons h t => by
    obtain ⟨h1, h2⟩ := h
    cases h1
    exact .cons h2 (repF_ofP t)
theorem fldV_rep : ∀ {vs : List (Str × V)} {fs : List (Str × U)} {ds : List (Str × D)}, RepFU B ι F H vs fs → fldV fs = some ds → RepF B F H vs ds := by
  intro vs fs ds r e
  have p : Paired (fun (a : Str × V) (b : Str × D) => a.1 = b.1 ∧ Rep B F H a.2 b.2) vs ds := optAll_paired (P := fun (e : Str × V) (p : Str × U) => e.1 = p.1 ∧ RepU B ι F H e.2 p.2) (fun g a b hp hf => by
    obtain ⟨h1, h2⟩ := hp
    obtain ⟨a1, a2⟩ := a
    obtain ⟨g1, g2⟩ := g
    cases a2 with
    | v d => cases hf; cases h2 with | v z => exact ⟨h1, z⟩
    | r n => cases hf) r e
  exact repF_ofP p
end
section
variable {X : Cx} {cl : Nat → Addr} {W : WX}
inductive MHs (X : Cx) (cl : Nat → Addr) : List ExceptHandler → List MH → Prop
  | nil : MHs X cl [] []
  | cons {x : Str} {c : Nat} {n : Option Str} {i : Option Nat} {m : MS} {b₀ : Stmt} {suite : List Stmt} {np pos' : Pos} {hds : List ExceptHandler} {l : List MH} (hc : Names X x (.ref (cl c))) (hn : NmOk X n i)
      (hsu : ∀ (a : Addr) (pn : List (Addr × Obj)), QSs (X.suite a pn) cl W0 (b₀ :: suite) m) (r : MHs X cl hds l) : MHs X cl (.ExceptHandler (some (.Name x np)) n (b₀ :: suite) pos' :: hds) (⟨c, i, m⟩ :: l)
def hdOf (X : Cx) (cl : Nat → Addr) (h : MH) : Hd := ⟨.ref (cl h.c), h.i, liftS (bx X cl) W0 h.m⟩
theorem MHs.ok {hds : List ExceptHandler} {l : List MH} (h : MHs X cl hds l) : HdOk X hds (l.map (hdOf X cl)) := by
  induction h with
  | nil => exact .nil
  | cons hc hn hsu r ih => exact .cons hc hn hsu ih
theorem renv_on {ι : List Addr} {F : Addr → Prop} {H : Hp} {σ : L2.St} {ρ : Env'} {i : Nat} {a : Addr} {u : U} (en : REnv (bx X cl) ι F H σ ρ) (z : RepU (bx X cl) ι F H (.ref a) u) : REnv (bx X cl) ι F H (σ.set i (some (.ref a))) (ρ.set i (some u)) := paired_set (show RepO (bx X cl) ι F H (some (.ref a)) (some u) from z) i en
theorem renv_off {ι : List Addr} {F : Addr → Prop} {H : Hp} {σ : L2.St} {ρ : Env'} {i : Option Nat} (en : REnv (bx X cl) ι F H σ ρ) : REnv (bx X cl) ι F H (offN i σ) (offR i ρ) := by
  cases i with
  | none => exact en
  | some i => exact paired_set (show RepO (bx X cl) ι F H none none from trivial) i en
theorem endR_out {ι : List Addr} {F : Addr → Prop} {H : Hp} {D : Ends} {i : Option Nat} {r : RS} (h : OutS (bx X cl) W ι F H D (endR i r)) : OutS (bx X cl) W0 ι F H (endN i D) r := by
  cases r with
  | nx ρ S => exact fun σ ι' F' H' e r en => h (offN i σ) ι' F' H' e r (renv_off en)
  | bk ρ S => exact fun σ ι' F' H' e r en => h (offN i σ) ι' F' H' e r (renv_off en)
  | ct ρ S => exact fun σ ι' F' H' e r en => h (offN i σ) ι' F' H' e r (renv_off en)
  | rt u S => exact h
  | ex c fs ρ S => exact h.elim
  | er => exact h
theorem catch_ok {tab : Nat → Nat → Option Bool} (ht : ETab X.K cl tab) {D : Ends} {c : Nat} {fs : List (Str × U)} {ρ : Env'} {S : Sto} {σ : L2.St} {ι : List Addr} {F : Addr → Prop} {H : Hp} {dx : Addr} {vs : List (Str × V)} (r : Rel (bx X cl) ι F S H) (en : REnv (bx X cl) ι F H σ ρ) (hx : H dx = some (.xd vs)) (rf : RepFU (bx X cl) ι F H vs fs) :
    ∀ {l : List MH}, OutS (bx X cl) W ι F H D (catchM tab c fs ρ S l) → wHds X.K W D (l.map (hdOf X cl)) (.ref (cl c)) (some dx) σ H
  | [], o => o σ ι F H Evo.refl en dx vs ι F H Evo.refl r hx rf
  | h :: l, o => by
    unfold catchM at o
    cases q : tab c h.c with
    | none => rw [q] at o; exact o.elim
    | some b =>
      rw [q] at o
      refine ⟨b, ht _ _ _ q, fun hb a oe w na hz hd => ?_, fun hb => ?_⟩
      · subst hb
        have e1 : Evo ι F H ι (addF F a) (upd H a (xO a oe)) := Evo.newF na
        have r1 : Rel (bx X cl) ι (addF F a) S (upd H a (xO a oe)) := r.newF na
        have hda : dx ≠ a := fun z => by rw [z, na] at hx; cases hx
        have hx1 : upd H a (xO a oe) dx = some (.xd vs) := by rw [upd_ne hda]; exact hx
        obtain ⟨r2, e2⟩ := r1.addX hx1
        have e12 := e1.trans e2
        have en2 := en.mono e12
        simp only at o
        cases hi : h.i with
        | none =>
          rw [hi] at o
          simp only [hdOf, hi]
          exact ⟨ι, _, S, ρ, r2, en2, (endR_out o).shift e12⟩
        | some i =>
          rw [hi] at o
          simp only at o
          cases qf : fldV fs with
          | none => rw [qf] at o; exact o.elim
          | some ds =>
            rw [qf] at o
            simp only [hdOf, hi]
            have z : RepU (bx X cl) ι (addF (addF F a) dx) (upd H a (xO a oe)) (.ref a) (.v (.exn c ds)) := .v (.exn (.inl (.inr rfl)) (.inr rfl) (.inl upd_same) hz.1 hz.2 hd hx1 (fldV_rep (rf.mono e12) qf))
            exact ⟨ι, _, S, _, r2, renv_on en2 z, (endR_out o).shift e12⟩
      · subst hb
        exact catch_ok ht r en hx rf o
theorem qs_try {tab : Nat → Nat → Option Bool} {body : List Stmt} {h₀ : ExceptHandler} {hds : List ExceptHandler} {l : List MH} {pos : Pos} {mb : MS} (ht : ETab X.K cl tab) (hs : X.stack = X.env :: X.outer) (hx : X.ex = []) (hf : X.env.frame = some X.env.locals) (hN : X.N.Nodup) (tk : Takes X W)
    (hb : ∀ (W : WX) (pn : List (Addr × Obj)) (xe : Value → Shared → Prop), Takes (X.tr pn xe) W → PassesOwn (model X.prog X.w) X.A X.env xe → QSs (X.tr pn xe) cl W body mb) (hk : MHs X cl (h₀ :: hds) l) :
    QS X cl W (.Try body (h₀ :: hds) [] [] pos) (sTry tab mb l) := by
  refine PS.imp (ps_tryX (tb := fun W => liftS (bx X cl) W mb) hs hx hf hN tk hb hk.ok) fun D σ H ⟨ι, F, S, ρ, r, en, o⟩ => ⟨ι, F, S, ρ, r, en, ?_⟩
  unfold sTry at o
  cases q : mb ρ S with
  | nx ρ1 S1 => rw [q] at o; exact o
  | rt u S1 => rw [q] at o; exact o
  | bk ρ1 S1 => rw [q] at o; exact o
  | ct ρ1 S1 => rw [q] at o; exact o
  | er => rw [q] at o; exact o
  | ex c fs ρ1 S1 =>
    rw [q] at o
    intro σ1 ι1 F1 H1 e1 en1 dx vs ι2 F2 H2 e2 r2 hx2 rf2
    exact catch_ok ht r2 (en1.mono e2) hx2 rf2 (o.shift (e1.trans e2))
end
end Pu
/-! Pu: calls whose errors may be caught in this very def: the wish looks at the slots (rules for the body of a try). -/
namespace Pu
open PySem PySem.Spec L2
open PyProof.Rows hiding St

abbrev Es (W : WX) (σ : L2.St) : XK := fun cls d H => W cls d σ H
section
variable {B : Bx} {W : WX} {σ : L2.St} {ι : List Addr} {F : Addr → Prop} {H : Hp}
theorem out_s {β α : Type} {rep : List Addr → (Addr → Prop) → Hp → β → α → Prop} {Q : β → Hp → Prop} {r : R α} (h : Out B W σ ι F H rep Q r) : Out B (fun cls d _ H' => Es W σ cls d H') [] ι F H rep Q r := by
  cases r with
  | ok a S' => exact h
  | ex c fs S' => exact h
  | er => exact h
end
section
variable {X : Cx} {cl : Nat → Addr} {W : WX} {k n : Nat} {f C : Addr} {fd : FuncData} {ps ks : List Str} {mf : List U → Sto → R U} {pins : List (Addr × Obj)} {σ : L2.St} {H : Hp} {s : Shared} {Q : VK} {us ws : List Value} {vs zs : List V} {sp : Sp}
theorem passS {e : Value} {s' : Shared} (tk : Takes X W) (I : Inv X pins σ H s) (c : L2.CX X.prog X.w X.stack H s (Es W σ) e s') : X.xe e s' := tk e s' (XE.of_call I (fun _ _ _ h => h) c)
theorem run_atS {A : Around} {ds : List Value} {dvs : List V} (Fn : FnOk X.prog X.w X.K X.mg X.base (L2.CX X.prog X.w) k f fd ps sp) (hr : Room k A) (hA : Env0 X.prog X.w X.K X.mg X.base A X.stack s H) (hb : Binds X.K fd ps ds) (hd : Vals dvs ds) (tk : Takes X W) (I : Inv X pins σ H s) (r : Vals vs us) (h : sp (vs ++ dvs) H Q (Es W σ)) :
    wpAny (model X.prog X.w) A (call (.ref f) us) (EP X pins σ Q) X.xe s := by
  have rr : Vals (vs ++ dvs) (us ++ ds) := r.append hd
  have hl : (us ++ ds).length = ps.length := rr.length.symm.trans (Fn.len _ _ _ _ h)
  have hb2 := hb s us I.kIn hl
  refine wpAny_call (codeAny_mono (Fn.run A X.stack s H ⟨us, []⟩ (us ++ ds) (vs ++ dvs) Q (Es W σ) hr hA hb2 rr h) fun r s' hq => ?_)
  cases r with
  | error e => exact passS tk I hq
  | ok fl =>
    cases fl with
    | ret u => exact I.after hq
    | next => exact hq.elim
    | brk => exact hq.elim
    | cont => exact hq.elim
theorem run_makeS {g : List Value → List Value → List Value} {gV : List V → List V → List V} (M : Mk X.K C f) (Fn : FnOk X.prog X.w X.K X.mg X.base (L2.CX X.prog X.w) k f fd ps sp) (hr : Room (k + 1) X.A) (hb : KBn X.K fd ps (n + 1) ks g gV) (tk : Takes X W)
    (I : Inv X pins σ H s) (r : Vals vs us) (rz : Vals zs ws) (l1 : vs.length = n) (l2 : zs.length = ks.length)
    (h : ∀ x dx, H x = none → H dx = none → dx ≠ x → sp (gV (.ref x :: vs) zs) (upd (upd H dx (.own x)) x (.ins C dx [])) (fun v H2 => v = .non ∧ Q (.ref x) H2) (Es W σ)) :
    wpAny (model X.prog X.w) X.A (call (.ref C) us (ks.zip ws)) (EP X pins σ Q) X.xe s := by
  obtain ⟨a, ea⟩ : ∃ a, a = s.heap.objs.size + 1 := ⟨_, rfl⟩
  have J := Inv.made (C := C) I
  rw [← ea] at J
  have hq := h a s.heap.objs.size (by rw [ea]; exact I.hok.fresh (Nat.le_succ _)) (I.hok.fresh (Nat.le_refl _)) (by rw [ea]; exact Nat.ne_of_lt (Nat.lt_succ_self _))
  have r1 : Vals (V.ref a :: vs) (Value.ref a :: us) := .cons rfl r
  have r2 := hb.rel r1 rz
  have n1 : (Value.ref a :: us).length = n + 1 := by simp [← r.length, l1]
  refine wpAny_call (make_map (f := f) I.kIn M.makes M.init (beq_iff_eq.mp M.fn) ?_)
  rw [← ea]
  refine codeAny_mono (Fn.run _ X.stack _ _ ⟨Value.ref a :: us, ks.zip ws⟩ (g (Value.ref a :: us) ws) _ _ (Es W σ) (hr.make C us (ks.zip ws)) (J.env0.make C us (ks.zip ws)) (hb.to _ (Value.ref a :: us) ws J.kIn n1 (rz.length.symm.trans l2)) r2 hq) fun r s' hq' => ?_
  cases r with
  | error e => exact passS tk J hq'
  | ok fl =>
    cases fl with
    | ret u =>
      obtain ⟨v, H', I3, rv, ev, q3⟩ := J.after hq'
      subst ev
      exact ⟨rv, ⟨V.ref a, H', I3, rfl, q3⟩⟩
    | next => exact hq'.elim
    | brk => exact hq'.elim
    | cont => exact hq'.elim
end
section
variable {X : Cx} {cl : Nat → Addr} {W : WX} {k n : Nat} {f C : Addr} {fd : FuncData} {ps ks : List Str} {mf : List U → Sto → R U} {x m : Str} {p pos apos : Pos} {e o : Expr} {es : List Expr} {mo : ME} {mA mK : MA} {kws : List Keyword}
theorem make_spS {c : Nat} {σ : L2.St} {ι : List Addr} {F : Addr → Prop} {H : Hp} {S : Sto} {Q : VK} {vs : List V} {us : List U} (r : Rel (bx X cl) ι F S H) (z : RepUs (bx X cl) ι F H vs us)
    (o : Out (bx X cl) W σ ι F H (RepU (bx X cl)) Q (eMake c n mf us S)) : ∀ x dx, H x = none → H dx = none → dx ≠ x → SpM (bx X cl) n mf (.ref x :: vs) (upd (upd H dx (.own x)) x (.ins (cl c) dx [])) (fun v H2 => v = .non ∧ Q (.ref x) H2) (Es W σ) := by
  intro x dx hx hdx ne
  have h := make_sp (X := X) (cl := cl) (W := fun cls d _ H' => Es W σ cls d H') (σ := σ) (n := n) (mf := mf) (c := c) (fun _ _ _ _ _ h => h) r z (Q := Q) ?_ x dx hx hdx ne
  · exact h
  · cases q : eMake c n mf us S with
    | ok a S' => rw [q] at o; exact o
    | ex c fs S' => rw [q] at o; exact o
    | er => rw [q] at o; exact o
theorem kbn_of {ds : List Value} {dvs : List V} (hb : Binds X.K fd ps ds) (hd : Vals dvs ds) {np : Nat} (hn : np + ds.length = ps.length) : KBn X.K fd ps np [] (fun us _ => us ++ ds) (fun vs _ => vs ++ dvs) :=
  ⟨fun s us ws X l1 _ => by
    have h := hb s us X (by simp; omega)
    exact h, fun a _ => a.append hd⟩
/-- C(e, ..), the defaults dds fill up -/
theorem qe_makeS {c : Nat} {dvs : List V} {ds : List Value} {dds : List D} (M : Mk X.K (cl c) f) (Fn : FnOk X.prog X.w X.K X.mg X.base (L2.CX X.prog X.w) k f fd ps (SpM (bx X cl) n mf)) (tk : Takes X W) (hr : Room (k + 1) X.A) (hg : Gl X x) (hm : X.mg x = some (.ref (cl c))) (hb : Binds X.K fd ps ds) (hd : Vals dvs ds) (hD : Dfl cl dvs dds)
    (ha : QA X cl W (e :: es) mA) (hdb : (x == ("__debug__" : Str)) = false := by decide) (he : starEach (e :: es) X.env = (false, eval e X.env) :: starEach es X.env := by rfl) (hpl : (backTo pos (starEach es X.env)).any (·.1) = false := by rfl) :
    QE X cl W (.Call (.Name x p) (e :: es) [] pos) (eMk c n mf (dds.map U.v) mA) := by
  refine ⟨fun pins s σ H Q I ⟨ι, F0, S, ρ, r, en, o⟩ => ?_⟩
  refine wpAny_Call_Name_kw (ld_glob I hg hm ?_ hdb)
  refine PySem.W.callWith_K (h₀ := X.base) I.ok.mod.kin M.kp (thn (ha.run pos pins s σ H _ I ⟨ι, F0, S, ρ, r, en, o.bind⟩) fun us s1 ⟨vs, H1, I1, rv, ι1, F1, S1, ws, e1, r1, z1, o1⟩ => ⟨I1.kIn, ?_⟩) he hpl
  have hs := make_spS r1 (paired_append z1 (reps_u (hD _ F1 H1 rfl))) o1
  have h0 := hs (s1.heap.objs.size + 1) s1.heap.objs.size (I1.hok.fresh (Nat.le_succ _)) (I1.hok.fresh (Nat.le_refl _)) (Nat.ne_of_lt (Nat.lt_succ_self _))
  have hl := Fn.len _ _ _ _ h0
  have hl2 : (vs.length + 1) + ds.length = ps.length := by
    rw [← hl, ← hd.length]; simp; omega
  exact run_makeS (ks := []) (ws := []) (zs := []) M Fn hr (kbn_of hb hd hl2) tk I1 rv .nil rfl rfl fun x dx a b c => hs x dx a b c
theorem qe_makeKS {c np : Nat} {g : List Value → List Value → List Value} {gV : List V → List V → List V} {gU : List U → List U → List U} (M : Mk X.K (cl c) f) (Fn : FnOk X.prog X.w X.K X.mg X.base (L2.CX X.prog X.w) k f fd ps (SpM (bx X cl) n mf)) (tk : Takes X W) (hr : Room (k + 1) X.A) (hg : Gl X x) (hm : X.mg x = some (.ref (cl c)))
    (hb : KBn X.K fd ps (np + 1) ks g gV) (hG : GRel (fun vs zs => (gV (.ref 0 :: vs) zs).tail) gU) (hH : ∀ v vs zs, gV (v :: vs) zs = v :: (gV (.ref 0 :: vs) zs).tail) (ha : QA X cl W (e :: es) mA) (hkw : QK X cl W kws mK)
    (hall : (backToKw pos (keywordEach kws X.env)).all (·.1.isSome) = true := by rfl) (hks : (backToKw pos (keywordEach kws X.env)).filterMap (·.1) = ks := by rfl) (hdb : (x == ("__debug__" : Str)) = false := by decide)
    (he : starEach (e :: es) X.env = (false, eval e X.env) :: starEach es X.env := by rfl) (hpl : ((backTo pos (starEach (e :: es) X.env)).any (·.1) || (backToKw pos (keywordEach kws X.env)).any (·.1.isNone)) = false := by rfl) :
    QE X cl W (.Call (.Name x p) (e :: es) kws pos) (eMkK c n np ks.length mf gU mA mK) := by
  refine ⟨fun pins s σ H Q I ⟨ι, F0, S, ρ, r, en, o⟩ => ?_⟩
  refine wpAny_Call_Name_kw (ld_glob I hg hm ?_ hdb)
  refine PySem.W.callWith_KW (h₀ := X.base) I.ok.mod.kin M.kp hall (thn (ha.run pos pins s σ H _ I ⟨ι, F0, S, ρ, r, en, o.bind⟩) fun us s1 ⟨vs, H1, I1, rv, ι1, F1, S1, wv, e1, r1, z1, o1⟩ => ?_) hpl he
  refine thn (hkw.run pos pins s1 σ H1 _ I1 ⟨ι1, F1, S1, ρ, r1, en.mono e1, o1.bind⟩) fun ws s2 ⟨zs, H2, I2, rz, ι2, F2, S2, wz, e2, r2, z2, o2⟩ => ⟨I2.kIn, ?_⟩
  rw [hks]
  split at o2
  · rename_i hl
    refine run_makeS M Fn hr hb tk I2 rv rz (by rw [paired_len z1]; exact hl.1) (by rw [paired_len z2]; exact hl.2) fun x dx hx hdx ne => ?_
    rw [hH]
    exact make_spS r2 (hG _ _ _ _ _ _ _ _ (z1.mono e2) z2) o2 x dx hx hdx ne
  · exact o2.elim
/-! ### o.m(..) -/
theorem meth_spS {σ : L2.St} {ι : List Addr} {F : Addr → Prop} {H : Hp} {S : Sto} {Q : VK} {v : V} {u : U} {vs dvs : List V} {us : List U} {dds : List D} (hD : Dfl cl dvs dds) (r : Rel (bx X cl) ι F S H) (zv : RepU (bx X cl) ι F H v u) (z : RepUs (bx X cl) ι F H vs us)
    (o : Out (bx X cl) W σ ι F H (RepU (bx X cl)) Q (if us.length + (dds.map U.v).length + 1 = n then mf (u :: (us ++ dds.map U.v)) S else .er)) : SpM (bx X cl) n mf (v :: (vs ++ dvs)) H Q (Es W σ) := by
  have zz : RepUs (bx X cl) ι F H (v :: (vs ++ dvs)) (u :: (us ++ dds.map U.v)) := .cons zv (paired_append z (reps_u (hD _ F H rfl)))
  split at o
  · rename_i hl
    refine ⟨?_, ι, F, S, _, r, zz, out_s o⟩
    rw [paired_len zz]; simpa using hl
  · exact o.elim
theorem qe_methS {c : Nat} {dvs : List V} {ds : List Value} {dds : List D} {pl : Sem Bool} (ho : QE X cl W o mo) (hc : Cls X.K (cl c)) (hm : Meth X.K (cl c) m f) (Fn : FnOk X.prog X.w X.K X.mg X.base (L2.CX X.prog X.w) k f fd ps (SpM (bx X cl) n mf)) (tk : Takes X W) (hr : Room k X.A) (hb : Binds X.K fd ps ds) (hd : Vals dvs ds) (hD : Dfl cl dvs dds) (ha : QA X cl W (e :: es) mA)
    (hst : starEach (e :: es) X.env = (false, eval e X.env) :: starEach es X.env := by rfl) (hpl : (backTo pos (starEach es X.env)).any (·.1) = false := by rfl)
    (ht : eval (.Call (.Attribute o m apos) (e :: es) [] pos) X.env = (do
      let ov ← eval o X.env
      standAt apos.atName
      let (f, first) ← holding [ov] (getMethod ov m pl)
      callWith pos f first (backTo pos (starEach (e :: es) X.env)) (backToKw pos (keywordEach [] X.env))) := by rfl) :
    QE X cl W (.Call (.Attribute o m apos) (e :: es) [] pos) (eMeth c n m mf (dds.map U.v) mo mA) := by
  refine ⟨fun pins s σ H Q I ⟨ι, F0, S, ρ, r, en, ot⟩ => ?_⟩
  refine PySem.W.methodCall_KW (pl := pl) (thn (ho.run pins s σ H _ I ⟨ι, F0, S, ρ, r, en, ot.bind⟩) fun u s1 ⟨xv, H1, I1, rx, ι1, F1, S1, x', e1, r1, z1, o1⟩ => ?_) ht
  cases q : asIns S1 x' with
  | none => rw [q] at o1; exact o1.elim
  | some pr =>
    obtain ⟨c', fs⟩ := pr
    rw [q] at o1
    simp only at o1
    split at o1
    · rename_i hcc
      obtain ⟨rfl, hl⟩ := hcc
      obtain ⟨a, dx, vs, rfl, hx, zf⟩ := asIns_ok r1 z1 q
      obtain rfl : u = Value.ref a := rx
      refine getmeth_ok I1 hx hc hm ((lookup_paired zf).2 hl) ?_
      refine PySem.W.callWith_K (first := [.ref a]) (h₀ := X.base) I.ok.mod.kin hm.kp (thn (ha.run pos pins s1 σ H1 _ I1 ⟨ι1, F1, S1, ρ, r1, en.mono e1, o1.bind⟩) fun us s2 ⟨ys, H2, I2, ry, ι2, F2, S2, y', e2, r2, z2, o2⟩ => ⟨I2.kIn, ?_⟩) hst hpl
      exact run_atS (us := .ref a :: us) (vs := .ref a :: ys) Fn hr I2.env0 hb hd tk I2 (.cons rfl ry) (meth_spS hD r2 (z1.mono e2) z2 o2)
    · exact o1.elim
end
section
variable {X : Cx} {cl : Nat → Addr} {W : WX} {k : Nat} {f : Addr} {fd : FuncData} {ps : List Str} {mf : List U → Sto → R U} {o i value : Expr} {mo mi mv : ME} {cs : List Nat} {pos pos' : Pos}
theorem qe_ixOS (ho : QE X cl W o mo) (hi : QE X cl W i mi) (hc : ∀ c ∈ cs, OwnM X.K (cl c) "__getitem__" f) (Fn : FnOk X.prog X.w X.K X.mg X.base (L2.CX X.prog X.w) k f fd ps (SpM (bx X cl) 2 mf)) (tk : Takes X W) (hr : Room (k + 1) X.A) (hb : Binds X.K fd ps [])
    (hsl : ∀ x y, subscripted i true x y = runValue (.builtin "lifetime.subscript" ⟨[x, y], []⟩) := by intro _ _; with_unfolding_all rfl) : QE X cl W (.Subscript o i pos) (eIxO cs mf mo mi) := by
  refine ⟨fun pins s σ H Q I ⟨ι, F, S, ρ, r, en, ot⟩ => ?_⟩
  refine PyProof.Rows.Subscript_ (thn (ho.run pins s σ H _ I ⟨ι, F, S, ρ, r, en, ot.bind⟩) fun u s1 ⟨x, H1, I1, rx, ι1, F1, S1, x', e1, r1, z1, o1⟩ => ?_)
  refine thn (hi.run pins s1 σ H1 _ I1 ⟨ι1, F1, S1, ρ, r1, en.mono e1, o1.bind⟩) fun iu s2 ⟨iv, H2, I2, ri, ι2, F2, S2, i', e2, r2, z2, o2⟩ => ?_
  cases q : asIns S2 x' with
  | none => rw [q] at o2; exact o2.elim
  | some pr =>
    obtain ⟨c', fs⟩ := pr
    rw [q] at o2
    simp only at o2
    split at o2
    · rename_i hcc
      have m := hc c' hcc
      obtain ⟨a, dx, vs, rfl, hx, zf⟩ := asIns_ok r2 (z1.mono e2) q
      obtain rfl : u = Value.ref a := rx
      obtain ⟨mA, O, _⟩ := ins_get I2.hok hx
      obtain ⟨od, J, _⟩ := O.look
      obtain ⟨mm, Ff⟩ := I2.fr
      refine PySem.W.sub_K Ff I2.ok.mod.kin J m.at_ m.fi m.fn ?_ (hsl _ _)
      exact run_atS Fn hr.in1 I2.env0.in1 hb .nil tk I2 (vs := [.ref a, iv]) (.cons rfl (.cons ri .nil)) ⟨rfl, ι2, F2, S2, [x', i'], r2, .cons (z1.mono e2) (.cons z2 .nil), out_s o2⟩
    · exact o2.elim
theorem outS_s {D : Ends} {ι : List Addr} {F : Addr → Prop} {H : Hp} {σ : L2.St} {ρ : Env'} {r : R U} (en : REnv (bx X cl) ι F H σ ρ) (h : OutS (bx X cl) W ι F H D (r.st ρ fun _ S4 => .nx ρ S4)) :
    Out (bx X cl) (fun cls d _ H' => Es W σ cls d H') [] ι F H (RepU (bx X cl)) (fun _ H' => D.nx σ H') r := by
  refine out_s (σ := σ) ((h.st en).mono fun v H1 ⟨ι1, F1, S1, u, e1, r1, z1, o1⟩ => ?_)
  exact o1 σ ι1 F1 H1 Evo.refl r1 (en.mono e1)
theorem qs_setOS (ho : QE X cl W o mo) (hi : QE X cl W i mi) (hv : QE X cl W value mv) (hc : ∀ c ∈ cs, OwnM X.K (cl c) "__setitem__" f) (Fn : FnOk X.prog X.w X.K X.mg X.base (L2.CX X.prog X.w) k f fd ps (SpM (bx X cl) 3 mf)) (tk : Takes X W) (hr : Room k X.A) (hb : Binds X.K fd ps [])
    (hs : swapsWith value (some (.Subscript o i pos')) pos.line X.env = pure false := by rfl) : QS X cl W (.Assign [.Subscript o i pos'] value pos) (sSetO cs mf mo mi mv) := by
  refine ⟨fun pins s σ H D I ⟨ι, F, S, ρ, r, en, ot⟩ => ?_⟩
  refine wpAny_Assign_Subscript (thn (hv.run pins s σ H _ I ⟨ι, F, S, ρ, r, en, ot.st en⟩) fun vu s1 ⟨v, H1, I1, rv, ι1, F1, S1, v', e1, r1, z1, o1⟩ => ?_) hs
  refine thn (ho.run pins s1 σ H1 _ I1 ⟨ι1, F1, S1, ρ, r1, en.mono e1, o1.st (en.mono e1)⟩) fun ou s2 ⟨ov, H2, I2, ro, ι2, F2, S2, x', e2, r2, z2, o2⟩ => ?_
  refine thn (hi.run pins s2 σ H2 _ I2 ⟨ι2, F2, S2, ρ, r2, (en.mono e1).mono e2, o2.st ((en.mono e1).mono e2)⟩) fun iu s3 ⟨iv, H3, I3, ri, ι3, F3, S3, i', e3, r3, z3, o3⟩ => ?_
  cases q : asIns S3 x' with
  | none => rw [q] at o3; exact o3.elim
  | some pr =>
    obtain ⟨c', fs⟩ := pr
    rw [q] at o3
    simp only at o3
    split at o3
    · rename_i hcc
      have m := hc c' hcc
      obtain ⟨a, dx, vs, rfl, hx, zf⟩ := asIns_ok r3 (z2.mono e3) q
      obtain rfl : ou = Value.ref a := ro
      obtain ⟨mA, O, _⟩ := ins_get I3.hok hx
      obtain ⟨od, J, _⟩ := O.look
      obtain ⟨mm, Ff⟩ := I3.fr
      refine PySem.W.ksp_setItem Ff I3.ok.mod.kin J m.ns m.at_ m.fn ?_
      refine thn (run_atS (Q := fun _ H' => D.nx σ H') Fn hr I3.env0 hb .nil tk I3 (vs := [.ref a, iv, v]) (.cons rfl (.cons ri (.cons rv .nil))) ⟨rfl, ι3, F3, S3, [x', i', v'], r3, .cons (z2.mono e3) (.cons z3 (.cons ((z1.mono e2).mono e3) .nil)), outS_s (((en.mono e1).mono e2).mono e3) o3⟩) fun u s4 ⟨_, H4, I4, _, q4⟩ => ?_
      exact ⟨σ, H4, I4, q4⟩
    · exact o3.elim
end
end Pu
/-! Pu: the head's facts about own error classes. -/
namespace Pu
open PySem PySem.Spec L2
open PyProof.Rows hiding St
open PySem.W (ksFn)
namespace Hx
def oexB (K : PySem.W.Frag) (C : Addr) : Bool := (match K.lookup C with
  | some ⟨.type "type", _, .cls cd, sl⟩ => (match cd.mro, sl.toList with
    | .ref D :: bm, [_, _, _, _, some (.builtin n), _] => decide (D = C) && (decide (n = "ValueError.__new__") && (!cd.hasDel && (cd.hasDict && PySem.HandSPX.refsVE bm)))
    | _, _ => false)
  | _ => false) && (He.eqO (PySem.W.findIn K (.ref C) "__setattr__") (some (some (.builtin "object.__setattr__"))) && (decide (PySem.W.subIn K (.ref C) (.type "BaseException") = some true) && (decide (PySem.W.typeIn K (.ref C) = some (.type "type")) && PySem.W.keepIn K (.ref C))))
theorem oexB_ok {K : PySem.W.Frag} {C : Addr} (h : oexB K C = true) : OexC K C := by
  obtain ⟨h1, h⟩ := He.ba h
  obtain ⟨h2, h⟩ := He.ba h
  obtain ⟨h3, h⟩ := He.ba h
  obtain ⟨h4, h5⟩ := He.ba h
  refine ⟨?_, He.eqO_ok h2, of_decide_eq_true h3, of_decide_eq_true h4, h5⟩
  split at h1
  · rename_i dd cd sl ho
    split at h1
    · rename_i D bm k0 k1 k2 k3 n k5 hm hs
      obtain ⟨g1, h1⟩ := He.ba h1
      obtain ⟨g2, h1⟩ := He.ba h1
      obtain ⟨g3, h1⟩ := He.ba h1
      obtain ⟨g4, g5⟩ := He.ba h1
      obtain rfl := of_decide_eq_true g1
      obtain rfl := of_decide_eq_true g2
      obtain ⟨nm, bs, mro, ns, qn, hd, sn, sub, ab, col, del⟩ := cd
      simp only at hm g3 g4
      subst hm g4
      obtain rfl : del = false := by simpa using g3
      obtain rfl : sl = #[k0, k1, k2, k3, some (.builtin "ValueError.__new__"), k5] := by
        obtain ⟨l⟩ := sl
        simp only at hs
        rw [hs]
      exact ⟨nm, qn, ns, bs, bm, sn, sub, ab, col, dd, k0, k1, k2, k3, k5, ho, g5⟩
    · cases h1
  · cases h1
def errB (P : Program) (K : PySem.W.Frag) (f C : Addr) : Bool := (match K.lookup f with
  | some ⟨_, _, .func fd, _⟩ => (match fd.closure with
    | [(_, cc)] => (match K.lookup cc with
      | some ⟨_, _, .cell (some (.ref D)), _⟩ => decide (D = C)
      | _ => false)
    | _ => false) && (match fd.code with
    | .ref cda => (match K.lookup cda with
      | some ⟨_, _, .fields vs, _⟩ => (match (vs[2]? : Option Value) with
        | some (.str file _) => ((P.main.file : Str) == file)
        | _ => false)
      | _ => false)
    | _ => false)
  | _ => false) && ((PySem.W.clsIn K C).isSome && (decide (PySem.W.mroIn K C (.ref C) = some true) && (He.eqO (PySem.W.nsIn K cStatics "thirdparty.any") (some none) &&
    (He.eqO (PySem.W.ks_superIn K C C "__init__") (some (some (.builtin "ValueError.__init__"))) && (decide (PySem.W.subIn K (.ref C) (.type "ValueError") = some true) && oexB K C)))))
theorem DefX.errD {P : Program} {K : PySem.W.Frag} {d : DefX} {C : Addr} (e : d.obs K = d.val) (c : d.ok K = true) (hc : d.clo = [("__class__" : Str)]) (hz : d.dfl = []) (b : errB P K (d.ad K) C = true) : ∃ fd, ErrD P K d.name d.qual d.params d.body d.scope C (d.ad K) fd := by
  obtain ⟨kp, oc, od, osl, cl, dV, kV, doc, pm, an, cdv, ct, h7, lk, k1, k2⟩ := DefX.get e c
  have hdv : d.dvs K = [] := by unfold DefX.dvs; rw [hz]; rfl
  rw [hdv] at k2
  rw [hc] at h7
  obtain ⟨⟨nm, cc⟩, rfl⟩ : ∃ p, cl = [p] := by
    cases cl with
    | nil => simp at h7
    | cons p r => cases r with
      | nil => exact ⟨p, rfl⟩
      | cons _ _ => simp at h7
  obtain rfl : nm = ("__class__" : Str) := by simpa using h7
  unfold errB at b
  rw [lk] at b
  obtain ⟨b1, b⟩ := He.ba b
  obtain ⟨b2, b⟩ := He.ba b
  obtain ⟨b3, b⟩ := He.ba b
  obtain ⟨b5, b⟩ := He.ba b
  obtain ⟨b6, b⟩ := He.ba b
  obtain ⟨b7, b8⟩ := He.ba b
  obtain ⟨a1, a2⟩ := He.ba b1
  have a1' : (match K.lookup cc with
      | some ⟨_, _, .cell (some (.ref D)), _⟩ => decide (D = C)
      | _ => false) = true := a1
  split at a1'
  · rename_i cl cld D csl hcc
    obtain rfl : D = C := of_decide_eq_true a1'
    cases cdv with
    | ref cda =>
      have a2' : (match K.lookup cda with
        | some ⟨_, _, .fields vs, _⟩ => (match (vs[2]? : Option Value) with
          | some (.str file _) => ((P.main.file : Str) == file)
          | _ => false)
        | _ => false) = true := a2
      split at a2'
      · rename_i ccl cdd vs ccs hcode
        split at a2'
        · rename_i file tf hvs
          exact ⟨_, ⟨oc, od, dV, kV, doc, pm, an, cda, ct, osl, cc, cl, cld, csl, ccl, cdd, vs, ccs, file, tf, rfl, lk, k1, hcc, hcode, hvs, a2', k2⟩, Option.isSome_iff_exists.mp b2, of_decide_eq_true b3, He.eqO_ok b5, He.eqO_ok b6, of_decide_eq_true b7, oexB_ok b8, kp⟩
        · cases a2'
      · cases a2'
    | _ => cases (show false = true from a2)
  · cases a1'
/-- the class's __init__ is its own def -/
def iniB (K : PySem.W.Frag) (C : Addr) : Bool := He.eqO (PySem.W.findIn K (.ref C) "__init__") (some (some (.ref (He.ma K C "__init__")))) && decide (PySem.W.typeIn K (.ref (He.ma K C "__init__")) = some (.type "function"))
theorem iniB_ok {K : PySem.W.Frag} {C : Addr} (h : iniB K C = true) : PySem.W.findIn K (.ref C) "__init__" = some (some (.ref (He.ma K C "__init__"))) ∧ PySem.W.typeIn K (.ref (He.ma K C "__init__")) = some (.type "function") := by
  obtain ⟨h1, h2⟩ := He.ba h
  exact ⟨He.eqO_ok h1, of_decide_eq_true h2⟩
end Hx
theorem ErrD.bindsN {P : Program} {K : PySem.W.Frag} {x qual : Str} {params : Arguments} {body : List Stmt} {scope : Scope} {C f : Addr} {fd : FuncData} {ps : List Str} (Sd : ErrD P K x qual params body scope C f fd)
    (h : ∀ (cda cc : Addr) (kV doc pm : Value) (an : Option Addr) (ct : Value) (us : List Value), us.length = ps.length → bindArgs (ksFn x qual params body scope .none kV doc pm an (.ref cda) ct cc) ⟨us, []⟩ = pure (ps.zip us)) : Binds K fd ps [] := by
  obtain ⟨oc, od, dV, kV, doc, pm, an, cda, ct, osl, cc, cl, cld, csl, ccl, cdd, vs, ccs, file, tf, rfl, lk, k1, hcc, hcode, hvs, hf, hD⟩ := Sd.ex
  rcases hD with ⟨_, rfl⟩ | ⟨e, _⟩
  · intro s us X hlen
    rw [List.append_nil] at hlen ⊢
    exact BindsTo.of_looks fun M => .of_pure (h cda cc kV doc pm an ct us hlen)
  · exact absurd rfl e
end Pu
/-! Mi: tables of the classes that isinstance asks. -/
namespace Mi
open PySem
def isT_Lot : Nat → Nat → Option Bool
  | 15, 15 => some true
  | 13, 15 => some false
  | _, _ => none
def isT_Machine : Nat → Nat → Option Bool
  | 12, 12 => some true
  | 13, 12 => some true
  | 14, 12 => some true
  | 17, 12 => some true
  | _, _ => none
def isT_Pattern : Nat → Nat → Option Bool
  | 14, 14 => some true
  | 17, 14 => some true
  | _, _ => none
def isT_Service : Nat → Nat → Option Bool
  | 13, 13 => some true
  | 17, 13 => some true
  | _, _ => none
def isT_Table : Nat → Nat → Option Bool
  | 21, 21 => some true
  | 20, 21 => some false
  | _, _ => none
def isT_Tree : Nat → Nat → Option Bool
  | 21, 20 => some false
  | 20, 20 => some true
  | _, _ => none
end Mi
namespace Mi
open PySem L2 Pu
noncomputable def m__law_cell : MS := (sSeq (sIf (tB (eOp (fI (gCmp fun i j => decide (i < j))) (eVar 1) (eCB fLen (aCons (eVar 0) aNil))))
  (sRet (eOp fIxX (eVar 0) (eVar 1)))
  sNext)
  (sRet (eC (.int 0))))
noncomputable def f__law_cell : List U → Sto → R U := runF 2 m__law_cell
noncomputable def m__law_draws : MS := (sSeq (sAsg (eCall 2 f__law_cell [] (aCons (eVar 0) (aCons (eVar 1) aNil))) (gName 3))
  (sSeq (sAsg (eCB fLstS aNil) (gName 4))
  (sSeq (sIf (tB (eOp (fI (gCmp fun i j => decide (j ≤ i))) (eVar 3) (eOp (fI gPow) (eC (.int 10)) (eC (.int 18)))))
  (sSeq (sAsg (eOp (fI gSub) (eVar 3) (eOp (fI gPow) (eC (.int 10)) (eC (.int 18)))) (gName 7))
  (sSeq (sFor (iRng1 (aCons (eVar 2) aNil)) (gName 6)
  (sSeq (sExpr (eMtT isL fAppend (eVar 4) (aCons (eOp (fI gMod) (eCB fInt (aCons (eVar 7) aNil)) (eC (.int 64))) aNil)))
  (sAsg (eOp (fI gDiv) (eVar 7) (eC (.int 64))) (gName 7))))
  (sRet (eVar 4))))
  sNext)
  (sSeq (sAsg (eOp (fI gMod) (eCB fInt (aCons (eOp fAdd (eOp fAdd (eOp (fI gMul) (eVar 3) (eC (.int 7919))) (eOp (fI gMul) (eVar 1) (eC (.int 104729)))) (eC (.int 12345))) aNil)) (eC (.int 2147483647))) (gName 5))
  (sSeq (sFor (iRng1 (aCons (eVar 2) aNil)) (gName 6)
  (sSeq (sAsg (eOp (fI gMod) (eCB fInt (aCons (eOp fAdd (eOp fAdd (eOp (fI gMul) (eVar 5) (eC (.int 48271))) (eVar 6)) (eC (.int 11))) aNil)) (eC (.int 2147483647))) (gName 5))
  (sExpr (eMtT isL fAppend (eVar 4) (aCons (eOp (fI gMod) (eCB fInt (aCons (eOp (fI gDiv) (eVar 5) (eC (.int 65536))) aNil)) (eC (.int 64))) aNil)))))
  (sRet (eVar 4)))))))
noncomputable def f__law_draws : List U → Sto → R U := runF 8 m__law_draws
noncomputable def m__law_asks : MS := (sSeq (sAsg (eC (.str "abcdefghijklmnopqrstuvwxyz")) (gName 2))
  (sSeq (sAsg (eMtT isS fJoin (eC (.str "")) (aCons (eLcV [10] (iVal (eSl fSl (eVar 0) oNone (oSome (eC (.int 8))))) (gName 10) tYesM (eOp fIxX (eVar 2) (eOp (fI gMod) (eCB fInt (aCons (eVar 10) aNil)) (eC (.int 26))))) aNil)) (gName 3))
  (sSeq (sAsg (eCB fLstS aNil) (gName 4))
  (sSeq (sFor (iRng1 (aCons (eVar 1) aNil)) (gName 5)
  (sSeq (sAsg (eOp fAdd (eOp (fI gMod) (eCB fInt (aCons (eOp fAdd (eOp fIxX (eVar 0) (eC (.int 9))) (eOp (fI gMul) (eC (.int 3)) (eVar 5))) aNil)) (eC (.int 8))) (eC (.int 1))) (gName 6))
  (sIf (tB (eOp fEq (eOp (fI gMod) (eCB fInt (aCons (eOp fIxX (eVar 0) (eC (.int 8))) aNil)) (eC (.int 2))) (eC (.int 0))))
  (sExpr (eMtT isL fAppend (eVar 4) (aCons (eSl fSl (eVar 3) oNone (oSome (eVar 6))) aNil)))
  (sSeq (sAsg (eOp fAdd (eOp (fI gMod) (eCB fInt (aCons (eOp fIxX (eVar 0) (eC (.int 9))) aNil)) (eC (.int 8))) (eC (.int 1))) (gName 6))
  (sSeq (sAsg (eOp (fI gMod) (eCB fInt (aCons (eOp fIxX (eVar 0) (eC (.int 10))) aNil)) (eVar 6)) (gName 7))
  (sSeq (sAsg (eOp fAdd (eOp (fI gMul) (eOp (fI gMod) (eCB fInt (aCons (eOp fIxX (eVar 0) (eC (.int 12))) aNil)) (eC (.int 6))) (eC (.int 2))) (eC (.int 1))) (gName 8))
  (sSeq (sAsg (eOp fIxX (eVar 2) (eOp (fI gMod) (eCB fInt (aCons (eOp fAdd (eOp fIxX (eVar 0) (eC (.int 11))) (eOp (fI gMul) (eVar 8) (eVar 5))) aNil)) (eC (.int 26)))) (gName 9))
  (sExpr (eMtT isL fAppend (eVar 4) (aCons (eOp fAdd (eOp fAdd (eSl fSl (eVar 3) oNone (oSome (eVar 7))) (eVar 9)) (eSl fSl (eVar 3) (oSome (eOp fAdd (eVar 7) (eC (.int 1)))) (oSome (eVar 6)))) aNil))))))))))
  (sRet (eVar 4))))))
noncomputable def f__law_asks : List U → Sto → R U := runF 11 m__law_asks
noncomputable def m__law_climb : MS := (sSeq (sAsg (eCB fLstS aNil) (gName 2))
  (sSeq (sAsg (eOp (fI gMod) (eCB fInt (aCons (eOp fIxX (eVar 0) (eC (.int 0))) aNil)) (eVar 1)) (gName 3))
  (sSeq (sFor (iVal (eSl fSl (eVar 0) (oSome (eC (.int 2))) (oSome (eOp fAdd (eC (.int 2)) (eOp (fI gMod) (eCB fInt (aCons (eOp fIxX (eVar 0) (eC (.int 1))) aNil)) (eC (.int 13))))))) (gName 4)
  (sIf (tB (eOp (fI (gCmp fun i j => decide (i < j))) (eVar 3) (eVar 1)))
  (sSeq (sExpr (eMtT isL fAppend (eVar 2) (aCons (eVar 3) aNil)))
  (sAsg (eOp fAdd (eOp fAdd (eVar 3) (eC (.int 1))) (eOp (fI gMod) (eCB fInt (aCons (eVar 4) aNil)) (eC (.int 17)))) (gName 3)))
  sNext))
  (sRet (eVar 2)))))
noncomputable def f__law_climb : List U → Sto → R U := runF 5 m__law_climb
noncomputable def m__law_shuffled : MS := (sSeq (sAsg (eVar 0) (gName 2))
  (sSeq (sIf (tB (eOp (fI (gCmp fun i j => decide (j < i))) (eCB fLen (aCons (eVar 0) aNil)) (eC (.int 0))))
  (sSeq (sAsg (eOp (fI gMod) (eCB fInt (aCons (eOp fIxX (eVar 1) (eC (.int 0))) aNil)) (eCB fLen (aCons (eVar 0) aNil))) (gName 3))
  (sAsg (eOp fAdd (eSl fSl (eVar 0) (oSome (eVar 3)) oNone) (eSl fSl (eVar 0) oNone (oSome (eVar 3)))) (gName 2)))
  sNext)
  (sSeq (sAsg (eOp fAdd (eSl (fSlK 2) (eVar 2) oNone oNone) (eSl (fSlK 2) (eVar 2) (oSome (eC (.int 1))) oNone)) (gName 2))
  (sSeq (sIf (tB (eOp fEq (eOp (fI gMod) (eCB fInt (aCons (eOp fIxX (eVar 1) (eC (.int 1))) aNil)) (eC (.int 2))) (eC (.int 1))))
  (sAsg (eUn fRev (eVar 2)) (gName 2))
  sNext)
  (sRet (eOp fAddS (eVar 2) (eSl fSl (eVar 0) oNone (oSome (eOp (fI gMod) (eCB fInt (aCons (eOp fIxX (eVar 1) (eC (.int 2))) aNil)) (eC (.int 4)))))))))))
noncomputable def f__law_shuffled : List U → Sto → R U := runK 4 m__law_shuffled
noncomputable def m_is_ask : MS := (sSeq (sIf (tOr (tB (eOp (fI (gCmp fun i j => decide (i < j))) (eCB fLen (aCons (eVar 0) aNil)) (eC (.int 1)))) (tB (eOp (fI (gCmp fun i j => decide (j < i))) (eCB fLen (aCons (eVar 0) aNil)) (eC (.int (8))))))
  (sRet (eC (.bl false)))
  sNext)
  (sRet (eCB fAll (aCons (eLcV [1] (iChr (eVar 0)) (gName 1) tYesM (eOp (fInX false) (eVar 1) (eC (.str "abcdefghijklmnopqrstuvwxyz")))) aNil))))
noncomputable def f_is_ask : List U → Sto → R U := runF 2 m_is_ask
noncomputable def m_check_parts : MS := (sSeq (sIf (tB (eOp (fI (gCmp fun i j => decide (i < j))) (eVar 0) (eC (.int 1))))
  (sRaise 1 ["part"] (aCons (eC (.str "size")) aNil))
  sNext)
  (sSeq (sIf (tB (eOp (fI (gCmp fun i j => decide (j < i))) (eVar 0) (eC (.int (200)))))
  (sRaise 3 ["size"] (aCons (eVar 0) aNil))
  sNext)
  (sSeq (sFor (iVal (eVar 1)) (gName 3)
  (sIf (tOr (tB (eOp (fI (gCmp fun i j => decide (i < j))) (eVar 3) (eC (.int 0)))) (tB (eOp (fI (gCmp fun i j => decide (j ≤ i))) (eVar 3) (eVar 0))))
  (sRaise 1 ["part"] (aCons (eC (.str "mark")) aNil))
  sNext))
  (sFor (iVal (eVar 2)) (gTup 3 (gCons (gName 4) (gCons (gName 5) (gCons (gName 6) gNil))))
  (sIf (tOr (tB (eOp (fI (gCmp fun i j => decide (i < j))) (eVar 4) (eC (.int 0)))) (tOr (tB (eOp (fI (gCmp fun i j => decide (j ≤ i))) (eVar 4) (eVar 0))) (tOr (tB (eOp (fI (gCmp fun i j => decide (i < j))) (eVar 6) (eC (.int 0)))) (tOr (tB (eOp (fI (gCmp fun i j => decide (j ≤ i))) (eVar 6) (eVar 0))) (tNot (tB (eCall 1 f_is_ask [] (aCons (eVar 5) aNil))))))))
  (sRaise 1 ["part"] (aCons (eC (.str "step")) aNil))
  sNext)))))
noncomputable def f_check_parts : List U → Sto → R U := runF 7 m_check_parts
noncomputable def m_in_order : MS := (sSeq (sAsg (eCB fLstS aNil) (gName 1))
  (sSeq (sFor (iVal (eVar 0)) (gName 2)
  (sSeq (sAsg (eC (.int 0)) (gName 3))
  (sSeq (sAsg (eCB fLen (aCons (eVar 1) aNil)) (gName 4))
  (sSeq (sWhile (tB (eOp fLtD (eVar 3) (eVar 4)))
  (sSeq (sAsg (eOp (fI gDiv) (eOp fAdd (eVar 3) (eVar 4)) (eC (.int 2))) (gName 5))
  (sIf (tB (eOp fLtD (eOp fIxX (eVar 1) (eVar 5)) (eVar 2)))
  (sAsg (eOp fAdd (eVar 5) (eC (.int 1))) (gName 3))
  (sAsg (eVar 5) (gName 4)))))
  (sIf (tOr (tB (eOp fEq (eVar 3) (eCB fLen (aCons (eVar 1) aNil)))) (tB (eOp fNe (eOp fIxX (eVar 1) (eVar 3)) (eVar 2))))
  (sExpr (eMtT isL fInsert (eVar 1) (aCons (eVar 3) (aCons (eVar 2) aNil))))
  sNext)))))
  (sRet (eVar 1))))
noncomputable def f_in_order : List U → Sto → R U := runF 6 m_in_order
noncomputable def m_ends_by_ask : MS := (sSeq (sAsg (eCB fDicS aNil) (gName 1))
  (sSeq (sFor (iVal (eVar 0)) (gTup 3 (gCons (gName 2) (gCons (gName 3) (gCons (gName 4) gNil))))
  (sSet (eVar 1) (eCB fTup (aCons (eVar 2) (aCons (eVar 3) aNil))) (eOp fAdd (eMtT isDc fGet (eVar 1) (aCons (eCB fTup (aCons (eVar 2) (aCons (eVar 3) aNil))) (aCons (eCB fTup aNil) aNil))) (eCB fTup (aCons (eVar 4) aNil)))))
  (sRet (eVar 1))))
noncomputable def f_ends_by_ask : List U → Sto → R U := runF 5 m_ends_by_ask
noncomputable def m_Machineu_initu : MS := (sSeq (sExpr (eCall 3 f_check_parts [] (aCons (eVar 1) (aCons (eVar 2) (aCons (eVar 3) aNil)))))
  (sSeq (sAsg (eCall 1 f_in_order [] (aCons (eLcV [6, 7, 8] (iVal (eVar 3)) (gTup 3 (gCons (gName 6) (gCons (gName 7) (gCons (gName 8) gNil)))) tYesM (eCB fTup (aCons (eVar 6) (aCons (eVar 7) (aCons (eVar 8) aNil))))) aNil)) (gName 5))
  (sSeq (sIf (tB (eOp (fI (gCmp fun i j => decide (j < i))) (eCB fLen (aCons (eVar 5) aNil)) (eC (.int (600)))))
  (sRaise 3 ["size"] (aCons (eCB fLen (aCons (eVar 5) aNil)) aNil))
  sNext)
  (sSeq (sIf (tOr (tB (eOp (fI (gCmp fun i j => decide (i < j))) (eVar 4) (eC (.int 0)))) (tB (eOp (fI (gCmp fun i j => decide (j ≤ i))) (eVar 4) (eVar 1))))
  (sRaise 2 ["state"] (aCons (eVar 4) aNil))
  sNext)
  (sSeq (sFld [12, 13, 14, 17, 18] "size" (eVar 0) (eVar 1))
  (sSeq (sFld [12, 13, 14, 17] "marks" (eVar 0) (eCB fTuple (aCons (eCall 1 f_in_order [] (aCons (eVar 2) aNil)) aNil)))
  (sSeq (sFld [12, 13, 14, 17] "steps" (eVar 0) (eCB fTuple (aCons (eVar 5) aNil)))
  (sSeq (sFld [12, 13, 14, 17] "ends" (eVar 0) (eCall 1 f_ends_by_ask [] (aCons (eVar 5) aNil)))
  (sFld [12, 13, 14, 17] "place" (eVar 0) (eVar 4))))))))))
noncomputable def f_Machineu_initu : List U → Sto → R U := runF 9 m_Machineu_initu
noncomputable def f_Serviceu_initu : List U → Sto → R U := supN 13 f_Machineu_initu
noncomputable def f_Patternu_initu : List U → Sto → R U := supN 14 f_Machineu_initu
noncomputable def m__law_made : MS := (sSeq (sIf (tB (eOp fEq (eOp (fI gMod) (eCB fInt (aCons (eVar 0) aNil)) (eC (.int 8))) (eC (.int 0))))
  (sRet (eMk 13 5 f_Serviceu_initu [U.v (.int (0))] (aCons (eVar 1) (aCons (eVar 2) (aCons (eVar 3) aNil)))))
  sNext)
  (sSeq (sIf (tB (eOp fEq (eOp (fI gMod) (eCB fInt (aCons (eVar 0) aNil)) (eC (.int 8))) (eC (.int 1))))
  (sRet (eMk 14 5 f_Patternu_initu [U.v (.int (0))] (aCons (eVar 1) (aCons (eVar 2) (aCons (eVar 3) aNil)))))
  sNext)
  (sSeq (sIf (tB (eOp (fI (gCmp fun i j => decide (i < j))) (eOp (fI gMod) (eCB fInt (aCons (eVar 0) aNil)) (eC (.int 8))) (eC (.int 4))))
  (sRet (eMkK 13 5 3 1 f_Serviceu_initu gApp (aCons (eVar 1) (aCons (eVar 2) (aCons (eVar 3) aNil))) (aCons (eVar 4) aNil)))
  sNext)
  (sSeq (sIf (tB (eOp (fI (gCmp fun i j => decide (i < j))) (eOp (fI gMod) (eCB fInt (aCons (eVar 0) aNil)) (eC (.int 8))) (eC (.int 6))))
  (sRet (eMkK 14 5 3 1 f_Patternu_initu gApp (aCons (eVar 1) (aCons (eVar 2) (aCons (eVar 3) aNil))) (aCons (eVar 4) aNil)))
  sNext)
  (sSeq (sIf (tB (eOp fEq (eOp (fI gMod) (eCB fInt (aCons (eVar 0) aNil)) (eC (.int 8))) (eC (.int 6))))
  (sRet (eMk 13 5 f_Serviceu_initu [] (aCons (eVar 1) (aCons (eVar 2) (aCons (eVar 3) (aCons (eVar 4) aNil))))))
  sNext)
  (sRet (eMk 12 5 f_Machineu_initu [] (aCons (eVar 1) (aCons (eVar 2) (aCons (eVar 3) (aCons (eVar 4) aNil)))))))))))
noncomputable def f__law_made : List U → Sto → R U := runF 5 m__law_made
noncomputable def m__law_whole : MS := (sRet (eAnd (eCB fIsi (aCons (eVar 0) (aCons (eC (.ty "int")) aNil))) (eNot (eCB fIsi (aCons (eVar 0) (aCons (eC (.ty "bool")) aNil))))))
noncomputable def f__law_whole : List U → Sto → R U := runF 1 m__law_whole
noncomputable def m_Machine_now : MS := (sRet (eUn (fFld [12, 13, 14, 17] "place") (eVar 0)))
noncomputable def f_Machine_now : List U → Sto → R U := runF 1 m_Machine_now
noncomputable def m__law_is_step : MS := (sSeq (sIf (tOr (tNot (tB (eCB fIsi (aCons (eVar 0) (aCons (eC (.ty "tuple")) aNil))))) (tB (eOp fNe (eCB fLen (aCons (eVar 0) aNil)) (eC (.int 3)))))
  (sRet (eC (.bl false)))
  sNext)
  (sRet (eAnd (eCall 1 f__law_whole [] (aCons (eOp fIxX (eVar 0) (eC (.int 0))) aNil)) (eAnd (eCB fIsi (aCons (eOp fIxX (eVar 0) (eC (.int 1))) (aCons (eC (.ty "str")) aNil))) (eCall 1 f__law_whole [] (aCons (eOp fIxX (eVar 0) (eC (.int 2))) aNil))))))
noncomputable def f__law_is_step : List U → Sto → R U := runF 1 m__law_is_step
noncomputable def m__law_parts_hold : MS := (sSeq (sIf (tOr (tNot (tB (eCB (fIsX isT_Machine) (aCons (eVar 0) (aCons (eC (.cls 12)) aNil))))) (tOr (tNot (tB (eCall 1 f__law_whole [] (aCons (eUn (fFld [12, 13, 14, 17, 18] "size") (eVar 0)) aNil)))) (tB (eOp fNe (eUn (fFld [12, 13, 14, 17, 18] "size") (eVar 0)) (eVar 1)))))
  (sRet (eC (.bl false)))
  sNext)
  (sSeq (sIf (tOr (tNot (tB (eCall 1 f__law_whole [] (aCons (eProp [12, 13, 14, 17] f_Machine_now (eVar 0)) aNil)))) (tB (eOp fNe (eProp [12, 13, 14, 17] f_Machine_now (eVar 0)) (eVar 4))))
  (sRet (eC (.bl false)))
  sNext)
  (sSeq (sIf (tOr (tNot (tB (eCB fIsi (aCons (eUn (fFld [12, 13, 14, 17] "marks") (eVar 0)) (aCons (eC (.ty "tuple")) aNil))))) (tNot (tB (eCB fAll (aCons (eLcV [6] (iVal (eUn (fFld [12, 13, 14, 17] "marks") (eVar 0))) (gName 6) tYesM (eCall 1 f__law_whole [] (aCons (eVar 6) aNil))) aNil)))))
  (sRet (eC (.bl false)))
  sNext)
  (sSeq (sIf (tOr (tNot (tB (eCB fIsi (aCons (eUn (fFld [12, 13, 14, 17] "steps") (eVar 0)) (aCons (eC (.ty "tuple")) aNil))))) (tNot (tB (eCB fAll (aCons (eLcV [5] (iVal (eUn (fFld [12, 13, 14, 17] "steps") (eVar 0))) (gName 5) tYesM (eCall 1 f__law_is_step [] (aCons (eVar 5) aNil))) aNil)))))
  (sRet (eC (.bl false)))
  sNext)
  (sRet (eAnd (eOp fEq (eCB fListX (aCons (eUn (fFld [12, 13, 14, 17] "marks") (eVar 0)) aNil)) (eVar 2)) (eAnd (eOp fEq (eCB fListX (aCons (eUn (fFld [12, 13, 14, 17] "steps") (eVar 0)) aNil)) (eVar 3)) (eOp fEq (eLcV [5] (iOwn [12, 13, 14, 17] "steps" (eVar 0)) (gName 5) tYesM (eVar 5)) (eVar 3)))))))))
noncomputable def f__law_parts_hold : List U → Sto → R U := runF 7 m__law_parts_hold
noncomputable def m_law : MS := (sSeq (sAsg (eCall 3 f__law_draws [] (aCons (eVar 0) (aCons (eC (.int 0)) (aCons (eC (.int 16)) aNil)))) (gName 1))
  (sSeq (sAsg (eOp fAdd (eC (.int 1)) (eOp (fI gMod) (eCB fInt (aCons (eOp fAdd (eOp (fI gMul) (eOp fIxX (eVar 1) (eC (.int 0))) (eC (.int 64))) (eOp fIxX (eVar 1) (eC (.int 1)))) aNil)) (eC (.int 200)))) (gName 2))
  (sSeq (sAsg (eCall 2 f__law_asks [] (aCons (eCall 3 f__law_draws [] (aCons (eVar 0) (aCons (eC (.int 1)) (aCons (eC (.int 13)) aNil)))) (aCons (eOp fAdd (eC (.int 1)) (eOp (fI gMod) (eCB fInt (aCons (eOp fIxX (eVar 1) (eC (.int 2))) aNil)) (eC (.int 6)))) aNil))) (gName 3))
  (sSeq (sAsg (eCB fSorted (aCons (eLcV [18] (iVal (eVar 3)) (gName 18) tYesM (eCB fStr (aCons (eVar 18) aNil))) aNil)) (gName 4))
  (sSeq (sAsg (eCall 2 f__law_climb [] (aCons (eCall 3 f__law_draws [] (aCons (eVar 0) (aCons (eC (.int 2)) (aCons (eC (.int 15)) aNil)))) (aCons (eVar 2) aNil))) (gName 5))
  (sSeq (sAsg (eCall 2 f__law_climb [] (aCons (eCall 3 f__law_draws [] (aCons (eVar 0) (aCons (eC (.int 3)) (aCons (eC (.int 15)) aNil)))) (aCons (eVar 2) aNil))) (gName 6))
  (sSeq (sAsg (eCall 3 f__law_draws [] (aCons (eVar 0) (aCons (eC (.int 4)) (aCons (eC (.int 60)) aNil)))) (gName 7))
  (sSeq (sAsg (eCB fLstS aNil) (gName 8))
  (sSeq (sFor (iRng1 (aCons (eCB fLen (aCons (eVar 6) aNil)) aNil)) (gName 9)
  (sFor (iRng1 (aCons (eCB fLen (aCons (eVar 4) aNil)) aNil)) (gName 15)
  (sSeq (sAsg (eOp fIxX (eVar 7) (eOp (fI gMod) (eCB fInt (aCons (eOp fAdd (eOp (fI gMul) (eVar 9) (eC (.int 6))) (eVar 15)) aNil)) (eC (.int 60)))) (gName 16))
  (sSeq (sAsg (eOp (fI gMod) (eCB fInt (aCons (eOp fAdd (eOp (fI gMul) (eVar 16) (eC (.int 7))) (eVar 9)) aNil)) (eVar 2)) (gName 17))
  (sSeq (sIf (tB (eOp (fI (gCmp fun i j => decide (j < i))) (eOp (fI gMod) (eCB fInt (aCons (eVar 16) aNil)) (eC (.int 3))) (eC (.int 0))))
  (sExpr (eMtT isL fAppend (eVar 8) (aCons (eCB fTup (aCons (eOp fIxX (eVar 6) (eVar 9)) (aCons (eOp fIxX (eVar 4) (eVar 15)) (aCons (eVar 17) aNil)))) aNil)))
  sNext)
  (sIf (tAnd (tB (eOp fEq (eOp (fI gMod) (eCB fInt (aCons (eVar 16) aNil)) (eC (.int 3))) (eC (.int 2)))) (tB (eOp (fI (gCmp fun i j => decide (i < j))) (eVar 17) (eOp (fI gSub) (eVar 2) (eC (.int 1))))))
  (sExpr (eMtT isL fAppend (eVar 8) (aCons (eCB fTup (aCons (eOp fIxX (eVar 6) (eVar 9)) (aCons (eOp fIxX (eVar 4) (eVar 15)) (aCons (eOp (fI gSub) (eVar 2) (eC (.int 1))) aNil)))) aNil)))
  sNext))))))
  (sSeq (sAsg (eOp (fI gMod) (eCB fInt (aCons (eOp fAdd (eOp (fI gMul) (eOp fIxX (eVar 1) (eC (.int 3))) (eC (.int 64))) (eOp fIxX (eVar 1) (eC (.int 4)))) aNil)) (eVar 2)) (gName 10))
  (sSeq (sAsg (eCall 2 f__law_shuffled [] (aCons (eVar 5) (aCons (eSl fSl (eVar 1) (oSome (eC (.int 5))) (oSome (eC (.int 8)))) aNil))) (gName 11))
  (sSeq (sAsg (eCall 2 f__law_shuffled [] (aCons (eVar 8) (aCons (eSl fSl (eVar 1) (oSome (eC (.int 8))) (oSome (eC (.int 11)))) aNil))) (gName 12))
  (sSeq (sAsg (eCB fLstV (aCons (eCB fListX (aCons (eVar 11) aNil)) (aCons (eCB fListX (aCons (eVar 12) aNil)) aNil))) (gName 13))
  (sSeq (sAsg (eCall 5 f__law_made [] (aCons (eOp fIxX (eVar 1) (eC (.int 11))) (aCons (eVar 2) (aCons (eVar 11) (aCons (eVar 12) (aCons (eVar 10) aNil)))))) (gName 14))
  (sSeq (sIf (tB (eOp (fI (gCmp fun i j => decide (i < j))) (eOp (fI gMod) (eCB fInt (aCons (eOp fIxX (eVar 1) (eC (.int 11))) aNil)) (eC (.int 8))) (eC (.int 2))))
  (sAsg (eC (.int 0)) (gName 10))
  sNext)
  (sSeq (sIf (tOr (tB (eOp fNe (eVar 11) (eOp fIxX (eVar 13) (eC (.int 0))))) (tB (eOp fNe (eVar 12) (eOp fIxX (eVar 13) (eC (.int 1))))))
  (sRet (eC (.bl false)))
  sNext)
  (sSeq (sIf (tNot (tB (eCall 5 f__law_parts_hold [] (aCons (eVar 14) (aCons (eVar 2) (aCons (eVar 5) (aCons (eVar 8) (aCons (eVar 10) aNil))))))))
  (sRet (eC (.bl false)))
  sNext)
  (sSeq (sExpr (eMtT isL fAppend (eVar 11) (aCons (eOp (fI gSub) (eVar 2) (eC (.int 1))) aNil)))
  (sSeq (sExpr (eMtT isL fAppend (eVar 12) (aCons (eCB fTup (aCons (eC (.int 0)) (aCons (eC (.str "new")) (aCons (eC (.int 0)) aNil)))) aNil)))
  (sRet (eCall 5 f__law_parts_hold [] (aCons (eVar 14) (aCons (eVar 2) (aCons (eVar 5) (aCons (eVar 8) (aCons (eVar 10) aNil))))))))))))))))))))))))))
noncomputable def f_law : List U → Sto → R U := runF 19 m_law
end Mi
namespace Mi
open PySem L2 Pu
noncomputable def m__law_steps : MS := (sSeq (sAsg (eCB fLstS aNil) (gName 4))
  (sSeq (sFor (iRng1 (aCons (eVar 1) aNil)) (gName 5)
  (sFor (iRng1 (aCons (eCB fLen (aCons (eVar 2) aNil)) aNil)) (gName 6)
  (sSeq (sAsg (eOp fIxX (eVar 0) (eOp (fI gMod) (eCB fInt (aCons (eOp fAdd (eOp (fI gMul) (eVar 5) (eCB fLen (aCons (eVar 2) aNil))) (eVar 6)) aNil)) (eCB fLen (aCons (eVar 0) aNil)))) (gName 7))
  (sFor (iRng1 (aCons (eVar 1) aNil)) (gName 8)
  (sSeq (sIf (tAnd (tB (eVar 3)) (tB (eOp fEq (eOp (fI gMod) (eCB fInt (aCons (eVar 7) aNil)) (eOp fAdd (eVar 1) (eC (.int 1)))) (eOp fAdd (eVar 8) (eC (.int 1))))))
  (sExpr (eMtT isL fAppend (eVar 4) (aCons (eCB fTup (aCons (eVar 5) (aCons (eOp fIxX (eVar 2) (eVar 6)) (aCons (eVar 8) aNil)))) aNil)))
  sNext)
  (sIf (tAnd (tNot (tB (eVar 3))) (tB (eOp fEq (eOp (fI gMod) (eCB fInt (aCons (eOp (fI gDiv) (eVar 7) (eOp fIxX (eCB fLstV (aCons (eC (.int 1)) (aCons (eC (.int 2)) (aCons (eC (.int 4)) (aCons (eC (.int 8)) aNil))))) (eVar 8))) aNil)) (eC (.int 2))) (eC (.int 1)))))
  (sExpr (eMtT isL fAppend (eVar 4) (aCons (eCB fTup (aCons (eVar 5) (aCons (eOp fIxX (eVar 2) (eVar 6)) (aCons (eVar 8) aNil)))) aNil)))
  sNext))))))
  (sRet (eVar 4))))
noncomputable def f__law_steps : List U → Sto → R U := runF 9 m__law_steps
noncomputable def m__law_marks : MS := (sRet (eLcV [2] (iRng1 (aCons (eVar 1) aNil)) (gName 2) (tOr (tB (eOp (fI (gCmp fun i j => decide (j ≤ i))) (eVar 0) (eC (.int 48)))) (tB (eOp fEq (eOp (fI gMod) (eCB fInt (aCons (eOp (fI gDiv) (eVar 0) (eOp fIxX (eCB fLstV (aCons (eC (.int 1)) (aCons (eC (.int 2)) (aCons (eC (.int 4)) (aCons (eC (.int 8)) aNil))))) (eVar 2))) aNil)) (eC (.int 2))) (eC (.int 1))))) (eVar 2)))
noncomputable def f__law_marks : List U → Sto → R U := runF 3 m__law_marks
noncomputable def m_Machineu_getitemu : MS := (sRet (eMtT isDc fGet (eUn (fFld [12, 13, 14, 17] "ends") (eVar 0)) (aCons (eCB fTup (aCons (eUn (fFld [12, 13, 14, 17] "place") (eVar 0)) (aCons (eVar 1) aNil))) (aCons (eCB fTup aNil) aNil))))
noncomputable def f_Machineu_getitemu : List U → Sto → R U := runF 2 m_Machineu_getitemu
noncomputable def m__law_item_holds : MS := (sSeq (sAsg (eIxO [12, 13, 14, 17] f_Machineu_getitemu (eVar 0) (eVar 1)) (gName 3))
  (sSeq (sIf (tOr (tNot (tB (eCB fIsi (aCons (eVar 3) (aCons (eC (.ty "tuple")) aNil))))) (tNot (tB (eCB fAll (aCons (eLcV [4] (iVal (eVar 3)) (gName 4) tYesM (eCall 1 f__law_whole [] (aCons (eVar 4) aNil))) aNil)))))
  (sRet (eC (.bl false)))
  sNext)
  (sRet (eOp fEq (eCB fListX (aCons (eVar 3) aNil)) (eVar 2)))))
noncomputable def f__law_item_holds : List U → Sto → R U := runF 5 m__law_item_holds
noncomputable def m_Machineu_boolu : MS := (sRet (eOp (fInX false) (eUn (fFld [12, 13, 14, 17] "place") (eVar 0)) (eUn (fFld [12, 13, 14, 17] "marks") (eVar 0))))
noncomputable def f_Machineu_boolu : List U → Sto → R U := runF 1 m_Machineu_boolu
noncomputable def m_law_2 : MS := (sSeq (sAsg (eCall 3 f__law_draws [] (aCons (eVar 0) (aCons (eC (.int 0)) (aCons (eC (.int 8)) aNil)))) (gName 1))
  (sSeq (sAsg (eOp fAdd (eC (.int 1)) (eOp (fI gMod) (eCB fInt (aCons (eOp fIxX (eVar 1) (eC (.int 0))) aNil)) (eC (.int 4)))) (gName 2))
  (sSeq (sAsg (eCall 2 f__law_asks [] (aCons (eCall 3 f__law_draws [] (aCons (eVar 0) (aCons (eC (.int 1)) (aCons (eC (.int 13)) aNil)))) (aCons (eOp fAdd (eC (.int 2)) (eOp (fI gMod) (eCB fInt (aCons (eOp fIxX (eVar 1) (eC (.int 1))) aNil)) (eC (.int 4)))) aNil))) (gName 3))
  (sSeq (sAsg (eSl fSl (eVar 3) (oSome (eC (.int 1))) oNone) (gName 4))
  (sSeq (sAsg (eCall 4 f__law_steps [] (aCons (eCall 3 f__law_draws [] (aCons (eVar 0) (aCons (eC (.int 2)) (aCons (eC (.int 16)) aNil)))) (aCons (eVar 2) (aCons (eVar 4) (aCons (eOp fEq (eOp (fI gMod) (eCB fInt (aCons (eOp fIxX (eVar 1) (eC (.int 2))) aNil)) (eC (.int 4))) (eC (.int 0))) aNil))))) (gName 5))
  (sSeq (sAsg (eCall 2 f__law_marks [] (aCons (eOp fIxX (eVar 1) (eC (.int 3))) (aCons (eVar 2) aNil))) (gName 6))
  (sSeq (sFor (iRng1 (aCons (eVar 2) aNil)) (gName 7)
  (sSeq (sAsg (eMk 13 5 f_Serviceu_initu [] (aCons (eVar 2) (aCons (eCB fListX (aCons (eVar 6) aNil)) (aCons (eUn fRev (eVar 5)) (aCons (eVar 7) aNil))))) (gName 8))
  (sSeq (sIf (tB (eOp fEq (eOp (fI gMod) (eCB fInt (aCons (eOp fAdd (eOp fIxX (eVar 1) (eC (.int 4))) (eVar 7)) aNil)) (eC (.int 2))) (eC (.int 0))))
  (sAsg (eMk 14 5 f_Patternu_initu [] (aCons (eVar 2) (aCons (eCB fListX (aCons (eVar 6) aNil)) (aCons (eUn fRev (eVar 5)) (aCons (eVar 7) aNil))))) (gName 8))
  sNext)
  (sFor (iRng1 (aCons (eC (.int 2)) aNil)) (gName 9)
  (sSeq (sFor (iVal (eVar 3)) (gName 10)
  (sSeq (sAsg (eLcV [12] (iRng1 (aCons (eVar 2) aNil)) (gName 12) (tB (eOp (fInX false) (eCB fTup (aCons (eVar 7) (aCons (eVar 10) (aCons (eVar 12) aNil)))) (eVar 5))) (eVar 12)) (gName 11))
  (sIf (tNot (tB (eCall 3 f__law_item_holds [] (aCons (eVar 8) (aCons (eVar 10) (aCons (eVar 11) aNil))))))
  (sRet (eC (.bl false)))
  sNext)))
  (sIf (tOr (tB (eOp fNe (eCB (fBoolO [12, 13, 14, 17] f_Machineu_boolu) (aCons (eVar 8) aNil)) (eOp (fInX false) (eVar 7) (eVar 6)))) (tOr (tB (eOp fNe (eProp [12, 13, 14, 17] f_Machine_now (eVar 8)) (eVar 7))) (tNot (tB (eCB (fIsX isT_Machine) (aCons (eVar 8) (aCons (eC (.cls 12)) aNil)))))))
  (sRet (eC (.bl false)))
  sNext))))))
  (sRet (eC (.bl true))))))))))
noncomputable def f_law_2 : List U → Sto → R U := runF 13 m_law_2
end Mi
namespace Mi
open PySem L2 Pu
def exT_k03 : Nat → Nat → Option Bool
  | 1, 0 => some true
  | 1, 1 => some true
  | 1, 2 => some false
  | 1, 4 => some false
  | 2, 0 => some true
  | 2, 2 => some true
  | 2, 4 => some false
  | 3, 0 => some true
  | 3, 2 => some false
  | 3, 3 => some true
  | 3, 4 => some false
  | 4, 0 => some true
  | 4, 2 => some false
  | 4, 4 => some true
  | _, _ => none
noncomputable def m__law_made_2 : MS := (sSeq (sIf (tB (eOp fEq (eOp (fI gMod) (eCB fInt (aCons (eVar 0) aNil)) (eC (.int 2))) (eC (.int 0))))
  (sRet (eMk 13 5 f_Serviceu_initu [] (aCons (eVar 1) (aCons (eVar 2) (aCons (eVar 3) (aCons (eVar 4) aNil))))))
  sNext)
  (sRet (eMk 14 5 f_Patternu_initu [] (aCons (eVar 1) (aCons (eVar 2) (aCons (eVar 3) (aCons (eVar 4) aNil)))))))
noncomputable def f__law_made_2 : List U → Sto → R U := runK 5 m__law_made_2
noncomputable def m_Machineu_setitemu : MS := (sSeq (sIf (tB (eOp (fInX true) (eVar 2) (eMtT isDc fGet (eUn (fFld [12, 13, 14, 17] "ends") (eVar 0)) (aCons (eCB fTup (aCons (eUn (fFld [12, 13, 14, 17] "place") (eVar 0)) (aCons (eVar 1) aNil))) (aCons (eCB fTup aNil) aNil)))))
  (sRaise 4 ["ask", "end"] (aCons (eVar 1) (aCons (eVar 2) aNil)))
  sNext)
  (sFld [12, 13, 14, 17] "place" (eVar 0) (eVar 2)))
noncomputable def f_Machineu_setitemu : List U → Sto → R U := runF 3 m_Machineu_setitemu
noncomputable def m__law_moved : MS := (sSeq (sTry exT_k03 (sSetO [12, 13, 14, 17] f_Machineu_setitemu (eVar 0) (eVar 1) (eVar 2))
  [⟨4, (some 3), (sSeq (sIf (tOr (tNot (tB (eCB (fIsE exT_k03) (aCons (eVar 3) (aCons (eC (.cls 0)) aNil))))) (tOr (tNot (tB (eCB (fIsE exT_k03) (aCons (eVar 3) (aCons (eC (.ty "ValueError")) aNil))))) (tB (eCB (fIsE exT_k03) (aCons (eVar 3) (aCons (eC (.cls 2)) aNil))))))
  (sRet (eC (.str "wrong")))
  sNext)
  (sSeq (sIf (tOr (tB (eOp fNe (eUn (fXf [4] "ask") (eVar 3)) (eVar 1))) (tOr (tNot (tB (eCallL 1 f__law_whole (aCons (eUn (fXf [4] "end") (eVar 3)) aNil)))) (tB (eOp fNe (eUn (fXf [4] "end") (eVar 3)) (eVar 2)))))
  (sRet (eC (.str "wrong")))
  sNext)
  (sRet (eC (.str "stays")))))⟩])
  (sRet (eC (.str "moves"))))
noncomputable def f__law_moved : List U → Sto → R U := runF 4 m__law_moved
noncomputable def m__law_stands : MS := (sSeq (sIf (tOr (tNot (tB (eCB (fIsX isT_Machine) (aCons (eVar 0) (aCons (eC (.cls 12)) aNil))))) (tB (eOp fNe (eCB (fBoolO [12, 13, 14, 17] f_Machineu_boolu) (aCons (eVar 0) aNil)) (eOp (fInX false) (eVar 1) (eVar 3)))))
  (sRet (eC (.bl false)))
  sNext)
  (sSeq (sIf (tOr (tNot (tB (eCall 1 f__law_whole [] (aCons (eProp [12, 13, 14, 17] f_Machine_now (eVar 0)) aNil)))) (tB (eOp fNe (eProp [12, 13, 14, 17] f_Machine_now (eVar 0)) (eVar 1))))
  (sRet (eC (.bl false)))
  sNext)
  (sSeq (sFor (iVal (eVar 5)) (gName 6)
  (sIf (tB (eOp fNe (eCB fListX (aCons (eIxO [12, 13, 14, 17] f_Machineu_getitemu (eVar 0) (eVar 6)) aNil)) (eLcV [7] (iRng1 (aCons (eVar 2) aNil)) (gName 7) (tB (eOp (fInX false) (eCB fTup (aCons (eVar 1) (aCons (eVar 6) (aCons (eVar 7) aNil)))) (eVar 4))) (eVar 7))))
  (sRet (eC (.bl false)))
  sNext))
  (sRet (eC (.bl true))))))
noncomputable def f__law_stands : List U → Sto → R U := runF 8 m__law_stands
noncomputable def m_law_4 : MS := (sSeq (sAsg (eCall 3 f__law_draws [] (aCons (eVar 0) (aCons (eC (.int 0)) (aCons (eC (.int 8)) aNil)))) (gName 1))
  (sSeq (sAsg (eOp fAdd (eC (.int 1)) (eOp (fI gMod) (eCB fInt (aCons (eOp fIxX (eVar 1) (eC (.int 0))) aNil)) (eC (.int 4)))) (gName 2))
  (sSeq (sAsg (eCall 2 f__law_asks [] (aCons (eCall 3 f__law_draws [] (aCons (eVar 0) (aCons (eC (.int 1)) (aCons (eC (.int 13)) aNil)))) (aCons (eOp fAdd (eC (.int 1)) (eOp (fI gMod) (eCB fInt (aCons (eOp fIxX (eVar 1) (eC (.int 1))) aNil)) (eC (.int 3)))) aNil))) (gName 3))
  (sSeq (sAsg (eCall 4 f__law_steps [] (aCons (eCall 3 f__law_draws [] (aCons (eVar 0) (aCons (eC (.int 2)) (aCons (eC (.int 16)) aNil)))) (aCons (eVar 2) (aCons (eVar 3) (aCons (eOp fEq (eOp (fI gMod) (eCB fInt (aCons (eOp fIxX (eVar 1) (eC (.int 2))) aNil)) (eC (.int 4))) (eC (.int 0))) aNil))))) (gName 4))
  (sSeq (sAsg (eCall 2 f__law_marks [] (aCons (eOp fIxX (eVar 1) (eC (.int 3))) (aCons (eVar 2) aNil))) (gName 5))
  (sSeq (sAsg (eOp (fI gMod) (eCB fInt (aCons (eOp fIxX (eVar 1) (eC (.int 4))) aNil)) (eVar 2)) (gName 6))
  (sSeq (sAsg (eCall 5 f__law_made_2 [] (aCons (eOp fIxX (eVar 1) (eC (.int 5))) (aCons (eVar 2) (aCons (eCB fListX (aCons (eVar 5) aNil)) (aCons (eCB fListX (aCons (eVar 4) aNil)) (aCons (eVar 6) aNil)))))) (gName 7))
  (sSeq (sAsg (eCall 5 f__law_made_2 [] (aCons (eOp fIxX (eVar 1) (eC (.int 5))) (aCons (eVar 2) (aCons (eCB fListX (aCons (eVar 5) aNil)) (aCons (eCB fListX (aCons (eVar 4) aNil)) (aCons (eVar 6) aNil)))))) (gName 8))
  (sSeq (sAsg (eVar 6) (gName 9))
  (sSeq (sFor (iRng2 (aCons (eC (.int 4)) (aCons (eCB fMax2 (aCons (eC (.int 10)) (aCons (eCB fLen (aCons (eVar 0) aNil)) aNil))) aNil))) (gName 10)
  (sSeq (sAsg (eCall 3 f__law_draws [] (aCons (eVar 0) (aCons (eVar 10) (aCons (eC (.int 3)) aNil)))) (gName 11))
  (sSeq (sAsg (eOp fIxX (eVar 3) (eOp (fI gMod) (eCB fInt (aCons (eOp fIxX (eVar 11) (eC (.int 0))) aNil)) (eCB fLen (aCons (eVar 3) aNil)))) (gName 12))
  (sSeq (sAsg (eOp (fI gMod) (eCB fInt (aCons (eOp fIxX (eVar 11) (eC (.int 1))) aNil)) (eVar 2)) (gName 13))
  (sSeq (sAsg (eLcV [16] (iVal (eVar 4)) (gName 16) (tB (eOp fEq (eOp fIxX (eVar 16) (eC (.int 0))) (eVar 6))) (eVar 16)) (gName 14))
  (sSeq (sIf (tAnd (tB (eOp fEq (eOp (fI gMod) (eCB fInt (aCons (eOp fIxX (eVar 11) (eC (.int 2))) aNil)) (eC (.int 2))) (eC (.int 0)))) (tB (eOp (fI (gCmp fun i j => decide (j < i))) (eCB fLen (aCons (eVar 14) aNil)) (eC (.int 0)))))
  (sSeq (sAsg (eOp fIxX (eOp fIxX (eVar 14) (eOp (fI gMod) (eCB fInt (aCons (eOp fIxX (eVar 11) (eC (.int 0))) aNil)) (eCB fLen (aCons (eVar 14) aNil)))) (eC (.int 1))) (gName 12))
  (sAsg (eOp fIxX (eOp fIxX (eVar 14) (eOp (fI gMod) (eCB fInt (aCons (eOp fIxX (eVar 11) (eC (.int 0))) aNil)) (eCB fLen (aCons (eVar 14) aNil)))) (eC (.int 2))) (gName 13)))
  sNext)
  (sSeq (sAsg (eC (.str "stays")) (gName 15))
  (sSeq (sIf (tB (eOp (fInX false) (eCB fTup (aCons (eVar 6) (aCons (eVar 12) (aCons (eVar 13) aNil)))) (eVar 4)))
  (sSeq (sAsg (eC (.str "moves")) (gName 15))
  (sSeq (sIf (tB (eOp fNe (eCall 3 f__law_moved [] (aCons (eVar 7) (aCons (eVar 12) (aCons (eVar 13) aNil)))) (eVar 15)))
  (sRet (eC (.bl false)))
  sNext)
  (sAsg (eVar 13) (gName 6))))
  (sIf (tB (eOp fNe (eCall 3 f__law_moved [] (aCons (eVar 7) (aCons (eVar 12) (aCons (eVar 13) aNil)))) (eVar 15)))
  (sRet (eC (.bl false)))
  sNext))
  (sIf (tNot (tB (eCall 6 f__law_stands [] (aCons (eVar 7) (aCons (eVar 6) (aCons (eVar 2) (aCons (eVar 5) (aCons (eVar 4) (aCons (eVar 3) aNil)))))))))
  (sRet (eC (.bl false)))
  sNext)))))))))
  (sRet (eCall 6 f__law_stands [] (aCons (eVar 8) (aCons (eVar 9) (aCons (eVar 2) (aCons (eVar 5) (aCons (eVar 4) (aCons (eVar 3) aNil))))))))))))))))))
noncomputable def f_law_4 : List U → Sto → R U := runF 17 m_law_4
end Mi
namespace K03
open PySem L2 Pu Mi
open PyProof.Rows hiding St
/-! ### the text -/
abbrev P0 : Program := PySem.Challenge.rw_askshanded_k03_a_machine_moves.prog
def top (i : Nat) : Stmt := PySem.Challenge.pw_askshanded_k03_a_machine_moves.main.body.getD i (.Pass ⟨0, 0, 0, 0⟩)
def cBody : Stmt → List Stmt
  | .ClassDef _ _ _ b _ _ _ _ _ _ _ => b
  | _ => []
def inC (i j : Nat) : Stmt := (cBody (top i)).getD j (.Pass ⟨0, 0, 0, 0⟩)
def cl (K : PySem.W.Frag) : Nat → Addr
  | 0 => He.ga K "AsksError"
  | 1 => He.ga K "BadMachine"
  | 2 => He.ga K "BadState"
  | 3 => He.ga K "TooLarge"
  | 4 => He.ga K "NoStep"
  | 12 => He.ga K "Machine"
  | 13 => He.ga K "Service"
  | 14 => He.ga K "Pattern"
  | 15 => He.ga K "Machine"
  | 16 => He.ga K "Machine"
  | 17 => He.ga K "Pattern"
  | 18 => He.ga K "Machine"
  | 19 => He.ga K "Machine"
  | _ => 0
abbrev s__law_cell : Stmt := top 25
def d__law_cell : He.DefD := ⟨("_law_cell", none), "_law_cell", "_law_cell", defArgs s__law_cell, defBody s__law_cell, defScope s__law_cell, [], []⟩
abbrev s__law_draws : Stmt := top 26
def d__law_draws : He.DefD := ⟨("_law_draws", none), "_law_draws", "_law_draws", defArgs s__law_draws, defBody s__law_draws, defScope s__law_draws, [], []⟩
abbrev s__law_asks : Stmt := top 27
def d__law_asks : He.DefD := ⟨("_law_asks", none), "_law_asks", "_law_asks", defArgs s__law_asks, defBody s__law_asks, defScope s__law_asks, [], []⟩
abbrev s__law_steps : Stmt := top 28
def d__law_steps : He.DefD := ⟨("_law_steps", none), "_law_steps", "_law_steps", defArgs s__law_steps, defBody s__law_steps, defScope s__law_steps, [], []⟩
abbrev s__law_marks : Stmt := top 29
def d__law_marks : He.DefD := ⟨("_law_marks", none), "_law_marks", "_law_marks", defArgs s__law_marks, defBody s__law_marks, defScope s__law_marks, [], []⟩
abbrev s_BadMachineu_initu : Stmt := inC 2 0
def d_BadMachineu_initu : Hx.DefX := ⟨fun K => (He.ma K (He.ga K "BadMachine") "__init__"), "__init__", "BadMachine.__init__", defArgs s_BadMachineu_initu, defBody s_BadMachineu_initu, defScope s_BadMachineu_initu, [], [("__class__" : Str)]⟩
abbrev s_TooLargeu_initu : Stmt := inC 4 0
def d_TooLargeu_initu : Hx.DefX := ⟨fun K => (He.ma K (He.ga K "TooLarge") "__init__"), "__init__", "TooLarge.__init__", defArgs s_TooLargeu_initu, defBody s_TooLargeu_initu, defScope s_TooLargeu_initu, [], [("__class__" : Str)]⟩
abbrev s_is_ask : Stmt := top 15
def d_is_ask : He.DefD := ⟨("is_ask", none), "is_ask", "is_ask", defArgs s_is_ask, defBody s_is_ask, defScope s_is_ask, [], []⟩
abbrev s_check_parts : Stmt := top 17
def d_check_parts : He.DefD := ⟨("check_parts", none), "check_parts", "check_parts", defArgs s_check_parts, defBody s_check_parts, defScope s_check_parts, [], []⟩
abbrev s_in_order : Stmt := top 16
def d_in_order : He.DefD := ⟨("in_order", none), "in_order", "in_order", defArgs s_in_order, defBody s_in_order, defScope s_in_order, [], []⟩
abbrev s_BadStateu_initu : Stmt := inC 3 0
def d_BadStateu_initu : Hx.DefX := ⟨fun K => (He.ma K (He.ga K "BadState") "__init__"), "__init__", "BadState.__init__", defArgs s_BadStateu_initu, defBody s_BadStateu_initu, defScope s_BadStateu_initu, [], [("__class__" : Str)]⟩
abbrev s_ends_by_ask : Stmt := top 18
def d_ends_by_ask : He.DefD := ⟨("ends_by_ask", none), "ends_by_ask", "ends_by_ask", defArgs s_ends_by_ask, defBody s_ends_by_ask, defScope s_ends_by_ask, [], []⟩
abbrev s_Machineu_initu : Stmt := inC 19 0
def d_Machineu_initu : He.DefD := ⟨("Machine", some "__init__"), "__init__", "Machine.__init__", defArgs s_Machineu_initu, defBody s_Machineu_initu, defScope s_Machineu_initu, [.int (0)], []⟩
abbrev s_Serviceu_initu : Stmt := inC 20 0
def d_Serviceu_initu : Hx.DefX := ⟨fun K => (He.ma K (He.ga K "Service") "__init__"), "__init__", "Service.__init__", defArgs s_Serviceu_initu, defBody s_Serviceu_initu, defScope s_Serviceu_initu, [.int (0)], [("__class__" : Str)]⟩
abbrev s_Patternu_initu : Stmt := inC 21 0
def d_Patternu_initu : Hx.DefX := ⟨fun K => (He.ma K (He.ga K "Pattern") "__init__"), "__init__", "Pattern.__init__", defArgs s_Patternu_initu, defBody s_Patternu_initu, defScope s_Patternu_initu, [.int (0)], [("__class__" : Str)]⟩
abbrev s__law_made : Stmt := top 31
def d__law_made : He.DefD := ⟨("_law_made", none), "_law_made", "_law_made", defArgs s__law_made, defBody s__law_made, defScope s__law_made, [], []⟩
abbrev s_NoStepu_initu : Stmt := inC 5 0
def d_NoStepu_initu : Hx.DefX := ⟨fun K => (He.ma K (He.ga K "NoStep") "__init__"), "__init__", "NoStep.__init__", defArgs s_NoStepu_initu, defBody s_NoStepu_initu, defScope s_NoStepu_initu, [], [("__class__" : Str)]⟩
abbrev s_Machineu_setitemu : Stmt := inC 19 3
def d_Machineu_setitemu : He.DefD := ⟨("Machine", some "__setitem__"), "__setitem__", "Machine.__setitem__", defArgs s_Machineu_setitemu, defBody s_Machineu_setitemu, defScope s_Machineu_setitemu, [], []⟩
abbrev s__law_whole : Stmt := top 30
def d__law_whole : He.DefD := ⟨("_law_whole", none), "_law_whole", "_law_whole", defArgs s__law_whole, defBody s__law_whole, defScope s__law_whole, [], []⟩
abbrev s__law_moved : Stmt := top 32
def d__law_moved : He.DefD := ⟨("_law_moved", none), "_law_moved", "_law_moved", defArgs s__law_moved, defBody s__law_moved, defScope s__law_moved, [], []⟩
abbrev s_Machineu_boolu : Stmt := inC 19 5
def d_Machineu_boolu : He.DefD := ⟨("Machine", some "__bool__"), "__bool__", "Machine.__bool__", defArgs s_Machineu_boolu, defBody s_Machineu_boolu, defScope s_Machineu_boolu, [], []⟩
abbrev s_Machine_now : Stmt := inC 19 1
def d_Machine_now : Hx.DefX := ⟨fun K => (Hx.gp K "Machine" "now"), "now", "Machine.now", defArgs s_Machine_now, defBody s_Machine_now, defScope s_Machine_now, [], []⟩
abbrev s_Machineu_getitemu : Stmt := inC 19 2
def d_Machineu_getitemu : He.DefD := ⟨("Machine", some "__getitem__"), "__getitem__", "Machine.__getitem__", defArgs s_Machineu_getitemu, defBody s_Machineu_getitemu, defScope s_Machineu_getitemu, [], []⟩
abbrev s__law_stands : Stmt := top 33
def d__law_stands : He.DefD := ⟨("_law_stands", none), "_law_stands", "_law_stands", defArgs s__law_stands, defBody s__law_stands, defScope s__law_stands, [], []⟩
abbrev s_law : Stmt := top 34
def d_law : He.DefD := ⟨("law", none), "law", "law", defArgs s_law, defBody s_law, defScope s_law, [], []⟩
abbrev dd_Machineu_initu : List D := [.int (0)]
theorem DD_Machineu_initu {cl : Nat → Addr} : Dfl cl ([.int (0)] : List V) dd_Machineu_initu := fun _ _ _ _ => .cons (.int _) (.nil)
abbrev dd_Serviceu_initu : List D := [.int (0)]
theorem DD_Serviceu_initu {cl : Nat → Addr} : Dfl cl ([.int (0)] : List V) dd_Serviceu_initu := fun _ _ _ _ => .cons (.int _) (.nil)
abbrev dd_Patternu_initu : List D := [.int (0)]
theorem DD_Patternu_initu {cl : Nat → Addr} : Dfl cl ([.int (0)] : List V) dd_Patternu_initu := fun _ _ _ _ => .cons (.int _) (.nil)
theorem sc__law_cell : FnScope ["_law_script", "_law_k"] ["_law_script", "_law_k"] (defScope s__law_cell) := ⟨rfl, rfl, rfl, by decide +kernel, rfl, by decide +kernel, by decide +kernel⟩
theorem v__law_cell__law_k : Vis (defScope s__law_cell) "_law_k" := by unfold Vis; decide +kernel
theorem v__law_cell__law_script : Vis (defScope s__law_cell) "_law_script" := by unfold Vis; decide +kernel
theorem g__law_cell_len : (defScope s__law_cell).names.lookup ("len" : Str) = some .globalImplicit := by decide +kernel
theorem sc__law_draws : FnScope ["_law_script", "_law_k", "_law_many", "_law_cell_here", "_law_row", "_law_seed", "_law_turn", "_law_rest"] ["_law_script", "_law_k", "_law_many"] (defScope s__law_draws) := ⟨rfl, rfl, rfl, by decide +kernel, rfl, by decide +kernel, by decide +kernel⟩
theorem v__law_draws__law_script : Vis (defScope s__law_draws) "_law_script" := by unfold Vis; decide +kernel
theorem v__law_draws__law_k : Vis (defScope s__law_draws) "_law_k" := by unfold Vis; decide +kernel
theorem v__law_draws__law_cell_here : Vis (defScope s__law_draws) "_law_cell_here" := by unfold Vis; decide +kernel
theorem v__law_draws__law_many : Vis (defScope s__law_draws) "_law_many" := by unfold Vis; decide +kernel
theorem v__law_draws__law_row : Vis (defScope s__law_draws) "_law_row" := by unfold Vis; decide +kernel
theorem v__law_draws__law_rest : Vis (defScope s__law_draws) "_law_rest" := by unfold Vis; decide +kernel
theorem v__law_draws__law_seed : Vis (defScope s__law_draws) "_law_seed" := by unfold Vis; decide +kernel
theorem v__law_draws__law_turn : Vis (defScope s__law_draws) "_law_turn" := by unfold Vis; decide +kernel
theorem l__law_draws__law_cell_here : L2.Loc (defScope s__law_draws) "_law_cell_here" := by unfold L2.Loc; decide +kernel
theorem l__law_draws__law_row : L2.Loc (defScope s__law_draws) "_law_row" := by unfold L2.Loc; decide +kernel
theorem l__law_draws__law_rest : L2.Loc (defScope s__law_draws) "_law_rest" := by unfold L2.Loc; decide +kernel
theorem l__law_draws__law_turn : L2.Loc (defScope s__law_draws) "_law_turn" := by unfold L2.Loc; decide +kernel
theorem l__law_draws__law_seed : L2.Loc (defScope s__law_draws) "_law_seed" := by unfold L2.Loc; decide +kernel
theorem g__law_draws__law_cell : (defScope s__law_draws).names.lookup ("_law_cell" : Str) = some .globalImplicit := by decide +kernel
theorem g__law_draws_range : (defScope s__law_draws).names.lookup ("range" : Str) = some .globalImplicit := by decide +kernel
theorem g__law_draws_int : (defScope s__law_draws).names.lookup ("int" : Str) = some .globalImplicit := by decide +kernel
theorem sc__law_asks : FnScope ["_law_row", "_law_many", "_law_letters", "_law_word", "_law_asks_here", "_law_at", "_law_size", "_law_place", "_law_jump", "_law_letter", "_law_digit"] ["_law_row", "_law_many"] (defScope s__law_asks) := ⟨rfl, rfl, rfl, by decide +kernel, rfl, by decide +kernel, by decide +kernel⟩
theorem v__law_asks__law_row : Vis (defScope s__law_asks) "_law_row" := by unfold Vis; decide +kernel
theorem v__law_asks__law_many : Vis (defScope s__law_asks) "_law_many" := by unfold Vis; decide +kernel
theorem v__law_asks__law_at : Vis (defScope s__law_asks) "_law_at" := by unfold Vis; decide +kernel
theorem v__law_asks__law_asks_here : Vis (defScope s__law_asks) "_law_asks_here" := by unfold Vis; decide +kernel
theorem v__law_asks__law_word : Vis (defScope s__law_asks) "_law_word" := by unfold Vis; decide +kernel
theorem v__law_asks__law_size : Vis (defScope s__law_asks) "_law_size" := by unfold Vis; decide +kernel
theorem v__law_asks__law_letters : Vis (defScope s__law_asks) "_law_letters" := by unfold Vis; decide +kernel
theorem v__law_asks__law_jump : Vis (defScope s__law_asks) "_law_jump" := by unfold Vis; decide +kernel
theorem v__law_asks__law_place : Vis (defScope s__law_asks) "_law_place" := by unfold Vis; decide +kernel
theorem v__law_asks__law_letter : Vis (defScope s__law_asks) "_law_letter" := by unfold Vis; decide +kernel
theorem l__law_asks__law_letters : L2.Loc (defScope s__law_asks) "_law_letters" := by unfold L2.Loc; decide +kernel
theorem l__law_asks__law_word : L2.Loc (defScope s__law_asks) "_law_word" := by unfold L2.Loc; decide +kernel
theorem l__law_asks__law_asks_here : L2.Loc (defScope s__law_asks) "_law_asks_here" := by unfold L2.Loc; decide +kernel
theorem l__law_asks__law_at : L2.Loc (defScope s__law_asks) "_law_at" := by unfold L2.Loc; decide +kernel
theorem l__law_asks__law_size : L2.Loc (defScope s__law_asks) "_law_size" := by unfold L2.Loc; decide +kernel
theorem l__law_asks__law_place : L2.Loc (defScope s__law_asks) "_law_place" := by unfold L2.Loc; decide +kernel
theorem l__law_asks__law_jump : L2.Loc (defScope s__law_asks) "_law_jump" := by unfold L2.Loc; decide +kernel
theorem l__law_asks__law_letter : L2.Loc (defScope s__law_asks) "_law_letter" := by unfold L2.Loc; decide +kernel
theorem g__law_asks_range : (defScope s__law_asks).names.lookup ("range" : Str) = some .globalImplicit := by decide +kernel
theorem g__law_asks_int : (defScope s__law_asks).names.lookup ("int" : Str) = some .globalImplicit := by decide +kernel
theorem sc__law_steps : FnScope ["_law_row", "_law_size", "_law_asks_here", "_law_single", "_law_steps_here", "_law_state", "_law_at", "_law_digit", "_law_end"] ["_law_row", "_law_size", "_law_asks_here", "_law_single"] (defScope s__law_steps) := ⟨rfl, rfl, rfl, by decide +kernel, rfl, by decide +kernel, by decide +kernel⟩
theorem v__law_steps__law_size : Vis (defScope s__law_steps) "_law_size" := by unfold Vis; decide +kernel
theorem v__law_steps__law_asks_here : Vis (defScope s__law_steps) "_law_asks_here" := by unfold Vis; decide +kernel
theorem v__law_steps__law_row : Vis (defScope s__law_steps) "_law_row" := by unfold Vis; decide +kernel
theorem v__law_steps__law_state : Vis (defScope s__law_steps) "_law_state" := by unfold Vis; decide +kernel
theorem v__law_steps__law_at : Vis (defScope s__law_steps) "_law_at" := by unfold Vis; decide +kernel
theorem v__law_steps__law_single : Vis (defScope s__law_steps) "_law_single" := by unfold Vis; decide +kernel
theorem v__law_steps__law_digit : Vis (defScope s__law_steps) "_law_digit" := by unfold Vis; decide +kernel
theorem v__law_steps__law_end : Vis (defScope s__law_steps) "_law_end" := by unfold Vis; decide +kernel
theorem v__law_steps__law_steps_here : Vis (defScope s__law_steps) "_law_steps_here" := by unfold Vis; decide +kernel
theorem l__law_steps__law_steps_here : L2.Loc (defScope s__law_steps) "_law_steps_here" := by unfold L2.Loc; decide +kernel
theorem l__law_steps__law_state : L2.Loc (defScope s__law_steps) "_law_state" := by unfold L2.Loc; decide +kernel
theorem l__law_steps__law_at : L2.Loc (defScope s__law_steps) "_law_at" := by unfold L2.Loc; decide +kernel
theorem l__law_steps__law_digit : L2.Loc (defScope s__law_steps) "_law_digit" := by unfold L2.Loc; decide +kernel
theorem l__law_steps__law_end : L2.Loc (defScope s__law_steps) "_law_end" := by unfold L2.Loc; decide +kernel
theorem g__law_steps_range : (defScope s__law_steps).names.lookup ("range" : Str) = some .globalImplicit := by decide +kernel
theorem g__law_steps_len : (defScope s__law_steps).names.lookup ("len" : Str) = some .globalImplicit := by decide +kernel
theorem g__law_steps_int : (defScope s__law_steps).names.lookup ("int" : Str) = some .globalImplicit := by decide +kernel
theorem sc__law_marks : FnScope ["_law_digit", "_law_size", "_law_state"] ["_law_digit", "_law_size"] (defScope s__law_marks) := ⟨rfl, rfl, rfl, by decide +kernel, rfl, by decide +kernel, by decide +kernel⟩
theorem v__law_marks__law_size : Vis (defScope s__law_marks) "_law_size" := by unfold Vis; decide +kernel
theorem g__law_marks_range : (defScope s__law_marks).names.lookup ("range" : Str) = some .globalImplicit := by decide +kernel
theorem ss_BadMachineu_initu : SupScope ["self", "part"] (defScope s_BadMachineu_initu) := ⟨rfl, rfl, rfl, by decide +kernel, by decide +kernel, by decide +kernel, by decide +kernel, by decide +kernel, by decide +kernel⟩
theorem ss_TooLargeu_initu : SupScope ["self", "size"] (defScope s_TooLargeu_initu) := ⟨rfl, rfl, rfl, by decide +kernel, by decide +kernel, by decide +kernel, by decide +kernel, by decide +kernel, by decide +kernel⟩
theorem sc_is_ask : FnScope ["ask", "sign"] ["ask"] (defScope s_is_ask) := ⟨rfl, rfl, rfl, by decide +kernel, rfl, by decide +kernel, by decide +kernel⟩
theorem v_is_ask_ask : Vis (defScope s_is_ask) "ask" := by unfold Vis; decide +kernel
theorem g_is_ask_len : (defScope s_is_ask).names.lookup ("len" : Str) = some .globalImplicit := by decide +kernel
theorem g_is_ask_MOST_SIGNS : (defScope s_is_ask).names.lookup ("MOST_SIGNS" : Str) = some .globalImplicit := by decide +kernel
theorem g_is_ask_all : (defScope s_is_ask).names.lookup ("all" : Str) = some .globalImplicit := by decide +kernel
theorem sc_check_parts : FnScope ["size", "marks", "steps", "mark", "state", "ask", "end"] ["size", "marks", "steps"] (defScope s_check_parts) := ⟨rfl, rfl, rfl, by decide +kernel, rfl, by decide +kernel, by decide +kernel⟩
theorem v_check_parts_size : Vis (defScope s_check_parts) "size" := by unfold Vis; decide +kernel
theorem v_check_parts_marks : Vis (defScope s_check_parts) "marks" := by unfold Vis; decide +kernel
theorem v_check_parts_mark : Vis (defScope s_check_parts) "mark" := by unfold Vis; decide +kernel
theorem v_check_parts_steps : Vis (defScope s_check_parts) "steps" := by unfold Vis; decide +kernel
theorem v_check_parts_state : Vis (defScope s_check_parts) "state" := by unfold Vis; decide +kernel
theorem v_check_parts_end : Vis (defScope s_check_parts) "end" := by unfold Vis; decide +kernel
theorem v_check_parts_ask : Vis (defScope s_check_parts) "ask" := by unfold Vis; decide +kernel
theorem l_check_parts_mark : L2.Loc (defScope s_check_parts) "mark" := by unfold L2.Loc; decide +kernel
theorem l_check_parts_state : L2.Loc (defScope s_check_parts) "state" := by unfold L2.Loc; decide +kernel
theorem l_check_parts_ask : L2.Loc (defScope s_check_parts) "ask" := by unfold L2.Loc; decide +kernel
theorem l_check_parts_end : L2.Loc (defScope s_check_parts) "end" := by unfold L2.Loc; decide +kernel
theorem g_check_parts_BadMachine : (defScope s_check_parts).names.lookup ("BadMachine" : Str) = some .globalImplicit := by decide +kernel
theorem g_check_parts_MOST_STATES : (defScope s_check_parts).names.lookup ("MOST_STATES" : Str) = some .globalImplicit := by decide +kernel
theorem g_check_parts_TooLarge : (defScope s_check_parts).names.lookup ("TooLarge" : Str) = some .globalImplicit := by decide +kernel
theorem g_check_parts_is_ask : (defScope s_check_parts).names.lookup ("is_ask" : Str) = some .globalImplicit := by decide +kernel
theorem sc_in_order : FnScope ["rows", "ordered", "row", "low", "high", "middle"] ["rows"] (defScope s_in_order) := ⟨rfl, rfl, rfl, by decide +kernel, rfl, by decide +kernel, by decide +kernel⟩
theorem v_in_order_rows : Vis (defScope s_in_order) "rows" := by unfold Vis; decide +kernel
theorem v_in_order_ordered : Vis (defScope s_in_order) "ordered" := by unfold Vis; decide +kernel
theorem v_in_order_low : Vis (defScope s_in_order) "low" := by unfold Vis; decide +kernel
theorem v_in_order_high : Vis (defScope s_in_order) "high" := by unfold Vis; decide +kernel
theorem v_in_order_middle : Vis (defScope s_in_order) "middle" := by unfold Vis; decide +kernel
theorem v_in_order_row : Vis (defScope s_in_order) "row" := by unfold Vis; decide +kernel
theorem l_in_order_ordered : L2.Loc (defScope s_in_order) "ordered" := by unfold L2.Loc; decide +kernel
theorem l_in_order_row : L2.Loc (defScope s_in_order) "row" := by unfold L2.Loc; decide +kernel
theorem l_in_order_low : L2.Loc (defScope s_in_order) "low" := by unfold L2.Loc; decide +kernel
theorem l_in_order_high : L2.Loc (defScope s_in_order) "high" := by unfold L2.Loc; decide +kernel
theorem l_in_order_middle : L2.Loc (defScope s_in_order) "middle" := by unfold L2.Loc; decide +kernel
theorem g_in_order_len : (defScope s_in_order).names.lookup ("len" : Str) = some .globalImplicit := by decide +kernel
theorem ss_BadStateu_initu : SupScope ["self", "state"] (defScope s_BadStateu_initu) := ⟨rfl, rfl, rfl, by decide +kernel, by decide +kernel, by decide +kernel, by decide +kernel, by decide +kernel, by decide +kernel⟩
theorem sc_ends_by_ask : FnScope ["steps", "found", "state", "ask", "end"] ["steps"] (defScope s_ends_by_ask) := ⟨rfl, rfl, rfl, by decide +kernel, rfl, by decide +kernel, by decide +kernel⟩
theorem v_ends_by_ask_steps : Vis (defScope s_ends_by_ask) "steps" := by unfold Vis; decide +kernel
theorem v_ends_by_ask_found : Vis (defScope s_ends_by_ask) "found" := by unfold Vis; decide +kernel
theorem v_ends_by_ask_state : Vis (defScope s_ends_by_ask) "state" := by unfold Vis; decide +kernel
theorem v_ends_by_ask_ask : Vis (defScope s_ends_by_ask) "ask" := by unfold Vis; decide +kernel
theorem v_ends_by_ask_end : Vis (defScope s_ends_by_ask) "end" := by unfold Vis; decide +kernel
theorem l_ends_by_ask_found : L2.Loc (defScope s_ends_by_ask) "found" := by unfold L2.Loc; decide +kernel
theorem l_ends_by_ask_state : L2.Loc (defScope s_ends_by_ask) "state" := by unfold L2.Loc; decide +kernel
theorem l_ends_by_ask_ask : L2.Loc (defScope s_ends_by_ask) "ask" := by unfold L2.Loc; decide +kernel
theorem l_ends_by_ask_end : L2.Loc (defScope s_ends_by_ask) "end" := by unfold L2.Loc; decide +kernel
theorem sc_Machineu_initu : FnScope ["self", "size", "marks", "steps", "now", "ordered", "state", "ask", "end"] ["self", "size", "marks", "steps", "now"] (defScope s_Machineu_initu) := ⟨rfl, rfl, rfl, by decide +kernel, rfl, by decide +kernel, by decide +kernel⟩
theorem v_Machineu_initu_size : Vis (defScope s_Machineu_initu) "size" := by unfold Vis; decide +kernel
theorem v_Machineu_initu_marks : Vis (defScope s_Machineu_initu) "marks" := by unfold Vis; decide +kernel
theorem v_Machineu_initu_steps : Vis (defScope s_Machineu_initu) "steps" := by unfold Vis; decide +kernel
theorem v_Machineu_initu_ordered : Vis (defScope s_Machineu_initu) "ordered" := by unfold Vis; decide +kernel
theorem v_Machineu_initu_now : Vis (defScope s_Machineu_initu) "now" := by unfold Vis; decide +kernel
theorem v_Machineu_initu_self : Vis (defScope s_Machineu_initu) "self" := by unfold Vis; decide +kernel
theorem l_Machineu_initu_ordered : L2.Loc (defScope s_Machineu_initu) "ordered" := by unfold L2.Loc; decide +kernel
theorem g_Machineu_initu_check_parts : (defScope s_Machineu_initu).names.lookup ("check_parts" : Str) = some .globalImplicit := by decide +kernel
theorem g_Machineu_initu_in_order : (defScope s_Machineu_initu).names.lookup ("in_order" : Str) = some .globalImplicit := by decide +kernel
theorem g_Machineu_initu_len : (defScope s_Machineu_initu).names.lookup ("len" : Str) = some .globalImplicit := by decide +kernel
theorem g_Machineu_initu_MOST_STEPS : (defScope s_Machineu_initu).names.lookup ("MOST_STEPS" : Str) = some .globalImplicit := by decide +kernel
theorem g_Machineu_initu_TooLarge : (defScope s_Machineu_initu).names.lookup ("TooLarge" : Str) = some .globalImplicit := by decide +kernel
theorem g_Machineu_initu_BadState : (defScope s_Machineu_initu).names.lookup ("BadState" : Str) = some .globalImplicit := by decide +kernel
theorem g_Machineu_initu_tuple : (defScope s_Machineu_initu).names.lookup ("tuple" : Str) = some .globalImplicit := by decide +kernel
theorem g_Machineu_initu_ends_by_ask : (defScope s_Machineu_initu).names.lookup ("ends_by_ask" : Str) = some .globalImplicit := by decide +kernel
theorem ss_Serviceu_initu : SupScope ["self", "size", "marks", "steps", "now"] (defScope s_Serviceu_initu) := ⟨rfl, rfl, rfl, by decide +kernel, by decide +kernel, by decide +kernel, by decide +kernel, by decide +kernel, by decide +kernel⟩
theorem ss_Patternu_initu : SupScope ["self", "size", "marks", "steps", "now"] (defScope s_Patternu_initu) := ⟨rfl, rfl, rfl, by decide +kernel, by decide +kernel, by decide +kernel, by decide +kernel, by decide +kernel, by decide +kernel⟩
theorem sc__law_made : FnScope ["_law_choice", "_law_size", "_law_marks_here", "_law_steps_here", "_law_here"] ["_law_choice", "_law_size", "_law_marks_here", "_law_steps_here", "_law_here"] (defScope s__law_made) := ⟨rfl, rfl, rfl, by decide +kernel, rfl, by decide +kernel, by decide +kernel⟩
theorem v__law_made__law_choice : Vis (defScope s__law_made) "_law_choice" := by unfold Vis; decide +kernel
theorem v__law_made__law_size : Vis (defScope s__law_made) "_law_size" := by unfold Vis; decide +kernel
theorem v__law_made__law_marks_here : Vis (defScope s__law_made) "_law_marks_here" := by unfold Vis; decide +kernel
theorem v__law_made__law_steps_here : Vis (defScope s__law_made) "_law_steps_here" := by unfold Vis; decide +kernel
theorem v__law_made__law_here : Vis (defScope s__law_made) "_law_here" := by unfold Vis; decide +kernel
theorem g__law_made_int : (defScope s__law_made).names.lookup ("int" : Str) = some .globalImplicit := by decide +kernel
theorem g__law_made_Service : (defScope s__law_made).names.lookup ("Service" : Str) = some .globalImplicit := by decide +kernel
theorem g__law_made_Pattern : (defScope s__law_made).names.lookup ("Pattern" : Str) = some .globalImplicit := by decide +kernel
theorem ss_NoStepu_initu : SupScope ["self", "ask", "end"] (defScope s_NoStepu_initu) := ⟨rfl, rfl, rfl, by decide +kernel, by decide +kernel, by decide +kernel, by decide +kernel, by decide +kernel, by decide +kernel⟩
theorem sc_Machineu_setitemu : FnScope ["self", "ask", "end"] ["self", "ask", "end"] (defScope s_Machineu_setitemu) := ⟨rfl, rfl, rfl, by decide +kernel, rfl, by decide +kernel, by decide +kernel⟩
theorem v_Machineu_setitemu_end : Vis (defScope s_Machineu_setitemu) "end" := by unfold Vis; decide +kernel
theorem v_Machineu_setitemu_self : Vis (defScope s_Machineu_setitemu) "self" := by unfold Vis; decide +kernel
theorem v_Machineu_setitemu_ask : Vis (defScope s_Machineu_setitemu) "ask" := by unfold Vis; decide +kernel
theorem g_Machineu_setitemu_NoStep : (defScope s_Machineu_setitemu).names.lookup ("NoStep" : Str) = some .globalImplicit := by decide +kernel
theorem sc__law_whole : FnScope ["_law_x"] ["_law_x"] (defScope s__law_whole) := ⟨rfl, rfl, rfl, by decide +kernel, rfl, by decide +kernel, by decide +kernel⟩
theorem v__law_whole__law_x : Vis (defScope s__law_whole) "_law_x" := by unfold Vis; decide +kernel
theorem g__law_whole_int : (defScope s__law_whole).names.lookup ("int" : Str) = some .globalImplicit := by decide +kernel
theorem g__law_whole_isinstance : (defScope s__law_whole).names.lookup ("isinstance" : Str) = some .globalImplicit := by decide +kernel
theorem g__law_whole_bool : (defScope s__law_whole).names.lookup ("bool" : Str) = some .globalImplicit := by decide +kernel
theorem sc__law_moved : FnScope ["_law_machine", "_law_ask", "_law_end", "e"] ["_law_machine", "_law_ask", "_law_end"] (defScope s__law_moved) := ⟨rfl, rfl, rfl, by decide +kernel, rfl, by decide +kernel, by decide +kernel⟩
theorem v__law_moved__law_machine : Vis (defScope s__law_moved) "_law_machine" := by unfold Vis; decide +kernel
theorem v__law_moved__law_ask : Vis (defScope s__law_moved) "_law_ask" := by unfold Vis; decide +kernel
theorem v__law_moved__law_end : Vis (defScope s__law_moved) "_law_end" := by unfold Vis; decide +kernel
theorem v__law_moved_e : Vis (defScope s__law_moved) "e" := by unfold Vis; decide +kernel
theorem g__law_moved_AsksError : (defScope s__law_moved).names.lookup ("AsksError" : Str) = some .globalImplicit := by decide +kernel
theorem g__law_moved_isinstance : (defScope s__law_moved).names.lookup ("isinstance" : Str) = some .globalImplicit := by decide +kernel
theorem g__law_moved_ValueError : (defScope s__law_moved).names.lookup ("ValueError" : Str) = some .globalImplicit := by decide +kernel
theorem g__law_moved_BadState : (defScope s__law_moved).names.lookup ("BadState" : Str) = some .globalImplicit := by decide +kernel
theorem g__law_moved__law_whole : (defScope s__law_moved).names.lookup ("_law_whole" : Str) = some .globalImplicit := by decide +kernel
theorem g__law_moved_NoStep : (defScope s__law_moved).names.lookup ("NoStep" : Str) = some .globalImplicit := by decide +kernel
theorem sc_Machineu_boolu : FnScope ["self"] ["self"] (defScope s_Machineu_boolu) := ⟨rfl, rfl, rfl, by decide +kernel, rfl, by decide +kernel, by decide +kernel⟩
theorem v_Machineu_boolu_self : Vis (defScope s_Machineu_boolu) "self" := by unfold Vis; decide +kernel
theorem sc_Machine_now : FnScope ["self"] ["self"] (defScope s_Machine_now) := ⟨rfl, rfl, rfl, by decide +kernel, rfl, by decide +kernel, by decide +kernel⟩
theorem v_Machine_now_self : Vis (defScope s_Machine_now) "self" := by unfold Vis; decide +kernel
theorem sc_Machineu_getitemu : FnScope ["self", "ask"] ["self", "ask"] (defScope s_Machineu_getitemu) := ⟨rfl, rfl, rfl, by decide +kernel, rfl, by decide +kernel, by decide +kernel⟩
theorem v_Machineu_getitemu_self : Vis (defScope s_Machineu_getitemu) "self" := by unfold Vis; decide +kernel
theorem v_Machineu_getitemu_ask : Vis (defScope s_Machineu_getitemu) "ask" := by unfold Vis; decide +kernel
theorem sc__law_stands : FnScope ["_law_machine", "_law_here", "_law_size", "_law_marks_here", "_law_steps_here", "_law_asks_here", "_law_ask", "_law_end"] ["_law_machine", "_law_here", "_law_size", "_law_marks_here", "_law_steps_here", "_law_asks_here"] (defScope s__law_stands) := ⟨rfl, rfl, rfl, by decide +kernel, rfl, by decide +kernel, by decide +kernel⟩
theorem v__law_stands__law_machine : Vis (defScope s__law_stands) "_law_machine" := by unfold Vis; decide +kernel
theorem v__law_stands__law_here : Vis (defScope s__law_stands) "_law_here" := by unfold Vis; decide +kernel
theorem v__law_stands__law_marks_here : Vis (defScope s__law_stands) "_law_marks_here" := by unfold Vis; decide +kernel
theorem v__law_stands__law_asks_here : Vis (defScope s__law_stands) "_law_asks_here" := by unfold Vis; decide +kernel
theorem v__law_stands__law_ask : Vis (defScope s__law_stands) "_law_ask" := by unfold Vis; decide +kernel
theorem v__law_stands__law_size : Vis (defScope s__law_stands) "_law_size" := by unfold Vis; decide +kernel
theorem l__law_stands__law_ask : L2.Loc (defScope s__law_stands) "_law_ask" := by unfold L2.Loc; decide +kernel
theorem g__law_stands_Machine : (defScope s__law_stands).names.lookup ("Machine" : Str) = some .globalImplicit := by decide +kernel
theorem g__law_stands_isinstance : (defScope s__law_stands).names.lookup ("isinstance" : Str) = some .globalImplicit := by decide +kernel
theorem g__law_stands_bool : (defScope s__law_stands).names.lookup ("bool" : Str) = some .globalImplicit := by decide +kernel
theorem g__law_stands__law_whole : (defScope s__law_stands).names.lookup ("_law_whole" : Str) = some .globalImplicit := by decide +kernel
theorem g__law_stands_list : (defScope s__law_stands).names.lookup ("list" : Str) = some .globalImplicit := by decide +kernel
theorem g__law_stands_range : (defScope s__law_stands).names.lookup ("range" : Str) = some .globalImplicit := by decide +kernel
theorem sc_law : FnScope ["_law_script", "_law_shape", "_law_size", "_law_asks_here", "_law_steps_here", "_law_marks_here", "_law_here", "_law_machine", "_law_other", "_law_start", "_law_k", "_law_row", "_law_ask", "_law_end", "_law_own", "_law_due", "_law_step"] ["_law_script"] (defScope s_law) := ⟨rfl, rfl, rfl, by decide +kernel, rfl, by decide +kernel, by decide +kernel⟩
theorem v_law__law_script : Vis (defScope s_law) "_law_script" := by unfold Vis; decide +kernel
theorem v_law__law_shape : Vis (defScope s_law) "_law_shape" := by unfold Vis; decide +kernel
theorem v_law__law_size : Vis (defScope s_law) "_law_size" := by unfold Vis; decide +kernel
theorem v_law__law_asks_here : Vis (defScope s_law) "_law_asks_here" := by unfold Vis; decide +kernel
theorem v_law__law_marks_here : Vis (defScope s_law) "_law_marks_here" := by unfold Vis; decide +kernel
theorem v_law__law_steps_here : Vis (defScope s_law) "_law_steps_here" := by unfold Vis; decide +kernel
theorem v_law__law_here : Vis (defScope s_law) "_law_here" := by unfold Vis; decide +kernel
theorem v_law__law_k : Vis (defScope s_law) "_law_k" := by unfold Vis; decide +kernel
theorem v_law__law_row : Vis (defScope s_law) "_law_row" := by unfold Vis; decide +kernel
theorem v_law__law_own : Vis (defScope s_law) "_law_own" := by unfold Vis; decide +kernel
theorem v_law__law_ask : Vis (defScope s_law) "_law_ask" := by unfold Vis; decide +kernel
theorem v_law__law_end : Vis (defScope s_law) "_law_end" := by unfold Vis; decide +kernel
theorem v_law__law_machine : Vis (defScope s_law) "_law_machine" := by unfold Vis; decide +kernel
theorem v_law__law_due : Vis (defScope s_law) "_law_due" := by unfold Vis; decide +kernel
theorem v_law__law_other : Vis (defScope s_law) "_law_other" := by unfold Vis; decide +kernel
theorem v_law__law_start : Vis (defScope s_law) "_law_start" := by unfold Vis; decide +kernel
theorem l_law__law_shape : L2.Loc (defScope s_law) "_law_shape" := by unfold L2.Loc; decide +kernel
theorem l_law__law_size : L2.Loc (defScope s_law) "_law_size" := by unfold L2.Loc; decide +kernel
theorem l_law__law_asks_here : L2.Loc (defScope s_law) "_law_asks_here" := by unfold L2.Loc; decide +kernel
theorem l_law__law_steps_here : L2.Loc (defScope s_law) "_law_steps_here" := by unfold L2.Loc; decide +kernel
theorem l_law__law_marks_here : L2.Loc (defScope s_law) "_law_marks_here" := by unfold L2.Loc; decide +kernel
theorem l_law__law_here : L2.Loc (defScope s_law) "_law_here" := by unfold L2.Loc; decide +kernel
theorem l_law__law_machine : L2.Loc (defScope s_law) "_law_machine" := by unfold L2.Loc; decide +kernel
theorem l_law__law_other : L2.Loc (defScope s_law) "_law_other" := by unfold L2.Loc; decide +kernel
theorem l_law__law_start : L2.Loc (defScope s_law) "_law_start" := by unfold L2.Loc; decide +kernel
theorem l_law__law_k : L2.Loc (defScope s_law) "_law_k" := by unfold L2.Loc; decide +kernel
theorem l_law__law_row : L2.Loc (defScope s_law) "_law_row" := by unfold L2.Loc; decide +kernel
theorem l_law__law_ask : L2.Loc (defScope s_law) "_law_ask" := by unfold L2.Loc; decide +kernel
theorem l_law__law_end : L2.Loc (defScope s_law) "_law_end" := by unfold L2.Loc; decide +kernel
theorem l_law__law_due : L2.Loc (defScope s_law) "_law_due" := by unfold L2.Loc; decide +kernel
theorem g_law__law_draws : (defScope s_law).names.lookup ("_law_draws" : Str) = some .globalImplicit := by decide +kernel
theorem g_law_int : (defScope s_law).names.lookup ("int" : Str) = some .globalImplicit := by decide +kernel
theorem g_law__law_asks : (defScope s_law).names.lookup ("_law_asks" : Str) = some .globalImplicit := by decide +kernel
theorem g_law__law_steps : (defScope s_law).names.lookup ("_law_steps" : Str) = some .globalImplicit := by decide +kernel
theorem g_law__law_marks : (defScope s_law).names.lookup ("_law_marks" : Str) = some .globalImplicit := by decide +kernel
theorem g_law_list : (defScope s_law).names.lookup ("list" : Str) = some .globalImplicit := by decide +kernel
theorem g_law__law_made : (defScope s_law).names.lookup ("_law_made" : Str) = some .globalImplicit := by decide +kernel
theorem g_law_len : (defScope s_law).names.lookup ("len" : Str) = some .globalImplicit := by decide +kernel
theorem g_law_max : (defScope s_law).names.lookup ("max" : Str) = some .globalImplicit := by decide +kernel
theorem g_law_range : (defScope s_law).names.lookup ("range" : Str) = some .globalImplicit := by decide +kernel
theorem g_law__law_moved : (defScope s_law).names.lookup ("_law_moved" : Str) = some .globalImplicit := by decide +kernel
theorem g_law__law_stands : (defScope s_law).names.lookup ("_law_stands" : Str) = some .globalImplicit := by decide +kernel
structure Facts (K : PySem.W.Frag) (mg : Str → Option Value) : Prop where
  g__law_cell : mg "_law_cell" = some (.ref (He.ga K "_law_cell"))
  g__law_draws : mg "_law_draws" = some (.ref (He.ga K "_law_draws"))
  g__law_asks : mg "_law_asks" = some (.ref (He.ga K "_law_asks"))
  g__law_steps : mg "_law_steps" = some (.ref (He.ga K "_law_steps"))
  g__law_marks : mg "_law_marks" = some (.ref (He.ga K "_law_marks"))
  g_is_ask : mg "is_ask" = some (.ref (He.ga K "is_ask"))
  g_check_parts : mg "check_parts" = some (.ref (He.ga K "check_parts"))
  g_in_order : mg "in_order" = some (.ref (He.ga K "in_order"))
  g_ends_by_ask : mg "ends_by_ask" = some (.ref (He.ga K "ends_by_ask"))
  g__law_made : mg "_law_made" = some (.ref (He.ga K "_law_made"))
  g__law_whole : mg "_law_whole" = some (.ref (He.ga K "_law_whole"))
  g__law_moved : mg "_law_moved" = some (.ref (He.ga K "_law_moved"))
  g__law_stands : mg "_law_stands" = some (.ref (He.ga K "_law_stands"))
  g_law : mg "law" = some (.ref (He.ga K "law"))
  g_Machine : mg "Machine" = some (.ref (cl K 12))
  c_Machine : Cls K (cl K 12)
  k_Machine : Mk K (cl K 12) (He.ma K (He.ga K "Machine") "__init__")
  g_Pattern : mg "Pattern" = some (.ref (cl K 14))
  c_Pattern : Cls K (cl K 14)
  k_Pattern : Mk K (cl K 14) (He.ma K (He.ga K "Pattern") "__init__")
  g_Service : mg "Service" = some (.ref (cl K 13))
  c_Service : Cls K (cl K 13)
  k_Service : Mk K (cl K 13) (He.ma K (He.ga K "Service") "__init__")
  f_ValueError : mg "ValueError" = none
  f_all : mg "all" = none
  f_bool : mg "bool" = none
  f_int : mg "int" = none
  f_isinstance : mg "isinstance" = none
  f_len : mg "len" = none
  f_list : mg "list" = none
  f_max : mg "max" = none
  f_range : mg "range" = none
  f_super : mg "super" = none
  f_tuple : mg "tuple" = none
  i_LETTERS : ∃ t, mg "LETTERS" = some (.str "abcdefghijklmnopqrstuvwxyz" t)
  i_MOST_SIGNS : ∃ t, mg "MOST_SIGNS" = some (.int (8) t)
  i_MOST_STATES : ∃ t, mg "MOST_STATES" = some (.int (200) t)
  i_MOST_STEPS : ∃ t, mg "MOST_STEPS" = some (.int (600) t)
  na_Machine_ends : NoAttr K (cl K 12) "ends"
  na_Service_ends : NoAttr K (cl K 13) "ends"
  na_Pattern_ends : NoAttr K (cl K 14) "ends"
  na_Machine_marks : NoAttr K (cl K 12) "marks"
  na_Service_marks : NoAttr K (cl K 13) "marks"
  na_Pattern_marks : NoAttr K (cl K 14) "marks"
  na_Machine_place : NoAttr K (cl K 12) "place"
  na_Service_place : NoAttr K (cl K 13) "place"
  na_Pattern_place : NoAttr K (cl K 14) "place"
  na_Machine_size : NoAttr K (cl K 12) "size"
  na_Service_size : NoAttr K (cl K 13) "size"
  na_Pattern_size : NoAttr K (cl K 14) "size"
  na_Machine_steps : NoAttr K (cl K 12) "steps"
  na_Service_steps : NoAttr K (cl K 13) "steps"
  na_Pattern_steps : NoAttr K (cl K 14) "steps"
  g_AsksError : mg "AsksError" = some (.ref (cl K 0))
  g_BadMachine : mg "BadMachine" = some (.ref (cl K 1))
  g_BadState : mg "BadState" = some (.ref (cl K 2))
  g_NoStep : mg "NoStep" = some (.ref (cl K 4))
  g_TooLarge : mg "TooLarge" = some (.ref (cl K 3))
  em_BadMachine_AsksError : PySem.W.exmOne K (.ref (cl K 1)) (.ref (cl K 0)) = some true
  em_BadMachine_BadMachine : PySem.W.exmOne K (.ref (cl K 1)) (.ref (cl K 1)) = some true
  em_BadMachine_BadState : PySem.W.exmOne K (.ref (cl K 1)) (.ref (cl K 2)) = some false
  em_BadMachine_NoStep : PySem.W.exmOne K (.ref (cl K 1)) (.ref (cl K 4)) = some false
  em_BadState_AsksError : PySem.W.exmOne K (.ref (cl K 2)) (.ref (cl K 0)) = some true
  em_BadState_BadState : PySem.W.exmOne K (.ref (cl K 2)) (.ref (cl K 2)) = some true
  em_BadState_NoStep : PySem.W.exmOne K (.ref (cl K 2)) (.ref (cl K 4)) = some false
  em_TooLarge_AsksError : PySem.W.exmOne K (.ref (cl K 3)) (.ref (cl K 0)) = some true
  em_TooLarge_BadState : PySem.W.exmOne K (.ref (cl K 3)) (.ref (cl K 2)) = some false
  em_TooLarge_TooLarge : PySem.W.exmOne K (.ref (cl K 3)) (.ref (cl K 3)) = some true
  em_TooLarge_NoStep : PySem.W.exmOne K (.ref (cl K 3)) (.ref (cl K 4)) = some false
  em_NoStep_AsksError : PySem.W.exmOne K (.ref (cl K 4)) (.ref (cl K 0)) = some true
  em_NoStep_BadState : PySem.W.exmOne K (.ref (cl K 4)) (.ref (cl K 2)) = some false
  em_NoStep_NoStep : PySem.W.exmOne K (.ref (cl K 4)) (.ref (cl K 4)) = some true
  w_Machine_bool : OwnM K (cl K 12) "__bool__" (He.ma K (He.ga K "Machine") "__bool__")
  w_Service_bool : OwnM K (cl K 13) "__bool__" (He.ma K (He.ga K "Machine") "__bool__")
  w_Pattern_bool : OwnM K (cl K 14) "__bool__" (He.ma K (He.ga K "Machine") "__bool__")
  w_Machine_getitem : OwnM K (cl K 12) "__getitem__" (He.ma K (He.ga K "Machine") "__getitem__")
  w_Service_getitem : OwnM K (cl K 13) "__getitem__" (He.ma K (He.ga K "Machine") "__getitem__")
  w_Pattern_getitem : OwnM K (cl K 14) "__getitem__" (He.ma K (He.ga K "Machine") "__getitem__")
  w_Machine_setitem : OwnM K (cl K 12) "__setitem__" (He.ma K (He.ga K "Machine") "__setitem__")
  w_Service_setitem : OwnM K (cl K 13) "__setitem__" (He.ma K (He.ga K "Machine") "__setitem__")
  w_Pattern_setitem : OwnM K (cl K 14) "__setitem__" (He.ma K (He.ga K "Machine") "__setitem__")
  pr_Machine_now : PropOf K (cl K 12) "now" (He.ma K (He.ga K "Machine") "now") (Hx.gp K "Machine" "now")
  pr_Service_now : PropOf K (cl K 13) "now" (He.ma K (He.ga K "Machine") "now") (Hx.gp K "Machine" "now")
  pr_Pattern_now : PropOf K (cl K 14) "now" (He.ma K (He.ga K "Machine") "now") (Hx.gp K "Machine" "now")
  ot_Machine : OkTy K (cl K 12)
  is_Machine_Machine : PySem.W.kitOne K (.ref (cl K 12)) (.ref (cl K 12)) = some true
  ot_Service : OkTy K (cl K 13)
  is_Service_Machine : PySem.W.kitOne K (.ref (cl K 13)) (.ref (cl K 12)) = some true
  ot_Pattern : OkTy K (cl K 14)
  is_Pattern_Machine : PySem.W.kitOne K (.ref (cl K 14)) (.ref (cl K 12)) = some true
  ox_BadMachine : OexC K (cl K 1)
  in_BadMachine : PySem.W.findIn K (.ref (cl K 1)) "__init__" = some (some (.ref (He.ma K (He.ga K "BadMachine") "__init__"))) ∧ PySem.W.typeIn K (.ref (He.ma K (He.ga K "BadMachine") "__init__")) = some (.type "function")
  ox_BadState : OexC K (cl K 2)
  in_BadState : PySem.W.findIn K (.ref (cl K 2)) "__init__" = some (some (.ref (He.ma K (He.ga K "BadState") "__init__"))) ∧ PySem.W.typeIn K (.ref (He.ma K (He.ga K "BadState") "__init__")) = some (.type "function")
  ox_NoStep : OexC K (cl K 4)
  in_NoStep : PySem.W.findIn K (.ref (cl K 4)) "__init__" = some (some (.ref (He.ma K (He.ga K "NoStep") "__init__"))) ∧ PySem.W.typeIn K (.ref (He.ma K (He.ga K "NoStep") "__init__")) = some (.type "function")
  ox_TooLarge : OexC K (cl K 3)
  in_TooLarge : PySem.W.findIn K (.ref (cl K 3)) "__init__" = some (some (.ref (He.ma K (He.ga K "TooLarge") "__init__"))) ∧ PySem.W.typeIn K (.ref (He.ma K (He.ga K "TooLarge") "__init__")) = some (.type "function")
  xf_BadMachine_part : PySem.W.findIn K (.ref (cl K 1)) "part" = some none
  xf_BadState_state : PySem.W.findIn K (.ref (cl K 2)) "state" = some none
  xf_NoStep_ask : PySem.W.findIn K (.ref (cl K 4)) "ask" = some none
  xf_NoStep_end : PySem.W.findIn K (.ref (cl K 4)) "end" = some none
  xf_TooLarge_size : PySem.W.findIn K (.ref (cl K 3)) "size" = some none
  xc_BadMachine : XC K (cl K 1)
  xc_BadState : XC K (cl K 2)
  xc_TooLarge : XC K (cl K 3)
  xc_NoStep : XC K (cl K 4)
  kt_BadMachine_AsksError : PySem.W.kitOne K (.ref (cl K 1)) (.ref (cl K 0)) = some true
  kt_BadMachine_BadMachine : PySem.W.kitOne K (.ref (cl K 1)) (.ref (cl K 1)) = some true
  kt_BadMachine_BadState : PySem.W.kitOne K (.ref (cl K 1)) (.ref (cl K 2)) = some false
  kt_BadMachine_NoStep : PySem.W.kitOne K (.ref (cl K 1)) (.ref (cl K 4)) = some false
  kt_BadState_AsksError : PySem.W.kitOne K (.ref (cl K 2)) (.ref (cl K 0)) = some true
  kt_BadState_BadState : PySem.W.kitOne K (.ref (cl K 2)) (.ref (cl K 2)) = some true
  kt_BadState_NoStep : PySem.W.kitOne K (.ref (cl K 2)) (.ref (cl K 4)) = some false
  kt_TooLarge_AsksError : PySem.W.kitOne K (.ref (cl K 3)) (.ref (cl K 0)) = some true
  kt_TooLarge_BadState : PySem.W.kitOne K (.ref (cl K 3)) (.ref (cl K 2)) = some false
  kt_TooLarge_TooLarge : PySem.W.kitOne K (.ref (cl K 3)) (.ref (cl K 3)) = some true
  kt_TooLarge_NoStep : PySem.W.kitOne K (.ref (cl K 3)) (.ref (cl K 4)) = some false
  kt_NoStep_AsksError : PySem.W.kitOne K (.ref (cl K 4)) (.ref (cl K 0)) = some true
  kt_NoStep_BadState : PySem.W.kitOne K (.ref (cl K 4)) (.ref (cl K 2)) = some false
  kt_NoStep_NoStep : PySem.W.kitOne K (.ref (cl K 4)) (.ref (cl K 4)) = some true
  d__law_cell : ∃ fd, FunD K "_law_cell" "_law_cell" (defArgs s__law_cell) (defBody s__law_cell) (defScope s__law_cell) [] [] (He.ga K "_law_cell") fd
  d__law_draws : ∃ fd, FunD K "_law_draws" "_law_draws" (defArgs s__law_draws) (defBody s__law_draws) (defScope s__law_draws) [] [] (He.ga K "_law_draws") fd
  d__law_asks : ∃ fd, FunD K "_law_asks" "_law_asks" (defArgs s__law_asks) (defBody s__law_asks) (defScope s__law_asks) [] [] (He.ga K "_law_asks") fd
  d__law_steps : ∃ fd, FunD K "_law_steps" "_law_steps" (defArgs s__law_steps) (defBody s__law_steps) (defScope s__law_steps) [] [] (He.ga K "_law_steps") fd
  d__law_marks : ∃ fd, FunD K "_law_marks" "_law_marks" (defArgs s__law_marks) (defBody s__law_marks) (defScope s__law_marks) [] [] (He.ga K "_law_marks") fd
  d_BadMachineu_initu : ∃ fd, ErrD P0 K "__init__" "BadMachine.__init__" (defArgs s_BadMachineu_initu) (defBody s_BadMachineu_initu) (defScope s_BadMachineu_initu) (cl K 1) (He.ma K (He.ga K "BadMachine") "__init__") fd
  d_TooLargeu_initu : ∃ fd, ErrD P0 K "__init__" "TooLarge.__init__" (defArgs s_TooLargeu_initu) (defBody s_TooLargeu_initu) (defScope s_TooLargeu_initu) (cl K 3) (He.ma K (He.ga K "TooLarge") "__init__") fd
  d_is_ask : ∃ fd, FunD K "is_ask" "is_ask" (defArgs s_is_ask) (defBody s_is_ask) (defScope s_is_ask) [] [] (He.ga K "is_ask") fd
  d_check_parts : ∃ fd, FunD K "check_parts" "check_parts" (defArgs s_check_parts) (defBody s_check_parts) (defScope s_check_parts) [] [] (He.ga K "check_parts") fd
  d_in_order : ∃ fd, FunD K "in_order" "in_order" (defArgs s_in_order) (defBody s_in_order) (defScope s_in_order) [] [] (He.ga K "in_order") fd
  d_BadStateu_initu : ∃ fd, ErrD P0 K "__init__" "BadState.__init__" (defArgs s_BadStateu_initu) (defBody s_BadStateu_initu) (defScope s_BadStateu_initu) (cl K 2) (He.ma K (He.ga K "BadState") "__init__") fd
  d_ends_by_ask : ∃ fd, FunD K "ends_by_ask" "ends_by_ask" (defArgs s_ends_by_ask) (defBody s_ends_by_ask) (defScope s_ends_by_ask) [] [] (He.ga K "ends_by_ask") fd
  d_Machineu_initu : ∃ fd, FunD K "__init__" "Machine.__init__" (defArgs s_Machineu_initu) (defBody s_Machineu_initu) (defScope s_Machineu_initu) [.int (0)] [] (He.ma K (He.ga K "Machine") "__init__") fd
  d_Serviceu_initu : ∃ fd, SupD P0 K "__init__" "Service.__init__" (defArgs s_Serviceu_initu) (defBody s_Serviceu_initu) (defScope s_Serviceu_initu) [.int (0)] (cl K 13) (He.ma K (He.ga K "Machine") "__init__") (He.ma K (He.ga K "Service") "__init__") fd
  d_Patternu_initu : ∃ fd, SupD P0 K "__init__" "Pattern.__init__" (defArgs s_Patternu_initu) (defBody s_Patternu_initu) (defScope s_Patternu_initu) [.int (0)] (cl K 14) (He.ma K (He.ga K "Machine") "__init__") (He.ma K (He.ga K "Pattern") "__init__") fd
  d__law_made : ∃ fd, FunD K "_law_made" "_law_made" (defArgs s__law_made) (defBody s__law_made) (defScope s__law_made) [] [] (He.ga K "_law_made") fd
  d_NoStepu_initu : ∃ fd, ErrD P0 K "__init__" "NoStep.__init__" (defArgs s_NoStepu_initu) (defBody s_NoStepu_initu) (defScope s_NoStepu_initu) (cl K 4) (He.ma K (He.ga K "NoStep") "__init__") fd
  d_Machineu_setitemu : ∃ fd, FunD K "__setitem__" "Machine.__setitem__" (defArgs s_Machineu_setitemu) (defBody s_Machineu_setitemu) (defScope s_Machineu_setitemu) [] [] (He.ma K (He.ga K "Machine") "__setitem__") fd
  d__law_whole : ∃ fd, FunD K "_law_whole" "_law_whole" (defArgs s__law_whole) (defBody s__law_whole) (defScope s__law_whole) [] [] (He.ga K "_law_whole") fd
  d__law_moved : ∃ fd, FunD K "_law_moved" "_law_moved" (defArgs s__law_moved) (defBody s__law_moved) (defScope s__law_moved) [] [] (He.ga K "_law_moved") fd
  d_Machineu_boolu : ∃ fd, FunD K "__bool__" "Machine.__bool__" (defArgs s_Machineu_boolu) (defBody s_Machineu_boolu) (defScope s_Machineu_boolu) [] [] (He.ma K (He.ga K "Machine") "__bool__") fd
  d_Machine_now : ∃ fd, FunD K "now" "Machine.now" (defArgs s_Machine_now) (defBody s_Machine_now) (defScope s_Machine_now) [] [] (Hx.gp K "Machine" "now") fd
  d_Machineu_getitemu : ∃ fd, FunD K "__getitem__" "Machine.__getitem__" (defArgs s_Machineu_getitemu) (defBody s_Machineu_getitemu) (defScope s_Machineu_getitemu) [] [] (He.ma K (He.ga K "Machine") "__getitem__") fd
  d__law_stands : ∃ fd, FunD K "_law_stands" "_law_stands" (defArgs s__law_stands) (defBody s__law_stands) (defScope s__law_stands) [] [] (He.ga K "_law_stands") fd
  d_law : ∃ fd, FunD K "law" "law" (defArgs s_law) (defBody s_law) (defScope s_law) [] [] (He.ga K "law") fd
def fa : List He.Fa := [.glo "_law_cell", .glo "_law_draws", .glo "_law_asks", .glo "_law_steps", .glo "_law_marks", .glo "is_ask", .glo "check_parts", .glo "in_order", .glo "ends_by_ask", .glo "_law_made", .glo "_law_whole", .glo "_law_moved", .glo "_law_stands", .glo "law", .glo "Machine", .cls "Machine", .mkr "Machine", .glo "Pattern", .cls "Pattern", .mkr "Pattern", .glo "Service", .cls "Service", .mkr "Service", .free "ValueError", .free "all", .free "bool", .free "int", .free "isinstance", .free "len", .free "list", .free "max", .free "range", .free "super", .free "tuple", .str "LETTERS" "abcdefghijklmnopqrstuvwxyz", .int "MOST_SIGNS" (8), .int "MOST_STATES" (200), .int "MOST_STEPS" (600), .noat "Machine" "ends", .noat "Service" "ends", .noat "Pattern" "ends", .noat "Machine" "marks", .noat "Service" "marks", .noat "Pattern" "marks", .noat "Machine" "place", .noat "Service" "place", .noat "Pattern" "place", .noat "Machine" "size", .noat "Service" "size", .noat "Pattern" "size", .noat "Machine" "steps", .noat "Service" "steps", .noat "Pattern" "steps", .glo "AsksError", .glo "BadMachine", .glo "BadState", .glo "NoStep", .glo "TooLarge", .exm "BadMachine" "AsksError" true, .exm "BadMachine" "BadMachine" true, .exm "BadMachine" "BadState" false, .exm "BadMachine" "NoStep" false, .exm "BadState" "AsksError" true, .exm "BadState" "BadState" true, .exm "BadState" "NoStep" false, .exm "TooLarge" "AsksError" true, .exm "TooLarge" "BadState" false, .exm "TooLarge" "TooLarge" true, .exm "TooLarge" "NoStep" false, .exm "NoStep" "AsksError" true, .exm "NoStep" "BadState" false, .exm "NoStep" "NoStep" true]
def fn : List He.DefD := [d__law_cell, d__law_draws, d__law_asks, d__law_steps, d__law_marks, d_is_ask, d_check_parts, d_in_order, d_ends_by_ask, d_Machineu_initu, d__law_made, d_Machineu_setitemu, d__law_whole, d__law_moved, d_Machineu_boolu, d_Machineu_getitemu, d__law_stands, d_law]
def fx : List Hx.Fx := [.own "Machine" "Machine" "__bool__", .own "Service" "Machine" "__bool__", .own "Pattern" "Machine" "__bool__", .own "Machine" "Machine" "__getitem__", .own "Service" "Machine" "__getitem__", .own "Pattern" "Machine" "__getitem__", .own "Machine" "Machine" "__setitem__", .own "Service" "Machine" "__setitem__", .own "Pattern" "Machine" "__setitem__", .prop "Machine" "Machine" "now", .prop "Service" "Machine" "now", .prop "Pattern" "Machine" "now", .okty "Machine", .isi "Machine" "Machine" true, .okty "Service", .isi "Service" "Machine" true, .okty "Pattern", .isi "Pattern" "Machine" true, .gen fun _ K => Hx.oexB K (He.ga K "BadMachine"), .gen fun _ K => Hx.iniB K (He.ga K "BadMachine"), .gen fun _ K => Hx.oexB K (He.ga K "BadState"), .gen fun _ K => Hx.iniB K (He.ga K "BadState"), .gen fun _ K => Hx.oexB K (He.ga K "NoStep"), .gen fun _ K => Hx.iniB K (He.ga K "NoStep"), .gen fun _ K => Hx.oexB K (He.ga K "TooLarge"), .gen fun _ K => Hx.iniB K (He.ga K "TooLarge"), .gen fun _ K => He.eqO (PySem.W.findIn K (.ref (He.ga K "BadMachine")) "part") (some none), .gen fun _ K => He.eqO (PySem.W.findIn K (.ref (He.ga K "BadState")) "state") (some none), .gen fun _ K => He.eqO (PySem.W.findIn K (.ref (He.ga K "NoStep")) "ask") (some none), .gen fun _ K => He.eqO (PySem.W.findIn K (.ref (He.ga K "NoStep")) "end") (some none), .gen fun _ K => He.eqO (PySem.W.findIn K (.ref (He.ga K "TooLarge")) "size") (some none), .gen fun _ K => xcB K (He.ga K "BadMachine"), .gen fun _ K => xcB K (He.ga K "BadState"), .gen fun _ K => xcB K (He.ga K "TooLarge"), .gen fun _ K => xcB K (He.ga K "NoStep"), .isi "BadMachine" "AsksError" true, .isi "BadMachine" "BadMachine" true, .isi "BadMachine" "BadState" false, .isi "BadMachine" "NoStep" false, .isi "BadState" "AsksError" true, .isi "BadState" "BadState" true, .isi "BadState" "NoStep" false, .isi "TooLarge" "AsksError" true, .isi "TooLarge" "BadState" false, .isi "TooLarge" "TooLarge" true, .isi "TooLarge" "NoStep" false, .isi "NoStep" "AsksError" true, .isi "NoStep" "BadState" false, .isi "NoStep" "NoStep" true, .gen fun P K => Hx.errB P K (He.ma K (He.ga K "BadMachine") "__init__") (He.ga K "BadMachine"), .gen fun P K => Hx.errB P K (He.ma K (He.ga K "TooLarge") "__init__") (He.ga K "TooLarge"), .gen fun P K => Hx.errB P K (He.ma K (He.ga K "BadState") "__init__") (He.ga K "BadState"), .gen fun P K => Hx.errB P K (He.ma K (He.ga K "NoStep") "__init__") (He.ga K "NoStep"), .sup "Service" "Machine", .sup "Pattern" "Machine"]
def dx : List Hx.DefX := [d_BadMachineu_initu, d_TooLargeu_initu, d_BadStateu_initu, d_Serviceu_initu, d_Patternu_initu, d_NoStepu_initu, d_Machine_now]
theorem facts {K : PySem.W.Frag} {h : Heap} {mg : Str → Option Value} (X : K.In h) (Gl : h.Ns mainGlobals mg) (c : Hx.SaysX P0 fa fn fx dx K) : Facts K mg where
  g__law_cell := He.glo_ok X Gl (c.d.fact 0 rfl)
  g__law_draws := He.glo_ok X Gl (c.d.fact 1 rfl)
  g__law_asks := He.glo_ok X Gl (c.d.fact 2 rfl)
  g__law_steps := He.glo_ok X Gl (c.d.fact 3 rfl)
  g__law_marks := He.glo_ok X Gl (c.d.fact 4 rfl)
  g_is_ask := He.glo_ok X Gl (c.d.fact 5 rfl)
  g_check_parts := He.glo_ok X Gl (c.d.fact 6 rfl)
  g_in_order := He.glo_ok X Gl (c.d.fact 7 rfl)
  g_ends_by_ask := He.glo_ok X Gl (c.d.fact 8 rfl)
  g__law_made := He.glo_ok X Gl (c.d.fact 9 rfl)
  g__law_whole := He.glo_ok X Gl (c.d.fact 10 rfl)
  g__law_moved := He.glo_ok X Gl (c.d.fact 11 rfl)
  g__law_stands := He.glo_ok X Gl (c.d.fact 12 rfl)
  g_law := He.glo_ok X Gl (c.d.fact 13 rfl)
  g_Machine := He.glo_ok X Gl (c.d.fact 14 rfl)
  c_Machine := He.cls_ok (c.d.fact 15 rfl)
  k_Machine := He.mkr_ok (c.d.fact 16 rfl)
  g_Pattern := He.glo_ok X Gl (c.d.fact 17 rfl)
  c_Pattern := He.cls_ok (c.d.fact 18 rfl)
  k_Pattern := He.mkr_ok (c.d.fact 19 rfl)
  g_Service := He.glo_ok X Gl (c.d.fact 20 rfl)
  c_Service := He.cls_ok (c.d.fact 21 rfl)
  k_Service := He.mkr_ok (c.d.fact 22 rfl)
  f_ValueError := He.free_ok X Gl (c.d.fact 23 rfl)
  f_all := He.free_ok X Gl (c.d.fact 24 rfl)
  f_bool := He.free_ok X Gl (c.d.fact 25 rfl)
  f_int := He.free_ok X Gl (c.d.fact 26 rfl)
  f_isinstance := He.free_ok X Gl (c.d.fact 27 rfl)
  f_len := He.free_ok X Gl (c.d.fact 28 rfl)
  f_list := He.free_ok X Gl (c.d.fact 29 rfl)
  f_max := He.free_ok X Gl (c.d.fact 30 rfl)
  f_range := He.free_ok X Gl (c.d.fact 31 rfl)
  f_super := He.free_ok X Gl (c.d.fact 32 rfl)
  f_tuple := He.free_ok X Gl (c.d.fact 33 rfl)
  i_LETTERS := He.str_ok X Gl (c.d.fact 34 rfl)
  i_MOST_SIGNS := He.int_ok X Gl (c.d.fact 35 rfl)
  i_MOST_STATES := He.int_ok X Gl (c.d.fact 36 rfl)
  i_MOST_STEPS := He.int_ok X Gl (c.d.fact 37 rfl)
  na_Machine_ends := He.noat_ok (c.d.fact 38 rfl)
  na_Service_ends := He.noat_ok (c.d.fact 39 rfl)
  na_Pattern_ends := He.noat_ok (c.d.fact 40 rfl)
  na_Machine_marks := He.noat_ok (c.d.fact 41 rfl)
  na_Service_marks := He.noat_ok (c.d.fact 42 rfl)
  na_Pattern_marks := He.noat_ok (c.d.fact 43 rfl)
  na_Machine_place := He.noat_ok (c.d.fact 44 rfl)
  na_Service_place := He.noat_ok (c.d.fact 45 rfl)
  na_Pattern_place := He.noat_ok (c.d.fact 46 rfl)
  na_Machine_size := He.noat_ok (c.d.fact 47 rfl)
  na_Service_size := He.noat_ok (c.d.fact 48 rfl)
  na_Pattern_size := He.noat_ok (c.d.fact 49 rfl)
  na_Machine_steps := He.noat_ok (c.d.fact 50 rfl)
  na_Service_steps := He.noat_ok (c.d.fact 51 rfl)
  na_Pattern_steps := He.noat_ok (c.d.fact 52 rfl)
  g_AsksError := He.glo_ok X Gl (c.d.fact 53 rfl)
  g_BadMachine := He.glo_ok X Gl (c.d.fact 54 rfl)
  g_BadState := He.glo_ok X Gl (c.d.fact 55 rfl)
  g_NoStep := He.glo_ok X Gl (c.d.fact 56 rfl)
  g_TooLarge := He.glo_ok X Gl (c.d.fact 57 rfl)
  em_BadMachine_AsksError := He.exm_ok (c.d.fact 58 rfl)
  em_BadMachine_BadMachine := He.exm_ok (c.d.fact 59 rfl)
  em_BadMachine_BadState := He.exm_ok (c.d.fact 60 rfl)
  em_BadMachine_NoStep := He.exm_ok (c.d.fact 61 rfl)
  em_BadState_AsksError := He.exm_ok (c.d.fact 62 rfl)
  em_BadState_BadState := He.exm_ok (c.d.fact 63 rfl)
  em_BadState_NoStep := He.exm_ok (c.d.fact 64 rfl)
  em_TooLarge_AsksError := He.exm_ok (c.d.fact 65 rfl)
  em_TooLarge_BadState := He.exm_ok (c.d.fact 66 rfl)
  em_TooLarge_TooLarge := He.exm_ok (c.d.fact 67 rfl)
  em_TooLarge_NoStep := He.exm_ok (c.d.fact 68 rfl)
  em_NoStep_AsksError := He.exm_ok (c.d.fact 69 rfl)
  em_NoStep_BadState := He.exm_ok (c.d.fact 70 rfl)
  em_NoStep_NoStep := He.exm_ok (c.d.fact 71 rfl)
  w_Machine_bool := Hx.own_ok (c.fact 0 rfl)
  w_Service_bool := Hx.own_ok (c.fact 1 rfl)
  w_Pattern_bool := Hx.own_ok (c.fact 2 rfl)
  w_Machine_getitem := Hx.own_ok (c.fact 3 rfl)
  w_Service_getitem := Hx.own_ok (c.fact 4 rfl)
  w_Pattern_getitem := Hx.own_ok (c.fact 5 rfl)
  w_Machine_setitem := Hx.own_ok (c.fact 6 rfl)
  w_Service_setitem := Hx.own_ok (c.fact 7 rfl)
  w_Pattern_setitem := Hx.own_ok (c.fact 8 rfl)
  pr_Machine_now := Hx.prop_ok (c.fact 9 rfl)
  pr_Service_now := Hx.prop_ok (c.fact 10 rfl)
  pr_Pattern_now := Hx.prop_ok (c.fact 11 rfl)
  ot_Machine := Hx.okty_ok (He.cls_ok (c.d.fact 15 rfl)) (c.fact 12 rfl)
  is_Machine_Machine := Hx.isi_ok (c.fact 13 rfl)
  ot_Service := Hx.okty_ok (He.cls_ok (c.d.fact 21 rfl)) (c.fact 14 rfl)
  is_Service_Machine := Hx.isi_ok (c.fact 15 rfl)
  ot_Pattern := Hx.okty_ok (He.cls_ok (c.d.fact 18 rfl)) (c.fact 16 rfl)
  is_Pattern_Machine := Hx.isi_ok (c.fact 17 rfl)
  ox_BadMachine := Hx.oexB_ok (c.fact 18 rfl)
  in_BadMachine := Hx.iniB_ok (c.fact 19 rfl)
  ox_BadState := Hx.oexB_ok (c.fact 20 rfl)
  in_BadState := Hx.iniB_ok (c.fact 21 rfl)
  ox_NoStep := Hx.oexB_ok (c.fact 22 rfl)
  in_NoStep := Hx.iniB_ok (c.fact 23 rfl)
  ox_TooLarge := Hx.oexB_ok (c.fact 24 rfl)
  in_TooLarge := Hx.iniB_ok (c.fact 25 rfl)
  xf_BadMachine_part := He.eqO_ok (c.fact 26 rfl)
  xf_BadState_state := He.eqO_ok (c.fact 27 rfl)
  xf_NoStep_ask := He.eqO_ok (c.fact 28 rfl)
  xf_NoStep_end := He.eqO_ok (c.fact 29 rfl)
  xf_TooLarge_size := He.eqO_ok (c.fact 30 rfl)
  xc_BadMachine := xcB_ok (c.fact 31 rfl)
  xc_BadState := xcB_ok (c.fact 32 rfl)
  xc_TooLarge := xcB_ok (c.fact 33 rfl)
  xc_NoStep := xcB_ok (c.fact 34 rfl)
  kt_BadMachine_AsksError := Hx.isi_ok (c.fact 35 rfl)
  kt_BadMachine_BadMachine := Hx.isi_ok (c.fact 36 rfl)
  kt_BadMachine_BadState := Hx.isi_ok (c.fact 37 rfl)
  kt_BadMachine_NoStep := Hx.isi_ok (c.fact 38 rfl)
  kt_BadState_AsksError := Hx.isi_ok (c.fact 39 rfl)
  kt_BadState_BadState := Hx.isi_ok (c.fact 40 rfl)
  kt_BadState_NoStep := Hx.isi_ok (c.fact 41 rfl)
  kt_TooLarge_AsksError := Hx.isi_ok (c.fact 42 rfl)
  kt_TooLarge_BadState := Hx.isi_ok (c.fact 43 rfl)
  kt_TooLarge_TooLarge := Hx.isi_ok (c.fact 44 rfl)
  kt_TooLarge_NoStep := Hx.isi_ok (c.fact 45 rfl)
  kt_NoStep_AsksError := Hx.isi_ok (c.fact 46 rfl)
  kt_NoStep_BadState := Hx.isi_ok (c.fact 47 rfl)
  kt_NoStep_NoStep := Hx.isi_ok (c.fact 48 rfl)
  d__law_cell := c.d.def_ 0 (d := d__law_cell) rfl
  d__law_draws := c.d.def_ 1 (d := d__law_draws) rfl
  d__law_asks := c.d.def_ 2 (d := d__law_asks) rfl
  d__law_steps := c.d.def_ 3 (d := d__law_steps) rfl
  d__law_marks := c.d.def_ 4 (d := d__law_marks) rfl
  d_BadMachineu_initu := Hx.DefX.errD (d := d_BadMachineu_initu) (c.def_ 0 rfl).1 (c.def_ 0 rfl).2 rfl rfl (c.fact 49 rfl)
  d_TooLargeu_initu := Hx.DefX.errD (d := d_TooLargeu_initu) (c.def_ 1 rfl).1 (c.def_ 1 rfl).2 rfl rfl (c.fact 50 rfl)
  d_is_ask := c.d.def_ 5 (d := d_is_ask) rfl
  d_check_parts := c.d.def_ 6 (d := d_check_parts) rfl
  d_in_order := c.d.def_ 7 (d := d_in_order) rfl
  d_BadStateu_initu := Hx.DefX.errD (d := d_BadStateu_initu) (c.def_ 2 rfl).1 (c.def_ 2 rfl).2 rfl rfl (c.fact 51 rfl)
  d_ends_by_ask := c.d.def_ 8 (d := d_ends_by_ask) rfl
  d_Machineu_initu := c.d.def_ 9 (d := d_Machineu_initu) rfl
  d_Serviceu_initu := Hx.DefX.supD (d := d_Serviceu_initu) (c.def_ 3 rfl).1 (c.def_ 3 rfl).2 rfl (c.fact 53 rfl)
  d_Patternu_initu := Hx.DefX.supD (d := d_Patternu_initu) (c.def_ 4 rfl).1 (c.def_ 4 rfl).2 rfl (c.fact 54 rfl)
  d__law_made := c.d.def_ 10 (d := d__law_made) rfl
  d_NoStepu_initu := Hx.DefX.errD (d := d_NoStepu_initu) (c.def_ 5 rfl).1 (c.def_ 5 rfl).2 rfl rfl (c.fact 52 rfl)
  d_Machineu_setitemu := c.d.def_ 11 (d := d_Machineu_setitemu) rfl
  d__law_whole := c.d.def_ 12 (d := d__law_whole) rfl
  d__law_moved := c.d.def_ 13 (d := d__law_moved) rfl
  d_Machineu_boolu := c.d.def_ 14 (d := d_Machineu_boolu) rfl
  d_Machine_now := Hx.DefX.funD (d := d_Machine_now) (c.def_ 6 rfl).1 (c.def_ 6 rfl).2 rfl
  d_Machineu_getitemu := c.d.def_ 15 (d := d_Machineu_getitemu) rfl
  d__law_stands := c.d.def_ 16 (d := d__law_stands) rfl
  d_law := c.d.def_ 17 (d := d_law) rfl
theorem Facts.n_ends {K : PySem.W.Frag} {mg : Str → Option Value} (G : Facts K mg) : ClsF K (cl K) [12, 13, 14, 17] "ends" := by
  intro c hc
  simp only [List.mem_cons, List.not_mem_nil, or_false] at hc
  rcases hc with rfl | rfl | rfl | rfl
  · exact ⟨G.c_Machine, G.na_Machine_ends⟩
  · exact ⟨G.c_Service, G.na_Service_ends⟩
  · exact ⟨G.c_Pattern, G.na_Pattern_ends⟩
  · exact ⟨G.c_Pattern, G.na_Pattern_ends⟩
theorem Facts.n_marks {K : PySem.W.Frag} {mg : Str → Option Value} (G : Facts K mg) : ClsF K (cl K) [12, 13, 14, 17] "marks" := by
  intro c hc
  simp only [List.mem_cons, List.not_mem_nil, or_false] at hc
  rcases hc with rfl | rfl | rfl | rfl
  · exact ⟨G.c_Machine, G.na_Machine_marks⟩
  · exact ⟨G.c_Service, G.na_Service_marks⟩
  · exact ⟨G.c_Pattern, G.na_Pattern_marks⟩
  · exact ⟨G.c_Pattern, G.na_Pattern_marks⟩
theorem Facts.n_place {K : PySem.W.Frag} {mg : Str → Option Value} (G : Facts K mg) : ClsF K (cl K) [12, 13, 14, 17] "place" := by
  intro c hc
  simp only [List.mem_cons, List.not_mem_nil, or_false] at hc
  rcases hc with rfl | rfl | rfl | rfl
  · exact ⟨G.c_Machine, G.na_Machine_place⟩
  · exact ⟨G.c_Service, G.na_Service_place⟩
  · exact ⟨G.c_Pattern, G.na_Pattern_place⟩
  · exact ⟨G.c_Pattern, G.na_Pattern_place⟩
theorem Facts.n_size {K : PySem.W.Frag} {mg : Str → Option Value} (G : Facts K mg) : ClsF K (cl K) [12, 13, 14, 17, 18] "size" := by
  intro c hc
  simp only [List.mem_cons, List.not_mem_nil, or_false] at hc
  rcases hc with rfl | rfl | rfl | rfl | rfl
  · exact ⟨G.c_Machine, G.na_Machine_size⟩
  · exact ⟨G.c_Service, G.na_Service_size⟩
  · exact ⟨G.c_Pattern, G.na_Pattern_size⟩
  · exact ⟨G.c_Pattern, G.na_Pattern_size⟩
  · exact ⟨G.c_Machine, G.na_Machine_size⟩
theorem Facts.n_steps {K : PySem.W.Frag} {mg : Str → Option Value} (G : Facts K mg) : ClsF K (cl K) [12, 13, 14, 17] "steps" := by
  intro c hc
  simp only [List.mem_cons, List.not_mem_nil, or_false] at hc
  rcases hc with rfl | rfl | rfl | rfl
  · exact ⟨G.c_Machine, G.na_Machine_steps⟩
  · exact ⟨G.c_Service, G.na_Service_steps⟩
  · exact ⟨G.c_Pattern, G.na_Pattern_steps⟩
  · exact ⟨G.c_Pattern, G.na_Pattern_steps⟩
theorem Facts.o_Machine_bool {K : PySem.W.Frag} {mg : Str → Option Value} (G : Facts K mg) : ∀ c ∈ [12, 13, 14, 17], OwnM K (cl K c) "__bool__" (He.ma K (He.ga K "Machine") "__bool__") := by
  intro c hc
  simp only [List.mem_cons, List.not_mem_nil, or_false] at hc
  rcases hc with rfl | rfl | rfl | rfl
  · exact G.w_Machine_bool
  · exact G.w_Service_bool
  · exact G.w_Pattern_bool
  · exact G.w_Pattern_bool
theorem Facts.o_Machine_getitem {K : PySem.W.Frag} {mg : Str → Option Value} (G : Facts K mg) : ∀ c ∈ [12, 13, 14, 17], OwnM K (cl K c) "__getitem__" (He.ma K (He.ga K "Machine") "__getitem__") := by
  intro c hc
  simp only [List.mem_cons, List.not_mem_nil, or_false] at hc
  rcases hc with rfl | rfl | rfl | rfl
  · exact G.w_Machine_getitem
  · exact G.w_Service_getitem
  · exact G.w_Pattern_getitem
  · exact G.w_Pattern_getitem
theorem Facts.o_Machine_setitem {K : PySem.W.Frag} {mg : Str → Option Value} (G : Facts K mg) : ∀ c ∈ [12, 13, 14, 17], OwnM K (cl K c) "__setitem__" (He.ma K (He.ga K "Machine") "__setitem__") := by
  intro c hc
  simp only [List.mem_cons, List.not_mem_nil, or_false] at hc
  rcases hc with rfl | rfl | rfl | rfl
  · exact G.w_Machine_setitem
  · exact G.w_Service_setitem
  · exact G.w_Pattern_setitem
  · exact G.w_Pattern_setitem
theorem Facts.p_now {K : PySem.W.Frag} {mg : Str → Option Value} (G : Facts K mg) : ∀ c ∈ [12, 13, 14, 17], Cls K (cl K c) ∧ ∃ p, PropOf K (cl K c) "now" p (Hx.gp K "Machine" "now") := by
  intro c hc
  simp only [List.mem_cons, List.not_mem_nil, or_false] at hc
  rcases hc with rfl | rfl | rfl | rfl
  · exact ⟨G.c_Machine, _, G.pr_Machine_now⟩
  · exact ⟨G.c_Service, _, G.pr_Service_now⟩
  · exact ⟨G.c_Pattern, _, G.pr_Pattern_now⟩
  · exact ⟨G.c_Pattern, _, G.pr_Pattern_now⟩
theorem Facts.isT_Machine {K : PySem.W.Frag} {mg : Str → Option Value} (G : Facts K mg) : IsTab K (cl K) Mi.isT_Machine := by
  intro c' c b h
  unfold Mi.isT_Machine at h
  split at h
  · cases h; exact ⟨G.ot_Machine, G.is_Machine_Machine⟩
  · cases h; exact ⟨G.ot_Service, G.is_Service_Machine⟩
  · cases h; exact ⟨G.ot_Pattern, G.is_Pattern_Machine⟩
  · cases h; exact ⟨G.ot_Pattern, G.is_Pattern_Machine⟩
  · cases h
theorem Facts.xn_ask {K : PySem.W.Frag} {mg : Str → Option Value} (G : Facts K mg) : ∀ c ∈ [4], XC K (cl K c) ∧ PySem.W.findIn K (.ref (cl K c)) "ask" = some none := by
  intro c hc
  simp only [List.mem_cons, List.not_mem_nil, or_false] at hc
  rcases hc with rfl
  · exact ⟨G.xc_NoStep, G.xf_NoStep_ask⟩
theorem Facts.xn_end {K : PySem.W.Frag} {mg : Str → Option Value} (G : Facts K mg) : ∀ c ∈ [4], XC K (cl K c) ∧ PySem.W.findIn K (.ref (cl K c)) "end" = some none := by
  intro c hc
  simp only [List.mem_cons, List.not_mem_nil, or_false] at hc
  rcases hc with rfl
  · exact ⟨G.xc_NoStep, G.xf_NoStep_end⟩
theorem Facts.xT {K : PySem.W.Frag} {mg : Str → Option Value} (G : Facts K mg) : XTab K (cl K) Mi.exT_k03 := by
  intro c c' b h
  unfold Mi.exT_k03 at h
  split at h
  · cases h; exact ⟨G.xc_BadMachine, G.kt_BadMachine_AsksError⟩
  · cases h; exact ⟨G.xc_BadMachine, G.kt_BadMachine_BadMachine⟩
  · cases h; exact ⟨G.xc_BadMachine, G.kt_BadMachine_BadState⟩
  · cases h; exact ⟨G.xc_BadMachine, G.kt_BadMachine_NoStep⟩
  · cases h; exact ⟨G.xc_BadState, G.kt_BadState_AsksError⟩
  · cases h; exact ⟨G.xc_BadState, G.kt_BadState_BadState⟩
  · cases h; exact ⟨G.xc_BadState, G.kt_BadState_NoStep⟩
  · cases h; exact ⟨G.xc_TooLarge, G.kt_TooLarge_AsksError⟩
  · cases h; exact ⟨G.xc_TooLarge, G.kt_TooLarge_BadState⟩
  · cases h; exact ⟨G.xc_TooLarge, G.kt_TooLarge_TooLarge⟩
  · cases h; exact ⟨G.xc_TooLarge, G.kt_TooLarge_NoStep⟩
  · cases h; exact ⟨G.xc_NoStep, G.kt_NoStep_AsksError⟩
  · cases h; exact ⟨G.xc_NoStep, G.kt_NoStep_BadState⟩
  · cases h; exact ⟨G.xc_NoStep, G.kt_NoStep_NoStep⟩
  · cases h
theorem Facts.eT {K : PySem.W.Frag} {mg : Str → Option Value} (G : Facts K mg) : ETab K (cl K) Mi.exT_k03 := by
  intro c c' b h
  unfold Mi.exT_k03 at h
  split at h
  · cases h; exact G.em_BadMachine_AsksError
  · cases h; exact G.em_BadMachine_BadMachine
  · cases h; exact G.em_BadMachine_BadState
  · cases h; exact G.em_BadMachine_NoStep
  · cases h; exact G.em_BadState_AsksError
  · cases h; exact G.em_BadState_BadState
  · cases h; exact G.em_BadState_NoStep
  · cases h; exact G.em_TooLarge_AsksError
  · cases h; exact G.em_TooLarge_BadState
  · cases h; exact G.em_TooLarge_TooLarge
  · cases h; exact G.em_TooLarge_NoStep
  · cases h; exact G.em_NoStep_AsksError
  · cases h; exact G.em_NoStep_BadState
  · cases h; exact G.em_NoStep_NoStep
  · cases h
section
variable {w : World} {K : PySem.W.Frag} {mg : Str → Option Value} {base : Heap}
theorem ok__law_cell (G : Facts K mg) : ∃ fd, FunD K "_law_cell" "_law_cell" (defArgs s__law_cell) (defBody s__law_cell) (defScope s__law_cell) [] [] (He.ga K "_law_cell") fd ∧ FnOk P0 w K mg base (L2.CX P0 w) 1 (He.ga K "_law_cell") fd ["_law_script", "_law_k"] (SpM ⟨P0, w, K, cl K⟩ 2 f__law_cell) := by
  obtain ⟨fd, Fd⟩ := G.d__law_cell
  unfold f__law_cell
  refine ⟨fd, Fd, fn_q Fd sc__law_cell fun cdv A outer s H E hr => ?_⟩
  have hu : (Xd P0 w K mg base ["_law_script", "_law_k"] "_law_cell" (defScope s__law_cell) (He.ga K "_law_cell") cdv A outer s H E).A.units + 64 < cLine := by have := hr.un; show (A.deeper _).units + 64 < cLine; omega
  have hu2 : (Xd P0 w K mg base ["_law_script", "_law_k"] "_law_cell" (defScope s__law_cell) (He.ga K "_law_cell") cdv A outer s H E).A.units + 20 < cLine := by omega
  have tk : Takes (Xd P0 w K mg base ["_law_script", "_law_k"] "_law_cell" (defScope s__law_cell) (He.ga K "_law_cell") cdv A outer s H E) (Wd E) := takes_of rfl rfl rfl rfl
  unfold m__law_cell
  exact (qss_cons (qs_if (qt_cmp oq_ltI (qe_var (i := 1) rfl v__law_cell__law_k) (qe_callB cq_len g__law_cell_len G.f_len rfl (qa_cons (qe_var (i := 0) rfl v__law_cell__law_script) qa_nil)) (nomark _))
  (qss_one (qs_ret (qe_ix (xq_ixX hu2) (qe_var (i := 0) rfl v__law_cell__law_script) (qe_var (i := 1) rfl v__law_cell__law_k) fun _ _ => rfl)))
  qss_nil)
  (qss_one (qs_ret qe_int)))
theorem ok__law_draws (G : Facts K mg) : ∃ fd, FunD K "_law_draws" "_law_draws" (defArgs s__law_draws) (defBody s__law_draws) (defScope s__law_draws) [] [] (He.ga K "_law_draws") fd ∧ FnOk P0 w K mg base (L2.CX P0 w) 2 (He.ga K "_law_draws") fd ["_law_script", "_law_k", "_law_many"] (SpM ⟨P0, w, K, cl K⟩ 3 f__law_draws) := by
  obtain ⟨fd, Fd⟩ := G.d__law_draws
  obtain ⟨fd__law_cell, F__law_cell, K__law_cell⟩ := ok__law_cell (w := w) (base := base) G
  have P__law_cell := F__law_cell.kp
  have B__law_cell : Binds K fd__law_cell ["_law_script", "_law_k"] [] := F__law_cell.bindsN fun _ _ _ _ _ _ us hl => match us, hl with | [_, _], _ => rfl
  unfold f__law_draws
  refine ⟨fd, Fd, fn_q Fd sc__law_draws fun cdv A outer s H E hr => ?_⟩
  have hu : (Xd P0 w K mg base ["_law_script", "_law_k", "_law_many", "_law_cell_here", "_law_row", "_law_seed", "_law_turn", "_law_rest"] "_law_draws" (defScope s__law_draws) (He.ga K "_law_draws") cdv A outer s H E).A.units + 64 < cLine := by have := hr.un; show (A.deeper _).units + 64 < cLine; omega
  have hu2 : (Xd P0 w K mg base ["_law_script", "_law_k", "_law_many", "_law_cell_here", "_law_row", "_law_seed", "_law_turn", "_law_rest"] "_law_draws" (defScope s__law_draws) (He.ga K "_law_draws") cdv A outer s H E).A.units + 20 < cLine := by omega
  have tk : Takes (Xd P0 w K mg base ["_law_script", "_law_k", "_law_many", "_law_cell_here", "_law_row", "_law_seed", "_law_turn", "_law_rest"] "_law_draws" (defScope s__law_draws) (He.ga K "_law_draws") cdv A outer s H E) (Wd E) := takes_of rfl rfl rfl rfl
  unfold m__law_draws
  exact (qss_cons (qs_set (i := 3) sc__law_draws.nd rfl l__law_draws__law_cell_here (qe_call (dvs := []) (ds := []) (dds := []) K__law_cell tk (hr.mono (by decide)) g__law_draws__law_cell G.g__law_cell P__law_cell B__law_cell .nil Dfl.nil (qa_cons (qe_var (i := 0) rfl v__law_draws__law_script) (qa_cons (qe_var (i := 1) rfl v__law_draws__law_k) qa_nil))))
  (qss_cons (qs_set (i := 4) sc__law_draws.nd rfl l__law_draws__law_row (qe_lstS qa_nil))
  (qss_cons (qs_if (qt_cmp oq_geI (qe_var (i := 3) rfl v__law_draws__law_cell_here) (qe_op oq_pow qe_int qe_int) (nomark _))
  (qss_cons (qs_set (i := 7) sc__law_draws.nd rfl l__law_draws__law_rest (qe_op oq_sub (qe_var (i := 3) rfl v__law_draws__law_cell_here) (qe_op oq_pow qe_int qe_int)))
  (qss_cons (qs_for (passes_of rfl) rfl (qi_range1 g__law_draws_range G.f_range (qa_cons (qe_var (i := 2) rfl v__law_draws__law_many) qa_nil)) (qg_name (i := 6) sc__law_draws.nd rfl l__law_draws__law_turn)
  (qss_cons (qs_expr (qe_bm chk_list PySem.F.plainAttrs_list PySem.F.slot_list_append PySem.F.type_list_append mq_append (qe_var (i := 4) rfl v__law_draws__law_row) (qa_cons (qe_op oq_mod (qe_callTy cq_int g__law_draws_int G.f_int rfl (qa_cons (qe_var (i := 7) rfl v__law_draws__law_rest) qa_nil)) qe_int) qa_nil)))
  (qss_one (qs_set (i := 7) sc__law_draws.nd rfl l__law_draws__law_rest (qe_op oq_div (qe_var (i := 7) rfl v__law_draws__law_rest) qe_int)))))
  (qss_one (qs_ret (qe_var (i := 4) rfl v__law_draws__law_row)))))
  qss_nil)
  (qss_cons (qs_set (i := 5) sc__law_draws.nd rfl l__law_draws__law_seed (qe_op oq_mod (qe_callTy cq_int g__law_draws_int G.f_int rfl (qa_cons (qe_op oq_add (qe_op oq_add (qe_op oq_mulI (qe_var (i := 3) rfl v__law_draws__law_cell_here) qe_int) (qe_op oq_mulI (qe_var (i := 1) rfl v__law_draws__law_k) qe_int)) qe_int) qa_nil)) qe_int))
  (qss_cons (qs_for (passes_of rfl) rfl (qi_range1 g__law_draws_range G.f_range (qa_cons (qe_var (i := 2) rfl v__law_draws__law_many) qa_nil)) (qg_name (i := 6) sc__law_draws.nd rfl l__law_draws__law_turn)
  (qss_cons (qs_set (i := 5) sc__law_draws.nd rfl l__law_draws__law_seed (qe_op oq_mod (qe_callTy cq_int g__law_draws_int G.f_int rfl (qa_cons (qe_op oq_add (qe_op oq_add (qe_op oq_mulI (qe_var (i := 5) rfl v__law_draws__law_seed) qe_int) (qe_var (i := 6) rfl v__law_draws__law_turn)) qe_int) qa_nil)) qe_int))
  (qss_one (qs_expr (qe_bm chk_list PySem.F.plainAttrs_list PySem.F.slot_list_append PySem.F.type_list_append mq_append (qe_var (i := 4) rfl v__law_draws__law_row) (qa_cons (qe_op oq_mod (qe_callTy cq_int g__law_draws_int G.f_int rfl (qa_cons (qe_op oq_div (qe_var (i := 5) rfl v__law_draws__law_seed) qe_int) qa_nil)) qe_int) qa_nil))))))
  (qss_one (qs_ret (qe_var (i := 4) rfl v__law_draws__law_row))))))))
theorem ok__law_asks (G : Facts K mg) : ∃ fd, FunD K "_law_asks" "_law_asks" (defArgs s__law_asks) (defBody s__law_asks) (defScope s__law_asks) [] [] (He.ga K "_law_asks") fd ∧ FnOk P0 w K mg base (L2.CX P0 w) 1 (He.ga K "_law_asks") fd ["_law_row", "_law_many"] (SpM ⟨P0, w, K, cl K⟩ 2 f__law_asks) := by
  obtain ⟨fd, Fd⟩ := G.d__law_asks
  unfold f__law_asks
  refine ⟨fd, Fd, fn_q Fd sc__law_asks fun cdv A outer s H E hr => ?_⟩
  have hu : (Xd P0 w K mg base ["_law_row", "_law_many", "_law_letters", "_law_word", "_law_asks_here", "_law_at", "_law_size", "_law_place", "_law_jump", "_law_letter", "_law_digit"] "_law_asks" (defScope s__law_asks) (He.ga K "_law_asks") cdv A outer s H E).A.units + 64 < cLine := by have := hr.un; show (A.deeper _).units + 64 < cLine; omega
  have hu2 : (Xd P0 w K mg base ["_law_row", "_law_many", "_law_letters", "_law_word", "_law_asks_here", "_law_at", "_law_size", "_law_place", "_law_jump", "_law_letter", "_law_digit"] "_law_asks" (defScope s__law_asks) (He.ga K "_law_asks") cdv A outer s H E).A.units + 20 < cLine := by omega
  have tk : Takes (Xd P0 w K mg base ["_law_row", "_law_many", "_law_letters", "_law_word", "_law_asks_here", "_law_at", "_law_size", "_law_place", "_law_jump", "_law_letter", "_law_digit"] "_law_asks" (defScope s__law_asks) (He.ga K "_law_asks") cdv A outer s H E) (Wd E) := takes_of rfl rfl rfl rfl
  unfold m__law_asks
  exact (qss_cons (qs_set (i := 2) sc__law_asks.nd rfl l__law_asks__law_letters qe_str)
  (qss_cons (qs_set (i := 3) sc__law_asks.nd rfl l__law_asks__law_word (qe_bm chk_str PySem.F.plainAttrs_str PySem.F.slot_str_join PySem.F.type_str_join mq_join qe_str (qa_cons (qe_lcV  rfl sc__law_asks.nd (qi_val (qe_slice sq_sl (qe_var (i := 0) rfl v__law_asks__law_row) qo_none (qo_some qe_int))) (own := [("_law_digit", 10)]) (show BlkOk ["_law_row", "_law_many", "_law_letters", "_law_word", "_law_asks_here", "_law_at", "_law_size", "_law_place", "_law_jump", "_law_letter", "_law_digit"] (defScope s__law_asks) _ [("_law_digit", 10)] from ⟨rfl, by decide +kernel, by decide +kernel, by decide +kernel, by decide +kernel⟩) (fun _ _ _ _ _ => (qg_name (i := 10) sc__law_asks.nd rfl (by first | exact Or.inl rfl | exact Or.inr rfl))) (fun _ _ _ _ _ => qts_nil) (fun _ _ _ _ _ => (qe_ix (xq_ixX hu2) (qe_var (i := 2) rfl (by first | exact Or.inl rfl | exact Or.inr (Or.inl rfl) | exact Or.inr (Or.inr rfl))) (qe_op oq_mod (qe_callTy cq_int rfl G.f_int rfl (qa_cons (qe_var (i := 10) rfl (by first | exact Or.inl rfl | exact Or.inr (Or.inl rfl) | exact Or.inr (Or.inr rfl))) qa_nil)) qe_int) fun _ _ => rfl)) (by decide)) qa_nil)))
  (qss_cons (qs_set (i := 4) sc__law_asks.nd rfl l__law_asks__law_asks_here (qe_lstS qa_nil))
  (qss_cons (qs_for (passes_of rfl) rfl (qi_range1 g__law_asks_range G.f_range (qa_cons (qe_var (i := 1) rfl v__law_asks__law_many) qa_nil)) (qg_name (i := 5) sc__law_asks.nd rfl l__law_asks__law_at)
  (qss_cons (qs_set (i := 6) sc__law_asks.nd rfl l__law_asks__law_size (qe_op oq_add (qe_op oq_mod (qe_callTy cq_int g__law_asks_int G.f_int rfl (qa_cons (qe_op oq_add (qe_ix (xq_ixX hu2) (qe_var (i := 0) rfl v__law_asks__law_row) qe_int fun _ _ => rfl) (qe_op oq_mulI qe_int (qe_var (i := 5) rfl v__law_asks__law_at))) qa_nil)) qe_int) qe_int))
  (qss_one (qs_if (qt_cmp (oq_eq hu) (qe_op oq_mod (qe_callTy cq_int g__law_asks_int G.f_int rfl (qa_cons (qe_ix (xq_ixX hu2) (qe_var (i := 0) rfl v__law_asks__law_row) qe_int fun _ _ => rfl) qa_nil)) qe_int) qe_int (nomark _))
  (qss_one (qs_expr (qe_bm chk_list PySem.F.plainAttrs_list PySem.F.slot_list_append PySem.F.type_list_append mq_append (qe_var (i := 4) rfl v__law_asks__law_asks_here) (qa_cons (qe_slice sq_sl (qe_var (i := 3) rfl v__law_asks__law_word) qo_none (qo_some (qe_var (i := 6) rfl v__law_asks__law_size))) qa_nil))))
  (qss_cons (qs_set (i := 6) sc__law_asks.nd rfl l__law_asks__law_size (qe_op oq_add (qe_op oq_mod (qe_callTy cq_int g__law_asks_int G.f_int rfl (qa_cons (qe_ix (xq_ixX hu2) (qe_var (i := 0) rfl v__law_asks__law_row) qe_int fun _ _ => rfl) qa_nil)) qe_int) qe_int))
  (qss_cons (qs_set (i := 7) sc__law_asks.nd rfl l__law_asks__law_place (qe_op oq_mod (qe_callTy cq_int g__law_asks_int G.f_int rfl (qa_cons (qe_ix (xq_ixX hu2) (qe_var (i := 0) rfl v__law_asks__law_row) qe_int fun _ _ => rfl) qa_nil)) (qe_var (i := 6) rfl v__law_asks__law_size)))
  (qss_cons (qs_set (i := 8) sc__law_asks.nd rfl l__law_asks__law_jump (qe_op oq_add (qe_op oq_mulI (qe_op oq_mod (qe_callTy cq_int g__law_asks_int G.f_int rfl (qa_cons (qe_ix (xq_ixX hu2) (qe_var (i := 0) rfl v__law_asks__law_row) qe_int fun _ _ => rfl) qa_nil)) qe_int) qe_int) qe_int))
  (qss_cons (qs_set (i := 9) sc__law_asks.nd rfl l__law_asks__law_letter (qe_ix (xq_ixX hu2) (qe_var (i := 2) rfl v__law_asks__law_letters) (qe_op oq_mod (qe_callTy cq_int g__law_asks_int G.f_int rfl (qa_cons (qe_op oq_add (qe_ix (xq_ixX hu2) (qe_var (i := 0) rfl v__law_asks__law_row) qe_int fun _ _ => rfl) (qe_op oq_mulI (qe_var (i := 8) rfl v__law_asks__law_jump) (qe_var (i := 5) rfl v__law_asks__law_at))) qa_nil)) qe_int) fun _ _ => rfl))
  (qss_one (qs_expr (qe_bm chk_list PySem.F.plainAttrs_list PySem.F.slot_list_append PySem.F.type_list_append mq_append (qe_var (i := 4) rfl v__law_asks__law_asks_here) (qa_cons (qe_op oq_add (qe_op oq_add (qe_slice sq_sl (qe_var (i := 3) rfl v__law_asks__law_word) qo_none (qo_some (qe_var (i := 7) rfl v__law_asks__law_place))) (qe_var (i := 9) rfl v__law_asks__law_letter)) (qe_slice sq_sl (qe_var (i := 3) rfl v__law_asks__law_word) (qo_some (qe_op oq_add (qe_var (i := 7) rfl v__law_asks__law_place) qe_int)) (qo_some (qe_var (i := 6) rfl v__law_asks__law_size)))) qa_nil))))))))))))
  (qss_one (qs_ret (qe_var (i := 4) rfl v__law_asks__law_asks_here)))))))
theorem ok__law_steps (G : Facts K mg) : ∃ fd, FunD K "_law_steps" "_law_steps" (defArgs s__law_steps) (defBody s__law_steps) (defScope s__law_steps) [] [] (He.ga K "_law_steps") fd ∧ FnOk P0 w K mg base (L2.CX P0 w) 1 (He.ga K "_law_steps") fd ["_law_row", "_law_size", "_law_asks_here", "_law_single"] (SpM ⟨P0, w, K, cl K⟩ 4 f__law_steps) := by
  obtain ⟨fd, Fd⟩ := G.d__law_steps
  unfold f__law_steps
  refine ⟨fd, Fd, fn_q Fd sc__law_steps fun cdv A outer s H E hr => ?_⟩
  have hu : (Xd P0 w K mg base ["_law_row", "_law_size", "_law_asks_here", "_law_single", "_law_steps_here", "_law_state", "_law_at", "_law_digit", "_law_end"] "_law_steps" (defScope s__law_steps) (He.ga K "_law_steps") cdv A outer s H E).A.units + 64 < cLine := by have := hr.un; show (A.deeper _).units + 64 < cLine; omega
  have hu2 : (Xd P0 w K mg base ["_law_row", "_law_size", "_law_asks_here", "_law_single", "_law_steps_here", "_law_state", "_law_at", "_law_digit", "_law_end"] "_law_steps" (defScope s__law_steps) (He.ga K "_law_steps") cdv A outer s H E).A.units + 20 < cLine := by omega
  have tk : Takes (Xd P0 w K mg base ["_law_row", "_law_size", "_law_asks_here", "_law_single", "_law_steps_here", "_law_state", "_law_at", "_law_digit", "_law_end"] "_law_steps" (defScope s__law_steps) (He.ga K "_law_steps") cdv A outer s H E) (Wd E) := takes_of rfl rfl rfl rfl
  unfold m__law_steps
  exact (qss_cons (qs_set (i := 4) sc__law_steps.nd rfl l__law_steps__law_steps_here (qe_lstS qa_nil))
  (qss_cons (qs_for (passes_of rfl) rfl (qi_range1 g__law_steps_range G.f_range (qa_cons (qe_var (i := 1) rfl v__law_steps__law_size) qa_nil)) (qg_name (i := 5) sc__law_steps.nd rfl l__law_steps__law_state)
  (qss_one (qs_for (passes_of rfl) rfl (qi_range1 g__law_steps_range G.f_range (qa_cons (qe_callB cq_len g__law_steps_len G.f_len rfl (qa_cons (qe_var (i := 2) rfl v__law_steps__law_asks_here) qa_nil)) qa_nil)) (qg_name (i := 6) sc__law_steps.nd rfl l__law_steps__law_at)
  (qss_cons (qs_set (i := 7) sc__law_steps.nd rfl l__law_steps__law_digit (qe_ix (xq_ixX hu2) (qe_var (i := 0) rfl v__law_steps__law_row) (qe_op oq_mod (qe_callTy cq_int g__law_steps_int G.f_int rfl (qa_cons (qe_op oq_add (qe_op oq_mulI (qe_var (i := 5) rfl v__law_steps__law_state) (qe_callB cq_len g__law_steps_len G.f_len rfl (qa_cons (qe_var (i := 2) rfl v__law_steps__law_asks_here) qa_nil))) (qe_var (i := 6) rfl v__law_steps__law_at)) qa_nil)) (qe_callB cq_len g__law_steps_len G.f_len rfl (qa_cons (qe_var (i := 0) rfl v__law_steps__law_row) qa_nil))) fun _ _ => rfl))
  (qss_one (qs_for (passes_of rfl) rfl (qi_range1 g__law_steps_range G.f_range (qa_cons (qe_var (i := 1) rfl v__law_steps__law_size) qa_nil)) (qg_name (i := 8) sc__law_steps.nd rfl l__law_steps__law_end)
  (qss_cons (qs_if (qt_w (qw_and (qt_val (qe_var (i := 3) rfl v__law_steps__law_single)) (qw_and1 (qt_cmp (oq_eq hu) (qe_op oq_mod (qe_callTy cq_int g__law_steps_int G.f_int rfl (qa_cons (qe_var (i := 7) rfl v__law_steps__law_digit) qa_nil)) (qe_op oq_add (qe_var (i := 1) rfl v__law_steps__law_size) qe_int)) (qe_op oq_add (qe_var (i := 8) rfl v__law_steps__law_end) qe_int) (nomark _)))))
  (qss_one (qs_expr (qe_bm chk_list PySem.F.plainAttrs_list PySem.F.slot_list_append PySem.F.type_list_append mq_append (qe_var (i := 4) rfl v__law_steps__law_steps_here) (qa_cons (qe_tup (qa_cons (qe_var (i := 5) rfl v__law_steps__law_state) (qa_cons (qe_ix (xq_ixX hu2) (qe_var (i := 2) rfl v__law_steps__law_asks_here) (qe_var (i := 6) rfl v__law_steps__law_at) fun _ _ => rfl) (qa_cons (qe_var (i := 8) rfl v__law_steps__law_end) qa_nil)))) qa_nil))))
  qss_nil)
  (qss_one (qs_if (qt_w (qw_and (qt_not (qt_val (qe_var (i := 3) rfl v__law_steps__law_single))) (qw_and1 (qt_cmp (oq_eq hu) (qe_op oq_mod (qe_callTy cq_int g__law_steps_int G.f_int rfl (qa_cons (qe_op oq_div (qe_var (i := 7) rfl v__law_steps__law_digit) (qe_ix (xq_ixX hu2) (qe_lstV (qa_cons qe_int (qa_cons qe_int (qa_cons qe_int (qa_cons qe_int qa_nil))))) (qe_var (i := 8) rfl v__law_steps__law_end) fun _ _ => rfl)) qa_nil)) qe_int) qe_int (nomark _)))))
  (qss_one (qs_expr (qe_bm chk_list PySem.F.plainAttrs_list PySem.F.slot_list_append PySem.F.type_list_append mq_append (qe_var (i := 4) rfl v__law_steps__law_steps_here) (qa_cons (qe_tup (qa_cons (qe_var (i := 5) rfl v__law_steps__law_state) (qa_cons (qe_ix (xq_ixX hu2) (qe_var (i := 2) rfl v__law_steps__law_asks_here) (qe_var (i := 6) rfl v__law_steps__law_at) fun _ _ => rfl) (qa_cons (qe_var (i := 8) rfl v__law_steps__law_end) qa_nil)))) qa_nil))))
  qss_nil)))))))))
  (qss_one (qs_ret (qe_var (i := 4) rfl v__law_steps__law_steps_here)))))
theorem ok__law_marks (G : Facts K mg) : ∃ fd, FunD K "_law_marks" "_law_marks" (defArgs s__law_marks) (defBody s__law_marks) (defScope s__law_marks) [] [] (He.ga K "_law_marks") fd ∧ FnOk P0 w K mg base (L2.CX P0 w) 1 (He.ga K "_law_marks") fd ["_law_digit", "_law_size"] (SpM ⟨P0, w, K, cl K⟩ 2 f__law_marks) := by
  obtain ⟨fd, Fd⟩ := G.d__law_marks
  unfold f__law_marks
  refine ⟨fd, Fd, fn_q Fd sc__law_marks fun cdv A outer s H E hr => ?_⟩
  have hu : (Xd P0 w K mg base ["_law_digit", "_law_size", "_law_state"] "_law_marks" (defScope s__law_marks) (He.ga K "_law_marks") cdv A outer s H E).A.units + 64 < cLine := by have := hr.un; show (A.deeper _).units + 64 < cLine; omega
  have hu2 : (Xd P0 w K mg base ["_law_digit", "_law_size", "_law_state"] "_law_marks" (defScope s__law_marks) (He.ga K "_law_marks") cdv A outer s H E).A.units + 20 < cLine := by omega
  have tk : Takes (Xd P0 w K mg base ["_law_digit", "_law_size", "_law_state"] "_law_marks" (defScope s__law_marks) (He.ga K "_law_marks") cdv A outer s H E) (Wd E) := takes_of rfl rfl rfl rfl
  unfold m__law_marks
  exact (qss_one (qs_ret (qe_lcV  rfl sc__law_marks.nd (qi_range1 g__law_marks_range G.f_range (qa_cons (qe_var (i := 1) rfl v__law_marks__law_size) qa_nil)) (own := [("_law_state", 2)]) (show BlkOk ["_law_digit", "_law_size", "_law_state"] (defScope s__law_marks) _ [("_law_state", 2)] from ⟨rfl, by decide +kernel, by decide +kernel, by decide +kernel, by decide +kernel⟩) (fun _ _ _ _ _ => (qg_name (i := 2) sc__law_marks.nd rfl (by first | exact Or.inl rfl | exact Or.inr rfl))) (fun _ _ _ _ _ => (qts_one (qt_w (qw_or (qt_cmp oq_geI (qe_var (i := 0) rfl (by first | exact Or.inl rfl | exact Or.inr (Or.inl rfl) | exact Or.inr (Or.inr rfl))) qe_int (nomark _)) (qw_or1 (qt_cmp (oq_eq hu) (qe_op oq_mod (qe_callTy cq_int rfl G.f_int rfl (qa_cons (qe_op oq_div (qe_var (i := 0) rfl (by first | exact Or.inl rfl | exact Or.inr (Or.inl rfl) | exact Or.inr (Or.inr rfl))) (qe_ix (xq_ixX hu2) (qe_lstV (qa_cons qe_int (qa_cons qe_int (qa_cons qe_int (qa_cons qe_int qa_nil))))) (qe_var (i := 2) rfl (by first | exact Or.inl rfl | exact Or.inr (Or.inl rfl) | exact Or.inr (Or.inr rfl))) fun _ _ => rfl)) qa_nil)) qe_int) qe_int (nomark _))))))) (fun _ _ _ _ _ => (qe_var (i := 2) rfl (by first | exact Or.inl rfl | exact Or.inr (Or.inl rfl) | exact Or.inr (Or.inr rfl)))) (by decide))))
theorem ok_BadMachineu_initu (G : Facts K mg) : ∃ fd, ErrD P0 K "__init__" "BadMachine.__init__" (defArgs s_BadMachineu_initu) (defBody s_BadMachineu_initu) (defScope s_BadMachineu_initu) (cl K 1) (He.ma K (He.ga K "BadMachine") "__init__") fd ∧ FnOk P0 w K mg base (L2.CX P0 w) 1 (He.ma K (He.ga K "BadMachine") "__init__") fd ["self", "part"] (errSp (cl K 1) ["self", "part"] (tErr K ["part"] 1)) := by
  obtain ⟨fd, Fd⟩ := G.d_BadMachineu_initu
  exact ⟨fd, Fd, ErrD.ok (t := tCons (tC (.str "invalid part of a machine")) tNil) Fd ss_BadMachineu_initu rfl rfl (by decide +kernel) G.f_super (fun _ _ _ _ _ _ _ => pa_cons pe_str pa_nil) (fun _ _ _ h => h _ (by simp)) (fun _ _ _ _ _ _ _ => pss_one (ps_ost (pv 0) (pv 1))) (fun _ => rfl) (fun _ => rfl) (fun _ => rfl) (fun _ => rfl) (fun _ _ _ => rfl)⟩
theorem ok_TooLargeu_initu (G : Facts K mg) : ∃ fd, ErrD P0 K "__init__" "TooLarge.__init__" (defArgs s_TooLargeu_initu) (defBody s_TooLargeu_initu) (defScope s_TooLargeu_initu) (cl K 3) (He.ma K (He.ga K "TooLarge") "__init__") fd ∧ FnOk P0 w K mg base (L2.CX P0 w) 1 (He.ma K (He.ga K "TooLarge") "__init__") fd ["self", "size"] (errSp (cl K 3) ["self", "size"] (tErr K ["size"] 1)) := by
  obtain ⟨fd, Fd⟩ := G.d_TooLargeu_initu
  exact ⟨fd, Fd, ErrD.ok (t := tCons (tC (.str "too large")) tNil) Fd ss_TooLargeu_initu rfl rfl (by decide +kernel) G.f_super (fun _ _ _ _ _ _ _ => pa_cons pe_str pa_nil) (fun _ _ _ h => h _ (by simp)) (fun _ _ _ _ _ _ _ => pss_one (ps_ost (pv 0) (pv 1))) (fun _ => rfl) (fun _ => rfl) (fun _ => rfl) (fun _ => rfl) (fun _ _ _ => rfl)⟩
theorem ok_is_ask (G : Facts K mg) : ∃ fd, FunD K "is_ask" "is_ask" (defArgs s_is_ask) (defBody s_is_ask) (defScope s_is_ask) [] [] (He.ga K "is_ask") fd ∧ FnOk P0 w K mg base (L2.CX P0 w) 1 (He.ga K "is_ask") fd ["ask"] (SpM ⟨P0, w, K, cl K⟩ 1 f_is_ask) := by
  obtain ⟨fd, Fd⟩ := G.d_is_ask
  unfold f_is_ask
  refine ⟨fd, Fd, fn_q Fd sc_is_ask fun cdv A outer s H E hr => ?_⟩
  have hu : (Xd P0 w K mg base ["ask", "sign"] "is_ask" (defScope s_is_ask) (He.ga K "is_ask") cdv A outer s H E).A.units + 64 < cLine := by have := hr.un; show (A.deeper _).units + 64 < cLine; omega
  have hu2 : (Xd P0 w K mg base ["ask", "sign"] "is_ask" (defScope s_is_ask) (He.ga K "is_ask") cdv A outer s H E).A.units + 20 < cLine := by omega
  have tk : Takes (Xd P0 w K mg base ["ask", "sign"] "is_ask" (defScope s_is_ask) (He.ga K "is_ask") cdv A outer s H E) (Wd E) := takes_of rfl rfl rfl rfl
  unfold m_is_ask
  exact (qss_cons (qs_if (qt_w (qw_or (qt_cmp oq_ltI (qe_callB cq_len g_is_ask_len G.f_len rfl (qa_cons (qe_var (i := 0) rfl v_is_ask_ask) qa_nil)) qe_int (nomark _)) (qw_or1 (qt_cmp oq_gtI (qe_callB cq_len g_is_ask_len G.f_len rfl (qa_cons (qe_var (i := 0) rfl v_is_ask_ask) qa_nil)) (qe_gInt g_is_ask_MOST_SIGNS (G.i_MOST_SIGNS).choose_spec) (nomark _)))))
  (qss_one (qs_ret qe_bl))
  qss_nil)
  (qss_one (qs_ret (qe_callB (cq_all rfl) g_is_ask_all G.f_all rfl (qa_cons (qe_lcV  rfl sc_is_ask.nd (qi_chr (qe_var (i := 0) rfl v_is_ask_ask)) (own := [("sign", 1)]) (show BlkOk ["ask", "sign"] (defScope s_is_ask) _ [("sign", 1)] from ⟨rfl, by decide +kernel, by decide +kernel, by decide +kernel, by decide +kernel⟩) (fun _ _ _ _ _ => (qg_name (i := 1) sc_is_ask.nd rfl (by first | exact Or.inl rfl | exact Or.inr rfl))) (fun _ _ _ _ _ => qts_nil) (fun _ _ _ _ _ => (qe_cmp (oq_inX hu2) (qe_var (i := 1) rfl (by first | exact Or.inl rfl | exact Or.inr (Or.inl rfl) | exact Or.inr (Or.inr rfl))) (qe_gStr rfl (G.i_LETTERS).choose_spec) (by with_unfolding_all rfl))) (by decide)) qa_nil)))))
theorem ok_check_parts (G : Facts K mg) : ∃ fd, FunD K "check_parts" "check_parts" (defArgs s_check_parts) (defBody s_check_parts) (defScope s_check_parts) [] [] (He.ga K "check_parts") fd ∧ FnOk P0 w K mg base (L2.CX P0 w) 3 (He.ga K "check_parts") fd ["size", "marks", "steps"] (SpM ⟨P0, w, K, cl K⟩ 3 f_check_parts) := by
  obtain ⟨fd, Fd⟩ := G.d_check_parts
  obtain ⟨fd_BadMachineu_initu, F_BadMachineu_initu, K_BadMachineu_initu⟩ := ok_BadMachineu_initu (w := w) (base := base) G
  have P_BadMachineu_initu := F_BadMachineu_initu.kp
  have B_BadMachineu_initu : Binds K fd_BadMachineu_initu ["self", "part"] [] := F_BadMachineu_initu.bindsN fun _ _ _ _ _ _ _ us hl => match us, hl with | [_, _], _ => rfl
  obtain ⟨fd_TooLargeu_initu, F_TooLargeu_initu, K_TooLargeu_initu⟩ := ok_TooLargeu_initu (w := w) (base := base) G
  have P_TooLargeu_initu := F_TooLargeu_initu.kp
  have B_TooLargeu_initu : Binds K fd_TooLargeu_initu ["self", "size"] [] := F_TooLargeu_initu.bindsN fun _ _ _ _ _ _ _ us hl => match us, hl with | [_, _], _ => rfl
  obtain ⟨fd_is_ask, F_is_ask, K_is_ask⟩ := ok_is_ask (w := w) (base := base) G
  have P_is_ask := F_is_ask.kp
  have B_is_ask : Binds K fd_is_ask ["ask"] [] := F_is_ask.bindsN fun _ _ _ _ _ _ us hl => match us, hl with | [_], _ => rfl
  unfold f_check_parts
  refine ⟨fd, Fd, fn_q Fd sc_check_parts fun cdv A outer s H E hr => ?_⟩
  have hu : (Xd P0 w K mg base ["size", "marks", "steps", "mark", "state", "ask", "end"] "check_parts" (defScope s_check_parts) (He.ga K "check_parts") cdv A outer s H E).A.units + 64 < cLine := by have := hr.un; show (A.deeper _).units + 64 < cLine; omega
  have hu2 : (Xd P0 w K mg base ["size", "marks", "steps", "mark", "state", "ask", "end"] "check_parts" (defScope s_check_parts) (He.ga K "check_parts") cdv A outer s H E).A.units + 20 < cLine := by omega
  have tk : Takes (Xd P0 w K mg base ["size", "marks", "steps", "mark", "state", "ask", "end"] "check_parts" (defScope s_check_parts) (He.ga K "check_parts") cdv A outer s H E) (Wd E) := takes_of rfl rfl rfl rfl
  unfold m_check_parts
  exact (qss_cons (qs_if (qt_cmp oq_ltI (qe_var (i := 0) rfl v_check_parts_size) qe_int (nomark _))
  (qss_one (qs_raise1 (c := 1) rfl tk G.ox_BadMachine G.xf_BadMachine_part G.in_BadMachine.1 G.in_BadMachine.2 K_BadMachineu_initu (hr.mono (by decide)) B_BadMachineu_initu g_check_parts_BadMachine G.g_BadMachine (qa_cons qe_str qa_nil)))
  qss_nil)
  (qss_cons (qs_if (qt_cmp oq_gtI (qe_var (i := 0) rfl v_check_parts_size) (qe_gInt g_check_parts_MOST_STATES (G.i_MOST_STATES).choose_spec) (nomark _))
  (qss_one (qs_raise1 (c := 3) rfl tk G.ox_TooLarge G.xf_TooLarge_size G.in_TooLarge.1 G.in_TooLarge.2 K_TooLargeu_initu (hr.mono (by decide)) B_TooLargeu_initu g_check_parts_TooLarge G.g_TooLarge (qa_cons (qe_var (i := 0) rfl v_check_parts_size) qa_nil)))
  qss_nil)
  (qss_cons (qs_for (passes_of rfl) rfl (qi_val (qe_var (i := 1) rfl v_check_parts_marks)) (qg_name (i := 3) sc_check_parts.nd rfl l_check_parts_mark)
  (qss_one (qs_if (qt_w (qw_or (qt_cmp oq_ltI (qe_var (i := 3) rfl v_check_parts_mark) qe_int (nomark _)) (qw_or1 (qt_cmp oq_geI (qe_var (i := 3) rfl v_check_parts_mark) (qe_var (i := 0) rfl v_check_parts_size) (nomark _)))))
  (qss_one (qs_raise1 (c := 1) rfl tk G.ox_BadMachine G.xf_BadMachine_part G.in_BadMachine.1 G.in_BadMachine.2 K_BadMachineu_initu (hr.mono (by decide)) B_BadMachineu_initu g_check_parts_BadMachine G.g_BadMachine (qa_cons qe_str qa_nil)))
  qss_nil)))
  (qss_one (qs_for (passes_of rfl) rfl (qi_val (qe_var (i := 2) rfl v_check_parts_steps)) (qg_tup rfl (qgs_cons (qg_name (i := 4) sc_check_parts.nd rfl l_check_parts_state) (qgs_cons (qg_name (i := 5) sc_check_parts.nd rfl l_check_parts_ask) (qgs_cons (qg_name (i := 6) sc_check_parts.nd rfl l_check_parts_end) qgs_nil))))
  (qss_one (qs_if (qt_w (qw_or (qt_cmp oq_ltI (qe_var (i := 4) rfl v_check_parts_state) qe_int (nomark _)) (qw_or (qt_cmp oq_geI (qe_var (i := 4) rfl v_check_parts_state) (qe_var (i := 0) rfl v_check_parts_size) (nomark _)) (qw_or (qt_cmp oq_ltI (qe_var (i := 6) rfl v_check_parts_end) qe_int (nomark _)) (qw_or (qt_cmp oq_geI (qe_var (i := 6) rfl v_check_parts_end) (qe_var (i := 0) rfl v_check_parts_size) (nomark _)) (qw_or1 (qt_not (qt_val (qe_call (dvs := []) (ds := []) (dds := []) K_is_ask tk (hr.mono (by decide)) g_check_parts_is_ask G.g_is_ask P_is_ask B_is_ask .nil Dfl.nil (qa_cons (qe_var (i := 5) rfl v_check_parts_ask) qa_nil))))))))))
  (qss_one (qs_raise1 (c := 1) rfl tk G.ox_BadMachine G.xf_BadMachine_part G.in_BadMachine.1 G.in_BadMachine.2 K_BadMachineu_initu (hr.mono (by decide)) B_BadMachineu_initu g_check_parts_BadMachine G.g_BadMachine (qa_cons qe_str qa_nil)))
  qss_nil)))))))
theorem ok_in_order (G : Facts K mg) : ∃ fd, FunD K "in_order" "in_order" (defArgs s_in_order) (defBody s_in_order) (defScope s_in_order) [] [] (He.ga K "in_order") fd ∧ FnOk P0 w K mg base (L2.CX P0 w) 1 (He.ga K "in_order") fd ["rows"] (SpM ⟨P0, w, K, cl K⟩ 1 f_in_order) := by
  obtain ⟨fd, Fd⟩ := G.d_in_order
  unfold f_in_order
  refine ⟨fd, Fd, fn_q Fd sc_in_order fun cdv A outer s H E hr => ?_⟩
  have hu : (Xd P0 w K mg base ["rows", "ordered", "row", "low", "high", "middle"] "in_order" (defScope s_in_order) (He.ga K "in_order") cdv A outer s H E).A.units + 64 < cLine := by have := hr.un; show (A.deeper _).units + 64 < cLine; omega
  have hu2 : (Xd P0 w K mg base ["rows", "ordered", "row", "low", "high", "middle"] "in_order" (defScope s_in_order) (He.ga K "in_order") cdv A outer s H E).A.units + 20 < cLine := by omega
  have tk : Takes (Xd P0 w K mg base ["rows", "ordered", "row", "low", "high", "middle"] "in_order" (defScope s_in_order) (He.ga K "in_order") cdv A outer s H E) (Wd E) := takes_of rfl rfl rfl rfl
  unfold m_in_order
  exact (qss_cons (qs_set (i := 1) sc_in_order.nd rfl l_in_order_ordered (qe_lstS qa_nil))
  (qss_cons (qs_for (passes_of rfl) rfl (qi_val (qe_var (i := 0) rfl v_in_order_rows)) (qg_name (i := 2) sc_in_order.nd rfl l_in_order_row)
  (qss_cons (qs_set (i := 3) sc_in_order.nd rfl l_in_order_low qe_int)
  (qss_cons (qs_set (i := 4) sc_in_order.nd rfl l_in_order_high (qe_callB cq_len g_in_order_len G.f_len rfl (qa_cons (qe_var (i := 1) rfl v_in_order_ordered) qa_nil)))
  (qss_cons (qs_while (passes_of rfl) (qt_cmp (oq_ltD hu) (qe_var (i := 3) rfl v_in_order_low) (qe_var (i := 4) rfl v_in_order_high) (nomark _))
  (qss_cons (qs_set (i := 5) sc_in_order.nd rfl l_in_order_middle (qe_op oq_div (qe_op oq_add (qe_var (i := 3) rfl v_in_order_low) (qe_var (i := 4) rfl v_in_order_high)) qe_int))
  (qss_one (qs_if (qt_cmp (oq_ltD hu) (qe_ix (xq_ixX hu2) (qe_var (i := 1) rfl v_in_order_ordered) (qe_var (i := 5) rfl v_in_order_middle) fun _ _ => rfl) (qe_var (i := 2) rfl v_in_order_row) (nomark _))
  (qss_one (qs_set (i := 3) sc_in_order.nd rfl l_in_order_low (qe_op oq_add (qe_var (i := 5) rfl v_in_order_middle) qe_int)))
  (qss_one (qs_set (i := 4) sc_in_order.nd rfl l_in_order_high (qe_var (i := 5) rfl v_in_order_middle)))))))
  (qss_one (qs_if (qt_w (qw_or (qt_cmp (oq_eq hu) (qe_var (i := 3) rfl v_in_order_low) (qe_callB cq_len g_in_order_len G.f_len rfl (qa_cons (qe_var (i := 1) rfl v_in_order_ordered) qa_nil)) (nomark _)) (qw_or1 (qt_cmp (oq_ne hu) (qe_ix (xq_ixX hu2) (qe_var (i := 1) rfl v_in_order_ordered) (qe_var (i := 3) rfl v_in_order_low) fun _ _ => rfl) (qe_var (i := 2) rfl v_in_order_row) (nomark _)))))
  (qss_one (qs_expr (qe_bm chk_list PySem.F.plainAttrs_list PySem.F.slot_list_insert PySem.F.type_list_insert mq_insert (qe_var (i := 1) rfl v_in_order_ordered) (qa_cons (qe_var (i := 3) rfl v_in_order_low) (qa_cons (qe_var (i := 2) rfl v_in_order_row) qa_nil)))))
  qss_nil))))))
  (qss_one (qs_ret (qe_var (i := 1) rfl v_in_order_ordered)))))
theorem ok_BadStateu_initu (G : Facts K mg) : ∃ fd, ErrD P0 K "__init__" "BadState.__init__" (defArgs s_BadStateu_initu) (defBody s_BadStateu_initu) (defScope s_BadStateu_initu) (cl K 2) (He.ma K (He.ga K "BadState") "__init__") fd ∧ FnOk P0 w K mg base (L2.CX P0 w) 1 (He.ma K (He.ga K "BadState") "__init__") fd ["self", "state"] (errSp (cl K 2) ["self", "state"] (tErr K ["state"] 1)) := by
  obtain ⟨fd, Fd⟩ := G.d_BadStateu_initu
  exact ⟨fd, Fd, ErrD.ok (t := tCons (tC (.str "invalid state")) tNil) Fd ss_BadStateu_initu rfl rfl (by decide +kernel) G.f_super (fun _ _ _ _ _ _ _ => pa_cons pe_str pa_nil) (fun _ _ _ h => h _ (by simp)) (fun _ _ _ _ _ _ _ => pss_one (ps_ost (pv 0) (pv 1))) (fun _ => rfl) (fun _ => rfl) (fun _ => rfl) (fun _ => rfl) (fun _ _ _ => rfl)⟩
theorem ok_ends_by_ask (G : Facts K mg) : ∃ fd, FunD K "ends_by_ask" "ends_by_ask" (defArgs s_ends_by_ask) (defBody s_ends_by_ask) (defScope s_ends_by_ask) [] [] (He.ga K "ends_by_ask") fd ∧ FnOk P0 w K mg base (L2.CX P0 w) 1 (He.ga K "ends_by_ask") fd ["steps"] (SpM ⟨P0, w, K, cl K⟩ 1 f_ends_by_ask) := by
  obtain ⟨fd, Fd⟩ := G.d_ends_by_ask
  unfold f_ends_by_ask
  refine ⟨fd, Fd, fn_q Fd sc_ends_by_ask fun cdv A outer s H E hr => ?_⟩
  have hu : (Xd P0 w K mg base ["steps", "found", "state", "ask", "end"] "ends_by_ask" (defScope s_ends_by_ask) (He.ga K "ends_by_ask") cdv A outer s H E).A.units + 64 < cLine := by have := hr.un; show (A.deeper _).units + 64 < cLine; omega
  have hu2 : (Xd P0 w K mg base ["steps", "found", "state", "ask", "end"] "ends_by_ask" (defScope s_ends_by_ask) (He.ga K "ends_by_ask") cdv A outer s H E).A.units + 20 < cLine := by omega
  have tk : Takes (Xd P0 w K mg base ["steps", "found", "state", "ask", "end"] "ends_by_ask" (defScope s_ends_by_ask) (He.ga K "ends_by_ask") cdv A outer s H E) (Wd E) := takes_of rfl rfl rfl rfl
  unfold m_ends_by_ask
  exact (qss_cons (qs_set (i := 1) sc_ends_by_ask.nd rfl l_ends_by_ask_found qe_dict)
  (qss_cons (qs_for (passes_of rfl) rfl (qi_val (qe_var (i := 0) rfl v_ends_by_ask_steps)) (qg_tup rfl (qgs_cons (qg_name (i := 2) sc_ends_by_ask.nd rfl l_ends_by_ask_state) (qgs_cons (qg_name (i := 3) sc_ends_by_ask.nd rfl l_ends_by_ask_ask) (qgs_cons (qg_name (i := 4) sc_ends_by_ask.nd rfl l_ends_by_ask_end) qgs_nil))))
  (qss_one (qs_sub hu2 (qe_var (i := 1) rfl v_ends_by_ask_found) (qe_tup (qa_cons (qe_var (i := 2) rfl v_ends_by_ask_state) (qa_cons (qe_var (i := 3) rfl v_ends_by_ask_ask) qa_nil))) (qe_op oq_add (qe_dm PySem.F.slot_dict_get PySem.F.type_dict_get (mq_get hu2) (qe_var (i := 1) rfl v_ends_by_ask_found) (qa_cons (qe_tup (qa_cons (qe_var (i := 2) rfl v_ends_by_ask_state) (qa_cons (qe_var (i := 3) rfl v_ends_by_ask_ask) qa_nil))) (qa_cons (qe_tup qa_nil) qa_nil))) (qe_tup (qa_cons (qe_var (i := 4) rfl v_ends_by_ask_end) qa_nil))))))
  (qss_one (qs_ret (qe_var (i := 1) rfl v_ends_by_ask_found)))))
theorem ok_Machineu_initu (G : Facts K mg) : ∃ fd, FunD K "__init__" "Machine.__init__" (defArgs s_Machineu_initu) (defBody s_Machineu_initu) (defScope s_Machineu_initu) [.int (0)] [] (He.ma K (He.ga K "Machine") "__init__") fd ∧ FnOk P0 w K mg base (L2.CX P0 w) 4 (He.ma K (He.ga K "Machine") "__init__") fd ["self", "size", "marks", "steps", "now"] (SpM ⟨P0, w, K, cl K⟩ 5 f_Machineu_initu) := by
  obtain ⟨fd, Fd⟩ := G.d_Machineu_initu
  obtain ⟨fd_check_parts, F_check_parts, K_check_parts⟩ := ok_check_parts (w := w) (base := base) G
  have P_check_parts := F_check_parts.kp
  have B_check_parts : Binds K fd_check_parts ["size", "marks", "steps"] [] := F_check_parts.bindsN fun _ _ _ _ _ _ us hl => match us, hl with | [_, _, _], _ => rfl
  obtain ⟨fd_in_order, F_in_order, K_in_order⟩ := ok_in_order (w := w) (base := base) G
  have P_in_order := F_in_order.kp
  have B_in_order : Binds K fd_in_order ["rows"] [] := F_in_order.bindsN fun _ _ _ _ _ _ us hl => match us, hl with | [_], _ => rfl
  obtain ⟨fd_TooLargeu_initu, F_TooLargeu_initu, K_TooLargeu_initu⟩ := ok_TooLargeu_initu (w := w) (base := base) G
  have P_TooLargeu_initu := F_TooLargeu_initu.kp
  have B_TooLargeu_initu : Binds K fd_TooLargeu_initu ["self", "size"] [] := F_TooLargeu_initu.bindsN fun _ _ _ _ _ _ _ us hl => match us, hl with | [_, _], _ => rfl
  obtain ⟨fd_BadStateu_initu, F_BadStateu_initu, K_BadStateu_initu⟩ := ok_BadStateu_initu (w := w) (base := base) G
  have P_BadStateu_initu := F_BadStateu_initu.kp
  have B_BadStateu_initu : Binds K fd_BadStateu_initu ["self", "state"] [] := F_BadStateu_initu.bindsN fun _ _ _ _ _ _ _ us hl => match us, hl with | [_, _], _ => rfl
  obtain ⟨fd_ends_by_ask, F_ends_by_ask, K_ends_by_ask⟩ := ok_ends_by_ask (w := w) (base := base) G
  have P_ends_by_ask := F_ends_by_ask.kp
  have B_ends_by_ask : Binds K fd_ends_by_ask ["steps"] [] := F_ends_by_ask.bindsN fun _ _ _ _ _ _ us hl => match us, hl with | [_], _ => rfl
  unfold f_Machineu_initu
  refine ⟨fd, Fd, fn_q Fd sc_Machineu_initu fun cdv A outer s H E hr => ?_⟩
  have hu : (Xd P0 w K mg base ["self", "size", "marks", "steps", "now", "ordered", "state", "ask", "end"] "Machine.__init__" (defScope s_Machineu_initu) (He.ma K (He.ga K "Machine") "__init__") cdv A outer s H E).A.units + 64 < cLine := by have := hr.un; show (A.deeper _).units + 64 < cLine; omega
  have hu2 : (Xd P0 w K mg base ["self", "size", "marks", "steps", "now", "ordered", "state", "ask", "end"] "Machine.__init__" (defScope s_Machineu_initu) (He.ma K (He.ga K "Machine") "__init__") cdv A outer s H E).A.units + 20 < cLine := by omega
  have tk : Takes (Xd P0 w K mg base ["self", "size", "marks", "steps", "now", "ordered", "state", "ask", "end"] "Machine.__init__" (defScope s_Machineu_initu) (He.ma K (He.ga K "Machine") "__init__") cdv A outer s H E) (Wd E) := takes_of rfl rfl rfl rfl
  unfold m_Machineu_initu
  exact (qss_cons (qs_expr (qe_call (dvs := []) (ds := []) (dds := []) K_check_parts tk (hr.mono (by decide)) g_Machineu_initu_check_parts G.g_check_parts P_check_parts B_check_parts .nil Dfl.nil (qa_cons (qe_var (i := 1) rfl v_Machineu_initu_size) (qa_cons (qe_var (i := 2) rfl v_Machineu_initu_marks) (qa_cons (qe_var (i := 3) rfl v_Machineu_initu_steps) qa_nil)))))
  (qss_cons (qs_set (i := 5) sc_Machineu_initu.nd rfl l_Machineu_initu_ordered (qe_call (dvs := []) (ds := []) (dds := []) K_in_order tk (hr.mono (by decide)) g_Machineu_initu_in_order G.g_in_order P_in_order B_in_order .nil Dfl.nil (qa_cons (qe_lcV  rfl sc_Machineu_initu.nd (qi_val (qe_var (i := 3) rfl v_Machineu_initu_steps)) (own := [("state", 6), ("ask", 7), ("end", 8)]) (show BlkOk ["self", "size", "marks", "steps", "now", "ordered", "state", "ask", "end"] (defScope s_Machineu_initu) _ [("state", 6), ("ask", 7), ("end", 8)] from ⟨rfl, by decide +kernel, by decide +kernel, by decide +kernel, by decide +kernel⟩) (fun _ _ _ _ _ => (qg_tup rfl (qgs_cons (qg_name (i := 6) sc_Machineu_initu.nd rfl (by first | exact Or.inl rfl | exact Or.inr rfl)) (qgs_cons (qg_name (i := 7) sc_Machineu_initu.nd rfl (by first | exact Or.inl rfl | exact Or.inr rfl)) (qgs_cons (qg_name (i := 8) sc_Machineu_initu.nd rfl (by first | exact Or.inl rfl | exact Or.inr rfl)) qgs_nil))))) (fun _ _ _ _ _ => qts_nil) (fun _ _ _ _ _ => (qe_tup (qa_cons (qe_var (i := 6) rfl (by first | exact Or.inl rfl | exact Or.inr (Or.inl rfl) | exact Or.inr (Or.inr rfl))) (qa_cons (qe_var (i := 7) rfl (by first | exact Or.inl rfl | exact Or.inr (Or.inl rfl) | exact Or.inr (Or.inr rfl))) (qa_cons (qe_var (i := 8) rfl (by first | exact Or.inl rfl | exact Or.inr (Or.inl rfl) | exact Or.inr (Or.inr rfl))) qa_nil))))) (by decide)) qa_nil)))
  (qss_cons (qs_if (qt_cmp oq_gtI (qe_callB cq_len g_Machineu_initu_len G.f_len rfl (qa_cons (qe_var (i := 5) rfl v_Machineu_initu_ordered) qa_nil)) (qe_gInt g_Machineu_initu_MOST_STEPS (G.i_MOST_STEPS).choose_spec) (nomark _))
  (qss_one (qs_raise1 (c := 3) rfl tk G.ox_TooLarge G.xf_TooLarge_size G.in_TooLarge.1 G.in_TooLarge.2 K_TooLargeu_initu (hr.mono (by decide)) B_TooLargeu_initu g_Machineu_initu_TooLarge G.g_TooLarge (qa_cons (qe_callB cq_len g_Machineu_initu_len G.f_len rfl (qa_cons (qe_var (i := 5) rfl v_Machineu_initu_ordered) qa_nil)) qa_nil)))
  qss_nil)
  (qss_cons (qs_if (qt_w (qw_or (qt_cmp oq_ltI (qe_var (i := 4) rfl v_Machineu_initu_now) qe_int (nomark _)) (qw_or1 (qt_cmp oq_geI (qe_var (i := 4) rfl v_Machineu_initu_now) (qe_var (i := 1) rfl v_Machineu_initu_size) (nomark _)))))
  (qss_one (qs_raise1 (c := 2) rfl tk G.ox_BadState G.xf_BadState_state G.in_BadState.1 G.in_BadState.2 K_BadStateu_initu (hr.mono (by decide)) B_BadStateu_initu g_Machineu_initu_BadState G.g_BadState (qa_cons (qe_var (i := 4) rfl v_Machineu_initu_now) qa_nil)))
  qss_nil)
  (qss_cons (qs_fld (qe_var (i := 0) rfl v_Machineu_initu_self) (qe_var (i := 1) rfl v_Machineu_initu_size) G.n_size)
  (qss_cons (qs_fld (qe_var (i := 0) rfl v_Machineu_initu_self) (qe_callTy cq_tuple g_Machineu_initu_tuple G.f_tuple rfl (qa_cons (qe_call (dvs := []) (ds := []) (dds := []) K_in_order tk (hr.mono (by decide)) g_Machineu_initu_in_order G.g_in_order P_in_order B_in_order .nil Dfl.nil (qa_cons (qe_var (i := 2) rfl v_Machineu_initu_marks) qa_nil)) qa_nil)) G.n_marks)
  (qss_cons (qs_fld (qe_var (i := 0) rfl v_Machineu_initu_self) (qe_callTy cq_tuple g_Machineu_initu_tuple G.f_tuple rfl (qa_cons (qe_var (i := 5) rfl v_Machineu_initu_ordered) qa_nil)) G.n_steps)
  (qss_cons (qs_fld (qe_var (i := 0) rfl v_Machineu_initu_self) (qe_call (dvs := []) (ds := []) (dds := []) K_ends_by_ask tk (hr.mono (by decide)) g_Machineu_initu_ends_by_ask G.g_ends_by_ask P_ends_by_ask B_ends_by_ask .nil Dfl.nil (qa_cons (qe_var (i := 5) rfl v_Machineu_initu_ordered) qa_nil)) G.n_ends)
  (qss_one (qs_fld (qe_var (i := 0) rfl v_Machineu_initu_self) (qe_var (i := 4) rfl v_Machineu_initu_now) G.n_place))))))))))
theorem ok_Serviceu_initu (G : Facts K mg) : ∃ fd, SupD P0 K "__init__" "Service.__init__" (defArgs s_Serviceu_initu) (defBody s_Serviceu_initu) (defScope s_Serviceu_initu) [.int (0)] (cl K 13) (He.ma K (He.ga K "Machine") "__init__") (He.ma K (He.ga K "Service") "__init__") fd ∧ FnOk P0 w K mg base (L2.CX P0 w) 5 (He.ma K (He.ga K "Service") "__init__") fd ["self", "size", "marks", "steps", "now"] (SpM ⟨P0, w, K, cl K⟩ 5 f_Serviceu_initu) := by
  obtain ⟨fd, Fd⟩ := G.d_Serviceu_initu
  obtain ⟨fd_Machineu_initu, F_Machineu_initu, K_Machineu_initu⟩ := ok_Machineu_initu (w := w) (base := base) G
  have P_Machineu_initu := F_Machineu_initu.kp
  obtain ⟨da_Machineu_initu, va_Machineu_initu, Ba_Machineu_initu⟩ := F_Machineu_initu.binds1 (ps := ["self", "size", "marks", "steps", "now"]) 5 1 (by simp) rfl (fun _ _ _ _ _ _ _ us its l1 l2 => match us, its, l1, l2 with | [_, _, _, _, _], [_], _, _ => ⟨_, rfl, rfl⟩)
  have B_Machineu_initu : Binds K fd_Machineu_initu ["self", "size", "marks", "steps", "now"] [] := by rw [nil_vals va_Machineu_initu] at Ba_Machineu_initu; exact Ba_Machineu_initu
  obtain ⟨ds_Machineu_initu, VD_Machineu_initu, BD_Machineu_initu⟩ := F_Machineu_initu.binds1 (ps := ["self", "size", "marks", "steps", "now"]) 4 0 (by simp) rfl (fun _ _ _ _ _ _ _ us its l1 l2 => match us, its, l1, l2 with | [_, _, _, _], [_], _, _ => ⟨_, rfl, rfl⟩)
  have KB_Machineu_initu_now := funD_kb F_Machineu_initu (ps := ["self", "size", "marks", "steps", "now"]) 4 ["now"] (by simp) (fun _ _ _ _ _ _ _ us its ws l1 l2 l3 => match us, its, ws, l1, l2, l3 with | [_, _, _, _], [_], [_], _, _, _ => ⟨_, rfl, rfl⟩)
  unfold f_Serviceu_initu
  refine ⟨fd, Fd, sup_q rfl (SupD.ok (t := (tCons (tVar 1) (tCons (tVar 2) (tCons (tVar 3) (tCons (tVar 4) tNil))))) Fd ss_Serviceu_initu rfl rfl (by decide +kernel) G.f_super K_Machineu_initu B_Machineu_initu (fun _ _ _ _ _ _ _ => (pa_cons (pv 1) (pa_cons (pv 2) (pa_cons (pv 3) (pa_cons (pv 4) pa_nil))))) (fun v ws H Q hl hq => match ws, hl with | [a1, a2, a3, a4], _ => ⟨a1, rfl, a2, rfl, a3, rfl, a4, rfl, hq⟩) (fun _ => rfl) (fun _ => rfl) (fun _ => rfl) (fun _ => rfl) (fun _ _ _ => rfl))⟩
theorem ok_Patternu_initu (G : Facts K mg) : ∃ fd, SupD P0 K "__init__" "Pattern.__init__" (defArgs s_Patternu_initu) (defBody s_Patternu_initu) (defScope s_Patternu_initu) [.int (0)] (cl K 14) (He.ma K (He.ga K "Machine") "__init__") (He.ma K (He.ga K "Pattern") "__init__") fd ∧ FnOk P0 w K mg base (L2.CX P0 w) 5 (He.ma K (He.ga K "Pattern") "__init__") fd ["self", "size", "marks", "steps", "now"] (SpM ⟨P0, w, K, cl K⟩ 5 f_Patternu_initu) := by
  obtain ⟨fd, Fd⟩ := G.d_Patternu_initu
  obtain ⟨fd_Machineu_initu, F_Machineu_initu, K_Machineu_initu⟩ := ok_Machineu_initu (w := w) (base := base) G
  have P_Machineu_initu := F_Machineu_initu.kp
  obtain ⟨da_Machineu_initu, va_Machineu_initu, Ba_Machineu_initu⟩ := F_Machineu_initu.binds1 (ps := ["self", "size", "marks", "steps", "now"]) 5 1 (by simp) rfl (fun _ _ _ _ _ _ _ us its l1 l2 => match us, its, l1, l2 with | [_, _, _, _, _], [_], _, _ => ⟨_, rfl, rfl⟩)
  have B_Machineu_initu : Binds K fd_Machineu_initu ["self", "size", "marks", "steps", "now"] [] := by rw [nil_vals va_Machineu_initu] at Ba_Machineu_initu; exact Ba_Machineu_initu
  obtain ⟨ds_Machineu_initu, VD_Machineu_initu, BD_Machineu_initu⟩ := F_Machineu_initu.binds1 (ps := ["self", "size", "marks", "steps", "now"]) 4 0 (by simp) rfl (fun _ _ _ _ _ _ _ us its l1 l2 => match us, its, l1, l2 with | [_, _, _, _], [_], _, _ => ⟨_, rfl, rfl⟩)
  have KB_Machineu_initu_now := funD_kb F_Machineu_initu (ps := ["self", "size", "marks", "steps", "now"]) 4 ["now"] (by simp) (fun _ _ _ _ _ _ _ us its ws l1 l2 l3 => match us, its, ws, l1, l2, l3 with | [_, _, _, _], [_], [_], _, _, _ => ⟨_, rfl, rfl⟩)
  unfold f_Patternu_initu
  refine ⟨fd, Fd, sup_q rfl (SupD.ok (t := (tCons (tVar 1) (tCons (tVar 2) (tCons (tVar 3) (tCons (tVar 4) tNil))))) Fd ss_Patternu_initu rfl rfl (by decide +kernel) G.f_super K_Machineu_initu B_Machineu_initu (fun _ _ _ _ _ _ _ => (pa_cons (pv 1) (pa_cons (pv 2) (pa_cons (pv 3) (pa_cons (pv 4) pa_nil))))) (fun v ws H Q hl hq => match ws, hl with | [a1, a2, a3, a4], _ => ⟨a1, rfl, a2, rfl, a3, rfl, a4, rfl, hq⟩) (fun _ => rfl) (fun _ => rfl) (fun _ => rfl) (fun _ => rfl) (fun _ _ _ => rfl))⟩
theorem ok__law_made (G : Facts K mg) : ∃ fd, FunD K "_law_made" "_law_made" (defArgs s__law_made) (defBody s__law_made) (defScope s__law_made) [] [] (He.ga K "_law_made") fd ∧ FnOk P0 w K mg base (L2.CX P0 w) 7 (He.ga K "_law_made") fd ["_law_choice", "_law_size", "_law_marks_here", "_law_steps_here", "_law_here"] (SpM ⟨P0, w, K, cl K⟩ 5 f__law_made_2) := by
  obtain ⟨fd, Fd⟩ := G.d__law_made
  obtain ⟨fd_Serviceu_initu, F_Serviceu_initu, K_Serviceu_initu⟩ := ok_Serviceu_initu (w := w) (base := base) G
  have P_Serviceu_initu := F_Serviceu_initu.kp
  obtain ⟨da_Serviceu_initu, va_Serviceu_initu, Ba_Serviceu_initu⟩ := F_Serviceu_initu.binds1 (ps := ["self", "size", "marks", "steps", "now"]) 5 1 (by simp) rfl (fun _ _ _ _ _ _ _ _ us its l1 l2 => match us, its, l1, l2 with | [_, _, _, _, _], [_], _, _ => ⟨_, rfl, rfl⟩)
  have B_Serviceu_initu : Binds K fd_Serviceu_initu ["self", "size", "marks", "steps", "now"] [] := by rw [nil_vals va_Serviceu_initu] at Ba_Serviceu_initu; exact Ba_Serviceu_initu
  obtain ⟨ds_Serviceu_initu, VD_Serviceu_initu, BD_Serviceu_initu⟩ := F_Serviceu_initu.binds1 (ps := ["self", "size", "marks", "steps", "now"]) 4 0 (by simp) rfl (fun _ _ _ _ _ _ _ _ us its l1 l2 => match us, its, l1, l2 with | [_, _, _, _], [_], _, _ => ⟨_, rfl, rfl⟩)
  have KB_Serviceu_initu_now := SupD.kb F_Serviceu_initu (ps := ["self", "size", "marks", "steps", "now"]) 4 ["now"] (by simp) (fun _ _ _ _ _ _ _ _ us its ws l1 l2 l3 => match us, its, ws, l1, l2, l3 with | [_, _, _, _], [_], [_], _, _, _ => ⟨_, rfl, rfl⟩)
  obtain ⟨fd_Patternu_initu, F_Patternu_initu, K_Patternu_initu⟩ := ok_Patternu_initu (w := w) (base := base) G
  have P_Patternu_initu := F_Patternu_initu.kp
  obtain ⟨da_Patternu_initu, va_Patternu_initu, Ba_Patternu_initu⟩ := F_Patternu_initu.binds1 (ps := ["self", "size", "marks", "steps", "now"]) 5 1 (by simp) rfl (fun _ _ _ _ _ _ _ _ us its l1 l2 => match us, its, l1, l2 with | [_, _, _, _, _], [_], _, _ => ⟨_, rfl, rfl⟩)
  have B_Patternu_initu : Binds K fd_Patternu_initu ["self", "size", "marks", "steps", "now"] [] := by rw [nil_vals va_Patternu_initu] at Ba_Patternu_initu; exact Ba_Patternu_initu
  obtain ⟨ds_Patternu_initu, VD_Patternu_initu, BD_Patternu_initu⟩ := F_Patternu_initu.binds1 (ps := ["self", "size", "marks", "steps", "now"]) 4 0 (by simp) rfl (fun _ _ _ _ _ _ _ _ us its l1 l2 => match us, its, l1, l2 with | [_, _, _, _], [_], _, _ => ⟨_, rfl, rfl⟩)
  have KB_Patternu_initu_now := SupD.kb F_Patternu_initu (ps := ["self", "size", "marks", "steps", "now"]) 4 ["now"] (by simp) (fun _ _ _ _ _ _ _ _ us its ws l1 l2 l3 => match us, its, ws, l1, l2, l3 with | [_, _, _, _], [_], [_], _, _, _ => ⟨_, rfl, rfl⟩)
  unfold f__law_made_2
  refine ⟨fd, Fd, fn_qK Fd sc__law_made fun cdv A outer s H E hr => ?_⟩
  have hu : (Xd P0 w K mg base ["_law_choice", "_law_size", "_law_marks_here", "_law_steps_here", "_law_here"] "_law_made" (defScope s__law_made) (He.ga K "_law_made") cdv A outer s H E).A.units + 64 < cLine := by have := hr.un; show (A.deeper _).units + 64 < cLine; omega
  have hu2 : (Xd P0 w K mg base ["_law_choice", "_law_size", "_law_marks_here", "_law_steps_here", "_law_here"] "_law_made" (defScope s__law_made) (He.ga K "_law_made") cdv A outer s H E).A.units + 20 < cLine := by omega
  have tk : Takes (Xd P0 w K mg base ["_law_choice", "_law_size", "_law_marks_here", "_law_steps_here", "_law_here"] "_law_made" (defScope s__law_made) (He.ga K "_law_made") cdv A outer s H E) (Wd E) := takes_of rfl rfl rfl rfl
  unfold m__law_made_2
  exact (qss_cons (qs_if (qt_cmp (oq_eq hu) (qe_op oq_mod (qe_callTy cq_int g__law_made_int G.f_int rfl (qa_cons (qe_var (i := 0) rfl v__law_made__law_choice) qa_nil)) qe_int) qe_int (nomark _))
  (qss_one (qs_ret (qe_make (c := 13) (dvs := []) (ds := []) (dds := []) G.k_Service K_Serviceu_initu tk (wi_d E) (hr.mono (by decide)) g__law_made_Service G.g_Service B_Serviceu_initu .nil Dfl.nil (qa_cons (qe_var (i := 1) rfl v__law_made__law_size) (qa_cons (qe_var (i := 2) rfl v__law_made__law_marks_here) (qa_cons (qe_var (i := 3) rfl v__law_made__law_steps_here) (qa_cons (qe_var (i := 4) rfl v__law_made__law_here) qa_nil)))))))
  qss_nil)
  (qss_one (qs_ret (qe_make (c := 14) (dvs := []) (ds := []) (dds := []) G.k_Pattern K_Patternu_initu tk (wi_d E) (hr.mono (by decide)) g__law_made_Pattern G.g_Pattern B_Patternu_initu .nil Dfl.nil (qa_cons (qe_var (i := 1) rfl v__law_made__law_size) (qa_cons (qe_var (i := 2) rfl v__law_made__law_marks_here) (qa_cons (qe_var (i := 3) rfl v__law_made__law_steps_here) (qa_cons (qe_var (i := 4) rfl v__law_made__law_here) qa_nil))))))))
theorem ok_NoStepu_initu (G : Facts K mg) : ∃ fd, ErrD P0 K "__init__" "NoStep.__init__" (defArgs s_NoStepu_initu) (defBody s_NoStepu_initu) (defScope s_NoStepu_initu) (cl K 4) (He.ma K (He.ga K "NoStep") "__init__") fd ∧ FnOk P0 w K mg base (L2.CX P0 w) 1 (He.ma K (He.ga K "NoStep") "__init__") fd ["self", "ask", "end"] (errSp (cl K 4) ["self", "ask", "end"] (tErr K ["ask", "end"] 1)) := by
  obtain ⟨fd, Fd⟩ := G.d_NoStepu_initu
  exact ⟨fd, Fd, ErrD.ok (t := tCons (tC (.str "there is no such step")) tNil) Fd ss_NoStepu_initu rfl rfl (by decide +kernel) G.f_super (fun _ _ _ _ _ _ _ => pa_cons pe_str pa_nil) (fun _ _ _ h => h _ (by simp)) (fun _ _ _ _ _ _ _ => pss_cons (ps_ost (pv 0) (pv 1)) (pss_one (ps_ost (pv 0) (pv 2)))) (fun _ => rfl) (fun _ => rfl) (fun _ => rfl) (fun _ => rfl) (fun _ _ _ => rfl)⟩
theorem ok_Machineu_setitemu (G : Facts K mg) : ∃ fd, FunD K "__setitem__" "Machine.__setitem__" (defArgs s_Machineu_setitemu) (defBody s_Machineu_setitemu) (defScope s_Machineu_setitemu) [] [] (He.ma K (He.ga K "Machine") "__setitem__") fd ∧ FnOk P0 w K mg base (L2.CX P0 w) 3 (He.ma K (He.ga K "Machine") "__setitem__") fd ["self", "ask", "end"] (SpM ⟨P0, w, K, cl K⟩ 3 f_Machineu_setitemu) := by
  obtain ⟨fd, Fd⟩ := G.d_Machineu_setitemu
  obtain ⟨fd_NoStepu_initu, F_NoStepu_initu, K_NoStepu_initu⟩ := ok_NoStepu_initu (w := w) (base := base) G
  have P_NoStepu_initu := F_NoStepu_initu.kp
  have B_NoStepu_initu : Binds K fd_NoStepu_initu ["self", "ask", "end"] [] := F_NoStepu_initu.bindsN fun _ _ _ _ _ _ _ us hl => match us, hl with | [_, _, _], _ => rfl
  unfold f_Machineu_setitemu
  refine ⟨fd, Fd, fn_q Fd sc_Machineu_setitemu fun cdv A outer s H E hr => ?_⟩
  have hu : (Xd P0 w K mg base ["self", "ask", "end"] "Machine.__setitem__" (defScope s_Machineu_setitemu) (He.ma K (He.ga K "Machine") "__setitem__") cdv A outer s H E).A.units + 64 < cLine := by have := hr.un; show (A.deeper _).units + 64 < cLine; omega
  have hu2 : (Xd P0 w K mg base ["self", "ask", "end"] "Machine.__setitem__" (defScope s_Machineu_setitemu) (He.ma K (He.ga K "Machine") "__setitem__") cdv A outer s H E).A.units + 20 < cLine := by omega
  have tk : Takes (Xd P0 w K mg base ["self", "ask", "end"] "Machine.__setitem__" (defScope s_Machineu_setitemu) (He.ma K (He.ga K "Machine") "__setitem__") cdv A outer s H E) (Wd E) := takes_of rfl rfl rfl rfl
  unfold m_Machineu_setitemu
  exact (qss_cons (qs_if (qt_cmp (oq_notinX hu2) (qe_var (i := 2) rfl v_Machineu_setitemu_end) (qe_dm PySem.F.slot_dict_get PySem.F.type_dict_get (mq_get hu2) (qe_fld (qe_var (i := 0) rfl v_Machineu_setitemu_self) G.n_ends) (qa_cons (qe_tup (qa_cons (qe_fld (qe_var (i := 0) rfl v_Machineu_setitemu_self) G.n_place) (qa_cons (qe_var (i := 1) rfl v_Machineu_setitemu_ask) qa_nil))) (qa_cons (qe_tup qa_nil) qa_nil))) (by with_unfolding_all rfl))
  (qss_one (qs_raise2 (c := 4) rfl tk G.ox_NoStep G.xf_NoStep_ask G.xf_NoStep_end G.in_NoStep.1 G.in_NoStep.2 K_NoStepu_initu (hr.mono (by decide)) B_NoStepu_initu g_Machineu_setitemu_NoStep G.g_NoStep (qa_cons (qe_var (i := 1) rfl v_Machineu_setitemu_ask) (qa_cons (qe_var (i := 2) rfl v_Machineu_setitemu_end) qa_nil))))
  qss_nil)
  (qss_one (qs_fld (qe_var (i := 0) rfl v_Machineu_setitemu_self) (qe_var (i := 2) rfl v_Machineu_setitemu_end) G.n_place)))
theorem ok__law_whole (G : Facts K mg) : ∃ fd, FunD K "_law_whole" "_law_whole" (defArgs s__law_whole) (defBody s__law_whole) (defScope s__law_whole) [] [] (He.ga K "_law_whole") fd ∧ FnOk P0 w K mg base (L2.CX P0 w) 1 (He.ga K "_law_whole") fd ["_law_x"] (SpM ⟨P0, w, K, cl K⟩ 1 f__law_whole) := by
  obtain ⟨fd, Fd⟩ := G.d__law_whole
  unfold f__law_whole
  refine ⟨fd, Fd, fn_q Fd sc__law_whole fun cdv A outer s H E hr => ?_⟩
  have hu : (Xd P0 w K mg base ["_law_x"] "_law_whole" (defScope s__law_whole) (He.ga K "_law_whole") cdv A outer s H E).A.units + 64 < cLine := by have := hr.un; show (A.deeper _).units + 64 < cLine; omega
  have hu2 : (Xd P0 w K mg base ["_law_x"] "_law_whole" (defScope s__law_whole) (He.ga K "_law_whole") cdv A outer s H E).A.units + 20 < cLine := by omega
  have tk : Takes (Xd P0 w K mg base ["_law_x"] "_law_whole" (defScope s__law_whole) (He.ga K "_law_whole") cdv A outer s H E) (Wd E) := takes_of rfl rfl rfl rfl
  unfold m__law_whole
  exact (qss_one (qs_ret (qe_and (qe_callB cq_isi g__law_whole_isinstance G.f_isinstance rfl (qa_cons (qe_var (i := 0) rfl v__law_whole__law_x) (qa_cons (qe_bTy g__law_whole_int G.f_int rfl) qa_nil))) (qe_one (qe_not (qe_callB cq_isi g__law_whole_isinstance G.f_isinstance rfl (qa_cons (qe_var (i := 0) rfl v__law_whole__law_x) (qa_cons (qe_bTy g__law_whole_bool G.f_bool rfl) qa_nil))))))))
theorem okl__law_whole (G : Facts K mg) : ∃ fd, FunD K "_law_whole" "_law_whole" (defArgs s__law_whole) (defBody s__law_whole) (defScope s__law_whole) [] [] (He.ga K "_law_whole") fd ∧ FnL P0 w K mg base 1 (He.ga K "_law_whole") fd ["_law_x"] (SpM ⟨P0, w, K, cl K⟩ 1 f__law_whole) := by
  obtain ⟨fd, Fd⟩ := G.d__law_whole
  unfold f__law_whole
  refine ⟨fd, Fd, fn_l Fd sc__law_whole fun cdv A outer s H hr => ?_⟩
  have hu : (XdL P0 w K mg base ["_law_x"] "_law_whole" (defScope s__law_whole) (He.ga K "_law_whole") cdv A outer s H).A.units + 64 < cLine := by have := hr.un; show (A.deeper _).units + 64 < cLine; omega
  have hu2 : (XdL P0 w K mg base ["_law_x"] "_law_whole" (defScope s__law_whole) (He.ga K "_law_whole") cdv A outer s H).A.units + 20 < cLine := by omega
  unfold m__law_whole
  exact (qss_one (qs_ret (qe_and (qe_callB cq_isi g__law_whole_isinstance G.f_isinstance rfl (qa_cons (qe_var (i := 0) rfl v__law_whole__law_x) (qa_cons (qe_bTy g__law_whole_int G.f_int rfl) qa_nil))) (qe_one (qe_not (qe_callB cq_isi g__law_whole_isinstance G.f_isinstance rfl (qa_cons (qe_var (i := 0) rfl v__law_whole__law_x) (qa_cons (qe_bTy g__law_whole_bool G.f_bool rfl) qa_nil))))))))
theorem ok__law_moved (G : Facts K mg) : ∃ fd, FunD K "_law_moved" "_law_moved" (defArgs s__law_moved) (defBody s__law_moved) (defScope s__law_moved) [] [] (He.ga K "_law_moved") fd ∧ FnOk P0 w K mg base (L2.CX P0 w) 4 (He.ga K "_law_moved") fd ["_law_machine", "_law_ask", "_law_end"] (SpM ⟨P0, w, K, cl K⟩ 3 f__law_moved) := by
  obtain ⟨fd, Fd⟩ := G.d__law_moved
  obtain ⟨fd_Machineu_setitemu, F_Machineu_setitemu, K_Machineu_setitemu⟩ := ok_Machineu_setitemu (w := w) (base := base) G
  have P_Machineu_setitemu := F_Machineu_setitemu.kp
  have B_Machineu_setitemu : Binds K fd_Machineu_setitemu ["self", "ask", "end"] [] := F_Machineu_setitemu.bindsN fun _ _ _ _ _ _ us hl => match us, hl with | [_, _, _], _ => rfl
  obtain ⟨fdL__law_whole, FL__law_whole, KL__law_whole⟩ := okl__law_whole (w := w) (base := base) G
  have PL__law_whole := FL__law_whole.kp
  have BL__law_whole : Binds K fdL__law_whole ["_law_x"] [] := FL__law_whole.bindsN fun _ _ _ _ _ _ us hl => match us, hl with | [_], _ => rfl
  unfold f__law_moved
  refine ⟨fd, Fd, fn_q Fd sc__law_moved fun cdv A outer s H E hr => ?_⟩
  have hu : (Xd P0 w K mg base ["_law_machine", "_law_ask", "_law_end", "e"] "_law_moved" (defScope s__law_moved) (He.ga K "_law_moved") cdv A outer s H E).A.units + 64 < cLine := by have := hr.un; show (A.deeper _).units + 64 < cLine; omega
  have hu2 : (Xd P0 w K mg base ["_law_machine", "_law_ask", "_law_end", "e"] "_law_moved" (defScope s__law_moved) (He.ga K "_law_moved") cdv A outer s H E).A.units + 20 < cLine := by omega
  have tk : Takes (Xd P0 w K mg base ["_law_machine", "_law_ask", "_law_end", "e"] "_law_moved" (defScope s__law_moved) (He.ga K "_law_moved") cdv A outer s H E) (Wd E) := takes_of rfl rfl rfl rfl
  unfold m__law_moved
  exact (qss_cons (qs_try G.eT rfl rfl rfl sc__law_moved.nd tk (fun _ _ _ tk pw => (qss_one (qs_setOS (qe_var (i := 0) rfl v__law_moved__law_machine) (qe_var (i := 1) rfl v__law_moved__law_ask) (qe_var (i := 2) rfl v__law_moved__law_end) G.o_Machine_setitem K_Machineu_setitemu tk (hr.mono (by decide)) B_Machineu_setitemu)))
  (MHs.cons (c := 4) (i := (some 3)) ⟨g__law_moved_NoStep, rfl, .inl G.g_NoStep⟩ ⟨rfl, show (defScope s__law_moved).names.lookup ("e" : Str) = some .local by decide +kernel⟩ (fun _ _ => (qss_cons (qs_if (qt_w (qw_or (qt_not (qt_val (qe_callB (cq_isE G.xT) g__law_moved_isinstance G.f_isinstance rfl (qa_cons (qe_var (i := 3) rfl v__law_moved_e) (qa_cons (qe_gCls (i := 0) g__law_moved_AsksError G.g_AsksError) qa_nil))))) (qw_or (qt_not (qt_val (qe_callB (cq_isE G.xT) g__law_moved_isinstance G.f_isinstance rfl (qa_cons (qe_var (i := 3) rfl v__law_moved_e) (qa_cons (qe_bTy g__law_moved_ValueError G.f_ValueError rfl) qa_nil))))) (qw_or1 (qt_val (qe_callB (cq_isE G.xT) g__law_moved_isinstance G.f_isinstance rfl (qa_cons (qe_var (i := 3) rfl v__law_moved_e) (qa_cons (qe_gCls (i := 2) g__law_moved_BadState G.g_BadState) qa_nil))))))))
  (qss_one (qs_ret qe_str))
  qss_nil)
  (qss_cons (qs_if (qt_w (qw_or (qt_cmp (oq_ne hu) (qe_xf (qe_var (i := 3) rfl v__law_moved_e) G.xn_ask) (qe_var (i := 1) rfl v__law_moved__law_ask) (nomark _)) (qw_or (qt_not (qt_val (qe_callL KL__law_whole (Room.mark (hr.mono (by decide)) _) g__law_moved__law_whole G.g__law_whole PL__law_whole BL__law_whole (qa_cons (qe_xf (qe_var (i := 3) rfl v__law_moved_e) G.xn_end) qa_nil)))) (qw_or1 (qt_cmp (oq_ne hu) (qe_xf (qe_var (i := 3) rfl v__law_moved_e) G.xn_end) (qe_var (i := 2) rfl v__law_moved__law_end) (nomark _))))))
  (qss_one (qs_ret qe_str))
  qss_nil)
  (qss_one (qs_ret qe_str))))) MHs.nil))
  (qss_one (qs_ret qe_str)))
theorem ok_Machineu_boolu (G : Facts K mg) : ∃ fd, FunD K "__bool__" "Machine.__bool__" (defArgs s_Machineu_boolu) (defBody s_Machineu_boolu) (defScope s_Machineu_boolu) [] [] (He.ma K (He.ga K "Machine") "__bool__") fd ∧ FnOk P0 w K mg base (L2.CX P0 w) 1 (He.ma K (He.ga K "Machine") "__bool__") fd ["self"] (SpM ⟨P0, w, K, cl K⟩ 1 f_Machineu_boolu) := by
  obtain ⟨fd, Fd⟩ := G.d_Machineu_boolu
  unfold f_Machineu_boolu
  refine ⟨fd, Fd, fn_q Fd sc_Machineu_boolu fun cdv A outer s H E hr => ?_⟩
  have hu : (Xd P0 w K mg base ["self"] "Machine.__bool__" (defScope s_Machineu_boolu) (He.ma K (He.ga K "Machine") "__bool__") cdv A outer s H E).A.units + 64 < cLine := by have := hr.un; show (A.deeper _).units + 64 < cLine; omega
  have hu2 : (Xd P0 w K mg base ["self"] "Machine.__bool__" (defScope s_Machineu_boolu) (He.ma K (He.ga K "Machine") "__bool__") cdv A outer s H E).A.units + 20 < cLine := by omega
  have tk : Takes (Xd P0 w K mg base ["self"] "Machine.__bool__" (defScope s_Machineu_boolu) (He.ma K (He.ga K "Machine") "__bool__") cdv A outer s H E) (Wd E) := takes_of rfl rfl rfl rfl
  unfold m_Machineu_boolu
  exact (qss_one (qs_ret (qe_cmp (oq_inX hu2) (qe_fld (qe_var (i := 0) rfl v_Machineu_boolu_self) G.n_place) (qe_fld (qe_var (i := 0) rfl v_Machineu_boolu_self) G.n_marks) (by with_unfolding_all rfl))))
theorem ok_Machine_now (G : Facts K mg) : ∃ fd, FunD K "now" "Machine.now" (defArgs s_Machine_now) (defBody s_Machine_now) (defScope s_Machine_now) [] [] (Hx.gp K "Machine" "now") fd ∧ FnOk P0 w K mg base (L2.CX P0 w) 1 (Hx.gp K "Machine" "now") fd ["self"] (SpM ⟨P0, w, K, cl K⟩ 1 f_Machine_now) := by
  obtain ⟨fd, Fd⟩ := G.d_Machine_now
  unfold f_Machine_now
  refine ⟨fd, Fd, fn_q Fd sc_Machine_now fun cdv A outer s H E hr => ?_⟩
  have hu : (Xd P0 w K mg base ["self"] "Machine.now" (defScope s_Machine_now) (Hx.gp K "Machine" "now") cdv A outer s H E).A.units + 64 < cLine := by have := hr.un; show (A.deeper _).units + 64 < cLine; omega
  have hu2 : (Xd P0 w K mg base ["self"] "Machine.now" (defScope s_Machine_now) (Hx.gp K "Machine" "now") cdv A outer s H E).A.units + 20 < cLine := by omega
  have tk : Takes (Xd P0 w K mg base ["self"] "Machine.now" (defScope s_Machine_now) (Hx.gp K "Machine" "now") cdv A outer s H E) (Wd E) := takes_of rfl rfl rfl rfl
  unfold m_Machine_now
  exact (qss_one (qs_ret (qe_fld (qe_var (i := 0) rfl v_Machine_now_self) G.n_place)))
theorem ok_Machineu_getitemu (G : Facts K mg) : ∃ fd, FunD K "__getitem__" "Machine.__getitem__" (defArgs s_Machineu_getitemu) (defBody s_Machineu_getitemu) (defScope s_Machineu_getitemu) [] [] (He.ma K (He.ga K "Machine") "__getitem__") fd ∧ FnOk P0 w K mg base (L2.CX P0 w) 1 (He.ma K (He.ga K "Machine") "__getitem__") fd ["self", "ask"] (SpM ⟨P0, w, K, cl K⟩ 2 f_Machineu_getitemu) := by
  obtain ⟨fd, Fd⟩ := G.d_Machineu_getitemu
  unfold f_Machineu_getitemu
  refine ⟨fd, Fd, fn_q Fd sc_Machineu_getitemu fun cdv A outer s H E hr => ?_⟩
  have hu : (Xd P0 w K mg base ["self", "ask"] "Machine.__getitem__" (defScope s_Machineu_getitemu) (He.ma K (He.ga K "Machine") "__getitem__") cdv A outer s H E).A.units + 64 < cLine := by have := hr.un; show (A.deeper _).units + 64 < cLine; omega
  have hu2 : (Xd P0 w K mg base ["self", "ask"] "Machine.__getitem__" (defScope s_Machineu_getitemu) (He.ma K (He.ga K "Machine") "__getitem__") cdv A outer s H E).A.units + 20 < cLine := by omega
  have tk : Takes (Xd P0 w K mg base ["self", "ask"] "Machine.__getitem__" (defScope s_Machineu_getitemu) (He.ma K (He.ga K "Machine") "__getitem__") cdv A outer s H E) (Wd E) := takes_of rfl rfl rfl rfl
  unfold m_Machineu_getitemu
  exact (qss_one (qs_ret (qe_dm PySem.F.slot_dict_get PySem.F.type_dict_get (mq_get hu2) (qe_fld (qe_var (i := 0) rfl v_Machineu_getitemu_self) G.n_ends) (qa_cons (qe_tup (qa_cons (qe_fld (qe_var (i := 0) rfl v_Machineu_getitemu_self) G.n_place) (qa_cons (qe_var (i := 1) rfl v_Machineu_getitemu_ask) qa_nil))) (qa_cons (qe_tup qa_nil) qa_nil)))))
theorem ok__law_stands (G : Facts K mg) : ∃ fd, FunD K "_law_stands" "_law_stands" (defArgs s__law_stands) (defBody s__law_stands) (defScope s__law_stands) [] [] (He.ga K "_law_stands") fd ∧ FnOk P0 w K mg base (L2.CX P0 w) 4 (He.ga K "_law_stands") fd ["_law_machine", "_law_here", "_law_size", "_law_marks_here", "_law_steps_here", "_law_asks_here"] (SpM ⟨P0, w, K, cl K⟩ 6 f__law_stands) := by
  obtain ⟨fd, Fd⟩ := G.d__law_stands
  obtain ⟨fd_Machineu_boolu, F_Machineu_boolu, K_Machineu_boolu⟩ := ok_Machineu_boolu (w := w) (base := base) G
  have P_Machineu_boolu := F_Machineu_boolu.kp
  have B_Machineu_boolu : Binds K fd_Machineu_boolu ["self"] [] := F_Machineu_boolu.bindsN fun _ _ _ _ _ _ us hl => match us, hl with | [_], _ => rfl
  obtain ⟨fd_Machine_now, F_Machine_now, K_Machine_now⟩ := ok_Machine_now (w := w) (base := base) G
  have P_Machine_now := F_Machine_now.kp
  have B_Machine_now : Binds K fd_Machine_now ["self"] [] := F_Machine_now.bindsN fun _ _ _ _ _ _ us hl => match us, hl with | [_], _ => rfl
  obtain ⟨fd__law_whole, F__law_whole, K__law_whole⟩ := ok__law_whole (w := w) (base := base) G
  have P__law_whole := F__law_whole.kp
  have B__law_whole : Binds K fd__law_whole ["_law_x"] [] := F__law_whole.bindsN fun _ _ _ _ _ _ us hl => match us, hl with | [_], _ => rfl
  obtain ⟨fd_Machineu_getitemu, F_Machineu_getitemu, K_Machineu_getitemu⟩ := ok_Machineu_getitemu (w := w) (base := base) G
  have P_Machineu_getitemu := F_Machineu_getitemu.kp
  have B_Machineu_getitemu : Binds K fd_Machineu_getitemu ["self", "ask"] [] := F_Machineu_getitemu.bindsN fun _ _ _ _ _ _ us hl => match us, hl with | [_, _], _ => rfl
  unfold f__law_stands
  refine ⟨fd, Fd, fn_q Fd sc__law_stands fun cdv A outer s H E hr => ?_⟩
  have hu : (Xd P0 w K mg base ["_law_machine", "_law_here", "_law_size", "_law_marks_here", "_law_steps_here", "_law_asks_here", "_law_ask", "_law_end"] "_law_stands" (defScope s__law_stands) (He.ga K "_law_stands") cdv A outer s H E).A.units + 64 < cLine := by have := hr.un; show (A.deeper _).units + 64 < cLine; omega
  have hu2 : (Xd P0 w K mg base ["_law_machine", "_law_here", "_law_size", "_law_marks_here", "_law_steps_here", "_law_asks_here", "_law_ask", "_law_end"] "_law_stands" (defScope s__law_stands) (He.ga K "_law_stands") cdv A outer s H E).A.units + 20 < cLine := by omega
  have tk : Takes (Xd P0 w K mg base ["_law_machine", "_law_here", "_law_size", "_law_marks_here", "_law_steps_here", "_law_asks_here", "_law_ask", "_law_end"] "_law_stands" (defScope s__law_stands) (He.ga K "_law_stands") cdv A outer s H E) (Wd E) := takes_of rfl rfl rfl rfl
  unfold m__law_stands
  exact (qss_cons (qs_if (qt_w (qw_or (qt_not (qt_val (qe_callB (cq_isX G.isT_Machine) g__law_stands_isinstance G.f_isinstance rfl (qa_cons (qe_var (i := 0) rfl v__law_stands__law_machine) (qa_cons (qe_gCls (i := 12) g__law_stands_Machine G.g_Machine) qa_nil))))) (qw_or1 (qt_cmp (oq_ne hu) (qe_callTy (cq_boolO G.o_Machine_bool K_Machineu_boolu (hr.mono (by decide)) B_Machineu_boolu) g__law_stands_bool G.f_bool rfl (qa_cons (qe_var (i := 0) rfl v__law_stands__law_machine) qa_nil)) (qe_cmp (oq_inX hu2) (qe_var (i := 1) rfl v__law_stands__law_here) (qe_var (i := 3) rfl v__law_stands__law_marks_here) (by with_unfolding_all rfl)) (nomark _)))))
  (qss_one (qs_ret qe_bl))
  qss_nil)
  (qss_cons (qs_if (qt_w (qw_or (qt_not (qt_val (qe_call (dvs := []) (ds := []) (dds := []) K__law_whole tk (hr.mono (by decide)) g__law_stands__law_whole G.g__law_whole P__law_whole B__law_whole .nil Dfl.nil (qa_cons (qe_prop (qe_var (i := 0) rfl v__law_stands__law_machine) G.p_now K_Machine_now (hr.mono (by decide)) B_Machine_now) qa_nil)))) (qw_or1 (qt_cmp (oq_ne hu) (qe_prop (qe_var (i := 0) rfl v__law_stands__law_machine) G.p_now K_Machine_now (hr.mono (by decide)) B_Machine_now) (qe_var (i := 1) rfl v__law_stands__law_here) (nomark _)))))
  (qss_one (qs_ret qe_bl))
  qss_nil)
  (qss_cons (qs_for (passes_of rfl) rfl (qi_val (qe_var (i := 5) rfl v__law_stands__law_asks_here)) (qg_name (i := 6) sc__law_stands.nd rfl l__law_stands__law_ask)
  (qss_one (qs_if (qt_cmp (oq_ne hu) (qe_callTy (cq_listX rfl) g__law_stands_list G.f_list rfl (qa_cons (qe_ixO (qe_var (i := 0) rfl v__law_stands__law_machine) (qe_var (i := 6) rfl v__law_stands__law_ask) G.o_Machine_getitem K_Machineu_getitemu tk (wi_d E) (hr.mono (by decide)) B_Machineu_getitemu) qa_nil)) (qe_lcV  rfl sc__law_stands.nd (qi_range1 g__law_stands_range G.f_range (qa_cons (qe_var (i := 2) rfl v__law_stands__law_size) qa_nil)) (own := [("_law_end", 7)]) (show BlkOk ["_law_machine", "_law_here", "_law_size", "_law_marks_here", "_law_steps_here", "_law_asks_here", "_law_ask", "_law_end"] (defScope s__law_stands) _ [("_law_end", 7)] from ⟨rfl, by decide +kernel, by decide +kernel, by decide +kernel, by decide +kernel⟩) (fun _ _ _ _ _ => (qg_name (i := 7) sc__law_stands.nd rfl (by first | exact Or.inl rfl | exact Or.inr rfl))) (fun _ _ _ _ _ => (qts_one (qt_cmp (oq_inX hu2) (qe_tup (qa_cons (qe_var (i := 1) rfl (by first | exact Or.inl rfl | exact Or.inr (Or.inl rfl) | exact Or.inr (Or.inr rfl))) (qa_cons (qe_var (i := 6) rfl (by first | exact Or.inl rfl | exact Or.inr (Or.inl rfl) | exact Or.inr (Or.inr rfl))) (qa_cons (qe_var (i := 7) rfl (by first | exact Or.inl rfl | exact Or.inr (Or.inl rfl) | exact Or.inr (Or.inr rfl))) qa_nil)))) (qe_var (i := 4) rfl (by first | exact Or.inl rfl | exact Or.inr (Or.inl rfl) | exact Or.inr (Or.inr rfl))) (by with_unfolding_all rfl)))) (fun _ _ _ _ _ => (qe_var (i := 7) rfl (by first | exact Or.inl rfl | exact Or.inr (Or.inl rfl) | exact Or.inr (Or.inr rfl)))) (by decide)) (nomark _))
  (qss_one (qs_ret qe_bl))
  qss_nil)))
  (qss_one (qs_ret qe_bl)))))
theorem ok_law (G : Facts K mg) : ∃ fd, FunD K "law" "law" (defArgs s_law) (defBody s_law) (defScope s_law) [] [] (He.ga K "law") fd ∧ FnOk P0 w K mg base (L2.CX P0 w) 8 (He.ga K "law") fd ["_law_script"] (SpM ⟨P0, w, K, cl K⟩ 1 f_law_4) := by
  obtain ⟨fd, Fd⟩ := G.d_law
  obtain ⟨fd__law_draws, F__law_draws, K__law_draws⟩ := ok__law_draws (w := w) (base := base) G
  have P__law_draws := F__law_draws.kp
  have B__law_draws : Binds K fd__law_draws ["_law_script", "_law_k", "_law_many"] [] := F__law_draws.bindsN fun _ _ _ _ _ _ us hl => match us, hl with | [_, _, _], _ => rfl
  obtain ⟨fd__law_asks, F__law_asks, K__law_asks⟩ := ok__law_asks (w := w) (base := base) G
  have P__law_asks := F__law_asks.kp
  have B__law_asks : Binds K fd__law_asks ["_law_row", "_law_many"] [] := F__law_asks.bindsN fun _ _ _ _ _ _ us hl => match us, hl with | [_, _], _ => rfl
  obtain ⟨fd__law_steps, F__law_steps, K__law_steps⟩ := ok__law_steps (w := w) (base := base) G
  have P__law_steps := F__law_steps.kp
  have B__law_steps : Binds K fd__law_steps ["_law_row", "_law_size", "_law_asks_here", "_law_single"] [] := F__law_steps.bindsN fun _ _ _ _ _ _ us hl => match us, hl with | [_, _, _, _], _ => rfl
  obtain ⟨fd__law_marks, F__law_marks, K__law_marks⟩ := ok__law_marks (w := w) (base := base) G
  have P__law_marks := F__law_marks.kp
  have B__law_marks : Binds K fd__law_marks ["_law_digit", "_law_size"] [] := F__law_marks.bindsN fun _ _ _ _ _ _ us hl => match us, hl with | [_, _], _ => rfl
  obtain ⟨fd__law_made, F__law_made, K__law_made⟩ := ok__law_made (w := w) (base := base) G
  have P__law_made := F__law_made.kp
  have B__law_made : Binds K fd__law_made ["_law_choice", "_law_size", "_law_marks_here", "_law_steps_here", "_law_here"] [] := F__law_made.bindsN fun _ _ _ _ _ _ us hl => match us, hl with | [_, _, _, _, _], _ => rfl
  obtain ⟨fd__law_moved, F__law_moved, K__law_moved⟩ := ok__law_moved (w := w) (base := base) G
  have P__law_moved := F__law_moved.kp
  have B__law_moved : Binds K fd__law_moved ["_law_machine", "_law_ask", "_law_end"] [] := F__law_moved.bindsN fun _ _ _ _ _ _ us hl => match us, hl with | [_, _, _], _ => rfl
  obtain ⟨fd__law_stands, F__law_stands, K__law_stands⟩ := ok__law_stands (w := w) (base := base) G
  have P__law_stands := F__law_stands.kp
  have B__law_stands : Binds K fd__law_stands ["_law_machine", "_law_here", "_law_size", "_law_marks_here", "_law_steps_here", "_law_asks_here"] [] := F__law_stands.bindsN fun _ _ _ _ _ _ us hl => match us, hl with | [_, _, _, _, _, _], _ => rfl
  unfold f_law_4
  refine ⟨fd, Fd, fn_q Fd sc_law fun cdv A outer s H E hr => ?_⟩
  have hu : (Xd P0 w K mg base ["_law_script", "_law_shape", "_law_size", "_law_asks_here", "_law_steps_here", "_law_marks_here", "_law_here", "_law_machine", "_law_other", "_law_start", "_law_k", "_law_row", "_law_ask", "_law_end", "_law_own", "_law_due", "_law_step"] "law" (defScope s_law) (He.ga K "law") cdv A outer s H E).A.units + 64 < cLine := by have := hr.un; show (A.deeper _).units + 64 < cLine; omega
  have hu2 : (Xd P0 w K mg base ["_law_script", "_law_shape", "_law_size", "_law_asks_here", "_law_steps_here", "_law_marks_here", "_law_here", "_law_machine", "_law_other", "_law_start", "_law_k", "_law_row", "_law_ask", "_law_end", "_law_own", "_law_due", "_law_step"] "law" (defScope s_law) (He.ga K "law") cdv A outer s H E).A.units + 20 < cLine := by omega
  have tk : Takes (Xd P0 w K mg base ["_law_script", "_law_shape", "_law_size", "_law_asks_here", "_law_steps_here", "_law_marks_here", "_law_here", "_law_machine", "_law_other", "_law_start", "_law_k", "_law_row", "_law_ask", "_law_end", "_law_own", "_law_due", "_law_step"] "law" (defScope s_law) (He.ga K "law") cdv A outer s H E) (Wd E) := takes_of rfl rfl rfl rfl
  unfold m_law_4
  exact (qss_cons (qs_set (i := 1) sc_law.nd rfl l_law__law_shape (qe_call (dvs := []) (ds := []) (dds := []) K__law_draws tk (hr.mono (by decide)) g_law__law_draws G.g__law_draws P__law_draws B__law_draws .nil Dfl.nil (qa_cons (qe_var (i := 0) rfl v_law__law_script) (qa_cons qe_int (qa_cons qe_int qa_nil)))))
  (qss_cons (qs_set (i := 2) sc_law.nd rfl l_law__law_size (qe_op oq_add qe_int (qe_op oq_mod (qe_callTy cq_int g_law_int G.f_int rfl (qa_cons (qe_ix (xq_ixX hu2) (qe_var (i := 1) rfl v_law__law_shape) qe_int fun _ _ => rfl) qa_nil)) qe_int)))
  (qss_cons (qs_set (i := 3) sc_law.nd rfl l_law__law_asks_here (qe_call (dvs := []) (ds := []) (dds := []) K__law_asks tk (hr.mono (by decide)) g_law__law_asks G.g__law_asks P__law_asks B__law_asks .nil Dfl.nil (qa_cons (qe_call (dvs := []) (ds := []) (dds := []) K__law_draws tk (hr.mono (by decide)) g_law__law_draws G.g__law_draws P__law_draws B__law_draws .nil Dfl.nil (qa_cons (qe_var (i := 0) rfl v_law__law_script) (qa_cons qe_int (qa_cons qe_int qa_nil)))) (qa_cons (qe_op oq_add qe_int (qe_op oq_mod (qe_callTy cq_int g_law_int G.f_int rfl (qa_cons (qe_ix (xq_ixX hu2) (qe_var (i := 1) rfl v_law__law_shape) qe_int fun _ _ => rfl) qa_nil)) qe_int)) qa_nil))))
  (qss_cons (qs_set (i := 4) sc_law.nd rfl l_law__law_steps_here (qe_call (dvs := []) (ds := []) (dds := []) K__law_steps tk (hr.mono (by decide)) g_law__law_steps G.g__law_steps P__law_steps B__law_steps .nil Dfl.nil (qa_cons (qe_call (dvs := []) (ds := []) (dds := []) K__law_draws tk (hr.mono (by decide)) g_law__law_draws G.g__law_draws P__law_draws B__law_draws .nil Dfl.nil (qa_cons (qe_var (i := 0) rfl v_law__law_script) (qa_cons qe_int (qa_cons qe_int qa_nil)))) (qa_cons (qe_var (i := 2) rfl v_law__law_size) (qa_cons (qe_var (i := 3) rfl v_law__law_asks_here) (qa_cons (qe_cmp (oq_eq hu) (qe_op oq_mod (qe_callTy cq_int g_law_int G.f_int rfl (qa_cons (qe_ix (xq_ixX hu2) (qe_var (i := 1) rfl v_law__law_shape) qe_int fun _ _ => rfl) qa_nil)) qe_int) qe_int (nomark _)) qa_nil))))))
  (qss_cons (qs_set (i := 5) sc_law.nd rfl l_law__law_marks_here (qe_call (dvs := []) (ds := []) (dds := []) K__law_marks tk (hr.mono (by decide)) g_law__law_marks G.g__law_marks P__law_marks B__law_marks .nil Dfl.nil (qa_cons (qe_ix (xq_ixX hu2) (qe_var (i := 1) rfl v_law__law_shape) qe_int fun _ _ => rfl) (qa_cons (qe_var (i := 2) rfl v_law__law_size) qa_nil))))
  (qss_cons (qs_set (i := 6) sc_law.nd rfl l_law__law_here (qe_op oq_mod (qe_callTy cq_int g_law_int G.f_int rfl (qa_cons (qe_ix (xq_ixX hu2) (qe_var (i := 1) rfl v_law__law_shape) qe_int fun _ _ => rfl) qa_nil)) (qe_var (i := 2) rfl v_law__law_size)))
  (qss_cons (qs_set (i := 7) sc_law.nd rfl l_law__law_machine (qe_call (dvs := []) (ds := []) (dds := []) K__law_made tk (hr.mono (by decide)) g_law__law_made G.g__law_made P__law_made B__law_made .nil Dfl.nil (qa_cons (qe_ix (xq_ixX hu2) (qe_var (i := 1) rfl v_law__law_shape) qe_int fun _ _ => rfl) (qa_cons (qe_var (i := 2) rfl v_law__law_size) (qa_cons (qe_callTy (cq_listX rfl) g_law_list G.f_list rfl (qa_cons (qe_var (i := 5) rfl v_law__law_marks_here) qa_nil)) (qa_cons (qe_callTy (cq_listX rfl) g_law_list G.f_list rfl (qa_cons (qe_var (i := 4) rfl v_law__law_steps_here) qa_nil)) (qa_cons (qe_var (i := 6) rfl v_law__law_here) qa_nil)))))))
  (qss_cons (qs_set (i := 8) sc_law.nd rfl l_law__law_other (qe_call (dvs := []) (ds := []) (dds := []) K__law_made tk (hr.mono (by decide)) g_law__law_made G.g__law_made P__law_made B__law_made .nil Dfl.nil (qa_cons (qe_ix (xq_ixX hu2) (qe_var (i := 1) rfl v_law__law_shape) qe_int fun _ _ => rfl) (qa_cons (qe_var (i := 2) rfl v_law__law_size) (qa_cons (qe_callTy (cq_listX rfl) g_law_list G.f_list rfl (qa_cons (qe_var (i := 5) rfl v_law__law_marks_here) qa_nil)) (qa_cons (qe_callTy (cq_listX rfl) g_law_list G.f_list rfl (qa_cons (qe_var (i := 4) rfl v_law__law_steps_here) qa_nil)) (qa_cons (qe_var (i := 6) rfl v_law__law_here) qa_nil)))))))
  (qss_cons (qs_set (i := 9) sc_law.nd rfl l_law__law_start (qe_var (i := 6) rfl v_law__law_here))
  (qss_cons (qs_for (passes_of rfl) rfl (qi_range2 g_law_range G.f_range (qa_cons qe_int (qa_cons (qe_callB (cq_max2 rfl) g_law_max G.f_max rfl (qa_cons qe_int (qa_cons (qe_callB cq_len g_law_len G.f_len rfl (qa_cons (qe_var (i := 0) rfl v_law__law_script) qa_nil)) qa_nil))) qa_nil))) (qg_name (i := 10) sc_law.nd rfl l_law__law_k)
  (qss_cons (qs_set (i := 11) sc_law.nd rfl l_law__law_row (qe_call (dvs := []) (ds := []) (dds := []) K__law_draws tk (hr.mono (by decide)) g_law__law_draws G.g__law_draws P__law_draws B__law_draws .nil Dfl.nil (qa_cons (qe_var (i := 0) rfl v_law__law_script) (qa_cons (qe_var (i := 10) rfl v_law__law_k) (qa_cons qe_int qa_nil)))))
  (qss_cons (qs_set (i := 12) sc_law.nd rfl l_law__law_ask (qe_ix (xq_ixX hu2) (qe_var (i := 3) rfl v_law__law_asks_here) (qe_op oq_mod (qe_callTy cq_int g_law_int G.f_int rfl (qa_cons (qe_ix (xq_ixX hu2) (qe_var (i := 11) rfl v_law__law_row) qe_int fun _ _ => rfl) qa_nil)) (qe_callB cq_len g_law_len G.f_len rfl (qa_cons (qe_var (i := 3) rfl v_law__law_asks_here) qa_nil))) fun _ _ => rfl))
  (qss_cons (qs_set (i := 13) sc_law.nd rfl l_law__law_end (qe_op oq_mod (qe_callTy cq_int g_law_int G.f_int rfl (qa_cons (qe_ix (xq_ixX hu2) (qe_var (i := 11) rfl v_law__law_row) qe_int fun _ _ => rfl) qa_nil)) (qe_var (i := 2) rfl v_law__law_size)))
  (qss_cons (qs_setLcV  (i := 14) rfl sc_law.nd rfl (show (defScope s_law).names.lookup ("_law_own" : Str) = some .local by decide +kernel) rfl (qi_val (qe_var (i := 4) rfl v_law__law_steps_here)) (own := [("_law_step", 16)]) (show BlkOk ["_law_script", "_law_shape", "_law_size", "_law_asks_here", "_law_steps_here", "_law_marks_here", "_law_here", "_law_machine", "_law_other", "_law_start", "_law_k", "_law_row", "_law_ask", "_law_end", "_law_own", "_law_due", "_law_step"] (defScope s_law) _ [("_law_step", 16)] from ⟨rfl, by decide +kernel, by decide +kernel, by decide +kernel, by decide +kernel⟩) (fun _ _ _ _ _ => (qg_name (i := 16) sc_law.nd rfl (by first | exact Or.inl rfl | exact Or.inr rfl))) (fun _ _ _ _ _ => (qts_one (qt_cmp (oq_eq hu) (qe_ix (xq_ixX hu2) (qe_var (i := 16) rfl (by first | exact Or.inl rfl | exact Or.inr (Or.inl rfl) | exact Or.inr (Or.inr rfl))) qe_int fun _ _ => rfl) (qe_var (i := 6) rfl (by first | exact Or.inl rfl | exact Or.inr (Or.inl rfl) | exact Or.inr (Or.inr rfl))) (nomark _)))) (fun _ _ _ _ _ => (qe_var (i := 16) rfl (by first | exact Or.inl rfl | exact Or.inr (Or.inl rfl) | exact Or.inr (Or.inr rfl)))) (by decide))
  (qss_cons (qs_if (qt_w (qw_and (qt_cmp (oq_eq hu) (qe_op oq_mod (qe_callTy cq_int g_law_int G.f_int rfl (qa_cons (qe_ix (xq_ixX hu2) (qe_var (i := 11) rfl v_law__law_row) qe_int fun _ _ => rfl) qa_nil)) qe_int) qe_int (nomark _)) (qw_and1 (qt_cmp oq_gtI (qe_callB cq_len g_law_len G.f_len rfl (qa_cons (qe_var (i := 14) rfl v_law__law_own) qa_nil)) qe_int (nomark _)))))
  (qss_cons (qs_set (i := 12) sc_law.nd rfl l_law__law_ask (qe_ix (xq_ixX hu2) (qe_ix (xq_ixX hu2) (qe_var (i := 14) rfl v_law__law_own) (qe_op oq_mod (qe_callTy cq_int g_law_int G.f_int rfl (qa_cons (qe_ix (xq_ixX hu2) (qe_var (i := 11) rfl v_law__law_row) qe_int fun _ _ => rfl) qa_nil)) (qe_callB cq_len g_law_len G.f_len rfl (qa_cons (qe_var (i := 14) rfl v_law__law_own) qa_nil))) fun _ _ => rfl) qe_int fun _ _ => rfl))
  (qss_one (qs_set (i := 13) sc_law.nd rfl l_law__law_end (qe_ix (xq_ixX hu2) (qe_ix (xq_ixX hu2) (qe_var (i := 14) rfl v_law__law_own) (qe_op oq_mod (qe_callTy cq_int g_law_int G.f_int rfl (qa_cons (qe_ix (xq_ixX hu2) (qe_var (i := 11) rfl v_law__law_row) qe_int fun _ _ => rfl) qa_nil)) (qe_callB cq_len g_law_len G.f_len rfl (qa_cons (qe_var (i := 14) rfl v_law__law_own) qa_nil))) fun _ _ => rfl) qe_int fun _ _ => rfl))))
  qss_nil)
  (qss_cons (qs_set (i := 15) sc_law.nd rfl l_law__law_due qe_str)
  (qss_cons (qs_if (qt_cmp (oq_inX hu2) (qe_tup (qa_cons (qe_var (i := 6) rfl v_law__law_here) (qa_cons (qe_var (i := 12) rfl v_law__law_ask) (qa_cons (qe_var (i := 13) rfl v_law__law_end) qa_nil)))) (qe_var (i := 4) rfl v_law__law_steps_here) (by with_unfolding_all rfl))
  (qss_cons (qs_set (i := 15) sc_law.nd rfl l_law__law_due qe_str)
  (qss_cons (qs_if (qt_cmp (oq_ne hu) (qe_call (dvs := []) (ds := []) (dds := []) K__law_moved tk (hr.mono (by decide)) g_law__law_moved G.g__law_moved P__law_moved B__law_moved .nil Dfl.nil (qa_cons (qe_var (i := 7) rfl v_law__law_machine) (qa_cons (qe_var (i := 12) rfl v_law__law_ask) (qa_cons (qe_var (i := 13) rfl v_law__law_end) qa_nil)))) (qe_var (i := 15) rfl v_law__law_due) (nomark _))
  (qss_one (qs_ret qe_bl))
  qss_nil)
  (qss_one (qs_set (i := 6) sc_law.nd rfl l_law__law_here (qe_var (i := 13) rfl v_law__law_end)))))
  (qss_one (qs_if (qt_cmp (oq_ne hu) (qe_call (dvs := []) (ds := []) (dds := []) K__law_moved tk (hr.mono (by decide)) g_law__law_moved G.g__law_moved P__law_moved B__law_moved .nil Dfl.nil (qa_cons (qe_var (i := 7) rfl v_law__law_machine) (qa_cons (qe_var (i := 12) rfl v_law__law_ask) (qa_cons (qe_var (i := 13) rfl v_law__law_end) qa_nil)))) (qe_var (i := 15) rfl v_law__law_due) (nomark _))
  (qss_one (qs_ret qe_bl))
  qss_nil)))
  (qss_one (qs_if (qt_not (qt_val (qe_call (dvs := []) (ds := []) (dds := []) K__law_stands tk (hr.mono (by decide)) g_law__law_stands G.g__law_stands P__law_stands B__law_stands .nil Dfl.nil (qa_cons (qe_var (i := 7) rfl v_law__law_machine) (qa_cons (qe_var (i := 6) rfl v_law__law_here) (qa_cons (qe_var (i := 2) rfl v_law__law_size) (qa_cons (qe_var (i := 5) rfl v_law__law_marks_here) (qa_cons (qe_var (i := 4) rfl v_law__law_steps_here) (qa_cons (qe_var (i := 3) rfl v_law__law_asks_here) qa_nil)))))))))
  (qss_one (qs_ret qe_bl))
  qss_nil))))))))))
  (qss_one (qs_ret (qe_call (dvs := []) (ds := []) (dds := []) K__law_stands tk (hr.mono (by decide)) g_law__law_stands G.g__law_stands P__law_stands B__law_stands .nil Dfl.nil (qa_cons (qe_var (i := 8) rfl v_law__law_other) (qa_cons (qe_var (i := 9) rfl v_law__law_start) (qa_cons (qe_var (i := 2) rfl v_law__law_size) (qa_cons (qe_var (i := 5) rfl v_law__law_marks_here) (qa_cons (qe_var (i := 4) rfl v_law__law_steps_here) (qa_cons (qe_var (i := 3) rfl v_law__law_asks_here) qa_nil)))))))))))))))))))
end
end K03
/-! Plain: the law's cells, digits and asks. -/
namespace Mi
open PySem Pu L2
def celN (ns : List Int) (k : Int) : Int := ns.getD k.toNat 0
theorem cell_ok (ns : List Int) (k : Int) (hk : 0 ≤ k) (S : Sto) : f__law_cell [.v (.frl (ns.map D.int)), .v (.int k)] S = .ok (.v (.int (celN ns k))) S := by
  unfold f__law_cell
  refine runF_eq ?_
  simp [m__law_cell, start0]
  split
  · rename_i h
    rw [atI_get 0 hk h]
    rfl
  · rename_i h
    simp [celN]
    rw [List.getElem?_eq_none (by omega)]
    rfl
def rA (r : Int) : Nat → Int
  | 0 => r
  | n + 1 => rA r n / 64
def sB (s : Int) : Nat → Int
  | 0 => s
  | n + 1 => (sB s n * 48271 + n + 11) % 2147483647
def rowN (ns : List Int) (k : Int) (n : Nat) : List Int :=
  if 1000000000000000000 ≤ celN ns k then (List.range n).map fun i => rA (celN ns k - 1000000000000000000) i % 64
  else (List.range n).map fun i => sB ((celN ns k * 7919 + k * 104729 + 12345) % 2147483647) (i + 1) / 65536 % 64
@[simp] theorem rowN_len (ns : List Int) (k : Int) (n : Nat) : (rowN ns k n).length = n := by unfold rowN; split <;> simp
theorem rowN_bd (ns : List Int) (k : Int) (n : Nat) : ∀ x ∈ rowN ns k n, 0 ≤ x ∧ x < 64 := by
  intro x hx
  unfold rowN at hx
  split at hx <;> simp at hx <;> obtain ⟨i, _, rfl⟩ := hx <;> omega
theorem draws_ok (ns : List Int) (k : Int) (n : Nat) (hk : 0 ≤ k) (hn : n ≤ 1000) (S : Sto) : f__law_draws [.v (.frl (ns.map D.int)), .v (.int k), .v (.int n)] S = .ok (.v (.lst ((rowN ns k n).map D.int))) S := by
  unfold f__law_draws
  refine runF_eq ?_
  simp [m__law_draws, start0, cell_ok ns k hk]
  split
  · rename_i h
    refine ⟨by omega, for_inv (fun i ρ T => ∃ x, ρ = [some (.v (.frl (ns.map D.int))), some (.v (.int k)), some (.v (.int n)), some (.v (.int (celN ns k))), some (.r S.length), none, x, some (.v (.int (rA (celN ns k - 1000000000000000000) i)))] ∧
      T = S ++ [.lst ((((List.range i).map fun i => rA (celN ns k - 1000000000000000000) i % 64).map D.int).map U.v)]) ⟨_, rfl, rfl⟩ ?_ ?_⟩
    · rintro i u ρ T hu ⟨x, rfl, rfl⟩
      obtain ⟨hi, rfl⟩ := rngU_get hu
      simp [isL_r]
      exact ⟨by omega, by simp [rA], by simp [List.range_succ]⟩
    · rintro ρ T ⟨x, rfl, rfl⟩
      simp only [rngU_len, getv_s, getv_0]
      rw [fin_l0, rowN, if_pos h]
  · rename_i h
    refine ⟨by omega, for_inv (fun i ρ T => ∃ x, ρ = [some (.v (.frl (ns.map D.int))), some (.v (.int k)), some (.v (.int n)), some (.v (.int (celN ns k))), some (.r S.length), some (.v (.int (sB ((celN ns k * 7919 + k * 104729 + 12345) % 2147483647) i))), x, none] ∧
      T = S ++ [.lst ((((List.range i).map fun i => sB ((celN ns k * 7919 + k * 104729 + 12345) % 2147483647) (i + 1) / 65536 % 64).map D.int).map U.v)]) ⟨_, rfl, rfl⟩ ?_ ?_⟩
    · rintro i u ρ T hu ⟨x, rfl, rfl⟩
      obtain ⟨hi, rfl⟩ := rngU_get hu
      simp [isL_r]
      exact ⟨by omega, by simp [sB], by simp [List.range_succ, sB]⟩
    · rintro ρ T ⟨x, rfl, rfl⟩
      simp only [rngU_len, getv_s, getv_0]
      rw [fin_l0, rowN, if_neg h]
theorem draws_i (ns : List Int) (k n : Int) (hk : 0 ≤ k) (hn0 : 0 ≤ n) (hn : n ≤ 1000) (S : Sto) : f__law_draws [.v (.frl (ns.map D.int)), .v (.int k), .v (.int n)] S = .ok (.v (.lst ((rowN ns k n.toNat).map D.int))) S := by
  obtain ⟨m, rfl⟩ := Int.eq_ofNat_of_zero_le hn0
  exact draws_ok ns k m hk (by omega) S
theorem row_at (ns : List Int) (k : Int) (n : Nat) (i : Int) (q : Int → Prop) (h0 : 0 ≤ i) (h1 : i < n) : wpo (atI (rowN ns k n) i) q = q ((rowN ns k n).getD i.toNat 0) := atI_get 0 h0 (by rw [rowN_len]; exact h1)
theorem getD_lt {α : Type} {xs : List α} {i : Nat} (d : α) (h : i < xs.length) : xs.getD i d = xs[i] := by simp [List.getD, List.getElem?_eq_getElem h]
theorem row_bd (ns : List Int) (k : Int) (n i : Nat) : 0 ≤ (rowN ns k n).getD i 0 ∧ (rowN ns k n).getD i 0 < 64 := by
  by_cases h : i < (rowN ns k n).length
  · rw [getD_lt _ h]
    exact rowN_bd ns k n _ (List.getElem_mem h)
  · rw [List.getD, List.getElem?_eq_none (by omega)]; simp
theorem whole_ok (i : Int) (S : Sto) : f__law_whole [.v (.int i)] S = .ok (.v (.bl true)) S := by
  unfold f__law_whole
  refine runF_eq ?_
  simp [m__law_whole, start0]
/-! ### texts -/
def mkS (l : List Nat) : Str := ⟨l.toArray⟩
@[simp] theorem mkS_cps (l : List Nat) : (mkS l).cps.toList = l := rfl
@[simp] theorem mkS_len (l : List Nat) : (mkS l).length = l.length := by show l.toArray.size = _; simp
theorem mkS_of (z : Str) : z = mkS z.cps.toList := by cases z; simp [mkS]
theorem mkS_inj {a b : List Nat} (h : mkS a = mkS b) : a = b := by
  have := congrArg (fun z : Str => z.cps.toList) h
  simpa using this
theorem mkS_app (a b : List Nat) : mkS a ++ mkS b = mkS (a ++ b) := by
  show (⟨a.toArray ++ b.toArray⟩ : Str) = ⟨(a ++ b).toArray⟩
  simp
theorem cut_hi (l : List Nat) (k : Int) (h0 : 0 ≤ k) : cutS (mkS l) none (some k) = mkS (l.take k.toNat) := by
  obtain ⟨n, rfl⟩ := Int.eq_ofNat_of_zero_le h0
  unfold cutS
  show mkS _ = _
  rw [mkS_cps, mkS_len, HT.sIx_none, HT.sIx_nat]
  congr 1
  simp only [List.drop_zero, Nat.sub_zero, Int.toNat_natCast]
  by_cases h : n ≤ l.length
  · rw [Nat.min_eq_left h]
  · rw [Nat.min_eq_right (by omega), List.take_of_length_le (by omega), List.take_of_length_le (by omega)]
theorem cut_mid (l : List Nat) (j k : Int) (h0 : 0 ≤ j) (h1 : 0 ≤ k) : cutS (mkS l) (some j) (some k) = mkS ((l.take k.toNat).drop j.toNat) := by
  obtain ⟨n, rfl⟩ := Int.eq_ofNat_of_zero_le h0
  obtain ⟨m, rfl⟩ := Int.eq_ofNat_of_zero_le h1
  unfold cutS
  show mkS _ = _
  rw [mkS_cps, mkS_len, HT.sIx_nat, HT.sIx_nat]
  congr 1
  simp only [Int.toNat_natCast]
  rw [List.drop_take]
  by_cases h : n ≤ l.length
  · rw [Nat.min_eq_left h]
    by_cases h2 : m ≤ l.length
    · rw [Nat.min_eq_left h2]
    · rw [Nat.min_eq_right (by omega), List.take_of_length_le (by simp), List.take_of_length_le (by simp; omega)]
  · rw [List.drop_eq_nil_of_le (Nat.le_min.mpr ⟨by omega, Nat.le_refl _⟩), List.drop_eq_nil_of_le (by omega)]
    simp
theorem join_chars (cs : List Nat) : Txt.join (Str.ofString "") (cs.map fun c => mkS [c]) = mkS cs := by
  rw [TL.join_eq]
  have e := TL.tl_join (Str.ofString "") (cs.map fun c => mkS [c])
  have hj : ∀ ps : List (List Nat), TL.joinL [] ps = ps.flatten := by
    intro ps
    induction ps with
    | nil => rfl
    | cons p r ih =>
      cases r with
      | nil => simp [TL.joinL]
      | cons q r => simp only [TL.joinL, List.nil_append, List.flatten_cons] at ih ⊢; rw [ih]
  have h0 : TL.tl (Str.ofString "") = [] := rfl
  rw [h0, hj, List.map_map] at e
  rw [mkS_of (Str.join _ _)]
  have e2 : (Str.join (Str.ofString "") (cs.map fun c => mkS [c])).cps.toList = (cs.map (TL.tl ∘ fun c => mkS [c])).flatten := e
  rw [e2]
  congr 1
  have : (TL.tl ∘ fun c => mkS [c]) = fun c => [c] := by funext c; rfl
  rw [this]
  clear e e2
  induction cs with
  | nil => rfl
  | cons c cs ih => simp [ih]
/-! ### asks -/
def lett26 (x : Int) : Nat := 97 + (x % 26).toNat
abbrev lettT : Str := Str.ofString "abcdefghijklmnopqrstuvwxyz"
theorem lett_l : lettT.cps.toList = (List.range 26).map (97 + ·) := by decide +kernel
theorem lett_len : lettT.length ≤ 100000 := by decide +kernel
theorem lett_at (x : Int) (k : Nat → Prop) : wpo (atI lettT.cps.toList (x % 26)) k = k (lett26 x) := by
  rw [lett_l, atI_get 0 (by omega) (by simp; omega)]
  have h : (x % 26).toNat < 26 := by omega
  rw [getD_lt _ (by simp; omega)]
  simp [lett26]
def rg (row : List Int) (i : Nat) : Int := row.getD i 0
def wordN (row : List Int) : List Nat := (row.take 8).map lett26
def askL (row : List Int) (i : Nat) : List Nat :=
  if rg row 8 % 2 = 0 then (wordN row).take ((rg row 9 + 3 * i) % 8 + 1).toNat
  else
    let size := rg row 9 % 8 + 1
    let place := rg row 10 % size
    (wordN row).take place.toNat ++ [lett26 (rg row 11 + (rg row 12 % 6 * 2 + 1) * i)] ++ ((wordN row).take size.toNat).drop (place + 1).toNat
def askN (row : List Int) (i : Nat) : Str := mkS (askL row i)
theorem asks_ok (row : List Int) (hl : row.length = 13) (n : Nat) (hn : n ≤ 100) (S : Sto) : f__law_asks [.v (.lst (row.map D.int)), .v (.int n)] S = .ok (.v (.lst ((List.range n).map fun i => D.str (askN row i)))) S := by
  unfold f__law_asks
  refine runF_eq ?_
  have hI : ∀ i : Int, 0 ≤ i → i < 13 → ∀ k : Int → Prop, wpo (atI row i) k = k (rg row i.toNat) := fun i h0 h1 k => atI_get 0 h0 (by omega)
  simp [m__law_asks, start0]
  refine w_lcV (ds := (row.take 8).map D.int) (src := none) (S1 := S) (fun _ => true) (fun d => match d with | .int x => .str (mkS [lett26 x]) | _ => .non) ?_ ?_ nofun ?_ ?_
  · simp [cutU_map, cutU, HT.sIx]
  · simp; omega
  · intro d hd acc
    obtain ⟨x, hx, rfl⟩ := List.mem_map.mp hd
    simp [wipeE]
    refine ⟨lett_len, ?_⟩
    rw [lett_at]
    rfl
  · have e : ((((row.take 8).map D.int).filter fun _ => true).map fun d => match d with | .int x => D.str (mkS [lett26 x]) | _ => .non) = ((wordN row).map fun c => mkS [c]).map D.str := by
      rw [List.filter_eq_self.mpr (fun _ _ => rfl)]
      simp [wordN, Function.comp_def]
    have hwl : (wordN row).length = 8 := by simp [wordN]; omega
    have hws : (((wordN row).map fun c => mkS [c]).map (·.length)).sum + ((wordN row).map fun c => mkS [c]).length * (Str.ofString "").length ≤ 100 := by
      have e1 : (((wordN row).map fun c => mkS [c]).map (·.length)).sum = ((wordN row).map fun c => mkS [c]).length := sum_ones fun x hx => by
        obtain ⟨y, _, rfl⟩ := List.mem_map.mp hx
        rfl
      have e2 : (Str.ofString "").length = 0 := rfl
      rw [e1, e2]; simp; omega
    rw [e, v_join _ _ (by omega), join_chars]
    refine ⟨by omega, ?_⟩
    refine for_inv (fun i ρ T => ∃ x5 x6 x7 x8 x9 x10, ρ = [some (.v (.lst (row.map D.int))), some (.v (.int n)), some (.v (.str "abcdefghijklmnopqrstuvwxyz")), some (.v (.str (mkS (wordN row)))), some (.r S.length), x5, x6, x7, x8, x9, x10] ∧
      T = S ++ [.lst (((List.range i).map fun i => D.str (askN row i)).map U.v)]) ⟨none, none, none, none, none, none, rfl, rfl⟩ ?_ ?_
    · rintro i u ρ T hu ⟨x5, x6, x7, x8, x9, x10, rfl, rfl⟩
      obtain ⟨hi, rfl⟩ := rngU_get hu
      simp [hI, isL_r, hwl]
      split
      · rename_i hp
        refine ⟨by omega, ?_⟩
        rw [cut_hi _ _ (by omega)]
        simp [List.range_succ, askN, askL, hp]
      · rename_i hp
        have hsz : 0 < rg row 9 % 8 + 1 := by omega
        have hpl : 0 ≤ rg row 10 % (rg row 9 % 8 + 1) := Int.emod_nonneg _ (by omega)
        have hpl2 : rg row 10 % (rg row 9 % 8 + 1) < rg row 9 % 8 + 1 := Int.emod_lt_of_pos _ hsz
        refine ⟨by omega, .inr (by omega), lett_len, ?_⟩
        rw [lett_at]
        rw [cut_hi _ _ hpl, cut_mid _ _ _ (by omega) (by omega)]
        simp only [show (⟨#[lett26 (rg row 11 + (rg row 12 % 6 * 2 + 1) * i)]⟩ : Str) = mkS [lett26 (rg row 11 + (rg row 12 % 6 * 2 + 1) * i)] from rfl, mkS_app, mkS_len]
        refine ⟨by simp; omega, by simp; omega, by omega, ?_⟩
        simp [List.range_succ, askN, askL, hp]
    · rintro ρ T ⟨x5, x6, x7, x8, x9, x10, rfl, rfl⟩
      simp only [rngU_len, getv_s, getv_0]
      rw [fin_l0]
/-- an ask -/
def AskS (z : Str) : Prop := 1 ≤ z.length ∧ z.length ≤ 8 ∧ ∀ c ∈ z.cps.toList, 97 ≤ c ∧ c ≤ 122
theorem lett26_bd (x : Int) : 97 ≤ lett26 x ∧ lett26 x ≤ 122 := by unfold lett26; omega
theorem word_bd (row : List Int) : ∀ c ∈ wordN row, 97 ≤ c ∧ c ≤ 122 := by
  intro c hc
  obtain ⟨x, _, rfl⟩ := List.mem_map.mp hc
  exact lett26_bd x
theorem askN_ok (row : List Int) (hl : row.length = 13) (i : Nat) : AskS (askN row i) := by
  have hwl : (wordN row).length = 8 := by simp [wordN]; omega
  unfold AskS askN
  rw [mkS_len, mkS_cps]
  unfold askL
  split
  · refine ⟨by simp; omega, by simp; omega, fun c hc => word_bd row c (List.mem_of_mem_take hc)⟩
  · have hsz : 0 < rg row 9 % 8 + 1 := by omega
    have hpl : 0 ≤ rg row 10 % (rg row 9 % 8 + 1) := Int.emod_nonneg _ (by omega)
    have hpl2 : rg row 10 % (rg row 9 % 8 + 1) < rg row 9 % 8 + 1 := Int.emod_lt_of_pos _ hsz
    refine ⟨by simp; omega, by simp; omega, fun c hc => ?_⟩
    simp only [List.mem_append, List.mem_singleton] at hc
    rcases hc with (hc | hc) | hc
    · exact word_bd row c (List.mem_of_mem_take hc)
    · rw [hc]; exact lett26_bd _
    · exact word_bd row c (List.mem_of_mem_take (List.mem_of_mem_drop hc))
theorem askN_inj (row : List Int) (hl : row.length = 13) (i j : Nat) (hi : i < 8) (hj : j < 8) (h : askN row i = askN row j) : i = j := by
  have hwl : (wordN row).length = 8 := by simp [wordN]; omega
  have h := mkS_inj h
  unfold askL at h
  split at h
  · have e := congrArg List.length h
    simp only [List.length_take, hwl] at e
    omega
  · have hsz : 0 < rg row 9 % 8 + 1 := by omega
    have hpl : 0 ≤ rg row 10 % (rg row 9 % 8 + 1) := Int.emod_nonneg _ (by omega)
    simp only [List.append_assoc, List.singleton_append] at h
    have h2 := List.append_cancel_left h
    injection h2 with h3 _
    unfold lett26 at h3
    have h4 : (rg row 11 + (rg row 12 % 6 * 2 + 1) * i) % 26 = (rg row 11 + (rg row 12 % 6 * 2 + 1) * j) % 26 := by omega
    have h5 : rg row 12 % 6 = 0 ∨ rg row 12 % 6 = 1 ∨ rg row 12 % 6 = 2 ∨ rg row 12 % 6 = 3 ∨ rg row 12 % 6 = 4 ∨ rg row 12 % 6 = 5 := by omega
    rcases h5 with h5 | h5 | h5 | h5 | h5 | h5 <;> rw [h5] at h4 <;> omega
end Mi
/-! Plain: order of data; in_order. -/
namespace Mi
open PySem Pu L2
/-- a kind of data with an order that < tells -/
structure OrdOn (T : D → Prop) (lt : D → D → Prop) : Prop where
  irr : ∀ a, ¬ lt a a
  tr : ∀ a b c, lt a b → lt b c → lt a c
  tot : ∀ a b, T a → T b → ¬ lt a b → a ≠ b → lt b a
  dat : ∀ a, T a → isDat a = true
  ev : ∀ a b, T a → T b → ∀ (S : Sto) (q : U → Sto → Prop) [Decidable (lt a b)], wpO (fLtD (.v a) (.v b) S) q = q (.v (.bl (decide (lt a b)))) S
theorem v_ltI (i j : Int) (S : Sto) (q : U → Sto → Prop) : wpO (fLtD (.v (.int i)) (.v (.int j)) S) q = q (.v (.bl (decide (i < j)))) S := by
  rw [v_ltD (p := .int i) (r := .int j) rfl rfl (by simp) (by simp) (by simp [PySem.W.alike]) (by simp), PySem.W.dataLt_int]
/-- the order of data -/
def dlt (a b : D) : Prop := PySem.W.dataLt (encD a) (encD b) = true
instance (a b : D) : Decidable (dlt a b) := by unfold dlt; infer_instance
/-- data of one form -/
structure Form (T : D → Prop) : Prop where
  dat : ∀ a, T a → isDat a = true
  al : ∀ a b, T a → T b → PySem.W.alike (encD a) (encD b) = true
  nn : ∀ a, T a → a ≠ .non
theorem enc_of {a : D} (h : isDat a = true) : pyOf a = some (encD a) := by
  obtain ⟨k, e, _⟩ := py_of h
  unfold encD
  rw [e]; rfl
theorem dlt_irr (a : D) : ¬ dlt a a := by
  unfold dlt PySem.W.dataLt
  rw [PyProof.Rows.lex_irrefl]; simp
theorem dlt_tr (a b c : D) : dlt a b → dlt b c → dlt a c := PyProof.Rows.lex_trans _ _ _
theorem Form.ord {T : D → Prop} (F : Form T) : OrdOn T dlt where
  irr := dlt_irr
  tr := dlt_tr
  dat := F.dat
  tot := fun a b ha hb h1 h2 => by
    have e1 := enc_of (F.dat a ha)
    have e2 := enc_of (F.dat b hb)
    have al := F.al a b ha hb
    have hne : PyData.eqv (encD a) (encD b) = false := by
      cases e : PyData.eqv (encD a) (encD b) with
      | false => rfl
      | true => exact absurd (py_inj e1 (by rw [(py_eqv e1 e2).mp e]; exact e2)) h2
    have ht := (PySem.W.toks_eqv _ _ al).2 hne
    have hk : PySem.W.keyToks (encD a) ≠ PySem.W.keyToks (encD b) := fun z => by
      have t1 := ht [] [.inl 0]
      have t2 := ht [.inl 0] []
      rw [z] at t1 t2
      rw [PySem.W.lex_pre] at t1 t2
      have := t1.trans t2.symm
      simp [PyProof.Rows.lexLt] at this
    unfold dlt PySem.W.dataLt at h1 ⊢
    cases e : PyProof.Rows.lexLt PyProof.Rows.itemOrd (PySem.W.keyToks (encD b)) (PySem.W.keyToks (encD a)) with
    | true => rfl
    | false => exact absurd (PyProof.Rows.lex_total _ _ (by simpa using h1) e) hk
  ev := fun a b ha hb S q _ => by
    rw [v_ltD (enc_of (F.dat a ha)) (enc_of (F.dat b hb)) (F.dat a ha) (F.dat b hb) (F.al a b ha hb) (F.nn a ha)]
    congr 3
    by_cases h : dlt a b
    · rw [decide_eq_true h]; exact h
    · rw [decide_eq_false h]; simpa [dlt] using h
open Classical in
theorem in_order_ok {T : D → Prop} {lt : D → D → Prop} (O : OrdOn T lt) (ds : List D) (u : U) (S : Sto) (hu : asSeq S u = some (ds.map U.v)) (hT : ∀ d ∈ ds, T d) (hl : ds.length ≤ 2000) :
    ∃ es, f_in_order [u] S = .ok (.v (.lst es)) S ∧ es.Pairwise lt ∧ ∀ d, d ∈ es ↔ d ∈ ds := by
  unfold f_in_order
  suffices h : wpr (runF 6 m_in_order [u] S) (fun v T' => ∃ es : List D, v = .v (.lst es) ∧ T' = S ∧ es.Pairwise lt ∧ ∀ d, d ∈ es ↔ d ∈ ds) (fun _ _ _ => False) by
    obtain ⟨v, T', e, es, rfl, rfl, h1, h2⟩ := wpr_iff.mp h
    exact ⟨es, e, h1, h2⟩
  rw [wp_runF]
  simp [m_in_order, start0]
  unfold seqV
  rw [asSeq_app _ hu]
  simp only
  refine for_inv (fun i ρ T' => ∃ x2 x3 x4 x5 es, ρ = [some u, some (.r S.length), x2, x3, x4, x5] ∧ T' = S ++ [.lst (es.map U.v)] ∧ es.length ≤ i ∧ es.Pairwise lt ∧ ∀ d, d ∈ es ↔ d ∈ ds.take i) ⟨none, none, none, none, [], rfl, rfl, by simp, by simp, by simp⟩ ?_ ?_
  · rintro i w ρ T' hw ⟨x2, x3, x4, x5, es, rfl, rfl, hln, hp, hm⟩
    rw [List.getElem?_map, Option.map_eq_some_iff] at hw
    obtain ⟨d, hd, rfl⟩ := hw
    have hTd := hT d (List.mem_of_getElem? hd)
    have hi : i < ds.length := (List.getElem?_eq_some_iff.mp hd).1
    have hTe : ∀ e ∈ es, T e := fun e he => hT e (List.mem_of_mem_take ((hm e).mp he))
    have hget : ∀ (j : Nat), j < es.length → ∃ e, es[j]? = some e ∧ e ∈ es := fun j hj => ⟨es[j], List.getElem?_eq_getElem hj, List.getElem_mem hj⟩
    simp
    refine s_while _ _ (fun n ρ T' => ∃ (x5 : Option U) (lo hi : Nat), ρ = [some u, some (.r S.length), some (.v d), some (.v (.int lo)), some (.v (.int hi)), x5] ∧ T' = S ++ [.lst (es.map U.v)] ∧ lo ≤ hi ∧ hi ≤ es.length ∧ n = hi - lo ∧
      (∀ j e, j < lo → es[j]? = some e → lt e d) ∧ (∀ j e, hi ≤ j → es[j]? = some e → ¬ lt e d)) es.length ⟨x5, 0, es.length, rfl, rfl, by omega, by omega, by omega, by intro j e h; omega, fun j e h1 h2 => by rw [List.getElem?_eq_none h1] at h2; cases h2⟩ ?_
    rintro n ρ T' ⟨x5, lo, hi, rfl, rfl, h1, h2, h3, h4, h5⟩
    simp only [w_tB, w_op, w_var, getv_s, getv_0, v_ltI, isBl_b]
    by_cases hlt : (lo : Int) < hi
    · simp only [hlt, decide_true, if_true]
      obtain ⟨mid, hmid, hm1, hm2⟩ : ∃ mid : Nat, ((lo : Int) + hi) / 2 = mid ∧ lo ≤ mid ∧ mid < hi := ⟨(lo + hi) / 2, by omega, by omega, by omega⟩
      obtain ⟨e, he, hem⟩ := hget mid (by omega)
      simp [hmid, Pu.atI_nat, he, O.ev e d (hTe e hem) hTd]
      by_cases hed : lt e d
      · simp only [hed, if_true]
        refine ⟨hi - (mid + 1), by omega, some (.v (.int mid)), mid + 1, hi, ⟨by simp, rfl, rfl⟩, by omega, h2, rfl, fun j e' hj hj2 => ?_, h5⟩
        by_cases hjm : j = mid
        · subst hjm; rw [he] at hj2; cases hj2; exact hed
        · obtain ⟨hjl, hje⟩ := List.getElem?_eq_some_iff.mp hj2
          obtain ⟨hml, hme⟩ := List.getElem?_eq_some_iff.mp he
          have := List.pairwise_iff_getElem.mp hp j mid hjl hml (by omega)
          rw [hje, hme] at this
          exact O.tr _ _ _ this hed
      · simp only [hed, if_false]
        refine ⟨mid - lo, by omega, some (.v (.int mid)), lo, mid, ⟨rfl, rfl, rfl⟩, by omega, by omega, rfl, h4, fun j e' hj hj2 => ?_⟩
        by_cases hjm : j = mid
        · subst hjm; rw [he] at hj2; cases hj2; exact hed
        · obtain ⟨hjl, hje⟩ := List.getElem?_eq_some_iff.mp hj2
          obtain ⟨hml, hme⟩ := List.getElem?_eq_some_iff.mp he
          have := List.pairwise_iff_getElem.mp hp mid j hml hjl (by omega)
          rw [hje, hme] at this
          exact fun z => hed (O.tr _ _ _ this z)
    · simp only [hlt, decide_false, Bool.false_eq_true, if_false]
      have hlh : lo = hi := by omega
      subst hlh
      have hso := fun l l' => src_app (S := S) l l' hu
      have htk : ds.take (i + 1) = ds.take i ++ [d] := by rw [List.take_succ, hd]; rfl
      have hbef : ∀ a ∈ es.take lo, lt a d := fun a ha => by
        obtain ⟨j, hj, rfl⟩ := List.mem_take_iff_getElem.mp ha
        exact h4 j _ (by omega) (List.getElem?_eq_getElem _)
      have haft : ∀ a ∈ es.drop lo, ¬ lt a d := fun a ha => by
        obtain ⟨j, hj, rfl⟩ := List.mem_drop_iff_getElem.mp ha
        exact h5 (lo + j) _ (by omega) (List.getElem?_eq_getElem _)
      have hmem : ∀ a, a ∈ es ↔ a ∈ es.take lo ∨ a ∈ es.drop lo := fun a => by rw [← List.mem_append, List.take_append_drop]
      have hins : d ∉ es → ∃ es' : List D, List.take lo (es.map U.v) ++ U.v d :: List.drop lo (es.map U.v) = es'.map U.v ∧ es'.length ≤ i + 1 ∧ es'.Pairwise lt ∧ ∀ d', d' ∈ es' ↔ d' ∈ ds.take (i + 1) := fun hnd => by
        refine ⟨es.take lo ++ d :: es.drop lo, by simp [List.map_take, List.map_drop], by simp; omega, ?_, fun d' => ?_⟩
        · rw [List.pairwise_append, List.pairwise_cons]
          have hda : ∀ b ∈ es.drop lo, lt d b := fun b hb => O.tot b d (hTe b ((hmem b).mpr (.inr hb))) hTd (haft b hb) (fun e => hnd (by rw [← e]; exact (hmem b).mpr (.inr hb)))
          refine ⟨hp.sublist (List.take_sublist _ _), ⟨hda, hp.sublist (List.drop_sublist _ _)⟩, fun a ha b hb => ?_⟩
          rcases List.mem_cons.mp hb with e | e
          · subst e; exact hbef a ha
          · exact O.tr _ _ _ (hbef a ha) (hda b e)
        · rw [htk, List.mem_append, List.mem_append, List.mem_singleton, List.mem_cons, ← hm, hmem]
          constructor
          · rintro (h | h | h)
            · exact .inl (.inl h)
            · exact .inr h
            · exact .inl (.inr h)
          · rintro ((h | h) | h)
            · exact .inl h
            · exact .inr (.inr h)
            · exact .inr (.inl h)
      simp [isL_r]
      split
      · rename_i hll
        have hll2 : lo = es.length := by omega
        have hnd : d ∉ es := fun hde => by
          rcases (hmem d).mp hde with h | h
          · exact O.irr d (hbef d h)
          · rw [hll2] at h; simp at h
        obtain ⟨es', e1, e2, e3, e4⟩ := hins hnd
        rw [e1]
        exact ⟨⟨by omega, by omega⟩, hso _ _, es', rfl, e2, e3, e4⟩
      · rename_i hll
        obtain ⟨e, he, hem⟩ := hget lo (by omega)
        simp [Pu.atI_nat, he, v_ne (O.dat e (hTe e hem)) (O.dat d hTd), isL_r]
        by_cases hed : e = d
        · subst hed
          simp
          refine ⟨hso _ _, es, rfl, by omega, hp, fun d' => ?_⟩
          rw [htk, List.mem_append, List.mem_singleton, ← hm]
          exact ⟨.inl, fun h => h.elim id fun h => by rw [h]; exact hem⟩
        · simp [hed]
          have hnd : d ∉ es := fun hde => by
            obtain ⟨j, hj, hje⟩ := List.mem_iff_getElem.mp hde
            obtain ⟨hlol, hloe⟩ := List.getElem?_eq_some_iff.mp he
            by_cases hjl : j < lo
            · exact O.irr d (h4 j d hjl (by rw [List.getElem?_eq_getElem hj, hje]))
            · by_cases hjo : j = lo
              · subst hjo; exact hed (by rw [← hloe, hje])
              · have := List.pairwise_iff_getElem.mp hp lo j hlol hj (by omega)
                rw [hloe, hje] at this
                exact h5 lo e (Nat.le_refl _) he this
          obtain ⟨es', e1, e2, e3, e4⟩ := hins hnd
          rw [e1]
          exact ⟨⟨by omega, by omega⟩, hso _ _, es', rfl, e2, e3, e4⟩
  · rintro ρ T' ⟨x2, x3, x4, x5, es, rfl, rfl, hln, hp, hm⟩
    simp only [List.length_map] at hm
    simp only [getv_s, getv_0]
    rw [fin_l0]
    refine ⟨es, rfl, rfl, hp, fun d => ?_⟩
    rw [hm]; simp

/-! ### ints, steps -/
def isI (d : D) : Prop := ∃ i : Int, d = .int i
theorem form_i : Form isI where
  dat := by rintro _ ⟨i, rfl⟩; simp
  al := by rintro _ _ ⟨i, rfl⟩ ⟨j, rfl⟩; rfl
  nn := by rintro _ ⟨i, rfl⟩; simp
theorem dlt_i (i j : Int) : dlt (.int i) (.int j) ↔ i < j := by
  unfold dlt
  show PySem.W.dataLt (.int i) (.int j) = true ↔ _
  rw [PySem.W.dataLt_int]; simp
abbrev St3 := Int × Str × Int
def stD (s : St3) : D := .tup [.int s.1, .str s.2.1, .int s.2.2]
theorem stD_inj {a b : St3} (h : stD a = stD b) : a = b := by
  obtain ⟨a1, a2, a3⟩ := a
  obtain ⟨b1, b2, b3⟩ := b
  simpa [stD] using h
def isSt (d : D) : Prop := ∃ s : St3, d = stD s
theorem form_st : Form isSt where
  dat := by rintro _ ⟨i, rfl⟩; simp [stD]
  al := by rintro _ _ ⟨i, rfl⟩ ⟨j, rfl⟩; rfl
  nn := by rintro _ ⟨i, rfl⟩; simp [stD]
theorem dlt_st (a b : St3) : dlt (stD a) (stD b) ↔ a.1 < b.1 ∨ (a.1 = b.1 ∧ (a.2.1.cps.toList < b.2.1.cps.toList ∨ (a.2.1 = b.2.1 ∧ a.2.2 < b.2.2))) := by
  unfold dlt
  show PySem.W.dataLt (.tuple [.int a.1, .str a.2.1, .int a.2.2]) (.tuple [.int b.1, .str b.2.1, .int b.2.2]) = true ↔ _
  rw [PySem.W.dataLt_tuple, PySem.W.dataLt_cons (by rfl), PySem.W.dataLt_cons (by rfl), PySem.W.dataLt_cons (by rfl), PySem.W.dataLt_int, PySem.W.dataLt_int, PySem.W.dataLt_str, PyProof.Rows.lex_irrefl]
  simp only [PyData.eqv, beq_iff_eq]
  by_cases h1 : a.1 = b.1 <;> by_cases h2 : a.2.1 = b.2.1 <;> by_cases h3 : a.2.2 = b.2.2 <;> simp [h1, h2, h3]
  exact fun h => absurd h (Array.lt_irrefl _)
end Mi
/-! Plain: machines are made. -/
namespace Mi
open PySem Pu L2
theorem is_ask_ok (z : Str) (h : AskS z) (S : Sto) : f_is_ask [.v (.str z)] S = .ok (.v (.bl true)) S := by
  unfold f_is_ask
  refine runF_eq ?_
  obtain ⟨h1, h2, h3⟩ := h
  have e1 : ¬ ((z.length : Int) < 1) := by omega
  have e2 : ¬ ((8 : Int) < z.length) := by omega
  have e4 : z.length ≤ 100000 := by omega
  simp [m_is_ask, start0, e1, e2, e4]
  refine w_lcV (ds := z.cps.toList.map fun c => D.str (mkS [c])) (src := none) (S1 := S) (fun _ => true) (fun _ => .bl true) ?_ ?_ nofun ?_ ?_
  · simp [chrs]; exact fun _ _ => rfl
  · have e3 : z.cps.toList.length = z.length := by simp; rfl
    rw [List.length_map, e3]; omega
  · intro d hd acc
    obtain ⟨c, hc, rfl⟩ := List.mem_map.mp hd
    have hc2 := h3 c hc
    simp [wipeE]
    have hin : c ∈ lettT.cps.toList := by
      rw [lett_l]
      refine List.mem_map.mpr ⟨c - 97, by simp; omega, by omega⟩
    show wpO (fInX false (.v (.str ⟨⟨[c]⟩⟩)) (.v (.str lettT)) _) _
    unfold fInX asDic fIn
    simp only
    show _ ∧ _
    refine ⟨?_, rfl⟩
    simp only [cond_false]
    rw [decide_eq_true hin]
  · have e : (((z.cps.toList.map fun c => D.str (mkS [c])).filter fun _ => true).map fun _ => D.bl true) = (z.cps.toList.map fun _ => true).map D.bl := by
      rw [List.filter_eq_self.mpr (fun _ _ => rfl)]
      simp [Function.comp_def]
    rw [e, v_all]
    simp
theorem src_so {S : Sto} {u : U} {xs : List U} (h : asSeq S u = some xs) : srcOk (srcOf u) ((srcOf u).bind fun n => S[n]?) S := by
  have := src_app (S := S) [] [] h
  simpa using this
theorem check_parts_ok (size : Int) (marks : List Int) (steps : List St3) (mu su : U) (S : Sto) (hm : asSeq S mu = some ((marks.map D.int).map U.v)) (hs : asSeq S su = some ((steps.map stD).map U.v)) (h1 : 1 ≤ size) (h2 : size ≤ 200) (h3 : ∀ m ∈ marks, 0 ≤ m ∧ m < size)
    (h4 : ∀ s ∈ steps, 0 ≤ s.1 ∧ s.1 < size ∧ 0 ≤ s.2.2 ∧ s.2.2 < size ∧ AskS s.2.1) : f_check_parts [.v (.int size), mu, su] S = .ok (.v .non) S := by
  unfold f_check_parts
  refine runF_eq ?_
  have e1 : ¬ (size < 1) := by omega
  have e2 : ¬ (200 < size) := by omega
  simp [m_check_parts, start0, e1, e2, seqV_at0 hm]
  refine for_inv (fun i ρ T => ∃ x, ρ = [some (.v (.int size)), some mu, some su, x, none, none, none] ∧ T = S) ⟨_, rfl, rfl⟩ ?_ ?_
  · rintro i u ρ T hu ⟨x, rfl, rfl⟩
    obtain ⟨m, hm1, rfl, _⟩ := data_get2 hu
    have hb := h3 m (List.mem_of_getElem? hm1)
    have b1 : ¬ m < 0 := by omega
    have b2 : ¬ size ≤ m := by omega
    simp [b1, b2]
    exact src_so hm
  · rintro ρ T ⟨x, rfl, rfl⟩
    simp [seqV_at0 hs]
    refine for_inv (fun i ρ T' => ∃ x y z, ρ = [some (.v (.int size)), some mu, some su, _, x, y, z] ∧ T' = T) ⟨_, _, _, rfl, rfl⟩ ?_ ?_
    · rintro i u ρ T' hu ⟨x, y, z, rfl, rfl⟩
      obtain ⟨s, hs1, rfl, _⟩ := data_get2 hu
      obtain ⟨b1, b2, b3, b4, b5⟩ := h4 s (List.mem_of_getElem? hs1)
      have c1 : ¬ s.1 < 0 := by omega
      have c2 : ¬ size ≤ s.1 := by omega
      have c3 : ¬ s.2.2 < 0 := by omega
      have c4 : ¬ size ≤ s.2.2 := by omega
      simp [stD, c1, c2, c3, c4, is_ask_ok _ b5]
      exact src_so hs
    · rintro ρ T' ⟨x, y, z, rfl, rfl⟩
      simp
/-! ### ends by ask -/
def keyS (s : Int) (a : Str) : D := .tup [.int s, .str a]
theorem keyS_key (s : Int) (a : Str) : isKey (keyS s a) = true := by simp [keyS]
theorem keyS_inj {s s' : Int} {a a' : Str} : keyS s a = keyS s' a' ↔ s = s' ∧ a = a' := by simp [keyS]
noncomputable def ends1 (acc : List (D × D)) (s : St3) : List (D × D) := dputD acc (keyS s.1 s.2.1) (.tup ((match dgetD acc (keyS s.1 s.2.1) with | some (.tup es) => es | _ => []) ++ [.int s.2.2]))
noncomputable def endsD (steps : List St3) : List (D × D) := steps.foldl ends1 []
/-- the ends of an ask in a state -/
def endsL (steps : List St3) (s : Int) (a : Str) : List Int := (steps.filter fun t => decide (t.1 = s ∧ t.2.1 = a)).map (·.2.2)
def endsT (es : List Int) : Option D := if es = [] then none else some (.tup (es.map D.int))
theorem ends_get (s : Int) (a : Str) : ∀ (steps pre : List St3) (acc : List (D × D)), (∀ s a, dgetD acc (keyS s a) = endsT (endsL pre s a)) → dgetD (steps.foldl ends1 acc) (keyS s a) = endsT (endsL (pre ++ steps) s a)
  | [], pre, acc, h => by simpa using h s a
  | t :: r, pre, acc, h => by
    rw [List.foldl_cons, ends_get s a r (pre ++ [t])]
    · simp
    · intro s a
      unfold ends1
      rw [dgetD_put, h]
      unfold endsL
      rw [List.filter_append, List.map_append]
      by_cases e : keyS s a = keyS t.1 t.2.1
      · obtain ⟨rfl, rfl⟩ := keyS_inj.mp e
        rw [if_pos rfl]
        simp only [List.filter_cons, and_self, decide_true, if_true, List.filter_nil, List.map_cons, List.map_nil]
        unfold endsT
        have hne : ∀ l : List Int, l ++ [t.2.2] ≠ [] := by intro l; simp
        rw [if_neg (hne _)]
        split
        · rename_i es hes
          split at hes
          · cases hes
          · cases hes; simp
        · rename_i hes
          split at hes
          · rename_i h0; rw [h0]; rfl
          · rename_i h0; exact absurd rfl (hes _)
      · rw [if_neg e, h]
        have : ¬ (t.1 = s ∧ t.2.1 = a) := fun z => e (keyS_inj.mpr ⟨z.1.symm, z.2.symm⟩)
        rw [List.filter_cons, if_neg (by simpa using this)]
        simp [endsL]
theorem endsD_get (steps : List St3) (s : Int) (a : Str) : dgetD (endsD steps) (keyS s a) = endsT (endsL steps s a) := by
  have := ends_get s a steps [] [] (fun s a => by simp [endsL, endsT, dgetD_nil])
  rw [List.nil_append] at this
  exact this
theorem endsD_getD (steps : List St3) (s : Int) (a : Str) : (dgetD (endsD steps) (keyS s a)).getD (.tup []) = .tup ((endsL steps s a).map D.int) := by
  rw [endsD_get]
  unfold endsT
  split
  · rename_i h; rw [h]; rfl
  · rfl
theorem ends1_len (acc : List (D × D)) (s : St3) : (ends1 acc s).length ≤ acc.length + 1 := dputD_len _ _ _
theorem endsF_len : ∀ (steps : List St3) (acc : List (D × D)), (steps.foldl ends1 acc).length ≤ acc.length + steps.length
  | [], acc => by simp
  | s :: r, acc => by
    have h1 := ends1_len acc s
    have h2 := endsF_len r (ends1 acc s)
    simp only [List.foldl_cons, List.length_cons]; omega
theorem ends_by_ask_ok (steps : List St3) (u : U) (S : Sto) (hu : asSeq S u = some ((steps.map stD).map U.v)) (hl : steps.length ≤ 2000) : f_ends_by_ask [u] S = .ok (.v (.dic (endsD steps))) S := by
  unfold f_ends_by_ask
  refine runF_eq ?_
  simp [m_ends_by_ask, start0, seqV_at _ hu]
  refine for_inv (fun i ρ T => ∃ x y z, ρ = [some u, some (.r S.length), x, y, z] ∧ T = S ++ [.dic (((steps.take i).foldl ends1 []).map vv)]) ⟨none, none, none, rfl, rfl⟩ ?_ ?_
  · rintro i w ρ T hw ⟨x, y, z, rfl, rfl⟩
    obtain ⟨s, hs1, rfl, _⟩ := data_get2 hw
    have hi : i < steps.length := (List.getElem?_eq_some_iff.mp hs1).1
    have hd : ∀ kvs : List (D × D), (S ++ [Cell.dic (kvs.map vv)])[S.length]? = some (.dic (kvs.map vv)) := fun kvs => by simp
    have htk : (steps.take (i + 1)).foldl ends1 [] = ends1 ((steps.take i).foldl ends1 []) s := by
      rw [List.take_succ, hs1]; simp
    have hlen := endsF_len (steps.take i) []
    rw [htk]
    generalize hacc : (steps.take i).foldl ends1 [] = acc at hlen ⊢
    have hget : (dgetD acc (keyS s.1 s.2.1)).getD (.tup []) = .tup ((endsL (steps.take i) s.1 s.2.1).map D.int) := by
      rw [← hacc]; exact endsD_getD _ _ _
    have hel : (endsL (steps.take i) s.1 s.2.1).length ≤ i := by
      unfold endsL
      rw [List.length_map]
      refine Nat.le_trans (List.length_filter_le _ _) ?_
      simp; omega
    have hval : (match dgetD acc (keyS s.1 s.2.1) with | some (.tup es) => es | _ => []) = (endsL (steps.take i) s.1 s.2.1).map D.int := by
      have e := endsD_get (steps.take i) s.1 s.2.1
      unfold endsD at e
      rw [hacc] at e
      rw [e]
      unfold endsT
      split
      · rename_i es h
        split at h
        · cases h
        · cases h; rfl
      · rename_i h
        split at h
        · rename_i h0; rw [h0]; rfl
        · exact absurd rfl (h _)
    have hkey := keyS_key s.1 s.2.1
    simp [stD, isDc_c (hd acc), v_getC (hd acc)]
    rw [show D.tup [D.int s.1, D.str s.2.1] = keyS s.1 s.2.1 from rfl, hget]
    simp
    refine ⟨by omega, ?_⟩
    rw [show keyS s.1 s.2.1 = D.tup [D.int s.1, D.str s.2.1] from rfl, v_setC (hd acc)]
    refine ⟨⟨hkey, by simp at hlen; omega⟩, ?_, ?_⟩
    · simp only [set_0]; exact src_app _ _ hu
    · simp only [set_0, List.set_cons_zero]
      unfold ends1
      rw [hval]; rfl
  · rintro ρ T ⟨x, y, z, rfl, rfl⟩
    simp
    exact fin_d0
/-! ### machines -/
def mFs (size : Int) (marks : List Int) (steps : List D) (ends : List (D × D)) (now : Int) : List (Str × D) := [("size", .int size), ("marks", .tup (marks.map D.int)), ("steps", .tup steps), ("ends", .dic ends), ("place", .int now)]
/-- the record of a machine -/
noncomputable def mRec (size : Int) (marks : List Int) (steps : List St3) (now : Int) : List (Str × D) := mFs size marks (steps.map stD) (endsD steps) now
structure Sorted (T : D → Prop) (xs ys : List D) : Prop where
  asc : ys.Pairwise dlt
  mem : ∀ d, d ∈ ys ↔ d ∈ xs
/-- what a machine's parts must be -/
structure OkParts (size : Int) (marks0 marks : List Int) (steps0 steps : List St3) (now : Int) : Prop where
  s1 : 1 ≤ size
  s2 : size ≤ 200
  m0 : ∀ m ∈ marks0, 0 ≤ m ∧ m < size
  t0 : ∀ s ∈ steps0, 0 ≤ s.1 ∧ s.1 < size ∧ 0 ≤ s.2.2 ∧ s.2.2 < size ∧ AskS s.2.1
  ml : marks0.length ≤ 2000
  tl : steps0.length ≤ 2000
  n0 : 0 ≤ now
  n1 : now < size
  ma : (marks.map D.int).Pairwise dlt
  mm : ∀ m, m ∈ marks ↔ m ∈ marks0
  ta : (steps.map stD).Pairwise dlt
  tm : ∀ t, t ∈ steps ↔ t ∈ steps0
  t6 : steps.length ≤ 600
theorem in_order_eq {T : D → Prop} (F : Form T) (xs ys : List D) (u : U) (S : Sto) (hu : asSeq S u = some (xs.map U.v)) (hT : ∀ d ∈ xs, T d) (hl : xs.length ≤ 2000) (ha : ys.Pairwise dlt) (hm : ∀ d, d ∈ ys ↔ d ∈ xs) : f_in_order [u] S = .ok (.v (.lst ys)) S := by
  obtain ⟨es, e, h1, h2⟩ := in_order_ok F.ord xs u S hu hT hl
  rw [e, asc_ext dlt_irr dlt_tr h1 ha fun d => (h2 d).trans (hm d).symm]
theorem init_ok (c : Nat) (hc : c ∈ [12, 13, 14, 17]) (size : Int) (marks0 marks : List Int) (steps0 steps : List St3) (now : Int) (O : OkParts size marks0 marks steps0 steps now) (mu su : U) (S : Sto) (hm : asSeq S mu = some ((marks0.map D.int).map U.v)) (hs : asSeq S su = some ((steps0.map stD).map U.v)) :
    f_Machineu_initu [.r S.length, .v (.int size), mu, su, .v (.int now)] (S ++ [.ins c []]) = .ok (.v .non) (S ++ [.ins c (uFs (mRec size marks steps now))]) := by
  unfold f_Machineu_initu
  refine runF_eq ?_
  have hm1 := asSeq_app [Cell.ins c []] hm
  have hs1 := asSeq_app [Cell.ins c []] hs
  have k1 := check_parts_ok size marks0 steps0 mu su _ hm1 hs1 O.s1 O.s2 O.m0 O.t0
  have hc5 : c ∈ [12, 13, 14, 17, 18] := by
    simp only [List.mem_cons, List.not_mem_nil, or_false] at hc ⊢; omega
  simp [m_Machineu_initu, start0, k1]
  refine w_lcV (ds := steps0.map stD) (src := srcOf su) (S1 := S ++ [.ins c []]) (fun _ => true) (fun d => d) ?_ ?_ ?_ ?_ ?_
  · simp [seqV_at0 hs1]
  · have := O.tl; simp; omega
  · intro n hn
    cases su with
    | v d => cases hn
    | r m =>
      have hn : m = n := by simpa using hn
      subst hn
      unfold asSeq at hs1
      simp only at hs1
      by_cases hlt : m < (S ++ [Cell.ins c []]).length
      · exact hlt
      · rw [List.getElem?_eq_none (by omega)] at hs1; cases hs1
  · intro d hd acc
    obtain ⟨s, hs1, rfl⟩ := List.mem_map.mp hd
    simp [wipeE, stD]
  · have e0 : (((steps0.map stD).filter fun _ => true).map fun d => d) = steps0.map stD := by
      rw [List.filter_eq_self.mpr (fun _ _ => rfl)]; simp
    rw [e0]
    have k2 := in_order_eq form_st (steps0.map stD) (steps.map stD) (.v (.lst (steps0.map stD))) (S ++ [.ins c []]) rfl (fun d hd => by obtain ⟨s, _, rfl⟩ := List.mem_map.mp hd; exact ⟨s, rfl⟩) (by have := O.tl; simp; exact this) O.ta (fun d => by
      simp only [List.mem_map]
      exact ⟨fun ⟨s, h1, h2⟩ => ⟨s, (O.tm s).mp h1, h2⟩, fun ⟨s, h1, h2⟩ => ⟨s, (O.tm s).mpr h1, h2⟩⟩)
    have kl : ¬ ((600 : Int) < (steps.map stD).length) := by have := O.t6; simp; omega
    have n0 : ¬ now < 0 := by have := O.n0; omega
    have n1 : ¬ size ≤ now := by have := O.n1; omega
    have hlt : ¬ (600 < (steps.length : Int)) := by have := O.t6; omega
    have k3 := fun fs => in_order_eq form_i (marks0.map D.int) (marks.map D.int) mu (S ++ [.ins c fs]) (asSeq_app _ hm) (fun d hd => by obtain ⟨s, _, rfl⟩ := List.mem_map.mp hd; exact ⟨s, rfl⟩) (by have := O.ml; simp; exact this) O.ma (fun d => by
      simp only [List.mem_map]
      exact ⟨fun ⟨s, h1, h2⟩ => ⟨s, (O.mm s).mp h1, h2⟩, fun ⟨s, h1, h2⟩ => ⟨s, (O.mm s).mpr h1, h2⟩⟩)
    have k4 := fun T => ends_by_ask_ok steps (.v (.lst (steps.map stD))) T rfl (by have := O.t6; omega)
    have hcc : c = 12 ∨ c = 13 ∨ c = 14 ∨ c = 17 := by simpa using hc
    have hcc5 : c = 12 ∨ c = 13 ∨ c = 14 ∨ c = 17 ∨ c = 18 := by simpa using hc5
    simp [k2, hlt, n0, n1, k3, k4, putU, hcc, hcc5]
    have := fin_last (S := S) (c0 := Cell.ins c []) (c1 := Cell.ins c (uFs (mRec size marks steps now))) (l := []) (d := .non) (fixC_ins _ _ _ _ _)
    have fin := (show _ = _ from by simpa [uFs, mRec, mFs] using this)
    first
      | exact ⟨O.n0, O.n1, fin⟩
      | exact fin
theorem service_ok (size : Int) (marks0 marks : List Int) (steps0 steps : List St3) (now : Int) (O : OkParts size marks0 marks steps0 steps now) (mu su : U) (S : Sto) (hm : asSeq S mu = some ((marks0.map D.int).map U.v)) (hs : asSeq S su = some ((steps0.map stD).map U.v)) :
    f_Serviceu_initu [.r S.length, .v (.int size), mu, su, .v (.int now)] (S ++ [.ins 13 []]) = .ok (.v .non) (S ++ [.ins 13 (uFs (mRec size marks steps now))]) := by
  refine eq_of_wpr ?_
  unfold f_Serviceu_initu
  simp [init_ok 13 (by simp) size marks0 marks steps0 steps now O mu su S hm hs]
theorem pattern_ok (size : Int) (marks0 marks : List Int) (steps0 steps : List St3) (now : Int) (O : OkParts size marks0 marks steps0 steps now) (mu su : U) (S : Sto) (hm : asSeq S mu = some ((marks0.map D.int).map U.v)) (hs : asSeq S su = some ((steps0.map stD).map U.v)) :
    f_Patternu_initu [.r S.length, .v (.int size), mu, su, .v (.int now)] (S ++ [.ins 14 []]) = .ok (.v .non) (S ++ [.ins 14 (uFs (mRec size marks steps now))]) := by
  refine eq_of_wpr ?_
  unfold f_Patternu_initu
  simp [init_ok 14 (by simp) size marks0 marks steps0 steps now O mu su S hm hs]
theorem now_ok (c : Nat) (hc : c ∈ [12, 13, 14, 17]) (size : Int) (marks : List Int) (steps : List St3) (now : Int) (S : Sto) : f_Machine_now [.v (.ins c (mRec size marks steps now))] S = .ok (.v (.int now)) S := by
  unfold f_Machine_now
  refine runF_eq ?_
  have hcc : c = 12 ∨ c = 13 ∨ c = 14 ∨ c = 17 := by simpa using hc
  simp [m_Machine_now, start0, mRec, mFs, hcc]
end Mi
/-! Plain: k01's own defs. -/
namespace Mi
open PySem Pu L2
/-! ### a climb -/
def climbF (size : Int) : List Int → Int → List Int
  | [], _ => []
  | d :: ds, s => if s < size then s :: climbF size ds (s + 1 + d % 17) else climbF size ds s
theorem climbF_cons (size d : Int) (ds : List Int) (s : Int) : climbF size (d :: ds) s = if s < size then s :: climbF size ds (s + 1 + d % 17) else climbF size ds s := rfl
theorem climbF_bd (size : Int) : ∀ (ds : List Int) (s : Int), ∀ x ∈ climbF size ds s, s ≤ x ∧ x < size
  | [], s, x, h => by simp [climbF] at h
  | d :: ds, s, x, h => by
    unfold climbF at h
    split at h
    · rcases List.mem_cons.mp h with e | e
      · subst e; omega
      · have := climbF_bd size ds _ x e; omega
    · exact climbF_bd size ds s x h
theorem climbF_asc (size : Int) : ∀ (ds : List Int) (s : Int), (climbF size ds s).Pairwise (· < ·)
  | [], s => by simp [climbF]
  | d :: ds, s => by
    unfold climbF
    split
    · rw [List.pairwise_cons]
      exact ⟨fun x h => by have := climbF_bd size ds _ x h; omega, climbF_asc size ds _⟩
    · exact climbF_asc size ds s
theorem climbF_len (size : Int) : ∀ (ds : List Int) (s : Int), (climbF size ds s).length ≤ ds.length
  | [], s => by simp [climbF]
  | d :: ds, s => by
    unfold climbF
    have h1 := climbF_len size ds (s + 1 + d % 17)
    have h2 := climbF_len size ds s
    split <;> simp <;> omega
def climbN (row : List Int) (size : Int) : List Int := climbF size (cutU row (some 2) (some (2 + rg row 1 % 13))) (rg row 0 % size)
theorem cutU_len {α : Type} (xs : List α) (lo hi : Option Int) : (cutU xs lo hi).length ≤ xs.length := by
  unfold cutU; simp; omega
theorem climb_ok (row : List Int) (size : Int) (h : 0 < size) (hl : row.length = 15) (S : Sto) : f__law_climb [.v (.lst (row.map D.int)), .v (.int size)] S = .ok (.v (.lst ((climbN row size).map D.int))) S := by
  unfold f__law_climb
  refine runF_eq ?_
  have hI : ∀ i : Int, 0 ≤ i → i < 15 → ∀ k : Int → Prop, wpo (atI row i) k = k (rg row i.toNat) := fun i h0 h1 k => atI_get 0 h0 (by omega)
  simp [m__law_climb, start0, hI, h]
  have hcl := cutU_len row (some 2) (some (2 + rg row 1 % 13))
  rw [cutU_map]
  unfold climbN
  generalize cutU row (some 2) (some (2 + rg row 1 % 13)) = items at hcl
  generalize rg row 0 % size = s0
  refine for_inv (fun i ρ T => ∃ x acc st, ρ = [some (.v (.lst (row.map D.int))), some (.v (.int size)), some (.r S.length), some (.v (.int st)), x] ∧ T = S ++ [.lst ((acc.map D.int).map U.v)] ∧ acc.length ≤ i ∧ acc ++ climbF size (items.drop i) st = climbF size items s0) ⟨none, [], s0, rfl, rfl, by simp, by simp⟩ ?_ ?_
  · rintro i u ρ T hu ⟨x, acc, st, rfl, rfl, ha, he⟩
    obtain ⟨d, hd, rfl, hdr⟩ := data_get hu
    rw [hdr, climbF_cons] at he
    have hi : i < items.length := (List.getElem?_eq_some_iff.mp hd).1
    simp
    split
    · rename_i hs
      rw [if_pos hs] at he
      simp [isL_r]
      refine ⟨by omega, _, acc ++ [st], st + 1 + d % 17, ⟨rfl, rfl⟩, by simp, by simp; omega, by simpa using he⟩
    · rename_i hs
      rw [if_neg hs] at he
      exact ⟨_, acc, st, ⟨rfl, rfl⟩, rfl, by omega, he⟩
  · rintro ρ T ⟨x, acc, st, rfl, rfl, ha, he⟩
    simp only [List.length_map, List.drop_length, climbF, List.append_nil] at he
    subst he
    simp only [getv_s, getv_0]
    rw [fin_l0]
/-! ### lists by value or as cells -/
section
variable {S : Sto} {u : U} {xs : List D} {q : U → Sto → Prop}
theorem lst_list {l : List U} (h : asLst S u = some l) : asList S u = some l := by
  cases u with
  | v d => cases d <;> first | exact h | cases h
  | r n => exact h
theorem lst_seq {l : List U} (h : asLst S u = some l) : asSeq S u = some l := by
  cases u with
  | v d => cases d <;> first | exact h | cases h
  | r n =>
    unfold asLst at h
    unfold asSeq
    simp only at h ⊢
    cases q : S[n]? with
    | none => rw [q] at h; cases h
    | some c => rw [q] at h; cases c <;> first | exact h | cases h
theorem lst_app {l : List U} (T : Sto) (h : asLst S u = some l) : asLst (S ++ T) u = some l := by
  cases u with
  | v d => cases d <;> first | exact h | cases h
  | r n =>
    unfold asLst at h ⊢
    simp only at h ⊢
    by_cases hn : n < S.length
    · rw [List.getElem?_append_left hn]; exact h
    · rw [List.getElem?_eq_none (by omega)] at h; cases h
theorem v_slA (h : asLst S u = some (xs.map U.v)) (lo hi : Option Int) : wpO (fSl u lo hi S) q = q (.v (.lst (cutU xs lo hi))) S := by
  have h2 := lst_list h
  have e : fSl u lo hi S = (match asList S u with
    | some xs => (allV (cutU xs lo hi)).map fun ds => (.v (.lst ds), S)
    | none => none) := by
    cases u with
    | v d => cases d <;> first | rfl | cases h
    | r n => rfl
  rw [e, h2]
  simp only [cutU_map, allV_map]
  rfl
theorem v_lenA (h : asLst S u = some (xs.map U.v)) : wpO (fLen [u] S) q = q (.v (.int xs.length)) S := by
  rw [v_lenQ _ (by rintro z rfl; cases h), seqV_at0 (lst_seq h)]; simp
theorem v_revA (h : asLst S u = some (xs.map U.v)) : wpO (fRev u S) q = q (.v (.lst xs.reverse)) S := by
  unfold fRev; rw [lst_list h]
  simp only [← List.map_reverse, allV_map]
  rfl
theorem pickU_map {α β : Type} (f : α → β) (xs : List α) (lo hi st : Option Int) : pickU (xs.map f) lo hi st = (pickU xs lo hi st).map f := by
  unfold pickU
  rw [List.length_map, List.map_filterMap]
  congr 1; funext i; simp
theorem v_slKA (k : Int) (h : asLst S u = some (xs.map U.v)) (lo hi : Option Int) (hl : (pickU xs lo hi (some k)).length ≤ 100000) : wpO (fSlK k u lo hi S) q = q (.v (.lst (pickU xs lo hi (some k)))) S := by
  unfold fSlK; rw [lst_list h]
  simp only [pickU_map, List.length_map, allV_map]
  rw [if_pos hl]; rfl
theorem v_addSA {w : U} {ys : List D} (h : asLst S u = some (xs.map U.v)) (h2 : asLst S w = some (ys.map U.v)) (hl : xs.length + ys.length ≤ 100000) : wpO (fAddS u w S) q = q (.r S.length) (S ++ [.lst ((xs ++ ys).map U.v)]) := by
  unfold fAddS; rw [h, h2]
  simp only [List.length_map]
  rw [if_pos hl]; simp
end
@[simp] theorem asLst_v (S : Sto) (xs : List D) : asLst S (.v (.lst xs)) = some (xs.map U.v) := rfl
theorem cutU_lo {α : Type} (xs : List α) (k : Int) (h : 0 ≤ k) : cutU xs (some k) none = xs.drop k.toNat := by
  obtain ⟨n, rfl⟩ := Int.eq_ofNat_of_zero_le h
  unfold cutU
  rw [HT.sIx_nat, HT.sIx_none]
  by_cases hn : n ≤ xs.length
  · rw [Nat.min_eq_left hn, List.take_of_length_le (by simp)]; rfl
  · rw [Nat.min_eq_right (by omega), List.drop_eq_nil_of_le (Nat.le_refl _), List.drop_eq_nil_of_le (by simp; omega)]; simp
theorem cutU_hi {α : Type} (xs : List α) (k : Int) (h : 0 ≤ k) : cutU xs none (some k) = xs.take k.toNat := by
  obtain ⟨n, rfl⟩ := Int.eq_ofNat_of_zero_le h
  unfold cutU
  rw [HT.sIx_nat, HT.sIx_none]
  simp only [List.drop_zero, Nat.sub_zero, Int.toNat_natCast]
  by_cases hn : n ≤ xs.length
  · rw [Nat.min_eq_left hn]
  · rw [Nat.min_eq_right (by omega), List.take_of_length_le (Nat.le_refl _), List.take_of_length_le (by omega)]
theorem pick2a {α : Type} (xs : List α) : pickU xs none none (some 2) = ((List.range ((xs.length + 1) / 2)).map fun k => 2 * k).filterMap fun i => xs[i]? := by
  unfold pickU sliceBounds sliceRange
  have h2 : (2 : Int) > 0 := by decide
  simp only [Option.getD_some, h2, if_true]
  congr 1
  have : (if (0 : Int) < xs.length then ((xs.length : Int) - 0 + 2 - 1) / 2 else 0).toNat = (xs.length + 1) / 2 := by split <;> omega
  rw [this]
  congr 1
  funext k; omega
theorem pick2b {α : Type} (xs : List α) : pickU xs (some 1) none (some 2) = ((List.range (xs.length / 2)).map fun k => 1 + 2 * k).filterMap fun i => xs[i]? := by
  unfold pickU sliceBounds sliceRange
  have h2 : (2 : Int) > 0 := by decide
  have h3 : ¬ (1 : Int) < 0 := by decide
  simp only [Option.getD_some, h2, h3, if_true, if_false]
  cases xs with
  | nil => simp
  | cons x xs =>
    have e1 : max (0 : Int) (min 1 ((x :: xs).length : Int)) = 1 := by simp; omega
    rw [e1]
    congr 1
    have : (if (1 : Int) < (x :: xs).length then (((x :: xs).length : Int) - 1 + 2 - 1) / 2 else 0).toNat = (x :: xs).length / 2 := by split <;> omega
    rw [this]
    congr 1
    first | done | (funext k; omega)
theorem pick2_mem {α : Type} (xs : List α) (d : α) : d ∈ pickU xs none none (some 2) ++ pickU xs (some 1) none (some 2) ↔ d ∈ xs := by
  rw [List.mem_append, pick2a, pick2b, List.mem_filterMap, List.mem_filterMap]
  constructor
  · rintro (⟨i, _, h⟩ | ⟨i, _, h⟩) <;> exact List.mem_of_getElem? h
  · intro h
    obtain ⟨i, hi⟩ := List.getElem?_of_mem h
    have hl := (List.getElem?_eq_some_iff.mp hi).1
    rcases Nat.mod_two_eq_zero_or_one i with e | e
    · exact .inl ⟨i, List.mem_map.mpr ⟨i / 2, by simp; omega, by omega⟩, hi⟩
    · exact .inr ⟨i, List.mem_map.mpr ⟨i / 2, by simp; omega, by omega⟩, hi⟩
theorem pick2a_len {α : Type} (xs : List α) : (pickU xs none none (some 2)).length ≤ xs.length + 1 := by
  rw [pick2a]
  refine Nat.le_trans (List.length_filterMap_le _ _) ?_
  simp; omega
theorem pick2b_len {α : Type} (xs : List α) : (pickU xs (some 1) none (some 2)).length ≤ xs.length + 1 := by
  rw [pick2b]
  refine Nat.le_trans (List.length_filterMap_le _ _) ?_
  simp; omega
theorem shuffled_ok (xs : List D) (u : U) (row : List Int) (S : Sto) (hu : asLst S u = some (xs.map U.v)) (hl : xs.length ≤ 1000) (hr : row.length = 3) :
    ∃ ys : List D, f__law_shuffled [u, .v (.lst (row.map D.int))] S = .ok (.r S.length) (S ++ [.lst (ys.map U.v)]) ∧ (∀ d, d ∈ ys ↔ d ∈ xs) ∧ ys.length ≤ 3 * xs.length + 10 := by
  unfold f__law_shuffled
  suffices h : wpr (runK 4 m__law_shuffled [u, .v (.lst (row.map D.int))] S) (fun v T => ∃ ys : List D, v = .r S.length ∧ T = S ++ [.lst (ys.map U.v)] ∧ (∀ d, d ∈ ys ↔ d ∈ xs) ∧ ys.length ≤ 3 * xs.length + 10) (fun _ _ _ => False) by
    obtain ⟨v, T, e, ys, rfl, rfl, h1, h2⟩ := wpr_iff.mp h
    exact ⟨ys, e, h1, h2⟩
  rw [wp_runK]
  have hI : ∀ i : Int, 0 ≤ i → i < 3 → ∀ k : Int → Prop, wpo (atI row i) k = k (rg row i.toNat) := fun i h0 h1 k => atI_get 0 h0 (by omega)
  -- behind the first if: some list with the same members
  have rest : ∀ (w : U) (x3 : Option U) (zs : List D), asLst S w = some (zs.map U.v) → (∀ d, d ∈ zs ↔ d ∈ xs) → zs.length = xs.length → ∀ m : MS, m = (sSeq (sAsg (eOp fAdd (eSl (fSlK 2) (eVar 2) oNone oNone) (eSl (fSlK 2) (eVar 2) (oSome (eC (.int 1))) oNone)) (gName 2))
      (sSeq (sIf (tB (eOp fEq (eOp (fI gMod) (eCB fInt (aCons (eOp fIxX (eVar 1) (eC (.int 1))) aNil)) (eC (.int 2))) (eC (.int 1))))
      (sAsg (eUn fRev (eVar 2)) (gName 2))
      sNext)
      (sRet (eOp fAddS (eVar 2) (eSl fSl (eVar 0) oNone (oSome (eOp (fI gMod) (eCB fInt (aCons (eOp fIxX (eVar 1) (eC (.int 2))) aNil)) (eC (.int 4))))))))) →
      wps (m [some u, some (.v (.lst (row.map D.int))), some w, x3] S) { rt := fun v T => ∃ ys : List D, v = .r S.length ∧ T = S ++ [.lst (ys.map U.v)] ∧ (∀ d, d ∈ ys ↔ d ∈ xs) ∧ ys.length ≤ 3 * xs.length + 10, nx := fun _ _ => False, ex := fun _ _ _ _ => False } := by
    rintro w x3 zs hw hm hlz m rfl
    have l1 := pick2a_len zs
    have l2 := pick2b_len zs
    have hmem := pick2_mem zs
    simp [v_slKA _ hw _ _ (show (pickU zs none none (some 2)).length ≤ 100000 by omega), v_slKA _ hw _ _ (show (pickU zs (some 1) none (some 2)).length ≤ 100000 by omega), hI]
    refine ⟨by omega, ?_⟩
    have hk : 0 ≤ rg row 2 % 4 := by omega
    split
    · simp [hI, v_slA hu, cutU_hi _ _ hk]
      rw [← List.reverse_append, v_addSA (xs := (pickU zs none none (some 2) ++ pickU zs (some 1) none (some 2)).reverse) (ys := xs.take (rg row 2 % 4).toNat) rfl rfl (by simp; omega)]
      refine ⟨rfl, _, rfl, fun d => ?_, by simp; omega⟩
      rw [List.mem_append, List.mem_reverse, hmem, hm]
      exact ⟨fun h => h.elim id List.mem_of_mem_take, .inl⟩
    · simp [hI, v_slA hu, cutU_hi _ _ hk]
      rw [v_addSA (xs := pickU zs none none (some 2) ++ pickU zs (some 1) none (some 2)) (ys := xs.take (rg row 2 % 4).toNat) rfl rfl (by simp; omega)]
      refine ⟨rfl, _, rfl, fun d => ?_, by simp; omega⟩
      rw [List.mem_append, hmem, hm]
      exact ⟨fun h => h.elim id List.mem_of_mem_take, .inl⟩
  unfold m__law_shuffled
  simp only [s_seq, s_asg, s_if, w_var, w_tB, w_op, w_cb, w_cons, w_nil, w_c, start0, List.map_cons, List.map_nil, List.length_cons, List.length_nil, getv_0, getv_s, w_gName, List.cons_append, List.nil_append, v_lenA hu, v_cmp, isBl_b]
  simp [v_lenA hu]
  split
  · rename_i hp
    simp [hI, v_lenA hu, v_slA hu]
    have hk : 0 ≤ rg row 0 % xs.length := Int.emod_nonneg _ (by omega)
    have hk2 : rg row 0 % xs.length < xs.length := Int.emod_lt_of_pos _ (by omega)
    refine ⟨by omega, ?_⟩
    rw [cutU_lo _ _ hk, cutU_hi _ _ hk]
    refine ⟨by simp; omega, ?_⟩
    have := rest (.v (.lst (xs.drop (rg row 0 % xs.length).toNat ++ xs.take (rg row 0 % xs.length).toNat))) (some (.v (.int (rg row 0 % xs.length)))) _ rfl (fun d => by
      rw [List.mem_append, or_comm, ← List.mem_append, List.take_append_drop]) (by simp; omega) _ rfl
    simpa [hI] using this
  · have := rest u none xs hu (fun d => Iff.rfl) rfl _ rfl
    simpa [hI] using this
end Mi
/-! Plain: k01's machines and what is asked of them. -/
namespace Mi
open PySem Pu L2
section
variable (size : Int) (marks : List Int) (steps : List St3) (now : Int) (k : U → Prop) (kd : List D → Prop)
@[simp ↓] theorem mR_size : wpo ((List.map (fun p => (p.1, U.v p.2)) (mRec size marks steps now)).lookup (Str.ofString "size")) k = k (.v (.int size)) := by simp [mRec, mFs]
@[simp ↓] theorem mR_marks : wpo ((List.map (fun p => (p.1, U.v p.2)) (mRec size marks steps now)).lookup (Str.ofString "marks")) k = k (.v (.tup (marks.map D.int))) := by simp [mRec, mFs]
@[simp ↓] theorem mR_steps : wpo ((List.map (fun p => (p.1, U.v p.2)) (mRec size marks steps now)).lookup (Str.ofString "steps")) k = k (.v (.tup (steps.map stD))) := by simp [mRec, mFs]
@[simp ↓] theorem mR_ends : wpo ((List.map (fun p => (p.1, U.v p.2)) (mRec size marks steps now)).lookup (Str.ofString "ends")) k = k (.v (.dic (endsD steps))) := by simp [mRec, mFs]
@[simp ↓] theorem mR_place : wpo ((List.map (fun p => (p.1, U.v p.2)) (mRec size marks steps now)).lookup (Str.ofString "place")) k = k (.v (.int now)) := by simp [mRec, mFs]
theorem tupV_of (o : Option U) (d : List D) (h : ∀ k : U → Prop, wpo o k = k (.v (.tup d))) : tupV o kd = kd d := by
  cases o with
  | none => have := h (fun _ => True); simp [wpo] at this
  | some u =>
    have := h (fun v => v = u)
    simp [wpo] at this
    subst this; rfl
@[simp ↓] theorem mR_stepsT : tupV ((List.map (fun p => (p.1, U.v p.2)) (mRec size marks steps now)).lookup (Str.ofString "steps")) kd = kd (steps.map stD) := tupV_of _ _ _ fun k => mR_steps size marks steps now k
end
theorem made_ok (ch size : Int) (marks0 marks : List Int) (steps0 steps : List St3) (here : Int) (hh : 0 ≤ here ∧ here < size) (O : ∀ now, 0 ≤ now → now < size → OkParts size marks0 marks steps0 steps now) (mu su : U) (S : Sto) (hm : asSeq S mu = some ((marks0.map D.int).map U.v)) (hs : asSeq S su = some ((steps0.map stD).map U.v)) :
    ∃ c, (c = 12 ∨ c = 13 ∨ c = 14) ∧ f__law_made [.v (.int ch), .v (.int size), mu, su, .v (.int here)] S = .ok (.v (.ins c (mRec size marks steps (if ch % 8 < 2 then 0 else here)))) S := by
  have O0 := O 0 (by omega) (by omega)
  have Oh := O here hh.1 hh.2
  have s0 := service_ok size marks0 marks steps0 steps 0 O0 mu su S hm hs
  have sh := service_ok size marks0 marks steps0 steps here Oh mu su S hm hs
  have p0 := pattern_ok size marks0 marks steps0 steps 0 O0 mu su S hm hs
  have ph := pattern_ok size marks0 marks steps0 steps here Oh mu su S hm hs
  have m1 := init_ok 12 (by simp) size marks0 marks steps0 steps here Oh mu su S hm hs
  unfold f__law_made
  by_cases h0 : ch % 8 = 0
  · refine ⟨13, by simp, runF_eq ?_⟩
    simp [m__law_made, start0, h0, s0, fin_i0]
  by_cases h1 : ch % 8 = 1
  · refine ⟨14, by simp, runF_eq ?_⟩
    simp [m__law_made, start0, h1, p0, fin_i0]
  have h2 : ¬ ch % 8 < 2 := by omega
  by_cases h4 : ch % 8 < 4
  · refine ⟨13, by simp, runF_eq ?_⟩
    simp [m__law_made, start0, h0, h1, h2, h4, sh, fin_i0, gApp]
  by_cases h6 : ch % 8 < 6
  · refine ⟨14, by simp, runF_eq ?_⟩
    simp [m__law_made, start0, h0, h1, h2, h4, h6, ph, fin_i0, gApp]
  by_cases h7 : ch % 8 = 6
  · refine ⟨13, by simp, runF_eq ?_⟩
    simp [m__law_made, start0, h7, sh, fin_i0, gApp]
  · refine ⟨12, by simp, runF_eq ?_⟩
    simp [m__law_made, start0, h0, h1, h2, h4, h6, h7, m1, fin_i0, gApp]
theorem is_step_ok (s : St3) (S : Sto) : f__law_is_step [.v (stD s)] S = .ok (.v (.bl true)) S := by
  unfold f__law_is_step
  refine runF_eq ?_
  simp [m__law_is_step, start0, stD, whole_ok]
theorem dat_ints (l : List Int) : isDat (.lst (l.map D.int)) = true := by simp
theorem dat_steps (l : List St3) : isDat (.lst (l.map stD)) = true := by simp [stD]
theorem allT {α : Type} (l : List α) (f : α → D) (g : D → D) (hg : ∀ a, g (f a) = .bl true) : (((l.map f).filter fun _ => true).map g) = (l.map fun _ => true).map D.bl := by
  rw [List.filter_eq_self.mpr (fun _ _ => rfl)]
  simp [Function.comp_def, hg]
theorem all_true {α : Type} (l : List α) : (l.map fun _ => true).all id = true := by simp
theorem parts_hold_ok (c : Nat) (hc : c = 12 ∨ c = 13 ∨ c = 14) (size : Int) (marks : List Int) (steps : List St3) (now : Int) (su : U) (S : Sto) (hs : asLst S su = some ((steps.map stD).map U.v)) (hml : marks.length ≤ 1000) (hsl : steps.length ≤ 1000) :
    f__law_parts_hold [.v (.ins c (mRec size marks steps now)), .v (.int size), .v (.lst (marks.map D.int)), su, .v (.int now)] S = .ok (.v (.bl true)) S := by
  unfold f__law_parts_hold
  refine runF_eq ?_
  have hcc : c ∈ [12, 13, 14, 17] := by rcases hc with rfl | rfl | rfl <;> simp
  have hcc4 : c = 12 ∨ c = 13 ∨ c = 14 ∨ c = 17 := by omega
  have hcc5 : c = 12 ∨ c = 13 ∨ c = 14 ∨ c = 17 ∨ c = 18 := by omega
  have ht : isT_Machine c 12 = some true := by rcases hc with rfl | rfl | rfl <;> rfl
  have hn := now_ok c hcc size marks steps now S
  have e1 : deL S su = some (.lst (steps.map stD)) := deL_lst hs
  simp [m__law_parts_hold, start0, v_isX, ht, hcc4, hcc5, whole_ok, hn]
  refine w_lcV (ds := marks.map D.int) (src := none) (S1 := S) (fun _ => true) (fun _ => .bl true) ?_ ?_ nofun ?_ ?_
  · simp [hcc4]
  · simp; omega
  · intro d hd acc
    obtain ⟨x, hx, rfl⟩ := List.mem_map.mp hd
    simp [wipeE, whole_ok]
  rw [allT marks D.int _ (fun _ => rfl), v_all, all_true]
  simp [hcc4]
  refine w_lcV (ds := steps.map stD) (src := none) (S1 := S) (fun _ => true) (fun _ => .bl true) ?_ ?_ nofun ?_ ?_
  · simp [hcc4]
  · simp; omega
  · intro d hd acc
    obtain ⟨x, hx, rfl⟩ := List.mem_map.mp hd
    simp [wipeE, is_step_ok]
  rw [allT steps stD _ (fun _ => rfl), v_all, all_true]
  simp [hcc4]
  rw [v_eq (dat_ints marks) (dat_ints marks)]
  simp [hcc4]
  rw [v_eqA (a := .lst (steps.map stD)) (b := .lst (steps.map stD)) rfl e1 (dat_steps steps) (dat_steps steps)]
  simp [hcc4]
  refine w_lcV (ds := steps.map stD) (src := none) (S1 := S) (fun _ => true) (fun d => d) ?_ ?_ nofun ?_ ?_
  · simp [hcc4]
  · simp; omega
  · intro d hd acc
    obtain ⟨x, hx, rfl⟩ := List.mem_map.mp hd
    simp [wipeE]
  have e0 : (((steps.map stD).filter fun _ => true).map fun d => d) = steps.map stD := by
    rw [List.filter_eq_self.mpr (fun _ _ => rfl)]; simp
  rw [e0, v_eqA (a := .lst (steps.map stD)) (b := .lst (steps.map stD)) rfl e1 (dat_steps steps) (dat_steps steps)]
  simp
end Mi
/-! Plain: sorted texts. -/
namespace Mi
open PySem Pu L2
theorem sortD_perm (ds : List D) : (sortD ds).Perm ds := List.mergeSort_perm _ _
theorem sortD_asc {T : D → Prop} (F : Form T) (ds : List D) (hT : ∀ d ∈ ds, T d) (nd : ds.Nodup) : (sortD ds).Pairwise dlt := by
  have hp : (sortD ds).Pairwise (fun a b => PySem.W.dataLe false encD a b = true) := by
    have t := PySem.W.sortLe_total (PyProof.Rows.listOrd PyProof.Rows.itemOrd) false (fun b => PySem.W.keyToks (encD b))
    exact List.pairwise_mergeSort t.trans (fun a b => by have := t.total a b; simpa using this) ds
  have hnd : (sortD ds).Pairwise (· ≠ ·) := (sortD_perm ds).symm.nodup nd
  have hmem : ∀ a ∈ sortD ds, T a := fun a ha => hT a ((sortD_perm ds).mem_iff.mp ha)
  refine (List.pairwise_and_iff.mpr ⟨hp, hnd⟩).imp_of_mem fun {a b} ha hb h => ?_
  refine F.ord.tot b a (hmem b hb) (hmem a ha) ?_ (Ne.symm h.2)
  intro z
  have h1 : (!PyProof.Rows.lexLt PyProof.Rows.itemOrd (PySem.W.keyToks (encD b)) (PySem.W.keyToks (encD a))) = true := h.1
  unfold dlt PySem.W.dataLt at z
  rw [z] at h1
  cases h1
def isStr (d : D) : Prop := ∃ z : Str, d = .str z
theorem form_s : Form isStr where
  dat := by rintro _ ⟨i, rfl⟩; simp
  al := by rintro _ _ ⟨i, rfl⟩ ⟨j, rfl⟩; rfl
  nn := by rintro _ ⟨i, rfl⟩; simp
def slt (a b : Str) : Prop := a.cps.toList < b.cps.toList
theorem dlt_s (a b : Str) : dlt (.str a) (.str b) ↔ slt a b := by
  unfold dlt slt
  show PySem.W.dataLt (.str a) (.str b) = true ↔ _
  rw [PySem.W.dataLt_str]; simp
theorem okSort_s (zs : List Str) (hl : zs.length ≤ 100000) : okSort (zs.map D.str) := by
  refine ⟨fun d hd => ?_, ?_, ?_, by simpa using hl⟩
  · obtain ⟨z, _, rfl⟩ := List.mem_map.mp hd; simp
  · rw [List.map_map]
    exact PySem.W.AllAlike.of fun a b => rfl
  · rw [List.map_map]
    exact PySem.W.Sortable.others fun a => ⟨(by intro h; cases h), (by intro xs h; cases h)⟩
/-- texts in order -/
noncomputable def sortS (zs : List Str) : List Str := (sortD (zs.map D.str)).map fun d => match d with | .str z => z | _ => ""
theorem sortS_eq (zs : List Str) : sortD (zs.map D.str) = (sortS zs).map D.str := by
  unfold sortS
  rw [List.map_map]
  have : ∀ d ∈ sortD (zs.map D.str), (D.str ∘ fun d => match d with | .str z => z | _ => "") d = d := fun d hd => by
    obtain ⟨z, _, rfl⟩ := List.mem_map.mp ((sortD_perm _).mem_iff.mp hd)
    rfl
  rw [List.map_congr_left this]; simp
theorem sortS_mem (zs : List Str) (z : Str) : z ∈ sortS zs ↔ z ∈ zs := by
  have h := (sortD_perm (zs.map D.str)).mem_iff (a := .str z)
  rw [sortS_eq] at h
  simpa using h
theorem sortS_len (zs : List Str) : (sortS zs).length = zs.length := by
  have h := (sortD_perm (zs.map D.str)).length_eq
  rw [sortS_eq] at h
  simpa using h
theorem sortS_asc (zs : List Str) (nd : zs.Nodup) : (sortS zs).Pairwise slt := by
  have h := sortD_asc form_s (zs.map D.str) (fun d hd => by obtain ⟨z, _, rfl⟩ := List.mem_map.mp hd; exact ⟨z, rfl⟩) (by rw [List.nodup_iff_pairwise_ne, List.pairwise_map]; exact nd.imp fun h e => h (by simpa using e))
  rw [sortS_eq, List.pairwise_map] at h
  exact h.imp fun h => (dlt_s _ _).mp h
theorem v_sortedS {S : Sto} {q : U → Sto → Prop} (zs : List Str) (hl : zs.length ≤ 100000) : wpO (fSorted [.v (.lst (zs.map D.str))] S) q = q (.v (.lst ((sortS zs).map D.str))) S := by
  rw [v_sorted _ (okSort_s zs hl), sortS_eq]
/-! asks -/
def asksN (row : List Int) (n : Nat) : List Str := (List.range n).map fun i => askN row i
@[simp] theorem asksN_len (row : List Int) (n : Nat) : (asksN row n).length = n := by simp [asksN]
theorem asks_i (row : List Int) (hl : row.length = 13) (n : Int) (h0 : 0 ≤ n) (hn : n ≤ 100) (S : Sto) : f__law_asks [.v (.lst (row.map D.int)), .v (.int n)] S = .ok (.v (.lst ((asksN row n.toNat).map D.str))) S := by
  obtain ⟨m, rfl⟩ := Int.eq_ofNat_of_zero_le h0
  have := asks_ok row hl m (by omega) S
  rw [this]
  simp [asksN, Function.comp_def]
theorem asksN_ask (row : List Int) (hl : row.length = 13) (n : Nat) : ∀ z ∈ asksN row n, AskS z := by
  intro z hz
  obtain ⟨i, _, rfl⟩ := List.mem_map.mp hz
  exact askN_ok row hl i
theorem asksN_nd (row : List Int) (hl : row.length = 13) (n : Nat) (hn : n ≤ 8) : (asksN row n).Nodup := by
  unfold asksN
  rw [List.nodup_iff_pairwise_ne, List.pairwise_map]
  refine List.nodup_range.imp_of_mem fun {a b} ha hb h e => h ?_
  simp at ha hb
  exact askN_inj row hl a b (by omega) (by omega) e
/-! the order of steps -/
def lt3 (a b : St3) : Prop := a.1 < b.1 ∨ (a.1 = b.1 ∧ (slt a.2.1 b.2.1 ∨ (a.2.1 = b.2.1 ∧ a.2.2 < b.2.2)))
theorem asc3 {l : List St3} (h : l.Pairwise lt3) : (l.map stD).Pairwise dlt := by
  rw [List.pairwise_map]
  exact h.imp fun h => (dlt_st _ _).mpr h
theorem ascI {l : List Int} (h : l.Pairwise (· < ·)) : (l.map D.int).Pairwise dlt := by
  rw [List.pairwise_map]
  exact h.imp fun h => (dlt_i _ _).mpr h
end Mi
/-! Plain: ascending lists by insertion; parts of a machine from raw lists; machines as values or cells. -/
namespace Mi
open PySem Pu L2
theorem filter2_len {α : Type} (p q : α → Bool) (h : ∀ a, p a = true → q a = true → False) : ∀ l : List α, (l.filter p).length + (l.filter q).length ≤ l.length
  | [] => by simp
  | a :: l => by
    have ih := filter2_len p q h l
    rw [List.filter_cons, List.filter_cons]
    cases hp : p a <;> cases hq : q a
    · simp; omega
    · simp; omega
    · simp; omega
    · exact (h a hp hq).elim
open Classical in
theorem exists_asc {α : Type} {lt : α → α → Prop} (irr : ∀ a, ¬ lt a a) (tr : ∀ a b c, lt a b → lt b c → lt a c) (tot : ∀ a b, ¬ lt a b → a ≠ b → lt b a) : ∀ l : List α, ∃ l' : List α, l'.Pairwise lt ∧ (∀ a, a ∈ l' ↔ a ∈ l) ∧ l'.length ≤ l.length
  | [] => ⟨[], by simp, by simp, by simp⟩
  | x :: l => by
    obtain ⟨l', h1, h2, h3⟩ := exists_asc irr tr tot l
    refine ⟨l'.filter (fun a => decide (lt a x)) ++ x :: l'.filter (fun a => decide (lt x a)), ?_, fun a => ?_, ?_⟩
    · rw [List.pairwise_append, List.pairwise_cons]
      refine ⟨h1.sublist (List.filter_sublist), ⟨fun a ha => by simpa using (List.mem_filter.mp ha).2, h1.sublist (List.filter_sublist)⟩, fun a ha b hb => ?_⟩
      have ha' : lt a x := by simpa using (List.mem_filter.mp ha).2
      rcases List.mem_cons.mp hb with e | e
      · subst e; exact ha'
      · exact tr a x b ha' (by simpa using (List.mem_filter.mp e).2)
    · rw [List.mem_append, List.mem_cons, List.mem_filter, List.mem_filter, List.mem_cons, ← h2 a]
      constructor
      · rintro (⟨h, _⟩ | h | ⟨h, _⟩)
        · exact .inr h
        · exact .inl h
        · exact .inr h
      · rintro (h | h)
        · exact .inr (.inl h)
        · by_cases e1 : lt a x
          · exact .inl ⟨h, by simpa using e1⟩
          · by_cases e2 : a = x
            · exact .inr (.inl e2)
            · exact .inr (.inr ⟨h, by simpa using tot a x e1 e2⟩)
    · have := filter2_len (fun a => decide (lt a x)) (fun a => decide (lt x a)) (fun a h h' => irr a (tr a x a (by simpa using h) (by simpa using h'))) l'
      simp; omega
theorem lt3_dlt (a b : St3) : lt3 a b ↔ dlt (stD a) (stD b) := (dlt_st a b).symm
theorem lt3_irr (a : St3) : ¬ lt3 a a := fun h => dlt_irr _ ((lt3_dlt _ _).mp h)
theorem lt3_tr (a b c : St3) (h : lt3 a b) (h' : lt3 b c) : lt3 a c := (lt3_dlt _ _).mpr (dlt_tr _ _ _ ((lt3_dlt _ _).mp h) ((lt3_dlt _ _).mp h'))
theorem lt3_tot (a b : St3) (h : ¬ lt3 a b) (h' : a ≠ b) : lt3 b a := (lt3_dlt _ _).mpr (form_st.ord.tot _ _ ⟨a, rfl⟩ ⟨b, rfl⟩ (fun z => h ((lt3_dlt _ _).mpr z)) fun z => h' (stD_inj z))
noncomputable def sort3 (l : List St3) : List St3 := (exists_asc lt3_irr lt3_tr lt3_tot l).choose
theorem sort3_asc (l : List St3) : (sort3 l).Pairwise lt3 := (exists_asc lt3_irr lt3_tr lt3_tot l).choose_spec.1
theorem sort3_mem (l : List St3) (t : St3) : t ∈ sort3 l ↔ t ∈ l := (exists_asc lt3_irr lt3_tr lt3_tot l).choose_spec.2.1 t
theorem sort3_len (l : List St3) : (sort3 l).length ≤ l.length := (exists_asc lt3_irr lt3_tr lt3_tot l).choose_spec.2.2
theorem sort3_eq {l m : List St3} (h : m.Pairwise lt3) (hm : ∀ t, t ∈ m ↔ t ∈ l) : sort3 l = m := asc_ext lt3_irr lt3_tr (sort3_asc l) h fun t => (sort3_mem l t).trans (hm t).symm
theorem iex (l : List Int) : ∃ l' : List Int, l'.Pairwise (· < ·) ∧ (∀ a, a ∈ l' ↔ a ∈ l) ∧ l'.length ≤ l.length := exists_asc (by omega) (by omega) (by omega) l
noncomputable def sortI (l : List Int) : List Int := (iex l).choose
theorem sortI_asc (l : List Int) : (sortI l).Pairwise (· < ·) := (iex l).choose_spec.1
theorem sortI_mem (l : List Int) (t : Int) : t ∈ sortI l ↔ t ∈ l := (iex l).choose_spec.2.1 t
theorem sortI_len (l : List Int) : (sortI l).length ≤ l.length := (iex l).choose_spec.2.2
theorem sortI_eq {l m : List Int} (h : m.Pairwise (· < ·)) (hm : ∀ t, t ∈ m ↔ t ∈ l) : sortI l = m := asc_ext (lt := (· < ·)) (by omega) (by omega) (sortI_asc l) h fun t => (sortI_mem l t).trans (hm t).symm
/-- good raw parts -/
structure Raw (size : Int) (ms : List Int) (ts : List St3) : Prop where
  s1 : 1 ≤ size
  s2 : size ≤ 200
  m0 : ∀ m ∈ ms, 0 ≤ m ∧ m < size
  t0 : ∀ s ∈ ts, 0 ≤ s.1 ∧ s.1 < size ∧ 0 ≤ s.2.2 ∧ s.2.2 < size ∧ AskS s.2.1
  ml : ms.length ≤ 600
  tl : ts.length ≤ 600
theorem Raw.ok {size : Int} {ms : List Int} {ts : List St3} (h : Raw size ms ts) {now : Int} (h0 : 0 ≤ now) (h1 : now < size) : OkParts size ms (sortI ms) ts (sort3 ts) now where
  s1 := h.s1
  s2 := h.s2
  m0 := h.m0
  t0 := h.t0
  ml := by have := h.ml; omega
  tl := by have := h.tl; omega
  n0 := h0
  n1 := h1
  ma := ascI (sortI_asc ms)
  mm := sortI_mem ms
  ta := asc3 (sort3_asc ts)
  tm := sort3_mem ts
  t6 := by have := h.tl; have := sort3_len ts; omega
/-! the ends of an ask -/
theorem endsL_asc {ts : List St3} (h : ts.Pairwise lt3) (s : Int) (a : Str) : (endsL ts s a).Pairwise (· < ·) := by
  unfold endsL
  rw [List.pairwise_map, List.pairwise_filter]
  refine h.imp fun {x y} hxy hx hy => ?_
  have hx : x.1 = s ∧ x.2.1 = a := by simpa using hx
  have hy : y.1 = s ∧ y.2.1 = a := by simpa using hy
  rcases hxy with e | ⟨_, e | ⟨_, e⟩⟩
  · omega
  · rw [hx.2, hy.2] at e
    exact absurd ((dlt_s a a).mpr e) (dlt_irr _)
  · exact e
theorem endsL_mem {ts : List St3} {s : Int} {a : Str} {e : Int} : e ∈ endsL ts s a ↔ (s, a, e) ∈ ts := by
  unfold endsL
  rw [List.mem_map]
  constructor
  · rintro ⟨t, ht, rfl⟩
    obtain ⟨h1, h2⟩ := List.mem_filter.mp ht
    obtain ⟨rfl, rfl⟩ : t.1 = s ∧ t.2.1 = a := by simpa using h2
    exact h1
  · intro h
    exact ⟨(s, a, e), List.mem_filter.mpr ⟨h, by simp⟩, rfl⟩
/-! a machine: by value or as a cell -/
abbrev uF (fs : List (Str × D)) : List (Str × U) := List.map (fun p => (p.1, U.v p.2)) fs
def IsM (S : Sto) (x : U) (c : Nat) (size : Int) (ms : List Int) (ts : List St3) (now : Int) : Prop := asIns S x = some (c, uF (mRec size ms ts now)) ∧ (c = 12 ∨ c = 13 ∨ c = 14 ∨ c = 17)
section
variable {S : Sto} {x : U} {c : Nat} {size : Int} {ms : List Int} {ts : List St3} {now : Int}
theorem IsM.at (h : IsM S x c size ms ts now) (k : Nat → List (Str × U) → Prop) : isIns S x k = k c (uF (mRec size ms ts now)) := by
  unfold isIns; rw [h.1]
theorem isM_v (hc : c = 12 ∨ c = 13 ∨ c = 14 ∨ c = 17) : IsM S (.v (.ins c (mRec size ms ts now))) c size ms ts now := ⟨rfl, hc⟩
theorem isM_r {n : Nat} (h : S[n]? = some (.ins c (uFs (mRec size ms ts now)))) (hc : c = 12 ∨ c = 13 ∨ c = 14 ∨ c = 17) : IsM S (.r n) c size ms ts now := ⟨by unfold asIns; simp only [h]; rfl, hc⟩
theorem asIns_app {u : U} {p : Nat × List (Str × U)} (T : Sto) (h : asIns S u = some p) : asIns (S ++ T) u = some p := by
  cases u with
  | v d => cases d <;> first | exact h | cases h
  | r n =>
    unfold asIns at h ⊢
    simp only at h ⊢
    by_cases hn : n < S.length
    · rw [List.getElem?_append_left hn]; exact h
    · rw [List.getElem?_eq_none (by omega)] at h; cases h
theorem IsM.app (h : IsM S x c size ms ts now) (T : Sto) : IsM (S ++ T) x c size ms ts now := ⟨asIns_app T h.1, h.2⟩
theorem now_x (h : IsM S x c size ms ts now) : f_Machine_now [x] S = .ok (.v (.int now)) S := by
  unfold f_Machine_now
  refine runF_eq ?_
  simp [m_Machine_now, start0, h.at, h.2]
end
/-! x in a list or tuple of keys -/
section
variable {S : Sto} {q : U → Sto → Prop}
theorem v_inK (neg : Bool) {d : D} {u : U} {ds : List D} (hu : asSeq S u = some (ds.map U.v)) (hd : isKey d = true) (hs : ∀ x ∈ ds, isKey x = true) (hn : ∀ z, d ≠ .str z) : wpO (fInX neg (.v d) u S) q = q (.v (.bl (cond neg (!decide (d ∈ ds)) (decide (d ∈ ds))))) S := by
  have h0 : asDic S u = none := by
    cases u with
    | v e => cases e <;> first | rfl | cases hu
    | r n =>
      unfold asSeq at hu; unfold asDic
      simp only at hu ⊢
      cases e : S[n]? with
      | none => rfl
      | some cc => rw [e] at hu; cases cc <;> first | rfl | cases hu
  unfold fInX
  rw [h0]
  have h1 : fIn neg (.v d) u S = (inSeq d (ds.map U.v)).map fun b => (.v (.bl (cond neg (!b) b)), S) := by
    cases d with
    | str z => exact absurd rfl (hn z)
    | _ => unfold fIn; simp only [hu]
  simp only [h1]
  have h2 : inSeq d (ds.map U.v) = some (decide (d ∈ ds)) := by
    unfold inSeq
    rw [if_pos hd, allV_map]
    simp only
    rw [if_pos (List.all_eq_true.mpr hs)]
  rw [h2]; rfl
end
end Mi
/-! Plain: the laws' steps and marks; items and truth of a machine. -/
namespace Mi
open PySem Pu L2
def sg (as : List Str) (j : Nat) : Str := as.getD j ""
theorem rg_get {xs : List Int} {i : Nat} (h : i < xs.length) : rg xs i = xs[i] := by simp [rg, List.getD, List.getElem?_eq_getElem h]
theorem sg_get {xs : List Str} {i : Nat} (h : i < xs.length) : sg xs i = xs[i] := by simp [sg, List.getD, List.getElem?_eq_getElem h]
theorem at_int (xs : List Int) (i : Nat) (h : i < xs.length) (k : D → Prop) : wpo (atI (xs.map D.int) i) k = k (.int (rg xs i)) := by
  rw [atI_map, wpo_map, atI_get 0 (by omega) (by omega)]; rfl
theorem at_str (xs : List Str) (i : Nat) (h : i < xs.length) (k : D → Prop) : wpo (atI (xs.map D.str) i) k = k (.str (sg xs i)) := by
  rw [atI_map, wpo_map, atI_get (Str.ofString "") (by omega) (by omega)]; rfl
theorem at_intI (xs : List Int) (i : Int) (h0 : 0 ≤ i) (h : i < xs.length) (k : D → Prop) : wpo (atI (xs.map D.int) i) k = k (.int (rg xs i.toNat)) := by
  obtain ⟨n, rfl⟩ := Int.eq_ofNat_of_zero_le h0
  exact at_int xs n (by omega) k
def pw (e : Nat) : Int := match e with | 0 => 1 | 1 => 2 | 2 => 4 | _ => 8
theorem at_pw (e : Nat) (h : e < 4) (k : D → Prop) : wpo (atI [D.int 1, D.int 2, D.int 4, D.int 8] e) k = k (.int (pw e)) := by
  have : e = 0 ∨ e = 1 ∨ e = 2 ∨ e = 3 := by omega
  rcases this with rfl | rfl | rfl | rfl <;> rfl
theorem pw_bd (e : Nat) : 0 < pw e ∧ pw e < 1073741824 := by
  unfold pw; split <;> omega
/-! ### marks -/
def markIn (dg : Int) (e : Nat) : Bool := decide (48 ≤ dg) || decide (dg / pw e % 2 = 1)
def marksN (dg : Int) (size : Nat) : List Int := ((List.range size).filter (markIn dg)).map fun (n : Nat) => (n : Int)
theorem marksN_asc (dg : Int) (size : Nat) : (marksN dg size).Pairwise (· < ·) := by
  unfold marksN
  rw [List.pairwise_map]
  exact (List.pairwise_lt_range.sublist List.filter_sublist).imp fun h => by omega
theorem marksN_bd {dg : Int} {size : Nat} {m : Int} (h : m ∈ marksN dg size) : 0 ≤ m ∧ m < size := by
  obtain ⟨n, hn, rfl⟩ := List.mem_map.mp h
  have := (List.mem_filter.mp hn).1
  simp at this; omega
theorem marksN_len (dg : Int) (size : Nat) : (marksN dg size).length ≤ size := by
  unfold marksN
  rw [List.length_map]
  refine Nat.le_trans (List.length_filter_le _ _) (by simp)
theorem rngU_map (n : Nat) : rngU 0 n = ((List.range n).map fun (i : Nat) => D.int i).map U.v := by
  unfold rngU
  rw [List.map_map]
  refine List.map_congr_left fun i _ => ?_
  simp
theorem marks_ok (dg : Int) (size : Nat) (hs : size ≤ 4) (S : Sto) : f__law_marks [.v (.int dg), .v (.int size)] S = .ok (.v (.lst ((marksN dg size).map D.int))) S := by
  unfold f__law_marks
  refine runF_eq ?_
  simp [m__law_marks, start0]
  refine w_lcV (ds := (List.range size).map fun (i : Nat) => D.int i) (src := none) (S1 := S) (fun d => match d with | .int i => markIn dg i.toNat | _ => false) (fun d => d) ?_ ?_ nofun ?_ ?_
  · simp [rngU_map, Function.comp_def]; omega
  · simp; omega
  · intro d hd acc
    have hd2 := List.mem_map.mp hd
    obtain ⟨i, hi, he⟩ := hd2
    subst he
    simp at hi
    have hp := pw_bd i
    simp [wipeE, at_pw i (by omega), hp.1, hp.2, markIn]
    by_cases h : 48 ≤ dg <;> simp [h]
  · have e : (((List.range size).map fun (i : Nat) => D.int i).filter fun d => match d with | .int i => markIn dg i.toNat | _ => false).map (fun d => d) = (marksN dg size).map D.int := by
      unfold marksN
      rw [List.filter_map, List.map_map, List.map_map]
      rfl
    rw [e]; simp
/-! ### steps -/
def stepIn (row : List Int) (size n : Nat) (single : Bool) (s a e : Nat) : Bool :=
  if single = true then decide (rg row ((s * n + a) % row.length) % (size + 1) = e + 1) else decide (rg row ((s * n + a) % row.length) / pw e % 2 = 1)
def stE (row : List Int) (size : Nat) (asks : List Str) (single : Bool) (s a k : Nat) : List St3 := ((List.range k).filter fun e => stepIn row size asks.length single s a e).map fun (e : Nat) => ((s : Int), sg asks a, (e : Int))
def stA (row : List Int) (size : Nat) (asks : List Str) (single : Bool) (s k : Nat) : List St3 := (List.range k).flatMap fun a => stE row size asks single s a size
def stS (row : List Int) (size : Nat) (asks : List Str) (single : Bool) (k : Nat) : List St3 := (List.range k).flatMap fun s => stA row size asks single s asks.length
abbrev stepsN (row : List Int) (size : Nat) (asks : List Str) (single : Bool) : List St3 := stS row size asks single size
section
variable {row : List Int} {size : Nat} {asks : List Str} {single : Bool}
theorem stE_succ (s a k : Nat) : stE row size asks single s a (k + 1) = stE row size asks single s a k ++ (if stepIn row size asks.length single s a k = true then [((s : Int), sg asks a, (k : Int))] else []) := by
  unfold stE
  rw [List.range_succ, List.filter_append, List.map_append]
  congr 1
  by_cases h : stepIn row size asks.length single s a k = true <;> simp [h]
theorem stA_succ (s k : Nat) : stA row size asks single s (k + 1) = stA row size asks single s k ++ stE row size asks single s k size := by simp [stA, List.range_succ]
theorem stS_succ (k : Nat) : stS row size asks single (k + 1) = stS row size asks single k ++ stA row size asks single k asks.length := by simp [stS, List.range_succ]
theorem stE_len (s a k : Nat) : (stE row size asks single s a k).length ≤ k := by
  unfold stE; rw [List.length_map]; exact Nat.le_trans (List.length_filter_le _ _) (by simp)
theorem stA_len (s : Nat) : ∀ k, (stA row size asks single s k).length ≤ k * size
  | 0 => by simp [stA]
  | k + 1 => by
    have h1 := stA_len s k
    have h2 := stE_len (row := row) (size := size) (asks := asks) (single := single) s k size
    rw [stA_succ, List.length_append, Nat.succ_mul]; omega
theorem stS_len : ∀ k, (stS row size asks single k).length ≤ k * (asks.length * size)
  | 0 => by simp [stS]
  | k + 1 => by
    have h1 := stS_len k
    have h2 := stA_len (row := row) (size := size) (asks := asks) (single := single) k asks.length
    rw [stS_succ, List.length_append, Nat.succ_mul]; omega
theorem stepsN_mem {t : St3} : t ∈ stepsN row size asks single ↔ ∃ s a e : Nat, s < size ∧ a < asks.length ∧ e < size ∧ stepIn row size asks.length single s a e = true ∧ t = ((s : Int), sg asks a, (e : Int)) := by
  unfold stepsN stS stA stE
  simp only [List.mem_flatMap, List.mem_map, List.mem_filter, List.mem_range]
  constructor
  · rintro ⟨s, hs, a, ha, e, ⟨he, h⟩, rfl⟩
    exact ⟨s, a, e, hs, ha, he, h, rfl⟩
  · rintro ⟨s, a, e, hs, ha, he, h, rfl⟩
    exact ⟨s, hs, a, ha, e, ⟨he, h⟩, rfl⟩
theorem stepsN_raw (hs : 1 ≤ size) (hs2 : size ≤ 4) (ha : asks.length ≤ 8) (hk : ∀ z ∈ asks, AskS z) {ms : List Int} (hm : ∀ m ∈ ms, 0 ≤ m ∧ m < size) (hml : ms.length ≤ 600) : Raw size ms (stepsN row size asks single) where
  s1 := by omega
  s2 := by omega
  m0 := hm
  t0 := fun t ht => by
    obtain ⟨s, a, e, h1, h2, h3, _, rfl⟩ := stepsN_mem.mp ht
    refine ⟨by show (0 : Int) ≤ s; omega, by show (s : Int) < size; omega, by show (0 : Int) ≤ e; omega, by show (e : Int) < size; omega, ?_⟩
    show AskS (sg asks a)
    rw [sg_get h2]
    exact hk _ (List.getElem_mem h2)
  ml := hml
  tl := by
    have h := stS_len (row := row) (size := size) (asks := asks) (single := single) size
    have h1 : asks.length * size ≤ 8 * 4 := Nat.mul_le_mul ha hs2
    have h2 : size * (asks.length * size) ≤ 4 * (8 * 4) := Nat.mul_le_mul hs2 h1
    exact Nat.le_trans h (by omega)
end
theorem steps_ok (row : List Int) (hr : 0 < row.length) (size : Nat) (hs : size ≤ 4) (asks : List Str) (ha : asks.length ≤ 8) (single : Bool) (S : Sto) :
    f__law_steps [.v (.lst (row.map D.int)), .v (.int size), .v (.lst (asks.map D.str)), .v (.bl single)] S = .ok (.v (.lst ((stepsN row size asks single).map stD))) S := by
  unfold f__law_steps
  refine runF_eq ?_
  simp [m__law_steps, start0]
  refine ⟨by omega, ?_⟩
  have hb : ∀ s a e, s ≤ 4 → a ≤ 8 → e ≤ 4 → (stS row size asks single s).length + (stA row size asks single s a).length + (stE row size asks single s a e).length < 1000 := fun s a e h1 h2 h3 => by
    have b1 := stS_len (row := row) (size := size) (asks := asks) (single := single) s
    have b2 := stA_len (row := row) (size := size) (asks := asks) (single := single) s a
    have b3 := stE_len (row := row) (size := size) (asks := asks) (single := single) s a e
    have c1 : asks.length * size ≤ 8 * 4 := Nat.mul_le_mul ha hs
    have c2 : s * (asks.length * size) ≤ 4 * (8 * 4) := Nat.mul_le_mul h1 c1
    have c3 : a * size ≤ 8 * 4 := Nat.mul_le_mul h2 hs
    omega
  refine for_inv (fun i ρ T => ∃ x5 x6 x7 x8, ρ = [some (.v (.lst (row.map D.int))), some (.v (.int size)), some (.v (.lst (asks.map D.str))), some (.v (.bl single)), some (.r S.length), x5, x6, x7, x8] ∧ T = S ++ [.lst (((stS row size asks single i).map stD).map U.v)]) ⟨none, none, none, none, rfl, by simp [stS]⟩ ?_ ?_
  · rintro s u ρ T hu ⟨x5, x6, x7, x8, rfl, rfl⟩
    obtain ⟨hsz, rfl⟩ := rngU_get hu
    simp
    refine ⟨by omega, ?_⟩
    refine for_inv (fun i ρ T => ∃ x6 x7 x8, ρ = [some (.v (.lst (row.map D.int))), some (.v (.int size)), some (.v (.lst (asks.map D.str))), some (.v (.bl single)), some (.r S.length), some (.v (.int s)), x6, x7, x8] ∧ T = S ++ [.lst (((stS row size asks single s ++ stA row size asks single s i).map stD).map U.v)]) ⟨x6, x7, x8, rfl, by simp [stA]⟩ ?_ ?_
    · rintro a u ρ T hu ⟨x6, x7, x8, rfl, rfl⟩
      obtain ⟨haz, rfl⟩ := rngU_get hu
      have hdg : ∀ k : D → Prop, wpo (atI (row.map D.int) (((s : Int) * asks.length + a) % row.length)) k = k (.int (rg row ((s * asks.length + a) % row.length))) := fun k => by
        have e : ((s : Int) * asks.length + a) % row.length = ((s * asks.length + a) % row.length : Nat) := by simp
        rw [e]
        exact at_int row _ (Nat.mod_lt _ hr) k
      simp [-atI_map, hdg]
      refine ⟨.inl (by omega), by omega, by omega, ?_⟩
      refine for_inv (fun i ρ T => ∃ x8, ρ = [some (.v (.lst (row.map D.int))), some (.v (.int size)), some (.v (.lst (asks.map D.str))), some (.v (.bl single)), some (.r S.length), some (.v (.int s)), some (.v (.int a)), some (.v (.int (rg row ((s * asks.length + a) % row.length)))), x8] ∧ T = S ++ [.lst (((stS row size asks single s ++ stA row size asks single s a ++ stE row size asks single s a i).map stD).map U.v)]) ⟨x8, rfl, by simp [stE]⟩ ?_ ?_
      · rintro e u ρ T hu ⟨x8, rfl, rfl⟩
        obtain ⟨hez, rfl⟩ := rngU_get hu
        have hbd := hb s a e (by omega) (by omega) (by omega)
        have hp := pw_bd e
        rw [stE_succ]
        unfold stepIn
        cases single with
        | true =>
          simp [-atI_map, at_str asks a haz]
          intro h
          simp [h, isL_r, stD]; omega
        | false =>
          simp [-atI_map, at_str asks a haz, at_pw e (by omega), hp.1, hp.2]
          by_cases h : rg row ((s * asks.length + a) % row.length) / pw e % 2 = 1
          · simp [h, isL_r, -atI_map, at_str asks a haz, stD]; omega
          · simp [h]
      · rintro ρ T ⟨x8, rfl, rfl⟩
        simp [stA_succ]
    · rintro ρ T ⟨x6, x7, x8, rfl, rfl⟩
      simp [stS_succ]
  · rintro ρ T ⟨x5, x6, x7, x8, rfl, rfl⟩
    simp only [rngU_len, getv_s, getv_0]
    rw [fin_l0]
/-! ### a machine's items, its truth -/
section
variable {S : Sto} {x : U} {c : Nat} {size : Int} {ms : List Int} {ts : List St3} {now : Int}
theorem getitem_ok (h : IsM S x c size ms ts now) (a : Str) : f_Machineu_getitemu [x, .v (.str a)] S = .ok (.v (.tup ((endsL ts now a).map D.int))) S := by
  unfold f_Machineu_getitemu
  refine runF_eq ?_
  have hk := keyS_key now a
  have e := endsD_getD ts now a
  unfold keyS at hk e
  simp [m_Machineu_getitemu, start0, h.at, h.2, v_getV, e]
theorem bool_ok (h : IsM S x c size ms ts now) : f_Machineu_boolu [x] S = .ok (.v (.bl (decide (now ∈ ms)))) S := by
  unfold f_Machineu_boolu
  refine runF_eq ?_
  simp [m_Machineu_boolu, start0, h.at, h.2]
  rw [v_inK (ds := ms.map D.int) false rfl (by simp) (by simp) (by simp)]
  simp
end
end Mi
/-! Pu: verification conditions of raise, try, errors as values. -/
namespace Pu
open PySem
section
variable {Q : Post} {q : U → Sto → Prop} {X : XP} {ρ : Env'} {S : Sto}
@[simp ↓] theorem s_raise (c : Nat) (fns : List Str) (mA : MA) : wps (sRaise c fns mA ρ S) Q = wpr (mA ρ S) (fun us S1 => us.length = fns.length ∧ Q.ex c (fns.zip us).reverse ρ S1) (fun c fs S => Q.ex c fs ρ S) := by
  simp only [sRaise, wps_st]
  congr 1; funext us S1
  by_cases h : us.length = fns.length <;> simp [h, wps]
/-- what the clauses ask -/
def wCatch (tab : Nat → Nat → Option Bool) (c : Nat) (fs : List (Str × U)) (ρ : Env') (S : Sto) (Q : Post) (l : List MH) : Prop := wps (catchM tab c fs ρ S l) Q
@[simp ↓] theorem s_try (tab : Nat → Nat → Option Bool) (b : MS) (hs : List MH) : wps (sTry tab b hs ρ S) Q = wps (b ρ S) { Q with ex := fun c fs ρ1 S1 => wCatch tab c fs ρ1 S1 Q hs } := by
  unfold sTry
  cases b ρ S <;> rfl
@[simp ↓] theorem wCatch_nil (tab : Nat → Nat → Option Bool) (c : Nat) (fs : List (Str × U)) : wCatch tab c fs ρ S Q [] = Q.ex c fs ρ S := id rfl
def offP (i : Option Nat) (Q : Post) : Post := { nx := fun ρ S => Q.nx (offR i ρ) S, bk := fun ρ S => Q.bk (offR i ρ) S, ct := fun ρ S => Q.ct (offR i ρ) S, rt := Q.rt }
theorem wps_endR (i : Option Nat) (r : RS) : wps (endR i r) Q = wps r (offP i Q) := by cases r <;> rfl
theorem wCatch_yes {tab : Nat → Nat → Option Bool} {c : Nat} {fs : List (Str × U)} {ds : List (Str × D)} {c' i : Nat} {m : MS} {l : List MH} (h : tab c c' = some true) (hf : fldV fs = some ds) :
    wCatch tab c fs ρ S Q (⟨c', some i, m⟩ :: l) = wps (m (ρ.set i (some (.v (.exn c ds)))) S) (offP (some i) Q) := by
  unfold wCatch catchM
  simp only [h, hf, wps_endR]
theorem wCatch_yes0 {tab : Nat → Nat → Option Bool} {c : Nat} {fs : List (Str × U)} {c' : Nat} {m : MS} {l : List MH} (h : tab c c' = some true) :
    wCatch tab c fs ρ S Q (⟨c', none, m⟩ :: l) = wps (m ρ S) (offP none Q) := by
  unfold wCatch catchM
  simp only [h, wps_endR]
theorem wCatch_no {tab : Nat → Nat → Option Bool} {c : Nat} {fs : List (Str × U)} {c' : Nat} {i : Option Nat} {m : MS} {l : List MH} (h : tab c c' = some false) : wCatch tab c fs ρ S Q (⟨c', i, m⟩ :: l) = wCatch tab c fs ρ S Q l := by
  unfold wCatch
  rw [catchM]
  simp only [h]
@[simp ↓] theorem w_callL (n : Nat) (mf : List U → Sto → R U) (a : MA) : wpr (eCallL n mf a ρ S) q X = wpr (a ρ S) (fun us S1 => us.length = n ∧ wpr (mf us S1) q (fun _ _ _ => False)) X := by
  simp only [eCallL, wpr_bind]
  congr 1; funext us S1
  by_cases h : us.length = n
  · simp only [h, if_true, true_and]
    cases mf us S1 <;> rfl
  · simp [h]
@[simp ↓] theorem v_xf (cs : List Nat) (f : Str) (c : Nat) (fs : List (Str × D)) : wpO (fXf cs f (.v (.exn c fs)) S) q = (c ∈ cs ∧ wpo (fs.lookup f) fun d => q (.v d) S) := by
  unfold fXf
  by_cases h : c ∈ cs
  · simp only [h, if_true, true_and]
    cases fs.lookup f <;> rfl
  · simp [h]
@[simp ↓] theorem v_isE (tab : Nat → Nat → Option Bool) (c c' : Nat) (fs : List (Str × D)) : wpO (fIsE tab [.v (.exn c fs), .v (.cls c')] S) q = wpo (tab c c') fun b => q (.v (.bl b)) S := by
  cases e : tab c c' <;> simp [fIsE, e]
@[simp ↓] theorem v_isEv (tab : Nat → Nat → Option Bool) (c : Nat) (fs : List (Str × D)) : wpO (fIsE tab [.v (.exn c fs), .v (.ty "ValueError")] S) q = ((tab c c).isSome = true ∧ q (.v (.bl true)) S) := by
  by_cases h : (tab c c).isSome = true <;> simp [fIsE, h]
@[simp ↓] theorem v_neS (i j : Str) : wpO (fNe (.v (.str i)) (.v (.str j)) S) q = q (.v (.bl (!decide (i = j)))) S := by rw [v_ne (by simp) (by simp)]; simp
end
end Pu
/-! Plain: the end of a def that changed cells of its caller. -/
namespace Pu
open PySem L2
theorem optAll_map {α β : Type} {f : α → Option β} {g : α → β} : ∀ {l : List α}, (∀ x ∈ l, f x = some (g x)) → optAll f l = some (l.map g)
  | [], _ => rfl
  | x :: l, h => by
    unfold optAll
    rw [h x (by simp), optAll_map fun y hy => h y (by simp [hy])]
    rfl
theorem zip_snd {α : Type} : ∀ {S S' : List α}, S.length ≤ S'.length → (S.zip S').map (fun p => p.2) = S'.take S.length
  | [], _, _ => by simp
  | a :: S, [], h => by simp at h
  | a :: S, b :: S', h => by simp [zip_snd (S := S) (S' := S') (by simpa using h)]
theorem fixS_ok {S S' : Sto} (hl : S.length ≤ S'.length) (h : ∀ i c, i < S.length → S'[i]? = some c → S[i]? = some c ∨ cOk S.length c = true) : fixS S S' = some (S'.take S.length) := by
  unfold fixS
  rw [optAll_map (g := fun p => p.2)]
  · congr 1
    exact zip_snd hl
  · rintro ⟨a, b⟩ hp
    obtain ⟨i, hi⟩ := List.getElem?_of_mem hp
    obtain ⟨h1, h2⟩ := List.getElem?_zip_eq_some.mp hi
    simp only
    split
    · rename_i e; rw [e]
    · rename_i ne
      rcases h i b (List.getElem?_eq_some_iff.mp h1).1 h2 with e | e
      · rw [h1] at e; exact absurd (Option.some.inj e).symm ne
      · exact fixC_ok e
/-- one cell was changed -/
theorem fixS_set {S : Sto} {n : Nat} {c : Cell} {l : Sto} (h : cOk S.length c = true) : fixS S (S.set n c ++ l) = some (S.set n c) := by
  rw [fixS_ok (by simp)]
  · simp
  · intro i c' hi hc
    rw [List.getElem?_append_left (by simpa using hi)] at hc
    by_cases e : n = i
    · subst e
      rw [List.getElem?_set_self hi] at hc
      cases hc; exact .inr h
    · rw [List.getElem?_set_ne e] at hc; exact .inl hc
theorem fin_set {S : Sto} {n : Nat} {c : Cell} {d : D} (h : cOk S.length c = true) : fin S (.v d) (S.set n c) = .ok (.v d) (S.set n c) := by
  unfold fin
  have := fixS_set (n := n) (l := []) h
  rw [List.append_nil] at this
  rw [this]; rfl
theorem finX_v (S : Sto) (c : Nat) (fs : List (Str × D)) : finX S c (fs.map fun p => (p.1, U.v p.2)) S = .ex c (fs.map fun p => (p.1, U.v p.2)) S := by
  unfold finX
  rw [fixS_id]
  have : optAll (fun p : Str × U => (fixU S.length 4 S p.2).map fun d => (p.1, d)) (fs.map fun p => (p.1, U.v p.2)) = some (fs.map fun p => (p.1, U.v p.2)) := by
    exact optAll_id fun p hp => by
      obtain ⟨a, _, rfl⟩ := List.mem_map.mp hp
      rfl
  rw [this]
theorem runF_ex {N : Nat} {m : MS} {us : List U} {S : Sto} {c : Nat} {fs : List (Str × U)} {S' : Sto} (h : wps (m (start0 N us) S) { ex := fun c' fs' _ S2 => finX S c' fs' S2 = .ex c fs S' }) : runF N m us S = .ex c fs S' := by
  unfold runF
  unfold start0 at h
  cases e : m (us.map some ++ List.replicate (N - us.length) none) S with
  | ex c fs ρ S2 => rw [e] at h; exact h
  | nx _ _ => rw [e] at h; exact h.elim
  | rt _ _ => rw [e] at h; exact h.elim
  | bk _ _ => rw [e] at h; exact h.elim
  | ct _ _ => rw [e] at h; exact h.elim
  | er => rw [e] at h; exact h.elim
theorem cOk_uF (n c : Nat) (fs : List (Str × D)) : cOk n (.ins c (List.map (fun p => (p.1, U.v p.2)) fs)) = true := by
  unfold cOk
  simp [uOk]
end Pu
namespace Mi
open PySem Pu L2
theorem intD_inj {a b : List Int} : a.map D.int = b.map D.int ↔ a = b := ⟨fun h => by have := congrArg (List.map fun d => match d with | .int i => i | _ => 0) h; simpa [Function.comp_def] using this, congrArg _⟩
theorem item_holds_ok {S : Sto} {x : U} {c : Nat} {size : Int} {ms : List Int} {ts : List St3} {now : Int} (h : IsM S x c size ms ts now) (a : Str) (due : List Int) (hl : ts.length ≤ 1000) :
    f__law_item_holds [x, .v (.str a), .v (.lst (due.map D.int))] S = .ok (.v (.bl (decide (endsL ts now a = due)))) S := by
  unfold f__law_item_holds
  refine runF_eq ?_
  have hel : (endsL ts now a).length ≤ ts.length := by unfold endsL; rw [List.length_map]; exact List.length_filter_le _ _
  simp [m__law_item_holds, start0, h.at, h.2, getitem_ok h]
  refine w_lcV (ds := (endsL ts now a).map D.int) (src := none) (S1 := S) (fun _ => true) (fun _ => .bl true) ?_ ?_ nofun ?_ ?_
  · simp
  · simp; omega
  · intro d hd acc
    obtain ⟨i, hi, rfl⟩ := List.mem_map.mp hd
    simp [wipeE, whole_ok]
  rw [allT _ D.int _ (fun _ => rfl), v_all, all_true]
  simp
  rw [v_eq (dat_ints _) (dat_ints _)]
  simp [intD_inj]
end Mi
namespace K02
open PySem Pu L2 Mi
def due (size : Nat) (ts : List St3) (here : Int) (a : Str) : List Int := ((List.range size).filter fun (e : Nat) => decide ((here, a, (e : Int)) ∈ ts)).map fun (e : Nat) => (e : Int)
theorem due_eq {size : Nat} {ts : List St3} (hb : ∀ t ∈ ts, 0 ≤ t.2.2 ∧ t.2.2 < size) (here : Int) (a : Str) : endsL (sort3 ts) here a = due size ts here a := by
  refine asc_ext (lt := (· < ·)) (by omega) (by omega) (endsL_asc (sort3_asc ts) here a) ?_ fun e => ?_
  · unfold due
    rw [List.pairwise_map]
    exact (List.pairwise_lt_range.sublist List.filter_sublist).imp fun h => by omega
  · rw [endsL_mem, sort3_mem]
    unfold due
    simp only [List.mem_map, List.mem_filter, List.mem_range, decide_eq_true_eq]
    constructor
    · intro h
      have hbe := hb _ h
      simp only at hbe
      obtain ⟨n, rfl⟩ := Int.eq_ofNat_of_zero_le hbe.1
      exact ⟨n, ⟨by omega, h⟩, rfl⟩
    · rintro ⟨n, ⟨_, h⟩, rfl⟩
      exact h
theorem key_st (t : St3) : isKey (stD t) = true := by simp [stD]
theorem in_steps {S : Sto} {q : U → Sto → Prop} (neg : Bool) (t : St3) (u : U) (ts : List St3) (hu : asSeq S u = some ((ts.map stD).map U.v)) : wpO (fInX neg (.v (stD t)) u S) q = q (.v (.bl (cond neg (!decide (t ∈ ts)) (decide (t ∈ ts))))) S := by
  rw [v_inK neg hu (key_st t) (fun x hx => by obtain ⟨s, _, rfl⟩ := List.mem_map.mp hx; exact key_st s) (by simp [stD])]
  have : stD t ∈ ts.map stD ↔ t ∈ ts := ⟨fun h => by obtain ⟨s, hs, e⟩ := List.mem_map.mp h; rw [← stD_inj e]; exact hs, fun h => List.mem_map_of_mem h⟩
  simp only [this]
theorem in_ints {S : Sto} {q : U → Sto → Prop} (neg : Bool) (i : Int) (u : U) (l : List Int) (hu : asSeq S u = some ((l.map D.int).map U.v)) : wpO (fInX neg (.v (.int i)) u S) q = q (.v (.bl (cond neg (!decide (i ∈ l)) (decide (i ∈ l))))) S := by
  rw [v_inK neg hu (by simp) (fun x hx => by obtain ⟨s, _, rfl⟩ := List.mem_map.mp hx; simp) (by simp)]
  have : D.int i ∈ l.map D.int ↔ i ∈ l := by simp
  simp only [this]
theorem fin_nil (d : D) (l : Sto) : fin [] (.v d) l = .ok (.v d) [] := fin_v [] d l
theorem pure_law (ns : List Int) (hns : ns.length ≤ 63) : ∃ S', f_law_2 [.v (.frl (ns.map D.int))] [] = .ok (.v (.bl true)) S' := by
  suffices h : wpr (f_law_2 [.v (.frl (ns.map D.int))] []) (fun u _ => u = .v (.bl true)) (fun _ _ _ => False) by
    obtain ⟨u, S', e, rfl⟩ := wpr_iff.mp h
    exact ⟨S', e⟩
  unfold f_law_2
  rw [wp_runF]
  have D0 := fun S => draws_i ns 0 8 (by omega) (by omega) (by omega) S
  have D1 := fun S => draws_i ns 1 13 (by omega) (by omega) (by omega) S
  have D2 := fun S => draws_i ns 2 16 (by omega) (by omega) (by omega) S
  obtain ⟨r0, hr0⟩ : ∃ r, r = rowN ns 0 8 := ⟨_, rfl⟩
  obtain ⟨r1, hr1⟩ : ∃ r, r = rowN ns 1 13 := ⟨_, rfl⟩
  obtain ⟨r2, hr2⟩ : ∃ r, r = rowN ns 2 16 := ⟨_, rfl⟩
  have l0 : r0.length = 8 := by rw [hr0]; simp
  have l1 : r1.length = 13 := by rw [hr1]; simp
  have l2 : r2.length = 16 := by rw [hr2]; simp
  simp only [Int.reduceToNat, ← hr0, ← hr1, ← hr2] at D0 D1 D2
  clear hr0 hr1 hr2
  have I0 : ∀ i : Int, 0 ≤ i → i < 8 → ∀ k : Int → Prop, wpo (atI r0 i) k = k (rg r0 i.toNat) := fun i h0 h1 k => atI_get 0 h0 (by omega)
  have hA := fun S => asks_i r1 l1 (2 + rg r0 1 % 4) (by omega) (by omega) S
  obtain ⟨zs, hzs⟩ : ∃ z, z = asksN r1 (2 + rg r0 1 % 4).toNat := ⟨_, rfl⟩
  have zl : zs.length ≤ 5 := by rw [hzs]; simp; omega
  have zk : ∀ z ∈ zs, AskS z := by rw [hzs]; exact asksN_ask r1 l1 _
  rw [← hzs] at hA
  clear hzs
  obtain ⟨size, hsize⟩ : ∃ z : Nat, (1 + rg r0 0 % 4) = (z : Int) := ⟨(1 + rg r0 0 % 4).toNat, by omega⟩
  have sz1 : 1 ≤ size := by omega
  have sz2 : size ≤ 4 := by omega
  obtain ⟨as, has⟩ : ∃ z, z = zs.drop 1 := ⟨_, rfl⟩
  have al : as.length ≤ 8 := by rw [has]; simp; omega
  have ak : ∀ z ∈ as, AskS z := fun z hz => zk z (by rw [has] at hz; exact List.mem_of_mem_drop hz)
  have hS := fun S => steps_ok r2 (by omega) size sz2 as al (decide (rg r0 2 % 4 = 0)) S
  have hM := fun S => marks_ok (rg r0 3) size sz2 S
  have raw := stepsN_raw (row := r2) (single := decide (rg r0 2 % 4 = 0)) sz1 sz2 al ak (ms := marksN (rg r0 3) size) (fun m hm => marksN_bd hm) (by have := marksN_len (rg r0 3) size; omega)
  generalize stepsN r2 size as (decide (rg r0 2 % 4 = 0)) = ts at hS raw
  have mas := marksN_asc (rg r0 3) size
  generalize marksN (rg r0 3) size = ms at hM raw mas
  have hcut : cutU (zs.map D.str) (some 1) none = as.map D.str := by rw [cutU_lo _ _ (by omega), has]; simp
  simp [m_law_2, start0, D0, D1, D2, I0, hA, hcut, hS, hM, hsize]
  refine ⟨by omega, ?_⟩
  have rawR : Raw size ms ts.reverse := ⟨raw.s1, raw.s2, raw.m0, fun s hs => raw.t0 s (by simpa using hs), raw.ml, by simpa using raw.tl⟩
  have eS : sort3 ts.reverse = sort3 ts := sort3_eq (sort3_asc ts) fun t => by rw [sort3_mem]; simp
  have eM : sortI ms = ms := sortI_eq mas fun _ => Iff.rfl
  have hdue : ∀ (here : Int) (a : Str), endsL (sort3 ts) here a = due size ts here a := fun here a => due_eq (fun t ht => ⟨(raw.t0 t ht).2.2.1, (raw.t0 t ht).2.2.2.1⟩) here a
  have tl := raw.tl
  have tl3 := sort3_len ts
  refine for_inv (fun i ρ T => ∃ x7 x8 x9 x10 x11, ρ = [some (.v (.frl (ns.map D.int))), some (.v (.lst (r0.map D.int))), some (.v (.int size)), some (.v (.lst (zs.map D.str))), some (.v (.lst (as.map D.str))), some (.v (.lst (ts.map stD))), some (.v (.lst (ms.map D.int))), x7, x8, x9, x10, x11, none]) ⟨none, none, none, none, none, rfl⟩ ?_ ?_
  · rintro here u ρ T hu ⟨x7, x8, x9, x10, x11, rfl⟩
    obtain ⟨hh, rfl⟩ := rngU_get hu
    have OK := rawR.ok (now := here) (by omega) (by omega)
    have hs := fun T => service_ok size ms (sortI ms) ts.reverse (sort3 ts.reverse) here OK (.v (.lst (ms.map D.int))) (.v (.lst (ts.reverse.map stD))) T rfl rfl
    have hp := fun T => pattern_ok size ms (sortI ms) ts.reverse (sort3 ts.reverse) here OK (.v (.lst (ms.map D.int))) (.v (.lst (ts.reverse.map stD))) T rfl rfl
    rw [eS, eM] at hs hp
    -- what comes behind the machine
    have rest : ∀ (c n : Nat) (T : Sto) (x9 x10 x11 : Option U), IsM T (.r n) c size ms (sort3 ts) here → ∀ Q : Post, (∀ x9 x10 x11, Q.nx [some (.v (.frl (ns.map D.int))), some (.v (.lst (r0.map D.int))), some (.v (.int size)), some (.v (.lst (zs.map D.str))), some (.v (.lst (as.map D.str))), some (.v (.lst (ts.map stD))), some (.v (.lst (ms.map D.int))), some (.v (.int here)), some (.r n), x9, x10, x11, none] T) →
        ∀ m : MS, m = (sFor (iRng1 (aCons (eC (.int 2)) aNil)) (gName 9)
          (sSeq (sFor (iVal (eVar 3)) (gName 10)
          (sSeq (sAsg (eLcV [12] (iRng1 (aCons (eVar 2) aNil)) (gName 12) (tB (eOp (fInX false) (eCB fTup (aCons (eVar 7) (aCons (eVar 10) (aCons (eVar 12) aNil)))) (eVar 5))) (eVar 12)) (gName 11))
          (sIf (tNot (tB (eCall 3 f__law_item_holds [] (aCons (eVar 8) (aCons (eVar 10) (aCons (eVar 11) aNil))))))
          (sRet (eC (.bl false)))
          sNext)))
          (sIf (tOr (tB (eOp fNe (eCB (fBoolO [12, 13, 14, 17] f_Machineu_boolu) (aCons (eVar 8) aNil)) (eOp (fInX false) (eVar 7) (eVar 6)))) (tOr (tB (eOp fNe (eProp [12, 13, 14, 17] f_Machine_now (eVar 8)) (eVar 7))) (tNot (tB (eCB (fIsX isT_Machine) (aCons (eVar 8) (aCons (eC (.cls 12)) aNil)))))))
          (sRet (eC (.bl false)))
          sNext))) →
        wps (m [some (.v (.frl (ns.map D.int))), some (.v (.lst (r0.map D.int))), some (.v (.int size)), some (.v (.lst (zs.map D.str))), some (.v (.lst (as.map D.str))), some (.v (.lst (ts.map stD))), some (.v (.lst (ms.map D.int))), some (.v (.int here)), some (.r n), x9, x10, x11, none] T) Q := by
      rintro c n T x9 x10 x11 hm Q hQ m rfl
      have ht : isT_Machine c 12 = some true := by rcases hm.2 with rfl | rfl | rfl | rfl <;> rfl
      simp
      refine for_inv (fun i ρ T' => T = T' ∧ ∃ x9 x10 x11, ρ = [some (.v (.frl (ns.map D.int))), some (.v (.lst (r0.map D.int))), some (.v (.int size)), some (.v (.lst (zs.map D.str))), some (.v (.lst (as.map D.str))), some (.v (.lst (ts.map stD))), some (.v (.lst (ms.map D.int))), some (.v (.int here)), some (.r n), x9, x10, x11, none]) ⟨rfl, x9, x10, x11, rfl⟩ ?_ ?_
      · rintro turn u ρ T' hu ⟨rfl, x9, x10, x11, rfl⟩
        simp
        refine for_inv (fun i ρ T' => T = T' ∧ ∃ x10 x11, ρ = [some (.v (.frl (ns.map D.int))), some (.v (.lst (r0.map D.int))), some (.v (.int size)), some (.v (.lst (zs.map D.str))), some (.v (.lst (as.map D.str))), some (.v (.lst (ts.map stD))), some (.v (.lst (ms.map D.int))), some (.v (.int here)), some (.r n), some u, x10, x11, none]) ⟨rfl, x10, x11, rfl⟩ ?_ ?_
        · rintro i w ρ T' hw ⟨rfl, x10, x11, rfl⟩
          obtain ⟨a, ha, rfl, _⟩ := data_get2 hw
          simp
          refine w_lcV (ds := (List.range size).map fun (i : Nat) => D.int i) (src := none) (S1 := T) (fun d => match d with | .int e => decide (((here : Int), a, e) ∈ ts) | _ => false) (fun d => d) ?_ ?_ nofun ?_ ?_
          · simp [rngU_map, Function.comp_def]; omega
          · simp; omega
          · intro d hd acc
            obtain ⟨e, he, rfl⟩ := List.mem_map.mp hd
            simp [wipeE]
            rw [show D.tup [D.int here, D.str a, D.int e] = stD ((here : Int), a, (e : Int)) from rfl, in_steps false _ _ ts rfl]
            simp
          · have e : (((List.range size).map fun (i : Nat) => D.int i).filter fun d => match d with | .int e => decide (((here : Int), a, e) ∈ ts) | _ => false).map (fun d => d) = (due size ts here a).map D.int := by
              unfold due
              rw [List.filter_map, List.map_map, List.map_map]
              rfl
            rw [e]
            have hi := item_holds_ok hm a (due size ts here a) (by omega)
            rw [hdue here a] at hi
            simp [hi]
        · rintro ρ T' ⟨rfl, x10, x11, rfl⟩
          simp [-isIns_r, v_boolO _ _ _ (bool_ok hm), hm.at, hm.2, in_ints false (here : Int) (.v (.lst (ms.map D.int))) ms rfl, now_x hm, v_isX, ht]
      · rintro ρ T' ⟨rfl, x9, x10, x11, rfl⟩
        exact hQ x9 x10 x11
    have hsv := hs T
    have hpv := hp (T ++ [.ins 13 (uFs (mRec size ms (sort3 ts) here))])
    simp only [List.map_reverse] at hsv hpv
    simp only [List.length_append, List.length_cons, List.length_nil, Nat.zero_add, List.append_assoc, List.cons_append, List.nil_append] at hpv
    simp [-s_for, I0, hsv, hpv]
    split
    · refine rest 14 (T.length + 1) _ _ _ _ (isM_r (by simp) (by simp)) _ ?_ _ rfl
      intro x9 x10 x11
      simp
    · refine rest 13 T.length _ _ _ _ (isM_r (by simp) (by simp)) _ ?_ _ rfl
      intro x9 x10 x11
      simp
  · rintro ρ T ⟨x7, x8, x9, x10, x11, rfl⟩
    simp [fin_nil]
end K02
/-! Plain: a machine moves. -/
namespace Mi
open PySem Pu L2
section
variable {S : Sto} {n c : Nat} {size : Int} {ms : List Int} {ts : List St3} {now : Int}
theorem setitem_yes (h : S[n]? = some (.ins c (uFs (mRec size ms ts now)))) (hc : c = 12 ∨ c = 13 ∨ c = 14 ∨ c = 17) (a : Str) (e : Int) (he : e ∈ endsL ts now a) :
    f_Machineu_setitemu [.r n, .v (.str a), .v (.int e)] S = .ok (.v .non) (S.set n (.ins c (uFs (mRec size ms ts e)))) := by
  unfold f_Machineu_setitemu
  refine runF_eq ?_
  have hm : IsM S (.r n) c size ms ts now := isM_r h hc
  have ee := endsD_getD ts now a
  unfold keyS at ee
  simp [-isIns_r, m_Machineu_setitemu, start0, hm.at, hm.2, v_getV, ee]
  rw [K02.in_ints true e _ _ rfl]
  simp [he, putFld, h, hc, uFs, mRec, mFs, putU]
  exact fin_set (cOk_uF _ c (mRec size ms ts e))
theorem setitem_no (h : S[n]? = some (.ins c (uFs (mRec size ms ts now)))) (hc : c = 12 ∨ c = 13 ∨ c = 14 ∨ c = 17) (a : Str) (e : Int) (he : e ∉ endsL ts now a) :
    f_Machineu_setitemu [.r n, .v (.str a), .v (.int e)] S = .ex 4 [("end", .v (.int e)), ("ask", .v (.str a))] S := by
  unfold f_Machineu_setitemu
  refine runF_ex ?_
  have hm : IsM S (.r n) c size ms ts now := isM_r h hc
  have ee := endsD_getD ts now a
  unfold keyS at ee
  simp [-isIns_r, m_Machineu_setitemu, start0, hm.at, hm.2, v_getV, ee]
  rw [K02.in_ints true e _ _ rfl]
  simp [he]
  exact finX_v S 4 [("end", .int e), ("ask", .str a)]
theorem moved_yes (h : S[n]? = some (.ins c (uFs (mRec size ms ts now)))) (hc : c = 12 ∨ c = 13 ∨ c = 14 ∨ c = 17) (a : Str) (e : Int) (he : e ∈ endsL ts now a) :
    f__law_moved [.r n, .v (.str a), .v (.int e)] S = .ok (.v (.str "moves")) (S.set n (.ins c (uFs (mRec size ms ts e)))) := by
  unfold f__law_moved
  refine runF_eq ?_
  have hm : IsM S (.r n) c size ms ts now := isM_r h hc
  simp [-isIns_r, m__law_moved, start0, hm.at, hm.2, setitem_yes h hc a e he]
  exact fin_set (cOk_uF _ c (mRec size ms ts e))
theorem moved_no (h : S[n]? = some (.ins c (uFs (mRec size ms ts now)))) (hc : c = 12 ∨ c = 13 ∨ c = 14 ∨ c = 17) (a : Str) (e : Int) (he : e ∉ endsL ts now a) :
    f__law_moved [.r n, .v (.str a), .v (.int e)] S = .ok (.v (.str "stays")) S := by
  unfold f__law_moved
  refine runF_eq ?_
  have hm : IsM S (.r n) c size ms ts now := isM_r h hc
  simp [-isIns_r, m__law_moved, start0, hm.at, hm.2, setitem_no h hc a e he]
  rw [wCatch_yes (c := 4) (c' := 4) (ds := [("end", .int e), ("ask", .str a)]) rfl rfl]
  simp [exT_k03, whole_ok, offP]
theorem stands_ok {x : U} (hm : IsM S x c size ms ts now) {sz : Nat} (hsz : (sz : Int) ≤ 1000) (mu tu : List D) (ms0 : List Int) (ts0 : List St3) (as : List Str) (hmm : ∀ m, m ∈ ms ↔ m ∈ ms0) (htl : ts.length ≤ 1000) (hal : as.length ≤ 1000)
    (hdue : ∀ a, endsL ts now a = K02.due sz ts0 now a) :
    f__law_stands [x, .v (.int now), .v (.int sz), .v (.lst (ms0.map D.int)), .v (.lst (ts0.map stD)), .v (.lst (as.map D.str))] S = .ok (.v (.bl true)) S := by
  unfold f__law_stands
  refine runF_eq ?_
  have ht : isT_Machine c 12 = some true := by rcases hm.2 with rfl | rfl | rfl | rfl <;> rfl
  simp [-isIns_r, m__law_stands, start0, v_boolO _ _ _ (bool_ok hm), hm.at, hm.2, K02.in_ints false now (.v (.lst (ms0.map D.int))) ms0 rfl, now_x hm, v_isX, ht, whole_ok, hmm]
  refine for_inv (fun i ρ T => T = S ∧ ∃ x6, ρ = [some x, some (.v (.int now)), some (.v (.int sz)), some (.v (.lst (ms0.map D.int))), some (.v (.lst (ts0.map stD))), some (.v (.lst (as.map D.str))), x6, none]) ⟨rfl, none, rfl⟩ ?_ ?_
  · rintro i u ρ T hu ⟨rfl, x6, rfl⟩
    obtain ⟨a, ha, rfl, _⟩ := data_get2 hu
    have hel : (endsL ts now a).length ≤ ts.length := by unfold endsL; rw [List.length_map]; exact List.length_filter_le _ _
    simp [-isIns_r, hm.at, hm.2, getitem_ok hm]
    refine w_lcV (ds := (List.range sz).map fun (i : Nat) => D.int i) (src := none) (S1 := T) (fun d => match d with | .int e => decide ((now, a, e) ∈ ts0) | _ => false) (fun d => d) ?_ ?_ nofun ?_ ?_
    · simp [rngU_map, Function.comp_def]; omega
    · simp; omega
    · intro d hd acc
      obtain ⟨e, he, rfl⟩ := List.mem_map.mp hd
      simp [wipeE]
      rw [show D.tup [D.int now, D.str a, D.int e] = stD (now, a, (e : Int)) from rfl, K02.in_steps false _ _ ts0 rfl]
      simp
    · have e : (((List.range sz).map fun (i : Nat) => D.int i).filter fun d => match d with | .int e => decide ((now, a, e) ∈ ts0) | _ => false).map (fun d => d) = (K02.due sz ts0 now a).map D.int := by
        unfold K02.due
        rw [List.filter_map, List.map_map, List.map_map]
        rfl
      rw [e, v_ne (dat_ints _) (dat_ints _), hdue]
      simp
  · rintro ρ T ⟨rfl, x6, rfl⟩
    simp
end
end Mi
namespace Mi
open PySem L2 Pu
noncomputable def m__law_random : MS := (sSeq (sAsg (eOp fAdd (eC (.int 1)) (eOp (fI gMod) (eCB fInt (aCons (eOp fIxX (eVar 0) (eC (.int 0))) aNil)) (eC (.int 4)))) (gName 2))
  (sSeq (sAsg (eCB fLstS aNil) (gName 3))
  (sSeq (sFor (iRng1 (aCons (eVar 2) aNil)) (gName 4)
  (sFor (iRng1 (aCons (eCB fLen (aCons (eVar 1) aNil)) aNil)) (gName 5)
  (sSeq (sAsg (eOp fIxX (eVar 0) (eOp (fI gMod) (eCB fInt (aCons (eOp fAdd (eOp fAdd (eC (.int 4)) (eOp (fI gMul) (eVar 4) (eCB fLen (aCons (eVar 1) aNil)))) (eVar 5)) aNil)) (eCB fLen (aCons (eVar 0) aNil)))) (gName 6))
  (sFor (iRng1 (aCons (eVar 2) aNil)) (gName 7)
  (sIf (tOr (tB (eOp fEq (eOp (fI gMod) (eCB fInt (aCons (eVar 6) aNil)) (eOp fAdd (eVar 2) (eC (.int 2)))) (eVar 7))) (tAnd (tB (eOp (fI (gCmp fun i j => decide (j ≤ i))) (eVar 6) (eC (.int 58)))) (tB (eOp fEq (eOp (fI gMod) (eCB fInt (aCons (eOp fAdd (eVar 6) (eVar 7)) aNil)) (eC (.int 2))) (eC (.int 0))))))
  (sExpr (eMtT isL fAppend (eVar 3) (aCons (eCB fTup (aCons (eVar 4) (aCons (eOp fIxX (eVar 1) (eVar 5)) (aCons (eVar 7) aNil)))) aNil)))
  sNext)))))
  (sRet (eCB fTup (aCons (eVar 2) (aCons (eCall 2 f__law_marks [] (aCons (eOp fIxX (eVar 0) (eC (.int 1))) (aCons (eVar 2) aNil))) (aCons (eFz (eVar 3)) (aCons (eOp (fI gMod) (eCB fInt (aCons (eOp fIxX (eVar 0) (eC (.int 2))) aNil)) (eVar 2)) aNil)))))))))
noncomputable def f__law_random : List U → Sto → R U := runF 8 m__law_random
noncomputable def m__law_copied : MS := (sSeq (sAsg (eOp fAdd (eC (.int 1)) (eOp (fI gMod) (eCB fInt (aCons (eOp fIxX (eVar 0) (eC (.int 0))) aNil)) (eC (.int 5)))) (gName 3))
  (sSeq (sAsg (eLcV [8] (iRng1 (aCons (eVar 3) aNil)) (gName 8) tYesM (eOp (fI gMod) (eCB fInt (aCons (eOp fIxX (eVar 0) (eOp fAdd (eC (.int 1)) (eVar 8))) aNil)) (eOp fIxX (eVar 1) (eC (.int 0))))) (gName 4))
  (sSeq (sAsg (eLcS [8] (iRng1 (aCons (eVar 3) aNil)) (gName 8) (tAnd (tB (eOp (fInX false) (eOp fIxX (eVar 4) (eVar 8)) (eOp fIxX (eVar 1) (eC (.int 1))))) (tB (eOp (fI (gCmp fun i j => decide (j < i))) (eOp (fI gMod) (eCB fInt (aCons (eOp fIxX (eVar 0) (eOp fAdd (eC (.int 6)) (eVar 8))) aNil)) (eC (.int 4))) (eC (.int 0))))) (eVar 8)) (gName 5))
  (sSeq (sAsg (eCB fLstS aNil) (gName 6))
  (sSeq (sAsg (eC (.int 0)) (gName 7))
  (sSeq (sFor (iRng1 (aCons (eVar 3) aNil)) (gName 8)
  (sFor (iVal (eOp fIxX (eVar 1) (eC (.int 2)))) (gTup 3 (gCons (gName 9) (gCons (gName 10) (gCons (gName 11) gNil))))
  (sIf (tB (eOp fEq (eVar 9) (eOp fIxX (eVar 4) (eVar 8))))
  (sFor (iRng1 (aCons (eVar 3) aNil)) (gName 12)
  (sSeq (sAsg (eOp fAdd (eVar 7) (eC (.int 1))) (gName 7))
  (sIf (tAnd (tB (eOp fEq (eOp fIxX (eVar 4) (eVar 12)) (eVar 11))) (tB (eOp (fI (gCmp fun i j => decide (j < i))) (eOp (fI gMod) (eCB fInt (aCons (eOp fAdd (eOp fIxX (eVar 0) (eOp (fI gMod) (eCB fInt (aCons (eVar 7) aNil)) (eC (.int 24)))) (eVar 7)) aNil)) (eC (.int 3))) (eC (.int 0)))))
  (sExpr (eMtT isL fAppend (eVar 6) (aCons (eCB fTup (aCons (eVar 8) (aCons (eVar 10) (aCons (eVar 12) aNil)))) aNil)))
  sNext)))
  sNext)))
  (sSeq (sIf (tB (eOp fEq (eOp (fI gMod) (eCB fInt (aCons (eOp fIxX (eVar 0) (eC (.int 12))) aNil)) (eC (.int 6))) (eC (.int 0))))
  (sExpr (eMtT isL fAppend (eVar 6) (aCons (eCB fTup (aCons (eOp (fI gMod) (eCB fInt (aCons (eOp fIxX (eVar 0) (eC (.int 13))) aNil)) (eVar 3)) (aCons (eOp fIxX (eVar 2) (eOp (fI gMod) (eCB fInt (aCons (eOp fIxX (eVar 0) (eC (.int 14))) aNil)) (eCB fLen (aCons (eVar 2) aNil)))) (aCons (eOp (fI gMod) (eCB fInt (aCons (eOp fIxX (eVar 0) (eC (.int 15))) aNil)) (eVar 3)) aNil)))) aNil)))
  sNext)
  (sSeq (sIf (tB (eOp fEq (eOp (fI gMod) (eCB fInt (aCons (eOp fIxX (eVar 0) (eC (.int 12))) aNil)) (eC (.int 6))) (eC (.int 1))))
  (sExpr (eMtT isL fAppend (eVar 5) (aCons (eOp (fI gMod) (eCB fInt (aCons (eOp fIxX (eVar 0) (eC (.int 13))) aNil)) (eVar 3)) aNil)))
  sNext)
  (sRet (eCB fTup (aCons (eVar 3) (aCons (eFz (eVar 5)) (aCons (eFz (eVar 6)) (aCons (eOp (fI gMod) (eCB fInt (aCons (eOp fIxX (eVar 0) (eC (.int 16))) aNil)) (eVar 3)) aNil))))))))))))))
noncomputable def f__law_copied : List U → Sto → R U := runF 13 m__law_copied
noncomputable def m__law_client : MS := (sRet (eMk 14 5 f_Patternu_initu [] (aCons (eOp fIxX (eVar 0) (eC (.int 0))) (aCons (eCB fListX (aCons (eOp fIxX (eVar 0) (eC (.int 1))) aNil)) (aCons (eCB fListX (aCons (eOp fIxX (eVar 0) (eC (.int 2))) aNil)) (aCons (eOp fIxX (eVar 0) (eC (.int 3))) aNil))))))
noncomputable def f__law_client : List U → Sto → R U := runF 1 m__law_client
noncomputable def m__law_pairs : MS := (sSeq (sAsg (eCB fDicS aNil) (gName 2))
  (sSeq (sFor (iVal (eOp fIxX (eVar 0) (eC (.int 2)))) (gName 3)
  (sSet (eVar 2) (eVar 3) (eC (.bl true))))
  (sSeq (sAsg (eCB fLstS aNil) (gName 4))
  (sSeq (sFor (iRng1 (aCons (eOp fIxX (eVar 0) (eC (.int 0))) aNil)) (gName 5)
  (sSeq (sAsg (eCB fLstV aNil) (gName 6))
  (sSeq (sFor (iVal (eVar 1)) (gName 7)
  (sAsg (eOp fAdd (eVar 6) (eLcV [8] (iRng1 (aCons (eOp fIxX (eVar 0) (eC (.int 0))) aNil)) (gName 8) (tB (eOp (fInX false) (eCB fTup (aCons (eVar 5) (aCons (eVar 7) (aCons (eVar 8) aNil)))) (eVar 2))) (eCB fTup (aCons (eVar 7) (aCons (eVar 8) aNil))))) (gName 6)))
  (sExpr (eMtT isL fAppend (eVar 4) (aCons (eVar 6) aNil))))))
  (sRet (eVar 4))))))
noncomputable def f__law_pairs : List U → Sto → R U := runF 9 m__law_pairs
noncomputable def m__law_strike : MS := (sSeq (sAsg (eC (.bl false)) (gName 4))
  (sSeq (sFor (iVal (eLk (pickV 3) (eLcV [7] (iDic (eVar 3)) (gName 7) tYesM (eVar 7)))) (gTup 2 (gCons (gName 5) (gCons (gName 6) gNil)))
  (sIf (tB (eOp fIxX (eVar 3) (eCB fTup (aCons (eVar 5) (aCons (eVar 6) aNil)))))
  (sFor (iVal (eOp fIxX (eVar 1) (eVar 5))) (gTup 2 (gCons (gName 8) (gCons (gName 9) gNil)))
  (sSeq (sAsg (eLcV [7] (iVal (eOp fIxX (eVar 2) (eVar 6))) (gName 7) (tAnd (tB (eOp fEq (eOp fIxX (eVar 7) (eC (.int 0))) (eVar 8))) (tB (eOp fIxX (eVar 3) (eCB fTup (aCons (eVar 9) (aCons (eOp fIxX (eVar 7) (eC (.int 1))) aNil)))))) (eVar 7)) (gName 10))
  (sIf (tB (eOp fEq (eCB fLen (aCons (eVar 10) aNil)) (eC (.int 0))))
  (sSeq (sSet (eVar 3) (eCB fTup (aCons (eVar 5) (aCons (eVar 6) aNil))) (eC (.bl false)))
  (sAsg (eC (.bl true)) (gName 4)))
  sNext)))
  sNext))
  (sRet (eVar 4))))
noncomputable def f__law_strike : List U → Sto → R U := runF 11 m__law_strike
noncomputable def m__law_follows : MS := (sSeq (sAsg (eCall 2 f__law_pairs [] (aCons (eVar 0) (aCons (eVar 2) aNil))) (gName 3))
  (sSeq (sAsg (eCall 2 f__law_pairs [] (aCons (eVar 1) (aCons (eVar 2) aNil))) (gName 4))
  (sSeq (sAsg (eCB fDicS aNil) (gName 5))
  (sSeq (sFor (iRng1 (aCons (eOp fIxX (eVar 0) (eC (.int 0))) aNil)) (gName 6)
  (sFor (iRng1 (aCons (eOp fIxX (eVar 1) (eC (.int 0))) aNil)) (gName 8)
  (sSet (eVar 5) (eCB fTup (aCons (eVar 6) (aCons (eVar 8) aNil))) (eOr (eOp (fInX true) (eVar 6) (eOp fIxX (eVar 0) (eC (.int 1)))) (eOp (fInX false) (eVar 8) (eOp fIxX (eVar 1) (eC (.int 1))))))))
  (sSeq (sFor (iRng1 (aCons (eOp fAdd (eOp (fI gMul) (eOp fIxX (eVar 0) (eC (.int 0))) (eOp fIxX (eVar 1) (eC (.int 0)))) (eC (.int 1))) aNil)) (gName 7)
  (sIf (tNot (tB (eCall 4 f__law_strike [] (aCons (eVar 0) (aCons (eVar 3) (aCons (eVar 4) (aCons (eVar 5) aNil)))))))
  (sRet (eOp fIxX (eVar 5) (eCB fTup (aCons (eOp fIxX (eVar 0) (eC (.int 3))) (aCons (eOp fIxX (eVar 1) (eC (.int 3))) aNil)))))
  sNext))
  (sRet (eC (.bl false))))))))
noncomputable def f__law_follows : List U → Sto → R U := runF 9 m__law_follows
noncomputable def m_pairs_by_state : MS := (sSeq (sAsg (eLcS [2] (iRng1 (aCons (eUn (fFld [12, 13, 14, 17, 18] "size") (eVar 0)) aNil)) (gName 2) tYesM (eCB fTup aNil)) (gName 1))
  (sSeq (sFor (iVal (eUn (fFld [12, 13, 14, 17] "steps") (eVar 0))) (gTup 3 (gCons (gName 2) (gCons (gName 3) (gCons (gName 4) gNil))))
  (sSet (eVar 1) (eVar 2) (eOp fAdd (eOp fIxX (eVar 1) (eVar 2)) (eCB fTup (aCons (eCB fTup (aCons (eVar 3) (aCons (eVar 4) aNil))) aNil)))))
  (sRet (eVar 1))))
noncomputable def f_pairs_by_state : List U → Sto → R U := runF 5 m_pairs_by_state
noncomputable def m_nodes_before : MS := (sSeq (sAsg (eCB fDicS aNil) (gName 1))
  (sSeq (sLk (pickV 0) (sFor (iDic (eVar 0)) (gName 2)
  (sSeq (sAsg (eD3 [5, 6, 4] [6, 4] [4] (iVal (eOp fIxX (eVar 0) (eVar 2))) (gName 5) tYesM (iVal (eVar 5)) (gName 6) tYesM (iVal (eVar 6)) (gName 4) tYesM (eVar 4) (eC (.bl true))) (gName 3))
  (sLk (pickV 3) (sFor (iDic (eVar 3)) (gName 4)
  (sSet (eVar 1) (eVar 4) (eOp fAdd (eMtT isDc fGet (eVar 1) (aCons (eVar 4) (aCons (eCB fLstV aNil) aNil))) (eCB fLstV (aCons (eVar 2) aNil)))))))))
  (sRet (eVar 1))))
noncomputable def f_nodes_before : List U → Sto → R U := runF 7 m_nodes_before
noncomputable def m_forced : MS := (sSeq (sFor (iVal (eVar 0)) (gName 2)
  (sIf (tB (eCB fAll (aCons (eLcV [3] (iVal (eVar 2)) (gName 3) tYesM (eCB fAny (aCons (eLcV [4] (iVal (eVar 3)) (gName 4) tYesM (eOp (fInX false) (eVar 4) (eVar 1))) aNil))) aNil)))
  (sRet (eC (.bl true)))
  sNext))
  (sRet (eC (.bl false))))
noncomputable def f_forced : List U → Sto → R U := runF 5 m_forced
noncomputable def m_find_rounds : MS := (sSeq (sAsg (eCall 1 f_nodes_before [] (aCons (eVar 0) aNil)) (gName 2))
  (sSeq (sAsg (eCB fDicS aNil) (gName 3))
  (sSeq (sFor (iVal (eVar 1)) (gName 4)
  (sSet (eVar 3) (eVar 4) (eC (.int 0))))
  (sSeq (sLk (pickV 0) (sAsg (eLcV [4] (iDic (eVar 0)) (gName 4) (tB (eOp (fInX true) (eVar 4) (eVar 3))) (eVar 4)) (gName 5)))
  (sSeq (sAsg (eC (.int 1)) (gName 6))
  (sSeq (sWhile (tB (eOp (fI (gCmp fun i j => decide (j < i))) (eCB fLen (aCons (eVar 5) aNil)) (eC (.int 0))))
  (sSeq (sAsg (eLcV [4] (iVal (eVar 5)) (gName 4) (tB (eCall 2 f_forced [] (aCons (eOp fIxX (eVar 0) (eVar 4)) (aCons (eVar 3) aNil)))) (eVar 4)) (gName 7))
  (sSeq (sFor (iVal (eVar 7)) (gName 4)
  (sSet (eVar 3) (eVar 4) (eVar 6)))
  (sSeq (sAsg (eCB fDicS aNil) (gName 8))
  (sSeq (sFor (iVal (eVar 7)) (gName 4)
  (sFor (iVal (eMtT isDc fGet (eVar 2) (aCons (eVar 4) (aCons (eCB fLstV aNil) aNil)))) (gName 9)
  (sIf (tB (eOp (fInX true) (eVar 9) (eVar 3)))
  (sSet (eVar 8) (eVar 9) (eC (.bl true)))
  sNext)))
  (sSeq (sAsg (eCB fListX (aCons (eVar 8) aNil)) (gName 5))
  (sAsg (eOp fAdd (eVar 6) (eC (.int 1))) (gName 6))))))))
  (sRet (eVar 3))))))))
noncomputable def f_find_rounds : List U → Sto → R U := runF 10 m_find_rounds
noncomputable def m_is_narrower : MS := (sSeq (sAsg (eCall 1 f_pairs_by_state [] (aCons (eVar 0) aNil)) (gName 2))
  (sSeq (sAsg (eCB fTup (aCons (eProp [12, 13, 14, 17] f_Machine_now (eVar 0)) (aCons (eProp [12, 13, 14, 17] f_Machine_now (eVar 1)) aNil))) (gName 3))
  (sSeq (sAsg (eCB fDicS aNil) (gName 4))
  (sSeq (sAsg (eCB fLstS aNil) (gName 5))
  (sSeq (sAsg (eCB fLstS (aCons (eVar 3) aNil)) (gName 6))
  (sSeq (sWhile (tB (eOp (fI (gCmp fun i j => decide (j < i))) (eCB fLen (aCons (eVar 6) aNil)) (eC (.int 0))))
  (sSeq (sAsg (eMtT isL fPop (eVar 6) aNil) (gName 7))
  (sSeq (sIf (tB (eOp (fInX false) (eVar 7) (eVar 4)))
  sCont
  sNext)
  (sSeq (sAsg (eVar 7) (gTup 2 (gCons (gName 9) (gCons (gName 10) gNil))))
  (sSeq (sAsg (eCB fLstV aNil) (gName 8))
  (sSeq (sIf (tAnd (tB (eOp (fInX false) (eVar 9) (eUn (fFld [12, 13, 14, 17] "marks") (eVar 0)))) (tB (eOp (fInX true) (eVar 10) (eUn (fFld [12, 13, 14, 17] "marks") (eVar 1)))))
  (sExpr (eMtT isL fAppend (eVar 5) (aCons (eVar 7) aNil)))
  (sAsg (eLcV [15, 16] (iVal (eOp fIxX (eVar 2) (eVar 9))) (gTup 2 (gCons (gName 15) (gCons (gName 16) gNil))) tYesM (eLcV [14] (iVal (eMtT isDc fGet (eUn (fFld [12, 13, 14, 17] "ends") (eVar 1)) (aCons (eCB fTup (aCons (eVar 10) (aCons (eVar 15) aNil))) (aCons (eCB fTup aNil) aNil)))) (gName 14) tYesM (eCB fLstV (aCons (eCB fTup (aCons (eVar 16) (aCons (eVar 14) aNil))) aNil)))) (gName 8)))
  (sSeq (sSet (eVar 4) (eVar 7) (eVar 8))
  (sExpr (eMtT isL fExtend (eVar 6) (aCons (eL3 kfV [11, 12, 13] [12, 13] [13] (iVal (eVar 8)) (gName 11) tYesM (iVal (eVar 11)) (gName 12) tYesM (iVal (eVar 12)) (gName 13) tYesM (eVar 13)) aNil))))))))))
  (sRet (eOp (fInX true) (eVar 3) (eCall 2 f_find_rounds [] (aCons (eVar 4) (aCons (eVar 5) aNil)))))))))))
noncomputable def f_is_narrower : List U → Sto → R U := runF 17 m_is_narrower
noncomputable def m_Patternu_leu : MS := (sRet (eCall 2 f_is_narrower [] (aCons (eVar 0) (aCons (eVar 1) aNil))))
noncomputable def f_Patternu_leu : List U → Sto → R U := runF 2 m_Patternu_leu
noncomputable def m__law_compared : MS := (sSeq (sAsg (eOp (fCmpO [14, 17] f_Patternu_leu) (eVar 0) (eVar 1)) (gName 3))
  (sRet (eAnd (eCB fIsi (aCons (eVar 3) (aCons (eC (.ty "bool")) aNil))) (eOp fEq (eVar 3) (eVar 2)))))
noncomputable def f__law_compared : List U → Sto → R U := runF 4 m__law_compared
noncomputable def m_law_3 : MS := (sSeq (sAsg (eCall 3 f__law_draws [] (aCons (eVar 0) (aCons (eC (.int 0)) (aCons (eC (.int 4)) aNil)))) (gName 1))
  (sSeq (sAsg (eCall 2 f__law_asks [] (aCons (eCall 3 f__law_draws [] (aCons (eVar 0) (aCons (eC (.int 1)) (aCons (eC (.int 13)) aNil)))) (aCons (eOp fAdd (eC (.int 1)) (eOp (fI gMod) (eCB fInt (aCons (eOp fIxX (eVar 1) (eC (.int 1))) aNil)) (eC (.int 3)))) aNil))) (gName 2))
  (sSeq (sAsg (eCB fSorted (aCons (eLcV [9] (iVal (eVar 2)) (gName 9) tYesM (eCB fStr (aCons (eVar 9) aNil))) aNil)) (gName 3))
  (sSeq (sAsg (eCall 2 f__law_random [] (aCons (eCall 3 f__law_draws [] (aCons (eVar 0) (aCons (eC (.int 2)) (aCons (eC (.int 24)) aNil)))) (aCons (eVar 3) aNil))) (gName 4))
  (sSeq (sAsg (eCall 3 f__law_copied [] (aCons (eCall 3 f__law_draws [] (aCons (eVar 0) (aCons (eC (.int 3)) (aCons (eC (.int 24)) aNil)))) (aCons (eVar 4) (aCons (eVar 3) aNil)))) (gName 5))
  (sSeq (sAsg (eCall 1 f__law_client [] (aCons (eVar 4) aNil)) (gName 6))
  (sSeq (sAsg (eCall 1 f__law_client [] (aCons (eVar 5) aNil)) (gName 7))
  (sSeq (sFor (iRng1 (aCons (eC (.int 2)) aNil)) (gName 8)
  (sSeq (sIf (tNot (tB (eCall 3 f__law_compared [] (aCons (eVar 7) (aCons (eVar 6) (aCons (eCall 3 f__law_follows [] (aCons (eVar 5) (aCons (eVar 4) (aCons (eVar 3) aNil)))) aNil))))))
  (sRet (eC (.bl false)))
  sNext)
  (sSeq (sIf (tNot (tB (eCall 3 f__law_compared [] (aCons (eVar 6) (aCons (eVar 7) (aCons (eCall 3 f__law_follows [] (aCons (eVar 4) (aCons (eVar 5) (aCons (eVar 3) aNil)))) aNil))))))
  (sRet (eC (.bl false)))
  sNext)
  (sIf (tOr (tNot (tB (eCall 3 f__law_compared [] (aCons (eVar 6) (aCons (eVar 6) (aCons (eC (.bl true)) aNil)))))) (tNot (tB (eCall 3 f__law_compared [] (aCons (eVar 7) (aCons (eVar 7) (aCons (eC (.bl true)) aNil)))))))
  (sRet (eC (.bl false)))
  sNext))))
  (sRet (eAnd (eOp fEq (eProp [12, 13, 14, 17] f_Machine_now (eVar 6)) (eOp fIxX (eVar 4) (eC (.int 3)))) (eAnd (eOp fEq (eProp [12, 13, 14, 17] f_Machine_now (eVar 7)) (eOp fIxX (eVar 5) (eC (.int 3)))) (eAnd (eCB (fIsX isT_Pattern) (aCons (eVar 7) (aCons (eC (.cls 14)) aNil))) (eCB (fIsX isT_Machine) (aCons (eVar 6) (aCons (eC (.cls 12)) aNil)))))))))))))))
noncomputable def f_law_3 : List U → Sto → R U := runF 10 m_law_3
end Mi
/-! Plain: striking. -/
namespace Pu
open PySem L2
/-- a comprehension over encoded items -/
theorem w_lcT {α : Type} {vs : List Nat} {it : MI} {g : MG} {t : MT} {e : ME} {ρ : Env'} {S S1 : Sto} {src : Option Nat} {q : U → Sto → Prop} {X : XP} (enc : α → D) (xs : List α) (p : α → Bool) (f : α → D)
    (hi : wpr (it ρ S) (fun iv T => iv = ⟨(xs.map enc).map U.v, src⟩ ∧ T = S1) (fun _ _ _ => False)) (hl : xs.length < 100000) (hs : ∀ n, src = some n → n < S1.length)
    (h : ∀ x ∈ xs, ∀ acc : List D, wpo (g (.v (enc x)) (wipeE ρ vs)) fun ρ1 => wpr (t ρ1 (S1 ++ [.lst (acc.map U.v)])) (fun b T => b = p x ∧ T = S1 ++ [.lst (acc.map U.v)]) (fun _ _ _ => False) ∧
      (p x = true → wpr (e ρ1 (S1 ++ [.lst (acc.map U.v)])) (fun u T => u = .v (f x) ∧ T = S1 ++ [.lst (acc.map U.v)]) (fun _ _ _ => False)))
    (k : q (.v (.lst ((xs.filter p).map f))) S1) : wpr (eLcV vs it g t e ρ S) q X := by
  classical
  have same : ∀ x ∈ xs, ∀ y ∈ xs, enc x = enc y → p x = p y ∧ (p x = true → f x = f y) := fun x hx y hy e => by
    have a := h x hx []
    have b := h y hy []
    rw [e] at a
    cases qg : g (.v (enc y)) (wipeE ρ vs) with
    | none => rw [qg] at a; exact a.elim
    | some ρ1 =>
      rw [qg] at a b
      have a1 := eq_of_wpr a.1
      have b1 := eq_of_wpr b.1
      have hp : p x = p y := by rw [a1] at b1; injection b1
      refine ⟨hp, fun z => ?_⟩
      have a2 := eq_of_wpr (a.2 z)
      have b2 := eq_of_wpr (b.2 (hp ▸ z))
      rw [a2] at b2
      injection b2 with b2
      injection b2
  let p' : D → Bool := fun d => if z : ∃ x, x ∈ xs ∧ enc x = d then p z.choose else false
  let f' : D → D := fun d => if z : ∃ x, x ∈ xs ∧ enc x = d then f z.choose else .non
  have hp : ∀ x ∈ xs, p' (enc x) = p x := fun x hx => by
    have z : ∃ y, y ∈ xs ∧ enc y = enc x := ⟨x, hx, rfl⟩
    show (if z : ∃ y, y ∈ xs ∧ enc y = enc x then p z.choose else false) = _
    rw [dif_pos z]
    exact (same _ z.choose_spec.1 _ hx z.choose_spec.2).1
  have hf : ∀ x ∈ xs, p x = true → f' (enc x) = f x := fun x hx px => by
    have z : ∃ y, y ∈ xs ∧ enc y = enc x := ⟨x, hx, rfl⟩
    show (if z : ∃ y, y ∈ xs ∧ enc y = enc x then f z.choose else .non) = _
    rw [dif_pos z]
    have s := same _ z.choose_spec.1 _ hx z.choose_spec.2
    exact s.2 (s.1.trans px)
  refine w_lcV (ds := xs.map enc) p' f' hi (by simpa using hl) hs (fun d hd acc => ?_) ?_
  · obtain ⟨x, hx, rfl⟩ := List.mem_map.mp hd
    rw [hp x hx]
    have a := h x hx acc
    cases qg : g (.v (enc x)) (wipeE ρ vs) with
    | none => rw [qg] at a; exact a.elim
    | some ρ1 =>
      rw [qg] at a
      exact ⟨a.1, fun z => by have := a.2 z; rwa [← hf x hx z] at this⟩
  · have e : (((xs.map enc).filter p').map f') = (xs.filter p).map f := by
      rw [List.filter_map, List.map_map, show xs.filter (p' ∘ enc) = xs.filter p from List.filter_congr fun x hx => hp x hx]
      refine List.map_congr_left fun x hx => ?_
      rw [List.mem_filter] at hx
      exact hf x hx.1 hx.2
    rw [e]; exact k
theorem v_allM {α : Type} {q : U → Sto → Prop} {S : Sto} (f : α → Bool) (l : List α) : wpO (fAll [.v (.lst (l.map fun x => .bl (f x)))] S) q = q (.v (.bl (l.all f))) S := by
  have := v_all (q := q) (S := S) (l.map f)
  simpa [Function.comp_def] using this
theorem v_anyM {α : Type} {q : U → Sto → Prop} {S : Sto} (f : α → Bool) (l : List α) : wpO (fAny [.v (.lst (l.map fun x => .bl (f x)))] S) q = q (.v (.bl (l.any f))) S := by
  have := v_any (q := q) (S := S) (l.map f)
  simpa [Function.comp_def] using this
theorem filt_t {α : Type} (l : List α) : (l.filter fun _ => true) = l := List.filter_eq_self.mpr fun _ _ => rfl
theorem asDic_app {S : Sto} {u : U} {kvs : List (D × U)} (l : Sto) (h : asDic S u = some kvs) : asDic (S ++ l) u = some kvs := by
  cases u with
  | v d => cases d <;> first | exact h | cases h
  | r n =>
    unfold asDic at h ⊢
    simp only at h ⊢
    cases hc : S[n]? with
    | none => rw [hc] at h; cases h
    | some c => rw [List.getElem?_append_left (List.getElem?_eq_some_iff.mp hc).1]; exact h
end Pu
namespace Mi
open PySem Pu L2
abbrev Opts := List (List (List D))
abbrev Gr := List (D × Opts)
def ansD (a : List (List D)) : D := .lst (a.map D.lst)
def optD (o : Opts) : D := .lst (o.map ansD)
def grD (g : Gr) : List (D × D) := g.map fun p => (p.1, optD p.2)
def Nd (d : D) : Prop := ∃ ks, d = .tup ks ∧ isKey d = true
def frcA (R : D → Bool) (a : List (List D)) : Bool := a.all fun e => e.any R
def frcB (o : Opts) (R : D → Bool) : Bool := o.any (frcA R)
/-- options in bounds, all ends nodes -/
structure OOk (o : Opts) : Prop where
  l0 : o.length < 100000
  l1 : ∀ a ∈ o, a.length < 100000
  l2 : ∀ a ∈ o, ∀ e ∈ a, e.length < 100000
  nd : ∀ a ∈ o, ∀ e ∈ a, ∀ x ∈ e, Nd x
theorem forced_ok {S : Sto} {r : U} {R : List (D × D)} (o : Opts) (hr : asDic S r = some (R.map vv)) (ho : OOk o) :
    f_forced [.v (optD o), r] S = .ok (.v (.bl (frcB o (dhasD R)))) S := by
  unfold f_forced
  refine runF_eq ?_
  simp [m_forced, start0, optD, -List.map_map]
  refine for_inv (fun i ρ T => T = S ∧ ∃ x, ρ = [some (.v (optD o)), some r, x, none, none] ∧ ∀ a ∈ o.take i, frcA (dhasD R) a = false) ⟨rfl, none, rfl, by simp⟩ ?_ ?_
  · rintro i u ρ T hu ⟨rfl, x, rfl, hp⟩
    obtain ⟨a, ha, rfl, hdr⟩ := data_get hu
    have hm : a ∈ o := List.mem_of_getElem? ha
    simp [ansD, -List.map_map]
    refine w_lcT D.lst a (src := none) (S1 := T) (fun _ => true) (fun e => .bl (e.any (dhasD R))) ?_ ?_ nofun ?_ ?_
    · simp
    · exact ho.l1 a hm
    · intro e he acc
      simp [wipeE]
      refine w_lcV (ds := e) (src := none) (S1 := T ++ [.lst (acc.map U.v)]) (fun _ => true) (fun x => .bl (dhasD R x)) ?_ ?_ nofun ?_ ?_
      · simp
      · exact ho.l2 a hm e he
      · intro d hd acc'
        obtain ⟨ks, rfl, hk⟩ := ho.nd a hm e he d hd
        simp [wipeE]
        rw [v_inD (kvs := R.map vv) (asDic_app _ hr), dhas_vv]
        simp [hk]
      · rw [filt_t, v_anyM]
        simp
    · rw [filt_t, v_allM]
      have e : (a.all fun e => e.any (dhasD R)) = frcA (dhasD R) a := rfl
      rw [e]
      cases hb : frcA (dhasD R) a with
      | true =>
        have : frcB o (dhasD R) = true := List.any_eq_true.mpr ⟨a, hm, hb⟩
        simp [this]
      | false =>
        simp
        rw [List.take_add_one, ha]
        intro b hbm
        rcases List.mem_append.mp hbm with z | z
        · exact hp b z
        · simp at z; subst z; exact hb
  · rintro ρ T ⟨rfl, x, rfl, hp⟩
    have : frcB o (dhasD R) = false := by
      unfold frcB
      rw [List.any_eq_false]
      intro a ha
      rw [hp a (by simpa using ha)]
      simp
    simp [this]
end Mi
namespace K03
open PySem Pu L2 Mi
theorem made_ok (ch size : Int) (ms : List Int) (ts : List St3) (now : Int) (raw : Raw size ms ts) (h0 : 0 ≤ now) (h1 : now < size) (S : Sto) :
    ∃ c, (c = 12 ∨ c = 13 ∨ c = 14 ∨ c = 17) ∧ f__law_made_2 [.v (.int ch), .v (.int size), .v (.lst (ms.map D.int)), .v (.lst (ts.map stD)), .v (.int now)] S = .ok (.r S.length) (S ++ [.ins c (uFs (mRec size (sortI ms) (sort3 ts) now))]) := by
  have OK := raw.ok h0 h1
  have hs := service_ok size ms (sortI ms) ts (sort3 ts) now OK (.v (.lst (ms.map D.int))) (.v (.lst (ts.map stD))) S rfl rfl
  have hp := pattern_ok size ms (sortI ms) ts (sort3 ts) now OK (.v (.lst (ms.map D.int))) (.v (.lst (ts.map stD))) S rfl rfl
  by_cases hc : ch % 2 = 0
  · refine ⟨13, by simp, eq_of_wpr ?_⟩
    unfold f__law_made_2
    rw [wp_runK]
    simp [m__law_made_2, start0, hc, hs]
  · refine ⟨14, by simp, eq_of_wpr ?_⟩
    unfold f__law_made_2
    rw [wp_runK]
    simp [m__law_made_2, start0, hc, hp]
theorem tail_ok {size : Nat} {ms : List Int} {ts : List St3} {as : List Str} {here start : Int} {c c2 : Nat} (hc : c = 12 ∨ c = 13 ∨ c = 14 ∨ c = 17) (sz2 : size ≤ 4) (al : as.length ≤ 3) (raw : Raw size ms ts)
    (hdue : ∀ (here : Int) (a : Str), endsL (sort3 ts) here a = K02.due size ts here a) (h0 : 0 ≤ here) (h1 : here < size) (ns r0 : List Int) (x10 x11 x14 x15 : Option U) (a : Str) (e : Int) (Q : Post)
    (hQ : ∀ (here' : Int) (x15 : Option U), 0 ≤ here' → here' < size → Q.nx [some (.v (.frl (ns.map D.int))), some (.v (.lst (r0.map D.int))), some (.v (.int size)), some (.v (.lst (as.map D.str))), some (.v (.lst (ts.map stD))), some (.v (.lst (ms.map D.int))), some (.v (.int here')), some (.r 0), some (.r 1), some (.v (.int start)), x10, x11, some (.v (.str a)), some (.v (.int e)), x14, x15, none] [.ins c (uFs (mRec size (sortI ms) (sort3 ts) here')), .ins c2 (uFs (mRec size (sortI ms) (sort3 ts) start))])
    (m : MS) (hm : m = (sSeq (sAsg (eC (.str "stays")) (gName 15))
  (sSeq (sIf (tB (eOp (fInX false) (eCB fTup (aCons (eVar 6) (aCons (eVar 12) (aCons (eVar 13) aNil)))) (eVar 4)))
  (sSeq (sAsg (eC (.str "moves")) (gName 15))
  (sSeq (sIf (tB (eOp fNe (eCall 3 f__law_moved [] (aCons (eVar 7) (aCons (eVar 12) (aCons (eVar 13) aNil)))) (eVar 15)))
  (sRet (eC (.bl false)))
  sNext)
  (sAsg (eVar 13) (gName 6))))
  (sIf (tB (eOp fNe (eCall 3 f__law_moved [] (aCons (eVar 7) (aCons (eVar 12) (aCons (eVar 13) aNil)))) (eVar 15)))
  (sRet (eC (.bl false)))
  sNext))
  (sIf (tNot (tB (eCall 6 f__law_stands [] (aCons (eVar 7) (aCons (eVar 6) (aCons (eVar 2) (aCons (eVar 5) (aCons (eVar 4) (aCons (eVar 3) aNil)))))))))
  (sRet (eC (.bl false)))
  sNext)))) :
    wps (m [some (.v (.frl (ns.map D.int))), some (.v (.lst (r0.map D.int))), some (.v (.int size)), some (.v (.lst (as.map D.str))), some (.v (.lst (ts.map stD))), some (.v (.lst (ms.map D.int))), some (.v (.int here)), some (.r 0), some (.r 1), some (.v (.int start)), x10, x11, some (.v (.str a)), some (.v (.int e)), x14, x15, none] [.ins c (uFs (mRec size (sortI ms) (sort3 ts) here)), .ins c2 (uFs (mRec size (sortI ms) (sort3 ts) start))]) Q := by
  subst hm
  have tl := raw.tl
  have tl3 := sort3_len ts
  have hst : ∀ here' : Int, f__law_stands [.r 0, .v (.int here'), .v (.int size), .v (.lst (ms.map D.int)), .v (.lst (ts.map stD)), .v (.lst (as.map D.str))] [.ins c (uFs (mRec size (sortI ms) (sort3 ts) here')), .ins c2 (uFs (mRec size (sortI ms) (sort3 ts) start))] = _ := fun here' =>
    stands_ok (isM_r rfl hc) (by omega) [] [] ms ts as (sortI_mem ms) (by omega) (by omega) (hdue here')
  simp
  rw [show D.tup [D.int here, D.str a, D.int e] = stD (here, a, e) from rfl, K02.in_steps false _ _ ts rfl]
  by_cases hin : (here, a, e) ∈ ts
  · have he : e ∈ endsL (sort3 ts) here a := by rw [endsL_mem, sort3_mem]; exact hin
    have mv := moved_yes (S := [.ins c (uFs (mRec size (sortI ms) (sort3 ts) here)), .ins c2 (uFs (mRec size (sortI ms) (sort3 ts) start))]) (n := 0) rfl hc a e he
    simp at mv
    simp [hin, mv, hst e]
    have := raw.t0 _ hin
    exact hQ e _ this.2.2.1 this.2.2.2.1
  · have he : e ∉ endsL (sort3 ts) here a := by rw [endsL_mem, sort3_mem]; exact hin
    have mv := moved_no (S := [.ins c (uFs (mRec size (sortI ms) (sort3 ts) here)), .ins c2 (uFs (mRec size (sortI ms) (sort3 ts) start))]) (n := 0) rfl hc a e he
    simp [hin, mv, hst here]
    exact hQ here _ h0 h1
theorem pure_law (ns : List Int) (hns : ns.length ≤ 63) : ∃ S', f_law_4 [.v (.frl (ns.map D.int))] [] = .ok (.v (.bl true)) S' := by
  suffices h : wpr (f_law_4 [.v (.frl (ns.map D.int))] []) (fun u _ => u = .v (.bl true)) (fun _ _ _ => False) by
    obtain ⟨u, S', e, rfl⟩ := wpr_iff.mp h
    exact ⟨S', e⟩
  unfold f_law_4
  rw [wp_runF]
  have D0 := fun S => draws_i ns 0 8 (by omega) (by omega) (by omega) S
  have D1 := fun S => draws_i ns 1 13 (by omega) (by omega) (by omega) S
  have D2 := fun S => draws_i ns 2 16 (by omega) (by omega) (by omega) S
  obtain ⟨r0, hr0⟩ : ∃ r, r = rowN ns 0 8 := ⟨_, rfl⟩
  obtain ⟨r1, hr1⟩ : ∃ r, r = rowN ns 1 13 := ⟨_, rfl⟩
  obtain ⟨r2, hr2⟩ : ∃ r, r = rowN ns 2 16 := ⟨_, rfl⟩
  have l0 : r0.length = 8 := by rw [hr0]; simp
  have l1 : r1.length = 13 := by rw [hr1]; simp
  have l2 : r2.length = 16 := by rw [hr2]; simp
  simp only [Int.reduceToNat, ← hr0, ← hr1, ← hr2] at D0 D1 D2
  clear hr0 hr1 hr2
  have I0 : ∀ i : Int, 0 ≤ i → i < 8 → ∀ k : Int → Prop, wpo (atI r0 i) k = k (rg r0 i.toNat) := fun i h0 h1 k => atI_get 0 h0 (by omega)
  have hA := fun S => asks_i r1 l1 (1 + rg r0 1 % 3) (by omega) (by omega) S
  obtain ⟨as, has⟩ : ∃ z, z = asksN r1 (1 + rg r0 1 % 3).toNat := ⟨_, rfl⟩
  have al : as.length ≤ 3 := by rw [has]; simp; omega
  have al1 : 1 ≤ as.length := by rw [has]; simp; omega
  have ak : ∀ z ∈ as, AskS z := by rw [has]; exact asksN_ask r1 l1 _
  rw [← has] at hA
  clear has
  obtain ⟨size, hsize⟩ : ∃ z : Nat, (1 + rg r0 0 % 4) = (z : Int) := ⟨(1 + rg r0 0 % 4).toNat, by omega⟩
  have sz1 : 1 ≤ size := by omega
  have sz2 : size ≤ 4 := by omega
  have hS := fun S => steps_ok r2 (by omega) size sz2 as (by omega) (decide (rg r0 2 % 4 = 0)) S
  have hM := fun S => marks_ok (rg r0 3) size sz2 S
  have raw := stepsN_raw (row := r2) (single := decide (rg r0 2 % 4 = 0)) sz1 sz2 (by omega) ak (ms := marksN (rg r0 3) size) (fun m hm => marksN_bd hm) (by have := marksN_len (rg r0 3) size; omega)
  generalize stepsN r2 size as (decide (rg r0 2 % 4 = 0)) = ts at hS raw
  generalize marksN (rg r0 3) size = ms at hM raw
  obtain ⟨start, hstart⟩ : ∃ z : Int, z = rg r0 4 % size := ⟨_, rfl⟩
  have st0 : 0 ≤ start := by rw [hstart]; exact Int.emod_nonneg _ (by omega)
  have st1 : start < size := by rw [hstart]; exact Int.emod_lt_of_pos _ (by omega)
  have hdue : ∀ (here : Int) (a : Str), endsL (sort3 ts) here a = K02.due size ts here a := fun here a => K02.due_eq (fun t ht => ⟨(raw.t0 t ht).2.2.1, (raw.t0 t ht).2.2.2.1⟩) here a
  have tl := raw.tl
  have tl3 := sort3_len ts
  obtain ⟨c, hc, hma⟩ := made_ok (rg r0 5) size ms ts start raw st0 st1 []
  obtain ⟨c2, hc2, hmb⟩ := made_ok (rg r0 5) size ms ts start raw st0 st1 [.ins c (uFs (mRec size (sortI ms) (sort3 ts) start))]
  simp at hma hmb
  have sz0 : ¬ (size : Int) = 0 := by omega
  simp [m_law_4, start0, D0, D1, D2, I0, hA, hS, hM, hsize, ← hstart, hma, hmb]
  refine ⟨by omega, ⟨by split <;> omega, by split <;> omega⟩, ?_⟩
  refine for_inv (fun i ρ T => ∃ here x10 x11 x12 x13 x14 x15, 0 ≤ here ∧ here < (size : Int) ∧ ρ = [some (.v (.frl (ns.map D.int))), some (.v (.lst (r0.map D.int))), some (.v (.int size)), some (.v (.lst (as.map D.str))), some (.v (.lst (ts.map stD))), some (.v (.lst (ms.map D.int))), some (.v (.int here)), some (.r 0), some (.r 1), some (.v (.int start)), x10, x11, x12, x13, x14, x15, none] ∧
      T = [.ins c (uFs (mRec size (sortI ms) (sort3 ts) here)), .ins c2 (uFs (mRec size (sortI ms) (sort3 ts) start))]) ⟨start, none, none, none, none, none, none, st0, st1, rfl, rfl⟩ ?_ ?_
  · rintro i u ρ T hu ⟨here, x10, x11, x12, x13, x14, x15, h0, h1, rfl, rfl⟩
    obtain ⟨hi, rfl⟩ := rngU_get hu
    generalize hm : (sSeq (sAsg (eC (.str "stays")) (gName 15))
  (sSeq (sIf (tB (eOp (fInX false) (eCB fTup (aCons (eVar 6) (aCons (eVar 12) (aCons (eVar 13) aNil)))) (eVar 4)))
  (sSeq (sAsg (eC (.str "moves")) (gName 15))
  (sSeq (sIf (tB (eOp fNe (eCall 3 f__law_moved [] (aCons (eVar 7) (aCons (eVar 12) (aCons (eVar 13) aNil)))) (eVar 15)))
  (sRet (eC (.bl false)))
  sNext)
  (sAsg (eVar 13) (gName 6))))
  (sIf (tB (eOp fNe (eCall 3 f__law_moved [] (aCons (eVar 7) (aCons (eVar 12) (aCons (eVar 13) aNil)))) (eVar 15)))
  (sRet (eC (.bl false)))
  sNext))
  (sIf (tNot (tB (eCall 6 f__law_stands [] (aCons (eVar 7) (aCons (eVar 6) (aCons (eVar 2) (aCons (eVar 5) (aCons (eVar 4) (aCons (eVar 3) aNil)))))))))
  (sRet (eC (.bl false)))
  sNext))) = m
    have Dk := fun S => draws_i ns (4 + i) 3 (by omega) (by omega) (by omega) S
    obtain ⟨rk, hrk⟩ : ∃ r, r = rowN ns (4 + i) 3 := ⟨_, rfl⟩
    have lk : rk.length = 3 := by rw [hrk]; simp
    simp only [Int.reduceToNat, ← hrk] at Dk
    clear hrk
    have Ik : ∀ i : Int, 0 ≤ i → i < 3 → ∀ k : D → Prop, wpo (atI (rk.map D.int) i) k = k (.int (rg rk i.toNat)) := fun i h0 h1 k => at_intI rk i h0 (by omega) k
    have Ia : ∀ k : D → Prop, wpo (atI (as.map D.str) (rg rk 0 % as.length)) k = k (.str (sg as (rg rk 0 % as.length).toNat)) := fun k => by
      have p0 := Int.emod_nonneg (rg rk 0) (b := as.length) (by omega)
      have p1 := Int.emod_lt_of_pos (rg rk 0) (b := as.length) (by omega)
      obtain ⟨j, hj⟩ := Int.eq_ofNat_of_zero_le p0
      rw [hj]
      exact at_str as j (by omega) k
    have hl0 : (0 : Int) < as.length := by omega
    simp [-atI_map, -s_if, Dk, Ik, Ia]
    refine ⟨by omega, by omega, ?_⟩
    refine w_lcT stD ts (fun t => decide (t.1 = here)) stD (src := none) (S1 := [.ins c (uFs (mRec size (sortI ms) (sort3 ts) here)), .ins c2 (uFs (mRec size (sortI ms) (sort3 ts) start))]) ?_ (by omega) nofun ?_ ?_
    · simp
    · intro t ht acc
      simp [wipeE, stD]
    generalize hown : ts.filter (fun t => decide (t.1 = here)) = own
    have hol : own.length ≤ 600 := by rw [← hown]; exact Nat.le_trans (List.length_filter_le _ _) tl
    simp [-atI_map, -s_seq, Ik]
    have key := fun (x10 x11 x14 x15 : Option U) (a : Str) (e : Int) => tail_ok (here := here) (start := start) (c := c) (c2 := c2) hc sz2 al raw hdue h0 h1 ns r0 x10 x11 x14 x15 a e
    by_cases hb : rg rk 2 % 2 = 0
    · by_cases ho : 0 < own.length
      · obtain ⟨j, hj⟩ := Int.eq_ofNat_of_zero_le (Int.emod_nonneg (rg rk 0) (b := own.length) (by omega))
        have hj1 : (j : Int) < own.length := by rw [← hj]; exact Int.emod_lt_of_pos _ (by omega)
        have Io : ∀ k : D → Prop, wpo (atI (own.map stD) j) k = k (stD (own.getD j (0, "", 0))) := fun k => by
          rw [atI_map, wpo_map, atI_get ((0 : Int), Str.ofString "", (0 : Int)) (by omega) (by omega)]; rfl
        simp [hb, ho, -atI_map, Ik, hj, Io, stD]
        refine key _ _ _ _ _ _ _ ?_ m hm.symm
        intro here' x15 h0' h1'
        exact ⟨here', by simp [h0', h1']⟩
      · simp [hb, ho]
        refine key _ _ _ _ _ _ _ ?_ m hm.symm
        intro here' x15 h0' h1'
        exact ⟨here', by simp [h0', h1']⟩
    · simp [hb]
      refine key _ _ _ _ _ _ _ ?_ m hm.symm
      intro here' x15 h0' h1'
      exact ⟨here', by simp [h0', h1']⟩
  · rintro ρ T ⟨here, x10, x11, x12, x13, x14, x15, h0, h1, rfl, rfl⟩
    have hst := stands_ok (S := [.ins c (uFs (mRec size (sortI ms) (sort3 ts) here)), .ins c2 (uFs (mRec size (sortI ms) (sort3 ts) start))]) (x := .r 1) (isM_r rfl hc2) (sz := size) (by omega) [] [] ms ts as (sortI_mem ms) (by omega) (by omega) (hdue start)
    simp [hst, K02.fin_nil]
end K03
namespace K03
open PySem PySem.Spec PyProof.Rows L2
abbrev Rw : PySem.W.OpenRow := PySem.W.OpenLaw.row PySem.Challenge.rw_askshanded_k03_a_machine_moves
abbrev hk : PySem.W.Hook := Pu.Hx.hookX P0 5 fa fn fx dx
def ob (s : PySem.W.SharedT) : Pu.Hx.AlX := Pu.Hx.obsXG P0 5 fa fn fx dx (HandSHeadRun.getT s)
theorem ob_eq (s : PySem.W.SharedT) : ob s = hk.obs s.abs := Pu.Hx.obsXG_eq (HandSHeadRun.getT_eq s)
theorem run (w : World) : HandSHeadRun.RunEq Rw (PySem.W.view Rw.prog [34]) hk ob 4000 ["AsksError", "BadMachine", "BadState", "TooLarge", "NoStep", "forced", "nodes_before", "find_rounds", "MOST_STATES", "MOST_STEPS", "MOST_SIGNS", "LETTERS", "is_ask", "in_order", "check_parts", "ends_by_ask", "Machine", "Service", "Pattern", "pairs_by_state", "is_narrower", "_law_cell", "_law_draws", "_law_asks", "_law_steps", "_law_marks", "_law_whole", "_law_made", "_law_moved", "_law_stands"] w := by
  intro os
  kernel_rfl
end K03
open PySem PySem.W PySem.Calls PyProof.Rows
theorem PySem.Challenge.cw_askshanded_k03_a_machine_moves_holds : PySem.Challenge.rw_askshanded_k03_a_machine_moves.Holds := by
  w_on; o_law
  refine HandSHeadRun.head_any (r := OpenLaw.row PySem.Challenge.rw_askshanded_k03_a_machine_moves) (q := view (OpenLaw.row PySem.Challenge.rw_askshanded_k03_a_machine_moves).prog [34]) (H := K03.hk) (ob := K03.ob) (M := 4000) (loose := ["AsksError", "BadMachine", "BadState", "TooLarge", "NoStep", "forced", "nodes_before", "find_rounds", "MOST_STATES", "MOST_STEPS", "MOST_SIGNS", "LETTERS", "is_ask", "in_order", "check_parts", "ends_by_ask", "Machine", "Service", "Pattern", "pairs_by_state", "is_narrower", "_law_cell", "_law_draws", "_law_asks", "_law_steps", "_law_marks", "_law_whole", "_law_made", "_law_moved", "_law_stands"]) (d := HandSHeadRun.topDef (OpenLaw.row PySem.Challenge.rw_askshanded_k03_a_machine_moves).prog 34) (kwd := []) K03.ob_eq
    (by kernel_rfl) (fun s => by kernel_rfl) K03.run (by kernel_rfl) (by kernel_rfl) (by kernel_rfl) (by rfl) (by first | assumption | decide +kernel) (by decide +kernel) ⟨rfl, rfl, rfl, rfl, rfl, by decide +kernel⟩ ?hw ?hc
  case hw => w_witness2
  case hc =>
    refine Pu.law_end (l := PySem.Challenge.rw_askshanded_k03_a_machine_moves) (n := 63) (k := 8) (x := "_law_script") (cl := K03.cl) rfl (by decide) (by kernel_rfl) ⟨rfl, by decide, by decide⟩ K03.pure_law ?F
    intro w mg fa h Y G hmg0
    obtain ⟨K, KX, c⟩ := Y
    have hmg : mg ("law" : PySem.Str) = some (.ref fa) := by
      have e : (HandSHeadRun.topDef (OpenLaw.row PySem.Challenge.rw_askshanded_k03_a_machine_moves).prog 34).name = ("law" : PySem.Str) := by kernel_rfl
      rw [← e]
      exact hmg0
    have Gf := K03.facts KX G c
    have e := hmg.symm.trans Gf.g_law
    cases e
    obtain ⟨fd, Fd⟩ := Gf.d_law
    have b := L2.FunD.bindsA (ps := ["_law_script"]) Fd fun _ _ _ _ _ _ us hl => match us, hl with | [_], _ => rfl
    refine ⟨K, fd, KX, fun s v => b s [v] rfl, fun base => ?_⟩
    obtain ⟨fd2, Fd2, ok⟩ := K03.ok_law (w := w) (base := base) Gf
    have e2 := Pu.funD_same Fd Fd2
    subst e2
    exact ok
