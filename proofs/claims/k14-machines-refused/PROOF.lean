import PyProof.Rows.All
import Wide.All
import OpenK.AllK
import Wide.FinOn
import HandS.ForMost
import HandS.ForExc
import HandS.TupAny
import HandS.ExcCtx
import HandS.ExcInit
import KE.KDictKeyed
import KE.DataCmp
import HandS.CallSlots
import HandS.Defaults
import HandS.IsInst
import HandS.Style
import HandS.RaiseMore
import KE.KDictWalk
import HandS.MakeKwOnly
import HandS.Star
import HandS.More
import HandS.WordsExc
import HandS.Ends
import HandS.HeadEnd
import KE.KSuper
import HandS.ClsMeth
import KE.DataAny
import HandS.Property
import KE.KOpsOwn
import KE.KOwnIter
import HandS.IterVal
import KE.SortData
import HandS.Iter
import HandS.HeadHook1
import HandS.HeadHook2
import HandS.Head2
import PyProof.Conv_bool
import PyProof.DictCompW
import HandS.DictComp
import KE.KDictList
import KE.KExcSuper
import HandS.ExcField
import HandS.ExcIs
import KE.KExcIs
import HandS.Zip
import KE.GoesMore
import HandS.Head0
import HandS.Head1
import HandS.Words
import HandS.Deep
import KE.KDictCopyH
import KE.DataFind
import KE.KDictPairs
import PyProof.EnumMake
import HandS.TupLen
import KE.KDictDisplayH
import HandS.ListItems
import KE.KWithOwn
import HandS.Hot
import KE.KStateDown
import PySem.Challenge.RW_askshanded_k14_machines_refused
set_option Elab.async false
set_option linter.all false
set_option maxRecDepth 100000
set_option maxHeartbeats 0
namespace Pu
open PySem L2
open PyProof.Rows hiding St
def TupAt (H : Hp) (a : Addr) (vs : List V) : Prop := ∃ o : Obj, o.dict = none ∧ H a = some (.frz o (.tup vs))
theorem TupAt.sq {K : PySem.W.Frag} {H : Hp} {a : Addr} {vs : List V} (h : TupAt H a vs) : SqT K H a vs := let ⟨o, _, h⟩ := h; .inl (.inr ⟨o, h⟩)
theorem TupAt.imp {H H' : Hp} {a : Addr} {vs : List V} (h : TupAt H a vs) (k : ∀ u, H a = some u → H' a = some u) : TupAt H' a vs := let ⟨o, d, h⟩ := h; ⟨o, d, k _ h⟩
theorem TupAt.lk {H H' : Hp} {a : Addr} {vs : List V} (h : TupAt H a vs) (k : ∀ a o xs, H a = some (.frz o (.tup xs)) → H' a = some (.frz o (.tup xs))) : TupAt H' a vs := let ⟨o, d, h⟩ := h; ⟨o, d, k _ _ _ h⟩
theorem TupAt.there {H : Hp} {a : Addr} {vs : List V} (h : TupAt H a vs) : ∃ o u, H a = some (.frz o u) := let ⟨o, _, h⟩ := h; ⟨o, _, h⟩
abbrev NewT (H : Hp) (Q : VK) (vs : List V) : Prop := ∀ (p : Addr) (o : Obj), o.dict = none → H p = none → Q (.ref p) (upd H p (.frz o (.tup vs)))
section
variable {X : Cx} {pins : List (Addr × Obj)} {σ : L2.St} {H : Hp} {s : Shared} {Q : VK} {vs : List V} {its : List Value}
theorem new_tup (I : Inv X pins σ H s) (hz : vs.length ≤ sizeLine) (r : Vals vs its) {t : Nat} (q : NewT H Q vs) : EP X pins σ Q (.ref s.heap.objs.size) { s with heap := s.heap.push { cls := .type "tuple", data := .seq its.toArray }, toks := t } :=
 ⟨.ref s.heap.objs.size, upd H s.heap.objs.size (.frz { cls := .type "tuple", data := .seq its.toArray } (.tup vs)), I.laid (t' := t) (fun _ _ e => Heap.get?_push_of_some _ e) (Nat.le_refl _)
   (show ObjOk X.prog X.w _ _ _ (.frz _ (.tup vs)) from ⟨Heap.get?_push_size _ rfl, hz, its, r, IsTup.new _ _⟩), rfl, q _ _ rfl (I.hok.fresh (Nat.le_refl _))⟩
end
section
variable {X : Cx} {es : List Expr} {t : TA} {pos : Pos}
def tTupZ (t : TA) : TE := fun σ H Q => t σ H fun xs H1 => xs.length ≤ sizeLine ∧ NewT H1 Q xs
theorem pe_tupZ {k : Nat} (h : PA X es t) : PE X (.Tuple es k pos) (tTupZ t) := by
 refine ⟨fun pins s σ H Q I hq => ?_⟩
 refine wpAny_Tuple_spliced (thn (h.run pos pins s σ H _ I hq) fun us s1 ⟨xs, H1, I1, r, z, q⟩ => ⟨by rw [← r.length]; exact z, ?_⟩)
 exact new_tup (t := s1.toks) I1 z r q
def rCatZ (K : PySem.W.Frag) : R2 := fun x y H Q => ∃ a b xs ys, x = .ref a ∧ y = .ref b ∧ SqT K H a xs ∧ SqT K H b ys ∧ xs.length + ys.length ≤ sizeLine ∧
 (xs = [] → Q (.ref b) H) ∧ (xs ≠ [] → ys = [] → Q (.ref a) H) ∧ (xs ≠ [] → ys ≠ [] → NewT H Q (xs ++ ys))
theorem op_catZ : OpR X (binaryOp .Add) (rCatZ X.K) := by
 intro pins s σ H x y v u Q I rx ry h
 obtain ⟨a, b, xs, ys, rfl, rfl, ha, hb, hz, q0, q1, q2⟩ := h
 by_cases hx : xs = []
 · exact op_catA pins s σ H _ _ v u Q I rx ry ⟨a, b, xs, ys, rfl, rfl, ha, hb, hz, q0, fun z => absurd hx z, fun z => absurd hx z⟩
 · cases rx
   cases ry
   obtain ⟨its, r1, p1, _⟩ := I.tuple ha
   obtain ⟨its2, r2, p2, _⟩ := I.tuple hb
   refine HT.cat_tup p1 p2 (fun z => hx (r1.nil_iff.mp z)) (fun z => ⟨.ref a, H, I, rfl, q1 hx (r2.nil_iff.mp z)⟩) (fun z => ?_) (by rw [← r1.length, ← r2.length]; exact hz)
   exact new_tup (t := s.toks) I (by rw [List.length_append]; exact hz) (r1.append r2) (q2 hx fun w => z (r2.nil_iff.mpr w))
def rSlZ (K : PySem.W.Frag) : V → Option Int → Option Int → Hp → VK → Prop := fun x lo hi H Q => ∃ a xs, x = .ref a ∧ SqT K H a xs ∧
 (HT.sIx xs.length 0 lo = 0 ∧ HT.sIx xs.length xs.length hi = xs.length → Q (.ref a) H) ∧ (¬ (HT.sIx xs.length 0 lo = 0 ∧ HT.sIx xs.length xs.length hi = xs.length) → NewT H Q (cutV xs lo hi))
theorem sl_tupZ : SlR X (rSlZ X.K) := by
 intro pins s σ H x v vl vu lo hi sl Q I rx hs pl pu h
 obtain ⟨a, xs, rfl, hx, q1, q2⟩ := h
 by_cases hw : HT.sIx xs.length 0 lo = 0 ∧ HT.sIx xs.length xs.length hi = xs.length
 · exact sl_tupA pins s σ H _ v vl vu lo hi sl Q I rx hs pl pu ⟨a, xs, rfl, hx, q1, fun z => absurd hw z⟩
 · cases rx
   obtain ⟨its, r, ht, hz⟩ := I.tuple hx
   have hlen : its.toArray.size = xs.length := by rw [List.size_toArray]; exact r.length.symm
   refine ⟨"tuple", _, PyProof.Rows.slot_tuple_getitem.lookup, ht.typeIs, ?_⟩
   refine HT.getItem_tuple_cut ht hs pl pu (by rw [hlen]; exact hw) ?_ (by rw [hlen]; exact hz)
   rw [hlen]
   exact new_tup (t := s.toks) I (Nat.le_trans (cutV_length xs lo hi) hz) ((r.drop (HT.sIx xs.length 0 lo)).take (HT.sIx xs.length xs.length hi - HT.sIx xs.length 0 lo)) (q2 hw)
theorem call_tupleZ : CallR X (.type "tuple") (fun xs H Q => ∃ p ys, xs = [.ref p] ∧ ((SqL X.K H p ys ∧ NewT H Q ys) ∨ (SqT X.K H p ys ∧ Q (.ref p) H))) := by
 intro pins s σ H xs us Q I r h
 obtain ⟨p, ys, rfl, h⟩ := h
 rcases h with ⟨hq, q⟩ | ⟨hq, q⟩
 · obtain ⟨u, rfl, rx⟩ := vals1 r
   cases rx
   obtain ⟨its, r', pl, hz⟩ := I.list hq
   have hlen := r'.length
   refine call_tuple_list pl.isList (fun h' kp => ?_) (by simp only [List.size_toArray] <;> omega)
   have I1 : Inv X pins σ H { s with heap := h' } := I.kept (t' := s.toks) kp
   exact new_tup (t := s.toks) I1 hz r' q
 · exact call_tuple_of pins s σ H _ us Q I r ⟨p, ys, rfl, .inr ⟨hq, q⟩⟩
end
end Pu
namespace Pu
open PySem L2
inductive D where
 | non | bl (b : Bool) | int (i : Int) | str (x : Str) | tup (xs : List D) | lst (xs : List D)
 | dic (kvs : List (D × D)) | ins (c : Nat) (fs : List (Str × D)) | cls (c : Nat) | ty (n : String) | frl (xs : List D) | exn (c : Nat) (fs : List (Str × D))
noncomputable instance : DecidableEq D := fun _ _ => Classical.propDecidable _
inductive U where
 | v (d : D) | r (n : Nat)
inductive Cell where
 | lst (xs : List U) | dic (kvs : List (D × U)) | ins (c : Nat) (fs : List (Str × U)) | dead | dicL (kvs : List (D × U)) | tpc (xs : List U)
noncomputable instance : DecidableEq U := fun _ _ => Classical.propDecidable _
noncomputable instance : DecidableEq Cell := fun _ _ => Classical.propDecidable _
abbrev Sto := List Cell
abbrev Env' := List (Option U)
structure Bx where
 prog : Program
 w : World
 K : PySem.W.Frag
 cl : Nat → Addr
def nkey : D → Option NestedKey
 | .non => some .none
 | .int i => some (.num i)
 | .str x => some (.text x)
 | .tup xs => (nkeys xs).map .tup
 | _ => none
where nkeys : List D → Option (List NestedKey)
 | [] => some []
 | x :: xs => match nkey x, nkeys xs with
   | some k, some ks => some (k :: ks)
   | _, _ => none
abbrev Ent := NestedKey × Addr × Value
def DRaw (P : Program) (w : World) (a : Addr) (xs : List Ent) (h : Heap) : Prop :=
 ∃ o es ep, h.get? a = some o ∧ o.ExactDict ∧ o.data = .dict es ep ∧ es.toList = xs.map (entryOfKey (nestedKind P w)) ∧ (xs.map (·.1)).Nodup ∧ (a == sysModules) = false
def dicO (P : Program) (w : World) (a : Addr) (xs : List Ent) : HO := .ext (DRaw P w a xs)
def xO (a : Addr) (oe : Obj) : HO := .ext fun h => h.get? a = some oe
def Lk (K : PySem.W.Frag) (F : Addr → Prop) (H : Hp) (a : Addr) (xs : List V) : Prop := (F a ∧ ∃ o, H a = some (.frz o (.lst xs))) ∨
 ∃ (o : Obj) (its : Array Value) (n : Nat), K.lookup a = some o ∧ o.cls = .type "list" ∧ o.dict = none ∧ o.data = .seq its n ∧ its.size ≤ sizeLine ∧ Vals xs its.toList
theorem Lk.sq {K : PySem.W.Frag} {F : Addr → Prop} {H : Hp} {a : Addr} {xs : List V} (h : Lk K F H a xs) : SqL K H a xs := by
 rcases h with ⟨_, o, h⟩ | h
 · exact .inl (.inr ⟨o, h⟩)
 · exact .inr h
section
variable (B : Bx) (F : Addr → Prop) (H : Hp)
mutual
inductive Rep : V → D → Prop
 | non : Rep .non .non
 | bl (b : Bool) : Rep (.bl b) (.bl b)
 | int (i : Int) : Rep (.int i) (.int i)
 | str (x : Str) : PyData.strOk x = true → Rep (.str x) (.str x)
 | tup {a : Addr} {vs : List V} {ds : List D} : TupAt H a vs → Reps vs ds → Rep (.ref a) (.tup ds)
 | lst {a : Addr} {vs : List V} {ds : List D} : F a → H a = some (.lst vs) → Reps vs ds → Rep (.ref a) (.lst ds)
 | frl {a : Addr} {vs : List V} {ds : List D} : Lk B.K F H a vs → Reps vs ds → Rep (.ref a) (.frl ds)
 | dic {a : Addr} {xs : List Ent} {kvs : List (D × D)} : F a → Rd H a (dicO B.prog B.w a xs) → xs.length ≤ sizeLine → RepK xs kvs → Rep (.ref a) (.dic kvs)
 | ins {a dx : Addr} {c : Nat} {vs : List (Str × V)} {fs : List (Str × D)} : F a → F dx → H a = some (.ins (B.cl c) dx vs) → H dx = some (.own a) → RepF vs fs → Rep (.ref a) (.ins c fs)
 | cls (c : Nat) : Rep (.ref (B.cl c)) (.cls c)
 | ty (n : String) : Rep (.ty n) (.ty n)
 | exn {a dx : Addr} {oe : Obj} {w : Array Value} {c : Nat} {vs : List (Str × V)} {fs : List (Str × D)} : F a → F dx → Rd H a (xO a oe) → oe.cls = .ref (B.cl c) → oe.dict = some dx → oe.data = .fields w → H dx = some (.xd vs) → RepF vs fs → Rep (.ref a) (.exn c fs)
inductive Reps : List V → List D → Prop
 | nil : Reps [] []
 | cons {v : V} {vs : List V} {d : D} {ds : List D} : Rep v d → Reps vs ds → Reps (v :: vs) (d :: ds)
inductive RepK : List Ent → List (D × D) → Prop
 | nil : RepK [] []
 | cons {nk : NestedKey} {b : Addr} {u : Value} {v : V} {k d : D} {xs : List Ent} {kvs : List (D × D)} : nkey k = some nk → Rep (.ref b) k → nk.depth ≤ 8 → RelV v u → Rep v d → RepK xs kvs → RepK ((nk, b, u) :: xs) ((k, d) :: kvs)
inductive RepF : List (Str × V) → List (Str × D) → Prop
 | nil : RepF [] []
 | cons {x : Str} {v : V} {d : D} {vs : List (Str × V)} {fs : List (Str × D)} : Rep v d → RepF vs fs → RepF ((x, v) :: vs) ((x, d) :: fs)
end
end
inductive RepU (B : Bx) (ι : List Addr) (F : Addr → Prop) (H : Hp) : V → U → Prop
 | v {v : V} {d : D} : Rep B F H v d → RepU B ι F H v (.v d)
 | r {n : Nat} {a : Addr} : ι[n]? = some a → RepU B ι F H (.ref a) (.r n)
abbrev RepUs (B : Bx) (ι : List Addr) (F : Addr → Prop) (H : Hp) : List V → List U → Prop := Paired (RepU B ι F H)
def RepKU (B : Bx) (ι : List Addr) (F : Addr → Prop) (H : Hp) : List Ent → List (D × U) → Prop :=
 Paired fun (e : Ent) (p : D × U) => nkey p.1 = some e.1 ∧ Rep B F H (.ref e.2.1) p.1 ∧ e.1.depth ≤ 8 ∧ ∃ v, RelV v e.2.2 ∧ RepU B ι F H v p.2
def RepFU (B : Bx) (ι : List Addr) (F : Addr → Prop) (H : Hp) : List (Str × V) → List (Str × U) → Prop :=
 Paired fun (e : Str × V) (p : Str × U) => e.1 = p.1 ∧ RepU B ι F H e.2 p.2
def CellOk (B : Bx) (ι : List Addr) (F : Addr → Prop) (H : Hp) (a : Addr) : Cell → Prop
 | .lst xs => ∃ vs, H a = some (.lst vs) ∧ RepUs B ι F H vs xs
 | .dic kvs => ∃ es, H a = some (dicO B.prog B.w a es) ∧ es.length ≤ sizeLine ∧ RepKU B ι F H es kvs
 | .ins c fs => ∃ dx vs, H a = some (.ins (B.cl c) dx vs) ∧ H dx = some (.own a) ∧ ¬ F dx ∧ RepFU B ι F H vs fs
 | .dead => True
 | .tpc xs => ∃ vs, TupAt H a vs ∧ RepUs B ι F H vs xs
 | .dicL kvs => ∃ es od, H a = some (.frz od (dicO B.prog B.w a es)) ∧ es.length ≤ sizeLine ∧ RepKU B ι F H es kvs
def Cell.live : Cell → Bool
 | .dead => false
 | _ => true
structure Rel (B : Bx) (ι : List Addr) (F : Addr → Prop) (S : Sto) (H : Hp) : Prop where
 len : ι.length = S.length
 nd : ι.Nodup
 nf : ∀ (n : Nat) (a : Addr) (c : Cell), ι[n]? = some a → S[n]? = some c → c.live = true → ¬ F a
 ok : ∀ (n : Nat) (a : Addr) (c : Cell), ι[n]? = some a → S[n]? = some c → CellOk B ι F H a c
 there : ∀ a ∈ ι, H a ≠ none
 fthere : ∀ a, F a → H a ≠ none
 now : ∀ a ∈ ι, ∀ x, H a ≠ some (.own x)
structure Ev0 (F : Addr → Prop) (H : Hp) (F' : Addr → Prop) (H' : Hp) : Prop where
 sub : ∀ a, F a → F' a
 keep : ∀ a o, F a → H a = some o → (∀ φ, o ≠ .ext φ) → H' a = some o
 tups : ∀ a xs, H a = some (.tup xs) → H' a = some (.tup xs)
 kext : ∀ a φ, F a → Rd H a (.ext φ) → Rd H' a (.ext φ)
 tupz : ∀ a o xs, H a = some (.frz o (.tup xs)) → H' a = some (.frz o (.tup xs))
structure Evo (ι : List Addr) (F : Addr → Prop) (H : Hp) (ι' : List Addr) (F' : Addr → Prop) (H' : Hp) : Prop where
 pre : ∀ (n : Nat) (a : Addr), ι[n]? = some a → ι'[n]? = some a
 sub : ∀ a, F a → F' a
 keep : ∀ a o, F a → H a = some o → (∀ φ, o ≠ .ext φ) → H' a = some o
 tups : ∀ a xs, H a = some (.tup xs) → H' a = some (.tup xs)
 alive : ∀ a, H a ≠ none → H' a ≠ none
 lkd : ∀ a o u, H a = some (.frz o u) → H' a = some (.frz o u)
 kext : ∀ a φ, F a → Rd H a (.ext φ) → Rd H' a (.ext φ)
theorem Evo.e0 {ι ι' : List Addr} {F F' : Addr → Prop} {H H' : Hp} (e : Evo ι F H ι' F' H') : Ev0 F H F' H' := ⟨e.sub, e.keep, e.tups, e.kext, fun a o xs h => e.lkd a o _ h⟩
theorem rd_ne {H : Hp} {a b : Addr} {o u : HO} (hb : b ≠ a) (h : Rd H b u) : Rd (upd H a o) b u := by
 unfold Rd
 rw [upd_ne hb]; exact h
theorem Evo.refl {ι : List Addr} {F : Addr → Prop} {H : Hp} : Evo ι F H ι F H := ⟨fun _ _ h => h, fun _ h => h, fun _ _ _ h _ => h, fun _ _ h => h, fun _ h => h, fun _ _ _ h => h, fun _ _ _ h => h⟩
theorem Evo.trans {ι ι1 ι2 : List Addr} {F F1 F2 : Addr → Prop} {H H1 H2 : Hp} (a : Evo ι F H ι1 F1 H1) (b : Evo ι1 F1 H1 ι2 F2 H2) : Evo ι F H ι2 F2 H2 :=
 ⟨fun n x h => b.pre n x (a.pre n x h), fun x h => b.sub x (a.sub x h), fun x o f h q => b.keep x o (a.sub x f) (a.keep x o f h q) q, fun x xs h => b.tups x xs (a.tups x xs h), fun x h => b.alive x (a.alive x h), fun x o u h => b.lkd x o u (a.lkd x o u h), fun x φ f h => b.kext x φ (a.sub x f) (a.kext x φ f h)⟩
section
variable {B : Bx} {ι ι' : List Addr} {F F' : Addr → Prop} {H H' : Hp}
mutual
theorem Rep.mono0 (e : Ev0 F H F' H') : ∀ {v : V} {d : D}, Rep B F H v d → Rep B F' H' v d
 | _, _, .non => .non
 | _, _, .bl b => .bl b
 | _, _, .int i => .int i
 | _, _, .str x h => .str x h
 | _, _, .tup h r => .tup (h.lk e.tupz) (Reps.mono0 e r)
 | _, _, .lst f h r => .lst (e.sub _ f) (e.keep _ _ f h nofun) (Reps.mono0 e r)
 | _, _, .frl h r => .frl (by
   rcases h with ⟨f, o, h⟩ | h
   · exact .inl ⟨e.sub _ f, o, e.keep _ _ f h nofun⟩
   · exact .inr h) (Reps.mono0 e r)
 | _, _, .dic f h z r => .dic (e.sub _ f) (e.kext _ _ f h) z (RepK.mono0 e r)
 | _, _, .ins f g h h2 r => .ins (e.sub _ f) (e.sub _ g) (e.keep _ _ f h nofun) (e.keep _ _ g h2 nofun) (RepF.mono0 e r)
 | _, _, .cls c => .cls c
 | _, _, .ty n => .ty n
 | _, _, .exn f g h a b c h2 r => .exn (e.sub _ f) (e.sub _ g) (e.kext _ _ f h) a b c (e.keep _ _ g h2 nofun) (RepF.mono0 e r)
theorem Reps.mono0 (e : Ev0 F H F' H') : ∀ {v : List V} {d : List D}, Reps B F H v d → Reps B F' H' v d
 | _, _, .nil => .nil
 | _, _, .cons a b => .cons (Rep.mono0 e a) (Reps.mono0 e b)
theorem RepK.mono0 (e : Ev0 F H F' H') : ∀ {v : List Ent} {d : List (D × D)}, RepK B F H v d → RepK B F' H' v d
 | _, _, .nil => .nil
 | _, _, .cons a b c d f g => .cons a (Rep.mono0 e b) c d (Rep.mono0 e f) (RepK.mono0 e g)
theorem RepF.mono0 (e : Ev0 F H F' H') : ∀ {v : List (Str × V)} {d : List (Str × D)}, RepF B F H v d → RepF B F' H' v d
 | _, _, .nil => .nil
 | _, _, .cons a b => .cons (Rep.mono0 e a) (RepF.mono0 e b)
end
theorem Rep.mono (e : Evo ι F H ι' F' H') {v : V} {d : D} (h : Rep B F H v d) : Rep B F' H' v d := h.mono0 e.e0
theorem Reps.mono (e : Evo ι F H ι' F' H') {v : List V} {d : List D} (h : Reps B F H v d) : Reps B F' H' v d := h.mono0 e.e0
theorem RepU.mono (e : Evo ι F H ι' F' H') {v : V} {u : U} (h : RepU B ι F H v u) : RepU B ι' F' H' v u := by
 cases h with
 | v h => exact .v (h.mono e)
 | r h => exact .r (e.pre _ _ h)
theorem RepUs.mono (e : Evo ι F H ι' F' H') {v : List V} {u : List U} (h : RepUs B ι F H v u) : RepUs B ι' F' H' v u := Paired.mapP h fun _ _ x => x.mono e
theorem RepKU.mono (e : Evo ι F H ι' F' H') {v : List Ent} {u : List (D × U)} (h : RepKU B ι F H v u) : RepKU B ι' F' H' v u :=
 Paired.mapP h fun _ _ ⟨a, b, c, w, x, y⟩ => ⟨a, b.mono e, c, w, x, y.mono e⟩
theorem RepFU.mono (e : Evo ι F H ι' F' H') {v : List (Str × V)} {u : List (Str × U)} (h : RepFU B ι F H v u) : RepFU B ι' F' H' v u :=
 Paired.mapP h fun _ _ ⟨a, b⟩ => ⟨a, b.mono e⟩
end
end Pu
namespace Pu
open PySem L2
abbrev bx (X : Cx) (cl : Nat → Addr) : Bx := ⟨X.prog, X.w, X.K, cl⟩
inductive R (α : Type) where
 | ok (a : α) (S : Sto) | ex (c : Nat) (fs : List (Str × U)) (S : Sto) | er
def R.bind {α β : Type} (r : R α) (k : α → Sto → R β) : R β := match r with
 | .ok a S => k a S
 | .ex c fs S => .ex c fs S
 | .er => .er
@[simp] theorem R.bind_ok {α β : Type} (a : α) (S : Sto) (k : α → Sto → R β) : (R.ok a S).bind k = k a S := rfl
@[simp] theorem R.bind_ex {α β : Type} (c : Nat) (fs : List (Str × U)) (S : Sto) (k : α → Sto → R β) : (R.ex c fs S : R α).bind k = .ex c fs S := rfl
@[simp] theorem R.bind_er {α β : Type} (k : α → Sto → R β) : (R.er : R α).bind k = .er := rfl
abbrev ME := Env' → Sto → R U
abbrev MT := Env' → Sto → R Bool
abbrev MA := Env' → Sto → R (List U)
abbrev MG := U → Env' → Option Env'
inductive RS where
 | nx (ρ : Env') (S : Sto) | rt (u : U) (S : Sto) | bk (ρ : Env') (S : Sto) | ct (ρ : Env') (S : Sto) | ex (c : Nat) (fs : List (Str × U)) (ρ : Env') (S : Sto) | er
abbrev MS := Env' → Sto → RS
def RepO (B : Bx) (ι : List Addr) (F : Addr → Prop) (H : Hp) : Option V → Option U → Prop
 | _, none => True
 | some v, some u => RepU B ι F H v u
 | none, some _ => False
abbrev REnv (B : Bx) (ι : List Addr) (F : Addr → Prop) (H : Hp) : St → Env' → Prop := Paired (RepO B ι F H)
section
variable {B : Bx} {ι ι' : List Addr} {F F' : Addr → Prop} {H H' : Hp}
theorem RepO.mono (e : Evo ι F H ι' F' H') : ∀ {v : Option V} {u : Option U}, RepO B ι F H v u → RepO B ι' F' H' v u
 | _, none, _ => by unfold RepO; split <;> trivial
 | some v, some u, h => RepU.mono e (show RepU B ι F H v u from h)
 | none, some u, h => False.elim h
theorem REnv.mono (e : Evo ι F H ι' F' H') {σ : St} {ρ : Env'} (h : REnv B ι F H σ ρ) : REnv B ι' F' H' σ ρ := Paired.mapP h fun _ _ x => x.mono e
theorem paired_get {α β : Type} {P : α → β → Prop} : ∀ {xs : List α} {ys : List β} {i : Nat} {y : β}, Paired P xs ys → ys[i]? = some y → ∃ x, xs[i]? = some x ∧ P x y
 | _, _, _, _, .nil, h => by simp at h
 | _, _, 0, _, .cons r _, h => by simp at h; subst h; exact ⟨_, rfl, r⟩
 | _, _, i + 1, y, .cons _ t, h => by
   obtain ⟨x, h1, h2⟩ := paired_get (i := i) (y := y) t (by simpa using h)
   exact ⟨x, by simpa using h1, h2⟩
theorem paired_get' {α β : Type} {P : α → β → Prop} : ∀ {xs : List α} {ys : List β} {i : Nat} {x : α}, Paired P xs ys → xs[i]? = some x → ∃ y, ys[i]? = some y ∧ P x y
 | _, _, _, _, .nil, h => by simp at h
 | _, _, 0, _, .cons r _, h => by simp at h; subst h; exact ⟨_, rfl, r⟩
 | _, _, i + 1, y, .cons _ t, h => by
   obtain ⟨x, h1, h2⟩ := paired_get' (i := i) (x := y) t (by simpa using h)
   exact ⟨x, by simpa using h1, h2⟩
theorem paired_set {α β : Type} {P : α → β → Prop} {x : α} {y : β} (r : P x y) : ∀ {xs : List α} {ys : List β} (i : Nat), Paired P xs ys → Paired P (xs.set i x) (ys.set i y)
 | _, _, _, .nil => .nil
 | _, _, 0, .cons _ t => .cons r t
 | _, _, i + 1, .cons q t => .cons q (paired_set r i t)
theorem paired_append {α β : Type} {P : α → β → Prop} : ∀ {xs xs' : List α} {ys ys' : List β}, Paired P xs ys → Paired P xs' ys' → Paired P (xs ++ xs') (ys ++ ys')
 | _, _, _, _, .nil, h => h
 | _, _, _, _, .cons a b, h => .cons a (paired_append b h)
theorem paired_len {α β : Type} {P : α → β → Prop} : ∀ {xs : List α} {ys : List β}, Paired P xs ys → xs.length = ys.length
 | _, _, .nil => rfl
 | _, _, .cons _ b => by simp [paired_len b]
theorem paired_take {α β : Type} {P : α → β → Prop} : ∀ {xs : List α} {ys : List β} (n : Nat), Paired P xs ys → Paired P (xs.take n) (ys.take n)
 | _, _, 0, _ => by simp; exact .nil
 | _, _, _ + 1, .nil => by simp; exact .nil
 | _, _, n + 1, .cons a b => by simp; exact .cons a (paired_take n b)
theorem paired_drop {α β : Type} {P : α → β → Prop} : ∀ {xs : List α} {ys : List β} (n : Nat), Paired P xs ys → Paired P (xs.drop n) (ys.drop n)
 | _, _, 0, h => by simpa using h
 | _, _, _ + 1, .nil => by simp; exact .nil
 | _, _, n + 1, .cons a b => by simpa using paired_drop n b
theorem reps_iff : ∀ {vs : List V} {ds : List D}, Reps B F H vs ds ↔ Paired (Rep B F H) vs ds
 | [], [] => ⟨fun _ => .nil, fun _ => .nil⟩
 | [], _ :: _ => ⟨nofun, nofun⟩
 | _ :: _, [] => ⟨nofun, nofun⟩
 | v :: vs, d :: ds => ⟨fun | .cons a b => .cons a (reps_iff.mp b), fun | .cons a b => .cons a (reps_iff.mpr b)⟩
theorem reps_u {vs : List V} {ds : List D} (h : Reps B F H vs ds) : RepUs B ι F H vs (ds.map U.v) := by
 have := reps_iff.mp h
 clear h
 induction this with
 | nil => exact .nil
 | cons a b ih => exact .cons (.v a) ih
def allV : List U → Option (List D)
 | [] => some []
 | .v d :: us => (allV us).map (d :: ·)
 | .r _ :: _ => none
@[simp] theorem allV_map (ds : List D) : allV (ds.map U.v) = some ds := by
 induction ds with
 | nil => rfl
 | cons d ds ih => simp [allV, ih]
theorem allV_some : ∀ {us : List U} {ds : List D}, allV us = some ds → us = ds.map U.v
 | [], ds, h => by simp [allV] at h; subst h; rfl
 | .v d :: us, ds, h => by
   cases e : allV us with
   | none => simp [allV, e] at h
   | some es =>
     simp [allV, e] at h
     subst h
     simp [allV_some e]
 | .r _ :: _, ds, h => by simp [allV] at h
theorem repus_reps : ∀ {vs : List V} {ds : List D}, RepUs B ι F H vs (ds.map U.v) → Reps B F H vs ds
 | _, [], h => by cases h; exact .nil
 | _, d :: ds, h => by
   cases h with
   | cons a b =>
     cases a with
     | v a => exact .cons a (repus_reps b)
end
section
variable {B : Bx} {ι ι' : List Addr} {F F' : Addr → Prop} {H H' : Hp} {S : Sto} {p : Addr} {o : HO}
theorem Evo.kept (k : ∀ a o, H a = some o → H' a = some o) (hF : ∀ a, F a → F' a) : Evo ι F H ι F' H' :=
 ⟨fun _ _ h => h, hF, fun a o _ h _ => k a o h, fun a xs h => k a _ h, fun a h => by
   cases e : H a with
   | none => exact absurd e h
   | some o => rw [k a o e]; simp, fun a o u h => k a _ h, fun a φ _ h => h.elim (fun h => .inl (k a _ h)) fun ⟨o, h⟩ => .inr ⟨o, k a _ h⟩⟩
theorem kept_upd (h : H p = none) : ∀ a u, H a = some u → upd H p o a = some u := fun a u e => by
 rw [upd_ne (ne_of_none e h)]; exact e
theorem CellOk.kept {a : Addr} {c : Cell} (k : ∀ a o, H a = some o → H' a = some o) (hF : ∀ a, F a → F' a) (hF2 : ∀ a, F' a → ¬ F a → H a = none) (e : Evo ι F H ι' F' H') (x : CellOk B ι F H a c) : CellOk B ι' F' H' a c := by
 cases c with
 | lst xs => obtain ⟨vs, h, r⟩ := x; exact ⟨vs, k _ _ h, r.mono e⟩
 | tpc xs => obtain ⟨vs, h, r⟩ := x; exact ⟨vs, h.imp (k _), r.mono e⟩
 | dic kvs => obtain ⟨es, h, z, r⟩ := x; exact ⟨es, k _ _ h, z, r.mono e⟩
 | dicL kvs => obtain ⟨es, od, h, z, r⟩ := x; exact ⟨es, od, k _ _ h, z, r.mono e⟩
 | ins c fs =>
   obtain ⟨dx, vs, h, h2, nf, r⟩ := x
   refine ⟨dx, vs, k _ _ h, k _ _ h2, fun z => ?_, r.mono e⟩
   have := hF2 dx z nf
   rw [h2] at this; cases this
 | dead => trivial
theorem Rel.ext (r : Rel B ι F S H) (k : ∀ a o, H a = some o → H' a = some o) (hF : ∀ a, F a → F' a) (hF2 : ∀ a, F' a → ¬ F a → H a = none) (hF3 : ∀ a, F' a → H' a ≠ none) : Rel B ι F' S H' := by
 have e : Evo ι F H ι F' H' := Evo.kept k hF
 refine ⟨r.len, r.nd, fun n a c h1 h2 h3 z => ?_, fun n a c h1 h2 => (r.ok n a c h1 h2).kept k hF hF2 e, fun a h => e.alive a (r.there a h), hF3, fun a h x z => ?_⟩
 · have := hF2 a z (r.nf n a c h1 h2 h3)
   exact r.there a (List.mem_of_getElem? h1) this
 · cases q : H a with
   | none => exact r.there a h q
   | some o => rw [k a o q] at z; cases z; exact r.now a h x q
theorem Rel.new (r : Rel B ι F S H) (h : H p = none) : Rel B ι F S (upd H p o) :=
 r.ext (kept_upd h) (fun _ x => x) (fun _ x y => absurd x y) fun a f => (Evo.kept (ι := ι) (F' := F) (kept_upd (o := o) h) fun _ x => x).alive a (r.fthere a f)
theorem Evo.new (h : H p = none) : Evo ι F H ι F (upd H p o) := Evo.kept (kept_upd h) fun _ x => x
abbrev addF (F : Addr → Prop) (p : Addr) : Addr → Prop := fun a => F a ∨ a = p
theorem Rel.newF (r : Rel B ι F S H) (h : H p = none) : Rel B ι (addF F p) S (upd H p o) :=
 r.ext (kept_upd h) (fun _ x => .inl x) (fun a x y => by
   rcases x with x | x
   · exact absurd x y
   · rw [x]; exact h) fun a f => by
   rcases f with f | f
   · exact (Evo.kept (ι := ι) (F' := F) (kept_upd (o := o) h) fun _ x => x).alive a (r.fthere a f)
   · rw [f, upd_same]; simp
theorem Evo.newF (h : H p = none) : Evo ι F H ι (addF F p) (upd H p o) := Evo.kept (kept_upd h) fun _ x => .inl x
theorem Evo.newS (h : H p = none) : Evo ι F H (ι ++ [p]) F (upd H p o) := by
 refine ⟨fun n a e => ?_, fun _ h => h, fun a o _ e _ => kept_upd h a o e, fun a xs e => kept_upd h a _ e, (Evo.new (ι := ι) (F := F) h).alive, fun a o u e => kept_upd h a _ e, fun a φ _ z => z.elim (fun z => .inl (kept_upd h a _ z)) fun ⟨o, z⟩ => .inr ⟨o, kept_upd h a _ z⟩⟩
 rw [List.getElem?_append_left (List.getElem?_eq_some_iff.mp e).1]
 exact e
theorem Rel.newS {c : Cell} (r : Rel B ι F S H) (h : H p = none) (ho : ∀ x, o ≠ .own x) (new : CellOk B (ι ++ [p]) F (upd H p o) p c) : Rel B (ι ++ [p]) F (S ++ [c]) (upd H p o) := by
 have np : p ∉ ι := fun z => r.there p z h
 have e : Evo ι F H (ι ++ [p]) F (upd H p o) := Evo.newS h
 refine ⟨by simp [r.len], ?_, fun n a c' h1 h2 h3 z => ?_, fun n a c' h1 h2 => ?_, fun a ha => ?_, fun a f => e.alive a (r.fthere a f), fun a ha x z => ?_⟩
 · rw [List.nodup_append]
   exact ⟨r.nd, by simp, fun a ha b hb => by simp at hb; subst hb; rintro rfl; exact np ha⟩
 · by_cases hn : n < ι.length
   · rw [List.getElem?_append_left hn] at h1
     rw [List.getElem?_append_left (by rw [← r.len]; exact hn)] at h2
     exact r.nf n a c' h1 h2 h3 z
   · rw [List.getElem?_append_right (by omega)] at h1
     have hn0 : n - ι.length = 0 := by
       have := (List.getElem?_eq_some_iff.mp h1).1
       simp at this; omega
     rw [hn0] at h1
     simp at h1; subst h1
     exact r.fthere _ z h
 · by_cases hn : n < ι.length
   · rw [List.getElem?_append_left hn] at h1
     rw [List.getElem?_append_left (by rw [← r.len]; exact hn)] at h2
     exact (r.ok n a c' h1 h2).kept (kept_upd h) (fun _ x => x) (fun _ x y => absurd x y) e
   · rw [List.getElem?_append_right (by omega)] at h1
     rw [List.getElem?_append_right (by rw [← r.len]; omega)] at h2
     have hn0 : n - ι.length = 0 := by
       have := (List.getElem?_eq_some_iff.mp h1).1
       simp at this; omega
     rw [← r.len, hn0] at h2
     rw [hn0] at h1
     simp at h1 h2; subst h1; subst h2
     exact new
 · rcases List.mem_append.mp ha with ha | ha
   · exact e.alive a (r.there a ha)
   · simp at ha; subst ha; rw [upd_same]; simp
 · rcases List.mem_append.mp ha with ha | ha
   · rw [upd_ne (fun z' : a = p => np (by rw [← z']; exact ha))] at z
     exact r.now a ha x z
   · simp at ha; subst ha; rw [upd_same] at z; exact ho x (Option.some.inj z)
theorem Rel.write {n : Nat} {a : Addr} {c c' : Cell} (r : Rel B ι F S H) (h1 : ι[n]? = some a) (h2 : S[n]? = some c) (h3 : c.live = true) (ht : ∀ xs, H a ≠ some (.tup xs)) (ho : ∀ x, o ≠ .own x) (hz : ∀ p u, H a ≠ some (.frz p u))
   (new : CellOk B ι F (upd H a o) a c') : Rel B ι F (S.set n c') (upd H a o) ∧ Evo ι F H ι F (upd H a o) := by
 have nf := r.nf n a c h1 h2 h3
 have hw := r.now a (List.mem_of_getElem? h1)
 have e : Evo ι F H ι F (upd H a o) := by
   refine ⟨fun _ _ h => h, fun _ h => h, fun b u f h _ => ?_, fun b xs h => ?_, fun b h => ?_, fun b p u h => ?_, fun b φ f h => rd_ne (fun z : b = a => nf (by rw [← z]; exact f)) h⟩
   · rw [upd_ne (fun z : b = a => nf (by rw [← z]; exact f))]; exact h
   · rw [upd_ne (fun z : b = a => ht xs (by rw [← z]; exact h))]; exact h
   · by_cases hb : b = a
     · rw [hb, upd_same]; simp
     · rw [upd_ne hb]; exact h
   · rw [upd_ne (fun z : b = a => hz p u (by rw [← z]; exact h))]; exact h
 refine ⟨⟨by simp [r.len], r.nd, fun m b d g1 g2 g3 => ?_, fun m b d g1 g2 => ?_, fun b hb => e.alive b (r.there b hb), fun b hb => e.alive b (r.fthere b hb), fun b hb x z => ?_⟩, e⟩
 · by_cases hm : m = n
   · subst hm; rw [h1] at g1; cases g1; exact nf
   · rw [List.getElem?_set_ne (Ne.symm hm)] at g2
     exact r.nf m b d g1 g2 g3
 · by_cases hm : m = n
   · subst hm
     rw [h1] at g1; cases g1
     rw [List.getElem?_set_self (List.getElem?_eq_some_iff.mp h2).1] at g2
     cases g2
     exact new
   · rw [List.getElem?_set_ne (Ne.symm hm)] at g2
     have hba : b ≠ a := fun z => by
       subst z
       obtain ⟨q1, e1⟩ := List.getElem?_eq_some_iff.mp h1
       obtain ⟨q2, e2⟩ := List.getElem?_eq_some_iff.mp g1
       exact hm ((List.getElem_inj r.nd).mp (e2.trans e1.symm))
     have x := r.ok m b d g1 g2
     cases d with
     | lst xs => obtain ⟨vs, h, q⟩ := x; exact ⟨vs, by rw [upd_ne hba]; exact h, q.mono e⟩
     | tpc xs => obtain ⟨vs, h, q⟩ := x; exact ⟨vs, h.imp fun u z => by rw [upd_ne hba]; exact z, q.mono e⟩
     | dic kvs => obtain ⟨es, h, z, q⟩ := x; exact ⟨es, by rw [upd_ne hba]; exact h, z, q.mono e⟩
     | dicL kvs => obtain ⟨es, od, h, z, q⟩ := x; exact ⟨es, od, by rw [upd_ne hba]; exact h, z, q.mono e⟩
     | ins k fs =>
       obtain ⟨dx, vs, h, hd, nd, q⟩ := x
       have hda : dx ≠ a := fun z => by subst z; exact hw b hd
       exact ⟨dx, vs, by rw [upd_ne hba]; exact h, by rw [upd_ne hda]; exact hd, nd, q.mono e⟩
     | dead => trivial
 · by_cases hb' : b = a
   · rw [hb', upd_same] at z; exact ho x (Option.some.inj z)
   · rw [upd_ne hb'] at z; exact r.now b hb x z
end
def OutX (B : Bx) (W : WX) (σ : St) (ι : List Addr) (F : Addr → Prop) (H : Hp) (c : Nat) (fs : List (Str × U)) (S' : Sto) : Prop :=
 ∀ (dx : Addr) (vs : List (Str × V)) (ι' : List Addr) (F' : Addr → Prop) (H' : Hp), Evo ι F H ι' F' H' → Rel B ι' F' S' H' → H' dx = some (.xd vs) → RepFU B ι' F' H' vs fs → W (.ref (B.cl c)) (some dx) σ H'
def Out {α β : Type} (B : Bx) (W : WX) (σ : St) (ι : List Addr) (F : Addr → Prop) (H : Hp) (rep : List Addr → (Addr → Prop) → Hp → β → α → Prop) (Q : β → Hp → Prop) : R α → Prop
 | .ok a S' => ∀ (b : β) (ι' : List Addr) (F' : Addr → Prop) (H' : Hp), Evo ι F H ι' F' H' → Rel B ι' F' S' H' → rep ι' F' H' b a → Q b H'
 | .ex c fs S' => OutX B W σ ι F H c fs S'
 | .er => False
section
variable {α β γ δ : Type} {B : Bx} {W : WX} {σ : St} {ι ι1 : List Addr} {F F1 : Addr → Prop} {H H1 : Hp} {rep : List Addr → (Addr → Prop) → Hp → β → α → Prop} {rep1 : List Addr → (Addr → Prop) → Hp → δ → γ → Prop} {Q Q' : β → Hp → Prop}
theorem OutX.shift {c : Nat} {fs : List (Str × U)} {S' : Sto} (e : Evo ι F H ι1 F1 H1) (h : OutX B W σ ι F H c fs S') : OutX B W σ ι1 F1 H1 c fs S' := fun dx vs ι' F' H' e' => h dx vs ι' F' H' (e.trans e')
theorem Out.shift (e : Evo ι F H ι1 F1 H1) {r : R α} (h : Out B W σ ι F H rep Q r) : Out B W σ ι1 F1 H1 rep Q r := by
 cases r with
 | ok a S' => exact fun b ι' F' H' e' => h b ι' F' H' (e.trans e')
 | ex c fs S' => exact OutX.shift e h
 | er => exact h
theorem Out.mono {r : R α} (h : Out B W σ ι F H rep Q r) (k : ∀ b H', Q b H' → Q' b H') : Out B W σ ι F H rep Q' r := by
 cases r with
 | ok a S' => exact fun b ι' F' H' e' r' z => k b H' (h b ι' F' H' e' r' z)
 | ex c fs S' => exact h
 | er => exact h
theorem Out.bind {r : R γ} {k : γ → Sto → R α} (h : Out B W σ ι F H rep Q (r.bind k)) :
   Out B W σ ι F H rep1 (fun b H1 => ∃ ι1 F1 S1 a, Evo ι F H ι1 F1 H1 ∧ Rel B ι1 F1 S1 H1 ∧ rep1 ι1 F1 H1 b a ∧ Out B W σ ι1 F1 H1 rep Q (k a S1)) r := by
 cases r with
 | ok a S' => exact fun b ι' F' H' e' r' z => ⟨ι', F', S', a, e', r', z, Out.shift e' h⟩
 | ex c fs S' => exact h
 | er => exact h
end
def liftE (B : Bx) (W : WX) (m : ME) : TE := fun σ H Q => ∃ ι F S ρ, Rel B ι F S H ∧ REnv B ι F H σ ρ ∧ Out B W σ ι F H (RepU B) Q (m ρ S)
def liftT (B : Bx) (W : WX) (m : MT) : TT := fun σ H Q => ∃ ι F S ρ, Rel B ι F S H ∧ REnv B ι F H σ ρ ∧ Out B W σ ι F H (fun _ _ _ b c => b = c) Q (m ρ S)
def liftA (B : Bx) (W : WX) (m : MA) : TA := fun σ H Q => ∃ ι F S ρ, Rel B ι F S H ∧ REnv B ι F H σ ρ ∧ Out B W σ ι F H (fun ι F H => RepUs B ι F H) Q (m ρ S)
def liftG (B : Bx) (js : List Nat) (m : MG) : TG := fun v σ H Q => ∃ ι F S ρ u ρ', Rel B ι F S H ∧ REnv B ι F H σ ρ ∧ RepU B ι F H v u ∧ m u ρ = some ρ' ∧ ∀ σ', REnv B ι F H σ' ρ' → (∀ i, i ∉ js → σ'[i]? = σ[i]?) → σ'.length = σ.length → Q σ' H
def OutS (B : Bx) (W : WX) (ι : List Addr) (F : Addr → Prop) (H : Hp) (D : Ends) : RS → Prop
 | .nx ρ S' => ∀ (σ : St) (ι' : List Addr) (F' : Addr → Prop) (H' : Hp), Evo ι F H ι' F' H' → Rel B ι' F' S' H' → REnv B ι' F' H' σ ρ → D.nx σ H'
 | .bk ρ S' => ∀ (σ : St) (ι' : List Addr) (F' : Addr → Prop) (H' : Hp), Evo ι F H ι' F' H' → Rel B ι' F' S' H' → REnv B ι' F' H' σ ρ → D.bk σ H'
 | .ct ρ S' => ∀ (σ : St) (ι' : List Addr) (F' : Addr → Prop) (H' : Hp), Evo ι F H ι' F' H' → Rel B ι' F' S' H' → REnv B ι' F' H' σ ρ → D.ct σ H'
 | .rt u S' => ∀ (v : V) (ι' : List Addr) (F' : Addr → Prop) (H' : Hp), Evo ι F H ι' F' H' → Rel B ι' F' S' H' → RepU B ι' F' H' v u → D.rt v H'
 | .ex c fs ρ S' => ∀ (σ : St) (ι' : List Addr) (F' : Addr → Prop) (H' : Hp), Evo ι F H ι' F' H' → REnv B ι' F' H' σ ρ → OutX B W σ ι' F' H' c fs S'
 | .er => False
def liftS (B : Bx) (W : WX) (m : MS) : TS := fun D σ H => ∃ ι F S ρ, Rel B ι F S H ∧ REnv B ι F H σ ρ ∧ OutS B W ι F H D (m ρ S)
section
variable {B : Bx} {W : WX} {ι ι1 : List Addr} {F F1 : Addr → Prop} {H H1 : Hp} {D D' : Ends}
theorem OutS.shift (e : Evo ι F H ι1 F1 H1) {r : RS} (h : OutS B W ι F H D r) : OutS B W ι1 F1 H1 D r := by
 cases r with
 | nx ρ S' => exact fun σ ι' F' H' e' => h σ ι' F' H' (e.trans e')
 | bk ρ S' => exact fun σ ι' F' H' e' => h σ ι' F' H' (e.trans e')
 | ct ρ S' => exact fun σ ι' F' H' e' => h σ ι' F' H' (e.trans e')
 | rt u S' => exact fun v ι' F' H' e' => h v ι' F' H' (e.trans e')
 | ex c fs ρ S' => exact fun σ ι' F' H' e' => h σ ι' F' H' (e.trans e')
 | er => exact h
end
def QE (X : Cx) (cl : Nat → Addr) (W : WX) (e : Expr) (m : ME) : Prop := PE X e (liftE (bx X cl) W m)
def QT (X : Cx) (cl : Nat → Addr) (W : WX) (e : Expr) (m : MT) : Prop := PT X e (liftT (bx X cl) W m)
def QA (X : Cx) (cl : Nat → Addr) (W : WX) (es : List Expr) (m : MA) : Prop := PA X es (liftA (bx X cl) W m)
def QG (X : Cx) (cl : Nat → Addr) (e : Expr) (js : List Nat) (m : MG) : Prop := PG X e (liftG (bx X cl) js m)
def QS (X : Cx) (cl : Nat → Addr) (W : WX) (s : Stmt) (m : MS) : Prop := PS X s (liftS (bx X cl) W m)
def QSs (X : Cx) (cl : Nat → Addr) (W : WX) (ss : List Stmt) (m : MS) : Prop := PSs X ss (liftS (bx X cl) W m)
theorem PE.imp {X : Cx} {e : Expr} {t t' : TE} (h : PE X e t) (k : ∀ σ H Q, t' σ H Q → t σ H Q) : PE X e t' := ⟨fun pins s σ H Q I hq => h.run pins s σ H Q I (k σ H Q hq)⟩
theorem PT.imp {X : Cx} {e : Expr} {t t' : TT} (h : PT X e t) (k : ∀ σ H Q, t' σ H Q → t σ H Q) : PT X e t' := ⟨fun pins s σ H Q I hq => h.run pins s σ H Q I (k σ H Q hq)⟩
theorem PA.imp {X : Cx} {e : List Expr} {t t' : TA} (h : PA X e t) (k : ∀ σ H Q, t' σ H Q → t σ H Q) : PA X e t' := ⟨fun pos pins s σ H Q I hq => h.run pos pins s σ H Q I (k σ H Q hq)⟩
theorem PG.imp {X : Cx} {e : Expr} {t t' : TG} (h : PG X e t) (k : ∀ v σ H Q, t' v σ H Q → t v σ H Q) : PG X e t' := ⟨fun pins s σ H v u Q I r hq => h.run pins s σ H v u Q I r (k v σ H Q hq)⟩
theorem PS.imp {X : Cx} {e : Stmt} {t t' : TS} (h : PS X e t) (k : ∀ D σ H, t' D σ H → t D σ H) : PS X e t' := ⟨fun pins s σ H D I hq => h.run pins s σ H D I (k D σ H hq)⟩
theorem PSs.imp {X : Cx} {e : List Stmt} {t t' : TS} (h : PSs X e t) (k : ∀ D σ H, t' D σ H → t D σ H) : PSs X e t' := ⟨fun pins s σ H D I hq => h.run pins s σ H D I (k D σ H hq)⟩
end Pu
namespace Pu
open PySem L2
def eVar (i : Nat) : ME := fun ρ S => match ρ[i]? with
 | some (some u) => .ok u S
 | _ => .er
def eC (d : D) : ME := fun _ S => .ok (.v d) S
abbrev F1 := U → Sto → Option (U × Sto)
abbrev F2 := U → U → Sto → Option (U × Sto)
abbrev FA := List U → Sto → Option (U × Sto)
abbrev FM := U → List U → Sto → Option (U × Sto)
def ofO {α : Type} : Option (α × Sto) → R α
 | some (a, S) => .ok a S
 | none => .er
@[simp] theorem ofO_some {α : Type} (a : α) (S : Sto) : ofO (some (a, S)) = R.ok a S := rfl
@[simp] theorem ofO_none {α : Type} : (ofO none : R α) = R.er := rfl
def eOp (f : F2) (a b : ME) : ME := fun ρ S => (a ρ S).bind fun x S1 => (b ρ S1).bind fun y S2 => ofO (f x y S2)
def eUn (f : F1) (a : ME) : ME := fun ρ S => (a ρ S).bind fun x S1 => ofO (f x S1)
def aNil : MA := fun _ S => .ok [] S
def aCons (a : ME) (r : MA) : MA := fun ρ S => (a ρ S).bind fun x S1 => (r ρ S1).bind fun xs S2 => .ok (x :: xs) S2
def eCB (f : FA) (a : MA) : ME := fun ρ S => (a ρ S).bind fun xs S1 => ofO (f xs S1)
def eMt (f : FM) (o : ME) (a : MA) : ME := fun ρ S => (o ρ S).bind fun x S1 => (a ρ S1).bind fun xs S2 => ofO (f x xs S2)
def fTup : FA := fun us S => if us.length ≤ 100000 then (allV us).map fun ds => (.v (.tup ds), S) else none
def fLstV : FA := fun us S => if us.length ≤ 100000 then (allV us).map fun ds => (.v (.lst ds), S) else none
def fLstS : FA := fun us S => if us.length ≤ 100000 then some (.r S.length, S ++ [.lst us]) else none
def isB : U → Sto → Option (Bool × Sto)
 | .v (.bl b), S => some (b, S)
 | _, _ => none
def tB (m : ME) : MT := fun ρ S => (m ρ S).bind fun u S1 => ofO (isB u S1)
def tAnd (a b : MT) : MT := fun ρ S => (a ρ S).bind fun x S1 => if x = true then b ρ S1 else .ok false S1
def tOr (a b : MT) : MT := fun ρ S => (a ρ S).bind fun x S1 => if x = true then .ok true S1 else b ρ S1
def tNot (a : MT) : MT := fun ρ S => (a ρ S).bind fun x S1 => .ok (!x) S1
def eAnd (a b : ME) : ME := fun ρ S => (a ρ S).bind fun u S1 => (ofO (isB u S1)).bind fun x S2 => if x = true then b ρ S2 else .ok (.v (.bl false)) S2
def eOr (a b : ME) : ME := fun ρ S => (a ρ S).bind fun u S1 => (ofO (isB u S1)).bind fun x S2 => if x = true then .ok (.v (.bl true)) S2 else b ρ S2
def eNot (a : ME) : ME := fun ρ S => (a ρ S).bind fun u S1 => (ofO (isB u S1)).bind fun x S2 => .ok (.v (.bl (!x))) S2
def eIf (c : MT) (a b : ME) : ME := fun ρ S => (c ρ S).bind fun x S1 => if x = true then a ρ S1 else b ρ S1
def Fin (B : Bx) (ι : List Addr) (F : Addr → Prop) (H : Hp) (Q : VK) (o : Option (U × Sto)) : Prop :=
 ∃ u S', o = some (u, S') ∧ ∀ (v : V) (ι' : List Addr) (F' : Addr → Prop) (H' : Hp), Evo ι F H ι' F' H' → Rel B ι' F' S' H' → RepU B ι' F' H' v u → Q v H'
def liftOp (B : Bx) (f : F2) : R2 := fun x y H Q => ∃ ι F S a b, Rel B ι F S H ∧ RepU B ι F H x a ∧ RepU B ι F H y b ∧ Fin B ι F H Q (f a b S)
def liftUn (B : Bx) (f : F1) : V → Hp → VK → Prop := fun x H Q => ∃ ι F S a, Rel B ι F S H ∧ RepU B ι F H x a ∧ Fin B ι F H Q (f a S)
def liftC (B : Bx) (f : FA) : List V → Hp → VK → Prop := fun xs H Q => ∃ ι F S as, Rel B ι F S H ∧ RepUs B ι F H xs as ∧ Fin B ι F H Q (f as S)
def liftM (B : Bx) (f : FM) : V → List V → Hp → VK → Prop := fun x xs H Q => ∃ ι F S a as, Rel B ι F S H ∧ RepU B ι F H x a ∧ RepUs B ι F H xs as ∧ Fin B ι F H Q (f a as S)
section
variable {B : Bx} {W : WX} {σ : St} {ι : List Addr} {F : Addr → Prop} {H : Hp} {Q : VK}
theorem Out.fin {o : Option (U × Sto)} (h : Out B W σ ι F H (RepU B) Q (ofO o)) : Fin B ι F H Q o := by
 cases o with
 | none => exact h.elim
 | some p =>
   obtain ⟨u, S'⟩ := p
   exact ⟨u, S', rfl, fun v ι' F' H' e r z => h v ι' F' H' e r z⟩
theorem Fin.val {u : U} {S' : Sto} {v : V} (h : Fin B ι F H Q (some (u, S'))) (r : Rel B ι F S' H) (z : RepU B ι F H v u) : Q v H := by
 obtain ⟨u', S'', e, k⟩ := h
 cases e
 exact k v ι F H Evo.refl r z
theorem Fin.go {u : U} {S' : Sto} {v : V} {ι' : List Addr} {F' : Addr → Prop} {H' : Hp} (h : Fin B ι F H Q (some (u, S'))) (e : Evo ι F H ι' F' H') (r : Rel B ι' F' S' H') (z : RepU B ι' F' H' v u) : Q v H' := by
 obtain ⟨u', S'', e', k⟩ := h
 cases e'
 exact k v ι' F' H' e r z
theorem Fin.no {P : Prop} (h : Fin B ι F H Q none) : P := by
 obtain ⟨u', S'', e', k⟩ := h
 cases e'
end
section
variable {X : Cx} {cl : Nat → Addr} {W : WX} {a b c e : Expr} {es : List Expr} {ma mb mc : ME} {mA : MA} {ta tb : MT} {pos : Pos}
theorem qe_var {i : Nat} {x : Str} (hN : X.N[i]? = some x) (hv : Vis X.env.scope x) (hd : (x == ("__debug__" : Str)) = false := by decide) (hcd : (x == ("__classdict__" : Str)) = false := by decide) : QE X cl W (.Name x pos) (eVar i) :=
 PE.imp (pe_var hN hv hd hcd) fun σ H Q ⟨ι, F, S, ρ, r, en, o⟩ => by
   unfold eVar at o
   split at o
   · rename_i u e
     obtain ⟨v, h1, h2⟩ := paired_get en e
     cases v with
     | none => exact h2.elim
     | some v => exact ⟨v, h1, o v ι F H Evo.refl r h2⟩
   · exact o.elim
theorem qe_const {d : D} {v : V} (h : PE X e (tC v)) (r : ∀ F H, Rep (bx X cl) F H v d) : QE X cl W e (eC d) :=
 PE.imp h fun σ H Q ⟨ι, F, S, ρ, r', en, o⟩ => o v ι F H Evo.refl r' (.v (r F H))
theorem qe_int {i j} : QE X cl W (.Constant (.int i) j pos) (eC (.int i)) := qe_const pe_int fun _ _ => .int i
theorem qe_bl {i j} : QE X cl W (.Constant (.bool i) j pos) (eC (.bl i)) := qe_const pe_bl fun _ _ => .bl i
theorem qe_str {i j} (hs : PyData.strOk i = true := by decide +kernel) : QE X cl W (.Constant (.str i) j pos) (eC (.str i)) := qe_const pe_str fun _ _ => .str i hs
theorem qe_gInt {x : Str} {i : Int} {t : Tok} (hg : Gl X x) (hm : X.mg x = some (.int i t)) (hd : (x == ("__debug__" : Str)) = false := by decide) : QE X cl W (.Name x pos) (eC (.int i)) := qe_const (pe_glob (v := .int i) hg hm ⟨t, rfl⟩ hd) fun _ _ => .int i
theorem qe_gStr {x : Str} {i : Str} {t : Tok} (hg : Gl X x) (hm : X.mg x = some (.str i t)) (hs : PyData.strOk i = true := by decide +kernel) (hd : (x == ("__debug__" : Str)) = false := by decide) : QE X cl W (.Name x pos) (eC (.str i)) := qe_const (pe_glob (v := .str i) hg hm ⟨t, rfl⟩ hd) fun _ _ => .str i hs
theorem qe_gCls {x : Str} {i : Nat} (hg : Gl X x) (hm : X.mg x = some (.ref (cl i))) (hd : (x == ("__debug__" : Str)) = false := by decide) : QE X cl W (.Name x pos) (eC (.cls i)) := qe_const (pe_glob (v := .ref (cl i)) hg hm rfl hd) fun _ _ => .cls i
theorem qe_bTy {x : Str} {i : String} (hg : Gl X x) (hm : X.mg x = none) (hv : bootBuiltins x = some (.type i)) (hn : x ≠ "__name__" := by decide) (hd : (x == ("__debug__" : Str)) = false := by decide) : QE X cl W (.Name x pos) (eC (.ty i)) := qe_const (pe_bltn (v := .ty i) hg hm hv rfl hn hd) fun _ _ => .ty i
theorem lift_op {f : F2} {σ : St} {H : Hp} {Q : VK} (h : liftE (bx X cl) W (eOp f ma mb) σ H Q) : tOp (liftOp (bx X cl) f) (liftE (bx X cl) W ma) (liftE (bx X cl) W mb) σ H Q := by
 obtain ⟨ι, F, S, ρ, r, en, o⟩ := h
 refine ⟨ι, F, S, ρ, r, en, o.bind.mono fun x H1 ⟨ι1, F1, S1, x', e1, r1, z1, o1⟩ => ?_⟩
 refine ⟨ι1, F1, S1, ρ, r1, en.mono e1, o1.bind.mono fun y H2 ⟨ι2, F2, S2, y', e2, r2, z2, o2⟩ => ?_⟩
 exact ⟨ι2, F2, S2, x', y', r2, z1.mono e2, z2, o2.fin⟩
theorem qe_op {f : F2} {op : Operator} (ho : OpR X (binaryOp op) (liftOp (bx X cl) f)) (ha : QE X cl W a ma) (hb : QE X cl W b mb) : QE X cl W (.BinOp a op b pos) (eOp f ma mb) :=
 PE.imp (pe_op ho ha hb) fun _ _ _ => lift_op
theorem qe_cmp {f : F2} {op : CmpOp} (ho : OpR X (compareOp op) (liftOp (bx X cl) f)) (ha : QE X cl W a ma) (hb : QE X cl W b mb) (hm : behindInMarks op b = false) : QE X cl W (.Compare a [op] [b] pos) (eOp f ma mb) :=
 PE.imp (pe_cmpR ho ha hb hm) fun _ _ _ => lift_op
theorem qe_ix {f : F2} (ho : IxR X (liftOp (bx X cl) f)) (ha : QE X cl W a ma) (hb : QE X cl W b mb) (hs : PlainIx b) : QE X cl W (.Subscript a b pos) (eOp f ma mb) :=
 PE.imp (pe_ix ho ha hb hs) fun _ _ _ => lift_op
theorem lift_test {m : ME} {σ : St} {H : Hp} {Q : Bool → Hp → Prop} (h : liftT (bx X cl) W (tB m) σ H Q) : tTest (liftE (bx X cl) W m) σ H Q := by
 obtain ⟨ι, F, S, ρ, r, en, o⟩ := h
 refine ⟨ι, F, S, ρ, r, en, o.bind.mono fun x H1 ⟨ι1, F1, S1, x', e1, r1, z1, o1⟩ => ?_⟩
 unfold isB at o1
 split at o1
 · rename_i b
   cases z1 with
   | v z1 =>
     cases z1
     exact ⟨b, rfl, o1 b ι1 F1 H1 Evo.refl r1 rfl⟩
 · exact o1.elim
theorem qt_cmp {f : F2} {op : CmpOp} (ho : OpR X (compareOp op) (liftOp (bx X cl) f)) (ha : QE X cl W a ma) (hb : QE X cl W b mb) (hm : behindInMarks op b = false) : QT X cl W (.Compare a [op] [b] pos) (tB (eOp f ma mb)) := by
 refine ⟨fun pins s σ H Q I h => ?_⟩
 refine (pt_cmpR ho ha hb hm).run pins s σ H Q I ?_
 obtain ⟨ι, F, S, ρ, r, en, o⟩ := lift_test h
 exact lift_op (X := X) (W := W) ⟨ι, F, S, ρ, r, en, o⟩
theorem qt_val {e : Expr} (h : QE X cl W e ma) (he : ∀ whole, isTrue e X.env whole = (do let v ← whole; standAt e.pos; holding [v] (truthy v)) := by intro _; rfl) : QT X cl W e (tB ma) :=
 PT.imp (pt_val h he) fun σ H Q h => lift_test h
theorem qt_not (ha : QT X cl W a ta) : QT X cl W (.UnaryOp .Not a pos) (tNot ta) :=
 PT.imp (pt_not ha) fun σ H Q ⟨ι, F, S, ρ, r, en, o⟩ => ⟨ι, F, S, ρ, r, en, o.bind.mono fun x H1 ⟨ι1, F1, S1, x', e1, r1, z1, o1⟩ => by
   subst z1; exact o1 _ ι1 F1 H1 Evo.refl r1 rfl⟩
def QW (X : Cx) (cl : Nat → Addr) (W : WX) (e : Expr) (m : MT) : Prop := PW X e (liftT (bx X cl) W m)
theorem PW.imp {X : Cx} {e : Expr} {t t' : TT} (h : PW X e t) (k : ∀ σ H Q, t' σ H Q → t σ H Q) : PW X e t' := ⟨fun wh pins s σ H Q I hq => h.run wh pins s σ H Q I (k σ H Q hq)⟩
theorem qt_w (h : QW X cl W e ta) : QT X cl W e ta := PW.pt h
variable {rest : List Expr}
theorem qw_or1 (ha : QT X cl W a ta) : QW X cl W (.BoolOp .Or [a] pos) ta := pw_or1 ha
theorem qw_or (ha : QT X cl W a ta) (hb : QW X cl W (.BoolOp .Or (b :: rest) pos) tb) : QW X cl W (.BoolOp .Or (a :: b :: rest) pos) (tOr ta tb) :=
 PW.imp (pw_or ha hb) fun σ H Q ⟨ι, F, S, ρ, r, en, o⟩ => ⟨ι, F, S, ρ, r, en, o.bind.mono fun x H1 ⟨ι1, F1, S1, x', e1, r1, z1, o1⟩ => by
   subst z1
   cases x with
   | true => exact o1 _ ι1 F1 H1 Evo.refl r1 rfl
   | false => exact ⟨ι1, F1, S1, ρ, r1, en.mono e1, o1⟩⟩
theorem qe_one {op} (h : QE X cl W a ma) : QE X cl W (.BoolOp op [a] pos) ma := pe_one h
theorem qe_and (ha : QE X cl W a ma) (hb : QE X cl W (.BoolOp .And (b :: rest) pos) mb) : QE X cl W (.BoolOp .And (a :: b :: rest) pos) (eAnd ma mb) :=
 PE.imp (pe_and ha hb) fun σ H Q ⟨ι, F, S, ρ, r, en, o⟩ => ⟨ι, F, S, ρ, r, en, o.bind.mono fun x H1 ⟨ι1, F1, S1, x', e1, r1, z1, o1⟩ => by
   unfold isB at o1
   split at o1
   · rename_i b
     cases z1 with
     | v z1 =>
       cases z1
       refine ⟨b, rfl, ?_⟩
       cases b with
       | true => exact ⟨ι1, F1, S1, ρ, r1, en.mono e1, o1⟩
       | false => exact o1 _ ι1 F1 H1 Evo.refl r1 (.v (.bl false))
   · exact o1.elim⟩
theorem qe_not (ha : QE X cl W a ma) : QE X cl W (.UnaryOp .Not a pos) (eNot ma) :=
 PE.imp (pe_not ha) fun σ H Q ⟨ι, F, S, ρ, r, en, o⟩ => ⟨ι, F, S, ρ, r, en, o.bind.mono fun x H1 ⟨ι1, F1, S1, x', e1, r1, z1, o1⟩ => by
   unfold isB at o1
   split at o1
   · rename_i b
     cases z1 with
     | v z1 =>
       cases z1
       exact ⟨b, rfl, o1 _ ι1 F1 H1 Evo.refl r1 (.v (.bl _))⟩
   · exact o1.elim⟩
theorem qe_un {f : F1} {op : UnaryOp} (ho : UnR X (unaryOp op) (liftUn (bx X cl) f)) (ha : QE X cl W a ma) : QE X cl W (.UnaryOp op a pos) (eUn f ma) :=
 PE.imp (pe_un ho ha) fun σ H Q ⟨ι, F, S, ρ, r, en, o⟩ => ⟨ι, F, S, ρ, r, en, o.bind.mono fun x H1 ⟨ι1, F1, S1, x', e1, r1, z1, o1⟩ => ⟨ι1, F1, S1, x', r1, z1, o1.fin⟩⟩
theorem qa_nil : QA X cl W [] aNil := PA.imp pa_nil fun σ H Q ⟨ι, F, S, ρ, r, en, o⟩ => o [] ι F H Evo.refl r .nil
theorem qa_cons (ha : QE X cl W e ma) (hr : QA X cl W es mA) (hs : starEach (e :: es) X.env = (false, eval e X.env) :: starEach es X.env := by rfl) : QA X cl W (e :: es) (aCons ma mA) :=
 PA.imp (pa_cons ha hr hs) fun σ H Q ⟨ι, F, S, ρ, r, en, o⟩ => ⟨ι, F, S, ρ, r, en, o.bind.mono fun x H1 ⟨ι1, F1, S1, x', e1, r1, z1, o1⟩ =>
   ⟨ι1, F1, S1, ρ, r1, en.mono e1, o1.bind.mono fun y H2 ⟨ι2, F2, S2, y', e2, r2, z2, o2⟩ => o2 _ ι2 F2 H2 Evo.refl r2 (.cons (z1.mono e2) z2)⟩⟩
theorem sz {n : Nat} (h : n ≤ 100000) : n ≤ sizeLine := Nat.le_trans h (by decide)
theorem qe_tup {k : Nat} (h : QA X cl W es mA) : QE X cl W (.Tuple es k pos) (eCB fTup mA) :=
 PE.imp (pe_tupZ h) fun σ H Q ⟨ι, F, S, ρ, r, en, o⟩ => ⟨ι, F, S, ρ, r, en, o.bind.mono fun x H1 ⟨ι1, F1, S1, x', e1, r1, z1, o1⟩ => by
   have o2 := o1.fin
   unfold fTup at o2
   split at o2
   · rename_i hl
     cases ea : allV x' with
     | none => rw [ea] at o2; exact o2.no
     | some ds =>
       rw [ea] at o2
       rw [allV_some ea] at z1 hl
       refine ⟨sz (by rw [paired_len z1]; exact hl), fun p ob hob hp => ?_⟩
       exact o2.go (Evo.new hp) (r1.new hp) (.v (.tup ⟨ob, hob, upd_same⟩ ((repus_reps z1).mono (ι := ι1) (ι' := ι1) (Evo.new hp))))
   · exact o2.no⟩
theorem qe_lstV (h : QA X cl W es mA) : QE X cl W (.List es pos) (eCB fLstV mA) :=
 PE.imp (pe_lst h) fun σ H Q ⟨ι, F, S, ρ, r, en, o⟩ => ⟨ι, F, S, ρ, r, en, o.bind.mono fun x H1 ⟨ι1, F1, S1, x', e1, r1, z1, o1⟩ => by
   have o2 := o1.fin
   unfold fLstV at o2
   split at o2
   · rename_i hl
     cases ea : allV x' with
     | none => rw [ea] at o2; exact o2.no
     | some ds =>
       rw [ea] at o2
       rw [allV_some ea] at z1 hl
       refine ⟨sz (by rw [paired_len z1]; exact hl), fun p hp => ?_⟩
       exact o2.go (Evo.newF hp) (r1.newF hp) (.v (.lst (.inr rfl) upd_same ((repus_reps z1).mono (ι := ι1) (ι' := ι1) (Evo.newF hp))))
   · exact o2.no⟩
theorem qe_lstS (h : QA X cl W es mA) : QE X cl W (.List es pos) (eCB fLstS mA) :=
 PE.imp (pe_lst h) fun σ H Q ⟨ι, F, S, ρ, r, en, o⟩ => ⟨ι, F, S, ρ, r, en, o.bind.mono fun x H1 ⟨ι1, F1, S1, x', e1, r1, z1, o1⟩ => by
   have o2 := o1.fin
   unfold fLstS at o2
   split at o2
   · rename_i hl
     refine ⟨sz (by rw [paired_len z1]; exact hl), fun p hp => ?_⟩
     have e2 : Evo ι1 F1 H1 (ι1 ++ [p]) F1 (upd H1 p (.lst x)) := Evo.newS hp
     exact o2.go e2 (r1.newS hp nofun ⟨x, upd_same, z1.mono e2⟩) (.r (by rw [← r1.len]; simp))
   · exact o2.no⟩
theorem qe_callB {f : FA} {x : Str} {id : String} {p : Pos} (hc : CallR X (.builtin id) (liftC (bx X cl) f)) (hg : Gl X x) (hm : X.mg x = none) (hv : bootBuiltins x = some (.builtin id)) (ha : QA X cl W (e :: es) mA) (hn : x ≠ "__name__" := by decide) (hdb : (x == ("__debug__" : Str)) = false := by decide)
   (he : starEach (e :: es) X.env = (false, eval e X.env) :: starEach es X.env := by rfl) (hpl : (backTo pos (starEach es X.env)).any (·.1) = false := by rfl) : QE X cl W (.Call (.Name x p) (e :: es) [] pos) (eCB f mA) :=
 PE.imp (pe_callB hc hg hm hv ha hn hdb he hpl) fun σ H Q ⟨ι, F, S, ρ, r, en, o⟩ => ⟨ι, F, S, ρ, r, en, o.bind.mono fun x H1 ⟨ι1, F1, S1, x', e1, r1, z1, o1⟩ => ⟨ι1, F1, S1, x', r1, z1, o1.fin⟩⟩
theorem qe_callTy {f : FA} {x : Str} {T : String} {p : Pos} (hc : CallR X (.type T) (liftC (bx X cl) f)) (hg : Gl X x) (hm : X.mg x = none) (hv : bootBuiltins x = some (.type T)) (ha : QA X cl W (e :: es) mA) (hn : x ≠ "__name__" := by decide) (hdb : (x == ("__debug__" : Str)) = false := by decide)
   (he : starEach (e :: es) X.env = (false, eval e X.env) :: starEach es X.env := by rfl) (hpl : (backTo pos (starEach es X.env)).any (·.1) = false := by rfl) : QE X cl W (.Call (.Name x p) (e :: es) [] pos) (eCB f mA) :=
 PE.imp (pe_callTy hc hg hm hv ha hn hdb he hpl) fun σ H Q ⟨ι, F, S, ρ, r, en, o⟩ => ⟨ι, F, S, ρ, r, en, o.bind.mono fun x H1 ⟨ι1, F1, S1, x', e1, r1, z1, o1⟩ => ⟨ι1, F1, S1, x', r1, z1, o1.fin⟩⟩
end
end Pu
namespace Pu
open PySem L2
def R.st {α : Type} (r : R α) (ρ : Env') (k : α → Sto → RS) : RS := match r with
 | .ok a S => k a S
 | .ex c fs S => .ex c fs ρ S
 | .er => .er
@[simp] theorem R.st_ok {α : Type} (a : α) (S : Sto) (ρ : Env') (k : α → Sto → RS) : (R.ok a S).st ρ k = k a S := rfl
@[simp] theorem R.st_ex {α : Type} (c : Nat) (fs : List (Str × U)) (S : Sto) (ρ : Env') (k : α → Sto → RS) : (R.ex c fs S : R α).st ρ k = .ex c fs ρ S := rfl
@[simp] theorem R.st_er {α : Type} (ρ : Env') (k : α → Sto → RS) : (R.er : R α).st ρ k = .er := rfl
def sNext : MS := fun ρ S => .nx ρ S
def sSeq (a b : MS) : MS := fun ρ S => match a ρ S with
 | .nx ρ1 S1 => b ρ1 S1
 | r => r
def sAsg (m : ME) (g : MG) : MS := fun ρ S => (m ρ S).st ρ fun u S1 => match g u ρ with
 | some ρ' => .nx ρ' S1
 | none => .er
def sExpr (m : ME) : MS := fun ρ S => (m ρ S).st ρ fun _ S1 => .nx ρ S1
def sRet (m : ME) : MS := fun ρ S => (m ρ S).st ρ fun u S1 => .rt u S1
def sRetN : MS := fun ρ S => .rt (.v .non) S
def sIf (c : MT) (a b : MS) : MS := fun ρ S => (c ρ S).st ρ fun x S1 => if x = true then a ρ S1 else b ρ S1
def sBrk : MS := fun ρ S => .bk ρ S
def sCont : MS := fun ρ S => .ct ρ S
def sNever : MS := fun _ _ => .er
def gName (i : Nat) : MG := fun u ρ => some (ρ.set i (some u))
abbrev MGs := List U → Env' → Option Env'
def gNil : MGs := fun us ρ => match us with
 | [] => some ρ
 | _ => none
def gCons (g : MG) (gs : MGs) : MGs := fun us ρ => match us with
 | u :: us => (g u ρ).bind fun ρ1 => gs us ρ1
 | [] => none
def gTup (n : Nat) (gs : MGs) : MG := fun u ρ => match u with
 | .v (.tup ds) => if ds.length = n then gs (ds.map U.v) ρ else none
 | _ => none
section
variable {B : Bx} {W : WX} {ι : List Addr} {F : Addr → Prop} {H : Hp} {D : Ends}
theorem OutS.st {α β : Type} {rep : List Addr → (Addr → Prop) → Hp → β → α → Prop} {σ : St} {ρ : Env'} {r : R α} {k : α → Sto → RS} (en : REnv B ι F H σ ρ) (h : OutS B W ι F H D (r.st ρ k)) :
   Out B W σ ι F H rep (fun b H1 => ∃ ι1 F1 S1 a, Evo ι F H ι1 F1 H1 ∧ Rel B ι1 F1 S1 H1 ∧ rep ι1 F1 H1 b a ∧ OutS B W ι1 F1 H1 D (k a S1)) r := by
 cases r with
 | ok a S' => exact fun b ι' F' H' e' r' z => ⟨ι', F', S', a, e', r', z, OutS.shift e' h⟩
 | ex c fs S' => exact h σ ι F H Evo.refl en
 | er => exact h
end
section
variable {X : Cx} {cl : Nat → Addr} {W : WX} {a b c e tg : Expr} {es : List Expr} {ma mb : ME} {tc : MT} {st : Stmt} {rest body : List Stmt} {s1 s2 : MS} {g : MG} {gs : MGs} {pos : Pos}
theorem qss_nil : QSs X cl W [] sNext := PSs.imp pss_nil fun D σ H ⟨ι, F, S, ρ, r, en, o⟩ => o σ ι F H Evo.refl r en
theorem qss_cons (h1 : QS X cl W st s1) (h2 : QSs X cl W rest s2) : QSs X cl W (st :: rest) (sSeq s1 s2) :=
 PSs.imp (pss_cons h1 h2) fun D σ H ⟨ι, F, S, ρ, r, en, o⟩ => by
   refine ⟨ι, F, S, ρ, r, en, ?_⟩
   unfold sSeq at o
   cases q : s1 ρ S with
   | nx ρ1 S1 => rw [q] at o; exact fun σ' ι' F' H' e r' en' => ⟨ι', F', S1, ρ1, r', en', OutS.shift e o⟩
   | rt u S1 => rw [q] at o; exact o
   | bk ρ1 S1 => rw [q] at o; exact o
   | ct ρ1 S1 => rw [q] at o; exact o
   | ex c fs ρ1 S1 => rw [q] at o; exact o
   | er => rw [q] at o; exact o
theorem qss_one (h1 : QS X cl W st s1) : QSs X cl W [st] s1 := pss_one h1
theorem qs_expr (he : QE X cl W e ma) (hs : swapsWith e none pos.line X.env = pure false := by rfl) : QS X cl W (.Expr e pos) (sExpr ma) :=
 PS.imp (ps_expr he hs) fun D σ H ⟨ι, F, S, ρ, r, en, o⟩ => ⟨ι, F, S, ρ, r, en, (o.st en).mono fun v H1 ⟨ι1, F1, S1, u, e1, r1, z1, o1⟩ => o1 σ ι1 F1 H1 Evo.refl r1 (en.mono e1)⟩
theorem qs_ret (he : QE X cl W e ma) : QS X cl W (.Return (some e) pos) (sRet ma) :=
 PS.imp (ps_ret he) fun D σ H ⟨ι, F, S, ρ, r, en, o⟩ => ⟨ι, F, S, ρ, r, en, (o.st en).mono fun v H1 ⟨ι1, F1, S1, u, e1, r1, z1, o1⟩ => o1 v ι1 F1 H1 Evo.refl r1 z1⟩
theorem qs_if (hc : QT X cl W c tc) (ha : QSs X cl W body s1) (hb : QSs X cl W rest s2) : QS X cl W (.If c body rest pos) (sIf tc s1 s2) :=
 PS.imp (ps_if hc ha hb) fun D σ H ⟨ι, F, S, ρ, r, en, o⟩ => ⟨ι, F, S, ρ, r, en, (o.st en).mono fun x H1 ⟨ι1, F1, S1, x', e1, r1, z1, o1⟩ => by
   subst z1
   cases x with
   | true => exact ⟨ι1, F1, S1, ρ, r1, en.mono e1, o1⟩
   | false => exact ⟨ι1, F1, S1, ρ, r1, en.mono e1, o1⟩⟩
theorem qg_name {i : Nat} {x : Str} (hN : X.N.Nodup) (hi : X.N[i]? = some x) (hx : Loc X.env.scope x) (hf : X.fn x = true ∨ X.env.scope.names.lookup x = some .local := by first | exact .inl rfl | exact .inr rfl | assumption) : QG X cl (.Name x pos) [i] (gName i) :=
 PG.imp (pg_name hN hi hx hf) fun v σ H Q ⟨ι, F, S, ρ, u, ρ', r, en, z, e, o⟩ => by
   unfold gName at e
   cases e
   exact o _ (paired_set (P := RepO (bx X cl) ι F H) (x := some v) (y := some u) z i en) (fun j hj => List.getElem?_set_ne (fun e => hj (by simp [e]))) (by simp)
def QGs (X : Cx) (cl : Nat → Addr) (ts : List Expr) (js : List Nat) (m : MGs) : Prop :=
 PGs X ts fun vs σ H Q => ∃ ι F S ρ us ρ', Rel (bx X cl) ι F S H ∧ REnv (bx X cl) ι F H σ ρ ∧ RepUs (bx X cl) ι F H vs us ∧ m us ρ = some ρ' ∧ ∀ σ', REnv (bx X cl) ι F H σ' ρ' → (∀ i, i ∉ js → σ'[i]? = σ[i]?) → σ'.length = σ.length → Q σ' H
theorem PGs.imp {X : Cx} {e : List Expr} {t t' : TGs} (h : PGs X e t) (k : ∀ v σ H Q, t' v σ H Q → t v σ H Q) : PGs X e t' := ⟨fun pins s σ H v u Q I r hq => h.run pins s σ H v u Q I r (k v σ H Q hq)⟩
theorem qgs_nil : QGs X cl [] [] gNil := PGs.imp pgs_nil fun vs σ H Q ⟨ι, F, S, ρ, us, ρ', r, en, z, e, o⟩ => by
 cases z with
 | nil => cases e; exact ⟨rfl, o σ en (fun _ _ => rfl) rfl⟩
 | cons _ _ => cases e
theorem qgs_cons {js ks : List Nat} (h1 : QG X cl e js g) (h2 : QGs X cl es ks gs) (hs : (assignEach (e :: es) X.env).map (·.2) = assign e X.env :: (assignEach es X.env).map (·.2) := by rfl) : QGs X cl (e :: es) (js ++ ks) (gCons g gs) :=
 PGs.imp (pgs_cons h1 h2 hs) fun vs σ H Q ⟨ι, F, S, ρ, us, ρ', r, en, z, e, o⟩ => by
   cases z with
   | nil => cases e
   | @cons v u vs us z1 zs =>
     unfold gCons at e
     cases q : g u ρ with
     | none => simp [q] at e
     | some ρ1 =>
       simp [q] at e
       exact ⟨v, vs, rfl, ι, F, S, ρ, u, ρ1, r, en, z1, q, fun σ1 en1 k1 l1 => ⟨ι, F, S, ρ1, us, ρ', r, en1, zs, e, fun σ2 en2 k2 l2 => o σ2 en2 (fun i hi => by
         simp only [List.mem_append, not_or] at hi
         rw [k2 i hi.2, k1 i hi.1]) (l2.trans l1)⟩⟩
theorem qg_tup {k n : Nat} {js : List Nat} (hc : X.calm = true) (h : QGs X cl es js gs) (hn : (assignEach es X.env).length = n := by rfl) (hst : (assignEach es X.env).findIdx? (·.1) = none := by rfl) : QG X cl (.Tuple es k pos) js (gTup n gs) :=
 PG.imp (pg_tup hc h hn hst) fun v σ H Q ⟨ι, F, S, ρ, u, ρ', r, en, z, e, o⟩ => by
   unfold gTup at e
   split at e
   · rename_i ds
     split at e
     · rename_i hl
       cases z with
       | v z =>
         cases z with
         | tup ha zs => exact ⟨_, _, rfl, ha.sq, by rw [paired_len (reps_iff.mp zs)]; exact hl, ι, F, S, ρ, ds.map U.v, ρ', r, en, reps_u zs, e, o⟩
     · cases e
   · cases e
theorem qs_asg {js : List Nat} (he : QE X cl W e ma) (hg : QG X cl tg js g) (hs : swapsWithSole [tg] e pos.line X.env = pure false := by rfl) (hw : swappedStores [tg] e X.env = pure none := by rfl)
   (h1 : (assignEach [tg] X.env).map (·.2) = [assign tg X.env] := by rfl) : QS X cl W (.Assign [tg] e pos) (sAsg ma g) :=
 PS.imp (ps_asg he hg hs hw h1) fun D σ H ⟨ι, F, S, ρ, r, en, o⟩ => ⟨ι, F, S, ρ, r, en, (o.st en).mono fun v H1 ⟨ι1, F1, S1, u, e1, r1, z1, o1⟩ => by
   cases q : g u ρ with
   | none => rw [q] at o1; exact o1.elim
   | some ρ' => rw [q] at o1; exact ⟨ι1, F1, S1, ρ, u, ρ', r1, en.mono e1, z1, q, fun σ' en' _ _ => o1 σ' ι1 F1 H1 Evo.refl r1 en'⟩⟩
theorem qs_set {i : Nat} {x : Str} {pos' : Pos} (hN : X.N.Nodup) (hi : X.N[i]? = some x) (hx : Loc X.env.scope x) (he : QE X cl W e ma) (hs : swapsWith e (some (.Name x pos')) pos.line X.env = pure false := by rfl) (hf : X.fn x = true ∨ X.env.scope.names.lookup x = some .local := by first | exact .inl rfl | exact .inr rfl | assumption) :
   QS X cl W (.Assign [.Name x pos'] e pos) (sAsg ma (gName i)) :=
 PS.imp (ps_set hN hi hx he hs hf) fun D σ H ⟨ι, F, S, ρ, r, en, o⟩ => ⟨ι, F, S, ρ, r, en, (o.st en).mono fun v H1 ⟨ι1, F1, S1, u, e1, r1, z1, o1⟩ =>
   o1 _ ι1 F1 H1 Evo.refl r1 (paired_set (P := RepO (bx X cl) ι1 F1 H1) (x := some v) (y := some u) z1 i (en.mono e1))⟩
end
structure IterV where
 items : List U
 src : Option Nat
abbrev MI := Env' → Sto → R IterV
def Walk (B : Bx) (J : It) (iv : IterV) (S0 : Sto) (ι0 : List Addr) (F0 : Addr → Prop) (H0 : Hp) : Prop :=
 ∀ (i : Nat) (ι : List Addr) (F : Addr → Prop) (S : Sto) (H : Hp), Evo ι0 F0 H0 ι F H → Rel B ι F S H → (∀ n, iv.src = some n → S[n]? = S0[n]?) →
   (i < iv.items.length → J.go i H ∧ ∀ x H', J.yld i H x H' → Evo ι F H ι F H' ∧ Rel B ι F S H' ∧ ∀ u, iv.items[i]? = some u → RepU B ι F H' x u) ∧ (iv.items.length ≤ i → J.stop i H)
def liftI (B : Bx) (W : WX) (m : MI) : TI := fun σ H Q => ∃ ι F S ρ, Rel B ι F S H ∧ REnv B ι F H σ ρ ∧ match m ρ S with
 | .ok iv S' => ∀ (J : It) (ι' : List Addr) (F' : Addr → Prop) (H' : Hp), Evo ι F H ι' F' H' → Rel B ι' F' S' H' → Walk B J iv S' ι' F' H' → Q J H'
 | .ex c fs S' => OutX B W σ ι F H c fs S'
 | .er => False
def QI (X : Cx) (cl : Nat → Addr) (W : WX) (tg iter : Expr) (m : MI) : Prop := PI X tg iter (liftI (bx X cl) W m)
theorem PI.imp {X : Cx} {tg e : Expr} {t t' : TI} (h : PI X tg e t) (k : ∀ σ H Q, t' σ H Q → t σ H Q) : PI X tg e t' := ⟨fun pins s σ H Q I hq => h.run pins s σ H Q I (k σ H Q hq)⟩
def srcOk (src : Option Nat) (c0 : Option Cell) (S : Sto) : Prop := match src with
 | none => True
 | some n => S[n]? = c0
noncomputable instance (src : Option Nat) (c0 : Option Cell) (S : Sto) : Decidable (srcOk src c0 S) := Classical.propDecidable _
noncomputable def forGo (src : Option Nat) (c0 : Option Cell) (g : MG) (body : MS) : List U → Env' → Sto → RS
 | [], ρ, S => .nx ρ S
 | u :: us, ρ, S => match g u ρ with
   | none => .er
   | some ρ1 => match body ρ1 S with
     | .nx ρ2 S2 => if srcOk src c0 S2 then forGo src c0 g body us ρ2 S2 else .er
     | .ct ρ2 S2 => if srcOk src c0 S2 then forGo src c0 g body us ρ2 S2 else .er
     | .bk ρ2 S2 => .nx ρ2 S2
     | r => r
noncomputable def sFor (it : MI) (g : MG) (body : MS) : MS := fun ρ S => (it ρ S).st ρ fun iv S1 => forGo iv.src (iv.src.bind fun n => S1[n]?) g body iv.items ρ S1
def whileN (c : MT) (body : MS) : Nat → Env' → Sto → RS
 | 0, _, _ => .er
 | n + 1, ρ, S => (c ρ S).st ρ fun x S1 => if x = true then (match body ρ S1 with
     | .nx ρ2 S2 => whileN c body n ρ2 S2
     | .ct ρ2 S2 => whileN c body n ρ2 S2
     | .bk ρ2 S2 => .nx ρ2 S2
     | r => r) else .nx ρ S1
open Classical in
noncomputable def sWhile (c : MT) (body : MS) : MS := fun ρ S => if h : ∃ n, whileN c body n ρ S ≠ .er then whileN c body h.choose ρ S else .er
theorem whileN_mono {c : MT} {body : MS} : ∀ {n m : Nat} {ρ : Env'} {S : Sto}, n ≤ m → whileN c body n ρ S ≠ .er → whileN c body m ρ S = whileN c body n ρ S
 | 0, _, _, _, _, h => absurd rfl h
 | n + 1, 0, _, _, h, _ => by omega
 | n + 1, m + 1, ρ, S, hl, h => by
   unfold whileN at h ⊢
   cases q : c ρ S with
   | er => rfl
   | ex c fs S1 => rfl
   | ok x S1 =>
     rw [q] at h
     simp only [R.st_ok] at h ⊢
     split
     · rename_i hx
       rw [if_pos hx] at h
       cases qb : body ρ S1 with
       | nx ρ2 S2 => rw [qb] at h; exact whileN_mono (by omega) h
       | ct ρ2 S2 => rw [qb] at h; exact whileN_mono (by omega) h
       | bk ρ2 S2 => rfl
       | rt u S2 => rfl
       | ex c fs ρ2 S2 => rfl
       | er => rfl
     · rfl
theorem sWhile_eq {c : MT} {body : MS} {n : Nat} {ρ : Env'} {S : Sto} (h : whileN c body n ρ S ≠ .er) : sWhile c body ρ S = whileN c body n ρ S := by
 have hx : ∃ n, whileN c body n ρ S ≠ .er := ⟨n, h⟩
 unfold sWhile
 rw [dif_pos hx]
 rcases Nat.le_total n hx.choose with l | l
 · exact whileN_mono l h
 · exact (whileN_mono l hx.choose_spec).symm
section
variable {X : Cx} {cl : Nat → Addr} {W : WX} {c tg iter : Expr} {body : List Stmt} {mi : MI} {tc : MT} {mb : MS} {g : MG} {pos : Pos}
theorem qs_for {js : List Nat} (hp : PassesOwn (model X.prog X.w) X.A X.env X.xe) (hc : X.calm = true) (hi : QI X cl W tg iter mi) (hg : QG X cl tg js g) (hb : QSs X cl W body mb)
   (hs : ∀ x, foldedSetIterable iter X.env x = pure x := by intro _; rfl) : QS X cl W (.For tg iter body [] pos) (sFor mi g mb) :=
 PS.imp (ps_for hp hc hi hg hb hs) fun D σ H ⟨ι, F, S, ρ, r, en, o⟩ => by
   refine ⟨ι, F, S, ρ, r, en, ?_⟩
   unfold sFor at o
   cases q : mi ρ S with
   | er => rw [q] at o; exact o
   | ex k fs S1 => rw [q] at o; exact o σ ι F H Evo.refl en
   | ok iv S1 =>
     rw [q] at o
     intro J ι1 F1 H1 e1 r1 wk
     have o1 : OutS (bx X cl) W ι1 F1 H1 D (forGo iv.src (iv.src.bind fun n => S1[n]?) g mb iv.items ρ S1) := OutS.shift e1 o
     refine ⟨fun i m σ' H' => m = iv.items.length - i ∧ i ≤ iv.items.length ∧ ∃ ι2 F2 S2 ρ2, Evo ι1 F1 H1 ι2 F2 H' ∧ Rel (bx X cl) ι2 F2 S2 H' ∧ REnv (bx X cl) ι2 F2 H' σ' ρ2 ∧ srcOk iv.src (iv.src.bind fun n => S1[n]?) S2 ∧
       OutS (bx X cl) W ι2 F2 H' D (forGo iv.src (iv.src.bind fun n => S1[n]?) g mb (iv.items.drop i) ρ2 S2), ⟨iv.items.length, by simp, by simp, ι1, F1, S1, ρ, Evo.refl, r1, en.mono e1, ?_, by simpa using o1⟩, ?_⟩
     · unfold srcOk; split
       · trivial
       · rename_i n hn; simp [hn]
     · rintro i m σ2 H2 ⟨rfl, hi, ι2, F2, S2, ρ2, e2, r2, en2, so, o2⟩
       have so' : ∀ n, iv.src = some n → S2[n]? = S1[n]? := fun n hn => by
         unfold srcOk at so
         rw [hn] at so
         simpa [hn] using so
       obtain ⟨w1, w2⟩ := wk i ι2 F2 S2 H2 e2 r2 so'
       by_cases hlt : i < iv.items.length
       · obtain ⟨go, yl⟩ := w1 hlt
         refine .inr ⟨go, fun σ' H' => i + 1 ≤ iv.items.length ∧ ∃ ι3 F3 S3 ρ3, Evo ι1 F1 H1 ι3 F3 H' ∧ Rel (bx X cl) ι3 F3 S3 H' ∧ REnv (bx X cl) ι3 F3 H' σ' ρ3 ∧ srcOk iv.src (iv.src.bind fun n => S1[n]?) S3 ∧
           OutS (bx X cl) W ι3 F3 H' D (forGo iv.src (iv.src.bind fun n => S1[n]?) g mb (iv.items.drop (i + 1)) ρ3 S3), fun σ' H' p => ⟨iv.items.length - (i + 1), by omega, rfl, p⟩, fun x H' y => ?_⟩
         obtain ⟨e3, r3, z3⟩ := yl x H' y
         have hd : iv.items.drop i = iv.items[i] :: iv.items.drop (i + 1) := List.drop_eq_getElem_cons hlt
         rw [hd] at o2
         unfold forGo at o2
         cases qg : g iv.items[i] ρ2 with
         | none => rw [qg] at o2; exact o2.elim
         | some ρ3 =>
           rw [qg] at o2
           have o3 := OutS.shift e3 o2
           refine ⟨ι2, F2, S2, ρ2, iv.items[i], ρ3, r3, en2.mono e3, z3 _ (by simp [hlt]), qg, fun σ3 en3 _ _ => ⟨ι2, F2, S2, ρ3, r3, en3, ?_⟩⟩
           simp only at o3
           cases qb : mb ρ3 S2 with
           | nx ρ4 S4 =>
             rw [qb] at o3
             simp only at o3
             split at o3
             · rename_i hs
               exact fun σ' ι' F' H'' e' r' en' => ⟨hlt, ι', F', S4, ρ4, (e2.trans e3).trans e', r', en', hs, OutS.shift e' o3⟩
             · exact o3.elim
           | ct ρ4 S4 =>
             rw [qb] at o3
             simp only at o3
             split at o3
             · rename_i hs
               exact fun σ' ι' F' H'' e' r' en' => ⟨hlt, ι', F', S4, ρ4, (e2.trans e3).trans e', r', en', hs, OutS.shift e' o3⟩
             · exact o3.elim
           | bk ρ4 S4 => rw [qb] at o3; exact o3
           | rt u S4 => rw [qb] at o3; exact o3
           | ex k fs ρ4 S4 => rw [qb] at o3; exact o3
           | er => rw [qb] at o3; exact o3
       · have hd : iv.items.drop i = [] := List.drop_eq_nil_of_le (by omega)
         rw [hd] at o2
         exact .inl ⟨w2 (by omega), o2 σ2 ι2 F2 H2 Evo.refl r2 en2⟩
theorem qs_while (hp : PassesOwn (model X.prog X.w) X.A X.env X.xe) (hc : QT X cl W c tc) (hb : QSs X cl W body mb) : QS X cl W (.While c body [] pos) (sWhile tc mb) :=
 PS.imp (ps_while hp hc hb) fun D σ H ⟨ι, F, S, ρ, r, en, o⟩ => by
   unfold sWhile at o
   split at o
   · rename_i hx
     refine ⟨fun m σ' H' => ∃ ι1 F1 S1 ρ1, Rel (bx X cl) ι1 F1 S1 H' ∧ REnv (bx X cl) ι1 F1 H' σ' ρ1 ∧ OutS (bx X cl) W ι1 F1 H' D (whileN tc mb m ρ1 S1), ⟨_, ι, F, S, ρ, r, en, o⟩, ?_⟩
     rintro m σ1 H1 ⟨ι1, F1, S1, ρ1, r1, en1, o1⟩
     cases m with
     | zero => exact o1.elim
     | succ m =>
       unfold whileN at o1
       refine ⟨ι1, F1, S1, ρ1, r1, en1, (o1.st en1).mono fun x H2 ⟨ι2, F2, S2, x', e2, r2, z2, o2⟩ => ?_⟩
       subst z2
       cases x with
       | false => exact o2 σ1 ι2 F2 H2 Evo.refl r2 (en1.mono e2)
       | true =>
         refine ⟨fun σ' H' => ∃ ι1 F1 S1 ρ1, Rel (bx X cl) ι1 F1 S1 H' ∧ REnv (bx X cl) ι1 F1 H' σ' ρ1 ∧ OutS (bx X cl) W ι1 F1 H' D (whileN tc mb m ρ1 S1), fun σ' H' p => ⟨m, Nat.lt_succ_self m, p⟩, ι2, F2, S2, ρ1, r2, en1.mono e2, ?_⟩
         simp only [if_true] at o2
         cases qb : mb ρ1 S2 with
         | nx ρ4 S4 => rw [qb] at o2; exact fun σ' ι' F' H'' e' r' en' => ⟨ι', F', S4, ρ4, r', en', OutS.shift e' o2⟩
         | ct ρ4 S4 => rw [qb] at o2; exact fun σ' ι' F' H'' e' r' en' => ⟨ι', F', S4, ρ4, r', en', OutS.shift e' o2⟩
         | bk ρ4 S4 => rw [qb] at o2; exact o2
         | rt u S4 => rw [qb] at o2; exact o2
         | ex k fs ρ4 S4 => rw [qb] at o2; exact o2
         | er => rw [qb] at o2; exact o2
   · exact o.elim
end
end Pu
namespace Pu
open PySem L2
def optAll {α β : Type} (f : α → Option β) : List α → Option (List β)
 | [] => some []
 | x :: xs => match f x with
   | some y => (optAll f xs).map (y :: ·)
   | none => none
def frz (n : Nat) : Nat → Sto → U → Option D
 | _, _, .v d => some d
 | 0, _, .r _ => none
 | k + 1, S, .r m => if m < n then none else match S[m]? with
   | some (.lst xs) => (optAll (frz n k S) xs).map D.lst
   | some (.tpc xs) => (optAll (frz n k S) xs).map D.tup
   | some (.dic kvs) => (optAll (fun p : D × U => (frz n k S p.2).map fun d => (p.1, d)) kvs).map D.dic
   | some (.ins c fs) => (optAll (fun p : Str × U => (frz n k S p.2).map fun d => (p.1, d)) fs).map (D.ins c)
   | _ => none
@[simp] theorem frz_v (n k : Nat) (S : Sto) (d : D) : frz n k S (.v d) = some d := by cases k <;> rfl
theorem optAll_vals {f : U → Option D} (h : ∀ d, f (.v d) = some d) : ∀ ds : List D, optAll f (ds.map U.v) = some ds
 | [] => rfl
 | d :: ds => by simp [optAll, h, optAll_vals h ds]
@[simp] theorem optAll_frz (n k : Nat) (S : Sto) (ds : List D) : optAll (frz n k S) (ds.map U.v) = some ds := optAll_vals (frz_v n k S) ds
def fixU (n k : Nat) (S : Sto) : U → Option U
 | .v d => some (.v d)
 | .r m => if m < n then some (.r m) else (frz n k S (.r m)).map U.v
def fixC (n k : Nat) (S : Sto) : Cell → Option Cell
 | .lst xs => (optAll (fixU n k S) xs).map Cell.lst
 | .tpc xs => (optAll (fixU n k S) xs).map Cell.tpc
 | .dic kvs => (optAll (fun p : D × U => (fixU n k S p.2).map fun d => (p.1, d)) kvs).map Cell.dic
 | .ins c fs => (optAll (fun p : Str × U => (fixU n k S p.2).map fun d => (p.1, d)) fs).map (Cell.ins c)
 | .dead => some .dead
 | .dicL _ => none
noncomputable def fixS (S S' : Sto) : Option Sto := optAll (fun p : Cell × Cell => if p.2 = p.1 then some p.1 else fixC S.length 4 S' p.2) (S.zip S')
noncomputable def fin (S : Sto) (u : U) (S' : Sto) : R U := match fixU S.length 4 S' u, fixS S S' with
 | some u', some S'' => .ok u' S''
 | _, _ => .er
noncomputable def finX (S : Sto) (c : Nat) (fs : List (Str × U)) (S' : Sto) : R U := match optAll (fun p : Str × U => (fixU S.length 4 S' p.2).map fun d => (p.1, d)) fs, fixS S S' with
 | some fs', some S'' => .ex c fs' S''
 | _, _ => .er
noncomputable def runF (N : Nat) (m : MS) (us : List U) (S : Sto) : R U := match m (us.map some ++ List.replicate (N - us.length) none) S with
 | .rt u S' => fin S u S'
 | .nx _ S' => fin S (.v .non) S'
 | .ex c fs _ S' => finX S c fs S'
 | _ => .er
noncomputable def runK (N : Nat) (m : MS) (us : List U) (S : Sto) : R U := match m (us.map some ++ List.replicate (N - us.length) none) S with
 | .rt u S' => .ok u S'
 | .nx _ S' => .ok (.v .non) S'
 | .ex c fs _ S' => .ex c fs S'
 | _ => .er
theorem optAll_paired {α β γ : Type} {P : γ → α → Prop} {Q : γ → β → Prop} {f : α → Option β} (h : ∀ g a b, P g a → f a = some b → Q g b) : ∀ {gs : List γ} {as : List α} {bs : List β}, Paired P gs as → optAll f as = some bs → Paired Q gs bs
 | _, _, _, .nil, e => by cases e; exact .nil
 | _, _, _, .cons (l₁ := gs) (l₂ := as) (b := a) p ps, e => by
   unfold optAll at e
   cases q : f a with
   | none => rw [q] at e; cases e
   | some y =>
     rw [q] at e
     cases q2 : optAll f as with
     | none => rw [q2] at e; cases e
     | some ys =>
       rw [q2] at e
       cases e
       exact .cons (h _ _ _ p q) (optAll_paired h ps q2)
section
variable {B : Bx} {ι : List Addr} {F : Addr → Prop} {H : Hp} {S : Sto} {n : Nat}
def frzF (n : Nat) (ι : List Addr) (F : Addr → Prop) (H : Hp) : Addr → Prop := fun a => F a ∨ (∃ m, n ≤ m ∧ ι[m]? = some a) ∨ ∃ m b, n ≤ m ∧ ι[m]? = some b ∧ H a = some (.own b)
theorem frz_evo : Evo ι F H ι (frzF n ι F H) H := ⟨fun _ _ h => h, fun _ h => .inl h, fun _ _ _ h _ => h, fun _ _ h => h, fun _ h => h, fun _ _ _ h => h, fun _ _ _ h => h⟩
theorem repK_of {F2 : Addr → Prop} : ∀ {es : List Ent} {kvs : List (D × D)}, Paired (fun (e : Ent) (p : D × D) => nkey p.1 = some e.1 ∧ Rep B F2 H (.ref e.2.1) p.1 ∧ e.1.depth ≤ 8 ∧ ∃ v, RelV v e.2.2 ∧ Rep B F2 H v p.2) es kvs → RepK B F2 H es kvs
 | _, _, .nil => .nil
 | _, _, .cons ⟨a, b, c, v, r, z⟩ t => .cons a b c r z (repK_of t)
theorem repF_of {F2 : Addr → Prop} : ∀ {es : List (Str × V)} {kvs : List (Str × D)}, Paired (fun (e : Str × V) (p : Str × D) => e.1 = p.1 ∧ Rep B F2 H e.2 p.2) es kvs → RepF B F2 H es kvs
 | _, _, .nil => .nil
 | _, _, .cons (a := (x, v)) (b := (y, d)) ⟨a, b⟩ t => by
   have a : x = y := a
   subst a
   exact .cons b (repF_of t)
theorem frz_ok (r : Rel B ι F S H) : ∀ (k : Nat) {v : V} {u : U} {d : D}, RepU B ι F H v u → frz n k S u = some d → Rep B (frzF n ι F H) H v d := by
 intro k
 induction k with
 | zero =>
   intro v u d h e
   cases h with
   | v h => simp at e; subst e; exact h.mono frz_evo
   | r h => simp [frz] at e
 | succ k ih =>
   intro v u d h e
   cases h with
   | v h => simp at e; subst e; exact h.mono frz_evo
   | @r m a h =>
     unfold frz at e
     split at e
     · cases e
     · rename_i hm
       have fa : frzF n ι F H a := .inr (.inl ⟨m, by omega, h⟩)
       cases q : S[m]? with
       | none => rw [q] at e; cases e
       | some c =>
         rw [q] at e
         have ok := r.ok m a c h q
         cases c with
         | dead => cases e
         | dicL kvs => cases e
         | lst xs =>
           obtain ⟨vs, ha, rs⟩ := ok
           obtain ⟨ds, e1, e2⟩ := Option.map_eq_some_iff.mp e
           subst e2
           exact .lst fa ha (reps_iff.mpr (optAll_paired (P := RepU B ι F H) (Q := Rep B (frzF n ι F H) H) (f := frz n k S) (fun g a b p q => ih p q) rs e1))
         | tpc xs =>
           obtain ⟨vs, ha, rs⟩ := ok
           obtain ⟨ds, e1, e2⟩ := Option.map_eq_some_iff.mp e
           subst e2
           exact .tup ha (reps_iff.mpr (optAll_paired (P := RepU B ι F H) (Q := Rep B (frzF n ι F H) H) (f := frz n k S) (fun g a b p q => ih p q) rs e1))
         | dic kvs =>
           obtain ⟨es, ha, z, rs⟩ := ok
           obtain ⟨ds, e1, e2⟩ := Option.map_eq_some_iff.mp e
           subst e2
           refine .dic fa (.inl ha) z (repK_of (optAll_paired (fun g a b p q => ?_) rs e1))
           obtain ⟨p1, p2, p3, w, p4, p5⟩ := p
           obtain ⟨d', q1, q2⟩ := Option.map_eq_some_iff.mp q
           subst q2
           exact ⟨p1, p2.mono (ι := ι) (ι' := ι) frz_evo, p3, w, p4, ih p5 q1⟩
         | ins c fs =>
           obtain ⟨dx, vs, ha, hd, nd, rs⟩ := ok
           obtain ⟨ds, e1, e2⟩ := Option.map_eq_some_iff.mp e
           subst e2
           refine .ins fa (.inr (.inr ⟨m, a, by omega, h, hd⟩)) ha hd (repF_of (optAll_paired (fun g a b p q => ?_) rs e1))
           obtain ⟨p1, p2⟩ := p
           obtain ⟨d', q1, q2⟩ := Option.map_eq_some_iff.mp q
           subst q2
           exact ⟨p1, ih p2 q1⟩
theorem take_get {α : Type} {l : List α} {n m : Nat} {x : α} (h : l[m]? = some x) (hm : m < n) : (l.take n)[m]? = some x := by
 rw [List.getElem?_take_of_lt hm]; exact h
theorem fixU_ok (r : Rel B ι F S H) {k : Nat} {v : V} {u u' : U} (h : RepU B ι F H v u) (e : fixU n k S u = some u') : RepU B (ι.take n) (frzF n ι F H) H v u' := by
 cases h with
 | v h => cases e; exact .v (h.mono (ι := ι) (ι' := ι) frz_evo)
 | @r m a h =>
   have e : (if m < n then some (U.r m) else (frz n k S (.r m)).map U.v) = some u' := e
   split at e
   · rename_i hm
     cases e
     exact .r (take_get h hm)
   · obtain ⟨d, e1, e2⟩ := Option.map_eq_some_iff.mp e
     subst e2
     exact .v (frz_ok r k (.r h) e1)
def refLt (n : Nat) : U → Prop
 | .v _ => True
 | .r m => m < n
def cellLt (n : Nat) : Cell → Prop
 | .lst xs => ∀ u ∈ xs, refLt n u
 | .tpc xs => ∀ u ∈ xs, refLt n u
 | .dic kvs => ∀ p ∈ kvs, refLt n p.2
 | .ins _ fs => ∀ p ∈ fs, refLt n p.2
 | .dead => True
 | .dicL kvs => ∀ p ∈ kvs, refLt n p.2
theorem RepU.lt {v : V} {u : U} (h : RepU B ι F H v u) : refLt ι.length u := by
 cases h with
 | v _ => trivial
 | r h => exact (List.getElem?_eq_some_iff.mp h).1
theorem paired_mem {α β : Type} {P : α → β → Prop} {Q : β → Prop} (h : ∀ a b, P a b → Q b) : ∀ {xs : List α} {ys : List β}, Paired P xs ys → ∀ y ∈ ys, Q y
 | _, _, .nil, _, hy => by cases hy
 | _, _, .cons p t, y, hy => by
   rcases List.mem_cons.mp hy with e | e
   · subst e; exact h _ _ p
   · exact paired_mem h t y e
theorem Rel.lt (r : Rel B ι F S H) {c : Cell} (hc : c ∈ S) : cellLt S.length c := by
 obtain ⟨m, hm⟩ := List.getElem?_of_mem hc
 have hlt := (List.getElem?_eq_some_iff.mp hm).1
 rw [← r.len] at hlt
 have ok := r.ok m ι[m] c (by simp [hlt]) hm
 rw [← r.len]
 cases c with
 | lst xs => obtain ⟨vs, _, q⟩ := ok; exact paired_mem (fun _ _ z => z.lt) q
 | tpc xs => obtain ⟨vs, _, q⟩ := ok; exact paired_mem (fun _ _ z => z.lt) q
 | dic kvs => obtain ⟨vs, _, _, q⟩ := ok; exact paired_mem (fun _ _ ⟨_, _, _, _, _, z⟩ => z.lt) q
 | dicL kvs => obtain ⟨vs, _, _, _, q⟩ := ok; exact paired_mem (fun _ _ ⟨_, _, _, _, _, z⟩ => z.lt) q
 | ins c fs => obtain ⟨_, vs, _, _, _, q⟩ := ok; exact paired_mem (fun _ _ ⟨_, z⟩ => z.lt) q
 | dead => trivial
theorem RepU.take {v : V} {u : U} (h : RepU B ι F H v u) (l : refLt n u) : RepU B (ι.take n) (frzF n ι F H) H v u := by
 cases h with
 | v h => exact .v (h.mono (ι := ι) (ι' := ι) frz_evo)
 | r h => exact .r (take_get h l)
theorem paired_memP {α β : Type} {P P' : α → β → Prop} {Q : β → Prop} (h : ∀ a b, P a b → Q b → P' a b) : ∀ {xs : List α} {ys : List β}, Paired P xs ys → (∀ y ∈ ys, Q y) → Paired P' xs ys
 | _, _, .nil, _ => .nil
 | _, _, .cons p t, hy => .cons (h _ _ p (hy _ (by simp))) (paired_memP h t fun y m => hy y (by simp [m]))
theorem CellOk.own_ne (r : Rel B ι F S H) {j : Nat} {a dx : Addr} (hj : j < n) (h1 : ι[j]? = some a) (hd : H dx = some (.own a)) (nd : ¬ F dx) : ¬ frzF n ι F H dx := by
 rintro (z | ⟨m, hm, z⟩ | ⟨m, b, hm, z, zb⟩)
 · exact nd z
 · exact r.now dx (List.mem_of_getElem? z) _ hd
 · rw [hd] at zb
   have zb : a = b := by injection zb with zb; injection zb
   subst zb
   obtain ⟨q1, e1⟩ := List.getElem?_eq_some_iff.mp h1
   obtain ⟨q2, e2⟩ := List.getElem?_eq_some_iff.mp z
   have := (List.getElem_inj r.nd).mp (e1.trans e2.symm)
   omega
theorem CellOk.take (r : Rel B ι F S H) {j : Nat} {a : Addr} {c : Cell} (hj : j < n) (h1 : ι[j]? = some a) (x : CellOk B ι F H a c) (l : cellLt n c) : CellOk B (ι.take n) (frzF n ι F H) H a c := by
 cases c with
 | lst xs => obtain ⟨vs, h, q⟩ := x; exact ⟨vs, h, paired_memP (fun _ _ z l => z.take l) q l⟩
 | tpc xs => obtain ⟨vs, h, q⟩ := x; exact ⟨vs, h, paired_memP (fun _ _ z l => z.take l) q l⟩
 | dic kvs => obtain ⟨vs, h, z, q⟩ := x; exact ⟨vs, h, z, paired_memP (Q := fun p : D × U => refLt n p.2) (fun _ _ ⟨a, b, c, w, d, e⟩ l => ⟨a, b.mono (ι := ι) (ι' := ι) frz_evo, c, w, d, e.take l⟩) q l⟩
 | dicL kvs => obtain ⟨vs, od, h, z, q⟩ := x; exact ⟨vs, od, h, z, paired_memP (Q := fun p : D × U => refLt n p.2) (fun _ _ ⟨a, b, c, w, d, e⟩ l => ⟨a, b.mono (ι := ι) (ι' := ι) frz_evo, c, w, d, e.take l⟩) q l⟩
 | ins c fs => obtain ⟨dx, vs, h, hd, nd, q⟩ := x; exact ⟨dx, vs, h, hd, CellOk.own_ne r hj h1 hd nd, paired_memP (Q := fun p : Str × U => refLt n p.2) (fun _ _ ⟨a, e⟩ l => ⟨a, e.take l⟩) q l⟩
 | dead => trivial
theorem CellOk.fixed (r : Rel B ι F S H) {j k : Nat} {a : Addr} {c c' : Cell} (hj : j < n) (h1 : ι[j]? = some a) (x : CellOk B ι F H a c) (e : fixC n k S c = some c') : CellOk B (ι.take n) (frzF n ι F H) H a c' := by
 cases c with
 | lst xs =>
   obtain ⟨vs, h, q⟩ := x
   obtain ⟨ys, e1, rfl⟩ := Option.map_eq_some_iff.mp e
   exact ⟨vs, h, optAll_paired (P := RepU B ι F H) (Q := RepU B (ι.take n) (frzF n ι F H) H) (f := fixU n k S) (fun _ _ _ p e => fixU_ok r p e) q e1⟩
 | tpc xs =>
   obtain ⟨vs, h, q⟩ := x
   obtain ⟨ys, e1, rfl⟩ := Option.map_eq_some_iff.mp e
   exact ⟨vs, h, optAll_paired (P := RepU B ι F H) (Q := RepU B (ι.take n) (frzF n ι F H) H) (f := fixU n k S) (fun _ _ _ p e => fixU_ok r p e) q e1⟩
 | dic kvs =>
   obtain ⟨vs, h, z, q⟩ := x
   obtain ⟨ys, e1, rfl⟩ := Option.map_eq_some_iff.mp e
   refine ⟨vs, h, z, optAll_paired (fun _ _ _ p e => ?_) q e1⟩
   obtain ⟨p1, p2, p3, w, p4, p5⟩ := p
   obtain ⟨u, q1, rfl⟩ := Option.map_eq_some_iff.mp e
   exact ⟨p1, p2.mono (ι := ι) (ι' := ι) frz_evo, p3, w, p4, fixU_ok r p5 q1⟩
 | ins c fs =>
   obtain ⟨dx, vs, h, hd, nd, q⟩ := x
   obtain ⟨ys, e1, rfl⟩ := Option.map_eq_some_iff.mp e
   refine ⟨dx, vs, h, hd, CellOk.own_ne r hj h1 hd nd, optAll_paired (fun _ _ _ p e => ?_) q e1⟩
   obtain ⟨p1, p5⟩ := p
   obtain ⟨u, q1, rfl⟩ := Option.map_eq_some_iff.mp e
   exact ⟨p1, fixU_ok r p5 q1⟩
 | dicL kvs => cases e
 | dead => cases e; trivial
theorem optAll_get {α β : Type} {f : α → Option β} : ∀ {as : List α} {bs : List β}, optAll f as = some bs → as.length = bs.length ∧ ∀ (i : Nat) b, bs[i]? = some b → ∃ a, as[i]? = some a ∧ f a = some b
 | [], bs, e => by cases e; exact ⟨rfl, fun i b h => by simp at h⟩
 | x :: xs, bs, e => by
   unfold optAll at e
   cases q : f x with
   | none => rw [q] at e; cases e
   | some y =>
     rw [q] at e
     obtain ⟨ys, e1, rfl⟩ := Option.map_eq_some_iff.mp e
     obtain ⟨l, g⟩ := optAll_get e1
     refine ⟨by simp [l], fun i b h => ?_⟩
     cases i with
     | zero => simp at h; subst h; exact ⟨x, rfl, q⟩
     | succ i => simpa using g i b (by simpa using h)
theorem fixC_live {n k : Nat} {S : Sto} {c c' : Cell} (e : fixC n k S c = some c') (h : c'.live = true) : c.live = true := by
 cases c <;> first | rfl | (cases e; cases h)
theorem Rel.exit {S0 S'' : Sto} {ι0 : List Addr} {F0 : Addr → Prop} {H0 : Hp} (r0 : Rel B ι0 F0 S0 H0) (e : Evo ι0 F0 H0 ι F H) (r : Rel B ι F S H) (hs : fixS S0 S = some S'') : Rel B (ι.take S0.length) (frzF S0.length ι F H) S'' H ∧ ι.take S0.length = ι0 := by
 have hle : S0.length ≤ S.length := by
   rw [← r0.len, ← r.len]
   cases q : ι0.length with
   | zero => omega
   | succ k =>
     have h1 : ι0[k]? = some ι0[k] := by simp
     have := (List.getElem?_eq_some_iff.mp (e.pre k _ h1)).1
     omega
 have et : ι.take S0.length = ι0 := by
   apply List.ext_getElem?
   intro m
   by_cases hm : m < S0.length
   · rw [List.getElem?_take_of_lt hm]
     have h1 : ι0[m]? = some (ι0[m]'(by rw [r0.len]; exact hm)) := by simp
     rw [h1]; exact e.pre m _ h1
   · rw [List.getElem?_eq_none (by simp; omega), List.getElem?_eq_none (by rw [r0.len]; omega)]
 refine ⟨?_, et⟩
 have key : S''.length = S0.length ∧ ∀ (j : Nat) (c : Cell), S''[j]? = some c → ∃ c0, S[j]? = some c0 ∧ (c.live = true → c0.live = true) ∧ ∀ a, ι[j]? = some a → j < S0.length → CellOk B ι F H a c0 → CellOk B (ι.take S0.length) (frzF S0.length ι F H) H a c := by
   unfold fixS at hs
   obtain ⟨l, g⟩ := optAll_get hs
   refine ⟨by rw [← l]; simp [hle], fun j c hj => ?_⟩
   obtain ⟨p, h1, h2⟩ := g j c hj
   obtain ⟨e0, e1⟩ := List.getElem?_zip_eq_some.mp h1
   split at h2
   · rename_i hx
     cases h2
     exact ⟨p.1, by rw [← hx]; exact e1, fun z => z, fun a ha hl x => x.take r hl ha (r0.lt (List.mem_of_getElem? e0))⟩
   · exact ⟨p.2, e1, fixC_live h2, fun a ha hl x => x.fixed r hl ha h2⟩
 obtain ⟨kl, kc⟩ := key
 have lt_of : ∀ {j a}, (ι.take S0.length)[j]? = some a → j < S0.length ∧ ι[j]? = some a := fun {j a} h => by
   have hl := (List.getElem?_eq_some_iff.mp h).1
   simp at hl
   rw [List.getElem?_take_of_lt (by omega)] at h
   exact ⟨by omega, h⟩
 refine ⟨by simp [kl, r.len]; omega, r.nd.sublist (List.take_sublist _ _), fun j a c h1 h2 h3 => ?_, fun j a c h1 h2 => ?_, fun a h => r.there a (List.mem_of_mem_take h), fun a h => ?_, fun a h => r.now a (List.mem_of_mem_take h)⟩
 · obtain ⟨hl, h1⟩ := lt_of h1
   obtain ⟨c0, g1, g2, _⟩ := kc j c h2
   rintro (z | ⟨m, hm, z⟩ | ⟨m, b, hm, z, zb⟩)
   · exact r.nf j a c0 h1 g1 (g2 h3) z
   · obtain ⟨q1, e1⟩ := List.getElem?_eq_some_iff.mp h1
     obtain ⟨q2, e2⟩ := List.getElem?_eq_some_iff.mp z
     have := (List.getElem_inj r.nd).mp (e1.trans e2.symm)
     omega
   · exact r.now a (List.mem_of_getElem? h1) b zb
 · obtain ⟨hl, h1⟩ := lt_of h1
   obtain ⟨c0, g1, _, g3⟩ := kc j c h2
   exact g3 a h1 hl (r.ok j a c0 h1 g1)
 · rcases h with z | ⟨m, hm, z⟩ | ⟨m, b, hm, z, zb⟩
   · exact r.fthere a z
   · exact r.there a (List.mem_of_getElem? z)
   · rw [zb]; simp
end
def SpM (B : Bx) (n : Nat) (mf : List U → Sto → R U) : Sp := fun vs H Q E => vs.length = n ∧ ∃ ι F S us, Rel B ι F S H ∧ RepUs B ι F H vs us ∧ Out B (fun cls d _ H' => E cls d H') [] ι F H (RepU B) Q (mf us S)
theorem start_env {B : Bx} {ι : List Addr} {F : Addr → Prop} {H : Hp} {vs : List V} {us : List U} (h : RepUs B ι F H vs us) (N : Nat) : REnv B ι F H (vs.map some ++ List.replicate (N - vs.length) none) (us.map some ++ List.replicate (N - us.length) none) := by
 rw [paired_len h]
 refine paired_append ?_ ?_
 · induction h with
   | nil => exact .nil
   | cons a b ih => exact .cons a ih
 · induction N - us.length with
   | zero => exact .nil
   | succ k ih => exact .cons trivial ih
theorem spM_body {B : Bx} {n N : Nat} {m : MS} {vs : List V} {H : Hp} {Q : VK} {E : XK} (h : SpM B n (runF N m) vs H Q E) :
   liftS B (fun cls d _ H' => E cls d H') m { nx := fun _ H' => Q .non H', rt := Q } (vs.map some ++ List.replicate (N - vs.length) none) H := by
 obtain ⟨_, ι, F, S, us, r, z, o⟩ := h
 refine ⟨ι, F, S, _, r, start_env z N, ?_⟩
 unfold runF at o
 have val : ∀ {u : U} {S' : Sto}, Out B (fun cls d _ H' => E cls d H') [] ι F H (RepU B) Q (fin S u S') → ∀ (v : V) (ι' : List Addr) (F' : Addr → Prop) (H' : Hp), Evo ι F H ι' F' H' → Rel B ι' F' S' H' → RepU B ι' F' H' v u → Q v H' := by
   intro u S' o v ι' F' H' e r' z'
   unfold fin at o
   split at o
   · rename_i u' S'' e1 e2
     obtain ⟨r2, et⟩ := r.exit e r' e2
     refine o v _ _ H' (?_ : Evo ι F H (ι'.take S.length) (frzF S.length ι' F' H') H') r2 (fixU_ok r' z' e1)
     rw [et]
     exact ⟨fun _ _ h => h, fun a h => .inl (e.sub a h), e.keep, e.tups, e.alive, e.lkd, e.kext⟩
   · exact o.elim
 cases q : m (us.map some ++ List.replicate (N - us.length) none) S with
 | rt u S' => rw [q] at o; exact val o
 | nx ρ S' => rw [q] at o; exact fun σ ι' F' H' e r' en => val o .non ι' F' H' e r' (.v .non)
 | bk ρ S' => rw [q] at o; exact o.elim
 | ct ρ S' => rw [q] at o; exact o.elim
 | er => rw [q] at o; exact o.elim
 | ex c fs ρ S' =>
   rw [q] at o
   intro σ ι1 F1 H1 e1 en dx ws ι' F' H' e r' hx zx
   simp only at o
   unfold finX at o
   split at o
   · rename_i fs' S'' g1 g2
     have e' := e1.trans e
     obtain ⟨r2, et⟩ := r.exit e' r' g2
     refine o dx ws _ _ H' (?_ : Evo ι F H (ι'.take S.length) (frzF S.length ι' F' H') H') r2 hx ?_
     · rw [et]
       exact ⟨fun _ _ h => h, fun a h => .inl (e'.sub a h), e'.keep, e'.tups, e'.alive, e'.lkd, e'.kext⟩
     · refine optAll_paired (fun g a b p q => ?_) zx g1
       obtain ⟨p1, p5⟩ := p
       obtain ⟨u, q1, rfl⟩ := Option.map_eq_some_iff.mp q
       exact ⟨p1, fixU_ok r' p5 q1⟩
   · exact o.elim
end Pu
namespace Pu
open PySem PySem.Spec L2
open PyProof.Rows hiding St
abbrev Xd (P : Program) (w : World) (K : PySem.W.Frag) (mg : Str → Option Value) (base : Heap) (N : List Str) (qual : Str) (scope : Scope) (f : Addr) (cdv : Value) (A : Around) (outer : List Env) (s : Shared) (H : Hp) (E : XK) : Cx :=
 cxOf (L2N.CX P w) P w K mg base N qual scope f cdv A outer s H E
abbrev Wd (E : XK) : WX := fun cls d _ H' => E cls d H'
section
variable {P : Program} {w : World} {K : PySem.W.Frag} {mg : Str → Option Value} {base : Heap} {cl : Nat → Addr} {x qual : Str} {params : Arguments} {body : List Stmt} {scope : Scope} {dvs : List V} {kws : List (Str × V)} {f : Addr} {fd : FuncData} {N ps : List Str} {k : Nat} {m : MS}
theorem fn_q (Fd : FunD K x qual params body scope dvs kws f fd) (Sc : FnScope N ps scope)
   (hb : ∀ (cdv : Value) (A : Around) (outer : List Env) (s : Shared) (H : Hp) (E : XK), Room k (A.deeper (envOfC qual scope s.heap.objs.size f cdv)) → QSs (Xd P w K mg base N qual scope f cdv A outer s H E) cl (Wd E) body m) :
   FnOk P w K mg base (L2N.CX P w) (k + 1) f fd ps (SpM ⟨P, w, K, cl⟩ ps.length (runF N.length m)) :=
 Fd.ok Sc (fun _ _ _ _ h => h.1) fun cdv A outer s H vs Q E hr h => ⟨_, hb cdv A outer s H E hr, spM_body h⟩
end
def eCall (n : Nat) (mf : List U → Sto → R U) (dds : List U) (a : MA) : ME := fun ρ S => (a ρ S).bind fun us S1 => if us.length + dds.length = n then mf (us ++ dds) S1 else .er
section
variable {B : Bx} {W : WX} {σ : St} {ι : List Addr} {F : Addr → Prop} {H : Hp} {Q : VK}
theorem out_w {r : R U} (h : Out B W σ ι F H (RepU B) Q r) : Out B (fun cls d _ H' => WE W σ cls d H') [] ι F H (RepU B) Q r := by
 cases r with
 | ok a S' => exact h
 | ex c fs S' => exact h
 | er => exact h
end
section
variable {X : Cx} {cl : Nat → Addr} {W : WX} {k n : Nat} {f C : Addr} {fd : FuncData} {ps : List Str} {mf : List U → Sto → R U} {dvs : List V} {ds : List Value} {dds : List D} {x m : Str} {p pos apos : Pos} {e o : Expr} {es : List Expr} {mo : ME} {mA : MA}
def Dfl (cl : Nat → Addr) (dvs : List V) (dds : List D) : Prop := ∀ (B : Bx) (F : Addr → Prop) (H : Hp), B.cl = cl → Reps B F H dvs dds
theorem Dfl.nil : Dfl cl [] [] := fun _ _ _ _ => .nil
theorem sp_of {σ : St} {ι : List Addr} {F : Addr → Prop} {H : Hp} {S : Sto} {Q : VK} {vs : List V} {us : List U} (hD : Dfl cl dvs dds) (r : Rel (bx X cl) ι F S H) (z : RepUs (bx X cl) ι F H vs us)
   (o : Out (bx X cl) W σ ι F H (RepU (bx X cl)) Q (if us.length + (dds.map U.v).length = n then mf (us ++ dds.map U.v) S else .er)) : SpM (bx X cl) n mf (vs ++ dvs) H Q (WE W σ) := by
 have zz : RepUs (bx X cl) ι F H (vs ++ dvs) (us ++ dds.map U.v) := paired_append z (reps_u (hD _ F H rfl))
 split at o
 · rename_i hl
   refine ⟨?_, ι, F, S, _, r, zz, out_w o⟩
   rw [paired_len zz]
   simpa using hl
 · exact o.elim
theorem qe_call (Fn : FnOk X.prog X.w X.K X.mg X.base (L2N.CX X.prog X.w) k f fd ps (SpM (bx X cl) n mf)) (tk : L2N.Takes X W) (hr : Room k X.A) (hg : Gl X x) (hm : X.mg x = some (.ref f)) (hk : PySem.W.keepIn X.K (.ref f) = true) (hb : Binds X.K fd ps ds) (hd : Vals dvs ds) (hD : Dfl cl dvs dds)
   (ha : QA X cl W (e :: es) mA) (hdb : (x == ("__debug__" : Str)) = false := by decide) (he : starEach (e :: es) X.env = (false, eval e X.env) :: starEach es X.env := by rfl) (hpl : (backTo pos (starEach es X.env)).any (·.1) = false := by rfl) :
   QE X cl W (.Call (.Name x p) (e :: es) [] pos) (eCall n mf (dds.map U.v) mA) :=
 PE.imp (pe_callSD Fn hr hg hm hk hb hd (fun σ => L2N.passAt tk σ) ha hdb he hpl) fun σ H Q ⟨ι, F, S, ρ, r, en, o⟩ => ⟨ι, F, S, ρ, r, en, o.bind.mono fun x H1 ⟨ι1, F1, S1, x', e1, r1, z1, o1⟩ => sp_of hD r1 z1 o1⟩
def asIns (S : Sto) : U → Option (Nat × List (Str × U))
 | .v (.ins c fs) => some (c, fs.map fun p => (p.1, .v p.2))
 | .r n => match S[n]? with
   | some (.ins c fs) => some (c, fs)
   | _ => none
 | _ => none
theorem repF_paired {B : Bx} {ι : List Addr} {F : Addr → Prop} {H : Hp} : ∀ {vs : List (Str × V)} {fs : List (Str × D)}, RepF B F H vs fs → RepFU B ι F H vs (fs.map fun p => (p.1, U.v p.2))
 | _, _, .nil => .nil
 | _, _, .cons a b => .cons ⟨rfl, .v a⟩ (repF_paired b)
theorem asIns_ok {B : Bx} {ι : List Addr} {F : Addr → Prop} {H : Hp} {S : Sto} {v : V} {u : U} {c : Nat} {fs : List (Str × U)} (r : Rel B ι F S H) (z : RepU B ι F H v u) (e : asIns S u = some (c, fs)) :
   ∃ a dx vs, v = .ref a ∧ H a = some (.ins (B.cl c) dx vs) ∧ RepFU B ι F H vs fs := by
 cases z with
 | v z =>
   cases z with
   | ins f g h h2 rr => cases e; exact ⟨_, _, _, rfl, h, repF_paired rr⟩
   | _ => cases e
 | @r n a h =>
   unfold asIns at e
   simp only at e
   cases q : S[n]? with
   | none => rw [q] at e; cases e
   | some cc =>
     rw [q] at e
     have ok := r.ok n a cc h q
     cases cc with
     | ins c' fs' =>
       cases e
       obtain ⟨dx, vs, h1, _, _, rr⟩ := ok
       exact ⟨a, dx, vs, rfl, h1, rr⟩
     | _ => cases e
theorem lookup_paired {B : Bx} {ι : List Addr} {F : Addr → Prop} {H : Hp} {f : Str} : ∀ {vs : List (Str × V)} {fs : List (Str × U)}, RepFU B ι F H vs fs → (∀ u, fs.lookup f = some u → ∃ v, vs.lookup f = some v ∧ RepU B ι F H v u) ∧ (fs.lookup f = none → vs.lookup f = none)
 | _, _, .nil => ⟨fun u h => by simp at h, fun _ => rfl⟩
 | _, _, .cons (a := (x, v)) (b := (y, w)) ⟨a, b⟩ t => by
   have a : x = y := a
   subst a
   obtain ⟨i1, i2⟩ := lookup_paired t (f := f)
   refine ⟨fun u h => ?_, fun h => ?_⟩
   · rw [List.lookup_cons] at h ⊢
     split at h
     · cases h; exact ⟨v, rfl, b⟩
     · exact i1 u h
   · rw [List.lookup_cons] at h ⊢
     split at h
     · cases h
     · exact i2 h
def fFld (cs : List Nat) (f : Str) : F1 := fun u S => match asIns S u with
 | some (c', fs) => if c' ∈ cs then (fs.lookup f).map fun z => (z, S) else none
 | none => none
def ClsF (K : PySem.W.Frag) (cl : Nat → Addr) (cs : List Nat) (f : Str) : Prop := ∀ c ∈ cs, Cls K (cl c) ∧ NoAttr K (cl c) f
theorem qe_fld {f : Str} {cs : List Nat} (he : QE X cl W e mo) (hc : ClsF X.K cl cs f) (hab : attributeBase e f X.env (eval e X.env) = eval e X.env := by rfl) : QE X cl W (.Attribute e f pos) (eUn (fFld cs f) mo) :=
 PE.imp (pe_fld he hab) fun σ H Q ⟨ι, F, S, ρ, r, en, o⟩ => ⟨ι, F, S, ρ, r, en, o.bind.mono fun x H1 ⟨ι1, F1, S1, x', e1, r1, z1, o1⟩ => by
   have o2 := o1.fin
   unfold fFld at o2
   cases q : asIns S1 x' with
   | none => rw [q] at o2; exact o2.no
   | some p =>
     obtain ⟨c', fs⟩ := p
     rw [q] at o2
     simp only at o2
     split at o2
     · rename_i hcc
       obtain ⟨a, dx, vs, ex, ha, rr⟩ := asIns_ok r1 z1 q
       cases ql : fs.lookup f with
       | none => rw [ql] at o2; exact o2.no
       | some u =>
         rw [ql] at o2
         obtain ⟨v, lv, zv⟩ := (lookup_paired rr (f := f)).1 u ql
         exact ⟨a, _, dx, vs, v, ex, ha, (hc c' hcc).1, (hc c' hcc).2, lv, o2.val r1 zv⟩
     · exact o2.no⟩
def putU (f : Str) (v : U) : List (Str × U) → List (Str × U)
 | [] => [(f, v)]
 | (g, x) :: r => if g = f then (g, v) :: r else (g, x) :: putU f v r
theorem putU_ok {B : Bx} {ι : List Addr} {F : Addr → Prop} {H : Hp} {f : Str} {v : V} {u : U} (z : RepU B ι F H v u) : ∀ {vs : List (Str × V)} {fs : List (Str × U)}, RepFU B ι F H vs fs → RepFU B ι F H (putF f v vs) (putU f u fs)
 | _, _, .nil => .cons ⟨rfl, z⟩ .nil
 | _, _, .cons (a := (x, v')) (b := (y, w)) ⟨a, b⟩ t => by
   have a : x = y := a
   subst a
   unfold putF putU
   split
   · exact .cons ⟨rfl, z⟩ t
   · exact .cons ⟨rfl, b⟩ (putU_ok z t)
def sFld (cs : List Nat) (f : Str) (mo mv : ME) : MS := fun ρ S => (mv ρ S).st ρ fun u S1 => (mo ρ S1).st ρ fun x S2 => match x with
 | .r n => match S2[n]? with
   | some (.ins c fs) => if c ∈ cs ∧ fs.length < 900 then .nx ρ (S2.set n (.ins c (putU f u fs))) else .er
   | _ => .er
 | _ => .er
theorem qs_fld {f : Str} {cs : List Nat} {mv : ME} {value : Expr} {pos' : Pos} (ha : QE X cl W o mo) (hv : QE X cl W value mv) (hc : ClsF X.K cl cs f) (hs : swapsWith value (some (.Attribute o f pos')) pos.line X.env = pure false := by rfl) :
   QS X cl W (.Assign [.Attribute o f pos'] value pos) (sFld cs f mo mv) :=
 PS.imp (ps_fld ha hv hs) fun D σ H ⟨ι, F, S, ρ, r, en, ot⟩ => ⟨ι, F, S, ρ, r, en, (ot.st en).mono fun v H1 ⟨ι1, F1, S1, u, e1, r1, z1, o1⟩ => by
   refine ⟨ι1, F1, S1, ρ, r1, en.mono e1, (o1.st (en.mono e1)).mono fun y H2 ⟨ι2, F2, S2, y', e2, r2, z2, o2⟩ => ?_⟩
   cases z2 with
   | v _ => exact o2.elim
   | @r n a h =>
     simp only at o2
     cases q : S2[n]? with
     | none => rw [q] at o2; exact o2.elim
     | some c =>
       rw [q] at o2
       cases c with
       | ins c fs =>
         simp only at o2
         split at o2
         · rename_i hcc
           obtain ⟨dx, vs, h1, h2, h3, rr⟩ := r2.ok n a _ h q
           have hlen : vs.length < 1000 := by rw [paired_len rr]; omega
           refine ⟨a, _, dx, vs, rfl, h1, (hc c hcc.1).1, (hc c hcc.1).2, hlen, ?_⟩
           have hda : dx ≠ a := fun z => by rw [z, h1] at h2; cases h2
           have e0 : Evo ι2 F2 H2 ι2 F2 (upd H2 a (.ins (cl c) dx (putF f v vs))) := by
             have nf := r2.nf n a _ h q rfl
             refine ⟨fun _ _ h => h, fun _ h => h, fun b u f h _ => ?_, fun b xs h => ?_, fun b h => ?_, fun b p u h => by rw [upd_ne (fun z : b = a => by rw [z, h1] at h; cases h)]; exact h, fun b φ f h => rd_ne (fun z : b = a => nf (by rw [← z]; exact f)) h⟩
             · rw [upd_ne (fun z : b = a => nf (by rw [← z]; exact f))]; exact h
             · rw [upd_ne (fun z : b = a => by rw [z, h1] at h; cases h)]; exact h
             · by_cases hb : b = a
               · rw [hb, upd_same]; simp
               · rw [upd_ne hb]; exact h
           obtain ⟨r3, e3⟩ := r2.write (o := .ins (cl c) dx (putF f v vs)) (c' := .ins c (putU f u fs)) h q rfl (fun xs z => by rw [h1] at z; cases z) nofun (fun p u z => by rw [h1] at z; cases z)
             ⟨dx, putF f v vs, upd_same, by rw [upd_ne hda]; exact h2, h3, putU_ok ((z1.mono e2).mono e0) (rr.mono e0)⟩
           exact o2 σ ι2 F2 _ e3 r3 (((en.mono e1).mono e2).mono e3)
         · exact o2.elim
       | _ => exact o2.elim⟩
end
end Pu
namespace Pu
open PySem L2
mutual
theorem nkey_inj : ∀ {a b : D} {k : NestedKey}, nkey a = some k → nkey b = some k → a = b
 | .non, b, k, h, h' => by
   simp [nkey] at h; subst h
   cases b <;> simp [nkey] at h' <;> rfl
 | .int i, b, k, h, h' => by
   simp [nkey] at h; subst h
   cases b <;> simp [nkey] at h'
   rw [h']
 | .str i, b, k, h, h' => by
   simp [nkey] at h; subst h
   cases b <;> simp [nkey] at h'
   rw [h']
 | .tup xs, b, k, h, h' => by
   simp only [nkey, Option.map_eq_some_iff] at h
   obtain ⟨ks, h1, rfl⟩ := h
   cases b with
   | tup ys =>
     simp only [nkey, Option.map_eq_some_iff] at h'
     obtain ⟨ks', h2, h3⟩ := h'
     cases h3
     rw [nkeys_inj h1 h2]
   | _ => simp [nkey] at h'
 | .bl _, _, _, h, _ => by simp [nkey] at h
 | .lst _, _, _, h, _ => by simp [nkey] at h
 | .dic _, _, _, h, _ => by simp [nkey] at h
 | .ins _ _, _, _, h, _ => by simp [nkey] at h
 | .cls _, _, _, h, _ => by simp [nkey] at h
 | .ty _, _, _, h, _ => by simp [nkey] at h
 | .frl _, _, _, h, _ => by simp [nkey] at h
theorem nkeys_inj : ∀ {a b : List D} {k : List NestedKey}, nkey.nkeys a = some k → nkey.nkeys b = some k → a = b
 | [], b, k, h, h' => by
   simp [nkey.nkeys] at h; subst h
   cases b with
   | nil => rfl
   | cons y ys =>
     unfold nkey.nkeys at h'
     split at h' <;> cases h'
 | x :: xs, b, k, h, h' => by
   unfold nkey.nkeys at h
   split at h
   · rename_i k1 ks1 e1 e2
     cases h
     cases b with
     | nil => simp [nkey.nkeys] at h'
     | cons y ys =>
       unfold nkey.nkeys at h'
       split at h'
       · rename_i k2 ks2 f1 f2
         cases h'
         rw [nkey_inj e1 f1, nkeys_inj e2 f2]
       · cases h'
   · cases h
end
def keyAt : Nat → D → Bool
 | _, .non => true
 | _, .int _ => true
 | _, .str _ => true
 | n + 1, .tup xs => xs.all (keyAt n)
 | _, _ => false
abbrev isKey (d : D) : Bool := keyAt 8 d
@[simp] theorem keyAt_int (n : Nat) (i : Int) : keyAt n (.int i) = true := by cases n <;> rfl
@[simp] theorem keyAt_str (n : Nat) (i : Str) : keyAt n (.str i) = true := by cases n <;> rfl
@[simp] theorem keyAt_tup (n : Nat) (xs : List D) : keyAt (n + 1) (.tup xs) = xs.all (keyAt n) := rfl
theorem nkeys_of {n : Nat} {f : D → Bool} (h : ∀ d, f d = true → ∃ k, nkey d = some k ∧ k.depth ≤ n) : ∀ {xs : List D}, xs.all f = true → ∃ ks, nkey.nkeys xs = some ks ∧ NestedKey.depthAll ks ≤ n
 | [], _ => ⟨[], rfl, by simp [NestedKey.depthAll]⟩
 | x :: xs, hx => by
   simp only [List.all_cons, Bool.and_eq_true] at hx
   obtain ⟨k, e, d⟩ := h x hx.1
   obtain ⟨ks, e2, d2⟩ := nkeys_of h hx.2
   refine ⟨k :: ks, by simp [nkey.nkeys, e, e2], ?_⟩
   simp only [NestedKey.depthAll]
   omega
theorem nkey_of : ∀ {n : Nat} {d : D}, keyAt n d = true → ∃ k, nkey d = some k ∧ k.depth ≤ n
 | n, .non, _ => ⟨.none, rfl, by simp [NestedKey.depth]⟩
 | n, .int i, _ => ⟨.num i, rfl, by simp [NestedKey.depth]⟩
 | n, .str i, _ => ⟨.text i, rfl, by simp [NestedKey.depth]⟩
 | n + 1, .tup xs, h => by
   obtain ⟨ks, e, d⟩ := nkeys_of (n := n) (fun d h => nkey_of h) h
   exact ⟨.tup ks, by simp [nkey, e], by simp only [NestedKey.depth]; omega⟩
 | 0, .tup _, h => by simp [keyAt] at h
 | 0, .bl _, h => by simp [keyAt] at h
 | 0, .lst _, h => by simp [keyAt] at h
 | 0, .dic _, h => by simp [keyAt] at h
 | 0, .ins _ _, h => by simp [keyAt] at h
 | 0, .cls _, h => by simp [keyAt] at h
 | 0, .ty _, h => by simp [keyAt] at h
 | 0, .frl _, h => by simp [keyAt] at h
 | 0, .exn _ _, h => by simp [keyAt] at h
 | _ + 1, .bl _, h => by simp [keyAt] at h
 | _ + 1, .lst _, h => by simp [keyAt] at h
 | _ + 1, .dic _, h => by simp [keyAt] at h
 | _ + 1, .ins _ _, h => by simp [keyAt] at h
 | _ + 1, .cls _, h => by simp [keyAt] at h
 | _ + 1, .ty _, h => by simp [keyAt] at h
 | _ + 1, .frl _, h => by simp [keyAt] at h
 | _ + 1, .exn _ _, h => by simp [keyAt] at h
section
variable {X : Cx} {cl : Nat → Addr} {pins : List (Addr × Obj)} {σ : L2.St} {F : Addr → Prop} {H : Hp} {s : Shared}
mutual
theorem rep_key (I : Inv X pins σ H s) : ∀ {v : V} {d : D} {u : Value} {k : NestedKey}, Rep (bx X cl) F H v d → RelV v u → nkey d = some k → NestedIs s.heap k u
 | _, _, u, k, .non, r, e => by simp [nkey] at e; subst e; cases r; exact .none
 | _, _, u, k, .int i, r, e => by simp [nkey] at e; subst e; obtain ⟨t, rfl⟩ := r; exact .int i t
 | _, _, u, k, .str i _, r, e => by simp [nkey] at e; subst e; obtain ⟨t, rfl⟩ := r; exact .text i t
 | _, _, u, k, .tup h rs, r, e => by
   simp only [nkey, Option.map_eq_some_iff] at e
   obtain ⟨ks, e1, rfl⟩ := e
   cases r
   obtain ⟨its, rv, ⟨o, ho, hc, n, hd⟩, hz⟩ := I.tuple (h.sq)
   exact .tup ho hc hd (by simpa using rep_keys I rs rv e1)
 | _, _, _, _, .bl _, _, e => by simp [nkey] at e
 | _, _, _, _, .lst _ _ _, _, e => by simp [nkey] at e
 | _, _, _, _, .frl _ _, _, e => by simp [nkey] at e
 | _, _, _, _, .dic _ _ _ _, _, e => by simp [nkey] at e
 | _, _, _, _, .ins _ _ _ _ _, _, e => by simp [nkey] at e
 | _, _, _, _, .cls _, _, e => by simp [nkey] at e
 | _, _, _, _, .ty _, _, e => by simp [nkey] at e
 | _, _, _, _, .exn _ _ _ _ _ _ _ _, _, e => by simp [nkey] at e
theorem rep_keys (I : Inv X pins σ H s) : ∀ {vs : List V} {ds : List D} {us : List Value} {ks : List NestedKey}, Reps (bx X cl) F H vs ds → Vals vs us → nkey.nkeys ds = some ks → NestedAll s.heap ks us
 | _, _, us, ks, .nil, r, e => by simp [nkey.nkeys] at e; subst e; cases r; exact .nil
 | _, _, us, ks, .cons a b, r, e => by
   cases r with
   | cons r1 r2 =>
     unfold nkey.nkeys at e
     split at e
     · rename_i k1 ks1 e1 e2
       cases e
       exact .cons (rep_key I a r1 e1) (rep_keys I b r2 e2)
     · cases e
end
end
def asList (S : Sto) : U → Option (List U)
 | .v (.lst xs) => some (xs.map U.v)
 | .v (.frl xs) => some (xs.map U.v)
 | .r n => match S[n]? with
   | some (.lst xs) => some xs
   | _ => none
 | _ => none
def asSeq (S : Sto) : U → Option (List U)
 | .v (.lst xs) => some (xs.map U.v)
 | .v (.frl xs) => some (xs.map U.v)
 | .v (.tup xs) => some (xs.map U.v)
 | .r n => match S[n]? with
   | some (.lst xs) => some xs
   | some (.tpc xs) => some xs
   | _ => none
 | _ => none
section
variable {B : Bx} {ι : List Addr} {F : Addr → Prop} {H : Hp} {S : Sto} {v : V} {u : U}
theorem asList_ok {xs : List U} (r : Rel B ι F S H) (z : RepU B ι F H v u) (e : asList S u = some xs) : ∃ a vs, v = .ref a ∧ SqL B.K H a vs ∧ RepUs B ι F H vs xs := by
 cases z with
 | v z =>
   cases z with
   | lst f h rs => cases e; exact ⟨_, _, rfl, SqL.of h, reps_u rs⟩
   | frl h rs => cases e; exact ⟨_, _, rfl, h.sq, reps_u rs⟩
   | _ => cases e
 | @r n a h =>
   unfold asList at e
   simp only at e
   cases q : S[n]? with
   | none => rw [q] at e; cases e
   | some c =>
     rw [q] at e
     have ok := r.ok n a c h q
     cases c with
     | lst ys =>
       cases e
       obtain ⟨vs, h1, h2⟩ := ok
       exact ⟨a, vs, rfl, SqL.of h1, h2⟩
     | _ => cases e
theorem asSeq_ok {xs : List U} (r : Rel B ι F S H) (z : RepU B ι F H v u) (e : asSeq S u = some xs) : ∃ a vs, v = .ref a ∧ (SqL B.K H a vs ∨ SqT B.K H a vs) ∧ RepUs B ι F H vs xs := by
 cases z with
 | v z =>
   cases z with
   | lst f h rs => cases e; exact ⟨_, _, rfl, .inl (SqL.of h), reps_u rs⟩
   | frl h rs => cases e; exact ⟨_, _, rfl, .inl h.sq, reps_u rs⟩
   | tup h rs => cases e; exact ⟨_, _, rfl, .inr (h.sq), reps_u rs⟩
   | _ => cases e
 | @r n a h =>
   unfold asSeq at e
   simp only at e
   cases q : S[n]? with
   | none => rw [q] at e; cases e
   | some c =>
     rw [q] at e
     have ok := r.ok n a c h q
     cases c with
     | lst ys =>
       cases e
       obtain ⟨vs, h1, h2⟩ := ok
       exact ⟨a, vs, rfl, .inl (SqL.of h1), h2⟩
     | tpc ys =>
       cases e
       obtain ⟨vs, h1, h2⟩ := ok
       exact ⟨a, vs, rfl, .inr (h1.sq), h2⟩
     | _ => cases e
end
def asLst (S : Sto) : U → Option (List U)
 | .v (.lst xs) => some (xs.map U.v)
 | .r n => match S[n]? with
   | some (.lst xs) => some xs
   | _ => none
 | _ => none
theorem asLst_ok {B : Bx} {ι : List Addr} {F : Addr → Prop} {H : Hp} {S : Sto} {v : V} {u : U} {xs : List U} (r : Rel B ι F S H) (z : RepU B ι F H v u) (e : asLst S u = some xs) : ∃ a vs, v = .ref a ∧ H a = some (.lst vs) ∧ RepUs B ι F H vs xs := by
 cases z with
 | v z =>
   cases z with
   | lst f h rs => cases e; exact ⟨_, _, rfl, h, reps_u rs⟩
   | _ => cases e
 | @r n a h =>
   unfold asLst at e
   simp only at e
   cases q : S[n]? with
   | none => rw [q] at e; cases e
   | some c =>
     rw [q] at e
     have ok := r.ok n a c h q
     cases c with
     | lst ys =>
       cases e
       obtain ⟨vs, h1, h2⟩ := ok
       exact ⟨a, vs, rfl, h1, h2⟩
     | _ => cases e
def fI (g : Int → Int → Option D) : F2 := fun x y S => match x, y with
 | .v (.int i), .v (.int j) => (g i j).map fun d => (.v d, S)
 | _, _ => none
section
variable {X : Cx} {cl : Nat → Addr}
theorem opI_ok {f : Value → Value → Sem Value} {r : R2} {g : Int → Int → Option D} (h : OpR X f r) (hg : ∀ i j d, g i j = some d → ∃ v : V, (∀ F H, Rep (bx X cl) F H v d) ∧ ∀ (H : Hp) (Q : VK), Q v H → r (.int i) (.int j) H Q) : OpR X f (liftOp (bx X cl) (fI g)) := by
 intro pins s σ H x y v u Q I rx ry ⟨ι, F, S, a, b, rl, za, zb, fi⟩
 refine h pins s σ H x y v u Q I rx ry ?_
 unfold fI at fi
 split at fi
 · rename_i i j
   cases za with
   | v za =>
     cases za
     cases zb with
     | v zb =>
       cases zb
       cases q : g i j with
       | none => rw [q] at fi; exact fi.no
       | some d =>
         rw [q] at fi
         obtain ⟨w, hw, hq⟩ := hg i j d q
         exact hq H Q (fi.val rl (.v (hw F H)))
 · exact fi.no
def gSub (i j : Int) : Option D := some (.int (i - j))
def okMul (i j : Int) : Prop := i.natAbs < 2 ^ 64 ∨ j.natAbs < 2 ^ 64
def okDiv (j : Int) : Prop := 0 < j ∧ j < 1073741824
def okPow (i j : Int) : Prop := 0 ≤ j ∧ j ≤ 1000 ∧ i.natAbs < 2 ^ 64
noncomputable instance (i j : Int) : Decidable (okMul i j) := Classical.propDecidable _
noncomputable instance (j : Int) : Decidable (okDiv j) := Classical.propDecidable _
noncomputable instance (i j : Int) : Decidable (okPow i j) := Classical.propDecidable _
noncomputable def gMul (i j : Int) : Option D := if okMul i j then some (.int (i * j)) else none
def gMod (i j : Int) : Option D := if 0 < j then some (.int (i % j)) else none
noncomputable def gDiv (i j : Int) : Option D := if okDiv j then some (.int (i / j)) else none
noncomputable def gPow (i j : Int) : Option D := if okPow i j then some (.int (i ^ j.toNat)) else none
theorem oq_sub : OpR X (binaryOp .Sub) (liftOp (bx X cl) (fI gSub)) := opI_ok op_sub fun i j d e => by
 cases e; exact ⟨_, fun _ _ => .int _, fun H Q q => ⟨i, j, rfl, rfl, q⟩⟩
theorem oq_mod : OpR X (binaryOp .Mod) (liftOp (bx X cl) (fI gMod)) := opI_ok op_mod fun i j d e => by
 unfold gMod at e
 split at e
 · rename_i h; cases e; exact ⟨_, fun _ _ => .int _, fun H Q q => ⟨i, j, rfl, rfl, h, q⟩⟩
 · cases e
theorem oq_div : OpR X (binaryOp .FloorDiv) (liftOp (bx X cl) (fI gDiv)) := opI_ok op_fdiv fun i j d e => by
 unfold gDiv at e
 split at e
 · rename_i h; cases e; exact ⟨_, fun _ _ => .int _, fun H Q q => ⟨i, j, rfl, rfl, h, q⟩⟩
 · cases e
theorem oq_mulI : OpR X (binaryOp .Mult) (liftOp (bx X cl) (fI gMul)) := opI_ok op_mul fun i j d e => by
 unfold gMul at e
 split at e
 · rename_i h
   cases e
   refine ⟨_, fun _ _ => .int _, fun H Q q => ⟨i, j, rfl, rfl, ?_, q⟩⟩
   rcases h with h | h
   · exact .inl ⟨by omega, by omega⟩
   · exact .inr ⟨by omega, by omega⟩
 · cases e
theorem oq_pow : OpR X (binaryOp .Pow) (liftOp (bx X cl) (fI gPow)) := opI_ok op_pow fun i j d e => by
 unfold gPow at e
 split at e
 · rename_i h; unfold okPow at h; cases e; exact ⟨_, fun _ _ => .int _, fun H Q q => ⟨i, j, rfl, rfl, ⟨h.1, by omega, h.2.2⟩, q⟩⟩
 · cases e
def gCmp (p : Int → Int → Bool) (i j : Int) : Option D := some (.bl (p i j))
theorem oq_gtI : OpR X (compareOp .Gt) (liftOp (bx X cl) (fI (gCmp fun i j => decide (j < i)))) := opI_ok op_gt fun i j d e => by
 cases e; exact ⟨_, fun _ _ => .bl _, fun H Q q => ⟨i, j, rfl, rfl, q⟩⟩
theorem oq_geI : OpR X (compareOp .GtE) (liftOp (bx X cl) (fI (gCmp fun i j => decide (j ≤ i)))) := opI_ok op_ge fun i j d e => by
 cases e; exact ⟨_, fun _ _ => .bl _, fun H Q q => ⟨i, j, rfl, rfl, q⟩⟩
theorem oq_ltI : OpR X (compareOp .Lt) (liftOp (bx X cl) (fI (gCmp fun i j => decide (i < j)))) := opI_ok op_lt fun i j d e => by
 cases e; exact ⟨_, fun _ _ => .bl _, fun H Q q => ⟨i, j, rfl, rfl, q⟩⟩
def fAdd : F2 := fun x y S => match x, y with
 | .v (.int i), .v (.int j) => some (.v (.int (i + j)), S)
 | .v (.str i), .v (.str j) => if i.length + j.length ≤ 100000 then some (.v (.str (i ++ j)), S) else none
 | .v (.tup xs), .v (.tup ys) => if xs.length + ys.length ≤ 100000 then some (.v (.tup (xs ++ ys)), S) else none
 | _, _ => match asLst S x, asLst S y with
   | some xs, some ys => if xs.length + ys.length ≤ 100000 then (allV (xs ++ ys)).map fun ds => (.v (.lst ds), S) else none
   | _, _ => none
theorem reps_append {B : Bx} {F : Addr → Prop} {H : Hp} {xs ys : List V} {as bs : List D} (h1 : Reps B F H xs as) (h2 : Reps B F H ys bs) : Reps B F H (xs ++ ys) (as ++ bs) := reps_iff.mpr (paired_append (reps_iff.mp h1) (reps_iff.mp h2))
theorem strOk_iff {x : Str} : PyData.strOk x = true ↔ ∀ c ∈ x.cps.toList, c < 0x110000 := by
 unfold PyData.strOk
 rw [Array.all_eq_true_iff_forall_mem]
 constructor
 · intro h c hc; exact of_decide_eq_true (h c (by simpa using hc))
 · intro h c hc; exact decide_eq_true (h c (by simpa using hc))
theorem strOk_app {x y : Str} (h1 : PyData.strOk x = true) (h2 : PyData.strOk y = true) : PyData.strOk (x ++ y) = true := by
 rw [strOk_iff] at *
 intro c hc
 have e : (x ++ y).cps.toList = x.cps.toList ++ y.cps.toList := by
   show (x.cps ++ y.cps).toList = _
   simp
 rw [e] at hc
 rcases List.mem_append.mp hc with h | h
 · exact h1 c h
 · exact h2 c h
theorem oq_add : OpR X (binaryOp .Add) (liftOp (bx X cl) fAdd) := by
 intro pins s σ H x y v u Q I rx ry ⟨ι, F, S, a, b, rl, za, zb, fi⟩
 unfold fAdd at fi
 split at fi
 · rename_i i j
   cases za with
   | v za =>
     cases za
     cases zb with
     | v zb =>
       cases zb
       exact op_add pins s σ H _ _ v u Q I rx ry ⟨i, j, rfl, rfl, fi.val rl (.v (.int _))⟩
 · rename_i i j
   split at fi
   · rename_i hl
     cases za with
     | v za =>
       cases za with
       | str _ h1 =>
       cases zb with
       | v zb =>
         cases zb with
         | str _ h2 =>
         exact op_add_str pins s σ H _ _ v u Q I rx ry ⟨i, j, rfl, rfl, sz hl, fi.val rl (.v (.str _ (strOk_app h1 h2)))⟩
   · exact fi.no
 · rename_i xs ys
   split at fi
   · rename_i hl
     cases za with
     | v za =>
       cases za with
       | tup ha ra =>
         cases zb with
         | v zb =>
           cases zb with
           | tup hb rb =>
             have la := paired_len (reps_iff.mp ra)
             have lb := paired_len (reps_iff.mp rb)
             refine op_catZ pins s σ H _ _ v u Q I rx ry ⟨_, _, _, _, rfl, rfl, ha.sq, hb.sq, sz (by omega), fun e => ?_, fun _ e => ?_, fun _ _ p ob hob hp => ?_⟩
             · subst e
               cases ra
               exact fi.val rl (.v (.tup hb (by simpa using rb)))
             · subst e
               cases rb
               exact fi.val rl (.v (.tup ha (by simpa using ra)))
             · exact fi.go (Evo.new hp) (rl.new hp) (.v (.tup ⟨ob, hob, upd_same⟩ ((reps_append ra rb).mono (ι := ι) (ι' := ι) (Evo.new hp))))
   · exact fi.no
 · cases qa : asLst S a with
   | none => rw [qa] at fi; exact fi.no
   | some xs =>
     cases qb : asLst S b with
     | none => rw [qa, qb] at fi; exact fi.no
     | some ys =>
       rw [qa, qb] at fi
       simp only at fi
       split at fi
       · rename_i hl
         obtain ⟨p, vs, rfl, hp, rp⟩ := asLst_ok rl za qa
         obtain ⟨q, ws, rfl, hq, rq⟩ := asLst_ok rl zb qb
         have la := paired_len rp
         have lb := paired_len rq
         cases qv : allV (xs ++ ys) with
         | none => rw [qv] at fi; exact fi.no
         | some ds =>
           rw [qv] at fi
           have rr : RepUs (bx X cl) ι F H (vs ++ ws) (xs ++ ys) := paired_append rp rq
           rw [allV_some qv] at rr
           exact op_cat pins s σ H _ _ v u Q I rx ry ⟨p, q, vs, ws, rfl, rfl, hp, hq, sz (by omega), fun z hz => fi.go (Evo.newF hz) (rl.newF hz) (.v (.lst (.inr rfl) upd_same ((repus_reps rr).mono (ι := ι) (ι' := ι) (Evo.newF hz))))⟩
       · exact fi.no
end
end Pu
namespace Pu
open PySem L2
mutual
def pyOf : D → Option PyData
 | .non => some .none
 | .int i => some (.int i)
 | .str x => some (.str x)
 | .tup xs => (pysOf xs).map .tuple
 | .lst xs => (pysOf xs).map .list
 | .bl _ => none
 | .dic _ => none
 | .ins _ _ => none
 | .cls _ => none
 | .ty _ => none
 | .frl _ => none
 | .exn _ _ => none
def pysOf : List D → Option (List PyData)
 | [] => some []
 | x :: xs => match pyOf x, pysOf xs with
   | some p, some ps => some (p :: ps)
   | _, _ => none
end
theorem pys_cons {x : D} {xs : List D} {ps : List PyData} (h : pysOf (x :: xs) = some ps) : ∃ p qs, ps = p :: qs ∧ pyOf x = some p ∧ pysOf xs = some qs := by
 unfold pysOf at h
 split at h
 · rename_i p qs h1 h2
   cases h
   exact ⟨p, qs, rfl, h1, h2⟩
 · cases h
mutual
theorem py_inj : ∀ {a b : D} {p : PyData}, pyOf a = some p → pyOf b = some p → a = b
 | .non, b, p, h, h' => by simp [pyOf] at h; subst h; cases b <;> simp [pyOf] at h' <;> rfl
 | .int i, b, p, h, h' => by simp [pyOf] at h; subst h; cases b <;> simp [pyOf] at h'; rw [h']
 | .str i, b, p, h, h' => by simp [pyOf] at h; subst h; cases b <;> simp [pyOf] at h'; rw [h']
 | .tup xs, b, p, h, h' => by
   simp only [pyOf, Option.map_eq_some_iff] at h
   obtain ⟨ps, h1, rfl⟩ := h
   cases b <;> simp [pyOf] at h'
   rw [pys_inj h1 h']
 | .lst xs, b, p, h, h' => by
   simp only [pyOf, Option.map_eq_some_iff] at h
   obtain ⟨ps, h1, rfl⟩ := h
   cases b <;> simp [pyOf] at h'
   rw [pys_inj h1 h']
 | .bl _, _, _, h, _ => by simp [pyOf] at h
 | .dic _, _, _, h, _ => by simp [pyOf] at h
 | .ins _ _, _, _, h, _ => by simp [pyOf] at h
 | .cls _, _, _, h, _ => by simp [pyOf] at h
 | .ty _, _, _, h, _ => by simp [pyOf] at h
 | .frl _, _, _, h, _ => by simp [pyOf] at h
 | .exn _ _, _, _, h, _ => by simp [pyOf] at h
theorem pys_inj : ∀ {a b : List D} {p : List PyData}, pysOf a = some p → pysOf b = some p → a = b
 | [], b, p, h, h' => by
   simp [pysOf] at h; subst h
   cases b with
   | nil => rfl
   | cons y ys => obtain ⟨_, _, e, _⟩ := pys_cons h'; cases e
 | x :: xs, b, p, h, h' => by
   obtain ⟨q, qs, rfl, h1, h2⟩ := pys_cons h
   cases b with
   | nil => simp [pysOf] at h'
   | cons y ys =>
     obtain ⟨q', qs', e, h3, h4⟩ := pys_cons h'
     cases e
     rw [py_inj h1 h3, pys_inj h2 h4]
end
theorem py_form {b : D} {q : PyData} (h : pyOf b = some q) : q = .none ∨ (∃ i, q = .int i) ∨ (∃ x, q = .str x) ∨ (∃ ys qs, pysOf ys = some qs ∧ q = .tuple qs ∧ b = .tup ys) ∨ ∃ ys qs, pysOf ys = some qs ∧ q = .list qs ∧ b = .lst ys := by
 cases b with
 | non => cases h; exact .inl rfl
 | int i => cases h; exact .inr (.inl ⟨i, rfl⟩)
 | str i => cases h; exact .inr (.inr (.inl ⟨i, rfl⟩))
 | tup ys =>
   obtain ⟨qs, h1, h2⟩ := Option.map_eq_some_iff.mp h
   exact .inr (.inr (.inr (.inl ⟨ys, qs, h1, h2.symm, rfl⟩)))
 | lst ys =>
   obtain ⟨qs, h1, h2⟩ := Option.map_eq_some_iff.mp h
   exact .inr (.inr (.inr (.inr ⟨ys, qs, h1, h2.symm, rfl⟩)))
 | _ => cases h
mutual
theorem py_eqv : ∀ {a b : D} {p q : PyData}, pyOf a = some p → pyOf b = some q → (PyData.eqv p q = true ↔ p = q)
 | .non, b, p, q, h, h' => by
   simp [pyOf] at h; subst h
   rcases py_form h' with rfl | ⟨i, rfl⟩ | ⟨i, rfl⟩ | ⟨ys, qs, h2, rfl, rfl⟩ | ⟨ys, qs, h2, rfl, rfl⟩ <;> simp [PyData.eqv]
 | .int i, b, p, q, h, h' => by
   simp [pyOf] at h; subst h
   rcases py_form h' with rfl | ⟨i, rfl⟩ | ⟨i, rfl⟩ | ⟨ys, qs, h2, rfl, rfl⟩ | ⟨ys, qs, h2, rfl, rfl⟩ <;> simp [PyData.eqv]
 | .str i, b, p, q, h, h' => by
   simp [pyOf] at h; subst h
   rcases py_form h' with rfl | ⟨i, rfl⟩ | ⟨i, rfl⟩ | ⟨ys, qs, h2, rfl, rfl⟩ | ⟨ys, qs, h2, rfl, rfl⟩ <;> simp [PyData.eqv]
 | .tup xs, b, p, q, h, h' => by
   simp only [pyOf, Option.map_eq_some_iff] at h
   obtain ⟨ps, h1, rfl⟩ := h
   rcases py_form h' with rfl | ⟨i, rfl⟩ | ⟨i, rfl⟩ | ⟨ys, qs, h2, rfl, rfl⟩ | ⟨ys, qs, h2, rfl, rfl⟩ <;> simp [PyData.eqv]
   exact pys_eqv h1 h2
 | .lst xs, b, p, q, h, h' => by
   simp only [pyOf, Option.map_eq_some_iff] at h
   obtain ⟨ps, h1, rfl⟩ := h
   rcases py_form h' with rfl | ⟨i, rfl⟩ | ⟨i, rfl⟩ | ⟨ys, qs, h2, rfl, rfl⟩ | ⟨ys, qs, h2, rfl, rfl⟩ <;> simp [PyData.eqv]
   exact pys_eqv h1 h2
 | .bl _, _, _, _, h, _ => by simp [pyOf] at h
 | .dic _, _, _, _, h, _ => by simp [pyOf] at h
 | .ins _ _, _, _, _, h, _ => by simp [pyOf] at h
 | .cls _, _, _, _, h, _ => by simp [pyOf] at h
 | .ty _, _, _, _, h, _ => by simp [pyOf] at h
 | .frl _, _, _, _, h, _ => by simp [pyOf] at h
 | .exn _ _, _, _, _, h, _ => by simp [pyOf] at h
theorem pys_eqv : ∀ {a b : List D} {p q : List PyData}, pysOf a = some p → pysOf b = some q → (PyData.eqvAll p q = true ↔ p = q)
 | [], b, p, q, h, h' => by
   simp [pysOf] at h; subst h
   cases b with
   | nil => simp [pysOf] at h'; subst h'; simp [PyData.eqvAll]
   | cons y ys => obtain ⟨_, _, rfl, _⟩ := pys_cons h'; simp [PyData.eqvAll]
 | x :: xs, b, p, q, h, h' => by
   obtain ⟨r, rs, rfl, h1, h2⟩ := pys_cons h
   cases b with
   | nil => simp [pysOf] at h'; subst h'; simp [PyData.eqvAll]
   | cons y ys =>
     obtain ⟨q', qs', rfl, h3, h4⟩ := pys_cons h'
     simp [PyData.eqvAll, py_eqv h1 h3, pys_eqv h2 h4]
end
def datAt : Nat → D → Bool
 | _, .non => true
 | _, .int _ => true
 | _, .str _ => true
 | n + 1, .tup xs => xs.all (datAt n)
 | n + 1, .lst xs => xs.all (datAt n)
 | _, _ => false
abbrev isDat (d : D) : Bool := datAt 20 d
@[simp] theorem datAt_int (n : Nat) (i : Int) : datAt n (.int i) = true := by cases n <;> rfl
@[simp] theorem datAt_str (n : Nat) (i : Str) : datAt n (.str i) = true := by cases n <;> rfl
@[simp] theorem datAt_tup (n : Nat) (xs : List D) : datAt (n + 1) (.tup xs) = xs.all (datAt n) := rfl
@[simp] theorem datAt_lst (n : Nat) (xs : List D) : datAt (n + 1) (.lst xs) = xs.all (datAt n) := rfl
theorem pys_of {n : Nat} {f : D → Bool} (h : ∀ d, f d = true → ∃ k, pyOf d = some k ∧ k.depth ≤ n) : ∀ {xs : List D}, xs.all f = true → ∃ ks, pysOf xs = some ks ∧ PyData.depthAll ks ≤ n
 | [], _ => ⟨[], rfl, by simp [PyData.depthAll]⟩
 | x :: xs, hx => by
   simp only [List.all_cons, Bool.and_eq_true] at hx
   obtain ⟨k, e, d⟩ := h x hx.1
   obtain ⟨ks, e2, d2⟩ := pys_of h hx.2
   refine ⟨k :: ks, by simp [pysOf, e, e2], ?_⟩
   simp only [PyData.depthAll]
   omega
theorem py_of : ∀ {n : Nat} {d : D}, datAt n d = true → ∃ k, pyOf d = some k ∧ k.depth ≤ n
 | n, .non, _ => ⟨.none, rfl, by simp [PyData.depth]⟩
 | n, .int i, _ => ⟨.int i, rfl, by simp [PyData.depth]⟩
 | n, .str i, _ => ⟨.str i, rfl, by simp [PyData.depth]⟩
 | n + 1, .tup xs, h => by
   obtain ⟨ks, e, d⟩ := pys_of (n := n) (fun d h => py_of h) h
   exact ⟨.tuple ks, by simp [pyOf, e], by simp only [PyData.depth]; omega⟩
 | n + 1, .lst xs, h => by
   obtain ⟨ks, e, d⟩ := pys_of (n := n) (fun d h => py_of h) h
   exact ⟨.list ks, by simp [pyOf, e], by simp only [PyData.depth]; omega⟩
 | 0, .tup _, h => by simp [datAt] at h
 | 0, .lst _, h => by simp [datAt] at h
 | n, .bl _, h => by cases n <;> simp [datAt] at h
 | n, .dic _, h => by cases n <;> simp [datAt] at h
 | n, .ins _ _, h => by cases n <;> simp [datAt] at h
 | n, .cls _, h => by cases n <;> simp [datAt] at h
 | n, .ty _, h => by cases n <;> simp [datAt] at h
 | n, .frl _, h => by cases n <;> simp [datAt] at h
 | n, .exn _ _, h => by cases n <;> simp [datAt] at h
section
variable {B : Bx} {F : Addr → Prop} {H : Hp}
mutual
theorem rep_dp : ∀ {v : V} {d : D} {p : PyData}, Rep B F H v d → pyOf d = some p → Dp B.K H v p ∧ p.canLay0 = true
 | _, _, p, .non, e => by simp [pyOf] at e; subst e; exact ⟨.non, rfl⟩
 | _, _, p, .int i, e => by simp [pyOf] at e; subst e; exact ⟨.int i, rfl⟩
 | _, _, p, .str i h, e => by simp [pyOf] at e; subst e; exact ⟨.str i, h⟩
 | _, _, p, .tup h rs, e => by
   simp only [pyOf, Option.map_eq_some_iff] at e
   obtain ⟨ps, e1, rfl⟩ := e
   obtain ⟨h1, h2⟩ := reps_dp rs e1
   exact ⟨.tup (h.sq) h1, h2⟩
 | _, _, p, .lst _ h rs, e => by
   simp only [pyOf, Option.map_eq_some_iff] at e
   obtain ⟨ps, e1, rfl⟩ := e
   obtain ⟨h1, h2⟩ := reps_dp rs e1
   exact ⟨.lst (SqL.of h) h1, h2⟩
 | _, _, _, .bl _, e => by simp [pyOf] at e
 | _, _, _, .frl _ _, e => by simp [pyOf] at e
 | _, _, _, .exn _ _ _ _ _ _ _ _, e => by simp [pyOf] at e
 | _, _, _, .dic _ _ _ _, e => by simp [pyOf] at e
 | _, _, _, .ins _ _ _ _ _, e => by simp [pyOf] at e
 | _, _, _, .cls _, e => by simp [pyOf] at e
 | _, _, _, .ty _, e => by simp [pyOf] at e
theorem reps_dp : ∀ {vs : List V} {ds : List D} {ps : List PyData}, Reps B F H vs ds → pysOf ds = some ps → DpAll B.K H vs ps ∧ PyData.canLayAll0 ps = true
 | _, _, p, .nil, e => by simp [pysOf] at e; subst e; exact ⟨.nil, rfl⟩
 | _, _, p, .cons a b, e => by
   obtain ⟨q, qs, rfl, e1, e2⟩ := pys_cons e
   obtain ⟨h1, h2⟩ := rep_dp a e1
   obtain ⟨h3, h4⟩ := reps_dp b e2
   exact ⟨.cons h1 h3, by simp [PyData.canLayAll0, h2, h4]⟩
end
end
noncomputable def eqD (a b : D) : Option Bool :=
 if isDat a = true ∧ isDat b = true then some (decide (a = b)) else
 match a, b with
 | .bl x, .bl y => some (decide (x = y))
 | _, _ => none
def deL (S : Sto) : U → Option D
 | .v d => some d
 | .r n => match S[n]? with
   | some (.lst xs) => (allV xs).map D.lst
   | _ => none
noncomputable def fEq : F2 := fun x y S => match deL S x, deL S y with
 | some a, some b => (eqD a b).map fun k => (.v (.bl k), S)
 | _, _ => none
noncomputable def fNe : F2 := fun x y S => match deL S x, deL S y with
 | some a, some b => (eqD a b).map fun k => (.v (.bl (!k)), S)
 | _, _ => none
section
variable {X : Cx} {cl : Nat → Addr}
theorem deL_dp {B : Bx} {ι : List Addr} {F : Addr → Prop} {H : Hp} {S : Sto} {v : V} {u : U} {d : D} {p : PyData} (r : Rel B ι F S H) (z : RepU B ι F H v u) (e : deL S u = some d) (ep : pyOf d = some p) : Dp B.K H v p ∧ p.canLay0 = true := by
 cases z with
 | v z => cases e; exact rep_dp z ep
 | @r n a h =>
   unfold deL at e
   simp only at e
   cases q : S[n]? with
   | none => rw [q] at e; cases e
   | some c =>
     rw [q] at e
     have ok := r.ok n a c h q
     cases c with
     | lst ys =>
       obtain ⟨ds, e1, rfl⟩ := Option.map_eq_some_iff.mp e
       obtain ⟨vs, h1, h2⟩ := ok
       simp only [pyOf, Option.map_eq_some_iff] at ep
       obtain ⟨ps, e2, rfl⟩ := ep
       rw [allV_some e1] at h2
       obtain ⟨g1, g2⟩ := reps_dp (repus_reps h2) e2
       exact ⟨.lst (SqL.of h1) g1, g2⟩
     | _ => cases e
theorem eqD_ok {a b : D} {k : Bool} (h : eqD a b = some k) : (∃ p q, pyOf a = some p ∧ pyOf b = some q ∧ p.depth ≤ 64 ∧ q.depth ≤ 64 ∧ PyData.eqv p q = k) ∨ ∃ x y, a = .bl x ∧ b = .bl y ∧ k = decide (x = y) := by
 unfold eqD at h
 split at h
 · rename_i hx
   cases h
   obtain ⟨p, e1, d1⟩ := py_of hx.1
   obtain ⟨q, e2, d2⟩ := py_of hx.2
   refine .inl ⟨p, q, e1, e2, by omega, by omega, ?_⟩
   have hv := py_eqv e1 e2
   by_cases hab : a = b
   · subst hab
     rw [e1] at e2; cases e2
     simp only [decide_true]
     exact hv.mpr rfl
   · simp only [hab, decide_false]
     cases qv : PyData.eqv p q with
     | false => rfl
     | true => exact absurd (py_inj e1 (by rw [e2, hv.mp qv])) hab
 · split at h
   · rename_i x y _
     cases h
     exact .inr ⟨x, y, rfl, rfl, rfl⟩
   · cases h
theorem oq_eq (hu : X.A.units + 64 < cLine) : OpR X (compareOp .Eq) (liftOp (bx X cl) fEq) := by
 intro pins s σ H x y v u Q I rx ry ⟨ι, F, S, a, b, rl, za, zb, fi⟩
 unfold fEq at fi
 split at fi
 · rename_i d e q1 q2
   cases qe : eqD d e with
   | none => rw [qe] at fi; exact fi.no
   | some k =>
     rw [qe] at fi
     rcases eqD_ok qe with ⟨p, q, e1, e2, d1, d2, ek⟩ | ⟨p, q, rfl, rfl, rfl⟩
     · obtain ⟨h1, c1⟩ := deL_dp rl za q1 e1
       obtain ⟨h2, c2⟩ := deL_dp rl zb q2 e2
       exact op_eqD hu pins s σ H x y v u Q I rx ry ⟨p, q, h1, h2, by simp [SeqAt.shaped, c1, d1], by simp [SeqAt.shaped, c2, d2], by rw [ek]; exact fi.val rl (.v (.bl _))⟩
     · have e1 : a = .v (.bl p) := by
         cases a with
         | v _ => cases q1; rfl
         | r n =>
           unfold deL at q1; simp only at q1
           split at q1
           · obtain ⟨_, _, z⟩ := Option.map_eq_some_iff.mp q1; cases z
           · cases q1
       have e2 : b = .v (.bl q) := by
         cases b with
         | v _ => cases q2; rfl
         | r n =>
           unfold deL at q2; simp only at q2
           split at q2
           · obtain ⟨_, _, z⟩ := Option.map_eq_some_iff.mp q2; cases z
           · cases q2
       subst e1 e2
       cases za with
       | v za =>
         cases za
         cases zb with
         | v zb =>
           cases zb
           refine op_eq pins s σ H _ _ v u Q I rx ry ⟨rfl, ?_⟩
           have : decide ((V.bl p) = V.bl q) = decide (p = q) := by simp
           rw [this]
           exact fi.val rl (.v (.bl _))
 · exact fi.no
theorem oq_ne (hu : X.A.units + 64 < cLine) : OpR X (compareOp .NotEq) (liftOp (bx X cl) fNe) := by
 intro pins s σ H x y v u Q I rx ry ⟨ι, F, S, a, b, rl, za, zb, fi⟩
 unfold fNe at fi
 split at fi
 · rename_i d e q1 q2
   cases qe : eqD d e with
   | none => rw [qe] at fi; exact fi.no
   | some k =>
     rw [qe] at fi
     rcases eqD_ok qe with ⟨p, q, e1, e2, d1, d2, ek⟩ | ⟨p, q, rfl, rfl, rfl⟩
     · obtain ⟨h1, c1⟩ := deL_dp rl za q1 e1
       obtain ⟨h2, c2⟩ := deL_dp rl zb q2 e2
       exact op_neD hu pins s σ H x y v u Q I rx ry ⟨p, q, h1, h2, by simp [SeqAt.shaped, c1, d1], by simp [SeqAt.shaped, c2, d2], by rw [ek]; exact fi.val rl (.v (.bl _))⟩
     · have e1 : a = .v (.bl p) := by
         cases a with
         | v _ => cases q1; rfl
         | r n =>
           unfold deL at q1; simp only at q1
           split at q1
           · obtain ⟨_, _, z⟩ := Option.map_eq_some_iff.mp q1; cases z
           · cases q1
       have e2 : b = .v (.bl q) := by
         cases b with
         | v _ => cases q2; rfl
         | r n =>
           unfold deL at q2; simp only at q2
           split at q2
           · obtain ⟨_, _, z⟩ := Option.map_eq_some_iff.mp q2; cases z
           · cases q2
       subst e1 e2
       cases za with
       | v za =>
         cases za
         cases zb with
         | v zb =>
           cases zb
           refine op_ne pins s σ H _ _ v u Q I rx ry ⟨rfl, ?_⟩
           have : decide ((V.bl p) = V.bl q) = decide (p = q) := by simp
           rw [this]
           exact fi.val rl (.v (.bl _))
 · exact fi.no
end
end Pu
namespace Pu
open PySem L2
noncomputable def inSeq (d : D) (xs : List U) : Option Bool := if isKey d = true then match allV xs with
 | some ds => if ds.all isKey = true then some (decide (d ∈ ds)) else none
 | none => none else none
section
variable {X : Cx} {cl : Nat → Addr}
open SeqAt
theorem in_ok {pins : List (Addr × Obj)} {σ : L2.St} {F : Addr → Prop} {H : Hp} {s : Shared} {x : V} {u : Value} {d : D} {ds : List D} {vs : List V} {its : List Value} (I : Inv X pins σ H s) (hu : X.A.units + 20 < cLine) (zx : Rep (bx X cl) F H x d) (rx : RelV x u) (kd : isKey d = true)
   (zs : Reps (bx X cl) F H vs ds) (rv : Vals vs its) (ks : ds.all isKey = true) : ∃ e : Value → Bool, (∀ y, y ∈ its.toArray → EqAt X.A.in1 s y u (e y)) ∧ (its.toArray.any e = true ↔ d ∈ ds) := by
 obtain ⟨k, ek, dk⟩ := nkey_of kd
 have hx := rep_key I zx rx ek
 classical
 refine ⟨fun y => decide (∃ k', NestedIs s.heap k' y ∧ k' = k), fun y hy => ?_, ?_⟩
 · have hy' : y ∈ its := by simpa using hy
   obtain ⟨j, hj⟩ := List.getElem?_of_mem hy'
   obtain ⟨v, hv, rvy⟩ := paired_get rv hj
   obtain ⟨dy, hdy, zy⟩ := paired_get' (reps_iff.mp zs) hv
   obtain ⟨ky, eky, dky⟩ := nkey_of (List.all_eq_true.mp ks dy (List.mem_of_getElem? hdy))
   have hyk := rep_key I zy rvy eky
   have hq := eqAt_key ky k X.A.in1 s y u hyk hx (by show X.A.units + 1 + min ky.depth k.depth < cLine; omega)
   have eb : NestedKey.beq ky k = decide (∃ k', NestedIs s.heap k' y ∧ k' = k) := by
     rw [← NestedKey.decide_eq]
     by_cases hkk : ky = k
     · rw [decide_eq_true hkk, decide_eq_true ⟨ky, hyk, hkk⟩]
     · rw [decide_eq_false hkk, decide_eq_false]
       rintro ⟨k', h1, h2⟩
       exact hkk ((NestedIs.inj _ _ _ hyk h1).trans h2)
   show EqAt _ _ _ _ (decide (∃ k', NestedIs s.heap k' y ∧ k' = k))
   rw [← eb]
   exact hq
 · simp only [List.any_toArray, List.any_eq_true, decide_eq_true_eq]
   constructor
   · rintro ⟨y, hy, k', h1, rfl⟩
     obtain ⟨j, hj⟩ := List.getElem?_of_mem hy
     obtain ⟨v, hv, rvy⟩ := paired_get rv hj
     obtain ⟨dy, hdy, zy⟩ := paired_get' (reps_iff.mp zs) hv
     have hm := List.mem_of_getElem? hdy
     obtain ⟨ky, eky, dky⟩ := nkey_of (List.all_eq_true.mp ks dy hm)
     have hyk := rep_key I zy rvy eky
     have := NestedIs.inj _ _ _ hyk h1
     subst this
     rw [nkey_inj ek eky]
     exact hm
   · intro hm
     obtain ⟨j, hj⟩ := List.getElem?_of_mem hm
     obtain ⟨v, hv, zy⟩ := paired_get (reps_iff.mp zs) hj
     obtain ⟨y, hy, rvy⟩ := paired_get' rv hv
     exact ⟨y, List.mem_of_getElem? hy, k, rep_key I zy rvy ek, rfl⟩
noncomputable def fIn (neg : Bool) : F2 := fun x y S => match x, y with
 | .v (.str ⟨⟨[c]⟩⟩), .v (.str z) => some (.v (.bl (cond neg (!decide (c ∈ z.cps.toList)) (decide (c ∈ z.cps.toList)))), S)
 | .v d, _ => match asSeq S y with
   | some xs => (inSeq d xs).map fun b => (.v (.bl (cond neg (!b) b)), S)
   | none => none
 | _, _ => none
theorem oq_in (hu : X.A.units + 20 < cLine) : OpR X (compareOp .In) (liftOp (bx X cl) (fIn false)) := by
 intro pins s σ H x y v u Q I rx ry ⟨ι, F, S, a, b, rl, za, zb, fi⟩
 unfold fIn at fi
 split at fi
 · rename_i c z
   cases za with
   | v za =>
     cases za with
     | str _ h1 =>
       cases zb with
       | v zb =>
         cases zb with
         | str _ h2 => exact op_in_sign pins s σ H _ _ v u Q I rx ry ⟨c, z, rfl, rfl, fi.val rl (.v (.bl _))⟩
 · rename_i d _
   cases qs : asSeq S b with
   | none => rw [qs] at fi; exact fi.no
   | some xs =>
     rw [qs] at fi
     simp only at fi
     cases qi : inSeq d xs with
     | none => rw [qi] at fi; exact fi.no
     | some k =>
       rw [qi] at fi
       unfold inSeq at qi
       split at qi
       · rename_i kd
         cases qa : allV xs with
         | none => rw [qa] at qi; cases qi
         | some ds =>
           rw [qa] at qi
           simp only at qi
           split at qi
           · rename_i ks
             cases qi
             cases za with
             | v za =>
               obtain ⟨p, vs, rfl, hp, zs⟩ := asSeq_ok rl zb qs
               rw [allV_some qa] at zs
               have zs' := repus_reps zs
               cases ry
               rcases hp with hp | hp
               · obtain ⟨its, rv, pl, _⟩ := I.list hp
                 obtain ⟨e, he, hb⟩ := in_ok I hu za rx kd zs' rv ks
                 refine in_listAt e pl.isList he ⟨.bl _, H, I, rfl, ?_⟩
                 have : its.toArray.any e = decide (d ∈ ds) := by
                   by_cases hm : d ∈ ds
                   · rw [hb.mpr hm, decide_eq_true hm]
                   · rw [decide_eq_false hm]
                     cases qq : its.toArray.any e with
                     | false => rfl
                     | true => exact absurd (hb.mp qq) hm
                 rw [this]
                 have z := fi.val rl (v := .bl (decide (d ∈ ds))) (.v (.bl _))
                 exact z
               · obtain ⟨its, rv, pl, _⟩ := I.tuple hp
                 obtain ⟨e, he, hb⟩ := in_ok I hu za rx kd zs' rv ks
                 refine in_tupleAt e (show s.heap.IsTuple _ _ from pl) he ⟨.bl _, H, I, rfl, ?_⟩
                 have : its.toArray.any e = decide (d ∈ ds) := by
                   by_cases hm : d ∈ ds
                   · rw [hb.mpr hm, decide_eq_true hm]
                   · rw [decide_eq_false hm]
                     cases qq : its.toArray.any e with
                     | false => rfl
                     | true => exact absurd (hb.mp qq) hm
                 rw [this]
                 have z := fi.val rl (v := .bl (decide (d ∈ ds))) (.v (.bl _))
                 exact z
           · cases qi
       · cases qi
 · exact fi.no
def fIsN (neg : Bool) : F2 := fun x y S => match y with
 | .v .non => (match x with
   | .v .non => some (.v (.bl (!neg)), S)
   | _ => some (.v (.bl neg), S))
 | _ => none
theorem repu_non {B : Bx} {ι : List Addr} {F : Addr → Prop} {H : Hp} {v : V} {u : U} (z : RepU B ι F H v u) : v = .non ↔ u = .v .non := by
 cases z with
 | v z => cases z <;> simp
 | r _ => simp
def fLen : FA := fun us S => match us with
 | [.v (.str z)] => if z.length ≤ 100000 then some (.v (.int z.length), S) else none
 | [u] => (asSeq S u).map fun xs => (.v (.int xs.length), S)
 | _ => none
theorem cq_len : CallR X (.builtin "len") (liftC (bx X cl) fLen) := by
 intro pins s σ H xs us Q I rv ⟨ι, F, S, as, rl, zs, fi⟩
 unfold fLen at fi
 split at fi
 · rename_i z
   split at fi
   · rename_i hl
     cases zs with
     | cons z1 z2 =>
       cases z2
       cases z1 with
       | v z1 =>
         cases z1 with
         | str _ h1 => exact call_len_str pins s σ H _ us Q I rv ⟨z, rfl, sz hl, fi.val rl (.v (.int _))⟩
   · exact fi.no
 · rename_i u _
   cases q : asSeq S u with
   | none => rw [q] at fi; exact fi.no
   | some ys =>
     rw [q] at fi
     cases zs with
     | cons z1 z2 =>
       cases z2
       obtain ⟨p, vs, rfl, hp, zz⟩ := asSeq_ok rl z1 q
       refine call_len_seq pins s σ H _ us Q I rv ⟨p, vs, rfl, hp, ?_⟩
       rw [paired_len zz]
       exact fi.val rl (.v (.int _))
 · exact fi.no
def fInt : FA := fun us S => match us with
 | [.v (.int i)] => some (.v (.int i), S)
 | [.v (.bl k)] => some (.v (.int (if k then 1 else 0)), S)
 | _ => none
theorem cq_int : CallR X (.type "int") (liftC (bx X cl) fInt) := by
 intro pins s σ H xs us Q I rv ⟨ι, F, S, as, rl, zs, fi⟩
 unfold fInt at fi
 split at fi
 · rename_i i
   cases zs with
   | cons z1 z2 =>
     cases z2
     cases z1 with
     | v z1 => cases z1; exact call_int1 pins s σ H _ us Q I rv (.inl ⟨i, rfl, fi.val rl (.v (.int _))⟩)
 · rename_i k
   cases zs with
   | cons z1 z2 =>
     cases z2
     cases z1 with
     | v z1 => cases z1; exact call_int1 pins s σ H _ us Q I rv (.inr ⟨k, rfl, fi.val rl (.v (.int _))⟩)
 · exact fi.no
def fStr : FA := fun us S => match us with
 | [.v (.str i)] => some (.v (.str i), S)
 | _ => none
def fListV : FA := fun us S => match us with
 | [u] => match asSeq S u with
   | some xs => (allV xs).map fun ds => (.v (.lst ds), S)
   | none => none
 | _ => none
def fListS : FA := fun us S => match us with
 | [u] => (asSeq S u).map fun xs => (.r S.length, S ++ [.lst xs])
 | _ => none
def fTuple : FA := fun us S => match us with
 | [u] => match asSeq S u with
   | some xs => (allV xs).map fun ds => (.v (.tup ds), S)
   | none => none
 | _ => none
theorem cq_tuple : CallR X (.type "tuple") (liftC (bx X cl) fTuple) := by
 intro pins s σ H xs us Q I rv ⟨ι, F, S, as, rl, zs, fi⟩
 unfold fTuple at fi
 split at fi
 · rename_i u
   cases q : asSeq S u with
   | none => rw [q] at fi; exact fi.no
   | some ys =>
     rw [q] at fi
     simp only at fi
     cases qa : allV ys with
     | none => rw [qa] at fi; exact fi.no
     | some ds =>
       rw [qa] at fi
       cases zs with
       | cons z1 z2 =>
         cases z2
         have key : ∃ p vs, ‹V› = .ref p ∧ (SqL X.K H p vs ∨ TupAt H p vs) ∧ RepUs (bx X cl) ι F H vs ys := by
           cases z1 with
           | v z =>
             cases z with
             | lst f h rs => cases q; exact ⟨_, _, rfl, .inl (SqL.of h), reps_u rs⟩
             | frl h rs => cases q; exact ⟨_, _, rfl, .inl h.sq, reps_u rs⟩
             | tup h rs => cases q; exact ⟨_, _, rfl, .inr h, reps_u rs⟩
             | _ => cases q
           | @r n a h =>
             unfold asSeq at q
             simp only at q
             cases qq : S[n]? with
             | none => rw [qq] at q; cases q
             | some c =>
               rw [qq] at q
               have ok := rl.ok n a c h qq
               cases c with
               | lst ys =>
                 cases q
                 obtain ⟨vs, h1, h2⟩ := ok
                 exact ⟨a, vs, rfl, .inl (SqL.of h1), h2⟩
               | tpc ys =>
                 cases q
                 obtain ⟨vs, h1, h2⟩ := ok
                 exact ⟨a, vs, rfl, .inr h1, h2⟩
               | _ => cases q
         obtain ⟨p, vs, rfl, hp, zz⟩ := key
         rw [allV_some qa] at zz
         refine call_tupleZ pins s σ H _ us Q I rv ⟨p, vs, rfl, ?_⟩
         rcases hp with hp | hp
         · exact .inl ⟨hp, fun l ob hob hl => fi.go (Evo.new hl) (rl.new hl) (.v (.tup ⟨ob, hob, upd_same⟩ ((repus_reps zz).mono (ι := ι) (ι' := ι) (Evo.new hl))))⟩
         · exact .inr ⟨hp.sq, fi.val rl (.v (.tup hp (repus_reps zz)))⟩
 · exact fi.no
end
end Pu
namespace Pu
open PySem L2
def fIx : F2 := fun x y S => match x, y with
 | .v (.str z), .v (.int i) => if z.length ≤ 100000 then (atI z.cps.toList i).map fun c => (.v (.str ⟨#[c]⟩), S) else none
 | _, .v (.int i) => match asSeq S x with
   | some xs => (atI xs i).map fun u => (u, S)
   | none => none
 | _, _ => none
theorem atI_paired {α β : Type} {P : α → β → Prop} {xs : List α} {ys : List β} {i : Int} {y : β} (h : Paired P xs ys) (e : atI ys i = some y) : ∃ x, atI xs i = some x ∧ P x y := by
 unfold atI at e ⊢
 rw [paired_len h]
 cases q : ixN ys.length i with
 | none => rw [q] at e; cases e
 | some j =>
   rw [q] at e
   obtain ⟨x, h1, h2⟩ := paired_get h (show ys[j]? = some y from e)
   exact ⟨x, h1, h2⟩
theorem atI_mem {α : Type} {xs : List α} {i : Int} {x : α} (e : atI xs i = some x) : x ∈ xs := by
 unfold atI at e
 cases q : ixN xs.length i with
 | none => rw [q] at e; cases e
 | some j => rw [q] at e; exact List.mem_of_getElem? (show xs[j]? = some x from e)
section
variable {X : Cx} {cl : Nat → Addr} {W : WX}
theorem strOk_one {z : Str} {c : Nat} (h : PyData.strOk z = true) (hc : c ∈ z.cps.toList) : PyData.strOk ⟨#[c]⟩ = true := by
 rw [strOk_iff] at *
 intro d hd
 have : d = c := by simpa using hd
 subst this
 exact h d hc
theorem xq_ix : IxR X (liftOp (bx X cl) fIx) := by
 intro value slice pins s σ H x y v u Q I rx ry ⟨ι, F, S, a, b, rl, za, zb, fi⟩ hs
 unfold fIx at fi
 split at fi
 · rename_i z i
   split at fi
   · rename_i hl
     cases za with
     | v za =>
       cases za with
       | str _ h1 =>
         cases zb with
         | v zb =>
           cases zb
           cases q : atI z.cps.toList i with
           | none => rw [q] at fi; exact fi.no
           | some c =>
             rw [q] at fi
             exact ix_str value slice pins s σ H _ _ v u Q I rx ry ⟨z, i, c, rfl, rfl, sz hl, q, fi.val rl (.v (.str _ (strOk_one h1 (atI_mem q))))⟩ hs
   · exact fi.no
 · rename_i i _
   cases zb with
   | v zb =>
     cases zb
     cases q : asSeq S a with
     | none => rw [q] at fi; exact fi.no
     | some xs =>
       rw [q] at fi
       simp only at fi
       cases qi : atI xs i with
       | none => rw [qi] at fi; exact fi.no
       | some w =>
         rw [qi] at fi
         obtain ⟨p, vs, rfl, hp, zz⟩ := asSeq_ok rl za q
         obtain ⟨xv, h1, h2⟩ := atI_paired zz qi
         rcases hp with hp | hp
         · exact ix_list value slice pins s σ H _ _ v u Q I rx ry ⟨p, vs, i, xv, rfl, rfl, hp, h1, fi.val rl h2⟩ hs
         · exact ix_tup value slice pins s σ H _ _ v u Q I rx ry ⟨p, vs, i, xv, rfl, rfl, hp, h1, fi.val rl h2⟩ hs
 · exact fi.no
end
abbrev MO := Env' → Sto → R (Option Int)
def oNone : MO := fun _ S => .ok none S
def oSome (m : ME) : MO := fun ρ S => (m ρ S).bind fun u S1 => match u with
 | .v (.int i) => .ok (some i) S1
 | _ => .er
def cutU {α : Type} (xs : List α) (lo hi : Option Int) : List α := (xs.drop (HT.sIx xs.length 0 lo)).take (HT.sIx xs.length xs.length hi - HT.sIx xs.length 0 lo)
theorem cut_paired {α β : Type} {P : α → β → Prop} {xs : List α} {ys : List β} (lo hi : Option Int) (h : Paired P xs ys) : Paired P (cutU xs lo hi) (cutU ys lo hi) := by
 unfold cutU
 rw [paired_len h]
 exact paired_take _ (paired_drop _ h)
def fSl : U → Option Int → Option Int → Sto → Option (U × Sto) := fun x lo hi S => match x with
 | .v (.str z) => if z.length ≤ 100000 then some (.v (.str (cutS z lo hi)), S) else none
 | .v (.tup xs) => some (.v (.tup (cutU xs lo hi)), S)
 | _ => match asList S x with
   | some xs => (allV (cutU xs lo hi)).map fun ds => (.v (.lst ds), S)
   | none => none
def eSl (f : U → Option Int → Option Int → Sto → Option (U × Sto)) (m : ME) (lo hi : MO) : ME := fun ρ S => (m ρ S).bind fun x S1 => (lo ρ S1).bind fun l S2 => (hi ρ S2).bind fun h S3 => ofO (f x l h S3)
def liftO (B : Bx) (W : WX) (m : MO) : TO := fun σ H Q => ∃ ι F S ρ, Rel B ι F S H ∧ REnv B ι F H σ ρ ∧ Out B W σ ι F H (fun _ _ _ b c => b = c) Q (m ρ S)
def QO (X : Cx) (cl : Nat → Addr) (W : WX) (e : Option Expr) (m : MO) : Prop := PO X e (liftO (bx X cl) W m)
theorem PO.imp {X : Cx} {e : Option Expr} {t t' : TO} (h : PO X e t) (k : ∀ σ H Q, t' σ H Q → t σ H Q) : PO X e t' := ⟨fun pins s σ H Q I hq => h.run pins s σ H Q I (k σ H Q hq)⟩
section
variable {X : Cx} {cl : Nat → Addr} {W : WX} {e : Expr} {lo hi : Option Expr} {m : ME} {mlo mhi : MO} {pos p2 : Pos}
theorem qo_none : QO X cl W none oNone := PO.imp po_none fun σ H Q ⟨ι, F, S, ρ, r, en, o⟩ => o none ι F H Evo.refl r rfl
theorem qo_some (h : QE X cl W e m) : QO X cl W (some e) (oSome m) := PO.imp (po_some h) fun σ H Q ⟨ι, F, S, ρ, r, en, o⟩ => ⟨ι, F, S, ρ, r, en, o.bind.mono fun x H1 ⟨ι1, F1, S1, x', e1, r1, z1, o1⟩ => by
 split at o1
 · rename_i i
   cases z1 with
   | v z1 => cases z1; exact ⟨i, rfl, o1 _ ι1 F1 H1 Evo.refl r1 rfl⟩
 · exact o1.elim⟩
theorem strOk_cut {z : Str} {l h : Option Int} (hz : PyData.strOk z = true) : PyData.strOk (cutS z l h) = true := by
 rw [strOk_iff] at *
 intro c hc
 unfold cutS at hc
 exact hz c (List.mem_of_mem_drop (List.mem_of_mem_take (by simpa using hc)))
def rSlQ (B : Bx) (f : U → Option Int → Option Int → Sto → Option (U × Sto)) : V → Option Int → Option Int → Hp → VK → Prop := fun x l h H Q => ∃ ι F S a, Rel B ι F S H ∧ RepU B ι F H x a ∧ Fin B ι F H Q (f a l h S)
theorem sq_sl : SlR X (rSlQ (bx X cl) fSl) := by
 intro pins s σ H x v vl vu l h sl Q I rx hs pl pu ⟨ι, F, S, a, rl, za, fi⟩
 unfold fSl at fi
 split at fi
 · rename_i z
   split at fi
   · rename_i hl
     cases za with
     | v za =>
       cases za with
       | str _ h1 => exact sl_str pins s σ H _ v vl vu l h sl Q I rx hs pl pu ⟨z, rfl, sz hl, fi.val rl (.v (.str _ (strOk_cut h1)))⟩
   · exact fi.no
 · rename_i xs
   cases za with
   | v za =>
     cases za with
     | tup ha ra =>
       have hc := cut_paired l h (reps_iff.mp ra)
       have ll := paired_len (reps_iff.mp ra)
       refine sl_tupZ pins s σ H _ v vl vu l h sl Q I rx hs pl pu ⟨_, _, rfl, ha.sq, fun hw => ?_, fun hw p ob hob hp => ?_⟩
       · have e : cutU xs l h = xs := by
           unfold cutU
           rw [← ll, hw.1, hw.2]
           simp [ll]
         rw [e] at fi
         exact fi.val rl (.v (.tup ha ra))
       · exact fi.go (Evo.new hp) (rl.new hp) (.v (.tup ⟨ob, hob, upd_same⟩ ((reps_iff.mpr hc).mono (ι := ι) (ι' := ι) (Evo.new hp))))
 · cases q : asList S a with
   | none => rw [q] at fi; exact fi.no
   | some xs =>
     rw [q] at fi
     simp only at fi
     cases qa : allV (cutU xs l h) with
     | none => rw [qa] at fi; exact fi.no
     | some ds =>
       rw [qa] at fi
       obtain ⟨p, vs, rfl, hp, zz⟩ := asList_ok rl za q
       have hc := cut_paired l h zz
       rw [allV_some qa] at hc
       exact sl_list pins s σ H _ v vl vu l h sl Q I rx hs pl pu ⟨p, vs, rfl, hp, fun z hz => fi.go (Evo.newF hz) (rl.newF hz) (.v (.lst (.inr rfl) upd_same ((repus_reps hc).mono (ι := ι) (ι' := ι) (Evo.newF hz))))⟩
theorem qe_slice {f : U → Option Int → Option Int → Sto → Option (U × Sto)} (hr : SlR X (rSlQ (bx X cl) f)) (he : QE X cl W e m) (hl : QO X cl W lo mlo) (hu : QO X cl W hi mhi) : QE X cl W (.Subscript e (.Slice lo hi none p2) pos) (eSl f m mlo mhi) :=
 PE.imp (pe_slice hr he hl hu) fun σ H Q ⟨ι, F, S, ρ, r, en, o⟩ => ⟨ι, F, S, ρ, r, en, o.bind.mono fun x H1 ⟨ι1, F1, S1, x', e1, r1, z1, o1⟩ =>
   ⟨ι1, F1, S1, ρ, r1, en.mono e1, o1.bind.mono fun l H2 ⟨ι2, F2, S2, l', e2, r2, z2, o2⟩ => by
     subst z2
     exact ⟨ι2, F2, S2, ρ, r2, (en.mono e1).mono e2, o2.bind.mono fun h H3 ⟨ι3, F3, S3, h', e3, r3, z3, o3⟩ => by
       subst z3
       exact ⟨ι3, F3, S3, x', r3, (z1.mono e2).mono e3, o3.fin⟩⟩⟩⟩
def fRev : F1 := fun x S => match asList S x with
 | some xs => (allV xs.reverse).map fun ds => (.v (.lst ds), S)
 | none => none
end
def isL (S : Sto) (x : U) : Bool := (asList S x).isSome
def isS (S : Sto) : U → Bool
 | .v (.str _) => true
 | _ => false
def eMtT (chk : Sto → U → Bool) (f : FM) (o : ME) (a : MA) : ME := fun ρ S => (o ρ S).bind fun x S1 => if chk S1 x = true then (a ρ S1).bind fun xs S2 => ofO (f x xs S2) else .er
section
variable {X : Cx} {cl : Nat → Addr} {W : WX} {o e : Expr} {es : List Expr} {mo : ME} {mA : MA} {f : FM} {name : Str} {apos cpos : Pos} {T id : String} {chk : Sto → U → Bool}
def ChkTy (B : Bx) (T : String) (chk : Sto → U → Bool) : Prop := ∀ (ι : List Addr) (F : Addr → Prop) (S : Sto) (H : Hp) (v : V) (u : U), Rel B ι F S H → RepU B ι F H v u → chk S u = true → tyV B.K T v H
theorem chk_list {B : Bx} : ChkTy B "list" isL := fun ι F S H v u r z h => by
 unfold isL at h
 cases q : asList S u with
 | none => rw [q] at h; cases h
 | some xs =>
   obtain ⟨a, vs, rfl, hp, _⟩ := asList_ok r z q
   exact .inl ⟨rfl, vs, hp⟩
theorem chk_str {B : Bx} : ChkTy B "str" isS := fun ι F S H v u r z h => by
 unfold isS at h
 split at h
 · cases z with
   | v z => cases z; rfl
 · cases h
theorem qe_bm (ct : ChkTy (bx X cl) T chk) (pa : PlainAttrs T) (slot : Slot T name id) (hty : typeOf (.builtin id) = pure (.type "method_descriptor")) (hm : MtR X id (liftM (bx X cl) f)) (ho : QE X cl W o mo) (ha : QA X cl W (e :: es) mA)
   (hbase : attributeBase o name X.env (eval o X.env) = eval o X.env := by rfl)
   (hfew : ((backTo cpos (starEach (e :: es) X.env)).all (fun x => !x.1) && (backToKw cpos (keywordEach [] X.env)).all (fun x => x.1.isSome)
     && decide ((e :: es).length + ([] : List Keyword).length + (if ([] : List Keyword).isEmpty then 0 else 1) < 30)) = true := by rfl)
   (hline : (apos.endLine == cpos.line) = true := by rfl) (hs : starEach (e :: es) X.env = (false, eval e X.env) :: starEach es X.env := by rfl) (hplain : (backTo cpos (starEach es X.env)).any (·.1) = false := by rfl) :
   QE X cl W (.Call (.Attribute o name apos) (e :: es) [] cpos) (eMtT chk f mo mA) :=
 PE.imp (pe_bm pa slot hty hm ho ha hbase hfew hline hs hplain) fun σ H Q ⟨ι, F, S, ρ, r, en, ot⟩ => ⟨ι, F, S, ρ, r, en, ot.bind.mono fun x H1 ⟨ι1, F1, S1, x', e1, r1, z1, o1⟩ => by
   split at o1
   · rename_i hc
     exact ⟨ct ι1 F1 S1 H1 x x' r1 z1 hc, ι1, F1, S1, ρ, r1, en.mono e1, o1.bind.mono fun y H2 ⟨ι2, F2, S2, y', e2, r2, z2, o2⟩ => ⟨ι2, F2, S2, x', y', r2, z1.mono e2, z2, o2.fin⟩⟩
   · exact o1.elim⟩
theorem Rel.setL {B : Bx} {ι : List Addr} {F : Addr → Prop} {S : Sto} {H : Hp} {n : Nat} {a : Addr} {xs ys : List U} {vs ws : List V} (r : Rel B ι F S H) (h : ι[n]? = some a) (hs : S[n]? = some (.lst xs)) (ha : H a = some (.lst vs)) (z : RepUs B ι F H ws ys) :
   Rel B ι F (S.set n (.lst ys)) (upd H a (.lst ws)) ∧ Evo ι F H ι F (upd H a (.lst ws)) := by
 have nf := r.nf n a _ h hs rfl
 have e0 : Evo ι F H ι F (upd H a (.lst ws)) := by
   refine ⟨fun _ _ h => h, fun _ h => h, fun b u f h _ => ?_, fun b xs h => ?_, fun b h => ?_, fun b p u h => by rw [upd_ne (fun z : b = a => by rw [z, ha] at h; cases h)]; exact h, fun b φ f h => rd_ne (fun z : b = a => nf (by rw [← z]; exact f)) h⟩
   · rw [upd_ne (fun z : b = a => nf (by rw [← z]; exact f))]; exact h
   · rw [upd_ne (fun z : b = a => by rw [z, ha] at h; cases h)]; exact h
   · by_cases hb : b = a
     · rw [hb, upd_same]; simp
     · rw [upd_ne hb]; exact h
 exact r.write h hs rfl (fun xs z => by rw [ha] at z; cases z) nofun (fun p u z => by rw [ha] at z; cases z) ⟨ws, upd_same, z.mono e0⟩
def fAppend : FM := fun x us S => match x, us with
 | .r n, [u] => match S[n]? with
   | some (.lst xs) => if xs.length < 100000 then some (.v .non, S.set n (.lst (xs ++ [u]))) else none
   | _ => none
 | _, _ => none
theorem szl {n : Nat} (h : n < 100000) : n < sizeLine := Nat.lt_of_lt_of_le h (by decide)
theorem mq_append : MtR X "list.append" (liftM (bx X cl) fAppend) := by
 intro pins s σ H x xs v us Q I rx rxs ⟨ι, F, S, a, as, rl, za, zs, fi⟩
 unfold fAppend at fi
 split at fi
 · rename_i n u
   cases q : S[n]? with
   | none => rw [q] at fi; exact fi.no
   | some c =>
     rw [q] at fi
     cases c with
     | lst ys =>
       simp only at fi
       split at fi
       · rename_i hl
         cases za with
         | @r _ a h =>
           cases zs with
           | cons z1 z2 =>
             cases z2
             obtain ⟨vs, ha, zz⟩ := rl.ok n a _ h q
             obtain ⟨r2, e2⟩ := rl.setL h q ha (paired_append zz (.cons z1 .nil))
             exact mt_append pins s σ H _ _ v us Q I rx rxs ⟨a, vs, _, rfl, rfl, ha, szl (by rw [paired_len zz]; exact hl), fi.go e2 r2 (.v .non)⟩
       · exact fi.no
     | _ => exact fi.no
 · exact fi.no
def fReverse : FM := fun x us S => match x, us with
 | .r n, [] => match S[n]? with
   | some (.lst xs) => some (.v .non, S.set n (.lst xs.reverse))
   | _ => none
 | _, _ => none
def allS : List U → Option (List Str)
 | [] => some []
 | .v (.str x) :: us => (allS us).map (x :: ·)
 | _ :: _ => none
def fJoin : FM := fun x us S => match x, us with
 | .v (.str a), [u] => match asSeq S u with
   | some xs => match allS xs with
     | some ys => if (ys.map (·.length)).sum + ys.length * a.length ≤ 100000 then some (.v (.str (Txt.join a ys)), S) else none
     | none => none
   | none => none
 | _, _ => none
theorem allS_ok {B : Bx} {ι : List Addr} {F : Addr → Prop} {H : Hp} : ∀ {us : List U} {ys : List Str} {vs : List V}, RepUs B ι F H vs us → allS us = some ys → vs = ys.map V.str ∧ ∀ y ∈ ys, PyData.strOk y = true
 | _, ys, _, .nil, e => by simp [allS] at e; subst e; exact ⟨rfl, nofun⟩
 | _, ys, _, .cons (b := u) (l₂ := us) z zs, e => by
   unfold allS at e
   split at e
   · rename_i he; cases he
   · rename_i x us' he
     cases he
     obtain ⟨ys', e1, rfl⟩ := Option.map_eq_some_iff.mp e
     obtain ⟨h1, h2⟩ := allS_ok zs e1
     cases z with
     | v z =>
       cases z with
       | str _ h =>
         refine ⟨by rw [h1]; rfl, fun y hy => ?_⟩
         rcases List.mem_cons.mp hy with e | e
         · subst e; exact h
         · exact h2 y e
   · cases e
theorem join_ok {P : Nat → Prop} {a : List Nat} (ha : ∀ c ∈ a, P c) : ∀ {ps : List (List Nat)}, (∀ p ∈ ps, ∀ c ∈ p, P c) → ∀ c ∈ TL.joinL a ps, P c
 | [], _, c, hc => by simp [TL.joinL] at hc
 | [p], h, c, hc => h p (by simp) c hc
 | p :: q :: r, h, c, hc => by
   simp only [TL.joinL, List.mem_append] at hc
   rcases hc with hc | hc | hc
   · exact h p (by simp) c hc
   · exact ha c hc
   · exact join_ok ha (fun p' hp' => h p' (List.mem_cons_of_mem _ hp')) c hc
theorem strOk_join {a : Str} {ys : List Str} (h1 : PyData.strOk a = true) (h2 : ∀ y ∈ ys, PyData.strOk y = true) : PyData.strOk (Txt.join a ys) = true := by
 rw [strOk_iff]
 intro c hc
 rw [TL.join_eq] at hc
 have e := TL.tl_join a ys
 have hc' : c ∈ TL.tl (Str.join a ys) := hc
 rw [e] at hc'
 refine join_ok (P := fun c => c < 0x110000) (fun c hc => strOk_iff.mp h1 c hc) (fun p hp c hc => ?_) c hc'
 obtain ⟨y, hy, rfl⟩ := List.mem_map.mp hp
 exact strOk_iff.mp (h2 y hy) c hc
theorem mq_join : MtR X "str.join" (liftM (bx X cl) fJoin) := by
 intro pins s σ H x xs v us Q I rx rxs ⟨ι, F, S, a, as, rl, za, zs, fi⟩
 unfold fJoin at fi
 split at fi
 · rename_i z u
   cases q : asSeq S u with
   | none => rw [q] at fi; exact fi.no
   | some ws =>
     rw [q] at fi
     simp only at fi
     cases qs : allS ws with
     | none => rw [qs] at fi; exact fi.no
     | some ys =>
       rw [qs] at fi
       simp only at fi
       split at fi
       · rename_i hl
         cases za with
         | v za =>
           cases za with
           | str _ h1 =>
             cases zs with
             | cons z1 z2 =>
               cases z2
               obtain ⟨p, vs, rfl, hp, zz⟩ := asSeq_ok rl z1 q
               obtain ⟨rfl, h2⟩ := allS_ok zz qs
               exact mt_join pins s σ H _ _ v us Q I rx rxs ⟨z, p, ys, rfl, rfl, hp, Nat.le_trans hl (by decide), fi.val rl (.v (.str _ (strOk_join h1 h2)))⟩
       · exact fi.no
 · exact fi.no
end
end Pu
namespace Pu
open PySem L2
def srcOf : U → Option Nat
 | .r n => some n
 | _ => none
def iVal (m : ME) : MI := fun ρ S => (m ρ S).bind fun u S1 => match asSeq S1 u with
 | some xs => .ok ⟨xs, srcOf u⟩ S1
 | none => .er
def rngU (lo : Int) (n : Nat) : List U := (List.range n).map fun (i : Nat) => .v (.int (lo + (i : Nat)))
def okR1 (j : Int) : Prop := -1000000000 < j ∧ j < 1000000000
def okR2 (i j : Int) : Prop := -1000000000 < j ∧ j < 1000000000 ∧ -1000000000 < i ∧ i < 1000000000
noncomputable instance (j : Int) : Decidable (okR1 j) := Classical.propDecidable _
noncomputable instance (i j : Int) : Decidable (okR2 i j) := Classical.propDecidable _
noncomputable def iRng1 (a : MA) : MI := fun ρ S => (a ρ S).bind fun us S1 => match us with
 | [.v (.int j)] => if okR1 j then .ok ⟨rngU 0 j.toNat, none⟩ S1 else .er
 | _ => .er
noncomputable def iRng2 (a : MA) : MI := fun ρ S => (a ρ S).bind fun us S1 => match us with
 | [.v (.int i), .v (.int j)] => if okR2 i j then .ok ⟨rngU i (j - i).toNat, none⟩ S1 else .er
 | _ => .er
theorem asSeq_same {S S' : Sto} {u : U} {xs : List U} (h : asSeq S u = some xs) (hs : ∀ n, srcOf u = some n → S'[n]? = S[n]?) : asSeq S' u = some xs := by
 cases u with
 | v d => cases d <;> exact h
 | r n =>
   unfold asSeq at h ⊢
   simp only at h ⊢
   rw [hs n rfl]
   exact h
def isTp (S : Sto) (u : U) : Prop := (∃ ds, u = .v (.tup ds)) ∨ ∃ n xs, u = .r n ∧ S[n]? = some (.tpc xs)
theorem asSeq_kind {B : Bx} {ι : List Addr} {F : Addr → Prop} {H : Hp} {S : Sto} {v : V} {u : U} {xs : List U} (r : Rel B ι F S H) (z : RepU B ι F H v u) (e : asSeq S u = some xs) :
   (∃ a vs, v = .ref a ∧ SqL B.K H a vs ∧ RepUs B ι F H vs xs ∧ ¬ isTp S u) ∨ (∃ a vs, isTp S u ∧ v = .ref a ∧ TupAt H a vs ∧ RepUs B ι F H vs xs) := by
 cases z with
 | v z =>
   cases z with
   | lst f h rs => cases e; exact .inl ⟨_, _, rfl, SqL.of h, reps_u rs, by rintro (⟨_, z⟩ | ⟨_, _, z, _⟩) <;> cases z⟩
   | frl h rs => cases e; exact .inl ⟨_, _, rfl, h.sq, reps_u rs, by rintro (⟨_, z⟩ | ⟨_, _, z, _⟩) <;> cases z⟩
   | tup h rs => cases e; exact .inr ⟨_, _, .inl ⟨_, rfl⟩, rfl, h, reps_u rs⟩
   | _ => cases e
 | @r n a h =>
   unfold asSeq at e
   simp only at e
   cases q : S[n]? with
   | none => rw [q] at e; cases e
   | some c =>
     rw [q] at e
     have ok := r.ok n a c h q
     cases c with
     | lst ys =>
       cases e
       obtain ⟨vs, h1, h2⟩ := ok
       refine .inl ⟨a, vs, rfl, SqL.of h1, h2, ?_⟩
       rintro (⟨_, z⟩ | ⟨_, _, z, z2⟩)
       · cases z
       · cases z; rw [q] at z2; cases z2
     | tpc ys =>
       cases e
       obtain ⟨vs, h1, h2⟩ := ok
       exact .inr ⟨a, vs, .inr ⟨n, _, rfl, q⟩, rfl, h1, h2⟩
     | _ => cases e
theorem paired_ix {α β : Type} {P : α → β → Prop} {xs : List α} {ys : List β} {i : Nat} (h : Paired P xs ys) (hi : i < ys.length) : ∃ x y, xs[i]? = some x ∧ ys[i]? = some y ∧ P x y := by
 obtain ⟨x, h1, h2⟩ := paired_get h (List.getElem?_eq_getElem hi)
 exact ⟨x, _, h1, List.getElem?_eq_getElem hi, h2⟩
section
variable {X : Cx} {cl : Nat → Addr} {W : WX} {tg e : Expr} {m : ME} {mA : MA} {p pos : Pos}
theorem walk_l {ι : List Addr} {F : Addr → Prop} {S : Sto} {H : Hp} {u : U} {xs : List U} {a : Addr} (z : RepU (bx X cl) ι F H (.ref a) u) (q : asSeq S u = some xs) (nt : ¬ isTp S u) : Walk (bx X cl) (Itl X.K a) ⟨xs, srcOf u⟩ S ι F H := by
 intro i ι1 F1 S1 H1 e1 r1 so
 have z1 := z.mono e1
 have q1 := asSeq_same q so
 rcases asSeq_kind r1 z1 q1 with ⟨a', vs, ea, hs, zz, _⟩ | ⟨a', vs, hu, _⟩
 · cases ea
   refine ⟨fun hi => ?_, fun hi => ⟨vs, hs, by rw [paired_len zz]; exact hi⟩⟩
   obtain ⟨x, y, hx, hy, zy⟩ := paired_ix zz hi
   refine ⟨⟨vs, x, hs, hx⟩, fun x' H' hyld => ?_⟩
   obtain ⟨rfl, hx'⟩ := hyld
   have := hx' vs hs
   rw [hx] at this
   cases this
   exact ⟨Evo.refl, r1, fun u' hu' => by
     have : xs[i]? = some u' := hu'
     rw [hy] at this; cases this; exact zy⟩
 · refine absurd ?_ nt
   rcases hu with ⟨ds, rfl⟩ | ⟨n, us, rfl, hn⟩
   · exact .inl ⟨ds, rfl⟩
   · exact .inr ⟨n, us, rfl, by rw [← so n rfl]; exact hn⟩
theorem walk_t {ι : List Addr} {F : Addr → Prop} {S : Sto} {H : Hp} {ds : Option Nat} {vs : List V} {xs : List U} {a : Addr} (h : TupAt H a vs) (zz : RepUs (bx X cl) ι F H vs xs) : Walk (bx X cl) (Itt X.K a) ⟨xs, ds⟩ S ι F H := by
 intro i ι1 F1 S1 H1 e1 r1 so
 have h1 := h.lk fun b o xs q => e1.lkd b o _ q
 have zz1 := zz.mono e1
 refine ⟨fun hi => ?_, fun hi => ⟨vs, h1.sq, by rw [paired_len zz1]; exact hi⟩⟩
 obtain ⟨x, y, hx, hy, zy⟩ := paired_ix zz1 hi
 refine ⟨⟨vs, x, h1.sq, hx⟩, fun x' H' hyld => ?_⟩
 obtain ⟨rfl, hx'⟩ := hyld
 have := hx' vs (h1.sq)
 rw [hx] at this
 cases this
 exact ⟨Evo.refl, r1, fun u' hu' => by
   have : xs[i]? = some u' := hu'
   rw [hy] at this; cases this; exact zy⟩
theorem qi_val (h : QE X cl W e m) : QI X cl W tg e (iVal m) := by
 refine ⟨fun pins s σ H Rr I ⟨ι, F, S, ρ, r, en, o⟩ => ?_⟩
 unfold iVal at o
 cases q : m ρ S with
 | er => rw [q] at o; exact o.elim
 | ex c fs S1 =>
   rw [q] at o
   exact (pi_list h).run pins s σ H Rr I ⟨ι, F, S, ρ, r, en, by rw [q]; exact o⟩
 | ok u S1 =>
   rw [q] at o
   simp only [R.bind_ok] at o
   cases qs : asSeq S1 u with
   | none => rw [qs] at o; exact o.elim
   | some xs =>
     rw [qs] at o
     simp only at o
     by_cases hu : isTp S1 u
     · refine (pi_tup h).run pins s σ H Rr I ⟨ι, F, S, ρ, r, en, ?_⟩
       rw [q]
       intro v ι1 F1 H1 e1 r1 z1
       rcases asSeq_kind r1 z1 qs with ⟨a, vs, ea, hs, zz, nt⟩ | ⟨a, vs, _, ea, ha, zz⟩
       · exact absurd hu nt
       · subst ea
         exact ⟨a, rfl, ⟨vs, ha.sq⟩, o _ ι1 F1 H1 e1 r1 (walk_t ha zz)⟩
     · refine (pi_list h).run pins s σ H Rr I ⟨ι, F, S, ρ, r, en, ?_⟩
       rw [q]
       intro v ι1 F1 H1 e1 r1 z1
       have nt : ¬ isTp S1 u := hu
       rcases asSeq_kind r1 z1 qs with ⟨a, vs, ea, hs, zz, _⟩ | ⟨a, vs, hd, _⟩
       · subst ea
         exact ⟨a, rfl, ⟨vs, hs⟩, o _ ι1 F1 H1 e1 r1 (walk_l z1 qs nt)⟩
       · exact absurd hd nt
theorem walk_r {ι : List Addr} {F : Addr → Prop} {S : Sto} {H : Hp} (lo : Int) (n : Nat) : Walk (bx X cl) (Itr lo n) ⟨rngU lo n, none⟩ S ι F H := by
 intro i ι1 F1 S1 H1 e1 r1 so
 refine ⟨fun hi => ⟨show i < n by simpa [rngU] using hi, fun x' H' hyld => ?_⟩, fun hi => show n ≤ i by simpa [rngU] using hi⟩
 obtain ⟨rfl, rfl⟩ := hyld
 refine ⟨Evo.refl, r1, fun u' hu' => ?_⟩
 have hi' : i < n := by simpa [rngU] using hi
 have : u' = .v (.int (lo + (i : Nat))) := by
   simp [rngU, List.getElem?_map, List.getElem?_range hi'] at hu'
   exact hu'.symm
 subst this
 exact .v (.int _)
theorem qi_range1 {a : Expr} (hg : Gl X "range") (hm : X.mg "range" = none) (ha : QA X cl W [a] mA) (hs : starEach [a] X.env = [(false, eval a X.env)] := by rfl) : QI X cl W tg (.Call (.Name "range" p) [a] [] pos) (iRng1 mA) :=
 PI.imp (pi_range1 hg hm ha hs) fun σ H Rr ⟨ι, F, S, ρ, r, en, o⟩ => ⟨ι, F, S, ρ, r, en, by
   unfold iRng1 at o
   cases q : mA ρ S with
   | er => rw [q] at o; exact o.elim
   | ex c fs S1 => rw [q] at o; exact o
   | ok us S1 =>
     rw [q] at o
     intro vs ι1 F1 H1 e1 r1 z1
     simp only [R.bind_ok] at o
     split at o
     · rename_i j he
       split at he
       · rename_i j'
         split at he
         · rename_i hb
           unfold okR1 at hb
           cases he
           cases z1 with
           | cons z1 z2 =>
             cases z2
             cases z1 with
             | v z1 => cases z1; exact ⟨j', rfl, by omega, by omega, o _ ι1 F1 H1 e1 r1 (walk_r 0 j'.toNat)⟩
         · cases he
       · cases he
     · rename_i he
       split at he
       · split at he <;> cases he
       · cases he
     · exact False.elim o⟩
end
def wipeE (ρ : Env') : List Nat → Env'
 | [] => ρ
 | v :: vs => (wipeE ρ vs).set v none
theorem wipe_env {B : Bx} {ι : List Addr} {F : Addr → Prop} {H : Hp} {σ : L2.St} {ρ : Env'} (h : REnv B ι F H σ ρ) : ∀ vs, REnv B ι F H (wipe σ vs) (wipeE ρ vs)
 | [] => h
 | v :: vs => paired_set (P := RepO B ι F H) (x := none) (y := none) trivial v (wipe_env h vs)
theorem wipe_get {σ : L2.St} {i : Nat} : ∀ {vs : List Nat}, i ∉ vs → (wipe σ vs)[i]? = σ[i]?
 | [], _ => rfl
 | v :: vs, h => by
   simp only [List.mem_cons, not_or] at h
   unfold wipe
   rw [List.getElem?_set_ne (fun e => h.1 e.symm), wipe_get h.2]
theorem wipe_in {σ : L2.St} {i : Nat} : ∀ {vs : List Nat}, i ∈ vs → i < σ.length → (wipe σ vs)[i]? = some none
 | [], h, _ => by cases h
 | v :: vs, h, hl => by
   unfold wipe
   by_cases e : v = i
   · subst e
     rw [List.getElem?_set_self (by rw [wipe_length]; exact hl)]
   · rw [List.getElem?_set_ne e]
     exact wipe_in ((List.mem_cons.mp h).resolve_left (fun q => e q.symm)) hl
theorem wipe_eq {σ σ' : L2.St} {vs js : List Nat} (hl : σ'.length = σ.length) (hj : ∀ j ∈ js, j ∈ vs) (h : ∀ i, i ∉ js → σ'[i]? = (wipe σ vs)[i]?) : wipe σ' vs = wipe σ vs := by
 apply List.ext_getElem?
 intro i
 by_cases hi : i ∈ vs
 · by_cases hb : i < σ.length
   · rw [wipe_in hi hb, wipe_in hi (by omega)]
   · rw [List.getElem?_eq_none (by rw [wipe_length]; omega), List.getElem?_eq_none (by rw [wipe_length]; omega)]
 · rw [wipe_get hi, h i (fun z => hi (hj i z)), wipe_get hi]
def noEx {α : Type} : R α → R α
 | .ok a S => .ok a S
 | _ => .er
@[simp] theorem noEx_ok {α : Type} (a : α) (S : Sto) : noEx (R.ok a S) = .ok a S := rfl
noncomputable def lcGo (src : Option Nat) (c0 : Option Cell) (g : MG) (t : MT) (e : ME) (n : Nat) : List U → Env' → Sto → R Unit
 | [], _, S => .ok () S
 | u :: us, ρ, S => match g u ρ with
   | none => .er
   | some ρ1 => (noEx (t ρ1 S)).bind fun b S1 => if b = true then (noEx (e ρ1 S1)).bind fun y S2 => match S2[n]? with
       | some (.lst acc) => if acc.length < 100000 ∧ srcOk src c0 S2 then lcGo src c0 g t e n us ρ (S2.set n (.lst (acc ++ [y]))) else .er
       | _ => .er
     else if srcOk src c0 S1 then lcGo src c0 g t e n us ρ S1 else .er
noncomputable def lcRun (vs : List Nat) (it : MI) (g : MG) (t : MT) (e : ME) (kf : Sto → Unit → Sto → R U) : ME := fun ρ S => (it ρ S).bind fun iv S1 =>
 if srcOk iv.src (iv.src.bind fun n => S1[n]?) (S1 ++ [.lst []]) then
   (lcGo iv.src (iv.src.bind fun n => S1[n]?) g t e S1.length iv.items (wipeE ρ vs) (S1 ++ [.lst []])).bind (kf S1)
 else .er
noncomputable def eLcS (vs : List Nat) (it : MI) (g : MG) (t : MT) (e : ME) : ME := lcRun vs it g t e fun S1 _ S2 => .ok (.r S1.length) S2
noncomputable def kfV (S1 : Sto) (_ : Unit) (S2 : Sto) : R U := match S2[S1.length]? with
 | some (.lst xs) => match allV xs with
   | some ds => if S2 = S1 ++ [.lst xs] then .ok (.v (.lst ds)) S1 else .er
   | none => .er
 | _ => .er
noncomputable def eLcV (vs : List Nat) (it : MI) (g : MG) (t : MT) (e : ME) : ME := lcRun vs it g t e kfV
def tYesM : MT := fun _ S => .ok true S
abbrev W0 : WX := fun _ _ _ _ => False
def QTs (X : Cx) (cl : Nat → Addr) (W : WX) (ifs : List Expr) (m : MT) : Prop := PTs X ifs (liftT (bx X cl) W m)
theorem PTs.imp {X : Cx} {e : List Expr} {t t' : TT} (h : PTs X e t) (k : ∀ σ H Q, t' σ H Q → t σ H Q) : PTs X e t' := ⟨fun pins s σ H Q I hq => h.run pins s σ H Q I (k σ H Q hq)⟩
section
variable {X : Cx} {cl : Nat → Addr} {W : WX}
theorem qts_nil : QTs X cl W [] tYesM := PTs.imp pts_nil fun σ H Q ⟨ι, F, S, ρ, r, en, o⟩ => o true ι F H Evo.refl r rfl
theorem Rel.pop {B : Bx} {ι : List Addr} {F : Addr → Prop} {S : Sto} {H : Hp} {c : Cell} (r : Rel B ι F (S ++ [c]) H) (hlt : ∀ c ∈ S, cellLt S.length c) : ∃ ι0 a, ι = ι0 ++ [a] ∧ Rel B ι0 (addF F a) S H := by
 have hl := r.len
 simp only [List.length_append, List.length_singleton] at hl
 obtain ⟨ι0, a, rfl⟩ : ∃ ι0 a, ι = ι0 ++ [a] := by
   rcases List.eq_nil_or_concat ι with h | ⟨l, x, h⟩
   · subst h; simp at hl
   · exact ⟨l, x, by simpa using h⟩
 refine ⟨ι0, a, rfl, ?_⟩
 have hl0 : ι0.length = S.length := by simpa using hl
 have old : ∀ {n : Nat} {b : Addr} {d : Cell}, ι0[n]? = some b → S[n]? = some d → (ι0 ++ [a])[n]? = some b ∧ (S ++ [c])[n]? = some d := fun {n b d} h1 h2 =>
   ⟨by rw [List.getElem?_append_left (List.getElem?_eq_some_iff.mp h1).1]; exact h1, by rw [List.getElem?_append_left (List.getElem?_eq_some_iff.mp h2).1]; exact h2⟩
 have hla : (ι0 ++ [a])[ι0.length]? = some a := by simp
 have ne : ∀ {n : Nat} {b : Addr}, ι0[n]? = some b → b ≠ a := fun {n b} h1 e => by
   subst e
   have h1' : (ι0 ++ [b])[n]? = some b := by rw [List.getElem?_append_left (List.getElem?_eq_some_iff.mp h1).1]; exact h1
   obtain ⟨q1, e1⟩ := List.getElem?_eq_some_iff.mp h1'
   obtain ⟨q2, e2⟩ := List.getElem?_eq_some_iff.mp hla
   have := (List.getElem_inj r.nd).mp (e1.trans e2.symm)
   have := (List.getElem?_eq_some_iff.mp h1).1
   omega
 have e0 : Evo (ι0 ++ [a]) F H (ι0 ++ [a]) (addF F a) H := ⟨fun _ _ h => h, fun _ h => .inl h, fun _ _ _ h _ => h, fun _ _ h => h, fun _ h => h, fun _ _ _ h => h, fun _ _ _ h => h⟩
 have ru : ∀ {v : V} {u : U}, RepU B (ι0 ++ [a]) F H v u → refLt S.length u → RepU B ι0 (addF F a) H v u := fun {v u} z hz => by
   cases z with
   | v z => exact .v (z.mono e0)
   | @r m b h =>
     have hm : m < ι0.length := by rw [hl0]; exact hz
     rw [List.getElem?_append_left hm] at h
     exact .r h
 refine ⟨hl0, (List.nodup_append.mp r.nd).1, fun n b d h1 h2 h3 => ?_, fun n b d h1 h2 => ?_, fun b hb => r.there b (by simp [hb]), fun b hb => ?_, fun b hb => r.now b (by simp [hb])⟩
 · rintro (z | z)
   · exact r.nf n b d (old h1 h2).1 (old h1 h2).2 h3 z
   · exact ne h1 z
 · have ok := r.ok n b d (old h1 h2).1 (old h1 h2).2
   have lt := hlt d (List.mem_of_getElem? h2)
   cases d with
   | lst xs => obtain ⟨vs, h, q⟩ := ok; exact ⟨vs, h, paired_memP (P := RepU B (ι0 ++ [a]) F H) (P' := RepU B ι0 (addF F a) H) (Q := refLt S.length) (fun _ _ z l => ru z l) q lt⟩
   | tpc xs => obtain ⟨vs, h, q⟩ := ok; exact ⟨vs, h, paired_memP (P := RepU B (ι0 ++ [a]) F H) (P' := RepU B ι0 (addF F a) H) (Q := refLt S.length) (fun _ _ z l => ru z l) q lt⟩
   | dic kvs => obtain ⟨vs, h, z, q⟩ := ok; exact ⟨vs, h, z, paired_memP (Q := fun p : D × U => refLt S.length p.2) (fun _ _ ⟨a, b, c, w, d, e⟩ l => ⟨a, b.mono e0, c, w, d, ru e l⟩) q lt⟩
   | dicL kvs => obtain ⟨vs, od, h, z, q⟩ := ok; exact ⟨vs, od, h, z, paired_memP (Q := fun p : D × U => refLt S.length p.2) (fun _ _ ⟨a, b, c, w, d, e⟩ l => ⟨a, b.mono e0, c, w, d, ru e l⟩) q lt⟩
   | ins k fs =>
     obtain ⟨dx, vs, h, hd, nd, q⟩ := ok
     refine ⟨dx, vs, h, hd, ?_, paired_memP (Q := fun p : Str × U => refLt S.length p.2) (fun _ _ ⟨a, e⟩ l => ⟨a, ru e l⟩) q lt⟩
     rintro (z | z)
     · exact nd z
     · subst z; exact r.now dx (by simp) _ hd
   | dead => trivial
 · rcases hb with z | z
   · exact r.fthere b z
   · subst z; exact r.there b (by simp)
end
end Pu
namespace Pu
open PySem L2
open PyProof.Rows hiding St
theorem Out.bindN {α β γ δ : Type} {B : Bx} {W : WX} {σ σ' : L2.St} {ι ι2 : List Addr} {F F2 : Addr → Prop} {H H2 : Hp} {rep : List Addr → (Addr → Prop) → Hp → β → α → Prop} {rep1 : List Addr → (Addr → Prop) → Hp → δ → γ → Prop} {Q : β → Hp → Prop} {r : R γ} {k : γ → Sto → R α}
   (h : Out B W σ ι F H rep Q ((noEx r).bind k)) : Out B W0 σ' ι2 F2 H2 rep1 (fun b H1 => ∃ ι1 F1 S1 a, Evo ι2 F2 H2 ι1 F1 H1 ∧ Rel B ι1 F1 S1 H1 ∧ rep1 ι1 F1 H1 b a ∧ Out B W σ ι F H rep Q (k a S1)) r := by
 cases r with
 | ok a S' => exact fun b ι' F' H' e' r' z => ⟨ι', F', S', a, e', r', z, h⟩
 | ex c fs S' => exact h.elim
 | er => exact h.elim
section
variable {X : Cx} {cl : Nat → Addr} {W : WX}
theorem lc_read {σ : L2.St} {H : Hp} {Q : VK} {mi : MI} {g : MG} {js vs : List Nat} {t : MT} {e : ME} {kf : Sto → Unit → Sto → R U} (hj : ∀ j ∈ js, j ∈ vs) (h : liftE (bx X cl) W (lcRun vs mi g t e kf) σ H Q)
   (hk : ∀ (S1 S' : Sto) (ι1 : List Addr) (F1 : Addr → Prop) (H1 : Hp) (ι' : List Addr) (F' : Addr → Prop) (H' : Hp) (D : Addr), Rel (bx X cl) ι1 F1 S1 H1 → H1 D = none → Evo (ι1 ++ [D]) F1 (upd H1 D (.lst [])) ι' F' H' → Rel (bx X cl) ι' F' S' H' →
     Out (bx X cl) W σ ι1 F1 H1 (RepU (bx X cl)) Q (kf S1 () S') → Q (.ref D) H') :
   tLc (liftI (bx X cl) W mi) (liftG (bx X cl) js g) (liftT (bx X cl) W0 t) (liftE (bx X cl) W0 e) vs σ H Q := by
 obtain ⟨ι, F, S, ρ, r, en, o⟩ := h
 refine ⟨ι, F, S, ρ, r, en, ?_⟩
 unfold lcRun at o
 cases q : mi ρ S with
 | er => rw [q] at o; exact o
 | ex k fs S1 => rw [q] at o; exact o
 | ok iv S1 =>
   rw [q] at o
   intro J ι1 F1 H1 e1 r1 wk D hD
   have e2 : Evo ι1 F1 H1 (ι1 ++ [D]) F1 (upd H1 D (.lst [])) := Evo.newS hD
   have r2 : Rel (bx X cl) (ι1 ++ [D]) F1 (S1 ++ [.lst []]) (upd H1 D (.lst [])) := r1.newS hD nofun ⟨[], upd_same, .nil⟩
   have hDn : (ι1 ++ [D])[S1.length]? = some D := by rw [← r1.len]; simp
   simp only [R.bind_ok] at o
   split at o
   · rename_i so0
     have o2 := Out.shift e1 o
     refine ⟨fun i m H' => m = iv.items.length - i ∧ i ≤ iv.items.length ∧ ∃ ι3 F3 S3, Evo (ι1 ++ [D]) F1 (upd H1 D (.lst [])) ι3 F3 H' ∧ Rel (bx X cl) ι3 F3 S3 H' ∧ srcOk iv.src (iv.src.bind fun n => S1[n]?) S3 ∧
       Out (bx X cl) W σ ι1 F1 H1 (RepU (bx X cl)) Q ((lcGo iv.src (iv.src.bind fun n => S1[n]?) g t e S1.length (iv.items.drop i) (wipeE ρ vs) S3).bind (kf S1)), ⟨iv.items.length, by simp, by simp, _, _, _, Evo.refl, r2, so0, by simpa using o2⟩, ?_⟩
     rintro i m H3 ⟨rfl, hi, ι3, F3, S3, e3, r3, so, o3⟩
     have so' : ∀ n, iv.src = some n → S3[n]? = S1[n]? := fun n hn => by
       unfold srcOk at so
       rw [hn] at so
       simpa [hn] using so
     obtain ⟨w1, w2⟩ := wk i ι3 F3 S3 H3 (e2.trans e3) r3 so'
     by_cases hlt : i < iv.items.length
     · obtain ⟨go, yl⟩ := w1 hlt
       refine .inr ⟨go, fun H' => i + 1 ≤ iv.items.length ∧ ∃ ι3 F3 S3, Evo (ι1 ++ [D]) F1 (upd H1 D (.lst [])) ι3 F3 H' ∧ Rel (bx X cl) ι3 F3 S3 H' ∧ srcOk iv.src (iv.src.bind fun n => S1[n]?) S3 ∧
         Out (bx X cl) W σ ι1 F1 H1 (RepU (bx X cl)) Q ((lcGo iv.src (iv.src.bind fun n => S1[n]?) g t e S1.length (iv.items.drop (i + 1)) (wipeE ρ vs) S3).bind (kf S1)), fun H' p => ⟨iv.items.length - (i + 1), by omega, rfl, p⟩, fun x H' y => ?_⟩
       obtain ⟨e4, r4, z4⟩ := yl x H' y
       have hd : iv.items.drop i = iv.items[i] :: iv.items.drop (i + 1) := List.drop_eq_getElem_cons hlt
       rw [hd] at o3
       unfold lcGo at o3
       cases qg : g iv.items[i] (wipeE ρ vs) with
       | none => rw [qg] at o3; exact o3.elim
       | some ρ1 =>
         rw [qg] at o3
         have eall := ((e1.trans e2).trans e3).trans e4
         have o4 := o3
         refine ⟨ι3, F3, S3, wipeE ρ vs, iv.items[i], ρ1, r4, wipe_env (en.mono eall) vs, z4 _ (by simp [hlt]), qg, fun σ2 en2 k2 l2 => ⟨wipe_eq (by rw [l2, wipe_length]) hj k2, ι3, F3, S3, ρ1, r4, en2, ?_⟩⟩
         simp only at o4
         have o5 : Out (bx X cl) W σ ι1 F1 H1 (RepU (bx X cl)) Q ((noEx (t ρ1 S3)).bind fun b S4 => (if b = true then (noEx (e ρ1 S4)).bind fun y S5 => match S5[S1.length]? with
             | some (.lst acc) => if acc.length < 100000 ∧ srcOk iv.src (iv.src.bind fun n => S1[n]?) S5 then lcGo iv.src (iv.src.bind fun n => S1[n]?) g t e S1.length (iv.items.drop (i + 1)) (wipeE ρ vs) (S5.set S1.length (.lst (acc ++ [y]))) else .er
             | _ => .er
           else if srcOk iv.src (iv.src.bind fun n => S1[n]?) S4 then lcGo iv.src (iv.src.bind fun n => S1[n]?) g t e S1.length (iv.items.drop (i + 1)) (wipeE ρ vs) S4 else .er).bind (kf S1)) := by
           cases qt : noEx (t ρ1 S3) with
           | ok b S4 => rw [qt] at o4; exact o4
           | ex _ _ _ => rw [qt] at o4; exact o4
           | er => rw [qt] at o4; exact o4
         refine (Out.bindN o5).mono fun b H5 ⟨ι5, F5, S5, b', e5, r5, z5, o6⟩ => ?_
         subst z5
         cases b with
         | false =>
           simp only [Bool.false_eq_true, if_false] at o6
           split at o6
           · rename_i hs
             exact ⟨hlt, ι5, F5, S5, (e3.trans e4).trans e5, r5, hs, o6⟩
           · exact o6.elim
         | true =>
           simp only [if_true] at o6
           refine ⟨ι5, F5, S5, ρ1, r5, en2.mono e5, ?_⟩
           have o7 : Out (bx X cl) W σ ι1 F1 H1 (RepU (bx X cl)) Q ((noEx (e ρ1 S5)).bind fun y S6 => (match S6[S1.length]? with
             | some (.lst acc) => if acc.length < 100000 ∧ srcOk iv.src (iv.src.bind fun n => S1[n]?) S6 then lcGo iv.src (iv.src.bind fun n => S1[n]?) g t e S1.length (iv.items.drop (i + 1)) (wipeE ρ vs) (S6.set S1.length (.lst (acc ++ [y]))) else .er
             | _ => .er).bind (kf S1)) := by
             cases qe : noEx (e ρ1 S5) with
             | ok b S4 => rw [qe] at o6; exact o6
             | ex _ _ _ => rw [qe] at o6; exact o6
             | er => rw [qe] at o6; exact o6
           refine (Out.bindN o7).mono fun y H6 ⟨ι6, F6, S6, y', e6, r6, z6, o8⟩ => ?_
           cases qc : S6[S1.length]? with
           | none => rw [qc] at o8; exact o8.elim
           | some c =>
             rw [qc] at o8
             cases c with
             | lst acc =>
               simp only at o8
               split at o8
               · rename_i hs
                 have hDn6 : ι6[S1.length]? = some D := e6.pre _ _ (e5.pre _ _ (e4.pre _ _ (e3.pre _ _ hDn)))
                 obtain ⟨vs6, ha, zz⟩ := r6.ok _ _ _ hDn6 qc
                 obtain ⟨r7, e7⟩ := r6.setL hDn6 qc ha (paired_append zz (.cons z6 .nil))
                 refine ⟨vs6, ha, szl (by rw [paired_len zz]; exact hs.1), hlt, ι6, F6, _, (((e3.trans e4).trans e5).trans e6).trans e7, r7, ?_, o8⟩
                 have hs2 := hs.2
                 unfold srcOk at hs2 ⊢
                 split
                 · trivial
                 · rename_i n hn
                   rw [hn] at hs2
                   by_cases hnn : n = S1.length
                   · subst hnn
                     simp only [hn, Option.bind_some] at hs2
                     rw [qc, List.getElem?_eq_none (Nat.le_refl _)] at hs2
                     cases hs2
                   · rw [List.getElem?_set_ne (Ne.symm hnn), hn]
                     exact hs2
               · exact o8.elim
             | _ => exact o8.elim
     · have hd : iv.items.drop i = [] := List.drop_eq_nil_of_le (by omega)
       rw [hd] at o3
       exact .inl ⟨w2 (by omega), hk S1 S3 ι1 F1 H1 ι3 F3 H3 D r1 hD e3 r3 o3⟩
   · exact o.elim
theorem lc_endV {σ : L2.St} {Q : VK} (S1 S' : Sto) (ι1 : List Addr) (F1 : Addr → Prop) (H1 : Hp) (ι' : List Addr) (F' : Addr → Prop) (H' : Hp) (D : Addr) (r1 : Rel (bx X cl) ι1 F1 S1 H1) (hD : H1 D = none) (e : Evo (ι1 ++ [D]) F1 (upd H1 D (.lst [])) ι' F' H') (r : Rel (bx X cl) ι' F' S' H')
   (o : Out (bx X cl) W σ ι1 F1 H1 (RepU (bx X cl)) Q (kfV S1 () S')) : Q (.ref D) H' := by
 unfold kfV at o
 split at o
 · rename_i xs qx
   split at o
   · rename_i ds qa
     split at o
     · rename_i hS
       have hDn : ι'[S1.length]? = some D := e.pre _ _ (by rw [← r1.len]; simp)
       obtain ⟨vs, ha, zz⟩ := r.ok _ _ _ hDn qx
       subst hS
       obtain ⟨ι0, a, rfl, r0⟩ := r.pop fun c hc => r1.lt hc
       have hl0 := r0.len
       have ea : a = D := by
         rw [← hl0] at hDn
         simpa using hDn
       subst ea
       rw [allV_some qa] at zz
       have e0 : Evo (ι0 ++ [a]) F' H' (ι0 ++ [a]) (addF F' a) H' := ⟨fun _ _ h => h, fun _ h => .inl h, fun _ _ _ h _ => h, fun _ _ h => h, fun _ h => h, fun _ _ _ h => h, fun _ _ _ h => h⟩
       have hz : Rep (bx X cl) (addF F' a) H' (.ref a) (.lst ds) := .lst (.inr rfl) ha ((repus_reps zz).mono e0)
       have eb := (Evo.newS (ι := ι1) (F := F1) (o := .lst []) hD).trans e
       refine o (.ref a) ι0 (addF F' a) H' ⟨fun n b h => ?_, fun b h => .inl (eb.sub b h), eb.keep, eb.tups, eb.alive, eb.lkd, eb.kext⟩ r0 (.v hz)
       have h2 := eb.pre n b h
       rw [List.getElem?_append_left (by rw [hl0, ← r1.len]; exact (List.getElem?_eq_some_iff.mp h).1)] at h2
       exact h2
     · exact o.elim
   · exact o.elim
 · exact o.elim
variable {elt tg iter : Expr} {ifs : List Expr} {scope : Scope} {own : List (Str × Nat)} {pos spos py : Pos} {mi : MI} {g : MG} {js : List Nat} {t : MT} {me : ME} {i : Nat} {y : Str}
abbrev Blk (X : Cx) (scope : Scope) (Pr : Cx → Prop) : Prop := ∀ (s : Shared) (H : Hp) (C : Addr) (cz : List (Str × Addr)) (fp : List Addr), Pr (X.blk s H scope (compEnvC scope cz C X.env) fp)
theorem qe_lcV (hc : X.calm = true) (hN : X.N.Nodup) (hi : QI X cl W tg iter mi) (ok : BlkOk X.N X.env.scope scope own) (hg : Blk X scope fun Y => QG Y cl tg js g) (ht : Blk X scope fun Y => QTs Y cl W0 ifs t) (he : Blk X scope fun Y => QE Y cl W0 elt me) (hj : ∀ j ∈ js, j ∈ own.map (·.2))
   (hs : ∀ x, foldedSetIterable iter X.env x = pure x := by intro _; rfl) : QE X cl W (.ListComp elt [⟨tg, iter, ifs, 0⟩] scope pos) (eLcV (own.map (·.2)) mi g t me) :=
 PE.imp (pe_lc (own := own) (g := liftG (bx X cl) js g) (tt := liftT (bx X cl) W0 t) (te := liftE (bx X cl) W0 me) hc hN hi ok (fun a b c d e => hg a b c d e) (fun a b c d e => ht a b c d e) (fun a b c d e => he a b c d e) hs) fun σ H Q h => lc_read hj h lc_endV
theorem asg_lift {m : ME} {D : Ends} {σ : L2.St} {H : Hp} (h : liftS (bx X cl) W (sAsg m (gName i)) D σ H) : liftE (bx X cl) W m σ H (fun x H1 => L2.gName i x σ H1 D.nx) := by
 obtain ⟨ι, F, S, ρ, r, en, o⟩ := h
 exact ⟨ι, F, S, ρ, r, en, (o.st en).mono fun v H1 ⟨ι1, F1, S1, u, e1, r1, z1, o1⟩ =>
   o1 _ ι1 F1 H1 Evo.refl r1 (paired_set (P := RepO (bx X cl) ι1 F1 H1) (x := some v) (y := some u) z1 i (en.mono e1))⟩
theorem qs_setLcV (hc : X.calm = true) (hN : X.N.Nodup) (hy : X.N[i]? = some y) (hyl : X.env.scope.names.lookup y = some .local) (hsw : swapsWith (.ListComp elt [⟨tg, iter, ifs, 0⟩] scope pos) (some (.Name y py)) spos.line X.env = pure true)
   (hi : QI X cl W tg iter mi) (ok : BlkOk X.N X.env.scope scope own) (hg : Blk X scope fun Y => QG Y cl tg js g) (ht : Blk X scope fun Y => QTs Y cl W0 ifs t) (he : Blk X scope fun Y => QE Y cl W0 elt me) (hj : ∀ j ∈ js, j ∈ own.map (·.2))
   (hs : ∀ x, foldedSetIterable iter X.env x = pure x := by intro _; rfl) : QS X cl W (.Assign [.Name y py] (.ListComp elt [⟨tg, iter, ifs, 0⟩] scope pos) spos) (sAsg (eLcV (own.map (·.2)) mi g t me) (gName i)) :=
 PS.imp (ps_setLc (own := own) (g := liftG (bx X cl) js g) (tt := liftT (bx X cl) W0 t) (te := liftE (bx X cl) W0 me) hc hN hy hyl hsw hi ok (fun a b c d e => hg a b c d e) (fun a b c d e => ht a b c d e) (fun a b c d e => he a b c d e) hs) fun D σ H h => lc_read hj (asg_lift h) lc_endV
end
end Pu
namespace Pu
open PySem L2
def asDic (S : Sto) : U → Option (List (D × U))
 | .v (.dic kvs) => some (kvs.map fun p => (p.1, .v p.2))
 | .r n => match S[n]? with
   | some (.dic kvs) => some kvs
   | some (.dicL kvs) => some kvs
   | _ => none
 | _ => none
noncomputable def dget (kvs : List (D × U)) (k : D) : Option U := (kvs.find? fun p => decide (p.1 = k)).map (·.2)
noncomputable def dhas (kvs : List (D × U)) (k : D) : Bool := (dget kvs k).isSome
noncomputable def dput (kvs : List (D × U)) (k : D) (w : U) : List (D × U) := if dhas kvs k = true then kvs.map fun p => if p.1 = k then (p.1, w) else p else kvs ++ [(k, w)]
theorem repK_paired {B : Bx} {ι : List Addr} {F : Addr → Prop} {H : Hp} : ∀ {es : List Ent} {kvs : List (D × D)}, RepK B F H es kvs → RepKU B ι F H es (kvs.map fun p => (p.1, U.v p.2))
 | _, _, .nil => .nil
 | _, _, .cons a b c d e f => .cons ⟨a, b, c, _, d, .v e⟩ (repK_paired f)
theorem asDic_ok {B : Bx} {ι : List Addr} {F : Addr → Prop} {H : Hp} {S : Sto} {v : V} {u : U} {kvs : List (D × U)} (r : Rel B ι F S H) (z : RepU B ι F H v u) (e : asDic S u = some kvs) :
   ∃ a es, v = .ref a ∧ Rd H a (dicO B.prog B.w a es) ∧ es.length ≤ sizeLine ∧ RepKU B ι F H es kvs := by
 cases z with
 | v z =>
   cases z with
   | dic f h hz rs => cases e; exact ⟨_, _, rfl, h, hz, repK_paired rs⟩
   | _ => cases e
 | @r n a h =>
   unfold asDic at e
   simp only at e
   cases q : S[n]? with
   | none => rw [q] at e; cases e
   | some c =>
     rw [q] at e
     have ok := r.ok n a c h q
     cases c with
     | dic ys =>
       cases e
       obtain ⟨es, h1, h2, h3⟩ := ok
       exact ⟨a, es, rfl, .inl h1, h2, h3⟩
     | dicL ys =>
       cases e
       obtain ⟨es, od, h1, h2, h3⟩ := ok
       exact ⟨a, es, rfl, .inr ⟨od, h1⟩, h2, h3⟩
     | _ => cases e
section
variable {X : Cx} {cl : Nat → Addr} {W : WX} {pins : List (Addr × Obj)} {σ : L2.St} {ι : List Addr} {F : Addr → Prop} {H : Hp} {s : Shared} {a b : Addr} {es : List Ent} {kvs : List (D × U)} {k : D} {nk : NestedKey} {w : U}
theorem keys_is (I : Inv X pins σ H s) : ∀ {es : List Ent} {kvs : List (D × U)}, RepKU (bx X cl) ι F H es kvs → ∀ x ∈ es, (nestedKind X.prog X.w).is s.heap x.1 x.2.1
 | _, _, .nil, x, hx => by cases hx
 | _, _, .cons ⟨h1, h2, h3, _⟩ t, x, hx => by
   rcases List.mem_cons.mp hx with e | e
   · subst e
     exact ⟨rep_key (u := .ref _) I h2 rfl h1, h3⟩
   · exact keys_is I t x e
theorem dic_h (I : Inv X pins σ H s) (h : Rd H a (dicO X.prog X.w a es)) (rk : RepKU (bx X cl) ι F H es kvs) : s.heap.DictOfH (nestedKind X.prog X.w) a es ∧ (a == sysModules) = false := by
 have hk : ObjOk X.prog X.w H s.heap a (dicO X.prog X.w a es) := by
   rcases h with h | ⟨od, h⟩
   · exact I.hok a _ h
   · exact (I.hok a _ h).2
 obtain ⟨⟨o, es', ep, h1, h2, h3, h4, h5, h6⟩, _, _⟩ := hk
 exact ⟨⟨o, es', ep, h1, h2, h3, h4, keys_is I rk, h5⟩, h6⟩
theorem atKey_cons (x : Ent) (xs : List Ent) (nk : NestedKey) : atKey (x :: xs) nk = if x.1 = nk then some x.2 else atKey xs nk := by
 unfold atKey
 rw [List.find?_cons]
 by_cases h : x.1 = nk
 · rw [decide_eq_true h, if_pos h]; rfl
 · rw [decide_eq_false h, if_neg h]
theorem dget_cons (p : D × U) (kvs : List (D × U)) (k : D) : dget (p :: kvs) k = if p.1 = k then some p.2 else dget kvs k := by
 unfold dget
 rw [List.find?_cons]
 by_cases h : p.1 = k
 · rw [decide_eq_true h, if_pos h]; rfl
 · rw [decide_eq_false h, if_neg h]
@[simp] theorem dget_nil (k : D) : dget [] k = none := rfl
theorem key_iff {p k : D} {x nk : NestedKey} (h1 : nkey p = some x) (h2 : nkey k = some nk) : x = nk ↔ p = k := ⟨fun e => nkey_inj h1 (by rw [h2, e]), fun e => by subst e; rw [h1] at h2; cases h2; rfl⟩
theorem at_get (hk : nkey k = some nk) : ∀ {es : List Ent} {kvs : List (D × U)}, RepKU (bx X cl) ι F H es kvs → (∃ b u v w, atKey es nk = some (b, u) ∧ dget kvs k = some w ∧ RelV v u ∧ RepU (bx X cl) ι F H v w) ∨ (atKey es nk = none ∧ dget kvs k = none)
 | _, _, .nil => .inr ⟨rfl, rfl⟩
 | _, _, .cons (a := x) (b := p) ⟨h1, h2, h3, v, h4, h5⟩ t => by
   rw [atKey_cons, dget_cons]
   by_cases e : p.1 = k
   · rw [if_pos e, if_pos ((key_iff h1 hk).mpr e)]
     exact .inl ⟨_, _, v, _, rfl, rfl, h4, h5⟩
   · rw [if_neg e, if_neg (fun z => e ((key_iff h1 hk).mp z))]
     exact at_get hk t
theorem put_map (hk : nkey k = some nk) {v : V} {u : Value} (hv : RelV v u) (zv : RepU (bx X cl) ι F H v w) : ∀ {es : List Ent} {kvs : List (D × U)}, RepKU (bx X cl) ι F H es kvs → RepKU (bx X cl) ι F H (es.map (putAt nk u)) (kvs.map fun p => if p.1 = k then (p.1, w) else p)
 | _, _, .nil => .nil
 | _, _, .cons (a := x) (b := p) ⟨h1, h2, h3, v', h4, h5⟩ t => by
   refine .cons ?_ (put_map hk hv zv t)
   unfold putAt
   dsimp only
   by_cases e : p.1 = k
   · rw [if_pos e, if_pos ((key_iff h1 hk).mpr e)]
     exact ⟨h1, h2, h3, v, hv, zv⟩
   · rw [if_neg e, if_neg (fun z => e ((key_iff h1 hk).mp z))]
     exact ⟨h1, h2, h3, v', h4, h5⟩
theorem put_ok (hk : nkey k = some nk) (hd : nk.depth ≤ 8) {v : V} {u : Value} (hv : RelV v u) (zv : RepU (bx X cl) ι F H v w) (zk : Rep (bx X cl) F H (.ref b) k) (rk : RepKU (bx X cl) ι F H es kvs) : RepKU (bx X cl) ι F H (storedH es nk b u) (dput kvs k w) := by
 unfold storedH dput dhas
 rcases at_get hk rk with ⟨b', u', v', w', h1, h2, _⟩ | ⟨h1, h2⟩
 · rw [h1, h2]
   exact put_map hk hv zv rk
 · rw [h1, h2]
   exact paired_append rk (.cons ⟨hk, zk, hd, v, hv, zv⟩ .nil)
theorem stored_len (es : List Ent) (nk : NestedKey) (b : Addr) (u : Value) : (storedH es nk b u).length ≤ es.length + 1 := by
 unfold storedH
 split
 · simp
 · simp
theorem kroom {A : Around} (hu : A.units + 20 < cLine) (P : Program) (w : World) : (nestedKind P w).room A.in1 := by
 show A.units + 1 + 8 < cLine
 omega
def fDicS : FA := fun us S => match us with
 | [] => some (.r S.length, S ++ [.dic []])
 | _ => none
theorem raw_keep {P : Program} {w : World} {a : Addr} {es : List Ent} : ∀ h1 h2 : Heap, DRaw P w a es h1 → (∀ o, h1.get? a = some o → h2.get? a = some o) → DRaw P w a es h2 := fun h1 h2 ⟨o, es', ep, e1, r⟩ k => ⟨o, es', ep, k o e1, r⟩
theorem qe_dict {pos : Pos} : QE X cl W (.Dict [] [] pos) (eCB fDicS aNil) := by
 refine ⟨fun pins s σ H Q I ⟨ι, F, S, ρ, r, en, o⟩ => ?_⟩
 have hf : H s.heap.objs.size = none := I.hok.fresh (Nat.le_refl _)
 have raw : DRaw X.prog X.w s.heap.objs.size [] (s.heap.push { cls := .type "dict", data := .dict #[] }) :=
   ⟨_, #[], 0, Heap.get?_push_size _ rfl, ⟨rfl, rfl, rfl⟩, rfl, rfl, List.nodup_nil, beq_eq_false_iff_ne.mpr (Ne.symm (Nat.ne_of_lt I.big))⟩
 refine wpAny_Dict_empty ⟨.ref s.heap.objs.size, upd H s.heap.objs.size (dicO X.prog X.w s.heap.objs.size []), I.laid (t' := s.toks) (fun _ _ q => Heap.get?_push_of_some _ q) (Nat.le_refl _) ?_, rfl, ?_⟩
 · exact ⟨raw, ⟨_, Heap.get?_push_size _ rfl⟩, raw_keep⟩
 · have e2 : Evo ι F H (ι ++ [s.heap.objs.size]) F (upd H s.heap.objs.size (dicO X.prog X.w s.heap.objs.size [])) := Evo.newS hf
   have o2 := Out.fin (show Out (bx X cl) W σ ι F H (RepU (bx X cl)) Q (ofO (fDicS [] S)) from o)
   exact o2.go e2 (r.newS hf nofun ⟨[], upd_same, Nat.zero_le _, .nil⟩) (.r (by rw [← r.len]; simp))
noncomputable def fInX (neg : Bool) : F2 := fun x y S => match asDic S y with
 | some kvs => match x with
   | .v (.tup ks) => if isKey (.tup ks) = true then some (.v (.bl (cond neg (!dhas kvs (.tup ks)) (dhas kvs (.tup ks)))), S) else none
   | _ => none
 | none => fIn neg x y S
theorem repu_tup {B : Bx} {v : V} {ks : List D} (z : RepU B ι F H v (.v (.tup ks))) : ∃ b, v = .ref b ∧ Rep B F H (.ref b) (.tup ks) := by
 cases z with
 | v z => cases z with
   | tup h r => exact ⟨_, rfl, .tup h r⟩
theorem Inv.toks {X : Cx} {pins : List (Addr × Obj)} {σ : L2.St} {H : Hp} {s : Shared} (I : Inv X pins σ H s) (t : Nat) : Inv X pins σ H { s with toks := t } := I.tok t
theorem oq_inX (hu : X.A.units + 20 < cLine) : OpR X (compareOp .In) (liftOp (bx X cl) (fInX false)) := by
 intro pins s σ H x y v u Q I rx ry ⟨ι, F, S, a, b, rl, za, zb, fi⟩
 unfold fInX at fi
 cases q : asDic S b with
 | none => rw [q] at fi; exact oq_in hu pins s σ H x y v u Q I rx ry ⟨ι, F, S, a, b, rl, za, zb, fi⟩
 | some kvs =>
   rw [q] at fi
   simp only at fi
   split at fi
   · rename_i ks
     split at fi
     · rename_i hk
       obtain ⟨nk, e, d⟩ := nkey_of hk
       obtain ⟨kb, rfl, zk⟩ := repu_tup za
       obtain ⟨p, es, rfl, hp, hz, rk⟩ := asDic_ok rl zb q
       obtain ⟨hd, hs⟩ := dic_h I hp rk
       cases rx
       cases ry
       refine in_keyed (kroom hu _ _) ⟨rep_key (u := .ref kb) I zk rfl e, d⟩ hs ⟨es, hd, rfl⟩ ⟨.bl _, H, I.tok _, rfl, ?_⟩
       rw [valueAt_pairsH, Option.isSome_map]
       have : (atKey es nk).isSome = dhas kvs (.tup ks) := by
         unfold dhas
         rcases at_get e rk with ⟨_, _, _, _, h1, h2, _⟩ | ⟨h1, h2⟩ <;> rw [h1, h2] <;> rfl
       rw [this]
       exact fi.val rl (.v (.bl _))
     · exact fi.no
   · exact fi.no
noncomputable def fIxX : F2 := fun x y S => match asDic S x with
 | some kvs => match y with
   | .v (.tup ks) => if isKey (.tup ks) = true then (dget kvs (.tup ks)).map fun w => (w, S) else none
   | _ => none
 | none => fIx x y S
theorem xq_ixX (hu : X.A.units + 20 < cLine) : IxR X (liftOp (bx X cl) fIxX) := by
 intro value slice pins s σ H x y v u Q I rx ry ⟨ι, F, S, a, b, rl, za, zb, fi⟩ hsl
 unfold fIxX at fi
 cases q : asDic S a with
 | none => rw [q] at fi; exact xq_ix value slice pins s σ H x y v u Q I rx ry ⟨ι, F, S, a, b, rl, za, zb, fi⟩ hsl
 | some kvs =>
   rw [q] at fi
   simp only at fi
   split at fi
   · rename_i ks
     split at fi
     · rename_i hk
       obtain ⟨nk, e, d⟩ := nkey_of hk
       obtain ⟨kb, rfl, zk⟩ := repu_tup zb
       obtain ⟨p, es, rfl, hp, hz, rk⟩ := asDic_ok rl za q
       obtain ⟨hd, hs⟩ := dic_h I hp rk
       cases rx
       cases ry
       rcases at_get e rk with ⟨b', u', v', w', h1, h2, h3, h4⟩ | ⟨h1, h2⟩
       · rw [h2] at fi
         refine PyProof.Rows.tail_any hd.typeIs PySem.F.slot_dict_getitem.lookup (getItem_keyed (kroom hu _ _) ⟨rep_key (u := .ref kb) I zk rfl e, d⟩ ⟨es, hd, rfl⟩ (v := u') (by rw [valueAt_pairsH, h1]; rfl) ⟨v', H, I.tok _, h3, fi.val rl h4⟩) hsl
       · rw [h2] at fi; exact fi.no
     · exact fi.no
   · exact fi.no
noncomputable def fSet : U → U → U → Sto → Option Sto := fun o i v S => match o with
 | .r n => match S[n]? with
   | some (.dic kvs) => (match i with
     | .v (.tup ks) => if isKey (.tup ks) = true ∧ kvs.length < 100000 then some (S.set n (.dic (dput kvs (.tup ks) v))) else none
     | _ => none)
   | some (.lst xs) => (match i with
     | .v (.int j) => (ixN xs.length j).map fun j => S.set n (.lst (xs.set j v))
     | _ => none)
   | _ => none
 | _ => none
noncomputable def sSet (mo mi mv : ME) : MS := fun ρ S => (mv ρ S).st ρ fun v S1 => (mo ρ S1).st ρ fun o S2 => (mi ρ S2).st ρ fun i S3 => match fSet o i v S3 with
 | some S4 => .nx ρ S4
 | none => .er
def liftSet (B : Bx) (f : U → U → U → Sto → Option Sto) : TSet := fun o i v H Q => ∃ ι F S a b c S', Rel B ι F S H ∧ RepU B ι F H o a ∧ RepU B ι F H i b ∧ RepU B ι F H v c ∧ f a b c S = some S' ∧ ∀ H', Evo ι F H ι F H' → Rel B ι F S' H' → Q H'
theorem pq_set (hu : X.A.units + 20 < cLine) : PSet X (liftSet (bx X cl) fSet) := by
 intro pins s σ H ov iv vv ou iu vu Q I ro ri rv ⟨ι, F, S, o, i, v, S', rl, zo, zi, zv, e, h⟩
 unfold fSet at e
 cases zo with
 | v _ => cases e
 | @r n a hn =>
   simp only at e
   cases q : S[n]? with
   | none => rw [q] at e; cases e
   | some c =>
     rw [q] at e
     cases c with
     | dic kvs =>
       simp only at e
       split at e
       · rename_i ks
         split at e
         · rename_i hk
           cases e
           cases ro
           obtain ⟨nk, ek, d⟩ := nkey_of hk.1
           obtain ⟨kb, rfl, zk⟩ := repu_tup zi
           cases ri
           obtain ⟨es, ha, hz, rk⟩ := rl.ok n a _ hn q
           obtain ⟨hd, hs⟩ := dic_h I (.inl ha) rk
           have hl : es.length < 100000 := by rw [paired_len rk]; exact hk.2
           refine wpAny_setItem_heap (hsz := sz (by omega)) (kroom hu _ _) ⟨rep_key (u := .ref kb) I zk rfl ek, d⟩ hd fun h' hm' sb => ?_
           have nf := rl.nf n a _ hn q rfl
           have e0 : Evo ι F H ι F (upd H a (dicO X.prog X.w a (storedH es nk kb vu))) := by
             refine ⟨fun _ _ h => h, fun _ h => h, fun b u f h _ => ?_, fun b xs h => ?_, fun b h => ?_, fun b p u h => by rw [upd_ne (fun z : b = a => by rw [z, ha] at h; cases h)]; exact h, fun b φ f h => rd_ne (fun z : b = a => nf (by rw [← z]; exact f)) h⟩
             · rw [upd_ne (fun z : b = a => nf (by rw [← z]; exact f))]; exact h
             · rw [upd_ne (fun z : b = a => by rw [z, ha] at h; cases h)]; exact h
             · by_cases hb : b = a
               · rw [hb, upd_same]; simp
               · rw [upd_ne hb]; exact h
           have rk' := put_ok (b := kb) ek d rv zv zk rk
           obtain ⟨r2, e2⟩ := rl.write (o := dicO X.prog X.w a (storedH es nk kb vu)) (c' := .dic (dput kvs (.tup ks) v)) hn q rfl (fun xs z => by rw [ha] at z; cases z) nofun (fun p u z => by rw [ha] at z; cases z)
             ⟨storedH es nk kb vu, upd_same, Nat.le_trans (stored_len _ _ _ _) (sz (by omega)), rk'.mono e0⟩
           obtain ⟨o', es', ep', g1, g2, g3, g4, g5, g6⟩ := hm'
           refine ⟨_, I.write (x := a) (e := a) (o := dicO X.prog X.w a (storedH es nk kb vu)) (by rw [ha]; trivial) (.inl rfl) (fun b u hb eb => (sb.2 b hb).trans eb) ⟨o', g1⟩ ?_, h _ e2 r2⟩
           exact ⟨⟨o', es', ep', g1, g2, g3, g4, g6, hs⟩, ⟨o', g1⟩, raw_keep⟩
         · cases e
       · cases e
     | lst xs =>
       simp only at e
       split at e
       · rename_i j
         obtain ⟨j', ej, rfl⟩ := Option.map_eq_some_iff.mp e
         obtain ⟨vs, ha, zz⟩ := rl.ok n a _ hn q
         obtain ⟨r2, e2⟩ := rl.setL hn q ha (paired_set zv j' zz)
         cases zi with
         | v zi =>
           cases zi
           exact set_list pins s σ H _ _ vv ou iu vu Q I ro ri rv ⟨a, vs, j, j', rfl, rfl, ha, by rw [paired_len zz]; exact ej, h _ e2 r2⟩
       · cases e
     | _ => cases e
theorem qs_sub {o i value : Expr} {mo mi mv : ME} {pos' pos : Pos} (hu : X.A.units + 20 < cLine) (ho : QE X cl W o mo) (hi : QE X cl W i mi) (hv : QE X cl W value mv) (hs : swapsWith value (some (.Subscript o i pos')) pos.line X.env = pure false := by rfl) :
   QS X cl W (.Assign [.Subscript o i pos'] value pos) (sSet mo mi mv) := by
 refine ⟨fun pins s σ H D I ⟨ι, F, S, ρ, r, en, ot⟩ => ?_⟩
 refine wpAny_Assign_Subscript (thn (hv.run pins s σ H _ I ⟨ι, F, S, ρ, r, en, ot.st en⟩) fun vu s1 ⟨v, H1, I1, rv, ι1, F1, S1, v', e1, r1, z1, o1⟩ => ?_) hs
 refine thn (ho.run pins s1 σ H1 _ I1 ⟨ι1, F1, S1, ρ, r1, en.mono e1, o1.st (en.mono e1)⟩) fun ou s2 ⟨ov, H2, I2, ro, ι2, F2, S2, o', e2, r2, z2, o2⟩ => ?_
 refine thn (hi.run pins s2 σ H2 _ I2 ⟨ι2, F2, S2, ρ, r2, (en.mono e1).mono e2, o2.st ((en.mono e1).mono e2)⟩) fun iu s3 ⟨iv, H3, I3, ri, ι3, F3, S3, i', e3, r3, z3, o3⟩ => ?_
 cases q : fSet o' i' v' S3 with
 | none => rw [q] at o3; exact o3.elim
 | some S4 =>
   rw [q] at o3
   refine thn (pq_set hu pins s3 σ H3 ov iv v ou iu vu (fun H' => D.nx σ H') I3 ro ri rv ⟨ι3, F3, S3, o', i', v', S4, r3, z2.mono e3, z3, (z1.mono e2).mono e3, q, fun H' e4 r4 => o3 σ ι3 F3 H' e4 r4 ((((en.mono e1).mono e2).mono e3).mono e4)⟩) fun _ s4 ⟨H4, I4, q4⟩ => ?_
   exact ⟨σ, H4, I4, q4⟩
def isDc (S : Sto) (x : U) : Bool := (asDic S x).isSome
noncomputable def fGet : FM := fun o us S => match asDic S o, us with
 | some kvs, [.v (.tup ks), w] => if isKey (.tup ks) = true then some ((dget kvs (.tup ks)).getD w, S) else none
 | some kvs, [.v (.tup ks)] => if isKey (.tup ks) = true then some ((dget kvs (.tup ks)).getD (.v .non), S) else none
 | _, _ => none
theorem mq_get (hu : X.A.units + 20 < cLine) : MtR X "dict.get" (liftM (bx X cl) fGet) := by
 intro pins s σ H x xs v us Q I rx rxs ⟨ι, F, S, a, as, rl, za, zs, fi⟩
 unfold fGet at fi
 split at fi
 · rename_i kvs ks w q
   split at fi
   · rename_i hk
     obtain ⟨nk, ek, d⟩ := nkey_of hk
     obtain ⟨p, es, rfl, hp, hz, rk⟩ := asDic_ok rl za q
     obtain ⟨hd, hs⟩ := dic_h I hp rk
     cases rx
     cases zs with
     | cons z1 zs =>
       cases zs with
       | cons z2 zs =>
         cases zs
         cases rxs with
         | cons r1 rxs =>
           cases rxs with
           | cons r2 rxs =>
             cases rxs
             obtain ⟨kb, rfl, zk⟩ := repu_tup z1
             cases r1
             rcases at_get ek rk with ⟨b', u', v', w', h1, h2, h3, h4⟩ | ⟨h1, h2⟩
             · rw [h2] at fi
               exact getOr_keyed (kroom hu _ _) ⟨rep_key (u := .ref kb) I zk rfl ek, d⟩ hs ⟨es, hd, rfl⟩ ⟨v', H, I.tok _, by rw [valueAt_pairsH, h1]; exact h3, fi.val rl h4⟩
             · rw [h2] at fi
               exact getOr_keyed (kroom hu _ _) ⟨rep_key (u := .ref kb) I zk rfl ek, d⟩ hs ⟨es, hd, rfl⟩ ⟨_, H, I.tok _, by rw [valueAt_pairsH, h1]; exact r2, fi.val rl z2⟩
   · exact fi.no
 · rename_i kvs ks q
   split at fi
   · rename_i hk
     obtain ⟨nk, ek, d⟩ := nkey_of hk
     obtain ⟨p, es, rfl, hp, hz, rk⟩ := asDic_ok rl za q
     obtain ⟨hd, hs⟩ := dic_h I hp rk
     cases rx
     cases zs with
     | cons z1 zs =>
       cases zs
       cases rxs with
       | cons r1 rxs =>
         cases rxs
         obtain ⟨kb, rfl, zk⟩ := repu_tup z1
         cases r1
         rcases at_get ek rk with ⟨b', u', v', w', h1, h2, h3, h4⟩ | ⟨h1, h2⟩
         · rw [h2] at fi
           exact get_keyed (kroom hu _ _) ⟨rep_key (u := .ref kb) I zk rfl ek, d⟩ hs ⟨es, hd, rfl⟩ ⟨v', H, I.tok _, by rw [valueAt_pairsH, h1]; exact h3, fi.val rl h4⟩
         · rw [h2] at fi
           exact get_keyed (kroom hu _ _) ⟨rep_key (u := .ref kb) I zk rfl ek, d⟩ hs ⟨es, hd, rfl⟩ ⟨.non, H, I.tok _, by rw [valueAt_pairsH, h1]; rfl, fi.val rl (.v .non)⟩
   · exact fi.no
 · exact fi.no
theorem qe_dm {o e : Expr} {es : List Expr} {mo : ME} {mA : MA} {f : FM} {name : Str} {id : String} {apos cpos : Pos} (slot : Slot "dict" name id) (hty : typeOf (.builtin id) = pure (.type "method_descriptor")) (hm : MtR X id (liftM (bx X cl) f)) (ho : QE X cl W o mo) (ha : QA X cl W (e :: es) mA)
   (hbase : attributeBase o name X.env (eval o X.env) = eval o X.env := by rfl)
   (hfew : ((backTo cpos (starEach (e :: es) X.env)).all (fun x => !x.1) && (backToKw cpos (keywordEach [] X.env)).all (fun x => x.1.isSome)
     && decide ((e :: es).length + ([] : List Keyword).length + (if ([] : List Keyword).isEmpty then 0 else 1) < 30)) = true := by rfl)
   (hline : (apos.endLine == cpos.line) = true := by rfl) (hs : starEach (e :: es) X.env = (false, eval e X.env) :: starEach es X.env := by rfl) (hplain : (backTo cpos (starEach es X.env)).any (·.1) = false := by rfl) :
   QE X cl W (.Call (.Attribute o name apos) (e :: es) [] cpos) (eMtT isDc f mo mA) := by
 refine ⟨fun pins s σ H Q I ⟨ι, F, S, ρ, r, en, ot⟩ => ?_⟩
 refine wpAny_Call_method hbase hfew hline PySem.F.plainAttrs_dict slot hty (thn (ho.run pins s σ H _ I ⟨ι, F, S, ρ, r, en, ot.bind⟩) fun u s1 ⟨x, H1, I1, rx, ι1, F1, S1, x', e1, r1, z1, o1⟩ => ?_)
 split at o1
 · rename_i hc
   unfold isDc at hc
   cases q : asDic S1 x' with
   | none => rw [q] at hc; cases hc
   | some kvs =>
     obtain ⟨p, ens, rfl, hp, hz, rk⟩ := asDic_ok r1 z1 q
     obtain ⟨hd, hsm⟩ := dic_h I1 hp rk
     obtain rfl : u = Value.ref p := rx
     refine ⟨hd.typeIs, fun b eb => ?_, ?_⟩
     · cases eb
       obtain ⟨ob, _, _, g1, g2, _⟩ := hd
       exact ⟨ob, g1, g2.2.1⟩
     · have hA := PA.run ha cpos pins s1 σ H1 _ I1 ⟨ι1, F1, S1, ρ, r1, en.mono e1, o1.bind⟩
       rw [hs] at hA ⊢
       refine Calls.callWith_builtin (by show (false || (backTo cpos (starEach es X.env)).any (·.1)) = false; rw [hplain] <;> rfl) (Calls.evalArgs_plain ?_)
       exact thn hA fun us s2 ⟨vs, H2, I2, r2, ι2, F2, S2, y', e2, rr2, z2, o2⟩ => hm pins s2 σ H2 (.ref p) vs (.ref p) us Q I2 rfl r2 ⟨ι2, F2, S2, x', y', rr2, z1.mono e2, z2, o2.fin⟩
 · exact o1.elim
end
end Pu
namespace Pu
open PySem L2
open PyProof.Rows hiding St
def WI (W : WX) : Prop := ∀ cls d σ σ' H, W cls d σ H → W cls d σ' H
theorem wi_d (E : XK) : WI (Wd E) := fun _ _ _ _ _ h => h
abbrev E1 (W : WX) : XK := fun cls d H => W cls d [] H
theorem passW {X : Cx} {W : WX} (tk : L2N.Takes X W) (wi : WI W) : Passes (L2N.CX X.prog X.w) X (E1 W) := fun pins σ H s e s' I c => L2N.passes_call tk (fun cls d σ H h => wi _ _ _ _ _ h) pins σ H s e s' I c
section
variable {B : Bx} {W : WX} {σ : L2.St} {ι : List Addr} {F : Addr → Prop} {H : Hp}
theorem out_e {β α : Type} {rep : List Addr → (Addr → Prop) → Hp → β → α → Prop} {Q : β → Hp → Prop} {r : R α} (wi : WI W) (h : Out B W σ ι F H rep Q r) : Out B (fun cls d _ H' => E1 W cls d H') [] ι F H rep Q r := by
 cases r with
 | ok a S' => exact h
 | ex c fs S' => exact fun dx vs ι' F' H' e r hx z => wi _ _ _ _ _ (h dx vs ι' F' H' e r hx z)
 | er => exact h
end
def eMake (c n : Nat) (mf : List U → Sto → R U) (args : List U) (S : Sto) : R U :=
 if args.length + 1 = n then (mf (.r S.length :: args) (S ++ [.ins c []])).bind fun u S1 => match u with
   | .v .non => .ok (.r S.length) S1
   | _ => .er
 else .er
section
variable {X : Cx} {cl : Nat → Addr} {W : WX} {k n : Nat} {f C : Addr} {fd : FuncData} {ps ks : List Str} {mf : List U → Sto → R U} {x m : Str} {p pos apos : Pos} {e o : Expr} {es : List Expr} {mo : ME} {mA mK : MA} {kws : List Keyword}
theorem make_sp {c : Nat} {σ : L2.St} {ι : List Addr} {F : Addr → Prop} {H : Hp} {S : Sto} {Q : VK} {vs : List V} {us : List U} (wi : WI W) (r : Rel (bx X cl) ι F S H) (z : RepUs (bx X cl) ι F H vs us)
   (o : Out (bx X cl) W σ ι F H (RepU (bx X cl)) Q (eMake c n mf us S)) : ∀ x dx, H x = none → H dx = none → dx ≠ x → SpM (bx X cl) n mf (.ref x :: vs) (upd (upd H dx (.own x)) x (.ins (cl c) dx [])) (fun v H2 => v = .non ∧ Q (.ref x) H2) (E1 W) := by
 intro x dx hx hdx ne
 unfold eMake at o
 split at o
 · rename_i hl
   have hx' : (upd H dx (.own x)) x = none := by rw [upd_ne (Ne.symm ne)]; exact hx
   have e1 : Evo ι F H ι F (upd H dx (.own x)) := Evo.new hdx
   have e2 : Evo ι F (upd H dx (.own x)) (ι ++ [x]) F (upd (upd H dx (.own x)) x (.ins (cl c) dx [])) := Evo.newS hx'
   have r2 : Rel (bx X cl) (ι ++ [x]) F (S ++ [.ins c []]) (upd (upd H dx (.own x)) x (.ins (cl c) dx [])) :=
     (r.new hdx).newS hx' nofun ⟨dx, [], upd_same, by rw [upd_ne ne, upd_same], fun z => r.fthere dx z hdx, .nil⟩
   refine ⟨by rw [List.length_cons, paired_len z]; exact hl, ι ++ [x], F, S ++ [.ins c []], .r S.length :: us, r2, .cons (.r (by rw [← r.len]; simp)) ((z.mono e1).mono e2), ?_⟩
   have o2 := Out.shift (e1.trans e2) (out_e wi o)
   refine (o2.bind).mono fun v H3 ⟨ι3, F3, S3, u, e3, r3, z3, o3⟩ => ?_
   split at o3
   · have hv : v = .non := (repu_non z3).mpr rfl
     exact ⟨hv, o3 _ ι3 F3 H3 Evo.refl r3 (.r (e3.pre _ _ (by rw [← r.len]; simp)))⟩
   · exact o3.elim
 · exact o.elim
def eMk (c n : Nat) (mf : List U → Sto → R U) (dds : List U) (a : MA) : ME := fun ρ S => (a ρ S).bind fun us S1 => eMake c n mf (us ++ dds) S1
def QK (X : Cx) (cl : Nat → Addr) (W : WX) (kws : List Keyword) (m : MA) : Prop := PK X kws (liftA (bx X cl) W m)
def GRel (gV : List V → List V → List V) (gU : List U → List U → List U) : Prop := ∀ (B : Bx) (ι : List Addr) (F : Addr → Prop) (H : Hp) (vs zs : List V) (us ws : List U), RepUs B ι F H vs us → RepUs B ι F H zs ws → RepUs B ι F H (gV vs zs) (gU us ws)
def eMkK (c n np nk : Nat) (mf : List U → Sto → R U) (gU : List U → List U → List U) (a b : MA) : ME := fun ρ S => (a ρ S).bind fun us S1 => (b ρ S1).bind fun ws S2 => if us.length = np ∧ ws.length = nk then eMake c n mf (gU us ws) S2 else .er
def eMeth (c n : Nat) (m : Str) (mf : List U → Sto → R U) (dds : List U) (mo : ME) (a : MA) : ME := fun ρ S => (mo ρ S).bind fun x S1 => match asIns S1 x with
 | some (c', fs) => if c' = c ∧ fs.lookup m = none then (a ρ S1).bind fun us S2 => if us.length + dds.length + 1 = n then mf (x :: (us ++ dds)) S2 else .er else .er
 | none => .er
def eCallO (c n : Nat) (mf : List U → Sto → R U) (mo : ME) (a : MA) : ME := fun ρ S => (mo ρ S).bind fun x S1 => (match asIns S1 x with
 | some _ => .ok () S1
 | none => .er : R Unit).bind fun _ S1 => (a ρ S1).bind fun us S2 => match asIns S2 x with
 | some (c', _) => if c' = c ∧ us.length + 1 = n then mf (x :: us) S2 else .er
 | none => .er
def tyNm (S : Sto) : U → Option String
 | .v .non => some "NoneType"
 | .v (.bl _) => some "bool"
 | .v (.int _) => some "int"
 | .v (.str _) => some "str"
 | .v (.tup _) => some "tuple"
 | .v (.lst _) => some "list"
 | .v (.frl _) => some "list"
 | .r n => match S[n]? with
   | some (.lst _) => some "list"
   | _ => none
 | _ => none
theorem tyNm_ok {ι : List Addr} {F : Addr → Prop} {H : Hp} {S : Sto} {v : V} {u : U} {t : String} (r : Rel (bx X cl) ι F S H) (z : RepU (bx X cl) ι F H v u) (h : tyNm S u = some t) : TyX X.K H v (.type t) := by
 cases z with
 | v z =>
   cases z with
   | non => cases h; exact .base .non
   | bl b => cases h; exact .base (.bl b)
   | int i => cases h; exact .base (.int i)
   | str y _ => cases h; exact .base (.str y)
   | tup e _ => cases h; obtain ⟨o, _, e⟩ := e; exact .fTuple e
   | lst _ e _ => cases h; exact .base (.lst e)
   | frl e _ =>
     cases h
     rcases e with ⟨_, o, e⟩ | ⟨o, its, n, e1, e2, _⟩
     · exact .base (.frz e)
     · exact .kList e1 e2
   | _ => cases h
 | @r n a e =>
   unfold tyNm at h
   simp only at h
   cases q : S[n]? with
   | none => rw [q] at h; cases h
   | some c =>
     rw [q] at h
     have ok := r.ok n a c e q
     cases c with
     | lst ys =>
       cases h
       obtain ⟨vs, h1, h2⟩ := ok
       exact .base (.lst h1)
     | _ => cases h
def fIsi : FA := fun us S => match us with
 | [u, .v (.ty T)] => (tyNm S u).bind fun t => (kitB t T).map fun b => (.v (.bl b), S)
 | _ => none
theorem cq_isi : CallR X (.builtin "isinstance") (liftC (bx X cl) fIsi) := by
 intro pins s σ H xs us Q I rv ⟨ι, F, S, as, rl, zs, fi⟩
 unfold fIsi at fi
 split at fi
 · rename_i u T
   cases zs with
   | cons z1 z2 =>
     cases z2 with
     | cons z2 z3 =>
       cases z3
       cases z2 with
       | v z2 =>
         cases z2 with
         | ty _ =>
           cases q : tyNm S u with
           | none => rw [q] at fi; exact fi.no
           | some t =>
             rw [q] at fi
             simp only [Option.bind_some] at fi
             cases q2 : kitB t T with
             | none => rw [q2] at fi; exact fi.no
             | some b =>
               rw [q2] at fi
               exact call_isi pins s σ H _ us Q I rv ⟨_, _, _, _, b, rfl, .ty T, tyNm_ok rl z1 q, kit_ty q2, fi.val rl (.v (.bl b))⟩
 · exact fi.no
@[simp] theorem kB_ii : kitB "int" "int" = some true := by decide +kernel
@[simp] theorem kB_ib : kitB "int" "bool" = some false := by decide +kernel
@[simp] theorem kB_tt : kitB "tuple" "tuple" = some true := by decide +kernel
end
end Pu
namespace Pu
open PySem L2
open PyProof.Rows hiding St
theorem reps_ints {B : Bx} {F : Addr → Prop} {H : Hp} : ∀ ns : List Int, Reps B F H (ns.map V.int) (ns.map D.int)
 | [] => .nil
 | n :: ns => .cons (.int n) (reps_ints ns)
theorem law_start {P : Program} {w : World} {K : PySem.W.Frag} {cl : Nat → Addr} {H : Hp} {a : Addr} {ns : List Int} {mf : List U → Sto → R U} (hO : Only H) (hS : SqL K H a (ns.map V.int)) (h : ∃ S', mf [.v (.frl (ns.map D.int))] [] = .ok (.v (.bl true)) S') :
   SpM ⟨P, w, K, cl⟩ 1 mf [.ref a] H (fun v _ => v = .bl true) fun _ _ _ => False := by
 obtain ⟨S', h⟩ := h
 have lk : Lk K (fun b => H b ≠ none) H a (ns.map V.int) := by
   rcases hS with (h1 | ⟨o, h1⟩) | h1
   · rcases hO a with h2 | ⟨o, xs, h2⟩
     · rw [h2] at h1; cases h1
     · rw [h2] at h1; cases h1
   · exact .inl ⟨by show H a ≠ none; rw [h1]; simp, o, h1⟩
   · exact .inr h1
 refine ⟨rfl, [], fun b => H b ≠ none, [], [.v (.frl (ns.map D.int))], ⟨rfl, List.nodup_nil, by simp, by simp, by simp, fun _ h => h, by simp⟩, .cons (.v (.frl lk (reps_ints ns))) .nil, ?_⟩
 rw [h]
 intro v ι' F' H' _ _ z
 cases z with
 | v z => cases z; rfl
theorem cx_no {P : Program} {w : World} (H : Hp) (s : Shared) (e : Value) (s' : Shared) (h : L2N.CX P w [] H s (fun _ _ _ => False) e s') : False := by
 obtain ⟨_, _, _, _, _, _, _, _, _, _, _, _, h⟩ := h
 exact h
theorem law_end {l : PySem.W.OpenLaw} {n k : Nat} {q : Program} {loose : List Str} {XP : (Str → Option Value) → Heap → Prop} {YP : World → Heap → Prop} {d : DefRec} {x : Str} {mf : List U → Sto → R U} {cl : PySem.W.Frag → Nat → Addr}
   (hn : l.most = some n) (hn2 : n ≤ sizeLine) (hdf : d.params.defaults = []) (hr : Room k callerA) (pu : ∀ ns : List Int, ns.length ≤ n → ∃ S', mf [.v (.frl (ns.map D.int))] [] = .ok (.v (.bl true)) S')
   (hF : ∀ (w : World) (mg : Str → Option Value) (fa : Addr) (h : Heap), YP w h → h.Ns mainGlobals mg → mg d.name = some (.ref fa) →
     ∃ (K : PySem.W.Frag) (fd : FuncData), K.In h ∧ (∀ (s : Shared) (u : Value), BindsTo s fd ⟨[u], []⟩ [(x, u)]) ∧ ∀ base : Heap, FnOk l.prog w K mg base (L2N.CX l.prog w) k fa fd [x] (SpM ⟨l.prog, w, K, cl K⟩ 1 mf)) :
   PySem.W.WalkO q loose XP YP l.row.toRowW d [] (fun f vs => PySem.call f vs) := by
 refine Att.attach_call hn hdf fun w s₀ s₁ mg mb fa o pm cd doc a vs ns G Y ho hd hcd hmg hobj hints hlen hg => ?_
 obtain ⟨K, fd, KX, hb, hf⟩ := hF w mg fa _ Y G.T.g hmg
 exact law_call KX G.T.g G.T.b G.T.builtins G.T.nolimit hg hobj hints (Nat.le_trans hlen hn2) hr (fun base _ _ => hf base) hb (fun H hO hS => law_start hO hS (pu ns hlen)) fun H e s' => cx_no H s₁ e s'
theorem funD_same {K : PySem.W.Frag} {x qual x2 q2 : Str} {params p2 : Arguments} {body b2 : List Stmt} {scope sc2 : Scope} {dvs dvs2 : List V} {kws kws2 : List (Str × V)} {f : Addr} {fd fd2 : FuncData} (F : FunD K x qual params body scope dvs kws f fd) (G : FunD K x2 q2 p2 b2 sc2 dvs2 kws2 f fd2) : fd = fd2 := by
 obtain ⟨oc, od, dV, kV, doc, pm, an, cdv, ct, osl, _, lk, _⟩ := F.ex
 obtain ⟨oc', od', dV', kV', doc', pm', an', cdv', ct', osl', _, lk', _⟩ := G.ex
 rw [lk] at lk'
 cases lk'
 rfl
end Pu
namespace Pu
open PySem
structure Post where
 nx : Env' → Sto → Prop := fun _ _ => False
 rt : U → Sto → Prop := fun _ _ => False
 bk : Env' → Sto → Prop := fun _ _ => False
 ct : Env' → Sto → Prop := fun _ _ => False
 ex : Nat → List (Str × U) → Env' → Sto → Prop := fun _ _ _ _ => False
def wps (r : RS) (Q : Post) : Prop := match r with
 | .nx ρ S => Q.nx ρ S
 | .rt u S => Q.rt u S
 | .bk ρ S => Q.bk ρ S
 | .ct ρ S => Q.ct ρ S
 | .ex c fs ρ S => Q.ex c fs ρ S
 | .er => False
abbrev XP := Nat → List (Str × U) → Sto → Prop
def wpr {α : Type} (r : R α) (Q : α → Sto → Prop) (X : XP) : Prop := match r with
 | .ok a S => Q a S
 | .ex c fs S => X c fs S
 | .er => False
def wpo {α : Type} (o : Option α) (Q : α → Prop) : Prop := match o with
 | some a => Q a
 | none => False
def wpO (o : Option (U × Sto)) (Q : U → Sto → Prop) : Prop := match o with
 | some p => Q p.1 p.2
 | none => False
def getv (ρ : Env') (i : Nat) (k : U → Prop) : Prop := match ρ[i]? with
 | some (some u) => k u
 | _ => False
section
variable {α β : Type} {Q : Post} {q : U → Sto → Prop} {X : XP} {ρ : Env'} {S : Sto} {k : U → Prop}
@[simp ↓] theorem getv_0 (u : U) : getv (some u :: ρ) 0 k = k u := id rfl
@[simp ↓] theorem getv_s (x : Option U) (i : Nat) : getv (x :: ρ) (i + 1) k = getv ρ i k := id rfl
@[simp ↓] theorem wpo_some (a : α) (q : α → Prop) : wpo (some a) q = q a := id rfl
@[simp ↓] theorem wpo_none (q : α → Prop) : wpo none q = False := id rfl
@[simp ↓] theorem wpO_some (u : U) : wpO (some (u, S)) q = q u S := id rfl
@[simp ↓] theorem wpO_none : wpO none q = False := id rfl
@[simp ↓] theorem wpr_ok (a : α) (q : α → Sto → Prop) : wpr (.ok a S) q X = q a S := id rfl
@[simp ↓] theorem wpr_ex (c : Nat) (fs : List (Str × U)) (q : α → Sto → Prop) : wpr (.ex c fs S) q X = X c fs S := id rfl
@[simp ↓] theorem wpr_er (q : α → Sto → Prop) : wpr .er q X = False := id rfl
@[simp ↓] theorem wpr_ofO (o : Option (U × Sto)) : wpr (ofO o) q X = wpO o q := by cases o <;> rfl
theorem wpr_bind (r : R α) (f : α → Sto → R β) (q : β → Sto → Prop) : wpr (r.bind f) q X = wpr r (fun a S => wpr (f a S) q X) X := by cases r <;> rfl
theorem wps_st (r : R α) (f : α → Sto → RS) : wps (r.st ρ f) Q = wpr r (fun a S => wps (f a S) Q) (fun c fs S => Q.ex c fs ρ S) := by cases r <;> rfl
theorem wpr_mono {r : R α} {q q' : α → Sto → Prop} {X X' : XP} (h : wpr r q X) (k : ∀ a S, q a S → q' a S) (kx : ∀ c fs S, X c fs S → X' c fs S) : wpr r q' X' := by cases r with
 | ok a S => exact k a S h
 | ex c fs S => exact kx c fs S h
 | er => exact h
theorem wpr_iff {r : R α} {q : α → Sto → Prop} : wpr r q (fun _ _ _ => False) ↔ ∃ a S, r = .ok a S ∧ q a S := by
 cases r with
 | ok a S => exact ⟨fun h => ⟨a, S, rfl, h⟩, fun ⟨_, _, e, h⟩ => by cases e; exact h⟩
 | ex c fs S => exact ⟨fun h => h.elim, fun ⟨_, _, e, h⟩ => by cases e⟩
 | er => exact ⟨fun h => h.elim, fun ⟨_, _, e, h⟩ => by cases e⟩
@[simp ↓] theorem w_var (i : Nat) : wpr (eVar i ρ S) q X = getv ρ i (fun u => q u S) := by
 unfold eVar getv
 split <;> rename_i h <;> simp_all [wpr]
@[simp ↓] theorem w_c (d : D) : wpr (eC d ρ S) q X = q (.v d) S := id rfl
@[simp ↓] theorem w_op (f : F2) (a b : ME) : wpr (eOp f a b ρ S) q X = wpr (a ρ S) (fun x S1 => wpr (b ρ S1) (fun y S2 => wpO (f x y S2) q) X) X := by
 simp only [eOp, wpr_bind, wpr_ofO]
@[simp ↓] theorem w_un (f : F1) (a : ME) : wpr (eUn f a ρ S) q X = wpr (a ρ S) (fun x S1 => wpO (f x S1) q) X := by simp only [eUn, wpr_bind, wpr_ofO]
@[simp ↓] theorem w_nil (q : List U → Sto → Prop) : wpr (aNil ρ S) q X = q [] S := id rfl
@[simp ↓] theorem w_cons (a : ME) (r : MA) (q : List U → Sto → Prop) : wpr (aCons a r ρ S) q X = wpr (a ρ S) (fun x S1 => wpr (r ρ S1) (fun xs S2 => q (x :: xs) S2) X) X := by simp only [aCons, wpr_bind, wpr_ok]
@[simp ↓] theorem w_cb (f : FA) (a : MA) : wpr (eCB f a ρ S) q X = wpr (a ρ S) (fun xs S1 => wpO (f xs S1) q) X := by simp only [eCB, wpr_bind, wpr_ofO]
@[simp ↓] theorem w_mtT (chk : Sto → U → Bool) (f : FM) (o : ME) (a : MA) : wpr (eMtT chk f o a ρ S) q X = wpr (o ρ S) (fun x S1 => chk S1 x = true ∧ wpr (a ρ S1) (fun xs S2 => wpO (f x xs S2) q) X) X := by
 simp only [eMtT, wpr_bind]
 congr 1; funext x S1
 by_cases h : chk S1 x = true
 · simp only [h, if_true, wpr_bind, wpr_ofO, true_and]
 · rw [if_neg h]; simp [h]
@[simp ↓] theorem w_sl (f : U → Option Int → Option Int → Sto → Option (U × Sto)) (m : ME) (lo hi : MO) : wpr (eSl f m lo hi ρ S) q X = wpr (m ρ S) (fun x S1 => wpr (lo ρ S1) (fun l S2 => wpr (hi ρ S2) (fun h S3 => wpO (f x l h S3) q) X) X) X := by
 simp only [eSl, wpr_bind, wpr_ofO]
@[simp ↓] theorem w_oNone (q : Option Int → Sto → Prop) : wpr (oNone ρ S) q X = q none S := id rfl
def isInt (u : U) (k : Int → Prop) : Prop := match u with
 | .v (.int i) => k i
 | _ => False
@[simp ↓] theorem isInt_i (i : Int) (k : Int → Prop) : isInt (.v (.int i)) k = k i := id rfl
@[simp ↓] theorem w_oSome (m : ME) (q : Option Int → Sto → Prop) : wpr (oSome m ρ S) q X = wpr (m ρ S) (fun u S1 => isInt u fun i => q (some i) S1) X := by
 simp only [oSome, wpr_bind]
 congr 1; funext u S1
 unfold isInt
 split
 · rfl
 · first
     | rfl
     | (split <;> first | rfl | simp_all)
def isBl (u : U) (k : Bool → Prop) : Prop := match u with
 | .v (.bl b) => k b
 | _ => False
@[simp ↓] theorem isBl_b (b : Bool) (k : Bool → Prop) : isBl (.v (.bl b)) k = k b := id rfl
theorem wpr_isB (u : U) (q : Bool → Sto → Prop) : wpr (ofO (isB u S)) q X = isBl u fun b => q b S := by
 unfold isB isBl
 split
 · rfl
 · first
     | rfl
     | (split <;> first | rfl | simp_all)
@[simp ↓] theorem w_tB (m : ME) (q : Bool → Sto → Prop) : wpr (tB m ρ S) q X = wpr (m ρ S) (fun u S1 => isBl u fun b => q b S1) X := by simp only [tB, wpr_bind, wpr_isB]
@[simp ↓] theorem w_tYes (q : Bool → Sto → Prop) : wpr (tYesM ρ S) q X = q true S := id rfl
theorem wpr_ite (c : Prop) [Decidable c] (a b : R α) (q : α → Sto → Prop) : wpr (if c then a else b) q X = if c then wpr a q X else wpr b q X := by split <;> rfl
theorem wps_ite (c : Prop) [Decidable c] (a b : RS) : wps (if c then a else b) Q = if c then wps a Q else wps b Q := by split <;> rfl
@[simp ↓] theorem w_tAnd (a b : MT) (q : Bool → Sto → Prop) : wpr (tAnd a b ρ S) q X = wpr (a ρ S) (fun x S1 => if x = true then wpr (b ρ S1) q X else q false S1) X := by simp only [tAnd, wpr_bind, wpr_ite, wpr_ok]
@[simp ↓] theorem w_tOr (a b : MT) (q : Bool → Sto → Prop) : wpr (tOr a b ρ S) q X = wpr (a ρ S) (fun x S1 => if x = true then q true S1 else wpr (b ρ S1) q X) X := by simp only [tOr, wpr_bind, wpr_ite, wpr_ok]
@[simp ↓] theorem w_tNot (a : MT) (q : Bool → Sto → Prop) : wpr (tNot a ρ S) q X = wpr (a ρ S) (fun x S1 => q (!x) S1) X := by simp only [tNot, wpr_bind, wpr_ok]
@[simp ↓] theorem w_eAnd (a b : ME) : wpr (eAnd a b ρ S) q X = wpr (a ρ S) (fun u S1 => isBl u fun x => if x = true then wpr (b ρ S1) q X else q (.v (.bl false)) S1) X := by simp only [eAnd, wpr_bind, wpr_isB, wpr_ite, wpr_ok]
@[simp ↓] theorem w_eNot (a : ME) : wpr (eNot a ρ S) q X = wpr (a ρ S) (fun u S1 => isBl u fun x => q (.v (.bl (!x))) S1) X := by simp only [eNot, wpr_bind, wpr_isB, wpr_ok]
@[simp ↓] theorem w_call (n : Nat) (mf : List U → Sto → R U) (dds : List U) (a : MA) : wpr (eCall n mf dds a ρ S) q X = wpr (a ρ S) (fun us S1 => us.length + dds.length = n ∧ wpr (mf (us ++ dds) S1) q X) X := by
 simp only [eCall, wpr_bind, wpr_ite, wpr_er]
 congr 1; funext us S1
 by_cases h : us.length + dds.length = n <;> simp [h]
def isIns (S : Sto) (u : U) (k : Nat → List (Str × U) → Prop) : Prop := match asIns S u with
 | some p => k p.1 p.2
 | none => False
@[simp ↓] theorem w_make (c n : Nat) (mf : List U → Sto → R U) (us : List U) : wpr (eMake c n mf us S) q X = (us.length + 1 = n ∧ wpr (mf (.r S.length :: us) (S ++ [.ins c []])) (fun u S1 => u = .v .non ∧ q (.r S.length) S1) X) := by
 unfold eMake
 by_cases h : us.length + 1 = n
 · simp only [h, if_true, wpr_bind, true_and]
   congr 1; funext u S1
   split <;> simp_all
 · simp [h]
@[simp ↓] theorem w_mk (c n : Nat) (mf : List U → Sto → R U) (dds : List U) (a : MA) : wpr (eMk c n mf dds a ρ S) q X = wpr (a ρ S) (fun us S1 => wpr (eMake c n mf (us ++ dds) S1) q X) X := by simp only [eMk, wpr_bind]
@[simp ↓] theorem s_next : wps (sNext ρ S) Q = Q.nx ρ S := id rfl
@[simp ↓] theorem s_seq (a b : MS) : wps (sSeq a b ρ S) Q = wps (a ρ S) { Q with nx := fun ρ S => wps (b ρ S) Q } := by unfold sSeq; cases a ρ S <;> rfl
@[simp ↓] theorem s_asg (m : ME) (g : MG) : wps (sAsg m g ρ S) Q = wpr (m ρ S) (fun u S1 => wpo (g u ρ) fun ρ' => Q.nx ρ' S1) (fun c fs S => Q.ex c fs ρ S) := by
 simp only [sAsg, wps_st]
 congr 1; funext u S1
 cases g u ρ <;> rfl
@[simp ↓] theorem s_expr (m : ME) : wps (sExpr m ρ S) Q = wpr (m ρ S) (fun _ S1 => Q.nx ρ S1) (fun c fs S => Q.ex c fs ρ S) := by simp only [sExpr, wps_st]; rfl
@[simp ↓] theorem s_ret (m : ME) : wps (sRet m ρ S) Q = wpr (m ρ S) (fun u S1 => Q.rt u S1) (fun c fs S => Q.ex c fs ρ S) := by simp only [sRet, wps_st]; rfl
@[simp ↓] theorem s_if (c : MT) (a b : MS) : wps (sIf c a b ρ S) Q = wpr (c ρ S) (fun x S1 => if x = true then wps (a ρ S1) Q else wps (b ρ S1) Q) (fun c fs S => Q.ex c fs ρ S) := by simp only [sIf, wps_st, wps_ite]
@[simp ↓] theorem w_gName (i : Nat) (u : U) (q : Env' → Prop) : wpo (gName i u ρ) q = q (ρ.set i (some u)) := id rfl
@[simp ↓] theorem w_gTup (n : Nat) (gs : MGs) (ds : List D) (q : Env' → Prop) : wpo (gTup n gs (.v (.tup ds)) ρ) q = (ds.length = n ∧ wpo (gs (ds.map U.v) ρ) q) := by
 unfold gTup; by_cases h : ds.length = n <;> simp [h]
@[simp ↓] theorem w_gNil (q : Env' → Prop) : wpo (gNil [] ρ) q = q ρ := id rfl
@[simp ↓] theorem w_gCons (g : MG) (gs : MGs) (u : U) (us : List U) (q : Env' → Prop) : wpo (gCons g gs (u :: us) ρ) q = wpo (g u ρ) fun ρ1 => wpo (gs us ρ1) q := by
 show wpo ((g u ρ).bind _) q = _
 cases g u ρ <;> rfl
def wpS (o : Option Sto) (q : Sto → Prop) : Prop := match o with
 | some S => q S
 | none => False
@[simp ↓] theorem wpS_some (q : Sto → Prop) : wpS (some S) q = q S := id rfl
@[simp ↓] theorem wpS_none (q : Sto → Prop) : wpS none q = False := id rfl
@[simp ↓] theorem s_set (mo mi mv : ME) : wps (sSet mo mi mv ρ S) Q = wpr (mv ρ S) (fun v S1 => wpr (mo ρ S1) (fun o S2 => wpr (mi ρ S2) (fun i S3 => wpS (fSet o i v S3) fun S4 => Q.nx ρ S4) (fun c fs S => Q.ex c fs ρ S)) (fun c fs S => Q.ex c fs ρ S)) (fun c fs S => Q.ex c fs ρ S) := by
 simp only [sSet, wps_st]
 congr 1; funext v S1; congr 1; funext o S2; congr 1; funext i S3
 cases fSet o i v S3 <;> rfl
def putFld (cs : List Nat) (f : Str) (u x : U) (S : Sto) (k : Sto → Prop) : Prop := match x with
 | .r n => match S[n]? with
   | some (.ins c fs) => (c ∈ cs ∧ fs.length < 900) ∧ k (S.set n (.ins c (putU f u fs)))
   | _ => False
 | _ => False
@[simp ↓] theorem s_fld (cs : List Nat) (f : Str) (mo mv : ME) : wps (sFld cs f mo mv ρ S) Q = wpr (mv ρ S) (fun u S1 => wpr (mo ρ S1) (fun x S2 => putFld cs f u x S2 fun S3 => Q.nx ρ S3) (fun c fs S => Q.ex c fs ρ S)) (fun c fs S => Q.ex c fs ρ S) := by
 simp only [sFld, wps_st]
 congr 1; funext u S1; congr 1; funext x S2
 unfold putFld
 cases x with
 | v d => rfl
 | r n =>
   simp only
   cases S2[n]? with
   | none => rfl
   | some c =>
     cases c with
     | ins c fs => by_cases h : c ∈ cs ∧ fs.length < 900 <;> simp [h, wps]
     | _ => rfl
@[simp ↓] theorem s_for (it : MI) (g : MG) (body : MS) : wps (sFor it g body ρ S) Q = wpr (it ρ S) (fun iv S1 => wps (forGo iv.src (iv.src.bind fun n => S1[n]?) g body iv.items ρ S1) Q) (fun c fs S => Q.ex c fs ρ S) := by simp only [sFor, wps_st]
theorem for_go (src : Option Nat) (c0 : Option Cell) (g : MG) (body : MS) (items : List U) (I : Nat → Env' → Sto → Prop) : ∀ (n i : Nat) (ρ : Env') (S : Sto), i + n = items.length → I i ρ S →
   (∀ (i : Nat) (u : U) (ρ : Env') (S : Sto), items[i]? = some u → I i ρ S → wpo (g u ρ) fun ρ1 => wps (body ρ1 S) { nx := fun ρ2 S2 => srcOk src c0 S2 ∧ I (i + 1) ρ2 S2, ct := fun ρ2 S2 => srcOk src c0 S2 ∧ I (i + 1) ρ2 S2, bk := Q.nx, rt := Q.rt, ex := Q.ex }) →
   (∀ ρ S, I items.length ρ S → Q.nx ρ S) → wps (forGo src c0 g body (items.drop i) ρ S) Q
 | 0, i, ρ, S, hl, h0, hs, hn => by
   rw [List.drop_eq_nil_of_le (by omega)]
   exact hn ρ S (by have : i = items.length := by omega
                    rw [← this]; exact h0)
 | n + 1, i, ρ, S, hl, h0, hs, hn => by
   have hi : i < items.length := by omega
   rw [List.drop_eq_getElem_cons hi]
   have h1 := hs i items[i] ρ S (List.getElem?_eq_getElem hi) h0
   have ih := fun ρ S h => for_go src c0 g body items I n (i + 1) ρ S (by omega) h hs hn
   unfold forGo
   cases q : g items[i] ρ with
   | none => rw [q] at h1; exact h1.elim
   | some ρ1 =>
     rw [q] at h1
     simp only [wpo_some] at h1 ⊢
     cases qb : body ρ1 S with
     | nx ρ2 S2 =>
       rw [qb] at h1
       simp only
       have h2 : srcOk src c0 S2 ∧ I (i + 1) ρ2 S2 := h1
       rw [if_pos h2.1]
       exact ih ρ2 S2 h2.2
     | ct ρ2 S2 =>
       rw [qb] at h1
       simp only
       have h2 : srcOk src c0 S2 ∧ I (i + 1) ρ2 S2 := h1
       rw [if_pos h2.1]
       exact ih ρ2 S2 h2.2
     | bk ρ2 S2 => rw [qb] at h1; exact h1
     | rt u S2 => rw [qb] at h1; exact h1
     | ex c fs ρ2 S2 => rw [qb] at h1; exact h1
     | er => rw [qb] at h1; exact h1.elim
theorem for_inv {src : Option Nat} {c0 : Option Cell} {g : MG} {body : MS} {items : List U} (I : Nat → Env' → Sto → Prop) (h0 : I 0 ρ S)
   (hs : ∀ (i : Nat) (u : U) (ρ : Env') (S : Sto), items[i]? = some u → I i ρ S → wpo (g u ρ) fun ρ1 => wps (body ρ1 S) { nx := fun ρ2 S2 => srcOk src c0 S2 ∧ I (i + 1) ρ2 S2, ct := fun ρ2 S2 => srcOk src c0 S2 ∧ I (i + 1) ρ2 S2, bk := Q.nx, rt := Q.rt, ex := Q.ex })
   (hn : ∀ ρ S, I items.length ρ S → Q.nx ρ S) : wps (forGo src c0 g body items ρ S) Q := by
 have h := for_go (Q := Q) src c0 g body items I items.length 0 ρ S (by omega) h0 hs hn
 simpa using h
@[simp] theorem srcOk_none (c0 : Option Cell) : srcOk none c0 S = True := id rfl
def seqV (S : Sto) (u : U) (k : List U → Prop) : Prop := match asSeq S u with
 | some xs => k xs
 | none => False
@[simp ↓] theorem w_iVal (m : ME) (q : IterV → Sto → Prop) : wpr (iVal m ρ S) q X = wpr (m ρ S) (fun u S1 => seqV S1 u fun xs => q ⟨xs, srcOf u⟩ S1) X := by
 simp only [iVal, wpr_bind]
 congr 1; funext u S1
 unfold seqV
 cases asSeq S1 u <;> rfl
def int1 (us : List U) (k : Int → Prop) : Prop := match us with
 | [.v (.int j)] => k j
 | _ => False
@[simp ↓] theorem int1_i (j : Int) (k : Int → Prop) : int1 [.v (.int j)] k = k j := id rfl
@[simp ↓] theorem w_rng1 (a : MA) (q : IterV → Sto → Prop) : wpr (iRng1 a ρ S) q X = wpr (a ρ S) (fun us S1 => int1 us fun j => (-1000000000 < j ∧ j < 1000000000) ∧ q ⟨rngU 0 j.toNat, none⟩ S1) X := by
 simp only [iRng1, wpr_bind]
 congr 1; funext us S1
 unfold int1
 split
 · rename_i j
   change wpr (if okR1 j then _ else _) q X = (okR1 j ∧ _)
   by_cases h : okR1 j <;> simp [h]
 · first
     | rfl
     | (split <;> first | rfl | simp_all)
def int2 (us : List U) (k : Int → Int → Prop) : Prop := match us with
 | [.v (.int i), .v (.int j)] => k i j
 | _ => False
@[simp] theorem rngU_len (lo : Int) (n : Nat) : (rngU lo n).length = n := by simp [rngU]
theorem rngU_get {lo : Int} {n i : Nat} {u : U} (h : (rngU lo n)[i]? = some u) : i < n ∧ u = .v (.int (lo + i)) := by
 unfold rngU at h
 rw [List.getElem?_map, Option.map_eq_some_iff] at h
 obtain ⟨a, h1, rfl⟩ := h
 have h2 := List.getElem?_eq_some_iff.mp h1
 obtain ⟨h3, h4⟩ := h2
 simp at h3 h4
 subst h4
 exact ⟨h3, rfl⟩
def start0 (N : Nat) (us : List U) : Env' := us.map some ++ List.replicate (N - us.length) none
theorem wp_runF {N : Nat} {m : MS} {us : List U} : wpr (runF N m us S) q X = wps (m (start0 N us) S) { rt := fun u S2 => wpr (fin S u S2) q X, nx := fun _ S2 => wpr (fin S (.v .non) S2) q X, ex := fun c fs _ S2 => wpr (finX S c fs S2) q X } := by
 unfold runF start0
 cases m (us.map some ++ List.replicate (N - us.length) none) S <;> rfl
theorem runF_eq {N : Nat} {m : MS} {us : List U} {u : U} {S' : Sto} (h : wps (m (start0 N us) S) { rt := fun v S2 => fin S v S2 = .ok u S', nx := fun _ S2 => fin S (.v .non) S2 = .ok u S' }) : runF N m us S = .ok u S' := by
 unfold runF
 unfold start0 at h
 cases q : m (us.map some ++ List.replicate (N - us.length) none) S <;> rw [q] at h <;> first | exact h | exact h.elim
end
end Pu
namespace Pu
open PySem L2
section
variable {q : U → Sto → Prop} {S : Sto} {X : XP}
@[simp ↓] theorem v_sub (i j : Int) : wpO (fI gSub (.v (.int i)) (.v (.int j)) S) q = q (.v (.int (i - j))) S := id rfl
@[simp ↓] theorem v_mul (i j : Int) : wpO (fI gMul (.v (.int i)) (.v (.int j)) S) q = ((i.natAbs < 2 ^ 64 ∨ j.natAbs < 2 ^ 64) ∧ q (.v (.int (i * j))) S) := by
 unfold fI gMul; change _ = (okMul i j ∧ _); by_cases h : okMul i j <;> simp [h]
@[simp ↓] theorem v_mod (i j : Int) : wpO (fI gMod (.v (.int i)) (.v (.int j)) S) q = (0 < j ∧ q (.v (.int (i % j))) S) := by
 unfold fI gMod; by_cases h : 0 < j <;> simp [h]
@[simp ↓] theorem v_div (i j : Int) : wpO (fI gDiv (.v (.int i)) (.v (.int j)) S) q = ((0 < j ∧ j < 1073741824) ∧ q (.v (.int (i / j))) S) := by
 unfold fI gDiv; change _ = (okDiv j ∧ _); by_cases h : okDiv j <;> simp [h]
@[simp ↓] theorem v_pow (i j : Int) : wpO (fI gPow (.v (.int i)) (.v (.int j)) S) q = ((0 ≤ j ∧ j ≤ 1000 ∧ i.natAbs < 2 ^ 64) ∧ q (.v (.int (i ^ j.toNat))) S) := by
 unfold fI gPow; change _ = (okPow i j ∧ _); by_cases h : okPow i j <;> simp [h]
@[simp ↓] theorem v_cmp (p : Int → Int → Bool) (i j : Int) : wpO (fI (gCmp p) (.v (.int i)) (.v (.int j)) S) q = q (.v (.bl (p i j))) S := id rfl
@[simp ↓] theorem v_addI (i j : Int) : wpO (fAdd (.v (.int i)) (.v (.int j)) S) q = q (.v (.int (i + j))) S := id rfl
@[simp ↓] theorem v_addS (i j : Str) : wpO (fAdd (.v (.str i)) (.v (.str j)) S) q = (i.length + j.length ≤ 100000 ∧ q (.v (.str (i ++ j))) S) := by
 unfold fAdd; by_cases h : i.length + j.length ≤ 100000 <;> simp [h]
@[simp ↓] theorem v_addT (i j : List D) : wpO (fAdd (.v (.tup i)) (.v (.tup j)) S) q = (i.length + j.length ≤ 100000 ∧ q (.v (.tup (i ++ j))) S) := by
 unfold fAdd; by_cases h : i.length + j.length ≤ 100000 <;> simp [h]
@[simp ↓] theorem v_addL (i j : List D) : wpO (fAdd (.v (.lst i)) (.v (.lst j)) S) q = (i.length + j.length ≤ 100000 ∧ q (.v (.lst (i ++ j))) S) := by
 unfold fAdd asLst
 simp only [List.length_map, ← List.map_append, allV_map]
 by_cases h : i.length + j.length ≤ 100000 <;> simp [h]
@[simp ↓] theorem v_int (i : Int) : wpO (fInt [.v (.int i)] S) q = q (.v (.int i)) S := id rfl
@[simp ↓] theorem v_intB (b : Bool) : wpO (fInt [.v (.bl b)] S) q = q (.v (.int (if b = true then 1 else 0))) S := id rfl
@[simp ↓] theorem v_tup (us : List U) : wpO (fTup us S) q = (us.length ≤ 100000 ∧ wpo (allV us) fun ds => q (.v (.tup ds)) S) := by
 unfold fTup; by_cases h : us.length ≤ 100000
 · simp only [h, if_true, true_and]; cases allV us <;> rfl
 · simp [h]
@[simp ↓] theorem v_lstV (us : List U) : wpO (fLstV us S) q = (us.length ≤ 100000 ∧ wpo (allV us) fun ds => q (.v (.lst ds)) S) := by
 unfold fLstV; by_cases h : us.length ≤ 100000
 · simp only [h, if_true, true_and]; cases allV us <;> rfl
 · simp [h]
@[simp ↓] theorem v_lstS (us : List U) : wpO (fLstS us S) q = (us.length ≤ 100000 ∧ q (.r S.length) (S ++ [.lst us])) := by
 unfold fLstS; by_cases h : us.length ≤ 100000 <;> simp [h]
@[simp ↓] theorem allV_consV (d : D) (us : List U) (k : List D → Prop) : wpo (allV (.v d :: us)) k = wpo (allV us) fun ds => k (d :: ds) := by
 show wpo ((allV us).map _) k = _
 cases allV us <;> rfl
@[simp ↓] theorem wpo_allV_nil (k : List D → Prop) : wpo (allV []) k = k [] := id rfl
@[simp ↓] theorem wpo_allV_map (ds : List D) (k : List D → Prop) : wpo (allV (ds.map U.v)) k = k ds := by rw [allV_map]; rfl
@[simp ↓] theorem v_dicS : wpO (fDicS [] S) q = q (.r S.length) (S ++ [.dic []]) := id rfl
@[simp ↓] theorem seqV_l (ds : List D) (k : List U → Prop) : seqV S (.v (.lst ds)) k = k (ds.map U.v) := id rfl
@[simp ↓] theorem seqV_f (ds : List D) (k : List U → Prop) : seqV S (.v (.frl ds)) k = k (ds.map U.v) := id rfl
@[simp ↓] theorem seqV_t (ds : List D) (k : List U → Prop) : seqV S (.v (.tup ds)) k = k (ds.map U.v) := id rfl
def cellL (c : Option Cell) (k : List U → Prop) : Prop := match c with
 | some (.lst xs) => k xs
 | _ => False
@[simp ↓] theorem cellL_l (xs : List U) (k : List U → Prop) : cellL (some (.lst xs)) k = k xs := id rfl
def cellQ (c : Option Cell) (k : List U → Prop) : Prop := match c with
 | some (.lst xs) => k xs
 | some (.tpc xs) => k xs
 | _ => False
@[simp ↓] theorem cellQ_l (xs : List U) (k : List U → Prop) : cellQ (some (.lst xs)) k = k xs := id rfl
@[simp ↓] theorem seqV_r (n : Nat) (k : List U → Prop) : seqV S (.r n) k = cellQ S[n]? k := by
 unfold seqV asSeq cellQ
 simp only
 cases S[n]? with
 | none => rfl
 | some c => cases c <;> rfl
@[simp] theorem srcOf_v (d : D) : srcOf (.v d) = none := id rfl
@[simp] theorem srcOf_r (n : Nat) : srcOf (.r n) = some n := id rfl
@[simp ↓] theorem v_listV (u : U) : wpO (fListV [u] S) q = seqV S u fun xs => wpo (allV xs) fun ds => q (.v (.lst ds)) S := by
 unfold fListV seqV; simp only
 cases asSeq S u with
 | none => rfl
 | some xs => simp only; cases allV xs <;> rfl
@[simp ↓] theorem v_tuple (u : U) : wpO (fTuple [u] S) q = seqV S u fun xs => wpo (allV xs) fun ds => q (.v (.tup ds)) S := by
 unfold fTuple seqV; simp only
 cases asSeq S u with
 | none => rfl
 | some xs => simp only; cases allV xs <;> rfl
@[simp ↓] theorem v_lenS (z : Str) : wpO (fLen [.v (.str z)] S) q = (z.length ≤ 100000 ∧ q (.v (.int z.length)) S) := by
 unfold fLen; by_cases h : z.length ≤ 100000 <;> simp [h]
theorem v_lenQ (u : U) (h : ∀ z, u ≠ .v (.str z)) : wpO (fLen [u] S) q = seqV S u fun xs => q (.v (.int xs.length)) S := by
 unfold fLen seqV
 split
 · rename_i z e; cases e; exact absurd rfl (h z)
 · rename_i e; cases e; cases asSeq S _ <;> rfl
 · rename_i h1 h2; exact absurd rfl (h2 u)
@[simp ↓] theorem v_lenL (ds : List D) : wpO (fLen [.v (.lst ds)] S) q = q (.v (.int ds.length)) S := by rw [v_lenQ _ (by simp)]; simp
@[simp ↓] theorem v_lenF (ds : List D) : wpO (fLen [.v (.frl ds)] S) q = q (.v (.int ds.length)) S := by rw [v_lenQ _ (by simp)]; simp
@[simp ↓] theorem v_lenR (n : Nat) : wpO (fLen [.r n] S) q = cellQ S[n]? fun xs => q (.v (.int xs.length)) S := by rw [v_lenQ _ (by simp)]; simp
@[simp] theorem atI_map {α β : Type} (f : α → β) (xs : List α) (i : Int) : atI (xs.map f) i = (atI xs i).map f := by
 unfold atI; rw [List.length_map]; cases ixN xs.length i <;> simp
theorem ixX_q (u : U) (i : Int) (h : ∀ z, u ≠ .v (.str z)) (hd : asDic S u = none) : wpO (fIxX u (.v (.int i)) S) q = seqV S u fun xs => wpo (atI xs i) fun w => q w S := by
 unfold fIxX
 rw [hd]
 have e : fIx u (.v (.int i)) S = (match asSeq S u with
   | some xs => (atI xs i).map fun u => (u, S)
   | none => none) := by
   cases u with
   | v d =>
     cases d with
     | str z => exact absurd rfl (h z)
     | _ => rfl
   | r n => rfl
 simp only [e]
 unfold seqV
 cases asSeq S u with
 | none => rfl
 | some xs => simp only; cases atI xs i <;> rfl
@[simp ↓] theorem v_ixL (ds : List D) (i : Int) : wpO (fIxX (.v (.lst ds)) (.v (.int i)) S) q = wpo (atI ds i) fun d => q (.v d) S := by
 rw [ixX_q _ _ (by simp) rfl]; simp only [seqV_l, atI_map]; cases atI ds i <;> rfl
@[simp ↓] theorem v_ixF (ds : List D) (i : Int) : wpO (fIxX (.v (.frl ds)) (.v (.int i)) S) q = wpo (atI ds i) fun d => q (.v d) S := by
 rw [ixX_q _ _ (by simp) rfl]; simp only [seqV_f, atI_map]; cases atI ds i <;> rfl
@[simp ↓] theorem v_ixS (z : Str) (i : Int) : wpO (fIxX (.v (.str z)) (.v (.int i)) S) q = (z.length ≤ 100000 ∧ wpo (atI z.cps.toList i) fun c => q (.v (.str ⟨#[c]⟩)) S) := by
 unfold fIxX asDic fIx
 simp only
 by_cases h : z.length ≤ 100000
 · simp only [h, if_true, true_and]; cases atI z.cps.toList i <;> rfl
 · simp [h]
def cellX (c : Option Cell) (i : Int) (k : U → Prop) : Prop := match c with
 | some (.lst xs) => wpo (atI xs i) k
 | _ => False
theorem atI_nat {α : Type} (xs : List α) (n : Nat) : atI xs (n : Int) = xs[n]? := by
 unfold atI ixN
 rw [if_pos (by omega)]
 by_cases h : (n : Int) < xs.length
 · rw [if_pos h]; simp
 · rw [if_neg h, List.getElem?_eq_none (by omega)]; rfl
@[simp ↓] theorem wpo_map {α β : Type} (f : α → β) (o : Option α) (k : β → Prop) : wpo (o.map f) k = wpo o fun x => k (f x) := by cases o <;> rfl
theorem atI_get {α : Type} {xs : List α} {i : Int} {k : α → Prop} (x0 : α) (h0 : 0 ≤ i) (h1 : i < xs.length) : wpo (atI xs i) k = k (xs.getD i.toNat x0) := by
 obtain ⟨n, rfl⟩ := Int.eq_ofNat_of_zero_le h0
 have h2 : n < xs.length := by omega
 simp only [Int.toNat_natCast]
 rw [atI_nat, List.getElem?_eq_getElem h2]
 simp [List.getD, List.getElem?_eq_getElem h2]
@[simp] theorem isS_s (z : Str) : isS S (.v (.str z)) = true := id rfl
theorem isL_r (n : Nat) (k : Prop) : (isL S (.r n) = true ∧ k) = cellL S[n]? fun _ => k := by
 unfold isL asList cellL
 simp only
 cases S[n]? with
 | none => simp
 | some c => cases c <;> simp
@[simp ↓] theorem v_append (n : Nat) (u : U) : wpO (fAppend (.r n) [u] S) q = cellL S[n]? fun xs => xs.length < 100000 ∧ q (.v .non) (S.set n (.lst (xs ++ [u]))) := by
 unfold fAppend cellL
 simp only
 cases S[n]? with
 | none => rfl
 | some c =>
   cases c with
   | lst xs => by_cases h : xs.length < 100000 <;> simp [h]
   | _ => rfl
@[simp] theorem sto_0 (S l : Sto) : (S ++ l)[S.length]? = l[0]? := by rw [List.getElem?_append_right (Nat.le_refl _)]; simp
@[simp] theorem sto_k (S l : Sto) (k : Nat) : (S ++ l)[S.length + k]? = l[k]? := by rw [List.getElem?_append_right (by omega)]; simp
@[simp] theorem set_0 (S l : Sto) (c : Cell) : (S ++ l).set S.length c = S ++ l.set 0 c := by rw [List.set_append_right _ _ (Nat.le_refl _)]; simp
theorem optAll_same {n : Nat} {T : Sto} : ∀ (S l : Sto), optAll (fun p : Cell × Cell => if p.2 = p.1 then some p.1 else fixC n 4 T p.2) (S.zip (S ++ l)) = some S
 | [], l => by simp [optAll]
 | c :: S, l => by simp [optAll, optAll_same S l]
@[simp] theorem fixS_same (S l : Sto) : fixS S (S ++ l) = some S := optAll_same S l
@[simp] theorem fixS_id (S : Sto) : fixS S S = some S := by have := fixS_same S []; simpa using this
@[simp] theorem fin_v (S : Sto) (d : D) (l : Sto) : fin S (.v d) (S ++ l) = .ok (.v d) S := by unfold fin; simp [fixU]
@[simp] theorem fin_v0 (S : Sto) (d : D) : fin S (.v d) S = .ok (.v d) S := by unfold fin; simp [fixU]
theorem fin_l {S l : Sto} {k : Nat} {ds : List D} (h : l[k]? = some (.lst (ds.map U.v))) : fin S (.r (S.length + k)) (S ++ l) = .ok (.v (.lst ds)) S := by
 unfold fin
 simp only [fixU, fixS_same]
 rw [if_neg (by omega)]
 have e : frz S.length 4 (S ++ l) (.r (S.length + k)) = some (.lst ds) := by
   show (if S.length + k < S.length then none else _) = _
   rw [if_neg (by omega), sto_k, h]
   simp
 rw [e]; rfl
theorem fin_l0 {S l : Sto} {ds : List D} : fin S (.r S.length) (S ++ .lst (ds.map U.v) :: l) = .ok (.v (.lst ds)) S := fin_l (k := 0) rfl
end
theorem lc_go {src : Option Nat} {c0 : Option Cell} {g : MG} {t : MT} {e : ME} {ρ : Env'} {S : Sto} (p : D → Bool) (f : D → D) : ∀ (ds acc : List D), acc.length + ds.length < 100000 → (∀ acc : List D, srcOk src c0 (S ++ [.lst (acc.map U.v)])) →
   (∀ d ∈ ds, ∀ acc : List D, ∃ ρ1, g (.v d) ρ = some ρ1 ∧ t ρ1 (S ++ [.lst (acc.map U.v)]) = .ok (p d) (S ++ [.lst (acc.map U.v)]) ∧ (p d = true → e ρ1 (S ++ [.lst (acc.map U.v)]) = .ok (.v (f d)) (S ++ [.lst (acc.map U.v)]))) →
   lcGo src c0 g t e S.length (ds.map U.v) ρ (S ++ [.lst (acc.map U.v)]) = .ok () (S ++ [.lst ((acc ++ (ds.filter p).map f).map U.v)])
 | [], acc, hl, hs, h => by simp [lcGo]
 | d :: ds, acc, hl, hs, h => by
   obtain ⟨ρ1, h1, h2, h3⟩ := h d (by simp) acc
   simp only [List.map_cons, lcGo, h1, h2, noEx_ok, R.bind_ok]
   cases hp : p d with
   | false =>
     simp only [Bool.false_eq_true, if_false]
     rw [if_pos (hs acc), lc_go p f ds acc (by simp at hl; omega) hs (fun d hd => h d (by simp [hd]))]
     simp [hp]
   | true =>
     simp only [if_true, h3 hp, noEx_ok, R.bind_ok, sto_0, List.getElem?_cons_zero, set_0, List.set_cons_zero]
     rw [if_pos ⟨by simp at hl ⊢; omega, hs acc⟩]
     have := lc_go p f ds (acc ++ [f d]) (by simp at hl ⊢; omega) hs (fun d hd => h d (by simp [hd]))
     simp only [List.map_append, List.map_cons, List.map_nil] at this
     rw [this]
     simp [hp]
theorem lcV_eq {vs : List Nat} {it : MI} {g : MG} {t : MT} {e : ME} {ρ : Env'} {S S1 : Sto} {src : Option Nat} {ds : List D} (p : D → Bool) (f : D → D) (hi : it ρ S = .ok ⟨ds.map U.v, src⟩ S1) (hl : ds.length < 100000) (hs : ∀ n, src = some n → n < S1.length)
   (h : ∀ d ∈ ds, ∀ acc : List D, ∃ ρ1, g (.v d) (wipeE ρ vs) = some ρ1 ∧ t ρ1 (S1 ++ [.lst (acc.map U.v)]) = .ok (p d) (S1 ++ [.lst (acc.map U.v)]) ∧ (p d = true → e ρ1 (S1 ++ [.lst (acc.map U.v)]) = .ok (.v (f d)) (S1 ++ [.lst (acc.map U.v)]))) :
   eLcV vs it g t e ρ S = .ok (.v (.lst ((ds.filter p).map f))) S1 := by
 have so : ∀ l : Sto, srcOk src (src.bind fun n => S1[n]?) (S1 ++ l) := fun l => by
   unfold srcOk
   cases src with
   | none => trivial
   | some n => simp only [Option.bind_some]; rw [List.getElem?_append_left (hs n rfl)]
 have hg := lc_go (src := src) (c0 := src.bind fun n => S1[n]?) (S := S1) p f ds [] (by simpa using hl) (fun acc => so _) h
 simp only [List.map_nil, List.nil_append] at hg
 unfold eLcV lcRun
 simp only [hi, R.bind_ok]
 rw [if_pos (so _), hg]
 simp only [R.bind_ok, kfV, sto_0, List.getElem?_cons_zero, allV_map, if_true]
end Pu
namespace Pu
open PySem L2
section
variable {q : U → Sto → Prop} {S : Sto} {X : XP}
@[simp] theorem datAt_bl (n : Nat) (b : Bool) : datAt n (.bl b) = false := by cases n <;> rfl
theorem v_eq {a b : D} (ha : isDat a = true) (hb : isDat b = true) : wpO (fEq (.v a) (.v b) S) q = q (.v (.bl (decide (a = b)))) S := by
 unfold fEq deL eqD
 simp only [ha, hb, and_self, if_true]
 rfl
theorem v_ne {a b : D} (ha : isDat a = true) (hb : isDat b = true) : wpO (fNe (.v a) (.v b) S) q = q (.v (.bl (!decide (a = b)))) S := by
 unfold fNe deL eqD
 simp only [ha, hb, and_self, if_true]
 rfl
@[simp ↓] theorem v_eqI (i j : Int) : wpO (fEq (.v (.int i)) (.v (.int j)) S) q = q (.v (.bl (decide (i = j)))) S := by rw [v_eq (by simp) (by simp)]; simp
@[simp ↓] theorem v_neI (i j : Int) : wpO (fNe (.v (.int i)) (.v (.int j)) S) q = q (.v (.bl (!decide (i = j)))) S := by rw [v_ne (by simp) (by simp)]; simp
@[simp ↓] theorem v_neB (i j : Bool) : wpO (fNe (.v (.bl i)) (.v (.bl j)) S) q = q (.v (.bl (!decide (i = j)))) S := by
 unfold fNe deL eqD; simp only [datAt_bl, isDat, Bool.false_eq_true, and_self, if_false]; rfl
def cellI (c : Option Cell) (k : Nat → List (Str × U) → Prop) : Prop := match c with
 | some (.ins c fs) => k c fs
 | _ => False
@[simp ↓] theorem cellI_i (c : Nat) (fs : List (Str × U)) (k : Nat → List (Str × U) → Prop) : cellI (some (.ins c fs)) k = k c fs := id rfl
@[simp ↓] theorem isIns_r (n : Nat) (k : Nat → List (Str × U) → Prop) : isIns S (.r n) k = cellI S[n]? k := by
 unfold isIns asIns cellI
 simp only
 cases S[n]? with
 | none => rfl
 | some c => cases c <;> rfl
@[simp ↓] theorem putFld_r (cs : List Nat) (f : Str) (u : U) (n : Nat) (k : Sto → Prop) : putFld cs f u (.r n) S k = cellI S[n]? fun c fs => (c ∈ cs ∧ fs.length < 900) ∧ k (S.set n (.ins c (putU f u fs))) := by
 cases h : S[n]? with
 | none => simp [putFld, cellI, h]
 | some c => cases c <;> simp [putFld, cellI, h]
@[simp ↓] theorem v_fld (cs : List Nat) (f : Str) (u : U) : wpO (fFld cs f u S) q = isIns S u fun c fs => c ∈ cs ∧ wpo (fs.lookup f) fun z => q z S := by
 unfold fFld isIns
 cases asIns S u with
 | none => rfl
 | some p =>
   by_cases h : p.1 ∈ cs
   · simp only [h, if_true, true_and]; cases p.2.lookup f <;> rfl
   · simp [h]
@[simp ↓] theorem v_slS (z : Str) (lo hi : Option Int) : wpO (fSl (.v (.str z)) lo hi S) q = (z.length ≤ 100000 ∧ q (.v (.str (cutS z lo hi))) S) := by
 unfold fSl; by_cases h : z.length ≤ 100000 <;> simp [h]
theorem cutU_map {α β : Type} (f : α → β) (xs : List α) (lo hi : Option Int) : cutU (xs.map f) lo hi = (cutU xs lo hi).map f := by unfold cutU; simp
@[simp ↓] theorem v_slL (ds : List D) (lo hi : Option Int) : wpO (fSl (.v (.lst ds)) lo hi S) q = q (.v (.lst (cutU ds lo hi))) S := by
 unfold fSl asList
 simp only [cutU_map, allV_map, Option.map_some]
 rfl
@[simp ↓] theorem v_revL (ds : List D) : wpO (fRev (.v (.lst ds)) S) q = q (.v (.lst ds.reverse)) S := by
 unfold fRev asList
 simp only [← List.map_reverse, allV_map, Option.map_some]
 rfl
@[simp] theorem allS_map (xs : List Str) : allS (xs.map fun x => U.v (.str x)) = some xs := by
 induction xs with
 | nil => rfl
 | cons x xs ih => simp [allS, ih]
theorem v_join (a : Str) (xs : List Str) (h : (xs.map (·.length)).sum + xs.length * a.length ≤ 100000) : wpO (fJoin (.v (.str a)) [.v (.lst (xs.map D.str))] S) q = q (.v (.str (Txt.join a xs))) S := by
 unfold fJoin asSeq
 simp only [List.map_map]
 rw [show (U.v ∘ D.str) = fun x => U.v (.str x) from rfl, allS_map]
 simp [h]
def dicV (S : Sto) (u : U) (k : List (D × U) → Prop) : Prop := match asDic S u with
 | some kvs => k kvs
 | none => False
def cellD (c : Option Cell) (k : List (D × U) → Prop) : Prop := match c with
 | some (.dic kvs) => k kvs
 | some (.dicL kvs) => k kvs
 | _ => False
theorem v_setD {n : Nat} {ks : List D} {v : U} {kvs : List (D × U)} {k : Sto → Prop} (h : S[n]? = some (.dic kvs)) : wpS (fSet (.r n) (.v (.tup ks)) v S) k = ((isKey (.tup ks) = true ∧ kvs.length < 100000) ∧ k (S.set n (.dic (dput kvs (.tup ks) v)))) := by
 unfold fSet
 simp only [h]
 by_cases hk : isKey (.tup ks) = true ∧ kvs.length < 100000
 · rw [if_pos hk, wpS_some, eq_iff_iff]; exact ⟨fun z => ⟨hk, z⟩, fun z => z.2⟩
 · rw [if_neg hk, wpS_none, eq_iff_iff]; exact ⟨False.elim, fun z => hk z.1⟩
@[simp] theorem isDc_v (kvs : List (D × D)) : isDc S (.v (.dic kvs)) = true := rfl
theorem v_get2 {u w : U} {ks : List D} {kvs : List (D × U)} (h : asDic S u = some kvs) : wpO (fGet u [.v (.tup ks), w] S) q = (isKey (.tup ks) = true ∧ q ((dget kvs (.tup ks)).getD w) S) := by
 unfold fGet
 rw [h]
 by_cases hk : isKey (.tup ks) = true <;> simp [hk]
@[simp ↓] theorem v_isi (u : U) (T : String) : wpO (fIsi [u, .v (.ty T)] S) q = wpo (tyNm S u) fun t => wpo (kitB t T) fun b => q (.v (.bl b)) S := by
 unfold fIsi
 simp only
 cases tyNm S u with
 | none => rfl
 | some t => simp only [Option.bind_some, wpo_some]; cases kitB t T <;> rfl
@[simp] theorem tyNm_i (i : Int) : tyNm S (.v (.int i)) = some "int" := id rfl
@[simp] theorem tyNm_t (i : List D) : tyNm S (.v (.tup i)) = some "tuple" := id rfl
end
def uOk (n : Nat) : U → Bool
 | .v _ => true
 | .r m => decide (m < n)
def cOk (n : Nat) : Cell → Bool
 | .lst xs => xs.all (uOk n)
 | .tpc xs => xs.all (uOk n)
 | .dic kvs => kvs.all fun p => uOk n p.2
 | .ins _ fs => fs.all fun p => uOk n p.2
 | .dead => true
 | .dicL _ => false
def Wf (S : Sto) : Prop := ∀ c ∈ S, cOk S.length c = true
theorem optAll_id {α : Type} {f : α → Option α} : ∀ {xs : List α}, (∀ x ∈ xs, f x = some x) → optAll f xs = some xs
 | [], _ => rfl
 | x :: xs, h => by
   have ih := optAll_id (xs := xs) fun y hy => h y (List.mem_cons_of_mem _ hy)
   simp [optAll, h x (by simp), ih]
theorem optAll_app {α β : Type} {f : α → Option β} {xs ys : List α} {as bs : List β} (h1 : optAll f xs = some as) (h2 : optAll f ys = some bs) : optAll f (xs ++ ys) = some (as ++ bs) := by
 induction xs generalizing as with
 | nil => simp [optAll] at h1; subst h1; exact h2
 | cons x xs ih =>
   unfold optAll at h1
   cases q : f x with
   | none => rw [q] at h1; cases h1
   | some y =>
     rw [q] at h1
     simp only [Option.map_eq_some_iff] at h1
     obtain ⟨bs', e1, rfl⟩ := h1
     simp [optAll, q, ih e1]
theorem fixS_last (S : Sto) (c0 c1 : Cell) (l : Sto) : fixS (S ++ [c0]) (S ++ c1 :: l) = (if c1 = c0 then some c0 else fixC (S.length + 1) 4 (S ++ c1 :: l) c1).map fun c => S ++ [c] := by
 unfold fixS
 have e : (S ++ [c0]).zip (S ++ c1 :: l) = S.zip S ++ [(c0, c1)] := by rw [List.zip_append rfl]; simp
 rw [e]
 have h1 := optAll_same (n := (S ++ [c0]).length) (T := S ++ c1 :: l) S []
 simp only [List.append_nil] at h1
 cases q : (if c1 = c0 then some c0 else fixC (S.length + 1) 4 (S ++ c1 :: l) c1) with
 | none =>
   have : ∀ (xs : List (Cell × Cell)) (f : Cell × Cell → Option Cell) (y : Cell × Cell), f y = none → optAll f (xs ++ [y]) = none := by
     intro xs f y hy
     induction xs with
     | nil => simp [optAll, hy]
     | cons x xs ih => simp only [List.cons_append, optAll, ih]; cases f x <;> rfl
   rw [this _ _ _ (by simpa using q)]; rfl
 | some c => rw [optAll_app h1 (bs := [c]) (by simp only [optAll]; simp only [List.length_append, List.length_cons, List.length_nil]; rw [q]; rfl)]; rfl
theorem fin_last {S : Sto} {c0 c1 : Cell} {l : Sto} {d : D} (h : fixC (S.length + 1) 4 (S ++ c1 :: l) c1 = some c1) : fin (S ++ [c0]) (.v d) (S ++ c1 :: l) = .ok (.v d) (S ++ [c1]) := by
 unfold fin
 rw [fixS_last, h]
 by_cases e : c1 = c0
 · subst e; simp [fixU]
 · simp [fixU, e]
theorem eq_of_wpr {α : Type} {r : R α} {a : α} {S : Sto} (h : wpr r (fun x T => x = a ∧ T = S) (fun _ _ _ => False)) : r = .ok a S := by
 cases r with
 | ok x T => obtain ⟨rfl, rfl⟩ := (show x = a ∧ T = S from h); rfl
 | ex c fs T => exact (show False from h).elim
 | er => exact (show False from h).elim
theorem w_lcV {vs : List Nat} {it : MI} {g : MG} {t : MT} {e : ME} {ρ : Env'} {S S1 : Sto} {src : Option Nat} {ds : List D} {q : U → Sto → Prop} {X : XP} (p : D → Bool) (f : D → D)
   (hi : wpr (it ρ S) (fun iv T => iv = ⟨ds.map U.v, src⟩ ∧ T = S1) (fun _ _ _ => False)) (hl : ds.length < 100000) (hs : ∀ n, src = some n → n < S1.length)
   (h : ∀ d ∈ ds, ∀ acc : List D, wpo (g (.v d) (wipeE ρ vs)) fun ρ1 => wpr (t ρ1 (S1 ++ [.lst (acc.map U.v)])) (fun b T => b = p d ∧ T = S1 ++ [.lst (acc.map U.v)]) (fun _ _ _ => False) ∧
     (p d = true → wpr (e ρ1 (S1 ++ [.lst (acc.map U.v)])) (fun u T => u = .v (f d) ∧ T = S1 ++ [.lst (acc.map U.v)]) (fun _ _ _ => False)))
   (k : q (.v (.lst ((ds.filter p).map f))) S1) : wpr (eLcV vs it g t e ρ S) q X := by
 rw [lcV_eq p f (eq_of_wpr hi) hl hs fun d hd acc => ?_]
 · exact k
 · have h1 := h d hd acc
   cases q : g (.v d) (wipeE ρ vs) with
   | none => rw [q] at h1; exact h1.elim
   | some ρ1 =>
     rw [q] at h1
     exact ⟨ρ1, rfl, eq_of_wpr h1.1, fun z => eq_of_wpr (h1.2 z)⟩
theorem sum_ones {α : Type} {g : α → Nat} : ∀ {xs : List α}, (∀ x ∈ xs, g x = 1) → (xs.map g).sum = xs.length
 | [], _ => rfl
 | x :: xs, h => by simp [h x (by simp), sum_ones (xs := xs) fun y hy => h y (List.mem_cons_of_mem _ hy)]; omega
theorem optAll_dic {n k : Nat} {S : Sto} : ∀ kvs : List (D × D), optAll (fun p : D × U => (frz n k S p.2).map fun d => (p.1, d)) (kvs.map fun p => (p.1, U.v p.2)) = some kvs
 | [] => rfl
 | p :: r => by simp [optAll, optAll_dic r]
theorem asSeq_app {S : Sto} {u : U} {xs : List U} (l : Sto) (h : asSeq S u = some xs) : asSeq (S ++ l) u = some xs :=
 asSeq_same h fun n hn => by
   cases u with
   | v d => cases hn
   | r m =>
     obtain rfl : m = n := by cases hn; rfl
     unfold asSeq at h
     simp only at h
     rw [List.getElem?_append_left]
     by_cases hm : m < S.length
     · exact hm
     · rw [List.getElem?_eq_none (by omega)] at h; cases h
theorem src_app {S : Sto} {u : U} {xs : List U} (l l' : Sto) (h : asSeq S u = some xs) : srcOk (srcOf u) ((srcOf u).bind fun n => (S ++ l)[n]?) (S ++ l') := by
 cases u with
 | v d => trivial
 | r m =>
   have hm : m < S.length := by
     by_cases hm : m < S.length
     · exact hm
     · unfold asSeq at h
       simp only at h
       rw [List.getElem?_eq_none (by omega)] at h; cases h
   show (S ++ l')[m]? = (S ++ l)[m]?
   rw [List.getElem?_append_left hm, List.getElem?_append_left hm]
theorem data_get {α : Type} {f : α → D} {rows : List α} {i : Nat} {w : U} (hw : ((rows.map f).map U.v)[i]? = some w) : ∃ r, rows[i]? = some r ∧ w = .v (f r) ∧ rows.drop i = r :: rows.drop (i + 1) := by
 rw [List.getElem?_map, List.getElem?_map, Option.map_eq_some_iff] at hw
 obtain ⟨d, hd, rfl⟩ := hw
 obtain ⟨r, hr1, rfl⟩ := Option.map_eq_some_iff.mp hd
 obtain ⟨hl, e⟩ := List.getElem?_eq_some_iff.mp hr1
 exact ⟨r, hr1, rfl, by rw [List.drop_eq_getElem_cons hl, e]⟩
theorem ofStr_inj {a b : String} (h : Str.ofString a = Str.ofString b) : a = b := by
 rw [Str.ofString_eq_toList, Str.ofString_eq_toList] at h
 have h1 : (a.toList.map Char.toNat).toArray = (b.toList.map Char.toNat).toArray := congrArg Str.cps h
 have h2 : a.toList.map Char.toNat = b.toList.map Char.toNat := by simpa using congrArg Array.toList h1
 have h3 : a.toList = b.toList := List.map_inj_right (fun x y e => by exact Char.toNat_inj.mp e) |>.mp h2
 exact String.toList_inj.mp h3
@[simp] theorem ofStr_eq (a b : String) : (Str.ofString a = Str.ofString b) = (a = b) := by
 rw [eq_iff_iff]; exact ⟨ofStr_inj, fun h => by rw [h]⟩
@[simp] theorem ofStr_beq (a b : String) : (Str.ofString a == Str.ofString b) = (a == b) := by
 by_cases h : a = b
 · subst h; simp
 · have h2 : Str.ofString a ≠ Str.ofString b := fun z => h (ofStr_inj z)
   rw [beq_eq_false_iff_ne.mpr h, beq_eq_false_iff_ne.mpr h2]
@[simp ↓] theorem lookup_hit {α : Type} (a : String) (v : α) (r : List (Str × α)) (k : α → Prop) : wpo (((Str.ofString a, v) :: r).lookup (Str.ofString a)) k = k v := by
 simp
@[simp ↓] theorem lookup_cons' {α : Type} (a b : String) (v : α) (r : List (Str × α)) (k : α → Prop) : wpo (((Str.ofString a, v) :: r).lookup (Str.ofString b)) k = if b = a then k v else wpo (r.lookup (Str.ofString b)) k := by
 rw [List.lookup_cons]
 by_cases h : b = a
 · subst h; simp
 · have h2 : (Str.ofString b == Str.ofString a) = false := by rw [ofStr_beq]; simpa using h
   rw [h2, if_neg h]
end Pu
namespace Pu
open PySem PySem.Spec L2
open PyProof.Rows hiding St
open PySem.W (ksEnv ksFn)
def cxS (CX : CXT) (P : Program) (w : World) (K : PySem.W.Frag) (mg : Str → Option Value) (base : Heap) (N : List Str) (qual : Str) (scope : Scope) (f : Addr) (cd : Value) (cc : Addr) (A : Around) (outer : List Env) (s : Shared) (H : Hp) (E : XK) : Cx where
 prog := P
 w := w
 K := K
 mg := mg
 base := base
 A := A.deeper (ksEnv qual scope s.heap.objs.size f cd cc)
 N := N
 s_0 := s
 H_0 := H
 env := ksEnv qual scope s.heap.objs.size f cd cc
 outer := outer
 stack := ksEnv qual scope s.heap.objs.size f cd cc :: outer
 ex := []
 calm := true
 fn := fun x => !(x == ("__class__" : Str))
 pn := []
 xe := fun e s' => wpAny (model P w) (A.deeper (ksEnv qual scope s.heap.objs.size f cd cc)) (leaving (ksEnv qual scope s.heap.objs.size f cd cc) e) (fun _ s'' => CX outer H s E e s'') (fun e' s'' => CX outer H s E e' s'') s'
structure SupScope (ps : List Str) (sc : Scope) : Prop where
 kind : sc.kind = .function
 co : sc.isCoroutine = false
 gen : sc.isGenerator = false
 nd : ps.Nodup
 par : ∀ x ∈ ps, sc.names.lookup x = some .local
 nocell : ∀ y ∈ sc.names, y.2 ≠ .cell
 free : ∀ y ∈ sc.names, y.2 = .free → y.1 = ("__class__" : Str)
 cls : sc.names.lookup ("__class__" : Str) = some .free
 sup : sc.names.lookup ("super" : Str) = some .globalImplicit
theorem zip_fst : ∀ (ps : List Str) (us : List Value), ((ps.zip us).map (·.1)).Sublist ps
 | [], _ => by simp
 | _ :: _, [] => by simp
 | p :: ps, u :: us => by simpa using zip_fst ps us
theorem zip_lookup : ∀ {ps : List Str} {us : List Value} {i : Nat} {x : Str} {u : Value}, ps.Nodup → ps[i]? = some x → us[i]? = some u → (ps.zip us).reverse.lookup x = some u := by
 intro ps us i x u nd hp hu
 have mem : (x, u) ∈ (ps.zip us).reverse := by
   rw [List.mem_reverse]
   refine List.mem_of_getElem? (i := i) ?_
   rw [List.getElem?_zip_eq_some]
   exact ⟨hp, hu⟩
 have ndk : ((ps.zip us).reverse.map (·.1)).Nodup := by
   rw [List.map_reverse]
   unfold List.Nodup
   rw [List.pairwise_reverse]
   exact (nd.sublist (zip_fst ps us)).imp fun h => Ne.symm h
 generalize (ps.zip us).reverse = l at mem ndk
 induction l with
 | nil => cases mem
 | cons q l ih =>
   obtain ⟨y, v⟩ := q
   rw [List.lookup_cons]
   simp only [List.map_cons, List.nodup_cons] at ndk
   by_cases h : x = y
   · subst h
     rcases List.mem_cons.mp mem with e | e
     · cases e; simp
     · exact absurd (List.mem_map.mpr ⟨_, e, rfl⟩) ndk.1
   · have h2 : (x == y) = false := by simpa using h
     rw [h2]
     rcases List.mem_cons.mp mem with e | e
     · cases e; exact absurd rfl h
     · exact ih e ndk.2
theorem inv_startS {CX : CXT} {P : Program} {w : World} {K : PySem.W.Frag} {mg : Str → Option Value} {base : Heap} {ps : List Str} {qual : Str} {scope : Scope} {f cc D : Addr} {cd : Value} {A : Around} {outer : List Env} {s : Shared} {H : Hp} {E : XK} {us : List Value} {vs : List V} {h1 : Heap} {tk : Nat} {cl : Value} {cld : Option Addr} {csl : Array (Option Value)}
   (S : SupScope ps scope) (hd : A.handled = none) (e0 : Env0 P w K mg base A outer s H) (hl : vs.length = ps.length) (r : Vals vs us) (hcell : K.lookup cc = some ⟨cl, cld, .cell (some (.ref D)), csl⟩)
   (hns : h1.Ns s.heap.objs.size (fun x => (ps.zip us).reverse.lookup x)) (hk : ∀ b o, s.heap.get? b = some o → h1.get? b = some o) :
   Inv (cxS CX P w K mg base ps qual scope f cd cc A outer s H E) [] (L2.start ps vs) H { s with heap := h1, toks := tk } := by
 have noA : ∀ b : Addr, b ∉ (cxS CX P w K mg base ps qual scope f cd cc A outer s H E).ex := fun b z => absurd (show b ∈ ([] : List Addr) from z) (by simp)
 have lk : ∀ y c, [(("__class__" : Str), cc)].lookup y = some c → y = "__class__" ∧ c = cc := fun y c h => by
   rw [List.lookup_cons] at h
   split at h
   · rename_i e; cases h; exact ⟨by simpa using e, rfl⟩
   · cases h
 have hb : base.get? cc = some ⟨cl, cld, .cell (some (.ref D)), csl⟩ := e0.mod.kin _ _ hcell
 refine ⟨⟨e0.mod, S.kind, rfl, rfl, Nat.le_refl _, fun y z c h1 h2 => ?_, fun y hy => ?_, fun y c hf h => ?_, fun _ => hd, Around.frames_deeper e0.frames, .inr ⟨rfl, rfl⟩, fun b z => absurd z (noA b), e0.bs, e0.bsz, fun b _ _ => noA b, fun b z => absurd z (noA b), e0.funs, e0.frf⟩,
   rfl, e0.bare, Un.kept hk, ⟨_, hns, fun i y v h1 h2 h3 => ?_⟩, fun y c h => ?_, e0.hok.fresh (Nat.le_refl _), fun y c h => ?_, fun p hp => absurd (show p ∈ ([] : List (Addr × Obj)) from hp) (by simp), e0.hok.kept hk, ?_⟩
 · rw [(lk y c h1).1, (lk z c h2).1]
 · have hy : scope.names.lookup y = some .cell ∨ scope.names.lookup y = some .free := hy
   rcases hy with hy | hy
   · exact absurd rfl (S.nocell _ (PySem.mem_of_lookup hy))
   · have e := S.free _ (PySem.mem_of_lookup hy) rfl
     simp only at e
     subst e
     exact ⟨cc, by show [(("__class__" : Str), cc)].lookup _ = _; simp⟩
 · have e := (lk y c h).1
   subst e
   exact absurd (show (!(("__class__" : Str) == ("__class__" : Str))) = true from hf) (by simp)
 · have hi : i < vs.length := by
     unfold L2.start at h2
     by_cases hi : i < vs.length
     · exact hi
     · rw [List.getElem?_append_right (by simpa using hi)] at h2
       rw [List.getElem?_replicate] at h2
       split at h2 <;> cases h2
   have ha : vs[i]? = some v := by
     unfold L2.start at h2
     rw [List.getElem?_append_left (by simpa using hi), List.getElem?_map] at h2
     cases e : vs[i]? with
     | none => rw [e] at h2; cases h2
     | some a => rw [e] at h2; cases h2; rfl
   obtain ⟨u, hu, rv⟩ := r.get ha
   exact ⟨u, rv, .inl ⟨S.par y (List.mem_of_getElem? h1), zip_lookup S.nd h1 hu⟩⟩
 · obtain ⟨rfl, rfl⟩ := lk y c h
   exact ⟨_, _, hk _ _ (e0.bs _ _ hb).1, rfl⟩
 · obtain ⟨rfl, rfl⟩ := lk y c h
   exact (e0.bs _ _ hb).2
 · unfold L2.start
   show _ = ps.length
   rw [List.length_append, List.length_map, List.length_replicate]
   omega
structure SupD (P : Program) (K : PySem.W.Frag) (name qual : Str) (params : Arguments) (body : List Stmt) (scope : Scope) (dvs : List V) (C f2 f : Addr) (fd : FuncData) : Prop where
 ex : ∃ (oc : Value) (od : Option Addr) (dV kV doc pm : Value) (an : Option Addr) (cda : Addr) (ct : Value) (osl : Array (Option Value)) (cc : Addr) (cl : Value) (cld : Option Addr) (csl : Array (Option Value)) (ccl : Value) (cdd : Option Addr) (vs : Array Value) (ccs : Array (Option Value)) (file : Str) (tf : Tok),
   fd = ksFn name qual params body scope dV kV doc pm an (.ref cda) ct cc ∧ K.lookup f = some ⟨oc, od, .func fd, osl⟩ ∧ PySem.W.codeIn K (.ref cda) qual = true ∧ K.lookup cc = some ⟨cl, cld, .cell (some (.ref C)), csl⟩ ∧
   K.lookup cda = some ⟨ccl, cdd, .fields vs, ccs⟩ ∧ vs[2]? = some (.str file tf) ∧ ((P.main.file : Str) == file) = true ∧ DflV K dV dvs
 cls : ∃ cd, PySem.W.clsIn K C = some cd
 sub : PySem.W.mroIn K C (.ref C) = some true
 sn : PySem.W.nsIn K mainGlobals "super" = some none
 op : PySem.W.nsIn K cStatics "thirdparty.any" = some none
 si : PySem.W.ks_superIn K C C "__init__" = some (some (.ref f2))
 ty : PySem.W.typeIn K (.ref f2) = some (.type "function")
 fi : PySem.W.fnIn K f2 = true
 kp : PySem.W.keepIn K (.ref f) = true
theorem SupD.ok {P : Program} {w : World} {K : PySem.W.Frag} {mg : Str → Option Value} {base : Heap} {name qual : Str} {params : Arguments} {scope : Scope} {dvs : List V} {C f2 f : Addr} {fd fd2 : FuncData} {ps ps2 qs : List Str} {ar : Arg} {k : Nat} {sp2 : Sp} {p0 p1 apos cpos epos : Pos} {e : Expr} {es : List Expr} {t : TA} {pl : Sem Bool}
   (Sd : SupD P K name qual params [.Expr (.Call (.Attribute (.Call (.Name "super" p0) [] [] p1) "__init__" apos) (e :: es) [] cpos) epos] scope dvs C f2 f fd) (S : SupScope ps scope) (hpar : (params.posonlyargs ++ params.args).head? = some ar) (har : ps = ar.arg :: qs)
   (htop : (P.main.scope.names.lookup ("super" : Str)).isSome = false) (hmg : mg ("super" : Str) = none) (F2 : FnOk P w K mg base (L2N.CX P w) k f2 fd2 ps2 sp2) (B2 : Binds K fd2 ps2 [])
   (ha : ∀ (cd : Value) (cc : Addr) (A : Around) (outer : List Env) (s : Shared) (H : Hp) (E : XK), PA (cxS (L2N.CX P w) P w K mg base ps qual scope f cd cc A outer s H E) (e :: es) t)
   (ht : ∀ (v : V) (ws : List V) (H : Hp) (Q : List V → Hp → Prop), (v :: ws).length = ps.length → Q ws H → t (L2.start ps (v :: ws)) H Q)
   (he : ∀ env : Env, starEach (e :: es) env = (false, eval e env) :: starEach es env) (hpl : ∀ env : Env, (backTo cpos (starEach es env)).any (·.1) = false)
   (hev : ∀ env : Env, eval (.Call (.Attribute (.Call (.Name "super" p0) [] [] p1) "__init__" apos) (e :: es) [] cpos) env = (do
     let ov ← attributeBase (.Call (.Name "super" p0) [] [] p1) "__init__" env (eval (.Call (.Name "super" p0) [] [] p1) env)
     standAt apos.atName
     let (f, first) ← holding [ov] (getMethod ov "__init__" pl)
     callWith cpos f first (backTo cpos (starEach (e :: es) env)) []))
   (hsw : ∀ env : Env, swapsWith (.Call (.Attribute (.Call (.Name "super" p0) [] [] p1) "__init__" apos) (e :: es) [] cpos) none epos.line env = pure false) (hin : ∀ (L : Addr) (cd : Value) (cc : Addr), interactive (ksEnv qual scope L f cd cc) = false) :
   FnOk P w K mg base (L2N.CX P w) (k + 1) f fd ps (fun vs H Q E => vs.length = ps.length ∧ (∃ x dx fs ws, vs = .ref x :: ws ∧ H x = some (.ins C dx fs)) ∧ sp2 vs H (fun _ H' => Q .non H') E) := by
 obtain ⟨oc, od, dV, kV, doc, pm, an, cda, ct, osl, cc, cl, cld, csl, ccl, cdd, vsc, ccs, file, tf, rfl, lk, hcd, hcell, hcode, hvs, hfile, _⟩ := Sd.ex
 refine ⟨fun vs H Q E h => h.1, fun A outer s H args us vs Q E hr e0 hb r hsp => ?_⟩
 obtain ⟨hl, ⟨x, dx, fs, ws, rfl, hx⟩, hsp⟩ := hsp
 have KX : K.In s.heap := e0.mod.kin.keeps fun b o e => (e0.bs b o e).1
 have lim : s.heap.NoLimit := e0.mod.nolimit.keeps fun b o e => (e0.bs b o e).1
 refine ks_codeAny_call_defAt hr.depth (KX _ _ lk) rfl lim (PySem.W.codeRec_of KX hcd) rfl hb S.nocell (fun y hy => S.par _ (List.of_mem_zip hy).1) (fun h₀ hns hk => ?_) S.co S.gen S.kind
 have I := inv_startS (CX := L2N.CX P w) (qual := qual) (f := f) (cd := .ref cda) (E := E) (tk := s.toks + (ps.zip us).length) S hr.hd e0 hl r hcell hns hk
 change _root_.PySem.wpAt (model P w) (A.deeper (ksEnv qual scope s.heap.objs.size f (.ref cda) cc)) (.func _ (ksEnv qual scope s.heap.objs.size f (.ref cda) cc)) (execs _ (ksEnv qual scope s.heap.objs.size f (.ref cda) cc)) _ _ _
 have tk : L2N.Takes (cxS (L2N.CX P w) P w K mg base ps qual scope f (.ref cda) cc A outer s H E) (Wd E) := L2N.takes_of rfl rfl rfl rfl
 obtain ⟨cdD, hD⟩ := Sd.cls
 obtain ⟨u0, us', rfl, ru, rus⟩ : ∃ u0 us', us = u0 :: us' ∧ RelV (.ref x) u0 ∧ Vals ws us' := by
   cases r with
   | cons a b => exact ⟨_, _, rfl, a, b⟩
 obtain rfl : u0 = .ref x := ru
 have hself : (ps.zip (Value.ref x :: us')).reverse.lookup ar.arg = some (.ref x) := zip_lookup (i := 0) S.nd (by rw [har]; rfl) rfl
 have hr2 : Room k (A.deeper (ksEnv qual scope s.heap.objs.size f (.ref cda) cc)) := hr.deeper _
 have hev2 := hev (ksEnv qual scope s.heap.objs.size f (.ref cda) cc)
 have hsw2 := hsw (ksEnv qual scope s.heap.objs.size f (.ref cda) cc)
 refine ks_wpAt_execs_cons (ks_wpAt_Expr_any (ks_wpAt_MethodCall (pl := pl) ?_ hev2) (hin _ _ _) hsw2)
 obtain ⟨oD, hD1, hD2⟩ : ∃ oD, K.lookup C = some oD ∧ oD.data = .cls cdD := by
   unfold PySem.W.clsIn at hD
   split at hD
   · rename_i c d cd' sl ho
     cases hD
     exact ⟨_, ho, rfl⟩
   · cases hD
 obtain ⟨mA, O, _⟩ := ins_get I.hok hx
 obtain ⟨odx, J, _⟩ := O.look
 obtain ⟨mb, b1, b2⟩ := I.mod.blt
 refine ks_wpAt_super_base (env := ksEnv qual scope s.heap.objs.size f (.ref cda) cc) S.sup S.cls (by decide) rfl (I.kIn _ _ lk) rfl hpar rfl (I.kIn _ _ hcode) rfl hvs hfile htop ?_
 refine PySem.W.ks_loadName_global S.kind S.sup (Calls.loadGlobal_builtin (env := ksEnv qual scope s.heap.objs.size f (.ref cda) cc) (I.mod.glob.keeps I.bk) hmg (b1.keeps I.bk) ((b2 _ (by decide +kernel)).trans (by first | rfl | kernel_rfl)) ⟨rfl, ?_⟩)
 refine wpAny_loadName_free S.kind S.cls (c := cc) (by show [(("__class__" : Str), cc)].lookup _ = _; simp) ⟨_, I.kIn _ _ hcell, rfl⟩ ?_
 refine wpAny_loadName_local S.kind (S.par _ (by rw [har]; simp)) hns hself ?_
 refine ks_wpAny_isType_cls (I.kIn _ _ hD1) hD2 ⟨rfl, ?_⟩
 refine ks_wpAny_call_super (I.kIn _ _ hD1) hD2 J.at_ J.cls (fun c e => ?_) (PySem.W.looks_mroIn I.kIn Sd.sub) (fun h' e kp => ?_)
 · have := J.no
   unfold PySem.W.notCls at this
   rw [e] at this
   exact Bool.noConfusion this
 have I2 := ClX.pin_new (t' := s.toks + (ps.zip (Value.ref x :: us')).length) I kp (Nat.le_refl _) e (fun v z => nomatch z)
 have X2 : K.In h' := I2.kIn
 have hxC : x ≠ C := PySem.W.ks_ne I.kIn J hD
 obtain ⟨of, hof, hofc⟩ : ∃ of, K.lookup f2 = some of ∧ of.cls = .type "function" := by
   have ht' : (K.lookup f2).map (·.cls) = some (.type "function") := Sd.ty
   cases z : K.lookup f2 with
   | none => rw [z] at ht'; cases ht'
   | some of => rw [z] at ht'; exact ⟨of, rfl, Option.some.inj ht'⟩
 have hm := Sd.si
 unfold PySem.W.ks_superIn at hm
 rw [hD] at hm
 refine ks_wpAny_getMethod_super (so := h₀.objs.size) (D := C) (x := x) (C := C) (l₀ := cdD.mro) e (PySem.W.looks_opaque X2 Sd.op) ?_ rfl X2 hm (X2 _ _ hof) hofc hxC (by decide) ?_
 · exact fun A Q E s k q => wpAny_bind ((PySem.W.looks_clsIn X2 hD) A _ E s k (wpAny_pure q))
 have I3 := ClX.met_new (g := f2) (C := x) I2
 refine ClX.callwith_cm I3 (ClX.base_none I2 (Nat.le_refl _)) Sd.fi (thn ((ha _ _ _ _ _ _ _).run cpos _ _ _ _ (fun vs' H2 => vs' = ws ∧ H2 = H) I3 (ht _ _ _ _ hl ⟨rfl, rfl⟩)) fun us2 s3 ⟨vs', H2, I4, rv, q1, q2⟩ => ⟨⟨ClX.pin_at I4, I4.kIn⟩, ?_⟩) (he _) (hpl _)
 subst q1 q2
 have FR : FnR P w K mg base (L2N.CX P w) k f2 sp2 := (FnOk.raw F2 B2 .nil).imp fun vs H Q E h => by rw [List.append_nil]; exact h
 refine thn (ClX.run_cm (X := cxS (L2N.CX P w) P w K mg base ps qual scope f (.ref cda) cc A outer s H2 E) FR hr2 (passW tk (wi_d E)) I4 rv hsp) fun u s4 ⟨v, H4, I5, rv4, q4⟩ => ?_
 exact wpAt_of_wpAny (wpAny_execs_nil ⟨.non, H4, I5.os, I5.bare, I5.base, I5.hok, rfl, q4⟩)
end Pu
namespace Pu
open PySem PySem.Spec L2
open PyProof.Rows hiding St
noncomputable def fLtD : F2 := fun x y S => match x, y with
 | .v a, .v b => match pyOf a, pyOf b with
   | some p, some q => if (isDat a = true ∧ isDat b = true) ∧ PySem.W.alike p q = true ∧ a ≠ .non then some (.v (.bl (PySem.W.dataLt p q)), S) else none
   | _, _ => none
 | _, _ => none
section
variable {X : Cx} {cl : Nat → Addr} {W : WX}
theorem oq_ltD (hu : X.A.units + 64 < cLine) : OpR X (compareOp .Lt) (liftOp (bx X cl) fLtD) := by
 intro pins s σ H x y v u Q I rx ry ⟨ι, F, S, a, b, rl, za, zb, fi⟩
 unfold fLtD at fi
 split at fi
 · rename_i a b
   cases q1 : pyOf a with
   | none => rw [q1] at fi; exact fi.no
   | some p =>
     cases q2 : pyOf b with
     | none => rw [q1, q2] at fi; exact fi.no
     | some r =>
       rw [q1, q2] at fi
       simp only at fi
       split at fi
       · rename_i hc
         obtain ⟨⟨h1, h2⟩, h3, h4⟩ := hc
         cases za with
         | v za =>
           cases zb with
           | v zb =>
             obtain ⟨p', e1, d1⟩ := py_of h1
             obtain ⟨r', e2, d2⟩ := py_of h2
             rw [q1] at e1; cases e1
             rw [q2] at e2; cases e2
             obtain ⟨as, r1⟩ := Dp.reads I p x v (rep_dp za q1).1 rx
             obtain ⟨bs, r2⟩ := Dp.reads I r y u (rep_dp zb q2).1 ry
             refine PySem.W.lt_data r1 r2 h3 (fun z => h4 ?_) (by omega) ⟨.bl _, H, I, rfl, fi.val rl (.v (.bl _))⟩
             subst z
             cases a <;> simp [pyOf] at q1 <;> rfl
       · exact fi.no
 · exact fi.no
def allB : List U → Option (List Bool)
 | [] => some []
 | .v (.bl b) :: us => (allB us).map (b :: ·)
 | _ :: _ => none
def fAll : FA := fun us S => match us with
 | [u] => match asList S u with
   | some xs => (allB xs).map fun bs => (.v (.bl (bs.all id)), S)
   | none => none
 | _ => none
def fAny : FA := fun us S => match us with
 | [u] => match asList S u with
   | some xs => (allB xs).map fun bs => (.v (.bl (bs.any id)), S)
   | none => none
 | _ => none
theorem allB_ok {B : Bx} {ι : List Addr} {F : Addr → Prop} {H : Hp} : ∀ {us : List U} {bs : List Bool} {vs : List V}, RepUs B ι F H vs us → allB us = some bs → vs = bs.map V.bl
 | _, bs, _, .nil, e => by simp [allB] at e; subst e; rfl
 | _, bs, _, .cons (b := u) (l₂ := us) z zs, e => by
   unfold allB at e
   split at e
   · rename_i he; cases he
   · rename_i x us' he
     cases he
     obtain ⟨ys', e1, rfl⟩ := Option.map_eq_some_iff.mp e
     have h1 := allB_ok zs e1
     cases z with
     | v z => cases z; rw [h1]; rfl
   · cases e
theorem vals_bl : ∀ {bs : List Bool} {us : List Value}, Vals (bs.map V.bl) us → us = bs.map Value.bool
 | [], _, .nil => rfl
 | b :: bs, _, .cons h t => by rw [show _ = Value.bool b from h, vals_bl t]; rfl
theorem reads_bl (h : Heap) : ∀ bs : List Bool, ReadsAll h (bs.map Value.bool) (bs.map PyData.bool) []
 | [] => .nil
 | b :: bs => .cons (.bool b) (reads_bl h bs)
theorem plain_bl : ∀ bs : List Bool, PyData.plainAll (bs.map PyData.bool) = true
 | [] => rfl
 | b :: bs => by
   show (PyData.plain (.bool b) && PyData.plainAll (bs.map PyData.bool)) = true
   rw [plain_bl bs]; rfl
theorem cq_all (hcalm : X.calm = true) : CallR X (.builtin "all") (liftC (bx X cl) fAll) := by
 intro pins s σ H xs us Q I rv ⟨ι, F, S, as, rl, zs, fi⟩
 unfold fAll at fi
 split at fi
 · rename_i u
   cases q : asList S u with
   | none => rw [q] at fi; exact fi.no
   | some ys =>
     rw [q] at fi
     simp only at fi
     cases qb : allB ys with
     | none => rw [qb] at fi; exact fi.no
     | some bs =>
       rw [qb] at fi
       cases zs with
       | cons z1 z2 =>
         cases z2
         obtain ⟨p, vs, rfl, hp, zz⟩ := asList_ok rl z1 q
         have e := allB_ok zz qb
         subst e
         cases rv with
         | cons r1 r2 =>
           cases r2
           obtain rfl : _ = Value.ref p := r1
           obtain ⟨its, ri, hpl, _⟩ := I.list hp
           rw [vals_bl ri] at hpl
           refine PySem.W.all_list_data (I.ok.hd hcalm) (by obtain ⟨o, n, h1, h2, h3, h4⟩ := hpl; exact ⟨o, h1, h2, n, h4⟩) (by simpa using reads_bl s.heap bs) (plain_bl bs) (fun x hx => by obtain ⟨b, _, rfl⟩ := List.mem_map.mp hx; trivial) fun h' tk hk => ?_
           have e2 : (bs.map PyData.bool).all PyData.truthy = bs.all id := by
             rw [List.all_map]; congr 1
           rw [e2]
           exact ⟨.bl _, H, I.kept (t' := tk) hk, rfl, fi.val rl (.v (.bl _))⟩
 · exact fi.no
def fInsert : FM := fun x us S => match x, us with
 | .r n, [.v (.int i), u] => match S[n]? with
   | some (.lst xs) => if xs.length < 100000 ∧ 0 ≤ i ∧ i < 1000000 then some (.v .non, S.set n (.lst (xs.take i.toNat ++ [u] ++ xs.drop i.toNat))) else none
   | _ => none
 | _, _ => none
theorem mq_insert : MtR X "list.insert" (liftM (bx X cl) fInsert) := by
 intro pins s σ H x xs v us Q I rx rxs ⟨ι, F, S, a, as, rl, za, zs, fi⟩
 unfold fInsert at fi
 split at fi
 · rename_i n i u
   cases q : S[n]? with
   | none => rw [q] at fi; exact fi.no
   | some c =>
     rw [q] at fi
     cases c with
     | lst ys =>
       simp only at fi
       split at fi
       · rename_i hc
         cases za with
         | @r _ a h =>
           cases zs with
           | cons z1 z2 =>
             cases z2 with
             | cons z2 z3 =>
               cases z3
               cases z1 with
               | v z1 =>
                 cases z1
                 obtain ⟨vs, ha, zz⟩ := rl.ok n a _ h q
                 obtain ⟨r2, e2⟩ := rl.setL h q ha (paired_append (paired_append (paired_take i.toNat zz) (.cons z2 .nil)) (paired_drop i.toNat zz))
                 exact mt_insert pins s σ H _ _ v us Q I rx rxs ⟨a, vs, i, _, rfl, rfl, ha, szl (by rw [paired_len zz]; exact hc.1), hc.2.1, by omega, fi.go e2 r2 (.v .non)⟩
       · exact fi.no
     | _ => exact fi.no
 · exact fi.no
end
def noX (r : R U) : R U := match r with
 | .ok a S => .ok a S
 | _ => .er
def eProp (cs : List Nat) (mf : List U → Sto → R U) (mo : ME) : ME := fun ρ S => (mo ρ S).bind fun x S1 => match asIns S1 x with
 | some (c', _) => if c' ∈ cs then noX (mf [x] S1) else .er
 | none => .er
section
variable {X : Cx} {cl : Nat → Addr} {W : WX} {k : Nat} {fd : FuncData} {ps : List Str} {mf : List U → Sto → R U} {e : Expr} {mo : ME} {f : Str} {g : Addr} {pos : Pos} {cs : List Nat}
end
def supN (c : Nat) (mf : List U → Sto → R U) (us : List U) (S : Sto) : R U := match us with
 | x :: _ => match asIns S x with
   | some (c', _) => if c' = c then (mf us S).bind fun _ S1 => .ok (.v .non) S1 else .er
   | none => .er
 | [] => .er
theorem sup_sp {B : Bx} {n c : Nat} {mf : List U → Sto → R U} {vs : List V} {H : Hp} {Q : VK} {E : XK} (h : SpM B n (supN c mf) vs H Q E) : vs.length = n ∧ (∃ x dx fs ws, vs = .ref x :: ws ∧ H x = some (.ins (B.cl c) dx fs)) ∧ SpM B n mf vs H (fun _ H' => Q .non H') E := by
 obtain ⟨hl, ι, F, S, us, r, z, o⟩ := h
 unfold supN at o
 cases z with
 | nil => exact o.elim
 | cons z1 z2 =>
   rename_i v u vs us
   simp only at o
   cases q : asIns S u with
   | none => rw [q] at o; exact o.elim
   | some pr =>
     obtain ⟨c', fs⟩ := pr
     rw [q] at o
     simp only at o
     split at o
     · rename_i hc
       subst hc
       obtain ⟨a, dx, fs', rfl, hx, zf⟩ := asIns_ok r z1 q
       refine ⟨hl, ⟨a, dx, fs', vs, rfl, hx⟩, hl, ι, F, S, u :: us, r, .cons z1 z2, ?_⟩
       cases qr : mf (u :: us) S with
       | ok a' S2 =>
         rw [qr] at o
         intro w ι' F' H' e' r' _
         exact o .non ι' F' H' e' r' (.v .non)
       | ex c fs S2 => rw [qr] at o; exact o
       | er => rw [qr] at o; exact o.elim
     · exact o.elim
end Pu
namespace Pu
open PySem PySem.Spec L2
open PyProof.Rows hiding St
section
variable {X : Cx} {cl : Nat → Addr} {W : WX} {k n : Nat} {f : Addr} {fd : FuncData} {ps : List Str} {mf : List U → Sto → R U} {pins : List (Addr × Obj)} {σ : L2.St} {H : Hp} {s : Shared} {Q : VK} {us : List Value} {vs : List V}
end
structure OwnM (K : PySem.W.Frag) (C : Addr) (m : Str) (f : Addr) : Prop where
 at_ : PySem.W.findIn K (.ref C) m = some (some (.ref f))
 fn : PySem.W.isFn K (.ref f) = true
 fi : PySem.W.fnIn K f = true
 ns : PySem.W.noSeq K C = true
def eIxO (cs : List Nat) (mf : List U → Sto → R U) (mo mi : ME) : ME := fun ρ S => (mo ρ S).bind fun x S1 => (mi ρ S1).bind fun i S2 => match asIns S2 x with
 | some (c', _) => if c' ∈ cs then mf [x, i] S2 else .er
 | none => .er
section
variable {X : Cx} {cl : Nat → Addr} {W : WX} {k : Nat} {f : Addr} {fd : FuncData} {ps : List Str} {mf : List U → Sto → R U} {o i value : Expr} {mo mi mv : ME} {cs : List Nat} {pos pos' : Pos}
def sSetO (cs : List Nat) (mf : List U → Sto → R U) (mo mi mv : ME) : MS := fun ρ S => (mv ρ S).st ρ fun v S1 => (mo ρ S1).st ρ fun x S2 => (mi ρ S2).st ρ fun i S3 => match asIns S3 x with
 | some (c', _) => if c' ∈ cs then (mf [x, i, v] S3).st ρ fun _ S4 => .nx ρ S4 else .er
 | none => .er
def tOwn (cs : List Nat) (mf : List U → Sto → R U) (mo : ME) : MT := fun ρ S => (mo ρ S).bind fun x S1 => match asIns S1 x with
 | some (c', _) => if c' ∈ cs then (mf [x] S1).bind fun u S2 => ofO (isB u S2) else .er
 | none => .er
end
end Pu
namespace Pu
open PySem PySem.Spec L2
open PyProof.Rows hiding St
def TtO (t it : Addr) : HO := .ext fun h => h.IsTupleIter it t 0
def rIterT (K : PySem.W.Frag) (n : Nat) : List V → Hp → VK → Prop := fun xs H Q => ∃ (t : Addr) (zs : List V), xs = [.ref t] ∧ SqT K H t zs ∧ ∀ it, H it = none → n ≤ it → Q (.ref it) (upd H it (TtO t it))
section
variable {P : Program} {w : World} {K : PySem.W.Frag} {mg : Str → Option Value} {base : Heap} {x qual : Str} {params : Arguments} {body : List Stmt} {scope : Scope} {dvs : List V} {kws : List (Str × V)} {f : Addr} {fd : FuncData} {N ps : List Str} {k : Nat} {CX : CXT}
end
def iOwn (cs : List Nat) (fld : Str) (mo : ME) : MI := fun ρ S => (mo ρ S).bind fun x S1 => match asIns S1 x with
 | some (c', fs) => if c' ∈ cs then (match fs.lookup fld with
   | some (.v (.tup ds)) => .ok ⟨ds.map U.v, none⟩ S1
   | _ => .er) else .er
 | none => .er
section
variable {X : Cx} {cl : Nat → Addr} {W : WX} {tg o : Expr} {mo : ME} {cs : List Nat} {fld qual : Str} {params : Arguments} {scope : Scope} {f : Addr} {fd : FuncData} {p1 p2 p3 p4 p5 : Pos}
end
end Pu
namespace Pu
open PySem PySem.Spec L2
open PyProof.Rows hiding St
def encD (d : D) : PyData := (pyOf d).getD .none
noncomputable def sortD (ds : List D) : List D := ds.mergeSort (PySem.W.dataLe false encD)
def okSort (ds : List D) : Prop := (∀ d ∈ ds, isDat d = true) ∧ PySem.W.AllAlike (ds.map encD) ∧ PySem.W.Sortable (ds.map encD) ∧ ds.length ≤ 100000
noncomputable instance (ds : List D) : Decidable (okSort ds) := Classical.propDecidable _
noncomputable def fSorted : FA := fun us S => match us with
 | [u] => match asList S u with
   | some xs => match allV xs with
     | some ds => if okSort ds then some (.v (.lst (sortD ds)), S) else none
     | none => none
   | none => none
 | _ => none
section
variable {X : Cx} {cl : Nat → Addr} {W : WX}
structure OkTy (K : PySem.W.Frag) (C : Addr) : Prop where
 cl : Cls K C
 ha : PySem.W.findIn K (.ref C) "__class__" = some (some (.builtin "object.__class__"))
 hn : PySem.W.specialIn K (.builtin "object.__class__") "__get__" = some (some (.builtin "getset_descriptor.__get__"))
 tk : PySem.W.takesIn K (.builtin "object.__class__") = some true
 hm : PySem.W.mroIn K C (.type "object") = some true
def IsTab (K : PySem.W.Frag) (cl : Nat → Addr) (tab : Nat → Nat → Option Bool) : Prop := ∀ c' c b, tab c' c = some b → OkTy K (cl c') ∧ PySem.W.kitOne K (.ref (cl c')) (.ref (cl c)) = some b
def fIsX (tab : Nat → Nat → Option Bool) : FA := fun us S => match us with
 | [u, .v (.cls c)] => match asIns S u with
   | some (c', _) => (tab c' c).map fun b => (.v (.bl b), S)
   | none => none
 | us => fIsi us S
theorem cq_isX {tab : Nat → Nat → Option Bool} (ht : IsTab X.K cl tab) : CallR X (.builtin "isinstance") (liftC (bx X cl) (fIsX tab)) := by
 intro pins s σ H xs us Q I rv ⟨ι, F, S, as, rl, zs, fi⟩
 unfold fIsX at fi
 split at fi
 · rename_i u c
   cases zs with
   | cons z1 z2 =>
     cases z2 with
     | cons z2 z3 =>
       cases z3
       cases z2 with
       | v z2 =>
         cases z2 with
         | cls _ =>
           cases q : asIns S u with
           | none => rw [q] at fi; exact fi.no
           | some pr =>
             obtain ⟨c', fs⟩ := pr
             rw [q] at fi
             simp only at fi
             cases qt : tab c' c with
             | none => rw [qt] at fi; exact fi.no
             | some b =>
               rw [qt] at fi
               obtain ⟨ot, hk⟩ := ht c' c b qt
               obtain ⟨a, dx, vs, rfl, hx, _⟩ := asIns_ok rl z1 q
               exact call_isi pins s σ H _ us Q I rv ⟨_, _, _, _, b, rfl, .own _, .base (.ins hx ot.cl ot.ha ot.hn ot.tk ot.hm), hk, fi.val rl (.v (.bl b))⟩
 · exact cq_isi pins s σ H xs us Q I rv ⟨ι, F, S, _, rl, zs, fi⟩
def chrs (z : Str) : List U := z.cps.toList.map fun c => .v (.str ⟨#[c]⟩)
def iChr (m : ME) : MI := fun ρ S => (m ρ S).bind fun u S1 => match u with
 | .v (.str z) => .ok ⟨chrs z, none⟩ S1
 | _ => .er
theorem walk_s {ι : List Addr} {F : Addr → Prop} {S : Sto} {H : Hp} {z : Str} (hz : PyData.strOk z = true) : Walk (bx X cl) (Its z) ⟨chrs z, none⟩ S ι F H := by
 intro i ι1 F1 S1 H1 e1 r1 so
 have hl : (chrs z).length = z.cps.size := by simp [chrs]
 refine ⟨fun hi => ⟨show i < z.cps.size by rw [← hl]; exact hi, fun x' H' hyld => ?_⟩, fun hi => show z.cps.size ≤ i by rw [← hl]; exact hi⟩
 obtain ⟨rfl, c, hc, rfl⟩ := hyld
 refine ⟨Evo.refl, r1, fun u' hu' => ?_⟩
 have hcl : z.cps.toList[i]? = some c := by simpa using hc
 have : u' = .v (.str ⟨#[c]⟩) := by
   have h2 : (chrs z)[i]? = some u' := hu'
   simp only [chrs, List.getElem?_map, hcl, Option.map_some, Option.some.injEq] at h2
   exact h2.symm
 subst this
 exact .v (.str _ (strOk_one hz (List.mem_of_getElem? hcl)))
theorem qi_chr {tg e : Expr} {m : ME} (h : QE X cl W e m) : QI X cl W tg e (iChr m) := by
 refine ⟨fun pins s σ H Rr I ⟨ι, F, S, ρ, r, en, o⟩ => ?_⟩
 unfold iChr at o
 cases q : m ρ S with
 | er => rw [q] at o; exact o.elim
 | ex c fs S1 => rw [q] at o; exact (pi_str h).run pins s σ H Rr I ⟨ι, F, S, ρ, r, en, by rw [q]; exact o⟩
 | ok u S1 =>
   rw [q] at o
   simp only [R.bind_ok] at o
   cases u with
   | r n => exact o.elim
   | v d =>
     cases d with
     | str z =>
       refine (pi_str h).run pins s σ H Rr I ⟨ι, F, S, ρ, r, en, ?_⟩
       rw [q]
       intro v ι1 F1 H1 e1 r1 z1
       cases z1 with
       | v z1 =>
         cases z1 with
         | str _ hz => exact ⟨z, rfl, o _ ι1 F1 H1 e1 r1 (walk_s hz)⟩
     | _ => exact o.elim
end
end Pu
namespace Pu
open PySem PySem.Spec L2
open PyProof.Rows hiding St
namespace Hx
abbrev FnY : Type := Option (Str × Str × Arguments × FuncBody × Scope × Addr × List Str × Addr)
structure DefX where
 ad : PySem.W.Frag → Addr
 name : Str
 qual : Str
 params : Arguments
 body : List Stmt
 scope : Scope
 dfl : List He.Dv := []
 clo : List Str := []
def DefX.obs (K : PySem.W.Frag) (d : DefX) : FnY := match K.lookup (d.ad K) with
 | some ⟨_, _, .func fd, _⟩ => some (fd.name, fd.qualname, fd.params, fd.body, fd.scope, fd.globals, fd.closure.map (·.1), fd.builtins)
 | _ => none
def DefX.val (d : DefX) : FnY := some (d.name, d.qual, d.params, .stmts d.body, d.scope, mainGlobals, d.clo, builtinsNs)
def DefX.dvs (K : PySem.W.Frag) (d : DefX) : List V := d.dfl.map (He.Dv.v K)
def DefX.ok (K : PySem.W.Frag) (d : DefX) : Bool := PySem.W.keepIn K (.ref (d.ad K)) && (match K.lookup (d.ad K) with
 | some ⟨_, _, .func fd, _⟩ => PySem.W.codeIn K fd.code d.qual && He.dflB K fd.defaults (d.dvs K)
 | _ => false)
theorem DefX.get {K : PySem.W.Frag} {d : DefX} (e : d.obs K = d.val) (c : d.ok K = true) : PySem.W.keepIn K (.ref (d.ad K)) = true ∧ ∃ oc od osl cl dV kV doc pm an cdv ct, cl.map (·.1) = d.clo ∧
   K.lookup (d.ad K) = some ⟨oc, od, .func (PySem.W.fnX d.name d.qual d.params d.body d.scope cl dV kV doc pm an cdv ct), osl⟩ ∧ PySem.W.codeIn K cdv d.qual = true ∧ DflV K dV (d.dvs K) := by
 obtain ⟨kp, c2⟩ := He.ba c
 unfold DefX.obs at e
 cases q : K.lookup (d.ad K) with
 | none => rw [q] at c2; cases c2
 | some o =>
   obtain ⟨oc, od, dt, osl⟩ := o
   rw [q] at c2 e
   cases dt with
   | func fd =>
     obtain ⟨n1, n2, n3, n4, n5, n6, n7, n8, n9, n10, n11, n12, n13, n14, n15⟩ := fd
     have e2 : (some (n1, n2, n3, n4, n5, n6, n7.map (·.1), n15) : FnY) = some (d.name, d.qual, d.params, .stmts d.body, d.scope, mainGlobals, d.clo, builtinsNs) := e
     simp only [Option.some.injEq, Prod.mk.injEq] at e2
     obtain ⟨h1, h2, h3, h4, h5, h6, h7, h8⟩ := e2
     subst h1 h2 h3 h4 h5 h6 h8
     obtain ⟨k1, k2⟩ := He.ba (show (PySem.W.codeIn K n13 d.qual && He.dflB K n8 (d.dvs K)) = true from c2)
     exact ⟨kp, oc, od, osl, n7, n8, n9, n10, n11, n12, n13, n14, h7, rfl, k1, He.dflB_ok k2⟩
   | _ => cases c2
def supB (P : Program) (K : PySem.W.Frag) (f C f2 : Addr) : Bool := (match K.lookup f with
 | some ⟨_, _, .func fd, _⟩ => (match fd.closure with
   | [(_, cc)] => (match K.lookup cc with
     | some ⟨_, _, .cell (some (.ref D)), _⟩ => decide (D = C)
     | _ => false)
   | _ => false) && (match fd.code with
   | .ref cda => (match K.lookup cda with
     | some ⟨_, _, .fields vs, _⟩ => (match (vs[2]? : Option Value) with
       | some (.str file _) => ((P.main.file : Str) == file)
       | _ => false)
     | _ => false)
   | _ => false)
 | _ => false) && ((PySem.W.clsIn K C).isSome && (decide (PySem.W.mroIn K C (.ref C) = some true) && (He.eqO (PySem.W.nsIn K mainGlobals "super") (some none) && (He.eqO (PySem.W.nsIn K cStatics "thirdparty.any") (some none) &&
   (He.eqO (PySem.W.ks_superIn K C C "__init__") (some (some (.ref f2))) && (decide (PySem.W.typeIn K (.ref f2) = some (.type "function")) && PySem.W.fnIn K f2))))))
theorem DefX.supD {P : Program} {K : PySem.W.Frag} {d : DefX} {C f2 : Addr} (e : d.obs K = d.val) (c : d.ok K = true) (hc : d.clo = [("__class__" : Str)]) (b : supB P K (d.ad K) C f2 = true) : ∃ fd, SupD P K d.name d.qual d.params d.body d.scope (d.dvs K) C f2 (d.ad K) fd := by
 obtain ⟨kp, oc, od, osl, cl, dV, kV, doc, pm, an, cdv, ct, h7, lk, k1, k2⟩ := DefX.get e c
 rw [hc] at h7
 obtain ⟨⟨nm, cc⟩, rfl⟩ : ∃ p, cl = [p] := by
   cases cl with
   | nil => simp at h7
   | cons p r => cases r with
     | nil => exact ⟨p, rfl⟩
     | cons _ _ => simp at h7
 obtain rfl : nm = ("__class__" : Str) := by simpa using h7
 unfold supB at b
 rw [lk] at b
 obtain ⟨b1, b⟩ := He.ba b
 obtain ⟨b2, b⟩ := He.ba b
 obtain ⟨b3, b⟩ := He.ba b
 obtain ⟨b4, b⟩ := He.ba b
 obtain ⟨b5, b⟩ := He.ba b
 obtain ⟨b6, b⟩ := He.ba b
 obtain ⟨b7, b8⟩ := He.ba b
 obtain ⟨a1, a2⟩ := He.ba b1
 have a1' : (match K.lookup cc with
     | some ⟨_, _, .cell (some (.ref D)), _⟩ => decide (D = C)
     | _ => false) = true := a1
 split at a1'
 · rename_i cl cld D csl hcc
   obtain rfl : D = C := of_decide_eq_true a1'
   cases cdv with
   | ref cda =>
     have a2' : (match K.lookup cda with
       | some ⟨_, _, .fields vs, _⟩ => (match (vs[2]? : Option Value) with
         | some (.str file _) => ((P.main.file : Str) == file)
         | _ => false)
       | _ => false) = true := a2
     split at a2'
     · rename_i ccl cdd vs ccs hcode
       split at a2'
       · rename_i file tf hvs
         exact ⟨_, ⟨oc, od, dV, kV, doc, pm, an, cda, ct, osl, cc, cl, cld, csl, ccl, cdd, vs, ccs, file, tf, rfl, lk, k1, hcc, hcode, hvs, a2', k2⟩, Option.isSome_iff_exists.mp b2, of_decide_eq_true b3, He.eqO_ok b4, He.eqO_ok b5, He.eqO_ok b6, of_decide_eq_true b7, b8, kp⟩
       · cases a2'
     · cases a2'
   | _ => cases (show false = true from a2)
 · cases a1'
def gp (K : PySem.W.Frag) (B f : Str) : Addr := match PySem.W.recIn K (He.ma K (He.ga K B) f) "property" with
 | some (.ref g :: _) => g
 | _ => 0
inductive Fx where
 | own (C B m : Str)
 | prop (C B f : Str)
 | okty (C : Str)
 | isi (C D : Str) (b : Bool)
 | sup (C B : Str)
 | gen (b : Program → PySem.W.Frag → Bool)
def Fx.ok (P : Program) (K : PySem.W.Frag) : Fx → Bool
 | .own C B m => He.eqO (PySem.W.findIn K (.ref (He.ga K C)) m) (some (some (.ref (He.ma K (He.ga K B) m)))) && (PySem.W.isFn K (.ref (He.ma K (He.ga K B) m)) && (PySem.W.fnIn K (He.ma K (He.ga K B) m) && PySem.W.noSeq K (He.ga K C)))
 | .prop C B f => He.eqO (PySem.W.findIn K (.ref (He.ga K C)) f) (some (some (.ref (He.ma K (He.ga K B) f)))) && (He.eqO (PySem.W.specialIn K (.ref (He.ma K (He.ga K B) f)) "__get__") (some (some (.builtin "property.__get__"))) &&
     (decide (PySem.W.takesIn K (.ref (He.ma K (He.ga K B) f)) = some true) && (match PySem.W.recIn K (He.ma K (He.ga K B) f) "property" with
       | some (.ref _ :: _) => true
       | _ => false)))
 | .okty C => He.eqO (PySem.W.findIn K (.ref (He.ga K C)) "__class__") (some (some (.builtin "object.__class__"))) && (He.eqO (PySem.W.specialIn K (.builtin "object.__class__") "__get__") (some (some (.builtin "getset_descriptor.__get__"))) &&
     (decide (PySem.W.takesIn K (.builtin "object.__class__") = some true) && decide (PySem.W.mroIn K (He.ga K C) (.type "object") = some true)))
 | .isi C D b => decide (PySem.W.kitOne K (.ref (He.ga K C)) (.ref (He.ga K D)) = some b)
 | .sup C B => supB P K (He.ma K (He.ga K C) "__init__") (He.ga K C) (He.ma K (He.ga K B) "__init__")
 | .gen b => b P K
section
variable {P : Program} {K : PySem.W.Frag}
theorem okty_ok {C : Str} (hc : Cls K (He.ga K C)) (h : (Fx.okty C).ok P K = true) : OkTy K (He.ga K C) := by
 obtain ⟨h1, h⟩ := He.ba h
 obtain ⟨h2, h⟩ := He.ba h
 obtain ⟨h3, h4⟩ := He.ba h
 exact ⟨hc, He.eqO_ok h1, He.eqO_ok h2, of_decide_eq_true h3, of_decide_eq_true h4⟩
theorem isi_ok {C D : Str} {b : Bool} (h : (Fx.isi C D b).ok P K = true) : PySem.W.kitOne K (.ref (He.ga K C)) (.ref (He.ga K D)) = some b := of_decide_eq_true h
end
abbrev AlX : Type := He.AlD × Bool × List FnY
def obsX (P : Program) (fa : List He.Fa) (fn : List He.DefD) (fx : List Fx) (dx : List DefX) (K : PySem.W.Frag) : AlX := (He.obsD fa fn K, (fx.all fun f => f.ok P K) && dx.all fun d => d.ok K, dx.map fun d => d.obs K)
def valX (fn : List He.DefD) (dx : List DefX) : AlX := (He.valD fn, true, dx.map DefX.val)
def SaysX (P : Program) (fa : List He.Fa) (fn : List He.DefD) (fx : List Fx) (dx : List DefX) (K : PySem.W.Frag) : Prop := obsX P fa fn fx dx K = valX fn dx
def obsXG (P : Program) (n : Nat) (fa : List He.Fa) (fn : List He.DefD) (fx : List Fx) (dx : List DefX) (g : Addr → Option Obj) : AlX := obsX P fa fn fx dx (He.frG g (cStatics :: He.asD g n))
def hookX (P : Program) (n : Nat) (fa : List He.Fa) (fn : List He.DefD) (fx : List Fx) (dx : List DefX) : PySem.W.Hook where
 α := AlX
 obs := fun s => obsXG P n fa fn fx dx s.heap.get?
 val := fun _ => valX fn dx
 says := fun _ h => ∃ K : PySem.W.Frag, K.In h ∧ SaysX P fa fn fx dx K
 of := fun _ _ e => ⟨_, He.frG_in, e⟩
 keeps := fun _ _ _ ⟨K, hK, c⟩ k => ⟨K, PySem.W.Frag.In.keeps hK k, c⟩
section
variable {P : Program} {fa : List He.Fa} {fn : List He.DefD} {fx : List Fx} {dx : List DefX} {K : PySem.W.Frag}
theorem SaysX.d (c : SaysX P fa fn fx dx K) : He.SaysD fa fn K := congrArg (fun z : AlX => z.1) c
theorem SaysX.more (c : SaysX P fa fn fx dx K) : (fx.all fun f => f.ok P K) = true ∧ (dx.all fun d => d.ok K) = true := He.ba (congrArg (fun z : AlX => z.2.1) c)
theorem SaysX.fact (c : SaysX P fa fn fx dx K) (i : Nat) {f : Fx} (h : fx[i]? = some f := by rfl) : f.ok P K = true := List.all_eq_true.mp c.more.1 f (List.mem_of_getElem? h)
theorem SaysX.def_ (c : SaysX P fa fn fx dx K) (i : Nat) {d : DefX} (h : dx[i]? = some d := by rfl) : d.obs K = d.val ∧ d.ok K = true := by
 refine ⟨?_, List.all_eq_true.mp c.more.2 d (List.mem_of_getElem? h)⟩
 have e : dx.map (fun d => d.obs K) = dx.map DefX.val := congrArg (fun z : AlX => z.2.2) c
 have e2 : (dx.map fun d => d.obs K)[i]? = (dx.map DefX.val)[i]? := by rw [e]
 rw [List.getElem?_map, List.getElem?_map, h] at e2
 exact Option.some.inj e2
end
end Hx
end Pu
namespace Pu
open PySem PySem.Spec L2
open PyProof.Rows hiding St
def pickU {α : Type} (xs : List α) (lo hi st : Option Int) : List α :=
 (sliceRange (sliceBounds lo hi st xs.length).1 (sliceBounds lo hi st xs.length).2.1 (sliceBounds lo hi st xs.length).2.2).filterMap fun i => xs[i]?
noncomputable def fSlK (k : Int) : U → Option Int → Option Int → Sto → Option (U × Sto) := fun x lo hi S => match asList S x with
 | some xs => if (pickU xs lo hi (some k)).length ≤ 100000 then (allV (pickU xs lo hi (some k))).map fun ds => (.v (.lst ds), S) else none
 | none => none
section
variable {X : Cx} {cl : Nat → Addr} {W : WX} {e : Expr} {m : ME} {lo hi : Option Expr} {mlo mhi : MO} {pos p2 p3 : Pos} {k : Int} {j : Nat}
end
end Pu
namespace Pu
open PySem PySem.Spec L2
open PyProof.Rows hiding St
open PySem.W (ksFn)
section
variable {P : Program} {K : PySem.W.Frag} {x qual : Str} {params : Arguments} {body : List Stmt} {scope : Scope} {dvs : List V} {kws : List (Str × V)} {C f2 f : Addr} {fd : FuncData} {ps : List Str}
theorem SupD.binds1 (Sd : SupD P K x qual params body scope dvs C f2 f fd) (n j : Nat) (hd : dvs ≠ []) (hn : n + (dvs.length - j) = ps.length)
   (h : ∀ (T cda cc : Addr) (kV doc pm : Value) (an : Option Addr) (ct : Value) (us its : List Value), us.length = n → its.length = dvs.length →
     ∃ k, bindArgs (ksFn x qual params body scope (.ref T) kV doc pm an (.ref cda) ct cc) ⟨us, []⟩ = seqItems? (.ref T) >>= k ∧ k (some its.toArray) = pure (ps.zip (us ++ its.drop j))) : ∃ ds, Vals (dvs.drop j) ds ∧ Binds K fd ps ds := by
 obtain ⟨oc, od, dV, kV, doc, pm, an, cda, ct, osl, cc, cl, cld, csl, ccl, cdd, vs, ccs, file, tf, rfl, lk, k1, hcc, hcode, hvs, hf, hD⟩ := Sd.ex
 rcases hD with ⟨e, _⟩ | ⟨_, T, o, its, m, rfl, lT, oT, rT⟩
 · exact absurd e hd
 · have l1 : its.length = dvs.length := rT.length.symm
   refine ⟨its.drop j, rT.drop j, fun s us X hlen => BindsTo.of_looks fun M => ?_⟩
   obtain ⟨k, e1, e2⟩ := h T cda cc kV doc pm an ct us its (by rw [List.length_append, List.length_drop, l1] at hlen; omega) l1
   rw [e1]; exact looks_items X lT oT (.of_pure e2)
theorem SupD.kb (Sd : SupD P K x qual params body scope dvs C f2 f fd) (n : Nat) (ks : List Str) (hd : dvs ≠ [])
   (h : ∀ (T cda cc : Addr) (kV doc pm : Value) (an : Option Addr) (ct : Value) (us its ws : List Value), us.length = n → its.length = dvs.length → ws.length = ks.length →
     ∃ k, bindArgs (ksFn x qual params body scope (.ref T) kV doc pm an (.ref cda) ct cc) ⟨us, ks.zip ws⟩ = seqItems? (.ref T) >>= k ∧ k (some its.toArray) = pure (ps.zip (us ++ ws))) : KBn K fd ps n ks (fun us ws => us ++ ws) (fun vs zs => vs ++ zs) := by
 obtain ⟨oc, od, dV, kV, doc, pm, an, cda, ct, osl, cc, cl, cld, csl, ccl, cdd, vs, ccs, file, tf, rfl, lk, k1, hcc, hcode, hvs, hf, hD⟩ := Sd.ex
 rcases hD with ⟨e, _⟩ | ⟨_, T, o, its, m, rfl, lT, oT, rT⟩
 · exact absurd e hd
 · refine ⟨fun s us ws X h1 h2 => BindsTo.of_looks fun M => ?_, fun a b => a.append b⟩
   obtain ⟨k, e1, e2⟩ := h T cda cc kV doc pm an ct us its ws h1 rT.length.symm h2
   rw [e1]; exact looks_items X lT oT (.of_pure e2)
theorem funD_kb (F : FunD K x qual params body scope dvs kws f fd) (n : Nat) (ks : List Str) (hd : dvs ≠ [])
   (h : ∀ (T : Addr) (kV doc pm : Value) (an : Option Addr) (cdv ct : Value) (us its ws : List Value), us.length = n → its.length = dvs.length → ws.length = ks.length →
     ∃ k, bindArgs (PySem.W.fnOf x qual params body scope (.ref T) kV doc pm an cdv ct) ⟨us, ks.zip ws⟩ = seqItems? (.ref T) >>= k ∧ k (some its.toArray) = pure (ps.zip (us ++ ws))) : KBn K fd ps n ks (fun us ws => us ++ ws) (fun vs zs => vs ++ zs) := by
 obtain ⟨oc, od, dV, kV, doc, pm, an, cdv, ct, osl, rfl, lk, hcd, hD, hK⟩ := F.ex
 rcases hD with ⟨e, _⟩ | ⟨_, T, o, its, m, rfl, lT, oT, rT⟩
 · exact absurd e hd
 · refine ⟨fun s us ws X h1 h2 => BindsTo.of_looks fun M => ?_, fun a b => a.append b⟩
   obtain ⟨k, e1, e2⟩ := h T kV doc pm an cdv ct us its ws h1 rT.length.symm h2
   rw [e1]; exact looks_items X lT oT (.of_pure e2)
end
theorem sup_q {P : Program} {w : World} {K : PySem.W.Frag} {mg : Str → Option Value} {base : Heap} {cl : Nat → Addr} {c n k : Nat} {f : Addr} {fd : FuncData} {ps : List Str} {mf : List U → Sto → R U} (hn : ps.length = n)
   (h : FnOk P w K mg base (L2N.CX P w) k f fd ps (fun vs H Q E => vs.length = ps.length ∧ (∃ x dx fs ws, vs = .ref x :: ws ∧ H x = some (.ins (cl c) dx fs)) ∧ SpM ⟨P, w, K, cl⟩ n mf vs H (fun _ H' => Q .non H') E)) :
   FnOk P w K mg base (L2N.CX P w) k f fd ps (SpM ⟨P, w, K, cl⟩ n (supN c mf)) :=
 h.imp fun vs H Q E z => by
   obtain ⟨h1, h2, h3⟩ := sup_sp z
   exact ⟨h1.trans hn.symm, h2, h3⟩
end Pu
namespace Pu
open PySem PySem.Spec L2
open PyProof.Rows hiding St
theorem nil_vals {ds : List Value} (h : Vals [] ds) : ds = [] := by cases h; rfl
def fNeg : F1 := fun u S => match u with
 | .v (.int i) => some (.v (.int (-i)), S)
 | _ => none
theorem uq_neg {X : Cx} {cl : Nat → Addr} : UnR X (unaryOp .USub) (liftUn (bx X cl) fNeg) := by
 intro pins s σ H x v Q I rx ⟨ι, F, S, a, rl, za, fi⟩
 unfold fNeg at fi
 split at fi
 · rename_i i
   cases za with
   | v za =>
     cases za
     exact un_neg pins s σ H _ v Q I rx ⟨i, rfl, fi.val rl (.v (.int _))⟩
 · exact fi.no
def fAddS : F2 := fun x y S => match asLst S x, asLst S y with
 | some xs, some ys => if xs.length + ys.length ≤ 100000 then some (.r S.length, S ++ [.lst (xs ++ ys)]) else none
 | _, _ => none
end Pu
namespace Pu
open PySem L2
section
variable {q : U → Sto → Prop} {S : Sto} {X : XP} {ρ : Env'} {Q : Post}
@[simp ↓] theorem wpr_noX (r : R U) : wpr (noX r) q X = wpr r q (fun _ _ _ => False) := by cases r <;> rfl
@[simp ↓] theorem w_prop (cs : List Nat) (mf : List U → Sto → R U) (mo : ME) : wpr (eProp cs mf mo ρ S) q X = wpr (mo ρ S) (fun x S1 => isIns S1 x fun c _ => c ∈ cs ∧ wpr (mf [x] S1) q (fun _ _ _ => False)) X := by
 simp only [eProp, wpr_bind]
 congr 1; funext x S1
 unfold isIns
 cases asIns S1 x with
 | none => rfl
 | some p => by_cases h : p.1 ∈ cs <;> simp [h]
@[simp ↓] theorem w_sup (c : Nat) (mf : List U → Sto → R U) (x : U) (us : List U) : wpr (supN c mf (x :: us) S) q X = isIns S x fun c' _ => c' = c ∧ wpr (mf (x :: us) S) (fun _ S1 => q (.v .non) S1) X := by
 unfold supN isIns
 cases hx : asIns S x with
 | none => simp [hx]
 | some p =>
   by_cases h : p.1 = c
   · simp only [hx, h, if_true, wpr_bind, wpr_ok, true_and]
   · simp [hx, h]
@[simp ↓] theorem w_iChr (m : ME) (k : IterV → Sto → Prop) : wpr (iChr m ρ S) k X = wpr (m ρ S) (fun u S1 => match u with
   | .v (.str z) => k ⟨chrs z, none⟩ S1
   | _ => False) X := by
 simp only [iChr, wpr_bind]
 congr 1; funext u S1
 cases u with
 | r n => rfl
 | v d => cases d <;> rfl
@[simp ↓] theorem v_neg (i : Int) : wpO (fNeg (.v (.int i)) S) q = q (.v (.int (-i))) S := id rfl
@[simp ↓] theorem v_insert (n : Nat) (i : Int) (u : U) : wpO (fInsert (.r n) [.v (.int i), u] S) q = cellL S[n]? fun xs => (xs.length < 100000 ∧ 0 ≤ i ∧ i < 1000000) ∧ q (.v .non) (S.set n (.lst (xs.take i.toNat ++ [u] ++ xs.drop i.toNat))) := by
 cases h : S[n]? with
 | none => simp [fInsert, cellL, h]
 | some c =>
   cases c with
   | lst xs => by_cases hh : xs.length < 100000 ∧ 0 ≤ i ∧ i < 1000000 <;> simp [fInsert, cellL, h, hh]
   | _ => simp [fInsert, cellL, h]
theorem while_inv {c : MT} {body : MS} (I : Nat → Env' → Sto → Prop) (hs : ∀ (n : Nat) (ρ : Env') (S : Sto), I n ρ S → wpr (c ρ S) (fun b S1 => if b = true then wps (body ρ S1) { nx := fun ρ2 S2 => ∃ m, m < n ∧ I m ρ2 S2, ct := fun ρ2 S2 => ∃ m, m < n ∧ I m ρ2 S2, bk := Q.nx, rt := Q.rt, ex := Q.ex } else Q.nx ρ S1) (fun k fs S => Q.ex k fs ρ S)) :
   ∀ (n : Nat) (ρ : Env') (S : Sto), I n ρ S → ∃ k, wps (whileN c body k ρ S) Q := by
 intro n
 induction n using Nat.strongRecOn with
 | ind n ih =>
   intro ρ S h
   have h1 := hs n ρ S h
   cases qc : c ρ S with
   | er => rw [qc] at h1; exact h1.elim
   | ex k fs S1 => exact ⟨1, by rw [qc] at h1; simp only [whileN, qc, R.st_ex]; exact h1⟩
   | ok b S1 =>
     rw [qc] at h1
     simp only [wpr_ok] at h1
     cases b with
     | false => exact ⟨1, by simp only [whileN, qc, R.st_ok, Bool.false_eq_true, if_false] at h1 ⊢; exact h1⟩
     | true =>
       simp only [if_true] at h1
       cases qb : body ρ S1 with
       | nx ρ2 S2 =>
         rw [qb] at h1
         obtain ⟨m, hm, hI⟩ := (show ∃ m, m < n ∧ I m ρ2 S2 from h1)
         obtain ⟨k, hk⟩ := ih m hm ρ2 S2 hI
         exact ⟨k + 1, by simp only [whileN, qc, R.st_ok, if_true, qb]; exact hk⟩
       | ct ρ2 S2 =>
         rw [qb] at h1
         obtain ⟨m, hm, hI⟩ := (show ∃ m, m < n ∧ I m ρ2 S2 from h1)
         obtain ⟨k, hk⟩ := ih m hm ρ2 S2 hI
         exact ⟨k + 1, by simp only [whileN, qc, R.st_ok, if_true, qb]; exact hk⟩
       | bk ρ2 S2 => exact ⟨1, by rw [qb] at h1; simp only [whileN, qc, R.st_ok, if_true, qb]; exact h1⟩
       | rt u S2 => exact ⟨1, by rw [qb] at h1; simp only [whileN, qc, R.st_ok, if_true, qb]; exact h1⟩
       | ex k fs ρ2 S2 => exact ⟨1, by rw [qb] at h1; simp only [whileN, qc, R.st_ok, if_true, qb]; exact h1⟩
       | er => rw [qb] at h1; exact h1.elim
theorem s_while (c : MT) (body : MS) (I : Nat → Env' → Sto → Prop) (n : Nat) (h0 : I n ρ S) (hs : ∀ (n : Nat) (ρ : Env') (S : Sto), I n ρ S → wpr (c ρ S) (fun b S1 => if b = true then wps (body ρ S1) { nx := fun ρ2 S2 => ∃ m, m < n ∧ I m ρ2 S2, ct := fun ρ2 S2 => ∃ m, m < n ∧ I m ρ2 S2, bk := Q.nx, rt := Q.rt, ex := Q.ex } else Q.nx ρ S1) (fun k fs S => Q.ex k fs ρ S)) :
   wps (sWhile c body ρ S) Q := by
 obtain ⟨k, hk⟩ := while_inv I hs n ρ S h0
 have hne : whileN c body k ρ S ≠ .er := fun z => by rw [z] at hk; exact hk
 rw [sWhile_eq hne]
 exact hk
end
end Pu
namespace Pu
open PySem L2
section
variable {q : U → Sto → Prop} {S : Sto} {X : XP} {ρ : Env'} {Q : Post}
@[simp] theorem allB_map (bs : List Bool) : allB (bs.map fun b => U.v (.bl b)) = some bs := by
 induction bs with
 | nil => rfl
 | cons b bs ih => simp [allB, ih]
theorem v_all (bs : List Bool) : wpO (fAll [.v (.lst (bs.map D.bl))] S) q = q (.v (.bl (bs.all id))) S := by
 unfold fAll asList
 simp only [List.map_map]
 rw [show (U.v ∘ D.bl) = fun b => U.v (.bl b) from rfl, allB_map]
 rfl
theorem v_isX (tab : Nat → Nat → Option Bool) (u : U) (c : Nat) : wpO (fIsX tab [u, .v (.cls c)] S) q = isIns S u fun c' _ => wpo (tab c' c) fun b => q (.v (.bl b)) S := by
 unfold fIsX isIns
 simp only
 cases asIns S u with
 | none => rfl
 | some p => simp only; cases tab p.1 c <;> rfl
theorem v_ltD {a b : D} {p r : PyData} (h1 : pyOf a = some p) (h2 : pyOf b = some r) (ha : isDat a = true) (hb : isDat b = true) (hal : PySem.W.alike p r = true) (hn : a ≠ .non) : wpO (fLtD (.v a) (.v b) S) q = q (.v (.bl (PySem.W.dataLt p r))) S := by
 unfold fLtD
 simp only [h1, h2, ha, hb, hal, and_self, true_and, ne_eq, hn, not_false_eq_true, if_true]
 rfl
theorem v_ixR {n : Nat} {xs : List U} (i : Int) (h : S[n]? = some (.lst xs)) : wpO (fIxX (.r n) (.v (.int i)) S) q = wpo (atI xs i) fun w => q w S := by
 rw [ixX_q _ _ (by simp) (by unfold asDic; simp only [h])]
 simp [h]
@[simp ↓] theorem v_ixR0 (S : Sto) (xs : List U) (l : Sto) (i : Int) : wpO (fIxX (.r S.length) (.v (.int i)) (S ++ .lst xs :: l)) q = wpo (atI xs i) fun w => q w (S ++ .lst xs :: l) := v_ixR i (by simp)
end
end Pu
namespace Pu
theorem asc_ext {α : Type} {lt : α → α → Prop} (irr : ∀ a, ¬ lt a a) (tr : ∀ a b c, lt a b → lt b c → lt a c) : ∀ {xs ys : List α}, xs.Pairwise lt → ys.Pairwise lt → (∀ a, a ∈ xs ↔ a ∈ ys) → xs = ys
 | [], [], _, _, _ => rfl
 | [], y :: ys, _, _, h => by have := (h y).mpr (by simp); simp at this
 | x :: xs, [], _, _, h => by have := (h x).mp (by simp); simp at this
 | x :: xs, y :: ys, hx, hy, h => by
   rw [List.pairwise_cons] at hx hy
   have exy : x = y := by
     rcases List.mem_cons.mp ((h x).mp (by simp)) with e | e
     · exact e
     · rcases List.mem_cons.mp ((h y).mpr (by simp)) with e2 | e2
       · exact e2.symm
       · exact absurd (tr _ _ _ (hx.1 y e2) (hy.1 x e)) (irr x)
   subst exy
   congr 1
   refine asc_ext irr tr hx.2 hy.2 fun a => ⟨fun ha => ?_, fun ha => ?_⟩
   · rcases List.mem_cons.mp ((h a).mp (List.mem_cons_of_mem _ ha)) with e | e
     · subst e; exact absurd (hx.1 a ha) (irr a)
     · exact e
   · rcases List.mem_cons.mp ((h a).mpr (List.mem_cons_of_mem _ ha)) with e | e
     · subst e; exact absurd (hy.1 a ha) (irr a)
     · exact e
end Pu
namespace Pu
open PySem L2
def gApp (us ws : List U) : List U := us ++ ws
end Pu
namespace Pu
open PySem L2
section
variable {q : U → Sto → Prop} {S : Sto} {X : XP} {ρ : Env'} {Q : Post}
def tupV (o : Option U) (k : List D → Prop) : Prop := match o with
 | some (.v (.tup ds)) => k ds
 | _ => False
@[simp ↓] theorem w_ixO (cs : List Nat) (mf : List U → Sto → R U) (mo mi : ME) : wpr (eIxO cs mf mo mi ρ S) q X = wpr (mo ρ S) (fun x S1 => wpr (mi ρ S1) (fun i S2 => isIns S2 x fun c _ => c ∈ cs ∧ wpr (mf [x, i] S2) q X) X) X := by
 simp only [eIxO, wpr_bind]
 congr 1; funext x S1; congr 1; funext i S2
 unfold isIns
 cases asIns S2 x with
 | none => rfl
 | some p => obtain ⟨c, fs⟩ := p; simp only; by_cases h : c ∈ cs <;> simp [h]
end
end Pu
namespace Pu
open PySem PySem.Spec L2
open PyProof.Rows hiding St
section
variable {prog : Program} {w : World} {A : Around} {E : Value → Shared → Prop} {s : Shared}
end
def fBoolO (cs : List Nat) (mf : List U → Sto → R U) : FA := fun us S => match us with
 | [x] => (match asIns S x with
   | some (c', _) => if c' ∈ cs then (match mf [x] S with
     | .ok (.v (.bl b)) S' => some (.v (.bl b), S')
     | _ => none) else none
   | none => none)
 | _ => none
def fBoolV : FA := fun us S => match us with
 | [.v (.bl b)] => some (.v (.bl b), S)
 | _ => none
section
variable {X : Cx} {cl : Nat → Addr} {k : Nat} {f : Addr} {fd : FuncData} {ps : List Str} {mf : List U → Sto → R U} {cs : List Nat}
end
section
variable {q : U → Sto → Prop} {S : Sto}
theorem v_boolO (cs : List Nat) (mf : List U → Sto → R U) (x : U) {b : Bool} (h : mf [x] S = .ok (.v (.bl b)) S) : wpO (fBoolO cs mf [x] S) q = isIns S x fun c _ => c ∈ cs ∧ q (.v (.bl b)) S := by
 unfold fBoolO isIns
 simp only
 cases asIns S x with
 | none => rfl
 | some p => obtain ⟨c, fs⟩ := p; simp only; by_cases hc : c ∈ cs <;> simp [hc, h]
end
end Pu
namespace Pu
open PySem PySem.Spec L2
open PyProof.Rows hiding St
abbrev BW := Program → World → Around → (Value → Shared → Prop) → Value → Env → (Shared → Prop) → Shared → Prop
structure CompAt (e : Expr) (d : Nat) (t i : Expr) (ifs : List Expr) (bw : BW) : Prop where
 qt : ∀ it acc env, (Code.compLoop e d it acc env).quiet = true
 uL : ∀ (A : Around) it acc env, A.under (.compLoop e d it acc env) = A
 uS : ∀ (A : Around) it acc env, A.under (.compStart e d it acc env) = A
 dL : ∀ (P : Program) (w : World) it acc env, (model P w).den (.compLoop e d it acc env) = (compTurn e d it acc env).onRaise (fun x => do noteFrame x env; theTreesLotGoes x)
 dS : ∀ (P : Program) (w : World) it acc env, (model P w).den (.compStart e d it acc env) = (compStart e d it acc env).onRaise (fun x => do noteFrame x env; standAt theWindowsPlace)
 cl : (clausesOf e)[d]? = some ⟨t, i, ifs, 0⟩
 turn : ∀ {P : Program} {w : World} {A : Around} {E : Value → Shared → Prop} {s : Shared} {it acc : Value} {env : Env} {Q : PySem.Fin → Shared → Prop},
   wpAny (model P w) A (pyNext it) (fun r s1 => match r with
     | none => Q (.done .next) s1
     | some v => wpAny (model P w) A (letOwnedTupleGo t it v) (fun _ s2 => wpAny (model P w) A (assign t env v) (fun _ s3 =>
       wpAny (model P w) A (forIn ifs true fun c r => if r = true then do let ok ← isTrue c env (eval c env); pure (ForInStep.yield ok) else pure (ForInStep.yield r)) (fun ok s4 =>
         if ok = true then bw P w A E acc env (fun s5 => Q (.again (.compLoop e d it acc env)) s5) s4 else Q (.again (.compLoop e d it acc env)) s4) E s3) E s2) E s1) E s →
   wpAny (model P w) A (compTurn e d it acc env) Q E s
def bwNext (e : Expr) (d : Nat) (i : Expr) : BW := fun P w A E acc env Q s => (∀ x, foldedSetIterable i env x = pure x) ∧ wpAny (model P w) A (eval i env) (fun x s1 => wpAny (model P w) A (pyIter x) (fun it s2 =>
 codeAny (model P w) A (.compStart e d it acc env) (fun r s3 => match r with
   | .ok _ => Q s3
   | .error _ => False) s2) E s1) E s
def bwL (elt : Expr) : BW := fun P w A E acc env Q s => wpAny (model P w) A (eval elt env) (fun x s1 => wpAny (model P w) A (call (.builtin "list.append") [acc, x]) (fun _ s2 => Q s2) E s1) E s
def bwD (k v : Expr) : BW := fun P w A E acc env Q s => ∃ D, acc = .ref D ∧ wpAny (model P w) A (eval k env) (fun x s1 => wpAny (model P w) A (eval v env) (fun y s2 => wpAny (model P w) A (dictSet D x y) (fun _ s3 => Q s3) E s2) E s1) E s
section
variable {elt kx vx t0 i0 t1 i1 t2 i2 : Expr} {f0 f1 f2 : List Expr} {sc : Scope} {pos : Pos}
def bdNext (e : Expr) (d : Nat) (i : Expr) (d0 : Nat) (it acc : Value) (env : Env) : Sem PySem.Fin := do
 let x ← eval i env
 standAt i.pos
 let y ← foldedSetIterable i env x
 let _ ← runOwn (.compStart e d (← holding [y] (pyIter y)) acc env) env
 again (.compLoop e d0 it acc env)
def bdL (elt e : Expr) (d0 : Nat) (it acc : Value) (env : Env) : Sem PySem.Fin := (do let _ ← call (.builtin "list.append") [acc, ← eval elt env]) >>= fun _ => again (.compLoop e d0 it acc env)
abbrev L2' (elt t0 i0 t1 i1 : Expr) (f0 f1 : List Expr) (sc : Scope) (pos : Pos) : Expr := .ListComp elt [⟨t0, i0, f0, 0⟩, ⟨t1, i1, f1, 0⟩] sc pos
abbrev L3 (elt t0 i0 t1 i1 t2 i2 : Expr) (f0 f1 f2 : List Expr) (sc : Scope) (pos : Pos) : Expr := .ListComp elt [⟨t0, i0, f0, 0⟩, ⟨t1, i1, f1, 0⟩, ⟨t2, i2, f2, 0⟩] sc pos
def bdD (k v e : Expr) (d0 : Nat) (it acc : Value) (env : Env) : Sem PySem.Fin := (do
 let kv ← eval k env
 let vv ← holding [kv] (eval v env)
 match acc with
 | .ref d => do
   standAt { k.pos with endLine := v.pos.endLine, endCol := v.pos.endCol }
   holding [kv, vv] (dictSet d kv vv)
 | _ => unsupported "internal:dictcomp") >>= fun _ => again (.compLoop e d0 it acc env)
abbrev C1 (kx vx t0 i0 : Expr) (f0 : List Expr) (sc : Scope) (pos : Pos) : Expr := .DictComp kx vx [⟨t0, i0, f0, 0⟩] sc pos
abbrev C3 (kx vx t0 i0 t1 i1 t2 i2 : Expr) (f0 f1 f2 : List Expr) (sc : Scope) (pos : Pos) : Expr := .DictComp kx vx [⟨t0, i0, f0, 0⟩, ⟨t1, i1, f1, 0⟩, ⟨t2, i2, f2, 0⟩] sc pos
end
noncomputable def lcL (src : Option Nat) (c0 : Option Cell) (g : MG) (t : MT) (mb : Env' → Sto → R Unit) : List U → Env' → Sto → R Unit
 | [], _, S => .ok () S
 | u :: us, ρ, S => match g u ρ with
   | none => .er
   | some ρ1 => (noEx (t ρ1 S)).bind fun b S1 => if b = true then (noEx (mb ρ1 S1)).bind fun _ S2 => if srcOk src c0 S2 then lcL src c0 g t mb us ρ S2 else .er
     else if srcOk src c0 S1 then lcL src c0 g t mb us ρ S1 else .er
noncomputable def cNext (ws : List Nat) (mi : MI) (g : MG) (t : MT) (mb : Env' → Sto → R Unit) : Env' → Sto → R Unit := fun ρ S => (noEx (mi ρ S)).bind fun iv S1 => lcL iv.src (iv.src.bind fun n => S1[n]?) g t mb iv.items (wipeE ρ ws) S1
def cItem (n : Nat) (e : ME) : Env' → Sto → R Unit := fun ρ S => (noEx (e ρ S)).bind fun y S1 => match S1[n]? with
 | some (.lst acc) => if acc.length < 100000 then .ok () (S1.set n (.lst (acc ++ [y]))) else .er
 | _ => .er
def BodyOk (Y : Cx) (cl : Nat → Addr) (bw : BW) (ws : List Nat) (n : Nat) (D : Addr) (m : Env' → Sto → R Unit) : Prop :=
 ∀ (pins : List (Addr × Obj)) (s : Shared) (σ : L2.St) (H : Hp) (ι : List Addr) (F : Addr → Prop) (S S' : Sto) (ρ : Env') (K : Shared → Prop) (E : Value → Shared → Prop), Inv Y pins σ H s → Rel (bx Y cl) ι F S H → REnv (bx Y cl) ι F H σ ρ → ι[n]? = some D → m ρ S = .ok () S' →
   (∀ s' ι' F' H', Inv Y pins (wipe σ ws) H' s' → Evo ι F H ι' F' H' → Rel (bx Y cl) ι' F' S' H' → K s') → bw Y.prog Y.w Y.A E (.ref D) Y.env K s
section
variable {Y : Cx} {cl : Nat → Addr} {e t i : Expr} {ifs : List Expr} {bw : BW} {d n : Nat} {D : Addr} {ws ws1 js : List Nat} {g : MG} {tm : MT} {mb : Env' → Sto → R Unit}
end
end Pu
namespace Pu
open PySem PySem.Spec L2
open PyProof.Rows hiding St
noncomputable def cKey (n : Nat) (k e : ME) : Env' → Sto → R Unit := fun ρ S => (noEx (k ρ S)).bind fun x S1 => (noEx (e ρ S1)).bind fun y S2 => match x with
 | .v (.tup ks) => (match S2[n]? with
   | some (.dic kvs) => if isKey (.tup ks) = true ∧ kvs.length < 100000 then .ok () (S2.set n (.dic (dput kvs (.tup ks) y))) else .er
   | _ => .er)
 | _ => .er
section
variable {Y : Cx} {cl : Nat → Addr} {e t i : Expr} {ifs : List Expr} {bw : BW} {d n : Nat} {D : Addr} {ws ws1 js : List Nat} {g : MG} {tm : MT} {mb : Env' → Sto → R Unit}
end
end Pu
namespace Pu
open PySem PySem.Spec L2
open PyProof.Rows hiding St
structure NewC (X : Cx) (cl : Nat → Addr) (mk : Sem Value) (o0 : Obj) (ho : Addr → HO) (c0 : Cell) : Prop where
 run : ∀ {A : Around} {E : Value → Shared → Prop} {s : Shared} {Q : Value → Shared → Prop}, Q (.ref s.heap.objs.size) { s with heap := s.heap.push o0 } → wpAny (model X.prog X.w) A mk Q E s
 laid : ∀ {pins : List (Addr × Obj)} {σ : L2.St} {H : Hp} {s : Shared}, Inv X pins σ H s → Inv X pins σ (upd H s.heap.objs.size (ho s.heap.objs.size)) { s with heap := s.heap.push o0 }
 own : ∀ D x, ho D ≠ .own x
 cell : ∀ (ι : List Addr) (F : Addr → Prop) (H : Hp) (D : Addr), H D = some (ho D) → CellOk (bx X cl) ι F H D c0
noncomputable def cRun (c0 : Cell) (ws : List Nat) (mi : MI) (g : MG) (t : MT) (mb : Nat → Env' → Sto → R Unit) (kf : Sto → Unit → Sto → R U) : ME := fun ρ S => (mi ρ S).bind fun iv S1 =>
 if srcOk iv.src (iv.src.bind fun n => S1[n]?) (S1 ++ [c0]) then (noEx (lcL iv.src (iv.src.bind fun n => S1[n]?) g t (mb S1.length) iv.items (wipeE ρ ws) (S1 ++ [c0]))).bind (kf S1) else .er
section
variable {X : Cx} {cl : Nat → Addr} {W : WX} {e t i : Expr} {ifs : List Expr} {gs : List Comprehension} {bw : BW} {ws1 js : List Nat} {g : MG} {tm : MT} {mb : Nat → Env' → Sto → R Unit} {kf : Sto → Unit → Sto → R U} {mi : MI} {scope : Scope} {own : List (Str × Nat)} {mk : Sem Value} {o0 : Obj} {ho : Addr → HO} {c0 : Cell}
end
end Pu
namespace Pu
open PySem PySem.Spec L2
open PyProof.Rows hiding St
def kS (S1 : Sto) (_ : Unit) (S2 : Sto) : R U := .ok (.r S1.length) S2
noncomputable def eL2 (kf : Sto → Unit → Sto → R U) (ws ws1 : List Nat) (mi : MI) (g : MG) (t : MT) (mi1 : MI) (g1 : MG) (t1 : MT) (e : ME) : ME := cRun (.lst []) ws mi g t (fun n => cNext ws1 mi1 g1 t1 (cItem n e)) kf
noncomputable def eL3 (kf : Sto → Unit → Sto → R U) (ws ws1 ws2 : List Nat) (mi : MI) (g : MG) (t : MT) (mi1 : MI) (g1 : MG) (t1 : MT) (mi2 : MI) (g2 : MG) (t2 : MT) (e : ME) : ME := cRun (.lst []) ws mi g t (fun n => cNext ws1 mi1 g1 t1 (cNext ws2 mi2 g2 t2 (cItem n e))) kf
noncomputable def eD1 (ws : List Nat) (mi : MI) (g : MG) (t : MT) (k e : ME) : ME := cRun (.dic []) ws mi g t (fun n => cKey n k e) kS
noncomputable def eD3 (ws ws1 ws2 : List Nat) (mi : MI) (g : MG) (t : MT) (mi1 : MI) (g1 : MG) (t1 : MT) (mi2 : MI) (g2 : MG) (t2 : MT) (k e : ME) : ME := cRun (.dic []) ws mi g t (fun n => cNext ws1 mi1 g1 t1 (cNext ws2 mi2 g2 t2 (cKey n k e))) kS
section
variable {X : Cx} {cl : Nat → Addr} {W : WX}
def KfOk (X : Cx) (cl : Nat → Addr) (W : WX) (ho : Addr → HO) (kf : Sto → Unit → Sto → R U) : Prop := ∀ (σ : L2.St) (Q : VK) (S1 S' : Sto) (ι1 : List Addr) (F1 : Addr → Prop) (H1 : Hp) (ι' : List Addr) (F' : Addr → Prop) (H' : Hp) (D : Addr), Rel (bx X cl) ι1 F1 S1 H1 → H1 D = none → Evo (ι1 ++ [D]) F1 (upd H1 D (ho D)) ι' F' H' → Rel (bx X cl) ι' F' S' H' →
     Out (bx X cl) W σ ι1 F1 H1 (RepU (bx X cl)) Q (kf S1 () S') → Q (.ref D) H'
variable {e t i : Expr} {ifs : List Expr} {gs : List Comprehension} {bw : BW} {ws1 js : List Nat} {g : MG} {tm : MT} {mb : Nat → Env' → Sto → R Unit} {kf : Sto → Unit → Sto → R U} {mi : MI} {scope : Scope} {own : List (Str × Nat)} {mk : Sem Value} {o0 : Obj} {ho : Addr → HO} {c0 : Cell} {pos' py spos : Pos} {k : Nat} {y : Str}
variable {elt kx vx t0 i0 t1 i1 t2 i2 : Expr} {f0 f1 f2 : List Expr} {pos : Pos} {ws2 js1 js2 : List Nat} {g1 g2 : MG} {tm1 tm2 : MT} {mi1 mi2 : MI} {me mk0 : ME}
end
end Pu
namespace Pu
open PySem PySem.Spec L2
open PyProof.Rows hiding St
section
variable {X : Cx} {pins : List (Addr × Obj)} {σ : L2.St} {H : Hp} {s : Shared} {d : Addr} {o : Obj} {es : List Ent}
end
def ItN (d : Addr) (o : Obj) (u : HO) (ks : List V) : It := ⟨fun i H => H d = some (.frz o u) ∧ i < ks.length, fun i H x H' => H' = H ∧ ks[i]? = some x, fun i H => H d = some (.frz o u) ∧ ks.length ≤ i⟩
section
variable {B : Bx} {ι : List Addr} {F : Addr → Prop} {H : Hp} {S : Sto} {a : Addr} {φ : Heap → Prop} {od : Obj}
end
def iDic (m : ME) : MI := fun ρ S => (m ρ S).bind fun u S1 => match u with
 | .v (.dic kvs) => .ok ⟨kvs.map fun p => .v p.1, none⟩ S1
 | .r n => (match S1[n]? with
   | some (.dicL kvs) => .ok ⟨kvs.map fun p => .v p.1, none⟩ S1
   | _ => .er)
 | _ => .er
section
variable {X : Cx} {cl : Nat → Addr} {W : WX} {tg e : Expr} {me : ME}
noncomputable def eLk (pick : Env' → Sto → Option Nat) (m : ME) : ME := fun ρ S => match pick ρ S with
 | none => m ρ S
 | some n => match S[n]? with
   | some (.dic kvs) => (noEx (m ρ (S.set n (.dicL kvs)))).bind fun u S2 => (match S2[n]? with
     | some (.dicL kvs') => .ok u (S2.set n (.dic kvs'))
     | _ => .er)
   | _ => m ρ S
def unlS (n : Nat) (S : Sto) (k : Sto → RS) : RS := match S[n]? with
 | some (.dicL kvs) => k (S.set n (.dic kvs))
 | _ => .er
noncomputable def sLk (pick : Env' → Sto → Option Nat) (m : MS) : MS := fun ρ S => match pick ρ S with
 | none => m ρ S
 | some n => match S[n]? with
   | some (.dic kvs) => (match m ρ (S.set n (.dicL kvs)) with
     | .nx ρ2 S2 => unlS n S2 (.nx ρ2)
     | .rt u S2 => unlS n S2 (.rt u)
     | .bk ρ2 S2 => unlS n S2 (.bk ρ2)
     | .ct ρ2 S2 => unlS n S2 (.ct ρ2)
     | _ => .er)
   | _ => m ρ S
end
end Pu
namespace Pu
open PySem PySem.Spec L2
open PyProof.Rows hiding St
section
variable {prog : Program} {w : World} {A : Around} {d : Addr} {od : Obj} {ar : Array DictEntry} {ep : Nat}
end
def keysD (kvs : List (D × U)) : List D := kvs.map (·.1)
noncomputable def fListX : FA := fun us S => match us with
 | [u] => (match asDic S u with
   | some kvs => some (.v (.lst (keysD kvs)), S)
   | none => fListV [u] S)
 | _ => none
section
variable {X : Cx} {cl : Nat → Addr}
def fPop : FM := fun x us S => match x, us with
 | .r n, [] => (match S[n]? with
   | some (.lst xs) => (match xs[xs.length - 1]? with
     | some y => some (y, S.set n (.lst xs.dropLast))
     | none => none)
   | _ => none)
 | _, _ => none
def fExtend : FM := fun x us S => match x, us with
 | .r n, [w] => (match S[n]?, asLst S w with
   | some (.lst xs), some zs => if xs.length + zs.length ≤ 10000000 then some (.v .non, S.set n (.lst (xs ++ zs))) else none
   | _, _ => none)
 | _, _ => none
def fMax2 : FA := fun us S => match us with
 | [.v (.int i), .v (.int j)] => some (.v (.int (if j > i then j else i)), S)
 | _ => none
def fMin2 : FA := fun us S => match us with
 | [.v (.int i), .v (.int j)] => some (.v (.int (if j < i then j else i)), S)
 | _ => none
def okO : R U → Option (U × Sto)
 | .ok u S => some (u, S)
 | _ => none
def fCmpO (cs : List Nat) (mf : List U → Sto → R U) : F2 := fun x y S => match asIns S x, asIns S y with
 | some (c, _), some (c', _) => if c = c' ∧ c ∈ cs then okO (mf [x, y] S) else none
 | _, _ => none
variable {k : Nat} {f : Addr} {fd : FuncData} {ps : List Str} {mf : List U → Sto → R U} {cs : List Nat}
def fLenO (cs : List Nat) (mf : List U → Sto → R U) : FA := fun us S => match us with
 | [x] => (match asIns S x with
   | some (c, _) => if c ∈ cs then (match mf [x] S with
     | .ok (.v (.int i)) S' => if 0 ≤ i ∧ i < 1000000 then some (.v (.int i), S') else none
     | _ => none) else none
   | none => none)
 | _ => none
end
def sAug (i : Nat) (f : F2) (m : ME) : MS := fun ρ S => match ρ[i]? with
 | some (some x) => (m ρ S).st ρ fun y S1 => (match f x y S1 with
   | some (z, S2) => .nx (ρ.set i (some z)) S2
   | none => .er)
 | _ => .er
section
variable {X : Cx} {cl : Nat → Addr} {W : WX} {e : Expr} {m : ME} {i : Nat} {x : Str} {op : Operator} {f : F2} {pos pos' : Pos}
def fExt2 : F2 := fun x y S => match x with
 | .r n => (match S[n]?, asLst S y with
   | some (.lst xs), some zs => if xs.length + zs.length ≤ 10000000 then some (.r n, S.set n (.lst (xs ++ zs))) else none
   | _, _ => none)
 | _ => none
def eChain (f f' : F2) (a b c : ME) : ME := fun ρ S => (a ρ S).bind fun x S1 => (b ρ S1).bind fun y S2 => (ofO (f x y S2)).bind fun z S3 => (ofO (isB z S3)).bind fun k S4 => if k = true then (c ρ S4).bind fun w S5 => ofO (f' y w S5) else .ok (.v (.bl false)) S4
end
end Pu
namespace Pu
open PySem
def vv (p : D × D) : D × U := (p.1, .v p.2)
noncomputable def dgetD (kvs : List (D × D)) (k : D) : Option D := (kvs.find? fun p => decide (p.1 = k)).map (·.2)
noncomputable def dhasD (kvs : List (D × D)) (k : D) : Bool := (dgetD kvs k).isSome
noncomputable def dputD (kvs : List (D × D)) (k : D) (w : D) : List (D × D) := if dhasD kvs k = true then kvs.map fun p => if p.1 = k then (p.1, w) else p else kvs ++ [(k, w)]
theorem dget_vv (kvs : List (D × D)) (k : D) : dget (kvs.map vv) k = (dgetD kvs k).map U.v := by
 unfold dget dgetD
 rw [List.find?_map]
 simp only [Option.map_map]
 rfl
theorem dhas_vv (kvs : List (D × D)) (k : D) : dhas (kvs.map vv) k = dhasD kvs k := by
 unfold dhas dhasD
 rw [dget_vv]; cases dgetD kvs k <;> rfl
theorem dput_vv (kvs : List (D × D)) (k d : D) : dput (kvs.map vv) k (.v d) = (dputD kvs k d).map vv := by
 unfold dput dputD
 rw [dhas_vv]
 split
 · simp only [List.map_map]
   congr 1
   funext p
   simp only [Function.comp]
   by_cases h : p.1 = k <;> simp [vv, h]
 · simp [vv]
theorem dgetD_nil (k : D) : dgetD [] k = none := rfl
theorem dgetD_cons (p : D × D) (kvs : List (D × D)) (k : D) : dgetD (p :: kvs) k = if p.1 = k then some p.2 else dgetD kvs k := by
 unfold dgetD
 rw [List.find?_cons]
 by_cases h : p.1 = k <;> simp [h]
theorem dgetD_app (acc : List (D × D)) (k' w k : D) : dgetD (acc ++ [(k', w)]) k = (dgetD acc k).or (if k' = k then some w else none) := by
 induction acc with
 | nil => simp [dgetD_cons, dgetD_nil]
 | cons p r ih => simp only [List.cons_append, dgetD_cons, ih]; split <;> rfl
theorem dgetD_map (kvs : List (D × D)) (k w k' : D) : dgetD (kvs.map fun p => if p.1 = k then (p.1, w) else p) k' = if k' = k then (dgetD kvs k).map (fun _ => w) else dgetD kvs k' := by
 induction kvs with
 | nil => simp [dgetD_nil]
 | cons p r ih =>
   simp only [List.map_cons, dgetD_cons, ih]
   by_cases h1 : p.1 = k
   · by_cases h2 : k' = k
     · simp [h1, h2]
     · have h3 : ¬ k = k' := fun z => h2 z.symm
       simp [h1, h2, h3]
   · by_cases h2 : k' = k
     · simp [h1, h2]
     · simp [h1, h2]
theorem dgetD_put (kvs : List (D × D)) (k w k' : D) : dgetD (dputD kvs k w) k' = if k' = k then some w else dgetD kvs k' := by
 unfold dputD
 by_cases h : dhasD kvs k = true
 · rw [if_pos h, dgetD_map]
   unfold dhasD at h
   obtain ⟨x, hx⟩ := Option.isSome_iff_exists.mp h
   rw [hx]; rfl
 · rw [if_neg h, dgetD_app]
   unfold dhasD at h
   have hn : dgetD kvs k = none := by simpa using h
   by_cases h2 : k' = k
   · subst h2; rw [hn]; simp
   · have h3 : ¬ k = k' := fun z => h2 z.symm
     simp [h2, h3]
theorem dputD_len (kvs : List (D × D)) (k w : D) : (dputD kvs k w).length ≤ kvs.length + 1 := by
 unfold dputD; split <;> simp
section
variable {q : U → Sto → Prop} {S : Sto}
theorem v_getC {n : Nat} {k : List D} {w : D} {kvs : List (D × D)} (h : S[n]? = some (.dic (kvs.map vv))) : wpO (fGet (.r n) [.v (.tup k), .v w] S) q = (isKey (.tup k) = true ∧ q (.v ((dgetD kvs (.tup k)).getD w)) S) := by
 rw [v_get2 (kvs := kvs.map vv) (by unfold asDic; simp only [h]), dget_vv]
 cases dgetD kvs (.tup k) <;> rfl
theorem v_getV {k : List D} {w : D} {kvs : List (D × D)} : wpO (fGet (.v (.dic kvs)) [.v (.tup k), .v w] S) q = (isKey (.tup k) = true ∧ q (.v ((dgetD kvs (.tup k)).getD w)) S) := by
 rw [v_get2 (kvs := kvs.map vv) rfl, dget_vv]
 cases dgetD kvs (.tup k) <;> rfl
theorem v_setC {n : Nat} {k : List D} {d : D} {kvs : List (D × D)} {p : Sto → Prop} (h : S[n]? = some (.dic (kvs.map vv))) : wpS (fSet (.r n) (.v (.tup k)) (.v d) S) p = ((isKey (.tup k) = true ∧ kvs.length < 100000) ∧ p (S.set n (.dic ((dputD kvs (.tup k) d).map vv)))) := by
 rw [v_setD h, dput_vv, List.length_map]
theorem isDc_c {n : Nat} {kvs : List (D × U)} (h : S[n]? = some (.dic kvs)) : isDc S (.r n) = true := by
 unfold isDc asDic; simp [h]
theorem fin_d {l : Sto} {k : Nat} {kvs : List (D × D)} (h : l[k]? = some (.dic (kvs.map vv))) : fin S (.r (S.length + k)) (S ++ l) = .ok (.v (.dic kvs)) S := by
 unfold fin
 simp only [fixU, fixS_same]
 rw [if_neg (by omega)]
 have e : frz S.length 4 (S ++ l) (.r (S.length + k)) = some (.dic kvs) := by
   show (if S.length + k < S.length then none else _) = _
   rw [if_neg (by omega), sto_k, h]
   show (optAll _ (kvs.map vv)).map D.dic = _
   rw [show vv = fun p : D × D => (p.1, U.v p.2) from rfl, optAll_dic]
   rfl
 rw [e]; rfl
theorem fin_d0 {l : Sto} {kvs : List (D × D)} : fin S (.r S.length) (S ++ .dic (kvs.map vv) :: l) = .ok (.v (.dic kvs)) S := fin_d (k := 0) rfl
theorem seqV_at {u : U} {xs : List U} {k : List U → Prop} (l : Sto) (h : asSeq S u = some xs) : seqV (S ++ l) u k = k xs := by
 unfold seqV; rw [asSeq_app l h]
theorem seqV_at0 {u : U} {xs : List U} {k : List U → Prop} (h : asSeq S u = some xs) : seqV S u k = k xs := by
 unfold seqV; rw [h]
theorem data_get2 {α : Type} {f : α → D} {rows : List α} {i : Nat} {w : U} (hw : (rows.map (U.v ∘ f))[i]? = some w) : ∃ r, rows[i]? = some r ∧ w = .v (f r) ∧ rows.drop i = r :: rows.drop (i + 1) :=
 data_get (by rw [List.map_map]; exact hw)
def uFs (fs : List (Str × D)) : List (Str × U) := fs.map fun p => (p.1, .v p.2)
theorem fixC_ins (n k : Nat) (c : Nat) (fs : List (Str × D)) (T : Sto) : fixC n k T (.ins c (uFs fs)) = some (.ins c (uFs fs)) := by
 show (optAll _ (uFs fs)).map _ = _
 rw [optAll_id fun x hx => ?_]
 · rfl
 · obtain ⟨p, _, rfl⟩ := List.mem_map.mp hx
   rfl
end
end Pu
namespace Pu
open PySem L2
section
variable {q : U → Sto → Prop} {S : Sto} {X : XP} {ρ : Env'} {Q : Post}
def dicW (S : Sto) (u : U) (k : List D → Prop) : Prop := match u with
 | .v (.dic kvs) => k (kvs.map (·.1))
 | .r n => (match S[n]? with
   | some (.dicL kvs) => k (kvs.map (·.1))
   | _ => False)
 | _ => False
def unl (n : Nat) (S : Sto) (k : Sto → Prop) : Prop := match S[n]? with
 | some (.dicL kvs) => k (S.set n (.dic kvs))
 | _ => False
theorem asDic_seq {u : U} {xs : List U} (h : asSeq S u = some xs) : asDic S u = none := by
 cases u with
 | v d => cases d <;> first | rfl | cases h
 | r n =>
   unfold asSeq at h; unfold asDic
   simp only at h ⊢
   cases hc : S[n]? with
   | none => rfl
   | some c => rw [hc] at h; cases c <;> first | rfl | cases h
theorem v_listX_s {u : U} {ds : List D} (h : asSeq S u = some (ds.map U.v)) : wpO (fListX [u] S) q = q (.v (.lst ds)) S := by
 unfold fListX
 simp only [asDic_seq h]
 rw [v_listV, seqV_at0 h, wpo_allV_map]
@[simp ↓] theorem v_listX_t (ds : List D) : wpO (fListX [.v (.tup ds)] S) q = q (.v (.lst ds)) S := v_listX_s rfl
@[simp ↓] theorem v_listX_l (ds : List D) : wpO (fListX [.v (.lst ds)] S) q = q (.v (.lst ds)) S := v_listX_s rfl
end
section
variable {α : Type} {S : Sto} {src : Option Nat} {c0 : Option Cell} {g : MG} {t : MT} {mb : Env' → Sto → R Unit} {ρ : Env'}
def cL (acc : List D) : Cell := .lst (acc.map U.v)
noncomputable def cD (kvs : List (D × D)) : Cell := .dic (kvs.map vv)
end
end Pu
namespace Pu
def pickV (i : Nat) : Env' → Sto → Option Nat := fun ρ _ => match ρ[i]? with
 | some (some (.r n)) => some n
 | _ => none
end Pu
namespace Pu
open PySem L2
section
variable {B : Bx} {ι : List Addr} {F F' : Addr → Prop} {H : Hp} {S : Sto} {n : Nat} {a : Addr}
theorem Evo.same (hF : ∀ a, F a → F' a) : Evo ι F H ι F' H := Evo.kept (fun _ _ h => h) hF
theorem Rel.kill (r : Rel B ι F S H) (h1 : ι[n]? = some a) (hF : ∀ x, F x → F' x) (hF2 : ∀ x, F' x → F x ∨ x = a ∨ H x = some (.own a)) : Rel B ι F' (S.set n .dead) H := by
 have e : Evo ι F H ι F' H := Evo.same hF
 have ne : ∀ (m : Nat) (b : Addr), ι[m]? = some b → m ≠ n → b ≠ a := fun m b g1 hm z => by
   subst z
   obtain ⟨q1, e1⟩ := List.getElem?_eq_some_iff.mp h1
   obtain ⟨q2, e2⟩ := List.getElem?_eq_some_iff.mp g1
   exact hm ((List.getElem_inj r.nd).mp (e2.trans e1.symm))
 refine ⟨by simp [r.len], r.nd, fun m b d g1 g2 g3 z => ?_, fun m b d g1 g2 => ?_, r.there, fun x z => ?_, r.now⟩
 · by_cases hm : m = n
   · subst hm
     rw [List.getElem?_set] at g2
     simp only [if_true] at g2
     split at g2
     · cases g2; cases g3
     · cases g2
   · rw [List.getElem?_set_ne (Ne.symm hm)] at g2
     rcases hF2 b z with z | z | z
     · exact r.nf m b d g1 g2 g3 z
     · exact ne m b g1 hm z
     · exact r.now b (List.mem_of_getElem? g1) _ z
 · by_cases hm : m = n
   · subst hm
     rw [List.getElem?_set] at g2
     simp only [if_true] at g2
     split at g2
     · cases g2; trivial
     · cases g2
   · rw [List.getElem?_set_ne (Ne.symm hm)] at g2
     have x := r.ok m b d g1 g2
     cases d with
     | lst xs => obtain ⟨vs, h, q⟩ := x; exact ⟨vs, h, q.mono e⟩
     | tpc xs => obtain ⟨vs, h, q⟩ := x; exact ⟨vs, h, q.mono e⟩
     | dic kvs => obtain ⟨es, h, z, q⟩ := x; exact ⟨es, h, z, q.mono e⟩
     | dicL kvs => obtain ⟨es, od, h, z, q⟩ := x; exact ⟨es, od, h, z, q.mono e⟩
     | ins k fs =>
       obtain ⟨dx, vs, h, hd, nd, q⟩ := x
       refine ⟨dx, vs, h, hd, fun z => ?_, q.mono e⟩
       rcases hF2 dx z with z | z | z
       · exact nd z
       · subst z; exact r.now dx (List.mem_of_getElem? h1) _ hd
       · rw [hd] at z
         have : b = a := by injection z with z; injection z
         exact ne m b g1 hm this
     | dead => trivial
 · rcases hF2 x z with z | z | z
   · exact r.fthere x z
   · subst z; exact r.there x (List.mem_of_getElem? h1)
   · rw [z]; simp
end
def plainU : U → Option D
 | .v d => some d
 | .r _ => none
noncomputable def fFz : F1 := fun u S => match u with
 | .v d => some (.v d, S)
 | .r n => match S[n]? with
   | some (.lst xs) => (allV xs).map fun ds => (.v (.lst ds), S.set n .dead)
   | some (.dic kvs) => (optAll (fun p : D × U => (plainU p.2).map fun d => (p.1, d)) kvs).map fun ds => (.v (.dic ds), S.set n .dead)
   | some (.ins c fs) => (optAll (fun p : Str × U => (plainU p.2).map fun d => (p.1, d)) fs).map fun ds => (.v (.ins c ds), S.set n .dead)
   | _ => none
noncomputable def eFz (m : ME) : ME := fun ρ S => (m ρ S).bind fun u S1 => ofO (fFz u S1)
theorem plainU_some {u : U} {d : D} (h : plainU u = some d) : u = .v d := by cases u <;> cases h; rfl
section
variable {X : Cx} {cl : Nat → Addr} {W : WX}
theorem RepU.plain {B : Bx} {ι : List Addr} {F : Addr → Prop} {H : Hp} {v : V} {d : D} (h : RepU B ι F H v (.v d)) : Rep B F H v d := by cases h; assumption
theorem Fin.fz {B : Bx} {ι : List Addr} {F : Addr → Prop} {H : Hp} {S : Sto} {Q : VK} {v : V} {u : U} (h : Fin B ι F H Q (fFz u S)) (r : Rel B ι F S H) (z : RepU B ι F H v u) : Q v H := by
 cases z with
 | v z => exact h.val r (.v z)
 | @r n a hn =>
   unfold fFz at h
   simp only at h
   cases q : S[n]? with
   | none => rw [q] at h; obtain ⟨_, _, e, _⟩ := h; cases e
   | some c =>
     rw [q] at h
     have ok := r.ok n a c hn q
     cases c with
     | dead => obtain ⟨_, _, e, _⟩ := h; cases e
     | dicL kvs => obtain ⟨_, _, e, _⟩ := h; cases e
     | tpc xs => obtain ⟨_, _, e, _⟩ := h; cases e
     | lst xs =>
       simp only at h
       cases qa : allV xs with
       | none => rw [qa] at h; obtain ⟨_, _, e, _⟩ := h; cases e
       | some ds =>
         rw [qa] at h
         obtain ⟨vs, ha, rs⟩ := ok
         have e : Evo ι F H ι (addF F a) H := Evo.same fun _ z => .inl z
         have rk : Rel B ι (addF F a) (S.set n .dead) H := r.kill hn (fun _ z => .inl z) fun x z => z.elim .inl fun z => .inr (.inl z)
         refine h.go e rk (.v (.lst (.inr rfl) ha ?_))
         rw [allV_some qa] at rs
         exact repus_reps (rs.mono e)
     | dic kvs =>
       simp only at h
       cases qa : optAll (fun p : D × U => (plainU p.2).map fun d => (p.1, d)) kvs with
       | none => rw [qa] at h; obtain ⟨_, _, e, _⟩ := h; cases e
       | some ds =>
         rw [qa] at h
         obtain ⟨es, ha, hl, rs⟩ := ok
         have e : Evo ι F H ι (addF F a) H := Evo.same fun _ z => .inl z
         have rk : Rel B ι (addF F a) (S.set n .dead) H := r.kill hn (fun _ z => .inl z) fun x z => z.elim .inl fun z => .inr (.inl z)
         refine h.go e rk (.v (.dic (.inr rfl) (.inl ha) hl (repK_of (optAll_paired (fun g p b pz qz => ?_) rs qa))))
         obtain ⟨p1, p2, p3, w, p4, p5⟩ := pz
         obtain ⟨d, q1, q2⟩ := Option.map_eq_some_iff.mp qz
         subst q2
         rw [plainU_some q1] at p5
         cases p5 with
         | v p5 => exact ⟨p1, p2.mono (ι := ι) (ι' := ι) e, p3, w, p4, p5.mono (ι := ι) (ι' := ι) e⟩
     | ins c fs =>
       simp only at h
       cases qa : optAll (fun p : Str × U => (plainU p.2).map fun d => (p.1, d)) fs with
       | none => rw [qa] at h; obtain ⟨_, _, e, _⟩ := h; cases e
       | some ds =>
         rw [qa] at h
         obtain ⟨dx, vs, ha, hd, nd, rs⟩ := ok
         have e : Evo ι F H ι (addF (addF F a) dx) H := Evo.same fun _ z => .inl (.inl z)
         have rk : Rel B ι (addF (addF F a) dx) (S.set n .dead) H := r.kill hn (fun _ z => .inl (.inl z)) fun x z => by
           rcases z with (z | z) | z
           · exact .inl z
           · exact .inr (.inl z)
           · subst z; exact .inr (.inr hd)
         refine h.go e rk (.v (.ins (.inl (.inr rfl)) (.inr rfl) ha hd (repF_of (optAll_paired (fun g p b pz qz => ?_) rs qa))))
         obtain ⟨p1, p5⟩ := pz
         obtain ⟨d, q1, q2⟩ := Option.map_eq_some_iff.mp qz
         subst q2
         rw [plainU_some q1] at p5
         exact ⟨p1, p5.plain.mono (ι := ι) (ι' := ι) e⟩
theorem qe_fz {e : Expr} {m : ME} (h : QE X cl W e m) : QE X cl W e (eFz m) :=
 PE.imp h fun σ H Q ⟨ι, F, S, ρ, r, en, o⟩ => ⟨ι, F, S, ρ, r, en, o.bind.mono fun x H1 ⟨ι1, F1, S1, x', e1, r1, z1, o1⟩ => o1.fin.fz r1 z1⟩
end
section
variable {q : U → Sto → Prop} {S : Sto} {X : XP} {ρ : Env'}
@[simp ↓] theorem w_fz (m : ME) : wpr (eFz m ρ S) q X = wpr (m ρ S) (fun u S1 => wpO (fFz u S1) q) X := by
 simp only [eFz, wpr_bind, wpr_ofO]
theorem v_fzL {n : Nat} {ds : List D} (h : S[n]? = some (.lst (ds.map U.v))) : wpO (fFz (.r n) S) q = q (.v (.lst ds)) (S.set n .dead) := by
 unfold fFz
 simp only [h, allV_map, Option.map_some]
 rfl
end
end Pu
namespace Pu
open PySem PySem.Spec L2
open PyProof.Rows hiding St
open PySem.W (ksEnv ksFn)
structure ErrD (P : Program) (K : PySem.W.Frag) (name qual : Str) (params : Arguments) (body : List Stmt) (scope : Scope) (C f : Addr) (fd : FuncData) : Prop where
 ex : ∃ (oc : Value) (od : Option Addr) (dV kV doc pm : Value) (an : Option Addr) (cda : Addr) (ct : Value) (osl : Array (Option Value)) (cc : Addr) (cl : Value) (cld : Option Addr) (csl : Array (Option Value)) (ccl : Value) (cdd : Option Addr) (vs : Array Value) (ccs : Array (Option Value)) (file : Str) (tf : Tok),
   fd = ksFn name qual params body scope dV kV doc pm an (.ref cda) ct cc ∧ K.lookup f = some ⟨oc, od, .func fd, osl⟩ ∧ PySem.W.codeIn K (.ref cda) qual = true ∧ K.lookup cc = some ⟨cl, cld, .cell (some (.ref C)), csl⟩ ∧
   K.lookup cda = some ⟨ccl, cdd, .fields vs, ccs⟩ ∧ vs[2]? = some (.str file tf) ∧ ((P.main.file : Str) == file) = true ∧ DflV K dV []
 cls : ∃ cd, PySem.W.clsIn K C = some cd
 sub : PySem.W.mroIn K C (.ref C) = some true
 op : PySem.W.nsIn K cStatics "thirdparty.any" = some none
 si : PySem.W.ks_superIn K C C "__init__" = some (some (.builtin "ValueError.__init__"))
 sv : PySem.W.subIn K (.ref C) (.type "ValueError") = some true
 oex : OexC K C
 kp : PySem.W.keepIn K (.ref f) = true
theorem bw_ok {X : Cx} {pins : List (Addr × Obj)} {σ : L2.St} {H : Hp} {s : Shared} {A : Around} {E : Value → Shared → Prop} {u a C : Addr} {us : List Value} {Q : Value → Shared → Prop} (T : OexC X.K C) (I : Inv X pins σ H s) (e : H a = some (exo a C none))
   (hu : s.heap.get? u = some (PySem.W.kxs_mw "ValueError.__init__" a)) (hl : us.length ≤ sizeLine) (h : ∀ s', Inv X pins σ H s' → Q .none s') : wpAny (model X.prog X.w) A (call (.ref u) us) Q E s := by
 obtain ⟨nm, q, N, bs, bm, sn, sub, ab, col, dd, k0, k1, k2, k3, k5, hC, hbm⟩ := T.cls
 obtain ⟨t1, ho⟩ := exo_at I.hok e
 obtain ⟨hp, g, d, t, os⟩ := s
 refine wpAny_call (codeAny_of_tree ?_)
 show wpAny _ A.in1 (callAny (.ref u) ⟨us, []⟩) _ _ _
 unfold callAny
 refine wpAny_bind (wpAny_load hu ?_)
 refine PySem.W.KFB.if_so (by show (Value.type "method-wrapper" == Value.type "method" || Value.type "method-wrapper" == Value.type "builtin_function_or_method" || Value.type "method-wrapper" == Value.type "method-wrapper") = true; decide) ?_
 refine wpAny_bind (PySem.W.check_bound_init F.excBase_ValueError.toExcCallFacts (I.kIn _ _ hC) ho rfl ?_)
 refine wpAny_bind (wpAny_pure (wpAny_pure ?_))
 refine ⟨plainId_quiet F.excBase_ValueError.init.plain _, codeAny_builtin F.excBase_ValueError.initEntry ?_⟩
 refine PySem.W.exc_init_tree (cls := .ref C) (t0 := t1) (dv := none) (c2 := .none) (c3 := .none) (b4 := .bool false) ho hl fun h' k hx _ => ?_
 have J := I.write (t' := t) (x := a) (e := a) (o := exo a C none) (by rw [e]; exact True.intro) (.inl rfl) k ⟨_, hx⟩ (exo_ok hx)
 have eu : upd H a (exo a C none) = H := funext fun b => by
   by_cases hb : b = a
   · subst hb; rw [upd_same]; exact e.symm
   · exact upd_ne hb
 exact h _ (eu ▸ J)
def errSp (C : Addr) (ps : List Str) (tr : TS) : Sp := fun vs H Q _ => vs.length = ps.length ∧ (∃ a ws, vs = .ref a :: ws ∧ H a = some (exo a C none)) ∧ tr { nx := fun _ H' => Q .non H', rt := fun _ _ => False, bk := fun _ _ => False, ct := fun _ _ => False } (L2.start ps vs) H
theorem ErrD.ok {P : Program} {w : World} {K : PySem.W.Frag} {mg : Str → Option Value} {base : Heap} {name qual : Str} {params : Arguments} {scope : Scope} {C f : Addr} {fd : FuncData} {ps qs : List Str} {ar : Arg} {p0 p1 apos cpos epos : Pos} {e : Expr} {es : List Expr} {rest : List Stmt} {t : TA} {tr : TS} {pl : Sem Bool}
   (Sd : ErrD P K name qual params (.Expr (.Call (.Attribute (.Call (.Name "super" p0) [] [] p1) "__init__" apos) (e :: es) [] cpos) epos :: rest) scope C f fd) (S : SupScope ps scope) (hpar : (params.posonlyargs ++ params.args).head? = some ar) (har : ps = ar.arg :: qs)
   (htop : (P.main.scope.names.lookup ("super" : Str)).isSome = false) (hmg : mg ("super" : Str) = none)
   (ha : ∀ (cd : Value) (cc : Addr) (A : Around) (outer : List Env) (s : Shared) (H : Hp) (E : XK), PA (cxS (L2N.CX P w) P w K mg base ps qual scope f cd cc A outer s H E) (e :: es) t)
   (ht : ∀ (σ : L2.St) (H : Hp) (Q : List V → Hp → Prop), (∀ us : List V, us.length ≤ 1000 → Q us H) → t σ H Q)
   (hrest : ∀ (cd : Value) (cc : Addr) (A : Around) (outer : List Env) (s : Shared) (H : Hp) (E : XK), PSs (cxS (L2N.CX P w) P w K mg base ps qual scope f cd cc A outer s H E) rest tr)
   (he : ∀ env : Env, starEach (e :: es) env = (false, eval e env) :: starEach es env) (hpl : ∀ env : Env, (backTo cpos (starEach es env)).any (·.1) = false)
   (hev : ∀ env : Env, eval (.Call (.Attribute (.Call (.Name "super" p0) [] [] p1) "__init__" apos) (e :: es) [] cpos) env = (do
     let ov ← attributeBase (.Call (.Name "super" p0) [] [] p1) "__init__" env (eval (.Call (.Name "super" p0) [] [] p1) env)
     standAt apos.atName
     let (f, first) ← holding [ov] (getMethod ov "__init__" pl)
     callWith cpos f first (backTo cpos (starEach (e :: es) env)) []))
   (hsw : ∀ env : Env, swapsWith (.Call (.Attribute (.Call (.Name "super" p0) [] [] p1) "__init__" apos) (e :: es) [] cpos) none epos.line env = pure false) (hin : ∀ (L : Addr) (cd : Value) (cc : Addr), interactive (ksEnv qual scope L f cd cc) = false) :
   FnOk P w K mg base (L2N.CX P w) 1 f fd ps (errSp C ps tr) := by
 obtain ⟨oc, od, dV, kV, doc, pm, an, cda, ct, osl, cc, cl, cld, csl, ccl, cdd, vsc, ccs, file, tf, rfl, lk, hcd, hcell, hcode, hvs, hfile, _⟩ := Sd.ex
 refine ⟨fun vs H Q E h => h.1, fun A outer s H args us vs Q E hr e0 hb r hsp => ?_⟩
 obtain ⟨hl, ⟨x, ws, rfl, hx⟩, hsp⟩ := hsp
 have KX : K.In s.heap := e0.mod.kin.keeps fun b o e => (e0.bs b o e).1
 have lim : s.heap.NoLimit := e0.mod.nolimit.keeps fun b o e => (e0.bs b o e).1
 refine ks_codeAny_call_defAt hr.depth (KX _ _ lk) rfl lim (PySem.W.codeRec_of KX hcd) rfl hb S.nocell (fun y hy => S.par _ (List.of_mem_zip hy).1) (fun h₀ hns hk => ?_) S.co S.gen S.kind
 have I := inv_startS (CX := L2N.CX P w) (qual := qual) (f := f) (cd := .ref cda) (E := E) (tk := s.toks + (ps.zip us).length) S hr.hd e0 hl r hcell hns hk
 change _root_.PySem.wpAt (model P w) (A.deeper (ksEnv qual scope s.heap.objs.size f (.ref cda) cc)) (.func _ (ksEnv qual scope s.heap.objs.size f (.ref cda) cc)) (execs _ (ksEnv qual scope s.heap.objs.size f (.ref cda) cc)) _ _ _
 obtain ⟨cdD, hD⟩ := Sd.cls
 obtain ⟨u0, us', rfl, ru, rus⟩ : ∃ u0 us', us = u0 :: us' ∧ RelV (.ref x) u0 ∧ Vals ws us' := by
   cases r with
   | cons a b => exact ⟨_, _, rfl, a, b⟩
 obtain rfl : u0 = .ref x := ru
 have hself : (ps.zip (Value.ref x :: us')).reverse.lookup ar.arg = some (.ref x) := zip_lookup (i := 0) S.nd (by rw [har]; rfl) rfl
 have hev2 := hev (ksEnv qual scope s.heap.objs.size f (.ref cda) cc)
 have hsw2 := hsw (ksEnv qual scope s.heap.objs.size f (.ref cda) cc)
 refine ks_wpAt_execs_cons (ks_wpAt_Expr_any (ks_wpAt_MethodCall (pl := pl) ?_ hev2) (hin _ _ _) hsw2)
 obtain ⟨oD, hD1, hD2⟩ : ∃ oD, K.lookup C = some oD ∧ oD.data = .cls cdD := by
   unfold PySem.W.clsIn at hD
   split at hD
   · rename_i c d cd' sl ho
     cases hD
     exact ⟨_, ho, rfl⟩
   · cases hD
 obtain ⟨tx, hxo⟩ := exo_at I.hok hx
 obtain ⟨mb, b1, b2⟩ := I.mod.blt
 refine ks_wpAt_super_base (env := ksEnv qual scope s.heap.objs.size f (.ref cda) cc) S.sup S.cls (by decide) rfl (I.kIn _ _ lk) rfl hpar rfl (I.kIn _ _ hcode) rfl hvs hfile htop ?_
 refine PySem.W.ks_loadName_global S.kind S.sup (Calls.loadGlobal_builtin (env := ksEnv qual scope s.heap.objs.size f (.ref cda) cc) (I.mod.glob.keeps I.bk) hmg (b1.keeps I.bk) ((b2 _ (by decide +kernel)).trans (by first | rfl | kernel_rfl)) ⟨rfl, ?_⟩)
 refine wpAny_loadName_free S.kind S.cls (c := cc) (by show [(("__class__" : Str), cc)].lookup _ = _; simp) ⟨_, I.kIn _ _ hcell, rfl⟩ ?_
 refine wpAny_loadName_local S.kind (S.par _ (by rw [har]; simp)) hns hself ?_
 refine ks_wpAny_isType_cls (I.kIn _ _ hD1) hD2 ⟨rfl, ?_⟩
 refine ks_wpAny_call_super (I.kIn _ _ hD1) hD2 hxo rfl (fun c e => nomatch e) (PySem.W.looks_mroIn I.kIn Sd.sub) (fun h' hso kp => ?_)
 have I2 := ClX.pin_new (t' := s.toks + (ps.zip (Value.ref x :: us')).length) I kp (Nat.le_refl _) hso (fun v z => nomatch z)
 have X2 : K.In h' := I2.kIn
 have J : PySem.W.InstAt h' x _ C none := ⟨kp _ _ hxo, rfl, rfl, trivial⟩
 have hxC : x ≠ C := PySem.W.ks_ne X2 J hD
 have hm := Sd.si
 unfold PySem.W.ks_superIn at hm
 rw [hD] at hm
 have hI : PySem.W.Looks (model P w) h' (isInstance (.ref x) (.type "ValueError")) true := J.type.andThen (PySem.W.looks_subIn X2 Sd.sv)
 refine PySem.W.kxs_getMethod PySem.W.kxs_ValueError (so := h₀.objs.size) (D := C) (x := x) (C := C) (l₀ := cdD.mro) hso (PySem.W.looks_opaque X2 Sd.op) ?_ rfl X2 hm hI hxC (by decide) ?_
 · exact fun A Q E s k q => wpAny_bind ((PySem.W.looks_clsIn X2 hD) A _ E s k (wpAny_pure q))
 have I3 := ClX.pin_new (t' := s.toks + (ps.zip (Value.ref x :: us')).length + 1) (o := PySem.W.kxs_mw "ValueError.__init__" x) I2 (fun _ _ z => Heap.get?_push_of_some _ z) (Nat.le_refl _) (Heap.get?_push_size h' rfl) (fun v z => nomatch z)
 have pl2 : (backTo cpos (starEach (e :: es) (ksEnv qual scope s.heap.objs.size f (.ref cda) cc))).any (·.1) = false := by
   rw [he]
   show (false || (backTo cpos (starEach es _)).any (·.1)) = false
   rw [hpl]; rfl
 refine PySem.W.kxs_callWith (i := "ValueError.__init__") (x := x) pl2 ?_
 have run := (ha (.ref cda) cc A outer s H E).run cpos _ _ _ _ (fun us' H2 => us'.length ≤ 1000 ∧ H2 = H) I3 (ht _ _ _ fun us hus => ⟨hus, rfl⟩)
 have he2 := he (ksEnv qual scope s.heap.objs.size f (.ref cda) cc)
 refine (congrArg (fun z => wpAny _ _ (evalArgs _ true (backTo cpos z) []) _ _ _) he2).mpr ?_
 refine PySem.Calls.evalArgs_plain ((congrArg (fun z => wpAny _ _ (spliced (backTo cpos z)) _ _ _) he2).mp (thn run fun us2 s3 ⟨vs', H2, I4, rv, q1, q2⟩ => ?_))
 subst q2
 refine ⟨ClX.pin_at I4, bw_ok Sd.oex I4 hx (ClX.pin_at I4) (by show us2.length ≤ sizeLine; rw [← Paired.length rv, sizeLine_eq]; omega) fun s5 I5 => ?_⟩
 refine wpAt_of_wpAny (thn ((hrest (.ref cda) cc A outer s H2 E).run _ _ _ _ _ I5 hsp) fun fl s6 hfl => ?_)
 cases fl with
 | next =>
   obtain ⟨σ6, H6, I6, q6⟩ := hfl
   exact ⟨.non, H6, I6.os, I6.bare, I6.base, I6.hok, rfl, q6⟩
 | brk => obtain ⟨_, _, _, q6⟩ := hfl; exact q6.elim
 | cont => obtain ⟨_, _, _, q6⟩ := hfl; exact q6.elim
 | ret u => obtain ⟨_, _, _, _, _, q6⟩ := hfl; exact q6.elim
section
variable {X : Cx}
theorem pmk_oexN {e : Expr} {es : List Expr} {ta : TA} {p pos : Pos} {CX : CXT} {x : Str} {C fI : Addr} {k : Nat} {fd : FuncData} {ps : List Str} {sp : Sp} {ds : List Value} {dvs : List V} (T : OexC X.K C) (iC : PySem.W.findIn X.K (.ref C) "__init__" = some (some (.ref fI))) (tI : PySem.W.typeIn X.K (.ref fI) = some (.type "function"))
   (F1 : FnOk X.prog X.w X.K X.mg X.base CX k fI fd ps sp) (hr : Room (k + 1) X.A) (hb : Binds X.K fd ps ds) (hd : Vals dvs ds) (hx : Passes CX X (fun _ _ _ => False)) (hg : Gl X x) (hm : X.mg x = some (.ref C)) (ha : PA X (e :: es) ta)
   (hdb : (x == ("__debug__" : Str)) = false := by decide) (he : starEach (e :: es) X.env = (false, eval e X.env) :: starEach es X.env := by rfl) (hpl : (backTo pos (starEach es X.env)).any (·.1) = false := by rfl) :
   L2N.PMk X (.Call (.Name x p) (e :: es) [] pos) (tMkO C sp dvs ta) := by
 intro pins s σ H Q I h
 obtain ⟨nm, q, N, bs, bm, sn, sub, ab, col, dd, k0, k1, k2, k3, k5, hC, hbm⟩ := T.cls
 refine wpAny_Call_Name_kw (ld_glob I hg hm ?_ hdb)
 refine PySem.W.callWith_K (h₀ := X.base) I.ok.mod.kin T.kC (thn (ha.run pos pins s σ H _ I h) fun us s1 ⟨vs, H1, I1, r1, hz, q1⟩ => ⟨I1.kIn, ?_⟩) he hpl
 show wpAny _ _ (call (.ref C) us) _ _ _
 obtain ⟨hp, g, dr, tk, os⟩ := s1
 obtain ⟨n, hn0⟩ : ∃ n, n = hp.objs.size := ⟨_, rfl⟩
 have hn : H1 (hp.objs.size + 1) = none := I1.hok.fresh (Nat.le_succ _)
 have hq := q1 (hp.objs.size + 1) hn
 have kk : ∀ b o, hp.get? b = some o → ((hp.push (PySem.W.kdv_tup us)).push (PySem.HandSPX.excO C hp.objs.size)).get? b = some o := fun b o z => Heap.get?_push_of_some _ (Heap.get?_push_of_some _ z)
 have at2 : ((hp.push (PySem.W.kdv_tup us)).push (PySem.HandSPX.excO C hp.objs.size)).get? (hp.objs.size + 1) = some (PySem.HandSPX.excO C hp.objs.size) := by heap_get
 have I2 := I1.laid (t' := tk) (a := hp.objs.size + 1) (o := exo (hp.objs.size + 1) C none) (h' := (hp.push (PySem.W.kdv_tup us)).push (PySem.HandSPX.excO C hp.objs.size)) kk (Nat.le_succ _) (exo_ok at2)
 have r2 : Vals (V.ref (hp.objs.size + 1) :: (vs ++ dvs)) (Value.ref (hp.objs.size + 1) :: (us ++ ds)) := .cons rfl (r1.append hd)
 have hl : (Value.ref (hp.objs.size + 1) :: us ++ ds).length = ps.length := r2.length.symm.trans (F1.len _ _ _ _ hq)
 have few : us.length ≤ sizeLine := by
   rw [← Paired.length r1, sizeLine_eq]
   omega
 refine wpAny_call (PySem.HandSPX.call_own F.excBase_ValueError (fun Y => PySem.HandSPX.refsVE_contains Y bm hbm) (I1.kIn _ _ hC) (PySem.W.looks_findIn I1.kIn iC) (fun self => PySem.W.bind_fn I1.kIn self tI) few
   (codeAny_mono (F1.run _ X.stack _ _ ⟨Value.ref (hp.objs.size + 1) :: us, []⟩ (Value.ref (hp.objs.size + 1) :: (us ++ ds)) _ _ (fun _ _ _ => False) (hr.make C us []) (I2.env0.make C us []) (hb _ (Value.ref (hp.objs.size + 1) :: us) I2.kIn hl) r2 hq) fun r s' hq' => ?_))
 cases r with
 | error er => exact hx pins σ _ _ er s' I2 hq'
 | ok fl =>
   cases fl with
   | ret u =>
     obtain ⟨v, H2, os2, bare2, un2, hok2, rv, ev, d, fs, ea, ed, hd1, q2⟩ := hq'
     subst ev
     obtain ⟨h2, g2, d2, t2, os'⟩ := s'
     obtain ⟨t0, G, J, kG, ge, hoe, na⟩ := mk_end0 (d2 := d2) (t2 := t2) I1 (Nat.le_succ _) kk un2 hok2 os2 bare2 ea ed hd1
     exact ⟨rv, hp.objs.size + 1, _, _, ⟨G, g2, d2, t2, os'⟩, _, .ref C, some d, rfl, J, kG, ge, hoe, ⟨rfl, rfl, fun vs e => by cases e; rfl⟩, rfl, rfl, na, rfl, bare2, raises_own T.exC T.tyC, q2⟩
   | next => exact False.elim hq'
   | brk => exact False.elim hq'
   | cont => exact False.elim hq'
end
end Pu
namespace Pu
open PySem PySem.Spec L2
open PyProof.Rows hiding St
def tErr (K : PySem.W.Frag) : List Str → Nat → TS
 | [], _ => tNext
 | [f], i => tOst K f (tVar 0) (tVar i)
 | f :: g :: r, i => tSeq (tOst K f (tVar 0) (tVar i)) (tErr K (g :: r) (i + 1))
def sRaise (c : Nat) (fns : List Str) (mA : MA) : MS := fun ρ S => (mA ρ S).st ρ fun us S1 => if us.length = fns.length then .ex c (fns.zip us).reverse ρ S1 else .er
section
variable {K : PySem.W.Frag} {C a : Addr} {H1 : Hp} {Q : XK} {f g : Str} {y z : V}
theorem end_eq {fs : List (Str × V)} {H2 : Hp} {d : Addr} (ha : H1 a = none) (h : ∀ b, b ≠ a → b ≠ d → H2 b = H1 b) : upd (del H2 a) d (.xd fs) = upd H1 d (.xd fs) := by
 funext b
 by_cases hb : b = d
 · subst hb; rw [upd_same, upd_same]
 · rw [upd_ne hb, upd_ne hb]
   by_cases hba : b = a
   · subst hba; rw [del_same]; exact ha.symm
   · rw [del_ne hba]; exact h b hba hb
theorem err1 {p0 p1 : Str} (T : OexC K C) (hf : PySem.W.findIn K (.ref C) f = some none) (ha : H1 a = none) (h : ∀ d, H1 d = none → Q (.ref C) (some d) (upd H1 d (.xd [(f, y)]))) :
   errSp C [p0, p1] (tErr K [f] 1) [.ref a, y] (upd H1 a (exo a C none)) (fun v H2 => v = .non ∧ ∃ (d : Addr) (fs : List (Str × V)), H2 a = some (exo a C (some d)) ∧ H2 d = some (exd d fs) ∧ H1 d = none ∧ Q (.ref C) (some d) (upd (del H2 a) d (.xd fs))) (fun _ _ _ => False) := by
 refine ⟨rfl, ⟨a, _, rfl, upd_same⟩, y, rfl, .ref a, rfl, a, C, rfl, T, hf, .inl ⟨upd_same, fun dx h1 h2 => ⟨rfl, dx, [(f, y)], upd_same, ?_, ?_, ?_⟩⟩⟩
 · rw [upd_ne h2, upd_same]
 · rw [upd_ne h2] at h1; exact h1
 · rw [end_eq ha fun b h3 h4 => by rw [upd_ne h3, upd_ne h4, upd_ne h3]]
   exact h dx (by rw [upd_ne h2] at h1; exact h1)
end
section
variable {X : Cx} {cl : Nat → Addr} {W : WX} {c : Nat} {fI : Addr} {fd : FuncData} {x f g : Str} {p pos pos' : Pos} {e : Expr} {es : List Expr} {mA : MA} {p0 p1 p2 : Str}
theorem qs_raise1 (hc : X.calm = true) (tk : L2N.Takes X W) (T : OexC X.K (cl c)) (hf : PySem.W.findIn X.K (.ref (cl c)) f = some none) (iC : PySem.W.findIn X.K (.ref (cl c)) "__init__" = some (some (.ref fI))) (tI : PySem.W.typeIn X.K (.ref fI) = some (.type "function"))
   (F1 : FnOk X.prog X.w X.K X.mg X.base (L2N.CX X.prog X.w) 1 fI fd [p0, p1] (errSp (cl c) [p0, p1] (tErr X.K [f] 1))) (hr : Room 2 X.A) (hb : Binds X.K fd [p0, p1] []) (hg : Gl X x) (hm : X.mg x = some (.ref (cl c))) (hA : QA X cl W (e :: es) mA)
   (hdb : (x == ("__debug__" : Str)) = false := by decide) (he : starEach (e :: es) X.env = (false, eval e X.env) :: starEach es X.env := by rfl) (hpl : (backTo pos (starEach es X.env)).any (·.1) = false := by rfl) :
   QS X cl W (.Raise (some (.Call (.Name x p) (e :: es) [] pos)) none pos') (sRaise c [f] mA) := by
 refine PS.imp (L2N.ps_raise hc tk (pmk_oexN (dvs := []) T iC tI F1 hr hb .nil (L2N.passes_call tk fun _ _ _ _ h => h.elim) hg hm hA hdb he hpl)) fun D σ H ⟨ι, F, S, ρ, r, en, o⟩ => ?_
 refine ⟨ι, F, S, ρ, r, en, (o.st en).mono fun vs H1 ⟨ι1, F1, S1, us, e1, r1, z1, o1⟩ => ?_⟩
 split at o1
 · rename_i hl
   cases z1 with
   | nil => cases hl
   | cons za zr =>
     cases zr with
     | cons _ _ => simp at hl
     | nil =>
       refine ⟨by simp, fun a ha => err1 (Q := fun cls d H' => W cls d σ H') T hf ha fun d hd => ?_⟩
       exact o1 σ ι1 F1 H1 Evo.refl (en.mono e1) d _ ι1 F1 _ (Evo.new hd) (r1.new hd) upd_same (.cons ⟨rfl, za.mono (Evo.new (ι := ι1) (F := F1) hd)⟩ .nil)
 · exact o1.elim
end
end Pu
namespace Pu
open PySem PySem.Spec L2
open PyProof.Rows hiding St
theorem xO_ok {P : Program} {w : World} {H : Hp} {h : Heap} {a : Addr} {oe : Obj} (he : h.get? a = some oe) : ObjOk P w H h a (.frz oe (xO a oe)) :=
 ⟨he, he, ⟨oe, he⟩, fun h1 h2 z k => k _ z⟩
structure SuD where
 a : Addr
 oe : Obj
 pn : List (Addr × Obj)
def SuOk (z : SuD) : Prop := ∃ vs : Array Value, z.oe.data = .fields vs ∧ vs[2]? = some .none
abbrev Cx.suX (X : Cx) (z : SuD) : Cx := { X.suite z.a z.pn with H_0 := upd X.H_0 z.a (.frz z.oe (xO z.a z.oe)) }
theorem inv_lay {X : Cx} {pins : List (Addr × Obj)} {σ : L2.St} {H : Hp} {s : Shared} {a : Addr} {oe : Obj} {vs : Array Value} (I : Inv X pins σ H s) (ha : s.heap.get? a = some oe) (hd : oe.data = .fields vs) (h0 : X.s_0.heap.get? a = none) (na : H a = none) (nL : a ≠ X.env.locals) (np : ∀ p ∈ X.pn ++ pins, p.1 ≠ a) :
   Inv X pins σ (upd H a (.frz oe (xO a oe))) s := by
 have nt : ∀ {b : Addr} {o : HO}, H b = some o → upd H a (.frz oe (xO a oe)) b = some o := fun {b o} e => by
   rw [upd_ne (fun z => by rw [z, na] at e; cases e)]; exact e
 have nc : ∀ x c, X.env.cells.lookup x = some c → c ≠ a := fun x c e z => by
   obtain ⟨v, o, h1, h2⟩ := I.cell x c e
   rw [z, ha] at h1
   cases h1
   rw [hd] at h2; cases h2
 refine ⟨I.ok, I.os, I.bare, ⟨I.base.keep, I.base.slot, fun b o e n hx => ?_, I.base.there, fun b xs e => nt (I.base.tups b xs e), fun b o u e => nt (I.base.frzs b o u e), fun b ps e => ?_⟩, I.loc, I.cell, ?_, fun x c e => ?_, fun p hp => ?_, fun b o e => ?_, I.len⟩
 · rw [upd_ne (fun z => by rw [z, h0] at e; cases e)]; exact I.base.free b o e n hx
 · obtain ⟨more, q⟩ := I.base.tbls b ps e
   exact ⟨more, nt q⟩
 · rw [upd_ne (Ne.symm nL)]; exact I.free
 · rw [upd_ne (nc x c e)]; exact I.freeC x c e
 · obtain ⟨q1, q2, q3⟩ := I.pin p hp
   exact ⟨q1, by rw [upd_ne (np p hp)]; exact q2, q3⟩
 · by_cases hb : b = a
   · subst hb
     rw [upd_same] at e; cases e
     exact xO_ok ha
   · rw [upd_ne hb] at e
     exact (I.hok b o e).stay (fun _ _ _ q => q) (fun c q => nt q) fun c xs q => nt q
structure Hd where
 c : Value
 i : Option Nat
 ts : TS
def offN (i : Option Nat) (σ : L2.St) : L2.St := match i with
 | none => σ
 | some i => σ.set i none
def onN (i : Option Nat) (a : Addr) (σ : L2.St) : L2.St := match i with
 | none => σ
 | some i => σ.set i (some (.ref a))
def endN (i : Option Nat) (D : Ends) : Ends := { nx := fun σ H => D.nx (offN i σ) H, rt := D.rt, bk := fun σ H => D.bk (offN i σ) H, ct := fun σ H => D.ct (offN i σ) H }
def wHds (K : PySem.W.Frag) (Wout : WX) (D : Ends) : List Hd → WX
 | [] => Wout
 | h :: r => fun cls d σ H => ∃ b, PySem.W.exmOne K cls h.c = some b ∧
     (b = true → ∀ (a : Addr) (oe : Obj) (vs : Array Value), H a = none → L2N.Zn cls d oe → oe.data = .fields vs → h.ts (endN h.i D) (onN h.i a σ) (upd H a (.frz oe (xO a oe)))) ∧ (b = false → wHds K Wout D r cls d σ H)
def NmOk (X : Cx) : Option Str → Option Nat → Prop
 | none, none => True
 | some n, some i => X.N[i]? = some n ∧ X.env.kindOf n = some .local
 | _, _ => False
inductive HdOk (X : Cx) : List ExceptHandler → List Hd → Prop
 | nil : HdOk X [] []
 | cons {x : Str} {c : Value} {n : Option Str} {i : Option Nat} {ts : TS} {b₀ : Stmt} {suite : List Stmt} {np pos' : Pos} {hds : List ExceptHandler} {l : List Hd} (hc : Names X x c) (hn : NmOk X n i)
     (hsu : ∀ (z : SuD), SuOk z → PSs (Cx.suX X z) (b₀ :: suite) ts) (r : HdOk X hds l) : HdOk X (.ExceptHandler (some (.Name x np)) n (b₀ :: suite) pos' :: hds) (⟨c, i, ts⟩ :: l)
section
variable {X : Cx} {pins : List (Addr × Obj)} {σ : L2.St} {H : Hp} {s : Shared} {D : Ends}
structure Old0 (X : Cx) (a : Addr) : Prop where
 h0 : X.s_0.heap.get? a = none
 t : ∀ xs, X.H_0 a ≠ some (.tup xs)
 f : ∀ o u, X.H_0 a ≠ some (.frz o u)
 b : ∀ ps, X.H_0 a ≠ some (.tbl ps)
theorem out_suite {z : SuD} {pn' : List (Addr × Obj)} (o0 : Old0 X z.a) (hz : z.pn = X.pn ++ pins) (I : Inv (Cx.suX X z) pn' σ H s) (ok : X.Ok) : Inv X pins σ H s := by
 have ne : ∀ {b : Addr} {o : Obj}, X.s_0.heap.get? b = some o → b ≠ z.a := fun {b o} e q => by rw [q, o0.h0] at e; cases e
 have at_ : ∀ {b : Addr}, b ≠ z.a → (Cx.suX X z).H_0 b = X.H_0 b := fun {b} q => upd_ne q
 have B := I.base
 refine { ok := ok, os := I.os, bare := I.bare, base := ⟨fun b o e n => B.keep b o e ((at_ (ne e)).trans n), fun b o e n => B.slot b o e ((at_ (ne e)).trans n), fun b o e n => B.free b o e ((at_ (ne e)).trans n), B.there, fun b xs e => ?_, fun b o u e => ?_, fun b ps e => ?_⟩, loc := I.loc, cell := I.cell, free := I.free, freeC := I.freeC, hok := I.hok, len := I.len, pin := fun p hp => I.pin p (List.mem_append.mpr (.inl (by rw [← hz] at hp; exact hp))) }
 · exact B.tups b xs ((at_ fun q => o0.t xs (by rw [← q]; exact e)).trans e)
 · exact B.frzs b o u ((at_ fun q => o0.f o u (by rw [← q]; exact e)).trans e)
 · exact B.tbls b ps ((at_ fun q => o0.b ps (by rw [← q]; exact e)).trans e)
theorem in_suite {a : Addr} {oe : Obj} {vs : Array Value} (I : Inv X pins σ H s) (ha : s.heap.get? a = some oe) (hd : oe.data = .fields vs) (h0 : X.s_0.heap.get? a = none) (na : H a = none) (nL : a ≠ X.env.locals) (nf : a ∉ X.fs) (np : ∀ p ∈ X.pn ++ pins, p.1 ≠ a) : Inv (Cx.suX X ⟨a, oe, X.pn ++ pins⟩) [] σ (upd H a (.frz oe (xO a oe))) s := by
 have J := inv_lay I ha hd h0 na nL np
 have ne : ∀ {b : Addr} {o : Obj}, X.s_0.heap.get? b = some o → b ≠ a := fun {b o} e q => by rw [q, h0] at e; cases e
 have at_ : ∀ {b : Addr}, b ≠ a → upd X.H_0 a (.frz oe (xO a oe)) b = X.H_0 b := fun {b} q => upd_ne q
 have o1 := J.ok.suite a (X.pn ++ pins)
 have B := J.base
 refine { ok := ⟨o1.mod, o1.kind, o1.glob, o1.blt, o1.above, o1.inj, o1.has, o1.cab, o1.hd, o1.frames, o1.stk, o1.exf, fun b o e => ?_, o1.bsz, o1.noex, o1.exfs, o1.funs, fun b hb => ?_⟩, os := J.os, bare := J.bare, base := ⟨fun b o e n => B.keep b o e ((at_ (ne e)).symm.trans n), fun b o e n => B.slot b o e ((at_ (ne e)).symm.trans n), fun b o e n => B.free b o e ((at_ (ne e)).symm.trans n), B.there, fun b xs e => ?_, fun b o u e => ?_, fun b ps e => ?_⟩, loc := J.loc, cell := J.cell, free := J.free, freeC := J.freeC, hok := J.hok, len := J.len, pin := fun p hp => J.pin p (by rw [List.append_nil] at hp; exact hp) }
 · obtain ⟨q1, q2⟩ := o1.bs b o e
   exact ⟨q1, (at_ (ne q1)).trans q2⟩
 · exact (at_ fun q => nf (q ▸ hb)).trans (o1.frf b hb)
 · by_cases hb : b = a
   · subst hb; rw [show (Cx.suX X ⟨b, oe, X.pn ++ pins⟩).H_0 b = _ from upd_same] at e; cases e
   · exact B.tups b xs ((at_ hb).symm.trans e)
 · by_cases hb : b = a
   · subst hb; rw [show (Cx.suX X ⟨b, oe, X.pn ++ pins⟩).H_0 b = _ from upd_same] at e; cases e; exact upd_same
   · exact B.frzs b o u ((at_ hb).symm.trans e)
 · by_cases hb : b = a
   · subst hb; rw [show (Cx.suX X ⟨b, oe, X.pn ++ pins⟩).H_0 b = _ from upd_same] at e; cases e
   · exact B.tbls b ps ((at_ hb).symm.trans e)
theorem old0 {a : Addr} (I : Inv X pins σ H s) (h0 : X.s_0.heap.get? a = none) (na : H a = none) : Old0 X a where
 h0 := h0
 t := fun xs e => by have := I.base.tups a xs e; rw [na] at this; cases this
 f := fun o u e => by have := I.base.frzs a o u e; rw [na] at this; cases this
 b := fun ps e => by obtain ⟨m, z⟩ := I.base.tbls a ps e; rw [na] at z; cases z
theorem in_test {a : Addr} (I : Inv X pins σ H s) : Inv (X.suite a (X.pn ++ pins)) [] σ H s :=
 { ok := I.ok.suite _ _, os := I.os, bare := I.bare, base := I.base, loc := I.loc, cell := I.cell, free := I.free, freeC := I.freeC, hok := I.hok, len := I.len, pin := fun p hp => I.pin p (by rw [List.append_nil] at hp; exact hp) }
end
structure Air (X : Cx) (pins : List (Addr × Obj)) (σ : L2.St) (H : Hp) (a : Addr) (B : Heap) (cls : Value) (d : Option Addr) (sI s : Shared) : Prop where
 inv : Inv X pins σ H sI
 gr : ∀ b o, sI.heap.get? b = some o → b ∉ frs X.stack → B.get? b = some o
 up : sI.heap.UpToSlots s.heap
 fl : HandSPX.FlyingZ B (X.env :: X.outer) a (L2N.Zn cls d) s.heap
 na : H a = none
 os : s.os = sI.os
 ag : AllBare s.gens
section
variable {X : Cx} {pins : List (Addr × Obj)} {σ : L2.St} {H : Hp} {a : Addr} {B : Heap} {cls : Value} {d : Option Addr} {sI s : Shared}
theorem Air.now (A : Air X pins σ H a B cls d sI s) : Inv X pins σ H s := A.inv.landed A.gr A.fl.1 A.up A.os A.ag
theorem Air.nfr (A : Air X pins σ H a B cls d sI s) : a ∉ frs (X.env :: X.outer) := fun hm => by
 obtain ⟨oe, vs, h1, _, h3⟩ := A.fl.there
 obtain ⟨_, o, e, nf⟩ := A.fl.2.2.1.mem hm
 cases h1.symm.trans e
 exact nf vs h3
theorem Air.nL (A : Air X pins σ H a B cls d sI s) (hf : X.env.frame = some X.env.locals) : a ≠ X.env.locals := fun z => A.nfr (by
 rw [z]; exact List.mem_filterMap.mpr ⟨X.env, .head _, hf⟩)
theorem Air.gone (A : Air X pins σ H a B cls d sI s) (hs : X.stack = X.env :: X.outer) : sI.heap.get? a = none := by
 cases e : sI.heap.get? a with
 | none => rfl
 | some o =>
   have z := A.gr a o e (by rw [hs]; exact A.nfr)
   rw [A.fl.2.1] at z; cases z
theorem Air.h0 (A : Air X pins σ H a B cls d sI s) (hs : X.stack = X.env :: X.outer) (hx : X.ex = []) : X.s_0.heap.get? a = none := by
 cases e : X.s_0.heap.get? a with
 | none => rfl
 | some o =>
   obtain ⟨o', z⟩ := A.inv.base.there a o e (by rw [hx]; simp)
   rw [A.gone hs] at z; cases z
theorem Air.np (A : Air X pins σ H a B cls d sI s) (hs : X.stack = X.env :: X.outer) : ∀ p ∈ X.pn ++ pins, p.1 ≠ a := fun p hp z => by
 have e := (A.inv.pin p hp).1
 rw [z, A.gone hs] at e; cases e
theorem Air.again {s4 : Shared} (A : Air X pins σ H a B cls d sI s) (h4 : Heap) (fl : HandSPX.FlyingZ B (X.env :: X.outer) a (L2N.Zn cls d) h4) (up : s.heap.UpToSlots h4) : Air X pins σ H a B cls d sI { s with heap := h4 } :=
 ⟨A.inv, A.gr, A.up.trans up, fl, A.na, A.os, A.ag⟩
end
theorem frs_sub {env : Env} {l : List Env} {a : Addr} (h : a ∈ frs l) : a ∈ frs (env :: l) := by
 obtain ⟨e, he, q⟩ := List.mem_filterMap.mp h
 exact List.mem_filterMap.mpr ⟨e, List.mem_cons_of_mem _ he, q⟩
section
variable {X : Cx} {pins : List (Addr × Obj)} {Wout : WX} {D : Ends}
theorem hds_go (hs : X.stack = X.env :: X.outer) (hx : X.ex = []) (hf : X.env.frame = some X.env.locals) (hN : X.N.Nodup) (tk : L2N.Takes X Wout) {hds : List ExceptHandler} {l : List Hd} (hk : HdOk X hds l) :
   ∀ {σ : L2.St} {H : Hp} {a : Addr} {B : Heap} {cls : Value} {d : Option Addr} {sI s : Shared}, Air X pins σ H a B cls d sI s → wHds X.K Wout D l cls d σ H → wpAny (model X.prog X.w) X.A (handleBy (.ref a) X.env hds) (SP X pins D) X.xe s := by
 induction hk with
 | nil =>
   intro σ H a B cls d sI s A w
   refine wpAny_handleBy_nil ?_
   obtain ⟨_, _, _, oe, vs, T, _, _, he, _, hd, h1, _⟩ := id A.fl
   have last : wpAny (model X.prog X.w) X.A (setFlight (.ref a) X.env.frame) (fun _ s4 => wpAny (model X.prog X.w) X.A (throw (.ref a) : Sem Flow) (SP X pins D) X.xe s4) X.xe s := by
     rw [hf]
     exact HandSPX.setFlight_upZ A.fl fun h4 hh up => wpAny_throw (tk _ _ ⟨a, B, sI, pins, σ, H, cls, d, rfl, A.inv, A.gr, A.up.trans up, .inr (.inr (by rw [hs]; exact hh)), A.na, A.os, A.ag, w⟩)
   unfold PySem.passOn
   refine wpAny_bind (wpAny_field he hd h1 ?_)
   rw [if_neg (by simp : ¬ ((Value.ref T == Value.none) = true))]
   first
     | exact wpAny_bind (wpAny_pure (wpAny_bind last))
     | exact wpAny_bind last
 | @cons x c n i ts b₀ suite np pos' hds2 l2 hc hn hsu r ih =>
   intro σ H a B cls d sI s A w
   obtain ⟨b, hb1, hyes, hno⟩ := w
   refine wpAny_handleBy_cons (codeAny_handlers_test ?_) (by intro q; cases q)
   obtain ⟨oe3, vs3, he3, hz3, hd3⟩ := A.fl.there
   have J3 := A.now
   have LT : PySem.W.Looks (model X.prog X.w) s.heap (typeOf (.ref a)) cls := fun _ _ _ _ k q => wpAny_typeOf_ref (k _ _ he3) (hz3.1 ▸ q)
   have LM := PySem.W.exm_one J3.kIn LT hb1
   have ask : ∀ {Q : Value → Shared → Prop} {E : Value → Shared → Prop}, Q c s → wpAny (model X.prog X.w) (X.A.mark (some (.ref a))) (eval (.Name x np) X.env) Q E s := fun {Q E} q => by
     rcases hc with ⟨g1, g2, g3 | ⟨g3, g4, g5⟩⟩
     · exact ld_glob (in_test (a := a) J3) g1 g3 q g2
     · exact ld_blt (in_test (a := a) J3) g1 g3 g4 q g5 g2
   refine ask (LM.here ?_)
   cases b with
   | false =>
     show wpAny _ X.A (handleBy (.ref a) X.env hds2) _ _ _
     exact ih A (hno rfl)
   | true =>
     have go : ∀ (h4 : Heap), HandSPX.FlyingZ B (X.env :: X.outer) a (L2N.Zn cls d) h4 → s.heap.UpToSlots h4 → ∃ oe, SuOk ⟨a, oe, X.pn ++ pins⟩ ∧ Old0 X a ∧ Inv (Cx.suX X ⟨a, oe, X.pn ++ pins⟩) [] σ (upd H a (.frz oe (xO a oe))) { s with heap := h4 } ∧ ts (endN i D) (onN i a σ) (upd H a (.frz oe (xO a oe))) := fun h4 fl4 up4 => by
       have A4 := A.again (s4 := s) h4 fl4 up4
       obtain ⟨oe4, vs4, he4, hz4, hd4⟩ := fl4.there
       exact ⟨oe4, ⟨vs4, hd4, hz4.2.2 vs4 hd4⟩, old0 A4.now (A4.h0 hs hx) A.na, in_suite A4.now he4 hd4 (A4.h0 hs hx) A.na (A.nL hf) (fun hm => A.nfr (frs_sub hm)) (A4.np hs), hyes rfl a oe4 vs4 A.na hz4 hd4⟩
     cases n with
     | none =>
       cases i with
       | some i => exact hn.elim
       | none =>
         refine codeAny_handlers_suite (HandSPX.lands_againZ A.fl fun h4 fl4 up4 => ?_)
         obtain ⟨oe, so, o0, S4, w4⟩ := go h4 fl4 up4
         refine wpAny_mono ((hsu ⟨a, oe, X.pn ++ pins⟩ so).run [] _ _ _ _ S4 w4) (fun f s6 hsp => ?_) fun _ _ z => z.elim
         cases f with
         | ret u => obtain ⟨v, σ6, H6, I6, r6, q6⟩ := hsp; exact ⟨v, σ6, H6, out_suite o0 rfl I6 J3.ok, r6, q6⟩
         | next => obtain ⟨σ6, H6, I6, q6⟩ := hsp; exact ⟨σ6, H6, out_suite o0 rfl I6 J3.ok, q6⟩
         | brk => obtain ⟨σ6, H6, I6, q6⟩ := hsp; exact ⟨σ6, H6, out_suite o0 rfl I6 J3.ok, q6⟩
         | cont => obtain ⟨σ6, H6, I6, q6⟩ := hsp; exact ⟨σ6, H6, out_suite o0 rfl I6 J3.ok, q6⟩
     | some n =>
       cases i with
       | none => exact hn.elim
       | some i =>
         obtain ⟨hi, hln⟩ := hn
         refine codeAny_handlers_suite_as (HandSPX.lands_againZ A.fl fun h4 fl4 up4 => ?_)
         obtain ⟨oe, so, o0, S4, w4⟩ := go h4 fl4 up4
         refine store_ok (X := Cx.suX X ⟨a, oe, X.pn ++ pins⟩) (v := .ref a) S4 hN hi (.inl hln) rfl (fun s5 S5 => ?_) (.inr hln)
         refine wpAny_mono ((hsu ⟨a, oe, X.pn ++ pins⟩ so).run [] _ _ _ _ S5 w4) (fun f s6 hsp => ?_) fun _ _ z => z.elim
         have off : ∀ {σ6 : L2.St} {H6 : Hp} {Q : Shared → Prop}, Inv (Cx.suX X ⟨a, oe, X.pn ++ pins⟩) [] σ6 H6 s6 → (∀ s7, Inv X pins (σ6.set i none) H6 s7 → Q s7) → wpAny (model X.prog X.w) X.A (do bindName X.env n .none; unbindBehindTheSuite X.env n pos') (fun _ s7 => Q s7) X.xe s6 :=
           fun I6 q => gone_ok (out_suite o0 rfl I6 J3.ok) hN hi hln q
         cases f with
         | ret u => obtain ⟨v, σ6, H6, I6, r6, q6⟩ := hsp; exact off I6 fun s7 J7 => ⟨v, _, H6, J7, r6, q6⟩
         | next => obtain ⟨σ6, H6, I6, q6⟩ := hsp; exact off I6 fun s7 J7 => ⟨_, H6, J7, q6⟩
         | brk => obtain ⟨σ6, H6, I6, q6⟩ := hsp; exact off I6 fun s7 J7 => ⟨_, H6, J7, q6⟩
         | cont => obtain ⟨σ6, H6, I6, q6⟩ := hsp; exact off I6 fun s7 J7 => ⟨_, H6, J7, q6⟩
theorem ps_tryX {body : List Stmt} {h₀ : ExceptHandler} {hds : List ExceptHandler} {l : List Hd} {pos : Pos} {tb : WX → TS} (hs : X.stack = X.env :: X.outer) (hx : X.ex = []) (hf : X.env.frame = some X.env.locals) (hN : X.N.Nodup) (tk : L2N.Takes X Wout)
   (hb : ∀ (W : WX) (pn : List (Addr × Obj)) (xe : Value → Shared → Prop), L2N.Takes (X.tr pn xe) W → PassesOwn (model X.prog X.w) X.A X.env xe → PSs (X.tr pn xe) body (tb W))
   (hk : HdOk X (h₀ :: hds) l) : PS X (.Try body (h₀ :: hds) [] [] pos) (fun D σ H => tb (wHds X.K Wout D l) D σ H) := by
 refine ⟨fun pins s σ H D I h => ?_⟩
 have fr : X.A.frames = some (X.env :: X.outer) := by rw [← hs]; exact I.ok.frames
 have land : L2N.Takes (X.tr (X.pn ++ pins) (fun e s₁ => wpAny (model X.prog X.w) X.A (noteFrame e X.env) (fun _ s₂ => wpAny (model X.prog X.w) X.A (setFlight e none) (fun _ s₃ => wpAny (model X.prog X.w) X.A (handleBy e X.env (h₀ :: hds)) (SP X pins D) X.xe s₃) X.xe s₂) X.xe s₁)) (wHds X.K Wout D l) := by
   rintro u s1 ⟨a, B, sI, pins', σ1, H1, cls, d, rfl, J, gr, up, sky, na, os, ag, w⟩
   have sky2 : Sky B (X.env :: X.outer) a (L2N.Zn cls d) X.env.locals s1.heap := by rw [← hs]; exact sky
   exact L2N.Sky.land L2N.Zn.steady fr hf sky2 fun h3 fl3 up3 => hds_go hs hx hf hN tk hk ⟨J.ofTry I.ok, gr, up.trans up3, fl3, na, os, ag⟩ w
 refine wpAny_Try_except (wpAny_mono ((hb _ _ _ land PassesOwn.looking).run [] s σ H D (I.toTry _) h) (fun f s1 hsp => ?_) fun _ _ z => z)
 cases f with
 | ret u => obtain ⟨v, σ6, H6, I6, r6, q6⟩ := hsp; exact ⟨v, σ6, H6, I6.ofTry I.ok, r6, q6⟩
 | next => obtain ⟨σ6, H6, I6, q6⟩ := hsp; exact wpAny_execs_nil ⟨σ6, H6, I6.ofTry I.ok, q6⟩
 | brk => obtain ⟨σ6, H6, I6, q6⟩ := hsp; exact ⟨σ6, H6, I6.ofTry I.ok, q6⟩
 | cont => obtain ⟨σ6, H6, I6, q6⟩ := hsp; exact ⟨σ6, H6, I6.ofTry I.ok, q6⟩
end
end Pu
namespace Pu
open PySem PySem.Spec L2
open PyProof.Rows hiding St
structure RoomL (k : Nat) (A : Around) : Prop where
 dp : A.depth + 3 * k + 5 < recursionLimit
 un : A.units + 16 * k + 200 < cLine
theorem RoomL.deeper {k : Nat} {A : Around} (r : RoomL (k + 1) A) (env : Env) : RoomL k (A.deeper env) := by
 obtain ⟨r1, r2⟩ := r
 constructor
 · show A.depth + 1 + 3 * k + 5 < _; omega
 · show A.units + 3 + 16 * k + 200 < _; omega
theorem Room.l {k : Nat} {A : Around} (r : Room k A) : RoomL k A := ⟨r.dp, r.un⟩
theorem Room.mark {k : Nat} {A : Around} (r : Room k A) (v : Option Value) : RoomL k (A.mark v) := ⟨r.dp, r.un⟩
structure FnL (P : Program) (w : World) (K : PySem.W.Frag) (mg : Str → Option Value) (base : Heap) (k : Nat) (f : Addr) (fd : FuncData) (ps : List Str) (sp : Sp) : Prop where
 len : ∀ vs H Q E, sp vs H Q E → vs.length = ps.length
 run : ∀ (A : Around) (outer : List Env) (s : Shared) (H : Hp) (args : Args) (us : List Value) (vs : List V) (Q : VK), RoomL k A → Env0 P w K mg base A outer s H → BindsTo s fd args (ps.zip us) → Vals vs us → sp vs H Q (fun _ _ _ => False) →
   codeAny (model P w) A (.call (.ref f) args) (fun r s' => ∃ u, r = .ok (.ret u) ∧ CE outer P w H s Q u s') s
abbrev cx0 : CXT := fun _ _ _ _ _ _ => False
abbrev XdL (P : Program) (w : World) (K : PySem.W.Frag) (mg : Str → Option Value) (base : Heap) (N : List Str) (qual : Str) (scope : Scope) (f : Addr) (cdv : Value) (A : Around) (outer : List Env) (s : Shared) (H : Hp) : Cx :=
 { cxOf cx0 P w K mg base N qual scope f cdv A outer s H (fun _ _ _ => False) with calm := false, xe := fun _ _ => False }
section
variable {P : Program} {w : World} {K : PySem.W.Frag} {mg : Str → Option Value} {base : Heap} {x qual : Str} {params : Arguments} {body : List Stmt} {scope : Scope} {dvs : List V} {kws : List (Str × V)} {f : Addr} {fd : FuncData} {N ps : List Str} {cl : Nat → Addr} {m : MS} {k : Nat}
theorem fn_l (Fd : FunD K x qual params body scope dvs kws f fd) (Sc : FnScope N ps scope)
   (hbd : ∀ (cdv : Value) (A : Around) (outer : List Env) (s : Shared) (H : Hp), RoomL k (A.deeper (envOfC qual scope s.heap.objs.size f cdv)) → QSs (XdL P w K mg base N qual scope f cdv A outer s H) cl W0 body m) :
   FnL P w K mg base (k + 1) f fd ps (SpM ⟨P, w, K, cl⟩ ps.length (runF N.length m)) := by
 obtain ⟨oc, od, dV, kV, doc, pm, an, cdv, ct, osl, rfl, lk, hcd, _, _⟩ := Fd.ex
 refine ⟨fun _ _ _ _ h => h.1, fun A outer s H args us vs Q hr e0 hb r hsp => ?_⟩
 have kin : K.In s.heap := e0.mod.kin.keeps fun b o e => (e0.bs b o e).1
 have nol : s.heap.NoLimit := e0.mod.nolimit.keeps fun b o e => (e0.bs b o e).1
 have kinds : ∀ y ∈ ps.zip us, scope.names.lookup y.1 = some .local ∨ (scope.names.lookup y.1 = some .cell ∧ ((cellsFrom (s.heap.objs.size + 1) scope.names []).lookup y.1).isSome = true) := by
   rintro ⟨n, v⟩ hy
   rcases Sc.par n (List.of_mem_zip hy).1 with q | q
   · exact .inl q
   · exact .inr ⟨q, PySem.W.cellsFrom_some _ _ _ (.inl q)⟩
 refine codeAny_call_function (by have := hr.dp; omega) (kin _ _ lk) rfl Sc.co Sc.gen rfl (PySem.W.codeRec_of kin hcd) (hb _ _ _ _ (wpAny_newFunctionEnv_cells Sc.kind kinds fun env he s1 z => ?_))
 subst he
 refine ⟨nol.keeps z.toInCall.keep, codeAny_func ?_⟩
 have e1 : Env0 P w K mg base ({ A with handled := none }) outer s H := ⟨e0.frames, e0.mod, e0.bs, e0.bsz, e0.funs, e0.frf, e0.hok, e0.bare⟩
 have I0 : Inv (cxOf cx0 P w K mg base N qual scope f cdv ({ A with handled := none }) outer s H fun _ _ _ => False) [] (L2.start N vs) H s1 := inv_start Sc rfl e1 hsp.1 r z
 have o0 := I0.ok
 have I : Inv (XdL P w K mg base N qual scope f cdv A outer s H) [] (L2.start N vs) H s1 :=
   { ok := ⟨o0.mod, o0.kind, o0.glob, o0.blt, o0.above, o0.inj, o0.has, o0.cab, (fun z => Bool.noConfusion (show false = true from z)), o0.frames, o0.stk, o0.exf, o0.bs, o0.bsz, o0.noex, o0.exfs, o0.funs, o0.frf⟩
     os := I0.os, bare := I0.bare, base := I0.base, loc := I0.loc, cell := I0.cell, free := I0.free, freeC := I0.freeC, pin := I0.pin, hok := I0.hok, len := I0.len }
 refine wpAny_mono ((hbd cdv A outer s H (hr.deeper _)).run [] s1 _ H _ I (spM_body hsp)) (fun fl s' hs => ?_) fun _ _ z => z.elim
 cases fl with
 | ret u => obtain ⟨v, σ', H', J, rv, q⟩ := hs; exact ⟨u, rfl, v, H', J.os, J.bare, J.base, J.hok, rv, q⟩
 | next => obtain ⟨σ', H', J, q⟩ := hs; exact ⟨.none, rfl, .non, H', J.os, J.bare, J.base, J.hok, rfl, q⟩
 | brk => obtain ⟨_, _, _, q⟩ := hs; exact q.elim
 | cont => obtain ⟨_, _, _, q⟩ := hs; exact q.elim
end
def eCallL (n : Nat) (mf : List U → Sto → R U) (a : MA) : ME := fun ρ S => (a ρ S).bind fun us S1 => if us.length = n then noX (mf us S1) else .er
section
variable {X : Cx} {cl : Nat → Addr} {W : WX} {k n : Nat} {f : Addr} {fd : FuncData} {ps : List Str} {mf : List U → Sto → R U} {x : Str} {p pos : Pos} {e : Expr} {es : List Expr} {mA : MA}
theorem qe_callL (F : FnL X.prog X.w X.K X.mg X.base k f fd ps (SpM (bx X cl) n mf)) (hr : RoomL k X.A) (hg : Gl X x) (hm : X.mg x = some (.ref f)) (hk : PySem.W.keepIn X.K (.ref f) = true) (hb : Binds X.K fd ps []) (hA : QA X cl W (e :: es) mA)
   (hdb : (x == ("__debug__" : Str)) = false := by decide) (he : starEach (e :: es) X.env = (false, eval e X.env) :: starEach es X.env := by rfl) (hpl : (backTo pos (starEach es X.env)).any (·.1) = false := by rfl) :
   QE X cl W (.Call (.Name x p) (e :: es) [] pos) (eCallL n mf mA) := by
 refine ⟨fun pins s σ H Q I ⟨ι, F0, S, ρ, r, en, o⟩ => ?_⟩
 refine wpAny_Call_Name_kw (ld_glob I hg hm ?_ hdb)
 refine PySem.W.callWith_K (h₀ := X.base) I.ok.mod.kin hk (thn (hA.run pos pins s σ H _ I ⟨ι, F0, S, ρ, r, en, o.bind⟩) fun us s1 ⟨vs, H1, I1, rv, ι1, F1, S1, ws, e1, r1, z1, o1⟩ => ⟨I1.kIn, ?_⟩) he hpl
 split at o1
 · rename_i hl
   have hlen : vs.length = n := by rw [paired_len z1]; exact hl
   have sp : SpM (bx X cl) n mf vs H1 Q (fun _ _ _ => False) := by
     refine ⟨hlen, ι1, F1, S1, ws, r1, z1, ?_⟩
     cases q : mf ws S1 with
     | ok a S' => rw [q] at o1; exact o1
     | ex c fs S' => rw [q] at o1; exact o1.elim
     | er => rw [q] at o1; exact o1
   have hps : us.length = ps.length := by rw [← rv.length]; exact F.len _ _ _ _ sp
   have b := hb s1 us I1.kIn (by rw [List.append_nil]; exact hps)
   rw [List.append_nil] at b
   refine wpAny_call (codeAny_mono (F.run X.A X.stack s1 H1 ⟨us, []⟩ us vs Q hr I1.env0 b rv sp) fun r s' hq => ?_)
   obtain ⟨u, rfl, hq⟩ := hq
   exact I1.after hq
 · exact o1.elim
end
end Pu
namespace Pu
open PySem PySem.Spec L2
open PyProof.Rows hiding St
structure XC (K : PySem.W.Frag) (C : Addr) : Prop where
 cl : (PySem.W.clsIn K C).isSome = true
 ga : PySem.W.findIn K (.ref C) "__getattribute__" = some (some (.builtin "BaseException.__getattribute__"))
 gg : PySem.W.findIn K (.ref C) "__getattr__" = some none
 sb : PySem.W.subIn K (.ref C) (.type "BaseException") = some true
 hd : PySem.W.hasDictIn K C = true
 ca : PySem.W.findIn K (.ref C) "__class__" = some (some (.builtin "object.__class__"))
 cg : PySem.W.specialIn K (.builtin "object.__class__") "__get__" = some (some (.builtin "getset_descriptor.__get__"))
 ct : PySem.W.takesIn K (.builtin "object.__class__") = some true
 mo : PySem.W.mroIn K C (.type "object") = some true
 ve : PySem.W.kitOne K (.ref C) (.type "ValueError") = some true
def xcB (K : PySem.W.Frag) (C : Addr) : Bool := (PySem.W.clsIn K C).isSome && (He.eqO (PySem.W.findIn K (.ref C) "__getattribute__") (some (some (.builtin "BaseException.__getattribute__"))) && (He.eqO (PySem.W.findIn K (.ref C) "__getattr__") (some none) &&
 (decide (PySem.W.subIn K (.ref C) (.type "BaseException") = some true) && (PySem.W.hasDictIn K C && (He.eqO (PySem.W.findIn K (.ref C) "__class__") (some (some (.builtin "object.__class__"))) && (He.eqO (PySem.W.specialIn K (.builtin "object.__class__") "__get__") (some (some (.builtin "getset_descriptor.__get__"))) &&
 (decide (PySem.W.takesIn K (.builtin "object.__class__") = some true) && (decide (PySem.W.mroIn K C (.type "object") = some true) && decide (PySem.W.kitOne K (.ref C) (.type "ValueError") = some true)))))))))
theorem xcB_ok {K : PySem.W.Frag} {C : Addr} (h : xcB K C = true) : XC K C := by
 obtain ⟨h1, h⟩ := He.ba h
 obtain ⟨h2, h⟩ := He.ba h
 obtain ⟨h3, h⟩ := He.ba h
 obtain ⟨h4, h⟩ := He.ba h
 obtain ⟨h5, h⟩ := He.ba h
 obtain ⟨h6, h⟩ := He.ba h
 obtain ⟨h7, h⟩ := He.ba h
 obtain ⟨h8, h⟩ := He.ba h
 obtain ⟨h9, h⟩ := He.ba h
 exact ⟨h1, He.eqO_ok h2, He.eqO_ok h3, of_decide_eq_true h4, h5, He.eqO_ok h6, He.eqO_ok h7, of_decide_eq_true h8, of_decide_eq_true h9, of_decide_eq_true h⟩
def XTab (K : PySem.W.Frag) (cl : Nat → Addr) (tab : Nat → Nat → Option Bool) : Prop := ∀ c c' b, tab c c' = some b → XC K (cl c) ∧ PySem.W.kitOne K (.ref (cl c)) (.ref (cl c')) = some b
theorem exn_at {X : Cx} {cl : Nat → Addr} {pins : List (Addr × Obj)} {σ : L2.St} {F : Addr → Prop} {H : Hp} {s : Shared} {v : V} {c : Nat} {fs : List (Str × D)} (I : Inv X pins σ H s) (z : Rep (bx X cl) F H v (.exn c fs)) :
   ∃ a oe od dx vs, v = .ref a ∧ PySem.W.InstAt s.heap a oe (cl c) (some od) ∧ s.heap.get? dx = some od ∧ H dx = some (.xd vs) ∧ oe.dict = some dx ∧ RepF (bx X cl) F H vs fs := by
 cases z with
 | exn f g h h1 h2 h3 h4 r =>
   have x := (h.ok I.hok).1
   have hx : ObjOk X.prog X.w H s.heap _ (.xd _) := I.hok _ _ h4
   obtain ⟨mA, hns, hr⟩ := hx
   obtain ⟨od, ho, hl⟩ := lookIn_ns hns
   exact ⟨_, _, od, _, _, rfl, ⟨x, h1, by unfold PySem.W.notCls; rw [h3] <;> rfl, by rw [h2]; exact ho⟩, ho, h4, h2, r⟩
def fIsE (tab : Nat → Nat → Option Bool) : FA := fun us S => match us with
 | [.v (.exn c _), .v (.cls c')] => (tab c c').map fun b => (.v (.bl b), S)
 | [.v (.exn c _), .v (.ty n)] => if n = "ValueError" ∧ (tab c c).isSome = true then some (.v (.bl true), S) else none
 | us => fIsi us S
section
variable {X : Cx} {cl : Nat → Addr} {W : WX}
theorem isE_run {pins : List (Addr × Obj)} {σ : L2.St} {F : Addr → Prop} {H : Hp} {s : Shared} {v : V} {u cv : Value} {c : Nat} {b : Bool} {fs : List (Str × D)} {Q : VK} (I : Inv X pins σ H s) (z : Rep (bx X cl) F H v (.exn c fs)) (rv : RelV v u) (C : XC X.K (cl c)) (e : PySem.W.kitOne X.K (.ref (cl c)) cv = some b) (q : Q (.bl b) H) :
   wpAny (model X.prog X.w) X.A (call (.builtin "isinstance") [u, cv]) (EP X pins σ Q) X.xe s := by
 obtain ⟨a, oe, od, dx, vs, rfl, J, _⟩ := exn_at I z
 obtain rfl : u = Value.ref a := rv
 exact PySem.W.kia_one (PySem.W.kitx_exc C.cl C.ga C.gg C.sb C.ca C.cg C.ct C.mo) I.kIn J e (fun z => nomatch z) fun tk => ⟨.bl b, H, I.kept (t' := tk) fun _ _ z => z, rfl, q⟩
theorem cq_isE {tab : Nat → Nat → Option Bool} (ht : XTab X.K cl tab) : CallR X (.builtin "isinstance") (liftC (bx X cl) (fIsE tab)) := by
 intro pins s σ H xs us Q I rv ⟨ι, F, S, as, rl, zs, fi⟩
 unfold fIsE at fi
 split at fi
 · rename_i c fs c'
   cases q : tab c c' with
   | none => rw [q] at fi; exact fi.no
   | some b =>
     rw [q] at fi
     obtain ⟨C, e⟩ := ht c c' b q
     cases zs with
     | cons z1 z2 => cases z2 with
       | cons z2 z3 =>
         cases z3
         cases rv with
         | cons r1 r2 => cases r2 with
           | cons r2 r3 =>
             cases r3
             cases z1 with
             | v z1 => cases z2 with
               | v z2 => cases z2; cases r2; exact isE_run I z1 r1 C e (fi.val rl (.v (.bl b)))
 · rename_i c fs n
   split at fi
   · rename_i hn
     obtain ⟨rfl, hn⟩ := hn
     obtain ⟨b, q⟩ := Option.isSome_iff_exists.mp hn
     obtain ⟨C, _⟩ := ht c c b q
     cases zs with
     | cons z1 z2 => cases z2 with
       | cons z2 z3 =>
         cases z3
         cases rv with
         | cons r1 r2 => cases r2 with
           | cons r2 r3 =>
             cases r3
             cases z1 with
             | v z1 => cases z2 with
               | v z2 => cases z2; cases r2; exact isE_run I z1 r1 C C.ve (fi.val rl (.v (.bl true)))
   · exact fi.no
 · exact cq_isi pins s σ H xs us Q I rv ⟨ι, F, S, _, rl, zs, fi⟩
def fXf (cs : List Nat) (f : Str) : F1 := fun u S => match u with
 | .v (.exn c fs) => if c ∈ cs then (fs.lookup f).map fun d => (.v d, S) else none
 | _ => none
theorem repF_lookup {B : Bx} {F : Addr → Prop} {H : Hp} {f : Str} {d : D} : ∀ {vs : List (Str × V)} {fs : List (Str × D)}, RepF B F H vs fs → fs.lookup f = some d → ∃ v, vs.lookup f = some v ∧ Rep B F H v d
 | _, _, .nil, e => by cases e
 | _, _, .cons (x := x) a b, e => by
   rw [List.lookup_cons] at e ⊢
   cases q : f == x with
   | true => rw [q] at e; cases e; exact ⟨_, rfl, a⟩
   | false => rw [q] at e; exact repF_lookup b e
theorem qe_xf {cs : List Nat} {f : Str} {e : Expr} {m : ME} {pos : Pos} (he : QE X cl W e m) (hc : ∀ c ∈ cs, XC X.K (cl c) ∧ PySem.W.findIn X.K (.ref (cl c)) f = some none) (hb : attributeBase e f X.env (eval e X.env) = eval e X.env := by rfl) :
   QE X cl W (.Attribute e f pos) (eUn (fXf cs f) m) := by
 refine ⟨fun pins s σ H Q I ⟨ι, F, S, ρ, r, en, o⟩ => ?_⟩
 refine attr_of hb (thn (he.run pins s σ H _ I ⟨ι, F, S, ρ, r, en, o.bind⟩) fun u s1 ⟨x, H1, I1, rx, ι1, F1, S1, ux, e1, r1, z1, o1⟩ => ?_)
 have fi := Out.fin o1
 unfold fXf at fi
 split at fi
 · rename_i c fs
   split at fi
   · rename_i hcs
     obtain ⟨C, hno⟩ := hc c hcs
     cases q : fs.lookup f with
     | none => rw [q] at fi; exact fi.no
     | some d =>
       rw [q] at fi
       cases z1 with
       | v z1 =>
         obtain ⟨a, oe, od, dx, vs, rfl, J, ho, h4, _, rf⟩ := exn_at I1 z1
         obtain rfl : u = Value.ref a := rx
         obtain ⟨v, lv, zv⟩ := repF_lookup rf q
         have hx : ObjOk X.prog X.w H1 s1.heap dx (.xd vs) := I1.hok dx _ h4
         obtain ⟨mA, hns, hr⟩ := hx
         obtain ⟨od', ho', hl⟩ := lookIn_ns hns
         cases ho.symm.trans ho'
         obtain ⟨w, hw, rw'⟩ := RelO.some_of (v := v) (o := mA f) (by rw [← lv]; exact hr f)
         exact HandSPX.exc_get I1.kIn J C.ga C.gg C.sb (PySem.W.findObj_own C.hd hno rfl (by rw [hl, hw])) (handed_of rw') ⟨v, H1, I1.tok _, rw', fi.val r1 (.v zv)⟩
   · exact fi.no
 · exact fi.no
end
end Pu
namespace Pu
open PySem PySem.Spec L2
open PyProof.Rows hiding St
def fldV : List (Str × U) → Option (List (Str × D)) := optAll fun p => match p.2 with
 | .v d => some (p.1, d)
 | .r _ => none
structure MH where
 c : Nat
 i : Option Nat
 m : MS
def offR (i : Option Nat) (ρ : Env') : Env' := match i with
 | none => ρ
 | some i => ρ.set i none
def endR (i : Option Nat) : RS → RS
 | .nx ρ S => .nx (offR i ρ) S
 | .bk ρ S => .bk (offR i ρ) S
 | .ct ρ S => .ct (offR i ρ) S
 | .rt u S => .rt u S
 | _ => .er
def catchM (tab : Nat → Nat → Option Bool) (c : Nat) (fs : List (Str × U)) (ρ : Env') (S : Sto) : List MH → RS
 | [] => .ex c fs ρ S
 | h :: r => match tab c h.c with
   | some true => match h.i with
     | none => endR none (h.m ρ S)
     | some i => match fldV fs with
       | some ds => endR (some i) (h.m (ρ.set i (some (.v (.exn c ds)))) S)
       | none => .er
   | some false => catchM tab c fs ρ S r
   | none => .er
def sTry (tab : Nat → Nat → Option Bool) (b : MS) (hs : List MH) : MS := fun ρ S => match b ρ S with
 | .ex c fs ρ1 S1 => catchM tab c fs ρ1 S1 hs
 | r => r
def ETab (K : PySem.W.Frag) (cl : Nat → Addr) (tab : Nat → Nat → Option Bool) : Prop := ∀ c c' b, tab c c' = some b → PySem.W.exmOne K (.ref (cl c)) (.ref (cl c')) = some b
section
variable {B : Bx} {ι : List Addr} {F : Addr → Prop} {H : Hp} {S : Sto}
theorem Rel.addX {dx : Addr} {vs : List (Str × V)} (r : Rel B ι F S H) (h : H dx = some (.xd vs)) : Rel B ι (addF F dx) S H ∧ Evo ι F H ι (addF F dx) H := by
 have e : Evo ι F H ι (addF F dx) H := Evo.kept (fun _ _ z => z) fun _ z => .inl z
 refine ⟨⟨r.len, r.nd, fun n a c h1 h2 h3 z => ?_, fun n a c h1 h2 => ?_, r.there, fun a z => ?_, r.now⟩, e⟩
 · rcases z with z | rfl
   · exact r.nf n a c h1 h2 h3 z
   · have ok := r.ok n a c h1 h2
     cases c with
     | lst xs => obtain ⟨_, q, _⟩ := ok; rw [h] at q; cases q
     | tpc xs => obtain ⟨_, ⟨_, _, q⟩, _⟩ := ok; rw [h] at q; cases q
     | dic kvs => obtain ⟨_, q, _⟩ := ok; rw [h] at q; cases q
     | dicL kvs => obtain ⟨_, _, q, _⟩ := ok; rw [h] at q; cases q
     | ins c fs => obtain ⟨_, _, q, _⟩ := ok; rw [h] at q; cases q
     | dead => cases h3
 · have ok := r.ok n a c h1 h2
   cases c with
   | lst xs => obtain ⟨vs, q, z⟩ := ok; exact ⟨vs, q, z.mono e⟩
   | tpc xs => obtain ⟨vs, q, z⟩ := ok; exact ⟨vs, q, z.mono e⟩
   | dic kvs => obtain ⟨vs, q, y, z⟩ := ok; exact ⟨vs, q, y, z.mono e⟩
   | dicL kvs => obtain ⟨vs, od, q, y, z⟩ := ok; exact ⟨vs, od, q, y, z.mono e⟩
   | ins c fs =>
     obtain ⟨d2, vs, q, q2, nf, z⟩ := ok
     refine ⟨d2, vs, q, q2, ?_, z.mono e⟩
     rintro (y | rfl)
     · exact nf y
     · rw [h] at q2; cases q2
   | dead => trivial
 · rcases z with z | rfl
   · exact r.fthere a z
   · rw [h]; simp
theorem repF_ofP : ∀ {vs : List (Str × V)} {ds : List (Str × D)}, Paired (fun (a : Str × V) (b : Str × D) => a.1 = b.1 ∧ Rep B F H a.2 b.2) vs ds → RepF B F H vs ds
 | _, _, .nil => .nil
 | (_, _) :: _, (_, _) :: _, .cons h t => by
   obtain ⟨h1, h2⟩ := h
   cases h1
   exact .cons h2 (repF_ofP t)
theorem fldV_rep : ∀ {vs : List (Str × V)} {fs : List (Str × U)} {ds : List (Str × D)}, RepFU B ι F H vs fs → fldV fs = some ds → RepF B F H vs ds := by
 intro vs fs ds r e
 have p : Paired (fun (a : Str × V) (b : Str × D) => a.1 = b.1 ∧ Rep B F H a.2 b.2) vs ds := optAll_paired (P := fun (e : Str × V) (p : Str × U) => e.1 = p.1 ∧ RepU B ι F H e.2 p.2) (fun g a b hp hf => by
   obtain ⟨h1, h2⟩ := hp
   obtain ⟨a1, a2⟩ := a
   obtain ⟨g1, g2⟩ := g
   cases a2 with
   | v d => cases hf; cases h2 with | v z => exact ⟨h1, z⟩
   | r n => cases hf) r e
 exact repF_ofP p
end
section
variable {X : Cx} {cl : Nat → Addr} {W : WX}
inductive MHs (X : Cx) (cl : Nat → Addr) : List ExceptHandler → List MH → Prop
 | nil : MHs X cl [] []
 | cons {x : Str} {c : Nat} {n : Option Str} {i : Option Nat} {m : MS} {b₀ : Stmt} {suite : List Stmt} {np pos' : Pos} {hds : List ExceptHandler} {l : List MH} (hc : Names X x (.ref (cl c))) (hn : NmOk X n i)
     (hsu : ∀ (z : SuD), SuOk z → QSs (Cx.suX X z) cl W0 (b₀ :: suite) m) (r : MHs X cl hds l) : MHs X cl (.ExceptHandler (some (.Name x np)) n (b₀ :: suite) pos' :: hds) (⟨c, i, m⟩ :: l)
def hdOf (X : Cx) (cl : Nat → Addr) (h : MH) : Hd := ⟨.ref (cl h.c), h.i, liftS (bx X cl) W0 h.m⟩
theorem MHs.ok {hds : List ExceptHandler} {l : List MH} (h : MHs X cl hds l) : HdOk X hds (l.map (hdOf X cl)) := by
 induction h with
 | nil => exact .nil
 | cons hc hn hsu r ih => exact .cons hc hn hsu ih
theorem renv_on {ι : List Addr} {F : Addr → Prop} {H : Hp} {σ : L2.St} {ρ : Env'} {i : Nat} {a : Addr} {u : U} (en : REnv (bx X cl) ι F H σ ρ) (z : RepU (bx X cl) ι F H (.ref a) u) : REnv (bx X cl) ι F H (σ.set i (some (.ref a))) (ρ.set i (some u)) := paired_set (show RepO (bx X cl) ι F H (some (.ref a)) (some u) from z) i en
theorem renv_off {ι : List Addr} {F : Addr → Prop} {H : Hp} {σ : L2.St} {ρ : Env'} {i : Option Nat} (en : REnv (bx X cl) ι F H σ ρ) : REnv (bx X cl) ι F H (offN i σ) (offR i ρ) := by
 cases i with
 | none => exact en
 | some i => exact paired_set (show RepO (bx X cl) ι F H none none from trivial) i en
theorem endR_out {ι : List Addr} {F : Addr → Prop} {H : Hp} {D : Ends} {i : Option Nat} {r : RS} (h : OutS (bx X cl) W ι F H D (endR i r)) : OutS (bx X cl) W0 ι F H (endN i D) r := by
 cases r with
 | nx ρ S => exact fun σ ι' F' H' e r en => h (offN i σ) ι' F' H' e r (renv_off en)
 | bk ρ S => exact fun σ ι' F' H' e r en => h (offN i σ) ι' F' H' e r (renv_off en)
 | ct ρ S => exact fun σ ι' F' H' e r en => h (offN i σ) ι' F' H' e r (renv_off en)
 | rt u S => exact h
 | ex c fs ρ S => exact h.elim
 | er => exact h
theorem catch_ok {tab : Nat → Nat → Option Bool} (ht : ETab X.K cl tab) {D : Ends} {c : Nat} {fs : List (Str × U)} {ρ : Env'} {S : Sto} {σ : L2.St} {ι : List Addr} {F : Addr → Prop} {H : Hp} {dx : Addr} {vs : List (Str × V)} (r : Rel (bx X cl) ι F S H) (en : REnv (bx X cl) ι F H σ ρ) (hx : H dx = some (.xd vs)) (rf : RepFU (bx X cl) ι F H vs fs) :
   ∀ {l : List MH}, OutS (bx X cl) W ι F H D (catchM tab c fs ρ S l) → wHds X.K W D (l.map (hdOf X cl)) (.ref (cl c)) (some dx) σ H
 | [], o => o σ ι F H Evo.refl en dx vs ι F H Evo.refl r hx rf
 | h :: l, o => by
   unfold catchM at o
   cases q : tab c h.c with
   | none => rw [q] at o; exact o.elim
   | some b =>
     rw [q] at o
     refine ⟨b, ht _ _ _ q, fun hb a oe w na hz hd => ?_, fun hb => ?_⟩
     · subst hb
       have e1 : Evo ι F H ι (addF F a) (upd H a (.frz oe (xO a oe))) := Evo.newF na
       have r1 : Rel (bx X cl) ι (addF F a) S (upd H a (.frz oe (xO a oe))) := r.newF na
       have hda : dx ≠ a := fun z => by rw [z, na] at hx; cases hx
       have hx1 : upd H a (.frz oe (xO a oe)) dx = some (.xd vs) := by rw [upd_ne hda]; exact hx
       obtain ⟨r2, e2⟩ := r1.addX hx1
       have e12 := e1.trans e2
       have en2 := en.mono e12
       simp only at o
       cases hi : h.i with
       | none =>
         rw [hi] at o
         simp only [hdOf, hi]
         exact ⟨ι, _, S, ρ, r2, en2, (endR_out o).shift e12⟩
       | some i =>
         rw [hi] at o
         simp only at o
         cases qf : fldV fs with
         | none => rw [qf] at o; exact o.elim
         | some ds =>
           rw [qf] at o
           simp only [hdOf, hi]
           have z : RepU (bx X cl) ι (addF (addF F a) dx) (upd H a (.frz oe (xO a oe))) (.ref a) (.v (.exn c ds)) := .v (.exn (.inl (.inr rfl)) (.inr rfl) (.inr ⟨_, upd_same⟩) hz.1 hz.2.1 hd hx1 (fldV_rep (rf.mono e12) qf))
           exact ⟨ι, _, S, _, r2, renv_on en2 z, (endR_out o).shift e12⟩
     · subst hb
       exact catch_ok ht r en hx rf o
theorem qs_try {tab : Nat → Nat → Option Bool} {body : List Stmt} {h₀ : ExceptHandler} {hds : List ExceptHandler} {l : List MH} {pos : Pos} {mb : MS} (ht : ETab X.K cl tab) (hs : X.stack = X.env :: X.outer) (hx : X.ex = []) (hf : X.env.frame = some X.env.locals) (hN : X.N.Nodup) (tk : L2N.Takes X W)
   (hb : ∀ (W : WX) (pn : List (Addr × Obj)) (xe : Value → Shared → Prop), L2N.Takes (X.tr pn xe) W → PassesOwn (model X.prog X.w) X.A X.env xe → QSs (X.tr pn xe) cl W body mb) (hk : MHs X cl (h₀ :: hds) l) :
   QS X cl W (.Try body (h₀ :: hds) [] [] pos) (sTry tab mb l) := by
 refine PS.imp (ps_tryX (tb := fun W => liftS (bx X cl) W mb) hs hx hf hN tk hb hk.ok) fun D σ H ⟨ι, F, S, ρ, r, en, o⟩ => ⟨ι, F, S, ρ, r, en, ?_⟩
 unfold sTry at o
 cases q : mb ρ S with
 | nx ρ1 S1 => rw [q] at o; exact o
 | rt u S1 => rw [q] at o; exact o
 | bk ρ1 S1 => rw [q] at o; exact o
 | ct ρ1 S1 => rw [q] at o; exact o
 | er => rw [q] at o; exact o
 | ex c fs ρ1 S1 =>
   rw [q] at o
   intro σ1 ι1 F1 H1 e1 en1 dx vs ι2 F2 H2 e2 r2 hx2 rf2
   exact catch_ok ht r2 (en1.mono e2) hx2 rf2 (o.shift (e1.trans e2))
end
end Pu
namespace Pu
open PySem PySem.Spec L2
open PyProof.Rows hiding St
abbrev Es (W : WX) (σ : L2.St) : XK := fun cls d H => W cls d σ H
section
variable {B : Bx} {W : WX} {σ : L2.St} {ι : List Addr} {F : Addr → Prop} {H : Hp}
end
section
variable {X : Cx} {cl : Nat → Addr} {W : WX} {k n : Nat} {f C : Addr} {fd : FuncData} {ps ks : List Str} {mf : List U → Sto → R U} {pins : List (Addr × Obj)} {σ : L2.St} {H : Hp} {s : Shared} {Q : VK} {us ws : List Value} {vs zs : List V} {sp : Sp}
theorem passS {e : Value} {s' : Shared} (tk : L2N.Takes X W) (I : Inv X pins σ H s) (c : L2N.CX X.prog X.w X.stack H s (Es W σ) e s') : X.xe e s' := tk e s' (L2N.XE.of_call I (fun _ _ _ h => h) c)
theorem run_makeS {g : List Value → List Value → List Value} {gV : List V → List V → List V} (M : Mk X.K C f) (Fn : FnOk X.prog X.w X.K X.mg X.base (L2N.CX X.prog X.w) k f fd ps sp) (hr : Room (k + 1) X.A) (hb : KBn X.K fd ps (n + 1) ks g gV) (tk : L2N.Takes X W)
   (I : Inv X pins σ H s) (r : Vals vs us) (rz : Vals zs ws) (l1 : vs.length = n) (l2 : zs.length = ks.length)
   (h : ∀ x dx, H x = none → H dx = none → dx ≠ x → sp (gV (.ref x :: vs) zs) (upd (upd H dx (.own x)) x (.ins C dx [])) (fun v H2 => v = .non ∧ Q (.ref x) H2) (Es W σ)) :
   wpAny (model X.prog X.w) X.A (call (.ref C) us (ks.zip ws)) (EP X pins σ Q) X.xe s := by
 obtain ⟨a, ea⟩ : ∃ a, a = s.heap.objs.size + 1 := ⟨_, rfl⟩
 have J := Inv.made (C := C) I
 rw [← ea] at J
 have hq := h a s.heap.objs.size (by rw [ea]; exact I.hok.fresh (Nat.le_succ _)) (I.hok.fresh (Nat.le_refl _)) (by rw [ea]; exact Nat.ne_of_lt (Nat.lt_succ_self _))
 have r1 : Vals (V.ref a :: vs) (Value.ref a :: us) := .cons rfl r
 have r2 := hb.rel r1 rz
 have n1 : (Value.ref a :: us).length = n + 1 := by simp [← r.length, l1]
 refine wpAny_call (make_map (f := f) I.kIn M.makes M.init (beq_iff_eq.mp M.fn) ?_)
 rw [← ea]
 refine codeAny_mono (Fn.run _ X.stack _ _ ⟨Value.ref a :: us, ks.zip ws⟩ (g (Value.ref a :: us) ws) _ _ (Es W σ) (hr.make C us (ks.zip ws)) (J.env0.make C us (ks.zip ws)) (hb.to _ (Value.ref a :: us) ws J.kIn n1 (rz.length.symm.trans l2)) r2 hq) fun r s' hq' => ?_
 cases r with
 | error e => exact passS tk J hq'
 | ok fl =>
   cases fl with
   | ret u =>
     obtain ⟨v, H', I3, rv, ev, q3⟩ := J.after hq'
     subst ev
     exact ⟨rv, ⟨V.ref a, H', I3, rfl, q3⟩⟩
   | next => exact hq'.elim
   | brk => exact hq'.elim
   | cont => exact hq'.elim
end
section
variable {X : Cx} {cl : Nat → Addr} {W : WX} {k n : Nat} {f C : Addr} {fd : FuncData} {ps ks : List Str} {mf : List U → Sto → R U} {x m : Str} {p pos apos : Pos} {e o : Expr} {es : List Expr} {mo : ME} {mA mK : MA} {kws : List Keyword}
theorem make_spS {c : Nat} {σ : L2.St} {ι : List Addr} {F : Addr → Prop} {H : Hp} {S : Sto} {Q : VK} {vs : List V} {us : List U} (r : Rel (bx X cl) ι F S H) (z : RepUs (bx X cl) ι F H vs us)
   (o : Out (bx X cl) W σ ι F H (RepU (bx X cl)) Q (eMake c n mf us S)) : ∀ x dx, H x = none → H dx = none → dx ≠ x → SpM (bx X cl) n mf (.ref x :: vs) (upd (upd H dx (.own x)) x (.ins (cl c) dx [])) (fun v H2 => v = .non ∧ Q (.ref x) H2) (Es W σ) := by
 intro x dx hx hdx ne
 have h := make_sp (X := X) (cl := cl) (W := fun cls d _ H' => Es W σ cls d H') (σ := σ) (n := n) (mf := mf) (c := c) (fun _ _ _ _ _ h => h) r z (Q := Q) ?_ x dx hx hdx ne
 · exact h
 · cases q : eMake c n mf us S with
   | ok a S' => rw [q] at o; exact o
   | ex c fs S' => rw [q] at o; exact o
   | er => rw [q] at o; exact o
theorem kbn_of {ds : List Value} {dvs : List V} (hb : Binds X.K fd ps ds) (hd : Vals dvs ds) {np : Nat} (hn : np + ds.length = ps.length) : KBn X.K fd ps np [] (fun us _ => us ++ ds) (fun vs _ => vs ++ dvs) :=
 ⟨fun s us ws X l1 _ => by
   have h := hb s us X (by simp; omega)
   exact h, fun a _ => a.append hd⟩
theorem qe_makeS {c : Nat} {dvs : List V} {ds : List Value} {dds : List D} (M : Mk X.K (cl c) f) (Fn : FnOk X.prog X.w X.K X.mg X.base (L2N.CX X.prog X.w) k f fd ps (SpM (bx X cl) n mf)) (tk : L2N.Takes X W) (hr : Room (k + 1) X.A) (hg : Gl X x) (hm : X.mg x = some (.ref (cl c))) (hb : Binds X.K fd ps ds) (hd : Vals dvs ds) (hD : Dfl cl dvs dds)
   (ha : QA X cl W (e :: es) mA) (hdb : (x == ("__debug__" : Str)) = false := by decide) (he : starEach (e :: es) X.env = (false, eval e X.env) :: starEach es X.env := by rfl) (hpl : (backTo pos (starEach es X.env)).any (·.1) = false := by rfl) :
   QE X cl W (.Call (.Name x p) (e :: es) [] pos) (eMk c n mf (dds.map U.v) mA) := by
 refine ⟨fun pins s σ H Q I ⟨ι, F0, S, ρ, r, en, o⟩ => ?_⟩
 refine wpAny_Call_Name_kw (ld_glob I hg hm ?_ hdb)
 refine PySem.W.callWith_K (h₀ := X.base) I.ok.mod.kin M.kp (thn (ha.run pos pins s σ H _ I ⟨ι, F0, S, ρ, r, en, o.bind⟩) fun us s1 ⟨vs, H1, I1, rv, ι1, F1, S1, ws, e1, r1, z1, o1⟩ => ⟨I1.kIn, ?_⟩) he hpl
 have hs := make_spS r1 (paired_append z1 (reps_u (hD _ F1 H1 rfl))) o1
 have h0 := hs (s1.heap.objs.size + 1) s1.heap.objs.size (I1.hok.fresh (Nat.le_succ _)) (I1.hok.fresh (Nat.le_refl _)) (Nat.ne_of_lt (Nat.lt_succ_self _))
 have hl := Fn.len _ _ _ _ h0
 have hl2 : (vs.length + 1) + ds.length = ps.length := by
   rw [← hl, ← hd.length]; simp; omega
 exact run_makeS (ks := []) (ws := []) (zs := []) M Fn hr (kbn_of hb hd hl2) tk I1 rv .nil rfl rfl fun x dx a b c => hs x dx a b c
end
section
variable {X : Cx} {cl : Nat → Addr} {W : WX} {k : Nat} {f : Addr} {fd : FuncData} {ps : List Str} {mf : List U → Sto → R U} {o i value : Expr} {mo mi mv : ME} {cs : List Nat} {pos pos' : Pos}
end
end Pu
namespace Pu
open PySem PySem.Spec L2
open PyProof.Rows hiding St
open PySem.W (ksFn)
namespace Hx
def oexB (K : PySem.W.Frag) (C : Addr) : Bool := (match K.lookup C with
 | some ⟨.type "type", _, .cls cd, sl⟩ => (match cd.mro, sl.toList with
   | .ref D :: bm, [_, _, _, _, some (.builtin n), _] => decide (D = C) && (decide (n = "ValueError.__new__") && (!cd.hasDel && (cd.hasDict && PySem.HandSPX.refsVE bm)))
   | _, _ => false)
 | _ => false) && (He.eqO (PySem.W.findIn K (.ref C) "__setattr__") (some (some (.builtin "object.__setattr__"))) && (decide (PySem.W.subIn K (.ref C) (.type "BaseException") = some true) && (decide (PySem.W.typeIn K (.ref C) = some (.type "type")) && PySem.W.keepIn K (.ref C))))
theorem oexB_ok {K : PySem.W.Frag} {C : Addr} (h : oexB K C = true) : OexC K C := by
 obtain ⟨h1, h⟩ := He.ba h
 obtain ⟨h2, h⟩ := He.ba h
 obtain ⟨h3, h⟩ := He.ba h
 obtain ⟨h4, h5⟩ := He.ba h
 refine ⟨?_, He.eqO_ok h2, of_decide_eq_true h3, of_decide_eq_true h4, h5⟩
 split at h1
 · rename_i dd cd sl ho
   split at h1
   · rename_i D bm k0 k1 k2 k3 n k5 hm hs
     obtain ⟨g1, h1⟩ := He.ba h1
     obtain ⟨g2, h1⟩ := He.ba h1
     obtain ⟨g3, h1⟩ := He.ba h1
     obtain ⟨g4, g5⟩ := He.ba h1
     obtain rfl := of_decide_eq_true g1
     obtain rfl := of_decide_eq_true g2
     obtain ⟨nm, bs, mro, ns, qn, hd, sn, sub, ab, col, del⟩ := cd
     simp only at hm g3 g4
     subst hm g4
     obtain rfl : del = false := by simpa using g3
     obtain rfl : sl = #[k0, k1, k2, k3, some (.builtin "ValueError.__new__"), k5] := by
       obtain ⟨l⟩ := sl
       simp only at hs
       rw [hs]
     exact ⟨nm, qn, ns, bs, bm, sn, sub, ab, col, dd, k0, k1, k2, k3, k5, ho, g5⟩
   · cases h1
 · cases h1
def errB (P : Program) (K : PySem.W.Frag) (f C : Addr) : Bool := (match K.lookup f with
 | some ⟨_, _, .func fd, _⟩ => (match fd.closure with
   | [(_, cc)] => (match K.lookup cc with
     | some ⟨_, _, .cell (some (.ref D)), _⟩ => decide (D = C)
     | _ => false)
   | _ => false) && (match fd.code with
   | .ref cda => (match K.lookup cda with
     | some ⟨_, _, .fields vs, _⟩ => (match (vs[2]? : Option Value) with
       | some (.str file _) => ((P.main.file : Str) == file)
       | _ => false)
     | _ => false)
   | _ => false)
 | _ => false) && ((PySem.W.clsIn K C).isSome && (decide (PySem.W.mroIn K C (.ref C) = some true) && (He.eqO (PySem.W.nsIn K cStatics "thirdparty.any") (some none) &&
   (He.eqO (PySem.W.ks_superIn K C C "__init__") (some (some (.builtin "ValueError.__init__"))) && (decide (PySem.W.subIn K (.ref C) (.type "ValueError") = some true) && oexB K C)))))
theorem DefX.errD {P : Program} {K : PySem.W.Frag} {d : DefX} {C : Addr} (e : d.obs K = d.val) (c : d.ok K = true) (hc : d.clo = [("__class__" : Str)]) (hz : d.dfl = []) (b : errB P K (d.ad K) C = true) : ∃ fd, ErrD P K d.name d.qual d.params d.body d.scope C (d.ad K) fd := by
 obtain ⟨kp, oc, od, osl, cl, dV, kV, doc, pm, an, cdv, ct, h7, lk, k1, k2⟩ := DefX.get e c
 have hdv : d.dvs K = [] := by unfold DefX.dvs; rw [hz]; rfl
 rw [hdv] at k2
 rw [hc] at h7
 obtain ⟨⟨nm, cc⟩, rfl⟩ : ∃ p, cl = [p] := by
   cases cl with
   | nil => simp at h7
   | cons p r => cases r with
     | nil => exact ⟨p, rfl⟩
     | cons _ _ => simp at h7
 obtain rfl : nm = ("__class__" : Str) := by simpa using h7
 unfold errB at b
 rw [lk] at b
 obtain ⟨b1, b⟩ := He.ba b
 obtain ⟨b2, b⟩ := He.ba b
 obtain ⟨b3, b⟩ := He.ba b
 obtain ⟨b5, b⟩ := He.ba b
 obtain ⟨b6, b⟩ := He.ba b
 obtain ⟨b7, b8⟩ := He.ba b
 obtain ⟨a1, a2⟩ := He.ba b1
 have a1' : (match K.lookup cc with
     | some ⟨_, _, .cell (some (.ref D)), _⟩ => decide (D = C)
     | _ => false) = true := a1
 split at a1'
 · rename_i cl cld D csl hcc
   obtain rfl : D = C := of_decide_eq_true a1'
   cases cdv with
   | ref cda =>
     have a2' : (match K.lookup cda with
       | some ⟨_, _, .fields vs, _⟩ => (match (vs[2]? : Option Value) with
         | some (.str file _) => ((P.main.file : Str) == file)
         | _ => false)
       | _ => false) = true := a2
     split at a2'
     · rename_i ccl cdd vs ccs hcode
       split at a2'
       · rename_i file tf hvs
         exact ⟨_, ⟨oc, od, dV, kV, doc, pm, an, cda, ct, osl, cc, cl, cld, csl, ccl, cdd, vs, ccs, file, tf, rfl, lk, k1, hcc, hcode, hvs, a2', k2⟩, Option.isSome_iff_exists.mp b2, of_decide_eq_true b3, He.eqO_ok b5, He.eqO_ok b6, of_decide_eq_true b7, oexB_ok b8, kp⟩
       · cases a2'
     · cases a2'
   | _ => cases (show false = true from a2)
 · cases a1'
def iniB (K : PySem.W.Frag) (C : Addr) : Bool := He.eqO (PySem.W.findIn K (.ref C) "__init__") (some (some (.ref (He.ma K C "__init__")))) && decide (PySem.W.typeIn K (.ref (He.ma K C "__init__")) = some (.type "function"))
theorem iniB_ok {K : PySem.W.Frag} {C : Addr} (h : iniB K C = true) : PySem.W.findIn K (.ref C) "__init__" = some (some (.ref (He.ma K C "__init__"))) ∧ PySem.W.typeIn K (.ref (He.ma K C "__init__")) = some (.type "function") := by
 obtain ⟨h1, h2⟩ := He.ba h
 exact ⟨He.eqO_ok h1, of_decide_eq_true h2⟩
end Hx
theorem ErrD.bindsN {P : Program} {K : PySem.W.Frag} {x qual : Str} {params : Arguments} {body : List Stmt} {scope : Scope} {C f : Addr} {fd : FuncData} {ps : List Str} (Sd : ErrD P K x qual params body scope C f fd)
   (h : ∀ (cda cc : Addr) (kV doc pm : Value) (an : Option Addr) (ct : Value) (us : List Value), us.length = ps.length → bindArgs (ksFn x qual params body scope .none kV doc pm an (.ref cda) ct cc) ⟨us, []⟩ = pure (ps.zip us)) : Binds K fd ps [] := by
 obtain ⟨oc, od, dV, kV, doc, pm, an, cda, ct, osl, cc, cl, cld, csl, ccl, cdd, vs, ccs, file, tf, rfl, lk, k1, hcc, hcode, hvs, hf, hD⟩ := Sd.ex
 rcases hD with ⟨_, rfl⟩ | ⟨e, _⟩
 · intro s us X hlen
   rw [List.append_nil] at hlen ⊢
   exact BindsTo.of_looks fun M => .of_pure (h cda cc kV doc pm an ct us hlen)
 · exact absurd rfl e
end Pu
namespace Pu
open PySem
section
variable {Q : Post} {q : U → Sto → Prop} {X : XP} {ρ : Env'} {S : Sto}
@[simp ↓] theorem s_raise (c : Nat) (fns : List Str) (mA : MA) : wps (sRaise c fns mA ρ S) Q = wpr (mA ρ S) (fun us S1 => us.length = fns.length ∧ Q.ex c (fns.zip us).reverse ρ S1) (fun c fs S => Q.ex c fs ρ S) := by
 simp only [sRaise, wps_st]
 congr 1; funext us S1
 by_cases h : us.length = fns.length <;> simp [h, wps]
def wCatch (tab : Nat → Nat → Option Bool) (c : Nat) (fs : List (Str × U)) (ρ : Env') (S : Sto) (Q : Post) (l : List MH) : Prop := wps (catchM tab c fs ρ S l) Q
@[simp ↓] theorem s_try (tab : Nat → Nat → Option Bool) (b : MS) (hs : List MH) : wps (sTry tab b hs ρ S) Q = wps (b ρ S) { Q with ex := fun c fs ρ1 S1 => wCatch tab c fs ρ1 S1 Q hs } := by
 unfold sTry
 cases b ρ S <;> rfl
def offP (i : Option Nat) (Q : Post) : Post := { nx := fun ρ S => Q.nx (offR i ρ) S, bk := fun ρ S => Q.bk (offR i ρ) S, ct := fun ρ S => Q.ct (offR i ρ) S, rt := Q.rt }
theorem wps_endR (i : Option Nat) (r : RS) : wps (endR i r) Q = wps r (offP i Q) := by cases r <;> rfl
theorem wCatch_yes {tab : Nat → Nat → Option Bool} {c : Nat} {fs : List (Str × U)} {ds : List (Str × D)} {c' i : Nat} {m : MS} {l : List MH} (h : tab c c' = some true) (hf : fldV fs = some ds) :
   wCatch tab c fs ρ S Q (⟨c', some i, m⟩ :: l) = wps (m (ρ.set i (some (.v (.exn c ds)))) S) (offP (some i) Q) := by
 unfold wCatch catchM
 simp only [h, hf, wps_endR]
theorem wCatch_no {tab : Nat → Nat → Option Bool} {c : Nat} {fs : List (Str × U)} {c' : Nat} {i : Option Nat} {m : MS} {l : List MH} (h : tab c c' = some false) : wCatch tab c fs ρ S Q (⟨c', i, m⟩ :: l) = wCatch tab c fs ρ S Q l := by
 unfold wCatch
 rw [catchM]
 simp only [h]
@[simp ↓] theorem w_callL (n : Nat) (mf : List U → Sto → R U) (a : MA) : wpr (eCallL n mf a ρ S) q X = wpr (a ρ S) (fun us S1 => us.length = n ∧ wpr (mf us S1) q (fun _ _ _ => False)) X := by
 simp only [eCallL, wpr_bind]
 congr 1; funext us S1
 by_cases h : us.length = n
 · simp only [h, if_true, true_and]
   cases mf us S1 <;> rfl
 · simp [h]
@[simp ↓] theorem v_xf (cs : List Nat) (f : Str) (c : Nat) (fs : List (Str × D)) : wpO (fXf cs f (.v (.exn c fs)) S) q = (c ∈ cs ∧ wpo (fs.lookup f) fun d => q (.v d) S) := by
 unfold fXf
 by_cases h : c ∈ cs
 · simp only [h, if_true, true_and]
   cases fs.lookup f <;> rfl
 · simp [h]
@[simp ↓] theorem v_isE (tab : Nat → Nat → Option Bool) (c c' : Nat) (fs : List (Str × D)) : wpO (fIsE tab [.v (.exn c fs), .v (.cls c')] S) q = wpo (tab c c') fun b => q (.v (.bl b)) S := by
 cases e : tab c c' <;> simp [fIsE, e]
@[simp ↓] theorem v_isEv (tab : Nat → Nat → Option Bool) (c : Nat) (fs : List (Str × D)) : wpO (fIsE tab [.v (.exn c fs), .v (.ty "ValueError")] S) q = ((tab c c).isSome = true ∧ q (.v (.bl true)) S) := by
 by_cases h : (tab c c).isSome = true <;> simp [fIsE, h]
end
end Pu
namespace Pu
open PySem PySem.Spec L2
open PyProof.Rows hiding St
def KwV (kv : Option Value) (vk : V) : Prop := match kv with
 | some u => RelV vk u
 | none => vk = .non
def kwA (kn : Str) (kv : Option Value) : List (Str × Value) := match kv with
 | some u => [(kn, u)]
 | none => []
def FnV (P : Program) (w : World) (K : PySem.W.Frag) (mg : Str → Option Value) (base : Heap) (k : Nat) (f : Addr) (kn : Str) (sp : Sp) : Prop :=
 ∀ (A : Around) (outer : List Env) (s : Shared) (H : Hp) (x : Value) (rest : List Value) (kv : Option Value) (vx vk : V) (vr : List V) (Q : VK) (E : XK), Room k A → Env0 P w K mg base A outer s H → RelV vx x → Vals vr rest → KwV kv vk → vr.length ≤ sizeLine →
   (∀ (p : Addr) (ob : Obj), ob.dict = Option.none → H p = none → sp [vx, vk, .ref p] (upd H p (.frz ob (.tup vr))) Q E) → codeAny (model P w) A (.call (.ref f) ⟨x :: rest, kwA kn kv⟩) (CR (L2N.CX P w) outer P w H s Q E) s
section
variable {P : Program} {w : World} {K : PySem.W.Frag} {mg : Str → Option Value} {base : Heap} {cl : Nat → Addr} {x qual kn : Str} {params : Arguments} {body : List Stmt} {scope : Scope} {f : Addr} {fd : FuncData} {N : List Str} {ps pv : Str} {k : Nat} {m : MS}
end
def eMakeT (c : Nat) (mf : List U → Sto → R U) (us : List U) (pl : U) (S : Sto) : R U :=
 if us.length ≤ 1000 then (match allV us with
   | some ds => mf [.r S.length, pl, .v (.tup ds)] (S ++ [Cell.ins c []])
   | none => mf [.r S.length, pl, .r (S.length + 1)] (S ++ [Cell.ins c [], Cell.tpc us])).bind fun u S1 => match u with
   | .v .non => .ok (.r S.length) S1
   | _ => .er
 else .er
section
variable {X : Cx} {cl : Nat → Addr} {W : WX} {k : Nat} {f C : Addr} {kn : Str} {mf : List U → Sto → R U} {x : Str} {p pos : Pos} {e : Expr} {es : List Expr} {mA mK : MA}
def eMkT (c : Nat) (mf : List U → Sto → R U) (a : MA) : ME := fun ρ S => (a ρ S).bind fun us S1 => eMakeT c mf us (.v .non) S1
end
end Pu
namespace Pu
namespace Zx
open PySem PySem.Spec L2
open PyProof.Rows hiding St
def ItAt (t : Bool) (h : Heap) (it l : Addr) (k : Nat) : Prop := match t with
 | true => h.IsTupleIter it l k
 | false => h.IsListIter it l k
def SqAt (t : Bool) (h : Heap) (l : Addr) (xs : Array Value) : Prop := match t with
 | true => h.IsTuple l xs
 | false => h.IsList l xs
theorem ItAt.mv {t : Bool} {h g : Heap} {it l : Addr} {k : Nat} (x : ItAt t h it l k) (e : ∀ o, h.get? it = some o → g.get? it = some o) : ItAt t g it l k := by
 cases t with
 | true => exact Heap.IsTupleIter.at (show h.IsTupleIter it l k from x) e
 | false => exact Heap.IsListIter.at (show h.IsListIter it l k from x) e
theorem ItAt.there {t : Bool} {h : Heap} {it l : Addr} {k : Nat} (x : ItAt t h it l k) : ∃ o vs, h.get? it = some o ∧ o.data = .fields vs := by
 cases t with
 | true => obtain ⟨o, e, _, d⟩ := (show h.IsTupleIter it l k from x); exact ⟨o, _, e, d⟩
 | false => obtain ⟨o, e, _, d⟩ := (show h.IsListIter it l k from x); exact ⟨o, _, e, d⟩
theorem SqAt.mv {t : Bool} {h g : Heap} {l : Addr} {xs : Array Value} (x : SqAt t h l xs) (e : ∀ o, h.get? l = some o → g.get? l = some o) : SqAt t g l xs := by
 cases t with
 | true => obtain ⟨o, a, b⟩ := (show h.IsTuple l xs from x); exact (⟨o, e o a, b⟩ : g.IsTuple l xs)
 | false => obtain ⟨o, a, b⟩ := (show h.IsList l xs from x); exact (⟨o, e o a, b⟩ : g.IsList l xs)
section
variable {prog : Program} {w : World} {A : Around} {E : Value → Shared → Prop} {s : Shared} {t t1 t2 : Bool}
end
end Zx
end Pu
namespace Pu
namespace Zx
open PySem PySem.Spec L2
open PyProof.Rows hiding St
def Sq (t : Bool) (K : PySem.W.Frag) (H : Hp) (a : Addr) (xs : List V) : Prop := match t with
 | true => SqT K H a xs
 | false => SqL K H a xs
section
variable {X : Cx} {pins : List (Addr × Obj)} {σ : L2.St} {H : Hp} {s : Shared} {t : Bool} {a : Addr} {xs ys : List V}
end
def ItZ (K : PySem.W.Frag) (t1 t2 : Bool) (a b : Addr) : It where
 go := fun i H => ∃ (xs ys : List V) (x y : V), Sq t1 K H a xs ∧ Sq t2 K H b ys ∧ xs[i]? = some x ∧ ys[i]? = some y
 yld := fun i H v G => ∃ T x y, v = .ref T ∧ H T = none ∧ (∃ ob : Obj, ob.dict = none ∧ G = upd H T (.frz ob (.tup [x, y]))) ∧ (∀ xs, Sq t1 K H a xs → xs[i]? = some x) ∧ ∀ ys, Sq t2 K H b ys → ys[i]? = some y
 stop := fun i H => ∃ xs ys : List V, Sq t1 K H a xs ∧ Sq t2 K H b ys ∧ (xs.length ≤ i ∨ ys.length ≤ i)
theorem mem5 {c z TI TO i1 i2 : Addr} (h : c ∈ [z, TI, TO, i1, i2]) : c = z ∨ c = TI ∨ c = TO ∨ c = i1 ∨ c = i2 := by simpa using h
structure ZipSt (t1 t2 : Bool) (z TI TO i1 i2 a b : Addr) (i : Nat) (h : Heap) : Prop where
 z : IsZip h z TI TO .none
 ti : IsPair h TI (.ref i1) (.ref i2)
 to : ∃ x y, IsPair h TO x y
 m1 : ItAt t1 h i1 a i
 m2 : ItAt t2 h i2 b i
theorem ZipSt.obj {t1 t2 : Bool} {z TI TO i1 i2 a b : Addr} {i : Nat} {h : Heap} (st : ZipSt t1 t2 z TI TO i1 i2 a b i h) {c : Addr} (hc : c ∈ [z, TI, TO, i1, i2]) : ∃ o, h.get? c = some o ∧ ∀ v, o.data ≠ .cell v := by
 obtain ⟨x, y, q⟩ := st.to
 obtain ⟨o1, v1, e1, d1⟩ := st.m1.there
 obtain ⟨o2, v2, e2, d2⟩ := st.m2.there
 rcases mem5 hc with rfl | rfl | rfl | rfl | rfl
 · exact ⟨_, st.z, fun v q => nomatch q⟩
 · exact ⟨_, st.ti, fun v q => nomatch q⟩
 · exact ⟨_, q, fun v q => nomatch q⟩
 · exact ⟨o1, e1, fun v q => by rw [d1] at q; cases q⟩
 · exact ⟨o2, e2, fun v q => by rw [d2] at q; cases q⟩
end Zx
end Pu
namespace Pu
namespace Zx
open PySem PySem.Spec L2
open PyProof.Rows hiding St
def itO (t : Bool) (l : Addr) : Obj := match t with
 | true => { cls := .type "tuple_iterator", data := .fields #[.ref l, .int 0 0] }
 | false => { cls := .type "list_iterator", data := .fields #[.ref l, .int 0 0] }
section
variable {prog : Program} {w : World} {A : Around} {E : Value → Shared → Prop} {s : Shared} {t t1 t2 : Bool}
end
abbrev hA (h : Heap) (t1 : Bool) (l1 : Addr) : Heap := h.push (itO t1 l1)
abbrev hB (h : Heap) (t1 t2 : Bool) (l1 l2 : Addr) : Heap := (hA h t1 l1).push (itO t2 l2)
abbrev hC (h : Heap) (t1 t2 : Bool) (l1 l2 : Addr) : Heap := (hB h t1 t2 l1 l2).push { cls := .type "tuple", data := .seq #[.ref h.objs.size, .ref (hA h t1 l1).objs.size] }
abbrev hD (h : Heap) (t1 t2 : Bool) (l1 l2 : Addr) : Heap := (hC h t1 t2 l1 l2).push { cls := .type "tuple", data := .seq #[.none, .none] }
abbrev hE (h : Heap) (t1 t2 : Bool) (l1 l2 : Addr) : Heap := (hD h t1 t2 l1 l2).push { cls := .type "zip", data := .fields #[.none, .bool false, .bool false, .ref (hB h t1 t2 l1 l2).objs.size, .ref (hC h t1 t2 l1 l2).objs.size] }
def iZipX (K : PySem.W.Frag) (ta : TA) : TI := fun σ H R => ta σ H fun vs H1 => ∃ a b t1 t2 xs ys, vs = [.ref a, .ref b] ∧ Sq t1 K H1 a xs ∧ Sq t2 K H1 b ys ∧ R (ItZ K t1 t2 a b) H1
end Zx
def seqD : U → Option (Bool × List D)
 | .v (.lst ds) => some (false, ds)
 | .v (.frl ds) => some (false, ds)
 | .v (.tup ds) => some (true, ds)
 | _ => none
def zipD : List D → List D → List U
 | x :: xs, y :: ys => .v (.tup [x, y]) :: zipD xs ys
 | _, _ => []
def iZip (a : MA) : MI := fun ρ S => (a ρ S).bind fun us S1 => match us with
 | [x, y] => match seqD x, seqD y with
   | some p, some q => .ok ⟨zipD p.2 q.2, none⟩ S1
   | _, _ => .er
 | _ => .er
section
open PySem PySem.Spec L2
variable {X : Cx} {cl : Nat → Addr} {W : WX}
end
end Pu
namespace Pu
open PySem PySem.Spec L2
open PyProof.Rows hiding St
section
variable {M : Model} {A : Around} {E : Value → Shared → Prop} {s : Shared}
end
def eMkTS (c : Nat) (mf : List U → Sto → R U) (mx my : ME) : ME := fun ρ S => (mx ρ S).bind fun x S1 => (my ρ S1).bind fun y S2 => match asSeq S2 x with
 | some us => eMakeT c mf us y S2
 | none => .er
section
variable {X : Cx} {cl : Nat → Addr} {W : WX} {k : Nat} {f : Addr} {kn : Str} {mf : List U → Sto → R U} {x : Str} {p pos sp kpos : Pos} {e e2 : Expr} {mx my : ME}
end
end Pu
namespace Pu
open PySem PySem.Spec L2
open PyProof.Rows hiding St
def noAddB (K : PySem.W.Frag) (C : Addr) : Bool := match PySem.W.clsIn K C with
 | some cd => cd.mro.all fun c => He.eqO (PySem.W.findIn K c (PySem.dunder "add")) (some none) && He.eqO (PySem.W.findIn K c (dunderR "add")) (some none)
 | none => false
theorem any_no {M : Model} {A : Around} {E : Value → Shared → Prop} {α : Type} {f : α → Sem Bool} {s : Shared} {Q : Bool → Shared → Prop} (q : Q false s) : ∀ l : List α, (∀ c ∈ l, PySem.W.Looks M s.heap (f c) false) → wpAny M A (l.anyM f) Q E s
 | [], _ => wpAny_pure q
 | c :: l, h => by
   rw [List.anyM_cons]
   refine wpAny_bind ((h c (by simp)).here ?_)
   simp only [Bool.false_eq_true, if_false]
   exact any_no q l fun c' hc => h c' (by simp [hc])
theorem fills_no {M : Model} {K : PySem.W.Frag} {C : Addr} {h : Heap} (X : K.In h) (b : noAddB K C = true) : PySem.W.Looks M h (fillsNumberSlot (.ref C) "add") false := by
 unfold noAddB at b
 cases hc : PySem.W.clsIn K C with
 | none => rw [hc] at b; cases b
 | some cd =>
   rw [hc] at b
   have hb : ∀ c ∈ cd.mro, PySem.W.findIn K c (PySem.dunder "add") = some none ∧ PySem.W.findIn K c (dunderR "add") = some none := fun c hm => by
     obtain ⟨b1, b2⟩ := He.ba (List.all_eq_true.mp b c hm)
     exact ⟨He.eqO_ok b1, He.eqO_ok b2⟩
   intro A Q E s k q
   unfold fillsNumberSlot
   refine wpAny_bind ((PySem.W.looks_clsIn X hc).andThen (f := fun cd => pure cd.mro) .now A _ E s k ?_)
   refine any_no q _ fun c hm => ?_
   obtain ⟨b1, b2⟩ := hb c hm
   have L1 : PySem.W.Looks M s.heap (typeLookup c (PySem.dunder "add")) none := PySem.W.looks_findIn (X.keeps k) b1
   have L2 : PySem.W.Looks M s.heap (typeLookup c (dunderR "add")) none := PySem.W.looks_findIn (X.keeps k) b2
   intro A' Q' E' s' k' q'
   have two : wpAny M A' (([PySem.dunder "add", dunderR "add"] : List Str).anyM fun name => do
       let some x ← typeLookup c name | return false
       if !ownNameWrapper x name then return true
       return !(← inheritsSeqSlot c name)) Q' E' s' := by
     refine any_no q' _ fun n hn => ?_
     have hn' : n = PySem.dunder "add" ∨ n = dunderR "add" := by simpa using hn
     rcases hn' with rfl | rfl
     · exact (L1.keeps k').andThen .now
     · exact (L2.keeps k').andThen .now
   cases c with
   | type T => exact wpAny_bind (L1 A' _ E' s' k' (wpAny_bind (L2 A' _ E' s' k' (wpAny_pure q'))))
   | _ => exact two
section
variable {prog : Program} {w : World} {A : Around} {E : Value → Shared → Prop} {s : Shared} {K : PySem.W.Frag} {x C f : Addr} {ox : Obj} {od : Option Obj}
end
def eAddO (cs bs : List Nat) (mf : List U → Sto → R U) (ma mb : ME) : ME := fun ρ S => (ma ρ S).bind fun a S1 => (mb ρ S1).bind fun b S2 => match asIns S2 a, asIns S2 b with
 | some (c, _), some (d, _) => if c ∈ cs ∧ d ∈ bs then mf [a, b] S2 else .er
 | _, _ => .er
def sAugO (i : Nat) (cs : List Nat) (mf : List U → Sto → R U) (mb : ME) : MS := fun ρ S => match ρ[i]? with
 | some (some a) => (mb ρ S).st ρ fun b S1 => match asIns S1 a with
   | some (c, _) => if c ∈ cs then (mf [a, b] S1).st ρ fun u S2 => .nx (ρ.set i (some u)) S2 else .er
   | none => .er
 | _ => .er
section
variable {X : Cx} {cl : Nat → Addr} {W : WX} {k : Nat} {f : Addr} {fd : FuncData} {ps : List Str} {mf : List U → Sto → R U} {a b : Expr} {ma mb : ME} {cs bs : List Nat} {pos pos' : Pos}
structure AddM (K : PySem.W.Frag) (C f : Addr) : Prop where
 m : OwnM K C "__add__" f
 sf : PySem.W.selfFirst K C = true
structure IAddM (K : PySem.W.Frag) (C f : Addr) : Prop where
 m : OwnM K C "__iadd__" f
 sf : PySem.W.selfFirst K C = true
end
def aStar (m : ME) (mA : MA) : MA := fun ρ S => (m ρ S).bind fun u S1 => (match asSeq S1 u with
 | some xs => .ok xs S1
 | none => .er : R (List U)).bind fun xs S1 => (mA ρ S1).bind fun ys S2 => .ok (xs ++ ys) S2
section
variable {X : Cx} {cl : Nat → Addr} {W : WX} {e : Expr} {es : List Expr} {m : ME} {mA : MA} {p : Pos}
end
end Pu
namespace Pu
open PySem L2
def rot {α : Type} (l : List α) : List α := match l with
 | [a, b] => [b, a]
 | l => l
def gSuf (i : Int) (us ws : List U) : List U := us ++ (ws ++ [.v (.int i)])
def gPre (i : Int) (us ws : List U) : List U := us ++ ([.v (.int i)] ++ ws)
def gRot (us ws : List U) : List U := us ++ rot ws
end Pu
namespace Pu
open PySem L2
mutual
def pyB : D → Option PyData
 | .non => some .none
 | .int i => some (.int i)
 | .str x => some (.str x)
 | .bl b => some (.bool b)
 | .tup xs => (pysB xs).map .tuple
 | .lst xs => (pysB xs).map .list
 | .dic _ => none
 | .ins _ _ => none
 | .cls _ => none
 | .ty _ => none
 | .frl _ => none
 | .exn _ _ => none
def pysB : List D → Option (List PyData)
 | [] => some []
 | x :: xs => match pyB x, pysB xs with
   | some p, some ps => some (p :: ps)
   | _, _ => none
end
theorem pysB_cons {x : D} {xs : List D} {ps : List PyData} (h : pysB (x :: xs) = some ps) : ∃ p qs, ps = p :: qs ∧ pyB x = some p ∧ pysB xs = some qs := by
 unfold pysB at h
 split at h
 · rename_i p qs h1 h2
   cases h
   exact ⟨p, qs, rfl, h1, h2⟩
 · cases h
mutual
def likeB : D → D → Bool
 | .bl _, .int _ => false
 | .int _, .bl _ => false
 | .tup xs, .tup ys => likesB xs ys
 | .lst xs, .lst ys => likesB xs ys
 | _, _ => true
def likesB : List D → List D → Bool
 | x :: xs, y :: ys => likeB x y && likesB xs ys
 | _, _ => true
end
mutual
theorem pyB_eqv : ∀ {a b : D} {p q : PyData}, pyB a = some p → pyB b = some q → likeB a b = true → (PyData.eqv p q = true ↔ a = b)
 | .non, b, p, q, h, h', l => by
   simp [pyB] at h; subst h
   cases b <;> simp [pyB] at h' <;> (first | (subst h'; simp [PyData.eqv]) | (obtain ⟨_, _, rfl⟩ := h'; simp [PyData.eqv]))
 | .int i, b, p, q, h, h', l => by
   simp [pyB] at h; subst h
   cases b <;> simp [pyB] at h' <;> (first | (subst h'; simp [PyData.eqv]; done) | (obtain ⟨_, _, rfl⟩ := h'; simp [PyData.eqv]; done) | (simp [likeB] at l; done))
 | .bl i, b, p, q, h, h', l => by
   simp [pyB] at h; subst h
   cases b <;> simp [pyB] at h' <;> (first | (subst h'; simp [PyData.eqv]; done) | (obtain ⟨_, _, rfl⟩ := h'; simp [PyData.eqv]; done) | (simp [likeB] at l; done))
 | .str i, b, p, q, h, h', l => by
   simp [pyB] at h; subst h
   cases b <;> simp [pyB] at h' <;> (first | (subst h'; simp [PyData.eqv]; done) | (obtain ⟨_, _, rfl⟩ := h'; simp [PyData.eqv]; done))
 | .tup xs, b, p, q, h, h', l => by
   simp only [pyB, Option.map_eq_some_iff] at h
   obtain ⟨ps, h1, rfl⟩ := h
   cases b with
   | tup ys =>
     simp only [pyB, Option.map_eq_some_iff] at h'
     obtain ⟨qs, h2, rfl⟩ := h'
     have := pysB_eqv h1 h2 (by simpa [likeB] using l)
     simpa [PyData.eqv] using this
   | lst ys => simp only [pyB, Option.map_eq_some_iff] at h'; obtain ⟨qs, h2, rfl⟩ := h'; simp [PyData.eqv]
   | _ => simp [pyB] at h' <;> (subst h'; simp [PyData.eqv])
 | .lst xs, b, p, q, h, h', l => by
   simp only [pyB, Option.map_eq_some_iff] at h
   obtain ⟨ps, h1, rfl⟩ := h
   cases b with
   | lst ys =>
     simp only [pyB, Option.map_eq_some_iff] at h'
     obtain ⟨qs, h2, rfl⟩ := h'
     have := pysB_eqv h1 h2 (by simpa [likeB] using l)
     simpa [PyData.eqv] using this
   | tup ys => simp only [pyB, Option.map_eq_some_iff] at h'; obtain ⟨qs, h2, rfl⟩ := h'; simp [PyData.eqv]
   | _ => simp [pyB] at h' <;> (subst h'; simp [PyData.eqv])
 | .dic _, _, _, _, h, _, _ => by simp [pyB] at h
 | .ins _ _, _, _, _, h, _, _ => by simp [pyB] at h
 | .cls _, _, _, _, h, _, _ => by simp [pyB] at h
 | .ty _, _, _, _, h, _, _ => by simp [pyB] at h
 | .frl _, _, _, _, h, _, _ => by simp [pyB] at h
 | .exn _ _, _, _, _, h, _, _ => by simp [pyB] at h
theorem pysB_eqv : ∀ {a b : List D} {p q : List PyData}, pysB a = some p → pysB b = some q → likesB a b = true → (PyData.eqvAll p q = true ↔ a = b)
 | [], b, p, q, h, h', l => by
   simp [pysB] at h; subst h
   cases b with
   | nil => simp [pysB] at h'; subst h'; simp [PyData.eqvAll]
   | cons y ys => obtain ⟨_, _, rfl, _⟩ := pysB_cons h'; simp [PyData.eqvAll]
 | x :: xs, b, p, q, h, h', l => by
   obtain ⟨r, rs, rfl, h1, h2⟩ := pysB_cons h
   cases b with
   | nil => simp [pysB] at h'; subst h'; simp [PyData.eqvAll]
   | cons y ys =>
     obtain ⟨q', qs', rfl, h3, h4⟩ := pysB_cons h'
     simp only [likesB, Bool.and_eq_true] at l
     simp [PyData.eqvAll, pyB_eqv h1 h3 l.1, pysB_eqv h2 h4 l.2]
end
def datB : Nat → D → Bool
 | _, .non => true
 | _, .int _ => true
 | _, .str _ => true
 | _, .bl _ => true
 | n + 1, .tup xs => xs.all (datB n)
 | n + 1, .lst xs => xs.all (datB n)
 | _, _ => false
abbrev isDatB (d : D) : Bool := datB 20 d
@[simp] theorem datB_tup (n : Nat) (xs : List D) : datB (n + 1) (.tup xs) = xs.all (datB n) := rfl
@[simp] theorem datB_lst (n : Nat) (xs : List D) : datB (n + 1) (.lst xs) = xs.all (datB n) := rfl
theorem pysB_of {n : Nat} {f : D → Bool} (h : ∀ d, f d = true → ∃ k, pyB d = some k ∧ k.depth ≤ n) : ∀ {xs : List D}, xs.all f = true → ∃ ks, pysB xs = some ks ∧ PyData.depthAll ks ≤ n
 | [], _ => ⟨[], rfl, by simp [PyData.depthAll]⟩
 | x :: xs, hx => by
   simp only [List.all_cons, Bool.and_eq_true] at hx
   obtain ⟨k, e, d⟩ := h x hx.1
   obtain ⟨ks, e2, d2⟩ := pysB_of h hx.2
   refine ⟨k :: ks, by simp [pysB, e, e2], ?_⟩
   simp only [PyData.depthAll]
   omega
theorem pyB_of : ∀ {n : Nat} {d : D}, datB n d = true → ∃ k, pyB d = some k ∧ k.depth ≤ n
 | n, .non, _ => ⟨.none, rfl, by simp [PyData.depth]⟩
 | n, .int i, _ => ⟨.int i, rfl, by simp [PyData.depth]⟩
 | n, .str i, _ => ⟨.str i, rfl, by simp [PyData.depth]⟩
 | n, .bl i, _ => ⟨.bool i, rfl, by simp [PyData.depth]⟩
 | n + 1, .tup xs, h => by
   obtain ⟨ks, e, d⟩ := pysB_of (n := n) (fun d h => pyB_of h) h
   exact ⟨.tuple ks, by simp [pyB, e], by simp only [PyData.depth]; omega⟩
 | n + 1, .lst xs, h => by
   obtain ⟨ks, e, d⟩ := pysB_of (n := n) (fun d h => pyB_of h) h
   exact ⟨.list ks, by simp [pyB, e], by simp only [PyData.depth]; omega⟩
 | 0, .tup _, h => by simp [datB] at h
 | 0, .lst _, h => by simp [datB] at h
 | n, .dic _, h => by cases n <;> simp [datB] at h
 | n, .ins _ _, h => by cases n <;> simp [datB] at h
 | n, .cls _, h => by cases n <;> simp [datB] at h
 | n, .ty _, h => by cases n <;> simp [datB] at h
 | n, .frl _, h => by cases n <;> simp [datB] at h
 | n, .exn _ _, h => by cases n <;> simp [datB] at h
section
variable {B : Bx} {F : Addr → Prop} {H : Hp}
mutual
theorem repB_dp : ∀ {v : V} {d : D} {p : PyData}, Rep B F H v d → pyB d = some p → Dp B.K H v p ∧ p.canLay0 = true
 | _, _, p, .non, e => by simp [pyB] at e; subst e; exact ⟨.non, rfl⟩
 | _, _, p, .int i, e => by simp [pyB] at e; subst e; exact ⟨.int i, rfl⟩
 | _, _, p, .bl i, e => by simp [pyB] at e; subst e; exact ⟨.bl i, rfl⟩
 | _, _, p, .str i h, e => by simp [pyB] at e; subst e; exact ⟨.str i, h⟩
 | _, _, p, .tup h rs, e => by
   simp only [pyB, Option.map_eq_some_iff] at e
   obtain ⟨ps, e1, rfl⟩ := e
   obtain ⟨h1, h2⟩ := repsB_dp rs e1
   exact ⟨.tup (h.sq) h1, h2⟩
 | _, _, p, .lst _ h rs, e => by
   simp only [pyB, Option.map_eq_some_iff] at e
   obtain ⟨ps, e1, rfl⟩ := e
   obtain ⟨h1, h2⟩ := repsB_dp rs e1
   exact ⟨.lst (SqL.of h) h1, h2⟩
 | _, _, _, .frl _ _, e => by simp [pyB] at e
 | _, _, _, .exn _ _ _ _ _ _ _ _, e => by simp [pyB] at e
 | _, _, _, .dic _ _ _ _, e => by simp [pyB] at e
 | _, _, _, .ins _ _ _ _ _, e => by simp [pyB] at e
 | _, _, _, .cls _, e => by simp [pyB] at e
 | _, _, _, .ty _, e => by simp [pyB] at e
theorem repsB_dp : ∀ {vs : List V} {ds : List D} {ps : List PyData}, Reps B F H vs ds → pysB ds = some ps → DpAll B.K H vs ps ∧ PyData.canLayAll0 ps = true
 | _, _, p, .nil, e => by simp [pysB] at e; subst e; exact ⟨.nil, rfl⟩
 | _, _, p, .cons a b, e => by
   obtain ⟨q, qs, rfl, e1, e2⟩ := pysB_cons e
   obtain ⟨h1, h2⟩ := repB_dp a e1
   obtain ⟨h3, h4⟩ := repsB_dp b e2
   exact ⟨.cons h1 h3, by simp [PyData.canLayAll0, h2, h4]⟩
end
end
noncomputable def eqDB (a b : D) : Option Bool := if isDatB a = true ∧ isDatB b = true ∧ likeB a b = true then some (decide (a = b)) else none
noncomputable def fEqB : F2 := fun x y S => match deL S x, deL S y with
 | some a, some b => (eqDB a b).map fun k => (.v (.bl k), S)
 | _, _ => none
noncomputable def fNeB : F2 := fun x y S => match deL S x, deL S y with
 | some a, some b => (eqDB a b).map fun k => (.v (.bl (!k)), S)
 | _, _ => none
section
variable {X : Cx} {cl : Nat → Addr}
theorem deL_dpB {B : Bx} {ι : List Addr} {F : Addr → Prop} {H : Hp} {S : Sto} {v : V} {u : U} {d : D} {p : PyData} (r : Rel B ι F S H) (z : RepU B ι F H v u) (e : deL S u = some d) (ep : pyB d = some p) : Dp B.K H v p ∧ p.canLay0 = true := by
 cases z with
 | v z => cases e; exact repB_dp z ep
 | @r n a h =>
   unfold deL at e
   simp only at e
   cases q : S[n]? with
   | none => rw [q] at e; cases e
   | some c =>
     rw [q] at e
     have ok := r.ok n a c h q
     cases c with
     | lst ys =>
       obtain ⟨ds, e1, rfl⟩ := Option.map_eq_some_iff.mp e
       obtain ⟨vs, h1, h2⟩ := ok
       simp only [pyB, Option.map_eq_some_iff] at ep
       obtain ⟨ps, e2, rfl⟩ := ep
       rw [allV_some e1] at h2
       obtain ⟨g1, g2⟩ := repsB_dp (repus_reps h2) e2
       exact ⟨.lst (SqL.of h1) g1, g2⟩
     | _ => cases e
theorem eqDB_ok {a b : D} {k : Bool} (h : eqDB a b = some k) : ∃ p q, pyB a = some p ∧ pyB b = some q ∧ p.depth ≤ 64 ∧ q.depth ≤ 64 ∧ PyData.eqv p q = k := by
 unfold eqDB at h
 split at h
 · rename_i hx
   cases h
   obtain ⟨p, e1, d1⟩ := pyB_of hx.1
   obtain ⟨q, e2, d2⟩ := pyB_of hx.2.1
   refine ⟨p, q, e1, e2, by omega, by omega, ?_⟩
   have hv := pyB_eqv e1 e2 hx.2.2
   by_cases hab : a = b
   · simp only [hab, decide_true]
     exact hv.mpr hab
   · simp only [hab, decide_false]
     cases qv : PyData.eqv p q with
     | false => rfl
     | true => exact absurd (hv.mp qv) hab
 · cases h
theorem oq_eqB (hu : X.A.units + 64 < cLine) : OpR X (compareOp .Eq) (liftOp (bx X cl) fEqB) := by
 intro pins s σ H x y v u Q I rx ry ⟨ι, F, S, a, b, rl, za, zb, fi⟩
 unfold fEqB at fi
 split at fi
 · rename_i d e q1 q2
   cases qe : eqDB d e with
   | none => rw [qe] at fi; exact fi.no
   | some k =>
     rw [qe] at fi
     obtain ⟨p, q, e1, e2, d1, d2, ek⟩ := eqDB_ok qe
     obtain ⟨h1, c1⟩ := deL_dpB rl za q1 e1
     obtain ⟨h2, c2⟩ := deL_dpB rl zb q2 e2
     exact op_eqD hu pins s σ H x y v u Q I rx ry ⟨p, q, h1, h2, by simp [SeqAt.shaped, c1, d1], by simp [SeqAt.shaped, c2, d2], by rw [ek]; exact fi.val rl (.v (.bl _))⟩
 · exact fi.no
end
section
variable {q : U → Sto → Prop} {S : Sto}
theorem v_eqDB {u w : U} {a b : D} (h1 : deL S u = some a) (h2 : deL S w = some b) (ha : isDatB a = true) (hb : isDatB b = true) (hl : likeB a b = true) : wpO (fEqB u w S) q = q (.v (.bl (decide (a = b)))) S := by
 unfold fEqB eqDB
 simp only [h1, h2, ha, hb, hl, and_self, if_true]
 rfl
end
end Pu
namespace Pu
namespace Hx
open PySem PySem.Spec L2
def obsXL (P : Program) (as : List Addr) (fa : List He.Fa) (fn : List He.DefD) (fx : List Fx) (dx : List DefX) (g : Addr → Option Obj) : AlX := obsX P fa fn fx dx (He.frG g as)
def hookL (P : Program) (as : List Addr) (fa : List He.Fa) (fn : List He.DefD) (fx : List Fx) (dx : List DefX) : PySem.W.Hook where
 α := AlX
 obs := fun s => obsXL P as fa fn fx dx s.heap.get?
 val := fun _ => valX fn dx
 says := fun _ h => ∃ K : PySem.W.Frag, K.In h ∧ SaysX P fa fn fx dx K
 of := fun _ _ e => ⟨_, He.frG_in, e⟩
 keeps := fun _ _ _ ⟨K, hK, c⟩ k => ⟨K, PySem.W.Frag.In.keeps hK k, c⟩
def obL (P : Program) (as : List Addr) (fa : List He.Fa) (fn : List He.DefD) (fx : List Fx) (dx : List DefX) (s : PySem.W.SharedT) : AlX := obsXL P as fa fn fx dx (HandSHeadRun.getT s)
theorem obL_eq {P : Program} {as : List Addr} {fa : List He.Fa} {fn : List He.DefD} {fx : List Fx} {dx : List DefX} (s : PySem.W.SharedT) : obL P as fa fn fx dx s = (hookL P as fa fn fx dx).obs s.abs := by
 have h := HandSHeadRun.getT_eq s
 have e : HandSHeadRun.getT s = s.abs.heap.get? := funext h
 show obsXL P as fa fn fx dx (HandSHeadRun.getT s) = obsXL P as fa fn fx dx s.abs.heap.get?
 rw [e]
end Hx
end Pu
namespace Mi
end Mi
namespace K14
open PySem L2 Pu Mi
open PyProof.Rows hiding St
abbrev P0 : Program := PySem.Challenge.rw_askshanded_k14_machines_refused.prog
def top (i : Nat) : Stmt := PySem.Challenge.pw_askshanded_k14_machines_refused.main.body.getD i (.Pass ⟨0, 0, 0, 0⟩)
def cBody : Stmt → List Stmt
 | .ClassDef _ _ _ b _ _ _ _ _ _ _ => b
 | _ => []
def inC (i j : Nat) : Stmt := (cBody (top i)).getD j (.Pass ⟨0, 0, 0, 0⟩)
def cl (K : PySem.W.Frag) : Nat → Addr
 | 0 => He.ga K "AsksError"
 | 1 => He.ga K "BadMachine"
 | 2 => He.ga K "BadState"
 | 3 => He.ga K "TooLarge"
 | 4 => He.ga K "NoStep"
 | 12 => He.ga K "Machine"
 | 13 => He.ga K "Service"
 | 14 => He.ga K "Pattern"
 | 15 => He.ga K "Machine"
 | 16 => He.ga K "Machine"
 | 17 => He.ga K "Pattern"
 | 18 => He.ga K "Machine"
 | 19 => He.ga K "Machine"
 | _ => 0
abbrev q17 : Stmt := top 25
def q22 : He.DefD := ⟨("_law_cell", none), "_law_cell", "_law_cell", defArgs q17, defBody q17, defScope q17, [], []⟩
abbrev qk : Stmt := top 26
def q23 : He.DefD := ⟨("_law_draws", none), "_law_draws", "_law_draws", defArgs qk, defBody qk, defScope qk, [], []⟩
abbrev qd : Stmt := top 27
def q24 : He.DefD := ⟨("_law_asks", none), "_law_asks", "_law_asks", defArgs qd, defBody qd, defScope qd, [], []⟩
abbrev qp : Stmt := top 34
def q25 : He.DefD := ⟨("_law_parts", none), "_law_parts", "_law_parts", defArgs qp, defBody qp, defScope qp, [], []⟩
abbrev qu : Stmt := top 35
def q26 : He.DefD := ⟨("_law_large", none), "_law_large", "_law_large", defArgs qu, defBody qu, defScope qu, [], []⟩
abbrev q14 : Stmt := top 31
def q27 : He.DefD := ⟨("_law_put_in", none), "_law_put_in", "_law_put_in", defArgs q14, defBody q14, defScope q14, [], []⟩
abbrev q13 : Stmt := top 32
def q28 : He.DefD := ⟨("_law_bad_ask", none), "_law_bad_ask", "_law_bad_ask", defArgs q13, defBody q13, defScope q13, [], []⟩
abbrev q10 : Stmt := top 33
def q29 : He.DefD := ⟨("_law_bad_step", none), "_law_bad_step", "_law_bad_step", defArgs q10, defBody q10, defScope q10, [], []⟩
abbrev q18 : Stmt := top 36
def q2a : He.DefD := ⟨("_law_due", none), "_law_due", "_law_due", defArgs q18, defBody q18, defScope q18, [], []⟩
abbrev q1b : Stmt := inC 2 0
def q2b : Hx.DefX := ⟨fun K => (He.ma K (He.ga K "BadMachine") "__init__"), "__init__", "BadMachine.__init__", defArgs q1b, defBody q1b, defScope q1b, [], [("__class__" : Str)]⟩
abbrev q1c : Stmt := inC 4 0
def q2c : Hx.DefX := ⟨fun K => (He.ma K (He.ga K "TooLarge") "__init__"), "__init__", "TooLarge.__init__", defArgs q1c, defBody q1c, defScope q1c, [], [("__class__" : Str)]⟩
abbrev q16 : Stmt := top 15
def q2d : He.DefD := ⟨("is_ask", none), "is_ask", "is_ask", defArgs q16, defBody q16, defScope q16, [], []⟩
abbrev qo : Stmt := top 17
def q2e : He.DefD := ⟨("check_parts", none), "check_parts", "check_parts", defArgs qo, defBody qo, defScope qo, [], []⟩
abbrev qw : Stmt := top 16
def q2f : He.DefD := ⟨("in_order", none), "in_order", "in_order", defArgs qw, defBody qw, defScope qw, [], []⟩
abbrev q1d : Stmt := inC 3 0
def q2g : Hx.DefX := ⟨fun K => (He.ma K (He.ga K "BadState") "__init__"), "__init__", "BadState.__init__", defArgs q1d, defBody q1d, defScope q1d, [], [("__class__" : Str)]⟩
abbrev q11 : Stmt := top 18
def q2h : He.DefD := ⟨("ends_by_ask", none), "ends_by_ask", "ends_by_ask", defArgs q11, defBody q11, defScope q11, [], []⟩
abbrev qm : Stmt := inC 19 0
def q2i : He.DefD := ⟨("Machine", some "__init__"), "__init__", "Machine.__init__", defArgs qm, defBody qm, defScope qm, [.int (0)], []⟩
abbrev q1e : Stmt := inC 20 0
def q2j : Hx.DefX := ⟨fun K => (He.ma K (He.ga K "Service") "__init__"), "__init__", "Service.__init__", defArgs q1e, defBody q1e, defScope q1e, [.int (0)], [("__class__" : Str)]⟩
abbrev q1f : Stmt := inC 21 0
def q2k : Hx.DefX := ⟨fun K => (He.ma K (He.ga K "Pattern") "__init__"), "__init__", "Pattern.__init__", defArgs q1f, defBody q1f, defScope q1f, [.int (0)], [("__class__" : Str)]⟩
abbrev qj : Stmt := top 29
def q1r : He.DefD := ⟨("_law_kinds", none), "_law_kinds", "_law_kinds", defArgs qj, defBody qj, defScope qj, [], []⟩
abbrev q15 : Stmt := top 28
def q2l : He.DefD := ⟨("_law_whole", none), "_law_whole", "_law_whole", defArgs q15, defBody q15, defScope q15, [], []⟩
abbrev qh : Stmt := top 30
def q2m : He.DefD := ⟨("_law_made", none), "_law_made", "_law_made", defArgs qh, defBody qh, defScope qh, [], []⟩
abbrev q7 : Stmt := top 37
def q1s : He.DefD := ⟨("law", none), "law", "law", defArgs q7, defBody q7, defScope q7, [], []⟩
abbrev dd_Machineu_initu : List D := [.int (0)]
abbrev dd_Serviceu_initu : List D := [.int (0)]
abbrev dd_Patternu_initu : List D := [.int (0)]
def fa : List He.Fa := [.glo "_law_cell", .glo "_law_draws", .glo "_law_asks", .glo "_law_parts", .glo "_law_large", .glo "_law_put_in", .glo "_law_bad_ask", .glo "_law_bad_step", .glo "_law_due", .glo "is_ask", .glo "check_parts", .glo "in_order", .glo "ends_by_ask", .glo "_law_kinds", .glo "_law_whole", .glo "_law_made", .glo "law", .glo "Machine", .cls "Machine", .mkr "Machine", .glo "Pattern", .cls "Pattern", .mkr "Pattern", .glo "Service", .cls "Service", .mkr "Service", .free "ValueError", .free "all", .free "bool", .free "int", .free "isinstance", .free "len", .free "range", .free "sum", .free "super", .free "tuple", .str "LETTERS" "abcdefghijklmnopqrstuvwxyz", .int "MOST_SIGNS" (8), .int "MOST_STATES" (200), .int "MOST_STEPS" (600), .noat "Machine" "ends", .noat "Service" "ends", .noat "Pattern" "ends", .noat "Machine" "marks", .noat "Service" "marks", .noat "Pattern" "marks", .noat "Machine" "place", .noat "Service" "place", .noat "Pattern" "place", .noat "Machine" "size", .noat "Service" "size", .noat "Pattern" "size", .noat "Machine" "steps", .noat "Service" "steps", .noat "Pattern" "steps", .glo "AsksError", .glo "BadMachine", .glo "BadState", .glo "TooLarge", .exm "BadMachine" "AsksError" true, .exm "BadMachine" "BadMachine" true, .exm "BadMachine" "BadState" false, .exm "BadMachine" "TooLarge" false, .exm "BadState" "AsksError" true, .exm "BadState" "BadMachine" false, .exm "BadState" "BadState" true, .exm "BadState" "TooLarge" false, .exm "TooLarge" "AsksError" true, .exm "TooLarge" "BadMachine" false, .exm "TooLarge" "BadState" false, .exm "TooLarge" "TooLarge" true]
def fn : List He.DefD := [q22, q23, q24, q25, q26, q27, q28, q29, q2a, q2d, q2e, q2f, q2h, q2i, q1r, q2l, q2m, q1s]
def fx : List Hx.Fx := [.okty "Machine", .isi "Machine" "Machine" true, .okty "Service", .isi "Service" "Machine" true, .okty "Pattern", .isi "Pattern" "Machine" true, .gen fun _ K => Hx.oexB K (He.ga K "BadMachine"), .gen fun _ K => Hx.iniB K (He.ga K "BadMachine"), .gen fun _ K => Hx.oexB K (He.ga K "BadState"), .gen fun _ K => Hx.iniB K (He.ga K "BadState"), .gen fun _ K => Hx.oexB K (He.ga K "TooLarge"), .gen fun _ K => Hx.iniB K (He.ga K "TooLarge"), .gen fun _ K => He.eqO (PySem.W.findIn K (.ref (He.ga K "BadMachine")) "part") (some none), .gen fun _ K => He.eqO (PySem.W.findIn K (.ref (He.ga K "BadState")) "state") (some none), .gen fun _ K => He.eqO (PySem.W.findIn K (.ref (He.ga K "TooLarge")) "size") (some none), .gen fun _ K => xcB K (He.ga K "BadMachine"), .gen fun _ K => xcB K (He.ga K "BadState"), .gen fun _ K => xcB K (He.ga K "TooLarge"), .isi "BadMachine" "AsksError" true, .isi "BadMachine" "BadMachine" true, .isi "BadMachine" "BadState" false, .isi "BadMachine" "TooLarge" false, .isi "BadState" "AsksError" true, .isi "BadState" "BadMachine" false, .isi "BadState" "BadState" true, .isi "BadState" "TooLarge" false, .isi "TooLarge" "AsksError" true, .isi "TooLarge" "BadMachine" false, .isi "TooLarge" "BadState" false, .isi "TooLarge" "TooLarge" true, .gen fun P K => Hx.errB P K (He.ma K (He.ga K "BadMachine") "__init__") (He.ga K "BadMachine"), .gen fun P K => Hx.errB P K (He.ma K (He.ga K "TooLarge") "__init__") (He.ga K "TooLarge"), .gen fun P K => Hx.errB P K (He.ma K (He.ga K "BadState") "__init__") (He.ga K "BadState"), .sup "Service" "Machine", .sup "Pattern" "Machine"]
def dx : List Hx.DefX := [q2b, q2c, q2g, q2j, q2k]
abbrev Rw : PySem.W.OpenRow := PySem.W.OpenLaw.row PySem.Challenge.rw_askshanded_k14_machines_refused
def asL : List Addr := [2, 3, 24, 23, 46, 45, 67, 66, 88, 87, 109, 108, 204, 203, 228, 227, 257, 256, 116, 121, 126, 131, 138, 145, 152, 264, 269, 276, 283, 288, 295, 300, 307, 314, 321, 328, 333, 340, 347, 354, 43, 64, 85, 106, 114, 119, 124, 129, 136, 143, 150, 165, 180, 187, 194, 201, 225, 247, 254, 262, 267, 274, 281, 286, 293, 298, 305, 312, 319, 326, 331, 338, 345, 352, 172, 41, 62, 83, 104, 163, 178, 185, 192, 199, 223, 245, 252, 115, 120, 125, 130, 137, 144, 151, 263, 268, 275, 282, 287, 294, 299, 306, 313, 320, 327, 332, 339, 346, 353, 42, 31, 63, 52, 84, 73, 105, 94, 164, 160, 179, 186, 193, 200, 224, 217, 212, 246, 239, 234, 253, 171, 6, 4, 0, 22, 25, 44, 65, 86, 107, 112, 113, 117, 118, 122, 123, 127, 128, 132, 133, 134, 135, 139, 140, 141, 142, 146, 147, 148, 149, 173, 202, 205, 206, 226, 255, 260, 261, 265, 266, 270, 271, 272, 273, 277, 278, 279, 280, 284, 285, 289, 290, 291, 292, 296, 297, 301, 302, 303, 304, 308, 309, 310, 311, 315, 316, 317, 318, 322, 323, 324, 325, 329, 330, 334, 335, 336, 337, 341, 342, 343, 344, 348, 349, 350, 351, 37, 38, 39, 40, 58, 59, 60, 61, 79, 80, 81, 82, 100, 101, 102, 103, 161, 162, 174, 175, 176, 177, 181, 182, 183, 184, 188, 189, 190, 191, 195, 196, 197, 198, 219, 220, 221, 222, 241, 242, 243, 244, 248, 249, 250, 251]
abbrev hk : PySem.W.Hook := Pu.Hx.hookL P0 asL fa fn fx dx
def ob (s : PySem.W.SharedT) : Pu.Hx.AlX := Pu.Hx.obL P0 asL fa fn fx dx s
theorem ob_eq (s : PySem.W.SharedT) : ob s = hk.obs s.abs := Pu.Hx.obL_eq s
abbrev LS : List PySem.Str := (("AsksError" : PySem.Str) :: ("BadMachine" : PySem.Str) :: ("BadState" : PySem.Str) :: ("TooLarge" : PySem.Str) :: ("NoStep" : PySem.Str) :: ("forced" : PySem.Str) :: ("nodes_before" : PySem.Str) :: ("find_rounds" : PySem.Str) :: ("MOST_STATES" : PySem.Str) :: ("MOST_STEPS" : PySem.Str) :: ("MOST_SIGNS" : PySem.Str) :: ("LETTERS" : PySem.Str) :: ("is_ask" : PySem.Str) :: ("in_order" : PySem.Str) :: ("check_parts" : PySem.Str) :: ("ends_by_ask" : PySem.Str) :: ("Machine" : PySem.Str) :: ("Service" : PySem.Str) :: ("Pattern" : PySem.Str) :: ("pairs_by_state" : PySem.Str) :: ("is_narrower" : PySem.Str) :: ("_law_cell" : PySem.Str) :: ("_law_draws" : PySem.Str) :: ("_law_asks" : PySem.Str) :: ("_law_whole" : PySem.Str) :: ("_law_kinds" : PySem.Str) :: ("_law_made" : PySem.Str) :: ("_law_put_in" : PySem.Str) :: ("_law_bad_ask" : PySem.Str) :: ("_law_bad_step" : PySem.Str) :: ("_law_parts" : PySem.Str) :: ("_law_large" : PySem.Str) :: ("_law_due" : PySem.Str) :: [])
theorem run (w : World) : HandSHeadRun.RunEq Rw (PySem.W.view Rw.prog [37]) hk ob 20000 LS w := by
 intro os
 kernel_rfl
end K14
namespace Pu
open PySem L2
def fTupC : FA := fun us S => if us.length ≤ 100000 then some (.r S.length, S ++ [.tpc us]) else none
def fSlT : U → Option Int → Option Int → Sto → Option (U × Sto) := fun x lo hi S => match x with
 | .r n => match S[n]? with
   | some (.tpc xs) => (allV (cutU xs lo hi)).map fun ds => (.v (.tup ds), S)
   | _ => none
 | _ => none
section
variable {X : Cx} {cl : Nat → Addr} {W : WX} {es : List Expr} {mA : MA} {pos : Pos}
end
section
variable {q : U → Sto → Prop} {S : Sto}
end
end Pu
namespace Pu
open PySem L2
noncomputable def fSetdef : FM := fun o us S => match o, us with
 | .r n, [.v (.tup ks), w] => match S[n]? with
   | some (.dic kvs) => if isKey (.tup ks) = true ∧ kvs.length < 100000 then (match dget kvs (.tup ks) with
     | some u => some (u, S)
     | none => some (w, S.set n (.dic (dput kvs (.tup ks) w)))) else none
   | _ => none
 | _, _ => none
section
variable {X : Cx} {cl : Nat → Addr} {W : WX}
end
section
variable {q : U → Sto → Prop} {S : Sto}
end
end Pu
open PySem L2
namespace Pu
section
variable {X : Cx} {cl : Nat → Addr} {W : WX} {n : Nat} {mf : List U → Sto → R U} {mA : MA} {e : Expr}
end
end Pu
namespace Pu
open PySem L2
noncomputable def fInD (neg : Bool) : F2 := fun x y S => match deL S x, deL S y with
 | some a, some (.lst ds) => if isDat a = true ∧ isDat (.lst ds) = true then some (.v (.bl (cond neg (!decide (a ∈ ds)) (decide (a ∈ ds)))), S) else none
 | _, _ => none
noncomputable def idxD (a : D) (ds : List D) : Nat := ds.findIdx fun z => decide (z = a)
noncomputable def fIdxD : FM := fun o us S => match us with
 | [x] => match deL S x, deL S o with
   | some a, some (.lst ds) => if isDat a = true ∧ isDat (.lst ds) = true ∧ a ∈ ds then some (.v (.int (idxD a ds)), S) else none
   | _, _ => none
 | _ => none
section
variable {X : Cx} {cl : Nat → Addr} {W : WX}
end
section
variable {q : U → Sto → Prop} {S : Sto}
end
end Pu
namespace Pu
open PySem L2
noncomputable def dputs (kvs more : List (D × U)) : List (D × U) := more.foldl (fun acc p => dput acc p.1 p.2) kvs
def hashOk (more : List (D × U)) : Prop := ∀ w : World, (more.map fun p => (nkey p.1).map (NestedKey.hash w)).Nodup
open Classical in
noncomputable def fUpdD : FM := fun o us S => match o, us with
 | .r n, [.r m] => match S[n]?, asDic S (.r m) with
   | some (.dic kvs), some more => if (kvs ≠ [] ∨ hashOk more) ∧ m ≠ n ∧ kvs.length + more.length ≤ 100000 then some (.v .non, S.set n (.dic (dputs kvs more))) else none
   | _, _ => none
 | _, _ => none
section
variable {X : Cx} {cl : Nat → Addr} {W : WX} {ι : List Addr} {F : Addr → Prop} {H : Hp}
end
section
variable {q : U → Sto → Prop} {S : Sto}
end
end Pu
namespace Pu
open PySem L2
open PyProof.Rows hiding St
def fInO (neg : Bool) (cs : List Nat) (mf : List U → Sto → R U) : F2 := fun x y S => match asIns S y with
 | some (c, _) => if c ∈ cs then (match mf [y, x] S with
   | .ok (.v (.bl b)) S' => some (.v (.bl (cond neg (!b) b)), S')
   | _ => none) else none
 | none => none
section
variable {X : Cx} {cl : Nat → Addr} {W : WX} {k : Nat} {f : Addr} {fd : FuncData} {ps : List Str} {mf : List U → Sto → R U} {cs : List Nat}
end
section
variable {q : U → Sto → Prop} {S : Sto} {cs : List Nat} {mf : List U → Sto → R U}
end
end Pu
namespace Pu
open PySem L2
open PyProof.Rows hiding St
def isTt (S : Sto) : U → Bool
 | .v (.tup _) => true
 | .r n => match S[n]? with
   | some (.tpc _) => true
   | _ => false
 | _ => false
section
variable {X : Cx} {cl : Nat → Addr} {W : WX} {pins : List (Addr × Obj)} {σ : L2.St} {ι : List Addr} {F : Addr → Prop} {H : Hp} {S : Sto} {s : Shared}
end
noncomputable def cntD (a : D) (ds : List D) : Nat := ds.countP fun z => decide (z = a)
noncomputable def fCountT : FM := fun o us S => match o, us with
 | .v (.tup ds), [x] => match deL S x with
   | some a => if isDat a = true ∧ isDat (.tup ds) = true then some (.v (.int (cntD a ds : Nat)), S) else none
   | none => none
 | _, _ => none
section
variable {X : Cx} {cl : Nat → Addr} {W : WX}
end
section
variable {q : U → Sto → Prop} {S : Sto}
end
end Pu
namespace Pu
open PySem L2
open PyProof.Rows hiding St
def pairsD : List D → Option (List (D × D))
 | [] => some []
 | .tup [k, v] :: t => (pairsD t).map ((k, v) :: ·)
 | _ => none
def isTk (d : D) : Bool := match d with
 | .tup _ => isKey d
 | _ => false
noncomputable def fDictP : FA := fun us S => match us with
 | [.v (.tup ps)] => match pairsD ps with
   | some kvs => if (kvs.all fun p => isTk p.1) = true ∧ kvs.length ≤ 100000 then some (.r S.length, S ++ [.dic (dputs [] (kvs.map fun p => (p.1, U.v p.2)))]) else none
   | none => none
 | _ => none
section
variable {X : Cx} {cl : Nat → Addr} {W : WX} {pins : List (Addr × Obj)} {σ : L2.St} {ι : List Addr} {F : Addr → Prop} {H : Hp} {s : Shared}
end
section
variable {q : U → Sto → Prop} {S : Sto}
end
end Pu
namespace Pu
namespace Zx
open PySem PySem.Spec L2
open PyProof.Rows hiding St
def ItE (K : PySem.W.Frag) (t : Bool) (a : Addr) : It where
 go := fun i H => ∃ (xs : List V) (x : V), Sq t K H a xs ∧ xs[i]? = some x
 yld := fun i H v G => ∃ T x, v = .ref T ∧ H T = none ∧ (∃ ob : Obj, ob.dict = none ∧ G = upd H T (.frz ob (.tup [.int (i : Nat), x]))) ∧ ∀ xs, Sq t K H a xs → xs[i]? = some x
 stop := fun i H => ∃ xs : List V, Sq t K H a xs ∧ xs.length ≤ i
structure EnSt (t : Bool) (e it a : Addr) (i : Nat) (h : Heap) : Prop where
 en : ∃ old, IsEnum h e it ((i : Nat) : Int) old
 m : ItAt t h it a i
 ne : e ≠ it
 la : a ≠ it
 le : a ≠ e
def iEnX (K : PySem.W.Frag) (ta : TA) : TI := fun σ H R => ta σ H fun vs H1 => ∃ t a xs, vs = [.ref a] ∧ Sq t K H1 a xs ∧ R (ItE K t a) H1
end Zx
def enD : Nat → List D → List U
 | _, [] => []
 | k, d :: ds => .v (.tup [.int (k : Nat), d]) :: enD (k + 1) ds
def iEnu (a : MA) : MI := fun ρ S => (a ρ S).bind fun us S1 => match us with
 | [u] => match asSeq S1 u with
   | some xs => match allV xs with
     | some ds => .ok ⟨enD 0 ds, srcOf u⟩ S1
     | none => .er
   | none => .er
 | _ => .er
section
open PySem PySem.Spec L2
variable {X : Cx} {cl : Nat → Addr} {W : WX}
end
end Pu
namespace Pu
open PySem L2
variable {ρ : Env'} {S : Sto} {X : XP}
def enuW (S : Sto) (us : List U) (q : IterV → Prop) : Prop := match us with
 | [u] => seqV S u fun xs => wpo (allV xs) fun ds => q ⟨enD 0 ds, srcOf u⟩
 | _ => False
@[simp] theorem enuW_1 (u : U) (q : IterV → Prop) : enuW S [u] q = seqV S u fun xs => wpo (allV xs) fun ds => q ⟨enD 0 ds, srcOf u⟩ := rfl
end Pu
namespace Pu
open PySem PySem.Spec L2
open PyProof.Rows hiding St
open Classical in
noncomputable def iOwnL (cs : List Nat) (fld : Str) (mo : ME) : MI := fun ρ S => (mo ρ S).bind fun x S1 => match asIns S1 x with
 | some (c', fs) => if c' ∈ cs then (match fs.lookup fld with
   | some z => match asSeq S1 z with
     | some xs => if isTp S1 z then .er else .ok ⟨xs, srcOf z⟩ S1
     | none => .er
   | none => .er) else .er
 | none => .er
section
variable {X : Cx} {cl : Nat → Addr} {W : WX} {tg o : Expr} {mo : ME} {cs : List Nat} {fld qual : Str} {params : Arguments} {scope : Scope} {f : Addr} {fd : FuncData} {p1 p2 p3 p4 p5 : Pos}
end
section
variable {q : U → Sto → Prop} {S : Sto} {X : XP} {ρ : Env'}
end
end Pu
namespace Pu
open PySem PySem.Spec L2
open PyProof.Rows hiding St
noncomputable def fLenD : FA := fun us S => match us with
 | [u] => (asDic S u).map fun kvs => (.v (.int kvs.length), S)
 | _ => none
section
variable {X : Cx} {cl : Nat → Addr}
end
section
variable {q : U → Sto → Prop} {S : Sto}
end
end Pu
namespace Pu
open PySem PySem.Spec L2
open PyProof.Rows hiding St
def fIsX2 (tA tB : Nat → Nat → Option Bool) : FA := fun us S => match us with
 | [u, .v (.tup [.cls a, .cls b])] => match asIns S u with
   | some (c', _) => match tA c' a with
     | some true => some (.v (.bl true), S)
     | some false => (tB c' b).map fun r => (.v (.bl r), S)
     | none => none
   | none => none
 | _ => none
section
variable {X : Cx} {cl : Nat → Addr}
end
section
variable {S : Sto} {q : U → Sto → Prop}
end
end Pu
namespace Pu
open PySem L2
open PyProof.Rows hiding St
noncomputable def sFzV (i : Nat) (m : MS) : MS := fun ρ S => match ρ[i]? with
 | some (some (.r n)) => match S[n]? with
   | some (.lst xs) => match allV xs with
     | some ds => m (ρ.set i (some (.v (.lst ds)))) (S.set n .dead)
     | none => .er
   | _ => .er
 | _ => m ρ S
section
variable {S : Sto} {ρ : Env'} {Q : Post}
end
end Pu
namespace Pu
open PySem PySem.Spec L2
open PyProof.Rows hiding St
def starSp (sp : Sp) : Sp := fun vs H Q E => ∃ v rest, vs = v :: rest ∧ rest.length ≤ sizeLine ∧ ∀ (p : Addr) (ob : Obj), ob.dict = Option.none → H p = none → sp [v, .ref p] (upd H p (.frz ob (.tup rest))) Q E
section
variable {P : Program} {w : World} {K : PySem.W.Frag} {mg : Str → Option Value} {base : Heap} {cl : Nat → Addr} {x qual : Str} {params : Arguments} {body : List Stmt} {scope : Scope} {f : Addr} {fd : FuncData} {N : List Str} {ps pv : Str} {k : Nat} {m : MS}
end
section
variable {X : Cx} {o e : Expr} {ta : TE} {es : List Expr} {t : TA} {apos pos : Pos} {C f : Addr} {m : Str} {sp : Sp} {E : XK} {k : Nat} {CX : CXT}
end
def eMethV (c : Nat) (m : Str) (mf : List U → Sto → R U) (mo : ME) (a : MA) : ME := fun ρ S => (mo ρ S).bind fun x S1 => match asIns S1 x with
 | some (c', fs) => if c' = c ∧ fs.lookup m = none then (a ρ S1).bind fun us S2 => match allV us with
   | some ds => if us.length ≤ 1000 then mf [x, .v (.tup ds)] S2 else .er
   | none => .er else .er
 | none => .er
section
variable {X : Cx} {cl : Nat → Addr} {W : WX} {k : Nat} {f : Addr} {m : Str} {mf : List U → Sto → R U} {o e : Expr} {es : List Expr} {mo : ME} {mA : MA} {apos pos : Pos}
end
section
variable {ρ : Env'} {S : Sto} {q : U → Sto → Prop} {X : XP}
end
end Pu
namespace Pu
open PySem PySem.Spec L2
open PyProof.Rows hiding St
def eMkTS0 (c : Nat) (mf : List U → Sto → R U) (mx : ME) : ME := fun ρ S => (mx ρ S).bind fun x S1 => match asSeq S1 x with
 | some us => eMakeT c mf us (.v .non) S1
 | none => .er
section
variable {X : Cx} {cl : Nat → Addr} {W : WX} {k : Nat} {f : Addr} {kn : Str} {mf : List U → Sto → R U} {x : Str} {p pos sp : Pos} {e : Expr} {mx : ME}
end
section
variable {ρ : Env'} {S : Sto} {q : U → Sto → Prop} {X : XP}
end
end Pu
namespace Pu
open PySem PySem.Spec L2
open PyProof.Rows hiding St
def fIsiC : FA := fun us S => match us with
 | [.r n, .v (.ty T)] => match S[n]? with
   | some (.tpc _) => (kitB "tuple" T).map fun b => (.v (.bl b), S)
   | _ => fIsi us S
 | us => fIsi us S
section
variable {X : Cx} {cl : Nat → Addr} {W : WX}
end
section
variable {S : Sto} {q : U → Sto → Prop}
end
end Pu
namespace Pu
open PySem PySem.Spec L2
open PyProof.Rows hiding St
section
variable {X : Cx} {cl : Nat → Addr} {W : WX} {pos : Pos}
end
end Pu
namespace Pu
open PySem PySem.Spec L2
open PyProof.Rows hiding St
def eCallK (n np nk : Nat) (mf : List U → Sto → R U) (gU : List U → List U → List U) (a b : MA) : ME := fun ρ S => (a ρ S).bind fun us S1 => (b ρ S1).bind fun ws S2 => if us.length = np ∧ ws.length = nk ∧ (gU us ws).length = n then mf (gU us ws) S2 else .er
section
variable {K : PySem.W.Frag} {x qual : Str} {params : Arguments} {body : List Stmt} {scope : Scope} {kws : List (Str × V)} {f : Addr} {fd : FuncData} {ps : List Str}
end
section
variable {X : Cx} {cl : Nat → Addr} {W : WX} {k n : Nat} {f : Addr} {fd : FuncData} {ps ks : List Str} {mf : List U → Sto → R U} {x : Str} {p pos : Pos} {e : Expr} {es : List Expr} {mA mK : MA} {kws : List Keyword}
end
section
variable {ρ : Env'} {S : Sto} {q : U → Sto → Prop} {X : XP}
end
def fMulS : F2 := fun x y S => match asLst S x, y with
 | some xs, .v (.int k) => if 0 ≤ k ∧ k ≤ 100000 ∧ xs.length * k.toNat ≤ 100000 then some (.r S.length, S ++ [.lst (List.replicate k.toNat xs).flatten]) else none
 | _, _ => none
end Pu
namespace Pu
open PySem PySem.Spec L2
open PyProof.Rows hiding St
noncomputable def eDict1 (mk mv : ME) : ME := fun ρ S => (mk ρ (S ++ [.dic []])).bind fun x S1 => (mv ρ S1).bind fun y S2 => match x with
 | .v (.tup ks) => (match S2[S.length]? with
   | some (.dic []) => if isKey (.tup ks) = true then .ok (.r S.length) (S2.set S.length (.dic [(.tup ks, y)])) else .er
   | _ => .er)
 | _ => .er
section
variable {X : Cx} {cl : Nat → Addr} {W : WX} {k v : Expr} {mk mv : ME} {pos : Pos}
end
section
variable {ρ : Env'} {S : Sto} {q : U → Sto → Prop} {X : XP}
end
end Pu
namespace Pu
open PySem PySem.Spec L2
open PyProof.Rows hiding St
noncomputable def fValsX : F1 := fun u S => match asDic S u with
 | some kvs => (allV (kvs.map (·.2))).map fun ds => (.v (.lst ds), S)
 | none => none
section
variable {X : Cx} {cl : Nat → Addr} {W : WX} {e : Expr} {m : ME} {p apos cpos pos : Pos}
end
section
variable {q : U → Sto → Prop} {S : Sto}
end
def gSufN (us ws : List U) : List U := us ++ (ws ++ [.v .non])
end Pu
namespace Pu
open PySem PySem.Spec L2
open PyProof.Rows hiding St
section
variable {P : Program} {w : World} {K : PySem.W.Frag} {mg : Str → Option Value} {base : Heap} {cl : Nat → Addr} {qual : Str} {body : List Stmt} {scope : Scope} {f : Addr} {N : List Str} {k : Nat} {m : MS} {cdv : Value} {A : Around} {outer : List Env} {s : Shared} {H : Hp} {E : XK}
theorem xdk (hr : Room k (A.deeper (envOfC qual scope s.heap.objs.size f cdv)))
   (h : (Xd P w K mg base N qual scope f cdv A outer s H E).A.units + 65 < cLine → (Xd P w K mg base N qual scope f cdv A outer s H E).A.units + 64 < cLine → (Xd P w K mg base N qual scope f cdv A outer s H E).A.units + 20 < cLine → L2N.Takes (Xd P w K mg base N qual scope f cdv A outer s H E) (Wd E) → QSs (Xd P w K mg base N qual scope f cdv A outer s H E) cl (Wd E) body m) :
   QSs (Xd P w K mg base N qual scope f cdv A outer s H E) cl (Wd E) body m := by
 have hu3 : (Xd P w K mg base N qual scope f cdv A outer s H E).A.units + 65 < cLine := by
   have := hr.un
   show (A.deeper _).units + 65 < cLine
   omega
 exact h hu3 (by omega) (by omega) (L2N.takes_of rfl rfl rfl rfl)
end
end Pu
namespace Pu
open PySem PySem.Spec L2
open PyProof.Rows hiding St
def fRevS : F1 := fun x S => match asList S x with
 | some xs => some (.r S.length, S ++ [.lst xs.reverse])
 | none => none
section
variable {X : Cx} {cl : Nat → Addr} {W : WX} {e : Expr} {m : ME} {p2 pos : Pos}
end
section
variable {S : Sto} {q : U → Sto → Prop}
end
end Pu
namespace Pu
open PySem PySem.Spec L2
open PyProof.Rows hiding St
section
variable {X : Cx} {k k2 : Nat} {C fe fx : Addr} {fd fd2 : FuncData} {ps ps2 : List Str} {sp sp2 : Sp} {E E2 : XK} {ctx : Expr} {y : Str} {i : Nat} {py pos : Pos} {body : List Stmt} {ta : TE} {tb : WX → TS} {CX1 CX2 : CXT}
def wEnds (a : Addr) (sp2 : Sp) (E2 : XK) (D : Ends) : Ends where
 nx := fun σ H => sp2 [.ref a, .non, .non, .non] H (fun _ H2 => D.nx σ H2) E2
 rt := fun v H => sp2 [.ref a, .non, .non, .non] H (fun _ H2 => D.rt v H2) E2
 bk := fun σ H => sp2 [.ref a, .non, .non, .non] H (fun _ H2 => D.bk σ H2) E2
 ct := fun σ H => sp2 [.ref a, .non, .non, .non] H (fun _ H2 => D.ct σ H2) E2
def tWith (C : Addr) (i : Nat) (sp sp2 : Sp) (E E2 : XK) (ta : TE) (tb : TS) : TS := fun D σ H => ta σ H fun x H1 => ∃ a dx fs, x = .ref a ∧ H1 a = some (.ins C dx fs) ∧
 sp [x] H1 (fun v H2 => tb (wEnds a sp2 E2 D) (σ.set i (some v)) H2) E
end
end Pu
namespace Pu
open PySem PySem.Spec L2
open PyProof.Rows hiding St
def exitS (fx : List U → Sto → R U) (x : U) (S : Sto) (k : Sto → RS) : RS := match fx [x, .v .non, .v .non, .v .non] S with
 | .ok _ S' => k S'
 | _ => .er
def sWith (c i : Nat) (fe fx : List U → Sto → R U) (mc : ME) (mb : MS) : MS := fun ρ S => (mc ρ S).st ρ fun x S1 => match asIns S1 x with
 | some (c', _) => if c' = c then (fe [x] S1).st ρ fun v S2 => (match mb (ρ.set i (some v)) S2 with
     | .nx ρ3 S3 => exitS fx x S3 fun S4 => .nx ρ3 S4
     | .rt u S3 => exitS fx x S3 fun S4 => .rt u S4
     | .bk ρ3 S3 => exitS fx x S3 fun S4 => .bk ρ3 S4
     | .ct ρ3 S3 => exitS fx x S3 fun S4 => .ct ρ3 S4
     | _ => .er) else .er
 | none => .er
section
variable {X : Cx} {cl : Nat → Addr} {W : WX} {c k k2 i : Nat} {fe fx : Addr} {fd fd2 : FuncData} {ps ps2 : List Str} {mfe mfx : List U → Sto → R U} {ctx : Expr} {y : Str} {py pos : Pos} {body : List Stmt} {mc : ME} {mb : MS}
end
section
variable {ρ : Env'} {S : Sto} {Q : Post}
end
end Pu
namespace Pu
open PySem PySem.Spec L2
open PyProof.Rows hiding St
section
variable {X : Cx} {cl : Nat → Addr} {cs : List Nat} {pins : List (Addr × Obj)} {σ : L2.St} {H : Hp} {s : Shared} {k n : Nat} {f : Addr} {fd : FuncData} {ps : List Str} {mf : List U → Sto → R U} {us : List Value} {vs : List V} {Q : VK}
end
end Pu
namespace Pu
open PySem PySem.Spec L2
open PyProof.Rows hiding St
open PySem.W (ksEnv ksFn)
structure JSup (K : PySem.W.Frag) (J C f2 : Addr) : Prop where
 cls : ∃ cd, PySem.W.clsIn K J = some cd
 sub : PySem.W.mroIn K J (.ref C) = some true
 si : PySem.W.ks_superIn K J C "__init__" = some (some (.ref f2))
 ty : PySem.W.typeIn K (.ref f2) = some (.type "function")
 fi : PySem.W.fnIn K f2 = true
structure SupScopeN (N ps : List Str) (sc : Scope) : Prop where
 kind : sc.kind = .function
 co : sc.isCoroutine = false
 gen : sc.isGenerator = false
 nd : N.Nodup
 pre : N.take ps.length = ps
 par : ∀ x ∈ N, sc.names.lookup x = some .local
 nocell : ∀ y ∈ sc.names, y.2 ≠ .cell
 free : ∀ y ∈ sc.names, y.2 = .free → y.1 = ("__class__" : Str)
 cls : sc.names.lookup ("__class__" : Str) = some .free
 sup : sc.names.lookup ("super" : Str) = some .globalImplicit
theorem SupScopeN.sub {N ps : List Str} {sc : Scope} (S : SupScopeN N ps sc) : ∀ x ∈ ps, x ∈ N := fun x hx => by
 have := S.pre ▸ hx
 exact List.mem_of_mem_take this
section
variable {P : Program} {w : World} {K : PySem.W.Frag} {mg : Str → Option Value} {base : Heap} {name qual : Str} {params : Arguments} {scope : Scope} {dvs : List V} {C J f f2 : Addr} {fd2 : FuncData} {N ps ps2 qs : List Str} {ar : Arg} {k : Nat} {sp2 : Sp} {p0 p1 apos cpos epos : Pos} {e : Expr} {es : List Expr} {t : TA} {pl : Sem Bool} {body : List Stmt}
 {oc dV kV doc pm ct cl ccl : Value} {od an cld cdd : Option Addr} {cda cc : Addr} {osl csl ccs : Array (Option Value)} {vsc : Array Value} {file : Str} {tf : Tok} {A : Around} {outer : List Env} {s0 s : Shared} {H0 H : Hp} {E E2 : XK} {pins : List (Addr × Obj)} {σ : L2.St} {x : Addr} {dx : Addr} {fs : List (Str × V)} {R : Hp → Prop}
end
end Pu
namespace Pu
open PySem PySem.Spec L2
open PyProof.Rows hiding St
open PySem.W (ksEnv ksFn)
def sSup (c n : Nat) (mf : List U → Sto → R U) (mA : MA) : MS := fun ρ S => match ρ[0]? with
 | some (some x) => (match asIns S x with
   | some (c', _) => if c' = c then (mA ρ S).st ρ fun us S1 => if us.length + 1 = n then (mf (x :: us) S1).st ρ fun _ S2 => .nx ρ S2 else .er else .er
   | none => .er)
 | _ => .er
section
variable {P : Program} {w : World} {K : PySem.W.Frag} {mg : Str → Option Value} {base : Heap} {cl : Nat → Addr} {name qual : Str} {params : Arguments} {scope : Scope} {dvs : List V} {C J f f2 f20 : Addr} {fd fd2 : FuncData} {N ps ps2 qs : List Str} {ar : Arg} {k : Nat} {p0 p1 apos cpos epos : Pos} {e : Expr} {es : List Expr} {pl : Sem Bool}
theorem SupScope.n {ps : List Str} {sc : Scope} (S : SupScope ps sc) : SupScopeN ps ps sc := ⟨S.kind, S.co, S.gen, S.nd, List.take_length, S.par, S.nocell, S.free, S.cls, S.sup⟩
abbrev XdS (P : Program) (w : World) (K : PySem.W.Frag) (mg : Str → Option Value) (base : Heap) (N : List Str) (qual : Str) (scope : Scope) (f : Addr) (cd : Value) (cc : Addr) (A : Around) (outer : List Env) (s : Shared) (H : Hp) (E : XK) : Cx := cxS (L2N.CX P w) P w K mg base N qual scope f cd cc A outer s H E
end
end Pu
namespace Pu
namespace Hx
open PySem PySem.Spec L2
def jsupB (K : PySem.W.Frag) (J C f2 : Addr) : Bool := (PySem.W.clsIn K J).isSome && (decide (PySem.W.mroIn K J (.ref C) = some true) && (He.eqO (PySem.W.ks_superIn K J C "__init__") (some (some (.ref f2))) && (decide (PySem.W.typeIn K (.ref f2) = some (.type "function")) && PySem.W.fnIn K f2)))
def jsF (J C B : Str) : Fx := .gen fun _ K => jsupB K (He.ga K J) (He.ga K C) (He.ma K (He.ga K B) "__init__")
end Hx
end Pu
namespace Pu
open PySem PySem.Spec L2
open PyProof.Rows hiding St
noncomputable def fCountL : FM := fun o us S => match us with
 | [x] => match deL S x, deL S o with
   | some a, some (.lst ds) => if isDat a = true ∧ isDat (.lst ds) = true then some (.v (.int (cntD a ds : Nat)), S) else none
   | _, _ => none
 | _ => none
section
variable {X : Cx} {cl : Nat → Addr} {W : WX}
end
section
variable {q : U → Sto → Prop} {S : Sto}
end
namespace Hx
end Hx
end Pu
namespace Pu
open PySem PySem.Spec L2
open PyProof.Rows hiding St
open PySem.W (ksEnv ksFn)
section
variable {P : Program} {w : World} {K : PySem.W.Frag} {mg : Str → Option Value} {base : Heap} {cl : Nat → Addr} {qual : Str} {scope : Scope} {f : Addr} {N : List Str} {k : Nat} {cdv : Value} {cc : Addr} {A : Around} {outer : List Env} {s : Shared} {H : Hp} {E : XK} {p : Prop}
end
theorem FnOk.up {P : Program} {w : World} {K : PySem.W.Frag} {mg : Str → Option Value} {base : Heap} {CX : CXT} {j k : Nat} {f : Addr} {fd : FuncData} {ps : List Str} {sp : Sp} (F : FnOk P w K mg base CX j f fd ps sp) (h : j ≤ k) : FnOk P w K mg base CX k f fd ps sp :=
 ⟨F.len, fun A outer s H args us vs Q E hr => F.run A outer s H args us vs Q E (hr.mono h)⟩
end Pu
namespace Pu
open PySem PySem.Spec L2
open PyProof.Rows hiding St
def eCmpX (cs : List Nat) (mf : List U → Sto → R U) (mo mi : ME) : ME := fun ρ S => (mo ρ S).bind fun x S1 => (mi ρ S1).bind fun y S2 => match asIns S2 x, asIns S2 y with
 | some (c, _), some (c', _) => if c = c' ∧ c ∈ cs then mf [x, y] S2 else .er
 | _, _ => .er
section
variable {X : Cx} {cl : Nat → Addr} {W : WX} {k : Nat} {f : Addr} {fd : FuncData} {ps : List Str} {mf : List U → Sto → R U} {cs : List Nat} {a b : Expr} {ma mb : ME} {op : CmpOp} {m : Str} {pos : Pos}
end
section
variable {ρ : Env'} {S : Sto} {q : U → Sto → Prop} {X : XP}
end
end Pu
namespace Pu
open PySem PySem.Spec L2 HotX
open PyProof.Rows hiding St
section
variable {prog : Program} {w : World} {A : Around} {E : Value → Shared → Prop} {s : Shared}
theorem pyNext_list_end_hot {it l x1 : Addr} {i : Nat} {items : Array Value} {Q : Option Value → Shared → Prop} (hot : HotAt A x1 s.heap) (hne : x1 ≠ it)
   (hit : s.heap.IsListIter it l i) (hl : s.heap.IsList l items) (hx : items[i]? = none)
   (hQ : ∀ h', Heap.ExtBut it s.heap h' → Q none { s with heap := h' }) : wpAny (model prog w) A (pyNext (.ref it)) Q E s := by
 obtain ⟨o, ho, hc, hd⟩ := id hit
 obtain ⟨ol, hol, _, nl, hdl⟩ := hl
 obtain ⟨hh, o1, vs1, h1, d1, c1⟩ := hot
 unfold pyNext
 refine wpAny_bind (wpAny_attempt (wpAny_callSpecial?_slot (name := Str.ofString "__next__") hit.typeIs slot_listiter_next
   (wpAny_call_entry slot_listiter_next hit.typeIs entry_listiter_next ?_ (args_listiter_next _))))
 show wpAny _ _ (field (.ref it) 0 >>= _) _ _ s
 refine wpAny_bind (wpAny_field ho hd (x := .ref l) rfl ?_)
 show wpAny _ _ (if (Value.ref l == Value.none) = true then _ else _) _ _ s
 rw [if_neg (show ¬ ((Value.ref l == Value.none) = true) from Bool.false_ne_true)]
 show wpAny _ _ (field (.ref it) 1 >>= _) _ _ s
 refine wpAny_bind (wpAny_field ho hd (x := .int i 0) rfl ?_)
 show wpAny _ _ (seqItems? (.ref l) >>= _) _ _ s
 refine wpAny_bind (wpAny_seqItems hol hdl ?_)
 simp only [Int.toNat_natCast, hx]
 refine wpAny_bind (wpAny_rule (wpAny_bind (wpAny_setField ho hd (by simp) ?_)))
 have g1 := (Heap.get?_update_other s.heap (Obj.mapFields (·.setIfInBounds 0 Value.none)) (Ne.symm hne)).trans h1
 show wpAny _ _ (newExc (.type "StopIteration") [] >>= _) _ _ _
 refine wpAny_bind ?_
 simp only [newExc, newTuple]
 refine wpAny_bind (wpAny_newObj_type ?_ (by size_fits))
 refine wpAny_bind (m := firstArgMember _ _) (wpAny_of_eq (a := Value.none) (by first | rfl | (simp only [firstArgMember]; rfl)) ?_)
 refine wpAny_newObj_type ?_ (by size_fits)
 refine raiseNew_hot ⟨hh, o1, vs1, Heap.get?_push_of_some _ (Heap.get?_push_of_some _ g1), d1, c1⟩ (Nat.ne_of_lt (Heap.lt_size (Heap.get?_push_of_some _ g1))) (Heap.get?_push_size _ rfl) rfl (by first | (simp; done) | (simp; omega) | (simp only [Array.size_append]; simp; omega)) ?_
 refine wpAny_bind (wpAny_isInstance (T := "StopIteration") (b := true) ⟨_, Heap.get?_update_self _ (Heap.get?_push_size _ rfl) rfl, rfl⟩ isSubtype_stop ?_)
 refine wpAny_pure (hQ _ fun b o hb e => ?_)
 have g2 := (Heap.get?_update_other s.heap (Obj.mapFields (·.setIfInBounds 0 Value.none)) (Ne.symm hb)).trans e
 rw [Heap.get?_update_other _ _ (Nat.ne_of_gt (Heap.lt_size (Heap.get?_push_of_some _ g2)))]
 exact Heap.get?_push_of_some _ (Heap.get?_push_of_some _ g2)
theorem walks_hot {x1 : Addr} {o1 : Obj} {vs1 : Array Value} (hh : A.handled = some (.ref x1)) (d1 : o1.data = .fields vs1) (c1 : vs1[2]? = some .none) (I ax : Addr) (hne : ax ≠ I) (hx : x1 ≠ I) (items : Array Value) :
   Walks prog w A I [I, ax, x1] [I] items.size (fun i v => items[i]? = some v) (fun i h => h.IsListIter I ax i ∧ h.IsList ax items ∧ h.get? x1 = some o1) where
 sub := fun b hb => by simp at hb; simp [hb]
 frame := fun _ _ _ st hk => ⟨st.1.at fun o e => hk I (by simp) o e, st.2.1.at fun o e => hk ax (by simp) o e, hk x1 (by simp) _ st.2.2⟩
 item := fun i s Q E hi st hQ => by
   refine wpAny_pyNext_list_item st.1 st.2.1 (x := items[i]) (by simp [hi]) fun h' hit' hs' => ?_
   exact hQ _ h' s.toks (by simp [hi]) ⟨hit', st.2.1.extBut hs'.extBut hne, hs'.extBut x1 o1 hx st.2.2⟩ fun b o hb e => hs'.extBut b o (fun h => hb (by simp [h])) e
 done := fun s Q E st hQ => pyNext_list_end_hot ⟨hh, o1, vs1, st.2.2, d1, c1⟩ hx st.1 st.2.1 (by simp) fun h' he' => hQ h' s.toks fun b o hb e => he' b o (fun h => hb (by simp [h])) e
 self := fun _ _ _ _ st hQ => wpAny_pyIter_listiter st.1 hQ
theorem sum_hot {l x1 : Addr} {o1 : Obj} {vs1 : Array Value} {its : List Value} {ns : List Int} {Q : Value → Shared → Prop} (hh : A.handled = some (.ref x1)) (h1 : s.heap.get? x1 = some o1) (d1 : o1.data = .fields vs1) (c1 : vs1[2]? = some .none)
   (hl : s.heap.IsList l its.toArray) (hi : IntsAre its ns)
   (h : ∀ h' tk t', (∀ b o, s.heap.get? b = some o → h'.get? b = some o) → Q (.int ns.sum t') { s with heap := h', toks := tk }) : wpAny (model prog w) A (call (.builtin "sum") [.ref l]) Q E s := by
 obtain ⟨xs, e⟩ := hi.allInts.items
 have hn : numsOf (intItems xs).toList = ns := by rw [← e]; exact hi.numsOf
 rw [nums_intItems] at hn
 rw [e] at hl
 have hlt := Heap.lt_size h1
 refine call_sum_walkG (iter_intList hl fun s₂ e st hfp hlI => ?_)
 subst e
 refine ⟨_, _, _, _, _, _, numAt xs, rfl, walks_hot (A := A.in1) hh d1 c1 _ l hlI (Nat.ne_of_lt hlt) (intItems xs), ⟨st.1, st.2, Heap.get?_push_of_some _ h1⟩, fun b hb => ?_, (fun _ _ => intItems_at), fun h' tk t' hk => ?_⟩
 · rcases List.mem_cons.mp hb with rfl | hb
   · exact hfp _ (by simp)
   · rcases List.mem_cons.mp hb with rfl | hb
     · exact hfp _ (by simp)
     · obtain rfl : b = x1 := by simpa using hb
       rw [Heap.size_push]; exact Nat.lt_succ_of_lt hlt
 · have := h h' tk t' (old_kept hk)
   rw [← hn, ← List.take_of_length_le (l := xs.toList.map (·.1)) (i := xs.size) (by simp)] at this
   rw [← preSum_eq] at this
   simpa [intItems] using this
end
def HotX (X : Cx) : Prop := ∃ (a : Addr) (oe : Obj) (vs : Array Value), X.A.handled = some (.ref a) ∧ X.H_0 a = some (.frz oe (xO a oe)) ∧ oe.data = .fields vs ∧ vs[2]? = some .none
theorem HotX.now {X : Cx} (hx : HotX X) {pins : List (Addr × Obj)} {σ : L2.St} {H : Hp} {s : Shared} (I : Inv X pins σ H s) :
   ∃ (a : Addr) (oe : Obj) (vs : Array Value), X.A.handled = some (.ref a) ∧ H a = some (.frz oe (xO a oe)) ∧ oe.data = .fields vs ∧ vs[2]? = some .none ∧ s.heap.get? a = some oe := by
 obtain ⟨a, oe, vs, h1, h2, h3, h4⟩ := hx
 have h5 := I.base.frzs a oe _ h2
 exact ⟨a, oe, vs, h1, h5, h3, h4, (I.hok a _ h5).1⟩
theorem HotX.at {X : Cx} (hx : HotX X) {pins : List (Addr × Obj)} {σ : L2.St} {H : Hp} {s : Shared} (I : Inv X pins σ H s) : ∃ x1, HotAt X.A x1 s.heap ∧ H x1 ≠ none := by
 obtain ⟨a, oe, vs, h1, h2, h3, h4, h5⟩ := hx.now I
 exact ⟨a, ⟨h1, oe, vs, h5, h3, h4⟩, by rw [h2]; simp⟩
end Pu
namespace Pu
open PySem PySem.Spec L2 HotX
open PyProof.Rows hiding St
structure TurnO (P : Program) (w : World) (K : PySem.W.Frag) (tg : Expr) (J : It) (fp : List Addr) (it : Addr) (tn : Nat → Heap → Prop) : Prop where
 mem : it ∈ fp
 obj : ∀ i h, tn i h → ∀ b ∈ fp, ∃ o, h.get? b = some o ∧ ∀ v, o.data ≠ .cell v
 keep : ∀ i h h', tn i h → (∀ b ∈ fp, ∀ o, h.get? b = some o → h'.get? b = some o) → tn i h'
 item : ∀ (X : Cx), X.prog = P → X.w = w → X.K = K → ∀ (i : Nat) (pins : List (Addr × Obj)) (s : Shared) (σ : L2.St) (H : Hp) (E : Value → Shared → Prop), Inv X pins σ H s → (∀ b ∈ fp, FpOk X pins H b) → tn i s.heap → J.go i H →
   wpAny (model P w) X.A (pyNext (.ref it)) (fun r s1 => ∃ u, r = some u ∧
     wpAny (model P w) X.A (letOwnedTupleGo tg (.ref it) u) (fun _ s2 => ∃ x H', Inv X pins σ H' s2 ∧ RelV x u ∧ J.yld i H x H' ∧ tn (i + 1) s2.heap ∧ ∀ b ∈ fp, H' b = none) E s1) E s
 done : ∀ (X : Cx), X.prog = P → X.w = w → X.K = K → HotX X → ∀ (i : Nat) (pins : List (Addr × Obj)) (s : Shared) (σ : L2.St) (H : Hp) (E : Value → Shared → Prop), Inv X pins σ H s → (∀ b ∈ fp, FpOk X pins H b) → tn i s.heap → J.stop i H →
   wpAny (model P w) X.A (pyNext (.ref it)) (fun r s1 => r = none ∧ Inv X pins σ H s1) E s
 self : ∀ (A : Around) (i : Nat) (s : Shared) (Q : Value → Shared → Prop) (E : Value → Shared → Prop), tn i s.heap → Q (.ref it) s → wpAny (model P w) A (pyIter (.ref it)) Q E s
theorem turn_listO {P : Program} {w : World} {K : PySem.W.Frag} {tg : Expr} (a it : Addr) : TurnO P w K tg (Itl K a) [it] it (fun i h => h.IsListIter it a i) where
 mem := by simp
 obj := fun i h st b hb => by
   obtain rfl : b = it := by simpa using hb
   obtain ⟨o, e, c, d⟩ := st
   exact ⟨o, e, fun v z => by rw [d] at z; cases z⟩
 keep := fun i h h' st k => st.at fun o e => k it (by simp) o e
 item := by
   rintro X rfl rfl rfl i pins s σ H E I hf st ⟨xs, x, hq, hx⟩
   obtain ⟨its, rv, p, _⟩ := I.list hq
   obtain ⟨u, hu, ru⟩ := rv.get hx
   obtain ⟨f0, f1, f2, f3, f4, f5⟩ := hf it (by simp)
   refine wpAny_pyNext_list_item st p.isList (x := u) (by simpa using hu) fun h' st' sb => ?_
   have I1 : Inv X pins σ H { s with heap := h' } := I.turned (t' := s.toks) (fun b o hb e => (sb.2 b hb).trans e) f0 f1 f3 f4 f5
   obtain ⟨o, e, c, d⟩ := id st'
   exact ⟨u, rfl, go_of (s := { s with heap := h' }) e c d (by decide) ⟨x, H, I1, ru, ⟨rfl, fun ys hy => by rw [I.list_inj hy hq]; exact hx⟩, st', fun b hb => (hf b hb).1⟩⟩
 done := by
   rintro X rfl rfl rfl hX i pins s σ H E I hf st ⟨xs, hq, hx⟩
   obtain ⟨its, rv, p, _⟩ := I.list hq
   obtain ⟨f0, f1, f2, f3, f4, f5⟩ := hf it (by simp)
   obtain ⟨x1, hot, hn⟩ := hX.at I
   have hl := rv.length
   exact pyNext_list_end_hot hot (fun e => hn (by rw [e]; exact f0)) st p.isList (by simp; omega) fun h' eb => ⟨rfl, I.turned (t' := s.toks) (fun b o hb e => eb b o hb e) f0 f1 f3 f4 f5⟩
 self := fun _ _ _ _ _ st h => wpAny_pyIter_listiter st h
def PIEO (X : Cx) (pins : List (Addr × Obj)) (σ : L2.St) (tg : Expr) (R : It → Hp → Prop) (itv : Value) (s2 : Shared) : Prop :=
 ∃ (it : Addr) (fp : List Addr) (tn : Nat → Heap → Prop) (J : It) (H' : Hp), itv = .ref it ∧ Inv X pins σ H' s2 ∧ TurnO X.prog X.w X.K tg J fp it tn ∧ tn 0 s2.heap ∧ (∀ b ∈ fp, FpOk X pins H' b) ∧ R J H'
structure PIO (X : Cx) (tg iter : Expr) (wi : TI) : Prop where
 run : ∀ (pins : List (Addr × Obj)) (s : Shared) (σ : L2.St) (H : Hp) (R : It → Hp → Prop), Inv X pins σ H s → wi σ H R →
   wpAny (model X.prog X.w) X.A (eval iter X.env) (fun v s1 => wpAny (model X.prog X.w) X.A (pyIter v) (PIEO X pins σ tg R) X.xe s1) X.xe s
theorem pio_list {X : Cx} {tg l : Expr} {tl : TE} (hl : PE X l tl) : PIO X tg l (iList X.K tl) := by
 refine ⟨fun pins s σ H R I h => thn (hl.run pins s σ H _ I h) fun v s1 ⟨x, H1, I1, r1, a, e, ⟨xs, hq⟩, q⟩ => ?_⟩
 subst e
 cases r1
 obtain ⟨its, rv, p, _⟩ := I1.list hq
 refine wpAny_pyIter_list p.isList ⟨s1.heap.objs.size, [s1.heap.objs.size], _, _, H1, rfl, I1.kept (t' := s1.toks) fun b o e => Heap.get?_push_of_some _ e, turn_listO a _, ⟨_, Heap.get?_push_size _ rfl, rfl, rfl⟩, fun b hb => ?_, q⟩
 obtain rfl : b = s1.heap.objs.size := by simpa using hb
 exact I1.fpOk (Nat.le_refl _) (I1.hok.fresh (Nat.le_refl _))
section
variable {X : Cx}
theorem hotX_blk {pins : List (Addr × Obj)} {σ : L2.St} {H : Hp} {s : Shared} (hx : HotX X) (I : Inv X pins σ H s) (scope : Scope) (cenv : Env) (fp : List Addr) : HotX (X.blk s H scope cenv fp) := by
 obtain ⟨a, oe, vs, h1, h2, h3, h4, _⟩ := hx.now I
 exact ⟨a, oe, vs, h1, h2, h3, h4⟩
theorem pe_lcO {elt tg iter : Expr} {ifs : List Expr} {scope : Scope} {own : List (Str × Nat)} {pos : Pos} {wi : TI} {g : TG} {tt : TT} {te : TE} (hX : HotX X) (hN : X.N.Nodup) (hi : PIO X tg iter wi) (ok : BlkOk X.N X.env.scope scope own)
   (hg : ∀ (s : Shared) (H : Hp) (C : Addr) (cl : List (Str × Addr)) (fp : List Addr), PG (X.blk s H scope (compEnvC scope cl C X.env) fp) tg g) (ht : ∀ (s : Shared) (H : Hp) (C : Addr) (cl : List (Str × Addr)) (fp : List Addr), PTs (X.blk s H scope (compEnvC scope cl C X.env) fp) ifs tt)
   (he : ∀ (s : Shared) (H : Hp) (C : Addr) (cl : List (Str × Addr)) (fp : List Addr), PE (X.blk s H scope (compEnvC scope cl C X.env) fp) elt te) (hs : ∀ x, foldedSetIterable iter X.env x = pure x := by intro _; rfl) :
   PE X (.ListComp elt [⟨tg, iter, ifs, 0⟩] scope pos) (tLc wi g tt te (own.map (·.2))) := by
 refine ⟨fun pins s σ H Q I h => ?_⟩
 rw [eval_ListComp]
 have hfree : ∀ y ∈ scope.names, y.2 = .free → ∃ c, X.env.cells.lookup y.1 = some c := fun y hy e => I.ok.has _ (ok.free y hy e)
 refine wpAny_comprehension_free (use := none) rfl hs (closure_ok hfree) ok.kind (fun y hy e => by rw [ok.uniq y hy, e])
   (thn (hi.run pins s σ H _ I h) fun xv s1 hx => thn hx fun itv s2 h2 => ?_)
 obtain ⟨it, fp, tn, J, H2, rfl, I2, T, st2, f2, q⟩ := h2
 refine wpAny_newObj_type (newEnv_comp ?_) (by show 0 ≤ sizeLine; decide)
 obtain ⟨D, hD⟩ : ∃ D, D = s2.heap.objs.size := ⟨_, rfl⟩
 have hDn : H2 D = none := I2.hok.fresh (Nat.le_of_eq hD.symm)
 obtain ⟨W, ⟨m0, w0⟩, turn⟩ := q D hDn
 rw [← hD]
 generalize hs3 : ({ s2 with heap := s2.heap.push { cls := .type "list", data := .seq ([] : List Value).toArray } } : Shared) = s3
 have h3 : s3.heap = s2.heap.push { cls := .type "list", data := .seq ([] : List Value).toArray } := by rw [← hs3]
 have I3 : Inv X pins σ (upd H2 D (.lst [])) s3 := by
   rw [← hs3]
   refine I2.laid (t' := s2.toks) (fun b o e => Heap.get?_push_of_some _ e) (Nat.le_of_eq hD.symm) ⟨Nat.zero_le _, [], 0, .nil, ?_⟩
   rw [hD]
   exact Heap.get?_push_size _ rfl
 have sz : ∀ b ∈ fp, b < s2.heap.objs.size := fun b hb => Heap.lt_size (T.obj _ _ st2 b hb).choose_spec.1
 have f3 : ∀ b ∈ fp, FpOk X pins (upd H2 D (.lst [])) b ∧ b < s3.heap.objs.size := fun b hb => by
   have hlt := sz b hb
   refine ⟨⟨?_, (f2 b hb).2⟩, by rw [h3, Heap.size_push]; exact Nat.lt_succ_of_lt hlt⟩
   rw [upd_ne (by rw [hD]; exact Nat.ne_of_lt hlt)]
   exact (f2 b hb).1
 have st3 : tn 0 s3.heap := T.keep _ _ _ st2 fun b _ o e => by rw [h3]; exact Heap.get?_push_of_some _ e
 have I4 := block_start I3 ok hN f3
 have pg := hg s3 (upd H2 D (.lst [])) s3.heap.objs.size (cellsFrom (s3.heap.objs.size + 1) scope.names (cloFrom X.env.cells scope.names [])) fp
 have pt := ht s3 (upd H2 D (.lst [])) s3.heap.objs.size (cellsFrom (s3.heap.objs.size + 1) scope.names (cloFrom X.env.cells scope.names [])) fp
 have pe := he s3 (upd H2 D (.lst [])) s3.heap.objs.size (cellsFrom (s3.heap.objs.size + 1) scope.names (cloFrom X.env.cells scope.names [])) fp
 have hB := hotX_blk hX I3 scope (compEnvC scope (cellsFrom (s3.heap.objs.size + 1) scope.names (cloFrom X.env.cells scope.names [])) s3.heap.objs.size X.env) fp
 show codeAny _ _ (.compStart (.ListComp elt [⟨tg, iter, ifs, 0⟩] scope pos) 0 (.ref it) (.ref D) (compEnvC scope (cellsFrom (s3.heap.objs.size + 1) scope.names (cloFrom X.env.cells scope.names [])) s3.heap.objs.size X.env)) (compPost (model X.prog X.w) X.A X.xe none (EP X pins σ Q) (.ref D) s3.heap.objs.size) { s3 with heap := pushCells (s3.heap.push { cls := .type "dict", data := .dict #[] }) scope.names }
 have nfp : ∀ b ∈ fp, (upd H2 D (.lst [])) b = none := fun b hb => (f3 b hb).1.1
 generalize hce : compEnvC scope (cellsFrom (s3.heap.objs.size + 1) scope.names (cloFrom X.env.cells scope.names [])) s3.heap.objs.size X.env = ce at I4 pg pt pe hB ⊢
 have cL : ce.locals = s3.heap.objs.size := by subst hce; rfl
 generalize hH3 : upd H2 D (.lst []) = H3 at I3 I4 pg pt pe w0 nfp f3 hB
 generalize hs4 : ({ s3 with heap := pushCells (s3.heap.push { cls := .type "dict", data := .dict #[] }) scope.names } : Shared) = s4 at I4 ⊢
 have st4 : tn 0 s4.heap := T.keep _ _ _ st3 fun b _ o e => by rw [← hs4]; exact pushCells_keeps _ _ _ _ (Heap.get?_push_of_some _ e)
 have stat : ∀ {σ' : L2.St} {H' : Hp} {s' : Shared}, Inv (X.blk s3 H3 scope ce fp) [] σ' H' s' → (∀ b ∈ fp, H' b = none) → ∀ b ∈ fp, FpOk (X.blk s3 H3 scope ce fp) [] H' b := fun {σ' H' s'} I' hn b hb =>
   ⟨hn b hb, (I'.ok.exf b hb).1, I'.ok.exfs b hb, .inl hb, fun x c e => (I'.ok.exf b hb).2 x c e, fun p hp => absurd (show p ∈ ([] : List (Addr × Obj)) ++ [] from hp) (by simp)⟩
 have loop : codeAny (model X.prog X.w) X.A (.compLoop (.ListComp elt [⟨tg, iter, ifs, 0⟩] scope pos) 0 (.ref it) (.ref D) ce) (compPost (model X.prog X.w) X.A X.xe none (EP X pins σ Q) (.ref D) s3.heap.objs.size) s4 := by
   refine compLoop_any (fun n s' => ∃ i H', Inv (X.blk s3 H3 scope ce fp) [] (wipe σ (own.map (·.2))) H' s' ∧ tn i s'.heap ∧ (∀ b ∈ fp, H' b = none) ∧ W i n H') ?_ m0 ⟨0, H3, I4, st4, nfp, w0⟩
   rintro n s5 ⟨i, H5, I5, st5, n5, w5⟩
   rcases turn i n H5 w5 with ⟨stop, qq⟩ | ⟨go, Nx, hNx, step⟩
   · refine thnF (T.done (X.blk s3 H3 scope ce fp) rfl rfl rfl hB i [] s5 _ H5 (fun _ _ => False) I5 (stat I5 n5) st5 stop) fun r s6 ⟨hr, I6⟩ => ?_
     subst hr
     have I7 : Inv X pins σ H5 s6 := I3.call' (ch := fp) I6.os I6.base I6.hok I6.bare fun b hb => ⟨(f3 b hb).1.2.2.2.1, (f3 b hb).1.2.1, (f3 b hb).1.2.2.2.2.1, (f3 b hb).1.2.2.2.2.2⟩
     have nC : H5 s3.heap.objs.size = none := by
       have z : H5 ce.locals = none := I6.free
       rw [cL] at z
       exact z
     obtain ⟨m, hn, _⟩ := I6.loc
     have hn : s6.heap.Ns ce.locals m := hn
     rw [cL] at hn
     refine ⟨m, hn, fun h'' sb => ?_⟩
     obtain ⟨e0, e1, e2, e3, e4, e5⟩ := I3.fpOk (Nat.le_refl _) nC
     exact ⟨.ref D, H5, I7.turned (t' := s6.toks) (fun b o hb e => (sb.2 b hb).trans e) e0 e1 e3 e4 e5, rfl, qq⟩
   · refine thnF (T.item (X.blk s3 H3 scope ce fp) rfl rfl rfl i [] s5 _ H5 (fun _ _ => False) I5 (stat I5 n5) st5 go) fun r s6 ⟨u, hr, h6⟩ => ?_
     subst hr
     refine thnF h6 fun _ s7 ⟨x, H7, I7, r7, y7, st7, n7⟩ => ?_
     refine thnF (pg.run _ s7 _ H7 x u _ (I7.pinned (stat I7 n7) (T.obj _ _ st7)) r7 (step x H7 y7)) fun _ s8 ⟨σ8, H8, I8, hw8, q8⟩ => ?_
     refine thnF (pt.run _ s8 σ8 H8 _ I8 q8) fun b s9 ⟨H9, I9, q9⟩ => ?_
     have fin : ∀ {s' : Shared} {H' : Hp}, Inv (X.blk s3 H3 scope ce fp) ([] ++ pinsAt fp s7.heap) σ8 H' s' → Nx H' → ∃ m, m < n ∧ ∃ i H', Inv (X.blk s3 H3 scope ce fp) [] (wipe σ (own.map (·.2))) H' s' ∧ tn i s'.heap ∧ (∀ b ∈ fp, H' b = none) ∧ W i m H' := fun {s' H'} I' nx => by
       obtain ⟨m', hm, w'⟩ := hNx H' nx
       have pin' : ∀ b ∈ fp, ∀ o, s7.heap.get? b = some o → s'.heap.get? b = some o ∧ H' b = none := fun b hb o e =>
         let z := I'.pin (b, o) (List.mem_append_right _ (List.mem_append_right _ (mem_pinsAt hb e)))
         ⟨z.1, z.2.1⟩
       refine ⟨m', hm, i + 1, H', (I'.unpinned (pins := [])).weak (by rw [← hw8, wipe_length]) (fun j v e => ?_), T.keep _ _ _ st7 fun b hb o e => (pin' b hb o e).1, fun b hb => ?_, w'⟩
       · rw [← hw8] at e
         exact (wipe_some e).1
       · obtain ⟨o, e, _⟩ := T.obj _ _ st7 b hb
         exact (pin' b hb o e).2
     cases b with
     | false =>
       simp only [Bool.false_eq_true, if_false] at q9 ⊢
       exact fin I9 q9
     | true =>
       simp only [if_true] at q9 ⊢
       refine thnF (pe.run _ s9 σ8 H9 _ I9 q9) fun z s10 ⟨yv, H10, I10, r10, acc, hD10, hz10, nx⟩ => ?_
       exact app_ok (X := X.blk s3 H3 scope ce fp) I10 hD10 hz10 r10 fun s11 I11 => fin I11 nx
 exact codeAny_compStart_list loop (T.self X.A 0 _ _ _ st4 loop)
theorem cr_sumO (hX : HotX X) : CallR X (.builtin "sum") (rSum X.K) := by
 intro pins s σ H vs us Q I r h
 obtain ⟨a, ns, rfl, hs, q⟩ := h
 obtain ⟨its, rv, hl, _⟩ := I.list hs
 obtain ⟨x1, oe, w1, h1, _, h3, h4, h5⟩ := hX.now I
 rw [Vals.ref1 r]
 exact sum_hot h1 h5 h3 h4 hl.isList rv.ints fun h' tk t' hk => ⟨.int _, H, I.kept hk, ⟨_, rfl⟩, q⟩
end
end Pu
namespace Pu
open PySem PySem.Spec L2 HotX
open PyProof.Rows hiding St
def HotA (A : Around) (H : Hp) : Prop := ∃ (a : Addr) (oe : Obj) (vs : Array Value), A.handled = some (.ref a) ∧ H a = some (.frz oe (xO a oe)) ∧ oe.data = .fields vs ∧ vs[2]? = some .none
structure FnLH (P : Program) (w : World) (K : PySem.W.Frag) (mg : Str → Option Value) (base : Heap) (k : Nat) (f : Addr) (fd : FuncData) (ps : List Str) (sp : Sp) : Prop where
 len : ∀ vs H Q E, sp vs H Q E → vs.length = ps.length
 run : ∀ (A : Around) (outer : List Env) (s : Shared) (H : Hp) (args : Args) (us : List Value) (vs : List V) (Q : VK), HotA A H → RoomL k A → Env0 P w K mg base A outer s H → BindsTo s fd args (ps.zip us) → Vals vs us → sp vs H Q (fun _ _ _ => False) →
   codeAny (model P w) A (.call (.ref f) args) (fun r s' => ∃ u, r = .ok (.ret u) ∧ CE outer P w H s Q u s') s
section
variable {P : Program} {w : World} {K : PySem.W.Frag} {mg : Str → Option Value} {base : Heap} {x qual : Str} {params : Arguments} {body : List Stmt} {scope : Scope} {dvs : List V} {kws : List (Str × V)} {f : Addr} {fd : FuncData} {N ps : List Str} {cl : Nat → Addr} {m : MS} {k : Nat}
theorem fn_lh (Fd : FunD K x qual params body scope dvs kws f fd) (Sc : FnScope N ps scope)
   (hbd : ∀ (cdv : Value) (A : Around) (outer : List Env) (s : Shared) (H : Hp), RoomL k (A.deeper (envOfC qual scope s.heap.objs.size f cdv)) → HotX (XdL P w K mg base N qual scope f cdv A outer s H) → QSs (XdL P w K mg base N qual scope f cdv A outer s H) cl W0 body m) :
   FnLH P w K mg base (k + 1) f fd ps (SpM ⟨P, w, K, cl⟩ ps.length (runF N.length m)) := by
 obtain ⟨oc, od, dV, kV, doc, pm, an, cdv, ct, osl, rfl, lk, hcd, _, _⟩ := Fd.ex
 refine ⟨fun _ _ _ _ h => h.1, fun A outer s H args us vs Q hot hr e0 hb r hsp => ?_⟩
 have kin : K.In s.heap := e0.mod.kin.keeps fun b o e => (e0.bs b o e).1
 have nol : s.heap.NoLimit := e0.mod.nolimit.keeps fun b o e => (e0.bs b o e).1
 have kinds : ∀ y ∈ ps.zip us, scope.names.lookup y.1 = some .local ∨ (scope.names.lookup y.1 = some .cell ∧ ((cellsFrom (s.heap.objs.size + 1) scope.names []).lookup y.1).isSome = true) := by
   rintro ⟨n, v⟩ hy
   rcases Sc.par n (List.of_mem_zip hy).1 with q | q
   · exact .inl q
   · exact .inr ⟨q, PySem.W.cellsFrom_some _ _ _ (.inl q)⟩
 refine codeAny_call_function (by have := hr.dp; omega) (kin _ _ lk) rfl Sc.co Sc.gen rfl (PySem.W.codeRec_of kin hcd) (hb _ _ _ _ (wpAny_newFunctionEnv_cells Sc.kind kinds fun env he s1 z => ?_))
 subst he
 refine ⟨nol.keeps z.toInCall.keep, codeAny_func ?_⟩
 have e1 : Env0 P w K mg base ({ A with handled := none }) outer s H := ⟨e0.frames, e0.mod, e0.bs, e0.bsz, e0.funs, e0.frf, e0.hok, e0.bare⟩
 have I0 : Inv (cxOf cx0 P w K mg base N qual scope f cdv ({ A with handled := none }) outer s H fun _ _ _ => False) [] (L2.start N vs) H s1 := inv_start Sc rfl e1 hsp.1 r z
 have o0 := I0.ok
 have I : Inv (XdL P w K mg base N qual scope f cdv A outer s H) [] (L2.start N vs) H s1 :=
   { ok := ⟨o0.mod, o0.kind, o0.glob, o0.blt, o0.above, o0.inj, o0.has, o0.cab, (fun z => Bool.noConfusion (show false = true from z)), o0.frames, o0.stk, o0.exf, o0.bs, o0.bsz, o0.noex, o0.exfs, o0.funs, o0.frf⟩
     os := I0.os, bare := I0.bare, base := I0.base, loc := I0.loc, cell := I0.cell, free := I0.free, freeC := I0.freeC, pin := I0.pin, hok := I0.hok, len := I0.len }
 refine wpAny_mono ((hbd cdv A outer s H (hr.deeper _) hot).run [] s1 _ H _ I (spM_body hsp)) (fun fl s' hs => ?_) fun _ _ z => z.elim
 cases fl with
 | ret u => obtain ⟨v, σ', H', J, rv, q⟩ := hs; exact ⟨u, rfl, v, H', J.os, J.bare, J.base, J.hok, rv, q⟩
 | next => obtain ⟨σ', H', J, q⟩ := hs; exact ⟨.none, rfl, .non, H', J.os, J.bare, J.base, J.hok, rfl, q⟩
 | brk => obtain ⟨_, _, _, q⟩ := hs; exact q.elim
 | cont => obtain ⟨_, _, _, q⟩ := hs; exact q.elim
end
section
variable {X : Cx} {cl : Nat → Addr} {W : WX} {k n : Nat} {f : Addr} {fd : FuncData} {ps : List Str} {mf : List U → Sto → R U} {x : Str} {p pos : Pos} {e : Expr} {es : List Expr} {mA : MA}
theorem hotX_su {z : SuD} (hz : SuOk z) : HotX (Cx.suX X z) := by
 obtain ⟨vs, h1, h2⟩ := hz
 exact ⟨z.a, z.oe, vs, rfl, upd_same, h1, h2⟩
theorem qe_callLH (F : FnLH X.prog X.w X.K X.mg X.base k f fd ps (SpM (bx X cl) n mf)) (hX : HotX X) (hr : RoomL k X.A) (hg : Gl X x) (hm : X.mg x = some (.ref f)) (hk : PySem.W.keepIn X.K (.ref f) = true) (hb : Binds X.K fd ps []) (hA : QA X cl W (e :: es) mA)
   (hdb : (x == ("__debug__" : Str)) = false := by decide) (he : starEach (e :: es) X.env = (false, eval e X.env) :: starEach es X.env := by rfl) (hpl : (backTo pos (starEach es X.env)).any (·.1) = false := by rfl) :
   QE X cl W (.Call (.Name x p) (e :: es) [] pos) (eCallL n mf mA) := by
 refine ⟨fun pins s σ H Q I ⟨ι, F0, S, ρ, r, en, o⟩ => ?_⟩
 refine wpAny_Call_Name_kw (ld_glob I hg hm ?_ hdb)
 refine PySem.W.callWith_K (h₀ := X.base) I.ok.mod.kin hk (thn (hA.run pos pins s σ H _ I ⟨ι, F0, S, ρ, r, en, o.bind⟩) fun us s1 ⟨vs, H1, I1, rv, ι1, F1, S1, ws, e1, r1, z1, o1⟩ => ⟨I1.kIn, ?_⟩) he hpl
 split at o1
 · rename_i hl
   have hlen : vs.length = n := by rw [paired_len z1]; exact hl
   have sp : SpM (bx X cl) n mf vs H1 Q (fun _ _ _ => False) := by
     refine ⟨hlen, ι1, F1, S1, ws, r1, z1, ?_⟩
     cases q : mf ws S1 with
     | ok a S' => rw [q] at o1; exact o1
     | ex c fs S' => rw [q] at o1; exact o1.elim
     | er => rw [q] at o1; exact o1
   have hps : us.length = ps.length := by rw [← rv.length]; exact F.len _ _ _ _ sp
   have b := hb s1 us I1.kIn (by rw [List.append_nil]; exact hps)
   rw [List.append_nil] at b
   obtain ⟨a, oe, vs0, h1, h2, h3, h4, _⟩ := hX.now I1
   refine wpAny_call (codeAny_mono (F.run X.A X.stack s1 H1 ⟨us, []⟩ us vs Q ⟨a, oe, vs0, h1, h2, h3, h4⟩ hr I1.env0 b rv sp) fun r s' hq => ?_)
   obtain ⟨u, rfl, hq⟩ := hq
   exact I1.after hq
 · exact o1.elim
end
def QIO (X : Cx) (cl : Nat → Addr) (W : WX) (tg iter : Expr) (m : MI) : Prop := PIO X tg iter (liftI (bx X cl) W m)
theorem PIO.imp {X : Cx} {tg e : Expr} {t t' : TI} (h : PIO X tg e t) (k : ∀ σ H Q, t' σ H Q → t σ H Q) : PIO X tg e t' := ⟨fun pins s σ H Q I hq => h.run pins s σ H Q I (k σ H Q hq)⟩
def iLst (m : ME) : MI := fun ρ S => (m ρ S).bind fun u S1 => match u with
 | .v (.lst ds) => .ok ⟨ds.map U.v, none⟩ S1
 | _ => .er
def asI : D → Option Int
 | .int i => some i
 | _ => none
def fSum : FA := fun us S => match us with
 | [.v (.lst ds)] => (optAll asI ds).map fun ns => (.v (.int ns.sum), S)
 | _ => none
section
variable {X : Cx} {cl : Nat → Addr} {W : WX} {tg iter elt e : Expr} {m : ME} {mi : MI} {ifs : List Expr} {scope : Scope} {own : List (Str × Nat)} {pos : Pos} {g : MG} {js : List Nat} {t : MT} {me : ME}
theorem qio_lst (h : QE X cl W e m) : QIO X cl W tg e (iLst m) := by
 refine (pio_list h).imp fun σ H Rr ⟨ι, F, S, ρ, r, en, o⟩ => ⟨ι, F, S, ρ, r, en, ?_⟩
 unfold iLst at o
 cases q : m ρ S with
 | er => rw [q] at o; exact o.elim
 | ex c fs S1 => rw [q] at o; exact o
 | ok u S1 =>
   rw [q] at o
   simp only [R.bind_ok] at o
   cases u with
   | r n => exact o.elim
   | v d =>
     cases d with
     | lst ds =>
       intro v ι1 F1 H1 e1 r1 z1
       have z0 := z1
       cases z1 with
       | v z1 =>
         cases z1 with
         | lst f h rs => exact ⟨_, rfl, ⟨_, SqL.of h⟩, o _ ι1 F1 H1 e1 r1 (walk_l (u := .v (.lst ds)) z0 rfl (by rintro (⟨_, z⟩ | ⟨_, _, z, _⟩) <;> cases z))⟩
     | _ => exact o.elim
theorem qe_lcVO (hX : HotX X) (hN : X.N.Nodup) (hi : QIO X cl W tg iter mi) (ok : BlkOk X.N X.env.scope scope own) (hg : Blk X scope fun Y => QG Y cl tg js g) (ht : Blk X scope fun Y => QTs Y cl W0 ifs t) (he : Blk X scope fun Y => QE Y cl W0 elt me) (hj : ∀ j ∈ js, j ∈ own.map (·.2))
   (hs : ∀ x, foldedSetIterable iter X.env x = pure x := by intro _; rfl) : QE X cl W (.ListComp elt [⟨tg, iter, ifs, 0⟩] scope pos) (eLcV (own.map (·.2)) mi g t me) :=
 PE.imp (pe_lcO (own := own) (g := liftG (bx X cl) js g) (tt := liftT (bx X cl) W0 t) (te := liftE (bx X cl) W0 me) hX hN hi ok (fun a b c d e => hg a b c d e) (fun a b c d e => ht a b c d e) (fun a b c d e => he a b c d e) hs) fun σ H Q h => lc_read hj h lc_endV
theorem ints_rep {F : Addr → Prop} {H : Hp} : ∀ {vs : List V} {ds : List D} {ns : List Int}, Reps (bx X cl) F H vs ds → optAll asI ds = some ns → vs = ns.map V.int
 | _, _, _, .nil, h => by cases h; rfl
 | _ :: _, d :: ds, ns, .cons z zs, h => by
   unfold optAll at h
   cases d with
   | int i =>
     cases z
     simp only [asI] at h
     cases q : optAll asI ds with
     | none => rw [q] at h; simp at h
     | some ms =>
       rw [q] at h
       simp at h
       subst h
       rw [ints_rep zs q]
       rfl
   | _ => simp [asI] at h
theorem cq_sumO (hX : HotX X) : CallR X (.builtin "sum") (liftC (bx X cl) fSum) := by
 intro pins s σ H xs us Q I rv ⟨ι, F, S, as, rl, zs, fi⟩
 unfold fSum at fi
 split at fi
 · rename_i ds
   cases q : optAll asI ds with
   | none => rw [q] at fi; exact fi.no
   | some ns =>
     rw [q] at fi
     cases zs with
     | cons z1 z2 =>
       cases z2
       cases z1 with
       | v z1 =>
         cases z1 with
         | lst f h rs => exact cr_sumO hX pins s σ H _ us Q I rv ⟨_, ns, rfl, by rw [← ints_rep rs q]; exact SqL.of h, fi.val rl (.v (.int _))⟩
 · exact fi.no
end
end Pu
namespace Pu
open PySem PySem.Spec L2 HotX
open PyProof.Rows hiding St
theorem mem_reps {a : Nat} {c : Array Nat} : ∀ {n : Nat} {b : Array Nat}, a ∈ ((List.replicate n c).foldl (· ++ ·) b).toList → a ∈ b.toList ∨ a ∈ c.toList
 | 0, b, h => .inl h
 | n + 1, b, h => by
   rw [List.replicate_succ, List.foldl_cons] at h
   rcases mem_reps h with h | h
   · rw [Array.toList_append] at h
     exact List.mem_append.mp h
   · exact .inr h
theorem strOk_mul {x : Str} {n : Int} (h : PyData.strOk x = true) : PyData.strOk (Txt.mul x n) = true := by
 unfold Txt.mul
 split
 · rw [strOk_iff]; intro c hc; simp [Str.empty] at hc
 · split
   · exact h
   · rw [strOk_iff] at *
     intro c hc
     rcases mem_reps (show c ∈ ((List.replicate n.toNat x.cps).foldl (· ++ ·) #[]).toList from hc) with h1 | h1
     · simp at h1
     · exact h c h1
noncomputable def fMulT : F2 := fun u v S => match u, v with
 | .v (.str x), .v (.int k) => if 1 ≤ k ∧ k ≤ 1000 ∧ x.length ≤ 90 then some (.v (.str (Txt.mul x k)), S) else none
 | _, _ => none
section
variable {X : Cx} {cl : Nat → Addr} {W : WX} {tg iter elt e : Expr} {m : ME}
theorem oq_mulT : OpR X (binaryOp .Mult) (liftOp (bx X cl) fMulT) := by
 intro pins s σ H x y v u Q I rx ry ⟨ι, F, S, a, b, rl, za, zb, fi⟩
 unfold fMulT at fi
 split at fi
 · rename_i z k
   split at fi
   · rename_i hl
     obtain ⟨h1, h2, h3⟩ := hl
     cases za with
     | v za =>
       cases za with
       | str _ hz =>
         cases zb with
         | v zb =>
           cases zb
           obtain ⟨t, rfl⟩ := rx
           obtain ⟨t2, rfl⟩ := ry
           refine PySem.SB.mul ⟨?_, fun _ _ => ?_, fun _ _ => ?_⟩ fun t' k' => ?_
           · simp; omega
           · have : k ≤ 1000 := h2
             have h4 : (9223372036854775807 : Int) / 1000 ≤ (2 ^ 63 - 1) / k := by
               rw [Int.le_ediv_iff_mul_le (by omega)]
               have : (9223372036854775807 : Int) / 1000 = 9223372036854775 := by decide
               rw [this]
               omega
             omega
           · have : z.length * k.toNat ≤ 90 * 1000 := Nat.mul_le_mul h3 (by omega)
             have h9 : ¬ (z.length * k.toNat > sizeLine) := by rw [sizeLine_eq]; omega
             exact decide_eq_false h9
           · obtain ⟨w, H', I', r', q⟩ : ∃ w H', Inv X pins σ H' { s with toks := k' } ∧ RelV w (Value.str (Txt.mul z k) t') ∧ Q w H' := ⟨.str (Txt.mul z k), H, I.tok _, ⟨_, rfl⟩, fi.val rl (.v (.str _ (strOk_mul hz)))⟩
             exact ⟨w, H', I', r', q⟩
   · exact fi.no
 · exact fi.no
theorem qi_lst (h : QE X cl W e m) : QI X cl W tg e (iLst m) := by
 refine PI.imp (pi_list h) fun σ H Rr ⟨ι, F, S, ρ, r, en, o⟩ => ⟨ι, F, S, ρ, r, en, ?_⟩
 unfold iLst at o
 cases q : m ρ S with
 | er => rw [q] at o; exact o.elim
 | ex c fs S1 => rw [q] at o; exact o
 | ok u S1 =>
   rw [q] at o
   simp only [R.bind_ok] at o
   cases u with
   | r n => exact o.elim
   | v d =>
     cases d with
     | lst ds =>
       intro v ι1 F1 H1 e1 r1 z1
       have z0 := z1
       cases z1 with
       | v z1 =>
         cases z1 with
         | lst f h rs => exact ⟨_, rfl, ⟨_, SqL.of h⟩, o _ ι1 F1 H1 e1 r1 (walk_l (u := .v (.lst ds)) z0 rfl (by rintro (⟨_, z⟩ | ⟨_, _, z, _⟩) <;> cases z))⟩
     | _ => exact o.elim
theorem cq_sum (hc : X.calm = true) : CallR X (.builtin "sum") (liftC (bx X cl) fSum) := by
 intro pins s σ H xs us Q I rv ⟨ι, F, S, as, rl, zs, fi⟩
 unfold fSum at fi
 split at fi
 · rename_i ds
   cases q : optAll asI ds with
   | none => rw [q] at fi; exact fi.no
   | some ns =>
     rw [q] at fi
     cases zs with
     | cons z1 z2 =>
       cases z2
       cases z1 with
       | v z1 =>
         cases z1 with
         | lst f h rs => exact cr_sum hc pins s σ H _ us Q I rv ⟨_, ns, rfl, by rw [← ints_rep rs q]; exact SqL.of h, fi.val rl (.v (.int _))⟩
 · exact fi.no
end
end Pu
namespace Mi
open PySem
def isT_Lot : Nat → Nat → Option Bool
 | 15, 15 => some true
 | 13, 15 => some false
 | _, _ => none
def isT_Machine : Nat → Nat → Option Bool
 | 12, 12 => some true
 | 13, 12 => some true
 | 14, 12 => some true
 | 17, 12 => some true
 | _, _ => none
def isT_Pattern : Nat → Nat → Option Bool
 | 14, 14 => some true
 | 17, 14 => some true
 | _, _ => none
def isT_Service : Nat → Nat → Option Bool
 | 13, 13 => some true
 | 17, 13 => some true
 | _, _ => none
def isT_Table : Nat → Nat → Option Bool
 | 21, 21 => some true
 | 20, 21 => some false
 | _, _ => none
def isT_Tree : Nat → Nat → Option Bool
 | 21, 20 => some false
 | 20, 20 => some true
 | _, _ => none
end Mi
namespace Mi
open PySem
def isT_Game : Nat → Nat → Option Bool
 | 18, 18 => some true
 | _, _ => none
end Mi
namespace Mi
open PySem L2 Pu
noncomputable def m__law_cell : MS := (sSeq (sIf (tB (eOp (fI (gCmp fun i j => decide (i < j))) (eVar 1) (eCB fLen (aCons (eVar 0) aNil))))
 (sRet (eOp fIxX (eVar 0) (eVar 1)))
 sNext)
 (sRet (eC (.int 0))))
noncomputable def f__law_cell : List U → Sto → R U := runF 2 m__law_cell
noncomputable def m__law_draws : MS := (sSeq (sAsg (eCall 2 f__law_cell [] (aCons (eVar 0) (aCons (eVar 1) aNil))) (gName 3))
 (sSeq (sAsg (eCB fLstS aNil) (gName 4))
 (sSeq (sIf (tB (eOp (fI (gCmp fun i j => decide (j ≤ i))) (eVar 3) (eOp (fI gPow) (eC (.int 10)) (eC (.int 18)))))
 (sSeq (sAsg (eOp (fI gSub) (eVar 3) (eOp (fI gPow) (eC (.int 10)) (eC (.int 18)))) (gName 7))
 (sSeq (sFor (iRng1 (aCons (eVar 2) aNil)) (gName 6)
 (sSeq (sExpr (eMtT isL fAppend (eVar 4) (aCons (eOp (fI gMod) (eCB fInt (aCons (eVar 7) aNil)) (eC (.int 64))) aNil)))
 (sAsg (eOp (fI gDiv) (eVar 7) (eC (.int 64))) (gName 7))))
 (sRet (eVar 4))))
 sNext)
 (sSeq (sAsg (eOp (fI gMod) (eCB fInt (aCons (eOp fAdd (eOp fAdd (eOp (fI gMul) (eVar 3) (eC (.int 7919))) (eOp (fI gMul) (eVar 1) (eC (.int 104729)))) (eC (.int 12345))) aNil)) (eC (.int 2147483647))) (gName 5))
 (sSeq (sFor (iRng1 (aCons (eVar 2) aNil)) (gName 6)
 (sSeq (sAsg (eOp (fI gMod) (eCB fInt (aCons (eOp fAdd (eOp fAdd (eOp (fI gMul) (eVar 5) (eC (.int 48271))) (eVar 6)) (eC (.int 11))) aNil)) (eC (.int 2147483647))) (gName 5))
 (sExpr (eMtT isL fAppend (eVar 4) (aCons (eOp (fI gMod) (eCB fInt (aCons (eOp (fI gDiv) (eVar 5) (eC (.int 65536))) aNil)) (eC (.int 64))) aNil)))))
 (sRet (eVar 4)))))))
noncomputable def f__law_draws : List U → Sto → R U := runF 8 m__law_draws
noncomputable def m__law_asks : MS := (sSeq (sAsg (eC (.str "abcdefghijklmnopqrstuvwxyz")) (gName 2))
 (sSeq (sAsg (eMtT isS fJoin (eC (.str "")) (aCons (eLcV [10] (iVal (eSl fSl (eVar 0) oNone (oSome (eC (.int 8))))) (gName 10) tYesM (eOp fIxX (eVar 2) (eOp (fI gMod) (eCB fInt (aCons (eVar 10) aNil)) (eC (.int 26))))) aNil)) (gName 3))
 (sSeq (sAsg (eCB fLstS aNil) (gName 4))
 (sSeq (sFor (iRng1 (aCons (eVar 1) aNil)) (gName 5)
 (sSeq (sAsg (eOp fAdd (eOp (fI gMod) (eCB fInt (aCons (eOp fAdd (eOp fIxX (eVar 0) (eC (.int 9))) (eOp (fI gMul) (eC (.int 3)) (eVar 5))) aNil)) (eC (.int 8))) (eC (.int 1))) (gName 6))
 (sIf (tB (eOp fEq (eOp (fI gMod) (eCB fInt (aCons (eOp fIxX (eVar 0) (eC (.int 8))) aNil)) (eC (.int 2))) (eC (.int 0))))
 (sExpr (eMtT isL fAppend (eVar 4) (aCons (eSl fSl (eVar 3) oNone (oSome (eVar 6))) aNil)))
 (sSeq (sAsg (eOp fAdd (eOp (fI gMod) (eCB fInt (aCons (eOp fIxX (eVar 0) (eC (.int 9))) aNil)) (eC (.int 8))) (eC (.int 1))) (gName 6))
 (sSeq (sAsg (eOp (fI gMod) (eCB fInt (aCons (eOp fIxX (eVar 0) (eC (.int 10))) aNil)) (eVar 6)) (gName 7))
 (sSeq (sAsg (eOp fAdd (eOp (fI gMul) (eOp (fI gMod) (eCB fInt (aCons (eOp fIxX (eVar 0) (eC (.int 12))) aNil)) (eC (.int 6))) (eC (.int 2))) (eC (.int 1))) (gName 8))
 (sSeq (sAsg (eOp fIxX (eVar 2) (eOp (fI gMod) (eCB fInt (aCons (eOp fAdd (eOp fIxX (eVar 0) (eC (.int 11))) (eOp (fI gMul) (eVar 8) (eVar 5))) aNil)) (eC (.int 26)))) (gName 9))
 (sExpr (eMtT isL fAppend (eVar 4) (aCons (eOp fAdd (eOp fAdd (eSl fSl (eVar 3) oNone (oSome (eVar 7))) (eVar 9)) (eSl fSl (eVar 3) (oSome (eOp fAdd (eVar 7) (eC (.int 1)))) (oSome (eVar 6)))) aNil))))))))))
 (sRet (eVar 4))))))
noncomputable def f__law_asks : List U → Sto → R U := runF 11 m__law_asks
noncomputable def m_is_ask : MS := (sSeq (sIf (tOr (tB (eOp (fI (gCmp fun i j => decide (i < j))) (eCB fLen (aCons (eVar 0) aNil)) (eC (.int 1)))) (tB (eOp (fI (gCmp fun i j => decide (j < i))) (eCB fLen (aCons (eVar 0) aNil)) (eC (.int (8))))))
 (sRet (eC (.bl false)))
 sNext)
 (sRet (eCB fAll (aCons (eLcV [1] (iChr (eVar 0)) (gName 1) tYesM (eOp (fInX false) (eVar 1) (eC (.str "abcdefghijklmnopqrstuvwxyz")))) aNil))))
noncomputable def f_is_ask : List U → Sto → R U := runF 2 m_is_ask
noncomputable def m_check_parts : MS := (sSeq (sIf (tB (eOp (fI (gCmp fun i j => decide (i < j))) (eVar 0) (eC (.int 1))))
 (sRaise 1 ["part"] (aCons (eC (.str "size")) aNil))
 sNext)
 (sSeq (sIf (tB (eOp (fI (gCmp fun i j => decide (j < i))) (eVar 0) (eC (.int (200)))))
 (sRaise 3 ["size"] (aCons (eVar 0) aNil))
 sNext)
 (sSeq (sFor (iVal (eVar 1)) (gName 3)
 (sIf (tOr (tB (eOp (fI (gCmp fun i j => decide (i < j))) (eVar 3) (eC (.int 0)))) (tB (eOp (fI (gCmp fun i j => decide (j ≤ i))) (eVar 3) (eVar 0))))
 (sRaise 1 ["part"] (aCons (eC (.str "mark")) aNil))
 sNext))
 (sFor (iVal (eVar 2)) (gTup 3 (gCons (gName 4) (gCons (gName 5) (gCons (gName 6) gNil))))
 (sIf (tOr (tB (eOp (fI (gCmp fun i j => decide (i < j))) (eVar 4) (eC (.int 0)))) (tOr (tB (eOp (fI (gCmp fun i j => decide (j ≤ i))) (eVar 4) (eVar 0))) (tOr (tB (eOp (fI (gCmp fun i j => decide (i < j))) (eVar 6) (eC (.int 0)))) (tOr (tB (eOp (fI (gCmp fun i j => decide (j ≤ i))) (eVar 6) (eVar 0))) (tNot (tB (eCall 1 f_is_ask [] (aCons (eVar 5) aNil))))))))
 (sRaise 1 ["part"] (aCons (eC (.str "step")) aNil))
 sNext)))))
noncomputable def f_check_parts : List U → Sto → R U := runF 7 m_check_parts
noncomputable def m_in_order : MS := (sSeq (sAsg (eCB fLstS aNil) (gName 1))
 (sSeq (sFor (iVal (eVar 0)) (gName 2)
 (sSeq (sAsg (eC (.int 0)) (gName 3))
 (sSeq (sAsg (eCB fLen (aCons (eVar 1) aNil)) (gName 4))
 (sSeq (sWhile (tB (eOp fLtD (eVar 3) (eVar 4)))
 (sSeq (sAsg (eOp (fI gDiv) (eOp fAdd (eVar 3) (eVar 4)) (eC (.int 2))) (gName 5))
 (sIf (tB (eOp fLtD (eOp fIxX (eVar 1) (eVar 5)) (eVar 2)))
 (sAsg (eOp fAdd (eVar 5) (eC (.int 1))) (gName 3))
 (sAsg (eVar 5) (gName 4)))))
 (sIf (tOr (tB (eOp fEq (eVar 3) (eCB fLen (aCons (eVar 1) aNil)))) (tB (eOp fNe (eOp fIxX (eVar 1) (eVar 3)) (eVar 2))))
 (sExpr (eMtT isL fInsert (eVar 1) (aCons (eVar 3) (aCons (eVar 2) aNil))))
 sNext)))))
 (sRet (eVar 1))))
noncomputable def f_in_order : List U → Sto → R U := runF 6 m_in_order
noncomputable def m_ends_by_ask : MS := (sSeq (sAsg (eCB fDicS aNil) (gName 1))
 (sSeq (sFor (iVal (eVar 0)) (gTup 3 (gCons (gName 2) (gCons (gName 3) (gCons (gName 4) gNil))))
 (sSet (eVar 1) (eCB fTup (aCons (eVar 2) (aCons (eVar 3) aNil))) (eOp fAdd (eMtT isDc fGet (eVar 1) (aCons (eCB fTup (aCons (eVar 2) (aCons (eVar 3) aNil))) (aCons (eCB fTup aNil) aNil))) (eCB fTup (aCons (eVar 4) aNil)))))
 (sRet (eVar 1))))
noncomputable def f_ends_by_ask : List U → Sto → R U := runF 5 m_ends_by_ask
noncomputable def m_Machineu_initu : MS := (sSeq (sExpr (eCall 3 f_check_parts [] (aCons (eVar 1) (aCons (eVar 2) (aCons (eVar 3) aNil)))))
 (sSeq (sAsg (eCall 1 f_in_order [] (aCons (eLcV [6, 7, 8] (iVal (eVar 3)) (gTup 3 (gCons (gName 6) (gCons (gName 7) (gCons (gName 8) gNil)))) tYesM (eCB fTup (aCons (eVar 6) (aCons (eVar 7) (aCons (eVar 8) aNil))))) aNil)) (gName 5))
 (sSeq (sIf (tB (eOp (fI (gCmp fun i j => decide (j < i))) (eCB fLen (aCons (eVar 5) aNil)) (eC (.int (600)))))
 (sRaise 3 ["size"] (aCons (eCB fLen (aCons (eVar 5) aNil)) aNil))
 sNext)
 (sSeq (sIf (tOr (tB (eOp (fI (gCmp fun i j => decide (i < j))) (eVar 4) (eC (.int 0)))) (tB (eOp (fI (gCmp fun i j => decide (j ≤ i))) (eVar 4) (eVar 1))))
 (sRaise 2 ["state"] (aCons (eVar 4) aNil))
 sNext)
 (sSeq (sFld [12, 13, 14, 17, 18] "size" (eVar 0) (eVar 1))
 (sSeq (sFld [12, 13, 14, 17] "marks" (eVar 0) (eCB fTuple (aCons (eCall 1 f_in_order [] (aCons (eVar 2) aNil)) aNil)))
 (sSeq (sFld [12, 13, 14, 17] "steps" (eVar 0) (eCB fTuple (aCons (eVar 5) aNil)))
 (sSeq (sFld [12, 13, 14, 17] "ends" (eVar 0) (eCall 1 f_ends_by_ask [] (aCons (eVar 5) aNil)))
 (sFld [12, 13, 14, 17] "place" (eVar 0) (eVar 4))))))))))
noncomputable def f_Machineu_initu : List U → Sto → R U := runF 9 m_Machineu_initu
noncomputable def f_Serviceu_initu : List U → Sto → R U := supN 13 f_Machineu_initu
noncomputable def f_Patternu_initu : List U → Sto → R U := supN 14 f_Machineu_initu
noncomputable def m__law_whole : MS := (sRet (eAnd (eCB fIsi (aCons (eVar 0) (aCons (eC (.ty "int")) aNil))) (eNot (eCB fIsi (aCons (eVar 0) (aCons (eC (.ty "bool")) aNil))))))
noncomputable def f__law_whole : List U → Sto → R U := runF 1 m__law_whole
noncomputable def m_Machine_now : MS := (sRet (eUn (fFld [12, 13, 14, 17] "place") (eVar 0)))
noncomputable def f_Machine_now : List U → Sto → R U := runF 1 m_Machine_now
end Mi
namespace Mi
open PySem L2 Pu
def exT_k14 : Nat → Nat → Option Bool
 | 1, 0 => some true
 | 1, 1 => some true
 | 1, 2 => some false
 | 1, 3 => some false
 | 2, 0 => some true
 | 2, 1 => some false
 | 2, 2 => some true
 | 2, 3 => some false
 | 3, 0 => some true
 | 3, 1 => some false
 | 3, 2 => some false
 | 3, 3 => some true
 | _, _ => none
noncomputable def m__law_parts : MS := (sSeq (sAsg (eOp fAdd (eC (.int 1)) (eOp (fI gMod) (eCB fInt (aCons (eOp fAdd (eOp (fI gMul) (eOp fIxX (eVar 0) (eC (.int 0))) (eC (.int 64))) (eOp fIxX (eVar 0) (eC (.int 1)))) aNil)) (eC (.int 200)))) (gName 2))
 (sSeq (sAsg (eLcV [5] (iRng1 (aCons (eOp (fI gMod) (eCB fInt (aCons (eOp fIxX (eVar 0) (eC (.int 7))) aNil)) (eC (.int 5))) aNil)) (gName 5) tYesM (eOp (fI gMod) (eCB fInt (aCons (eOp fAdd (eOp (fI gMul) (eOp fIxX (eVar 0) (eOp fAdd (eC (.int 2)) (eVar 5))) (eC (.int 64))) (eVar 5)) aNil)) (eVar 2))) (gName 3))
 (sSeq (sAsg (eCB fLstS aNil) (gName 4))
 (sSeq (sFor (iRng1 (aCons (eOp (fI gMod) (eCB fInt (aCons (eOp fIxX (eVar 0) (eC (.int 15))) aNil)) (eC (.int 7))) aNil)) (gName 5)
 (sExpr (eMtT isL fAppend (eVar 4) (aCons (eCB fTup (aCons (eOp (fI gMod) (eCB fInt (aCons (eOp fIxX (eVar 0) (eOp fAdd (eC (.int 8)) (eVar 5))) aNil)) (eVar 2)) (aCons (eOp fIxX (eVar 1) (eOp (fI gMod) (eCB fInt (aCons (eVar 5) aNil)) (eC (.int 3)))) (aCons (eOp (fI gMod) (eCB fInt (aCons (eOp fIxX (eVar 0) (eOp fAdd (eC (.int 9)) (eVar 5))) aNil)) (eVar 2)) aNil)))) aNil))))
 (sRet (eCB fTup (aCons (eVar 2) (aCons (eVar 3) (aCons (eFz (eVar 4)) aNil)))))))))
noncomputable def f__law_parts : List U → Sto → R U := runF 6 m__law_parts
noncomputable def m__law_large : MS := (sSeq (sAsg (eCB fLstS aNil) (gName 2))
 (sSeq (sFor (iRng1 (aCons (eC (.int 200)) aNil)) (gName 3)
 (sFor (iVal (eVar 1)) (gName 5)
 (sExpr (eMtT isL fAppend (eVar 2) (aCons (eCB fTup (aCons (eVar 3) (aCons (eVar 5) (aCons (eOp (fI gMod) (eCB fInt (aCons (eOp fAdd (eOp (fI gMul) (eVar 3) (eC (.int 3))) (eOp fIxX (eVar 0) (eC (.int 0)))) aNil)) (eC (.int 200))) aNil)))) aNil)))))
 (sSeq (sAsg (eOp (fI gMul) (eCB fInt (aCons (eOp fIxX (eVar 0) (eC (.int 1))) aNil)) (eC (.int 9))) (gName 4))
 (sRet (eOp fAdd (eOp fAdd (eSl fSl (eVar 2) (oSome (eVar 4)) oNone) (eSl fSl (eVar 2) oNone (oSome (eVar 4)))) (eSl fSl (eVar 2) oNone (oSome (eOp (fI gMod) (eCB fInt (aCons (eOp fIxX (eVar 0) (eC (.int 2))) aNil)) (eC (.int 4))))))))))
noncomputable def f__law_large : List U → Sto → R U := runF 6 m__law_large
noncomputable def m__law_put_in : MS := (sSeq (sAsg (eOp (fI gMod) (eCB fInt (aCons (eVar 2) aNil)) (eOp fAdd (eCB fLen (aCons (eVar 0) aNil)) (eC (.int 1)))) (gName 3))
 (sRet (eOp fAdd (eOp fAdd (eSl fSl (eVar 0) oNone (oSome (eVar 3))) (eCB fLstV (aCons (eVar 1) aNil))) (eSl fSl (eVar 0) (oSome (eVar 3)) oNone))))
noncomputable def f__law_put_in : List U → Sto → R U := runF 4 m__law_put_in
noncomputable def m__law_bad_ask : MS := (sSeq (sIf (tB (eOp fEq (eOp (fI gMod) (eCB fInt (aCons (eOp fIxX (eVar 0) (eC (.int 0))) aNil)) (eC (.int 4))) (eC (.int 0))))
 (sRet (eC (.str "")))
 sNext)
 (sSeq (sIf (tB (eOp fEq (eOp (fI gMod) (eCB fInt (aCons (eOp fIxX (eVar 0) (eC (.int 0))) aNil)) (eC (.int 4))) (eC (.int 1))))
 (sRet (eSl fSl (eOp fMulT (eVar 1) (eC (.int 9))) oNone (oSome (eC (.int 9)))))
 sNext)
 (sSeq (sAsg (eC (.str "ABCDEFGHIJKLMNOPQRSTUVWXYZ0123456789 !#&'()*+,-./:;<=>?\x40[]^_|~")) (gName 2))
 (sSeq (sAsg (eOp (fI gMod) (eCB fInt (aCons (eOp fIxX (eVar 0) (eC (.int 1))) aNil)) (eCB fLen (aCons (eVar 1) aNil))) (gName 3))
 (sRet (eOp fAdd (eOp fAdd (eSl fSl (eVar 1) oNone (oSome (eVar 3))) (eOp fIxX (eVar 2) (eOp (fI gMod) (eCB fInt (aCons (eOp fIxX (eVar 0) (eC (.int 2))) aNil)) (eCB fLen (aCons (eVar 2) aNil))))) (eSl fSl (eVar 1) (oSome (eOp fAdd (eVar 3) (eC (.int 1)))) oNone)))))))
noncomputable def f__law_bad_ask : List U → Sto → R U := runF 4 m__law_bad_ask
noncomputable def m__law_bad_step : MS := (sSeq (sAsg (eOp (fI gMod) (eCB fInt (aCons (eOp fIxX (eVar 0) (eC (.int 0))) aNil)) (eVar 1)) (gName 3))
 (sSeq (sAsg (eOp fIxX (eCB fLstV (aCons (eUn fNeg (eC (.int 1))) (aCons (eVar 1) (aCons (eOp fAdd (eVar 1) (eCB fInt (aCons (eOp fIxX (eVar 0) (eC (.int 1))) aNil))) (aCons (eOp (fI gSub) (eUn fNeg (eC (.int 1))) (eCB fInt (aCons (eOp fIxX (eVar 0) (eC (.int 1))) aNil))) aNil))))) (eOp (fI gMod) (eCB fInt (aCons (eOp fIxX (eVar 0) (eC (.int 2))) aNil)) (eC (.int 4)))) (gName 4))
 (sSeq (sIf (tB (eOp fEq (eOp (fI gMod) (eCB fInt (aCons (eOp fIxX (eVar 0) (eC (.int 3))) aNil)) (eC (.int 3))) (eC (.int 0))))
 (sRet (eCB fTup (aCons (eVar 4) (aCons (eVar 2) (aCons (eVar 3) aNil)))))
 sNext)
 (sSeq (sIf (tB (eOp fEq (eOp (fI gMod) (eCB fInt (aCons (eOp fIxX (eVar 0) (eC (.int 3))) aNil)) (eC (.int 3))) (eC (.int 1))))
 (sRet (eCB fTup (aCons (eVar 3) (aCons (eVar 2) (aCons (eVar 4) aNil)))))
 sNext)
 (sRet (eCB fTup (aCons (eVar 3) (aCons (eCall 2 f__law_bad_ask [] (aCons (eSl fSl (eVar 0) (oSome (eC (.int 4))) oNone) (aCons (eVar 2) aNil))) (aCons (eVar 3) aNil)))))))))
noncomputable def f__law_bad_step : List U → Sto → R U := runF 5 m__law_bad_step
noncomputable def m__law_due_7 : MS := (sSeq (sIf (tB (eOp (fInX false) (eC (.int 1)) (eVar 0)))
 (sRet (eCB fTup (aCons (eC (.str "machine")) (aCons (eC (.bl true)) (aCons (eC (.str "size")) aNil)))))
 sNext)
 (sSeq (sIf (tB (eOp (fInX false) (eC (.int 2)) (eVar 0)))
 (sRet (eCB fTup (aCons (eC (.str "large")) (aCons (eC (.bl true)) (aCons (eVar 1) aNil)))))
 sNext)
 (sSeq (sIf (tB (eOp (fInX false) (eC (.int 3)) (eVar 0)))
 (sRet (eCB fTup (aCons (eC (.str "machine")) (aCons (eC (.bl true)) (aCons (eC (.str "mark")) aNil)))))
 sNext)
 (sSeq (sIf (tB (eOp (fInX false) (eC (.int 4)) (eVar 0)))
 (sRet (eCB fTup (aCons (eC (.str "machine")) (aCons (eC (.bl true)) (aCons (eC (.str "step")) aNil)))))
 sNext)
 (sSeq (sIf (tB (eOp (fInX false) (eC (.int 5)) (eVar 0)))
 (sRet (eCB fTup (aCons (eC (.str "large")) (aCons (eC (.bl true)) (aCons (eC (.int 601)) aNil)))))
 sNext)
 (sSeq (sIf (tB (eOp (fInX false) (eC (.int 6)) (eVar 0)))
 (sRet (eCB fTup (aCons (eC (.str "state")) (aCons (eC (.bl true)) (aCons (eVar 2) aNil)))))
 sNext)
 (sRet (eCB fTup (aCons (eC (.str "built")) (aCons (eC (.bl true)) (aCons (eVar 1) aNil)))))))))))
noncomputable def f__law_due_7 : List U → Sto → R U := runF 3 m__law_due_7
noncomputable def m__law_kinds : MS := (sSeq (sAsg (eCB fLstV (aCons (eCB (fIsE exT_k14) (aCons (eVar 0) (aCons (eC (.cls 1)) aNil))) (aCons (eCB (fIsE exT_k14) (aCons (eVar 0) (aCons (eC (.cls 3)) aNil))) (aCons (eCB (fIsE exT_k14) (aCons (eVar 0) (aCons (eC (.cls 2)) aNil))) aNil)))) (gName 1))
 (sRet (eAnd (eCB (fIsE exT_k14) (aCons (eVar 0) (aCons (eC (.cls 0)) aNil))) (eAnd (eCB (fIsE exT_k14) (aCons (eVar 0) (aCons (eC (.ty "ValueError")) aNil))) (eOp fEq (eCB fSum (aCons (eLcV [2] (iLst (eVar 1)) (gName 2) tYesM (eCB fInt (aCons (eVar 2) aNil))) aNil)) (eC (.int 1)))))))
noncomputable def f__law_kinds : List U → Sto → R U := runF 3 m__law_kinds
noncomputable def m__law_made_4 : MS := (sSeq (sTry exT_k14 (sSeq (sAsg (eMk 13 5 f_Serviceu_initu [U.v (.int (0))] (aCons (eC (.int 1)) (aCons (eCB fLstV aNil) (aCons (eCB fLstV aNil) aNil)))) (gName 6))
 (sIf (tB (eOp fEq (eVar 0) (eC (.int 0))))
 (sAsg (eMk 13 5 f_Serviceu_initu [] (aCons (eVar 1) (aCons (eVar 2) (aCons (eVar 3) (aCons (eVar 4) aNil))))) (gName 6))
 (sAsg (eMk 14 5 f_Patternu_initu [] (aCons (eVar 1) (aCons (eVar 2) (aCons (eVar 3) (aCons (eVar 4) aNil))))) (gName 6))))
 [⟨1, (some 5), (sRet (eCB fTup (aCons (eC (.str "machine")) (aCons (eCallL 1 f__law_kinds (aCons (eVar 5) aNil)) (aCons (eUn (fXf [1] "part") (eVar 5)) aNil)))))⟩, ⟨3, (some 5), (sRet (eCB fTup (aCons (eC (.str "large")) (aCons (eAnd (eCallL 1 f__law_kinds (aCons (eVar 5) aNil)) (eCallL 1 f__law_whole (aCons (eUn (fXf [3] "size") (eVar 5)) aNil))) (aCons (eUn (fXf [3] "size") (eVar 5)) aNil)))))⟩, ⟨2, (some 5), (sRet (eCB fTup (aCons (eC (.str "state")) (aCons (eAnd (eCallL 1 f__law_kinds (aCons (eVar 5) aNil)) (eCallL 1 f__law_whole (aCons (eUn (fXf [2] "state") (eVar 5)) aNil))) (aCons (eUn (fXf [2] "state") (eVar 5)) aNil)))))⟩])
 (sRet (eCB fTup (aCons (eC (.str "built")) (aCons (eCB (fIsX isT_Machine) (aCons (eVar 6) (aCons (eC (.cls 12)) aNil))) (aCons (eUn (fFld [12, 13, 14, 17, 18] "size") (eVar 6)) aNil))))))
noncomputable def f__law_made_4 : List U → Sto → R U := runF 7 m__law_made_4
noncomputable def m_law_37 : MS := (sSeq (sAsg (eCall 3 f__law_draws [] (aCons (eVar 0) (aCons (eC (.int 0)) (aCons (eC (.int 24)) aNil)))) (gName 1))
 (sSeq (sAsg (eCall 2 f__law_asks [] (aCons (eCall 3 f__law_draws [] (aCons (eVar 0) (aCons (eC (.int 1)) (aCons (eC (.int 13)) aNil)))) (aCons (eC (.int 3)) aNil))) (gName 2))
 (sSeq (sAsg (eCall 2 f__law_parts [] (aCons (eVar 1) (aCons (eVar 2) aNil))) (gTup 3 (gCons (gName 7) (gCons (gName 8) (gCons (gName 9) gNil)))))
 (sSeq (sAsg (eCB fLstV (aCons (eC (.int 0)) (aCons (eC (.int 1)) (aCons (eC (.int 2)) (aCons (eC (.int 3)) (aCons (eC (.int 4)) (aCons (eC (.int 6)) (aCons (eC (.int 0)) aNil)))))))) (gName 3))
 (sSeq (sAsg (eCB fLstV (aCons (eOp fIxX (eVar 3) (eOp (fI gMod) (eCB fInt (aCons (eOp fIxX (eVar 1) (eC (.int 16))) aNil)) (eC (.int 7)))) (aCons (eOp fIxX (eVar 3) (eOp (fI gMod) (eCB fInt (aCons (eOp fIxX (eVar 1) (eC (.int 17))) aNil)) (eC (.int 7)))) aNil))) (gName 4))
 (sSeq (sIf (tB (eOp fEq (eOp (fI gMod) (eCB fInt (aCons (eOp fIxX (eVar 1) (eC (.int 18))) aNil)) (eC (.int 8))) (eC (.int 0))))
 (sSeq (sAsg (eC (.int 200)) (gName 7))
 (sSeq (sAsg (eCall 2 f__law_large [] (aCons (eVar 1) (aCons (eVar 2) aNil))) (gName 9))
 (sAsg (eCB fLstV (aCons (eOp fIxX (eCB fLstV (aCons (eC (.int 0)) (aCons (eC (.int 5)) (aCons (eC (.int 4)) (aCons (eC (.int 6)) aNil))))) (eOp (fI gMod) (eCB fInt (aCons (eOp fIxX (eVar 1) (eC (.int 16))) aNil)) (eC (.int 4)))) (aCons (eOp fIxX (eCB fLstV (aCons (eC (.int 0)) (aCons (eC (.int 5)) (aCons (eC (.int 6)) (aCons (eC (.int 0)) aNil))))) (eOp (fI gMod) (eCB fInt (aCons (eOp fIxX (eVar 1) (eC (.int 17))) aNil)) (eC (.int 4)))) aNil))) (gName 4))))
 sNext)
 (sSeq (sAsg (eOp (fI gMod) (eCB fInt (aCons (eOp fAdd (eOp (fI gMul) (eOp fIxX (eVar 1) (eC (.int 19))) (eC (.int 64))) (eOp fIxX (eVar 1) (eC (.int 20)))) aNil)) (eVar 7)) (gName 5))
 (sSeq (sIf (tB (eOp (fInX false) (eC (.int 3)) (eVar 4)))
 (sAsg (eCall 3 f__law_put_in [] (aCons (eVar 8) (aCons (eOp fIxX (eCB fLstV (aCons (eUn fNeg (eC (.int 1))) (aCons (eVar 7) (aCons (eOp fAdd (eVar 7) (eCB fInt (aCons (eOp fIxX (eVar 1) (eC (.int 21))) aNil))) aNil)))) (eOp (fI gMod) (eCB fInt (aCons (eOp fIxX (eVar 1) (eC (.int 22))) aNil)) (eC (.int 3)))) (aCons (eOp fIxX (eVar 1) (eC (.int 23))) aNil)))) (gName 8))
 sNext)
 (sSeq (sIf (tB (eOp (fInX false) (eC (.int 5)) (eVar 4)))
 (sAsg (eCall 3 f__law_put_in [] (aCons (eVar 9) (aCons (eCB fTup (aCons (eC (.int 7)) (aCons (eOp fIxX (eVar 2) (eC (.int 0))) (aCons (eOp (fI gMod) (eCB fInt (aCons (eOp fAdd (eC (.int 22)) (eOp fIxX (eVar 1) (eC (.int 0)))) aNil)) (eC (.int 200))) aNil)))) (aCons (eOp fIxX (eVar 1) (eC (.int 21))) aNil)))) (gName 9))
 sNext)
 (sSeq (sIf (tB (eOp (fInX false) (eC (.int 4)) (eVar 4)))
 (sAsg (eCall 3 f__law_put_in [] (aCons (eVar 9) (aCons (eCall 3 f__law_bad_step [] (aCons (eCall 3 f__law_draws [] (aCons (eVar 0) (aCons (eC (.int 2)) (aCons (eC (.int 8)) aNil)))) (aCons (eVar 7) (aCons (eOp fIxX (eVar 2) (eC (.int 0))) aNil)))) (aCons (eOp fIxX (eVar 1) (eC (.int 22))) aNil)))) (gName 9))
 sNext)
 (sSeq (sIf (tB (eOp (fInX false) (eC (.int 6)) (eVar 4)))
 (sAsg (eOp fIxX (eCB fLstV (aCons (eUn fNeg (eC (.int 1))) (aCons (eVar 7) (aCons (eOp fAdd (eVar 7) (eCB fInt (aCons (eOp fIxX (eVar 1) (eC (.int 21))) aNil))) aNil)))) (eOp (fI gMod) (eCB fInt (aCons (eOp fIxX (eVar 1) (eC (.int 23))) aNil)) (eC (.int 3)))) (gName 5))
 sNext)
 (sSeq (sIf (tB (eOp (fInX false) (eC (.int 2)) (eVar 4)))
 (sAsg (eOp fAdd (eC (.int 201)) (eCB fInt (aCons (eOp fAdd (eOp (fI gMul) (eOp fIxX (eVar 1) (eC (.int 10))) (eC (.int 64))) (eOp fIxX (eVar 1) (eC (.int 11)))) aNil))) (gName 7))
 sNext)
 (sSeq (sIf (tB (eOp (fInX false) (eC (.int 1)) (eVar 4)))
 (sAsg (eUn fNeg (eOp (fI gMod) (eCB fInt (aCons (eOp fIxX (eVar 1) (eC (.int 10))) aNil)) (eC (.int 3)))) (gName 7))
 sNext)
 (sSeq (sAsg (eCall 3 f__law_due_7 [] (aCons (eVar 4) (aCons (eVar 7) (aCons (eVar 5) aNil)))) (gName 6))
 (sRet (eAnd (eOp fEqB (eCall 5 f__law_made_4 [] (aCons (eC (.int 0)) (aCons (eVar 7) (aCons (eVar 8) (aCons (eVar 9) (aCons (eVar 5) aNil)))))) (eVar 6)) (eOp fEqB (eCall 5 f__law_made_4 [] (aCons (eC (.int 1)) (aCons (eVar 7) (aCons (eVar 8) (aCons (eVar 9) (aCons (eVar 5) aNil)))))) (eVar 6))))))))))))))))))
noncomputable def f_law_37 : List U → Sto → R U := runF 10 m_law_37
end Mi
namespace K14
open PySem L2 Pu Mi
open PyProof.Rows hiding St
theorem DD_Serviceu_initu {cl : Nat → Addr} : Dfl cl ([.int (0)] : List V) dd_Serviceu_initu := fun _ _ _ _ => .cons (.int _) (.nil)
theorem q6j : FnScope ["_law_script", "_law_k"] ["_law_script", "_law_k"] (defScope q17) := ⟨rfl, rfl, rfl, by decide +kernel, rfl, by decide +kernel, by decide +kernel⟩
theorem q48 : Vis (defScope q17) "_law_k" := by unfold Vis; decide +kernel
theorem q49 : Vis (defScope q17) "_law_script" := by unfold Vis; decide +kernel
theorem q6k : (defScope q17).names.lookup ("len" : Str) = some .globalImplicit := by decide +kernel
theorem q1i : FnScope ["_law_script", "_law_k", "_law_many", "_law_cell_here", "_law_row", "_law_seed", "_law_turn", "_law_rest"] ["_law_script", "_law_k", "_law_many"] (defScope qk) := ⟨rfl, rfl, rfl, by decide +kernel, rfl, by decide +kernel, by decide +kernel⟩
theorem q6l : Vis (defScope qk) "_law_script" := by unfold Vis; decide +kernel
theorem q4a : Vis (defScope qk) "_law_k" := by unfold Vis; decide +kernel
theorem q3a : Vis (defScope qk) "_law_cell_here" := by unfold Vis; decide +kernel
theorem q4b : Vis (defScope qk) "_law_many" := by unfold Vis; decide +kernel
theorem q2v : Vis (defScope qk) "_law_row" := by unfold Vis; decide +kernel
theorem q4c : Vis (defScope qk) "_law_rest" := by unfold Vis; decide +kernel
theorem q4d : Vis (defScope qk) "_law_seed" := by unfold Vis; decide +kernel
theorem q6m : Vis (defScope qk) "_law_turn" := by unfold Vis; decide +kernel
theorem q6n : L2.Loc (defScope qk) "_law_cell_here" := by unfold L2.Loc; decide +kernel
theorem q6o : L2.Loc (defScope qk) "_law_row" := by unfold L2.Loc; decide +kernel
theorem q4e : L2.Loc (defScope qk) "_law_rest" := by unfold L2.Loc; decide +kernel
theorem q4f : L2.Loc (defScope qk) "_law_turn" := by unfold L2.Loc; decide +kernel
theorem q4g : L2.Loc (defScope qk) "_law_seed" := by unfold L2.Loc; decide +kernel
theorem q6p : (defScope qk).names.lookup ("_law_cell" : Str) = some .globalImplicit := by decide +kernel
theorem q4h : (defScope qk).names.lookup ("range" : Str) = some .globalImplicit := by decide +kernel
theorem q2w : (defScope qk).names.lookup ("int" : Str) = some .globalImplicit := by decide +kernel
theorem q1a : FnScope ["_law_row", "_law_many", "_law_letters", "_law_word", "_law_asks_here", "_law_at", "_law_size", "_law_place", "_law_jump", "_law_letter", "_law_digit"] ["_law_row", "_law_many"] (defScope qd) := ⟨rfl, rfl, rfl, by decide +kernel, rfl, by decide +kernel, by decide +kernel⟩
theorem q1o : Vis (defScope qd) "_law_row" := by unfold Vis; decide +kernel
theorem q6q : Vis (defScope qd) "_law_many" := by unfold Vis; decide +kernel
theorem q4i : Vis (defScope qd) "_law_at" := by unfold Vis; decide +kernel
theorem q3b : Vis (defScope qd) "_law_asks_here" := by unfold Vis; decide +kernel
theorem q3c : Vis (defScope qd) "_law_word" := by unfold Vis; decide +kernel
theorem q3d : Vis (defScope qd) "_law_size" := by unfold Vis; decide +kernel
theorem q6r : Vis (defScope qd) "_law_letters" := by unfold Vis; decide +kernel
theorem q6s : Vis (defScope qd) "_law_jump" := by unfold Vis; decide +kernel
theorem q4j : Vis (defScope qd) "_law_place" := by unfold Vis; decide +kernel
theorem q6t : Vis (defScope qd) "_law_letter" := by unfold Vis; decide +kernel
theorem q6u : L2.Loc (defScope qd) "_law_letters" := by unfold L2.Loc; decide +kernel
theorem q6v : L2.Loc (defScope qd) "_law_word" := by unfold L2.Loc; decide +kernel
theorem q6w : L2.Loc (defScope qd) "_law_asks_here" := by unfold L2.Loc; decide +kernel
theorem q6x : L2.Loc (defScope qd) "_law_at" := by unfold L2.Loc; decide +kernel
theorem q4k : L2.Loc (defScope qd) "_law_size" := by unfold L2.Loc; decide +kernel
theorem q6y : L2.Loc (defScope qd) "_law_place" := by unfold L2.Loc; decide +kernel
theorem q6z : L2.Loc (defScope qd) "_law_jump" := by unfold L2.Loc; decide +kernel
theorem q70 : L2.Loc (defScope qd) "_law_letter" := by unfold L2.Loc; decide +kernel
theorem q71 : (defScope qd).names.lookup ("range" : Str) = some .globalImplicit := by decide +kernel
theorem q1t : (defScope qd).names.lookup ("int" : Str) = some .globalImplicit := by decide +kernel
theorem q1u : FnScope ["_law_row", "_law_asks_here", "_law_size", "_law_marks", "_law_steps", "_law_at"] ["_law_row", "_law_asks_here"] (defScope qp) := ⟨rfl, rfl, rfl, by decide +kernel, rfl, by decide +kernel, by decide +kernel⟩
theorem q1v : Vis (defScope qp) "_law_row" := by unfold Vis; decide +kernel
theorem q4l : Vis (defScope qp) "_law_steps" := by unfold Vis; decide +kernel
theorem q3e : Vis (defScope qp) "_law_at" := by unfold Vis; decide +kernel
theorem q3f : Vis (defScope qp) "_law_size" := by unfold Vis; decide +kernel
theorem q72 : Vis (defScope qp) "_law_asks_here" := by unfold Vis; decide +kernel
theorem q73 : Vis (defScope qp) "_law_marks" := by unfold Vis; decide +kernel
theorem q74 : L2.Loc (defScope qp) "_law_size" := by unfold L2.Loc; decide +kernel
theorem q75 : L2.Loc (defScope qp) "_law_steps" := by unfold L2.Loc; decide +kernel
theorem q76 : L2.Loc (defScope qp) "_law_at" := by unfold L2.Loc; decide +kernel
theorem q1w : (defScope qp).names.lookup ("int" : Str) = some .globalImplicit := by decide +kernel
theorem q4m : (defScope qp).names.lookup ("range" : Str) = some .globalImplicit := by decide +kernel
theorem q2n : FnScope ["_law_row", "_law_asks_here", "_law_steps", "_law_state", "_law_shift", "_law_ask"] ["_law_row", "_law_asks_here"] (defScope qu) := ⟨rfl, rfl, rfl, by decide +kernel, rfl, by decide +kernel, by decide +kernel⟩
theorem q77 : Vis (defScope qu) "_law_asks_here" := by unfold Vis; decide +kernel
theorem q2x : Vis (defScope qu) "_law_steps" := by unfold Vis; decide +kernel
theorem q4n : Vis (defScope qu) "_law_state" := by unfold Vis; decide +kernel
theorem q78 : Vis (defScope qu) "_law_ask" := by unfold Vis; decide +kernel
theorem q3g : Vis (defScope qu) "_law_row" := by unfold Vis; decide +kernel
theorem q4o : Vis (defScope qu) "_law_shift" := by unfold Vis; decide +kernel
theorem q79 : L2.Loc (defScope qu) "_law_steps" := by unfold L2.Loc; decide +kernel
theorem q7a : L2.Loc (defScope qu) "_law_state" := by unfold L2.Loc; decide +kernel
theorem q7b : L2.Loc (defScope qu) "_law_ask" := by unfold L2.Loc; decide +kernel
theorem q7c : L2.Loc (defScope qu) "_law_shift" := by unfold L2.Loc; decide +kernel
theorem q7d : (defScope qu).names.lookup ("range" : Str) = some .globalImplicit := by decide +kernel
theorem q3h : (defScope qu).names.lookup ("int" : Str) = some .globalImplicit := by decide +kernel
theorem q4p : FnScope ["_law_rows", "_law_thing", "_law_digit", "_law_at"] ["_law_rows", "_law_thing", "_law_digit"] (defScope q14) := ⟨rfl, rfl, rfl, by decide +kernel, rfl, by decide +kernel, by decide +kernel⟩
theorem q7e : Vis (defScope q14) "_law_digit" := by unfold Vis; decide +kernel
theorem q3i : Vis (defScope q14) "_law_rows" := by unfold Vis; decide +kernel
theorem q4q : Vis (defScope q14) "_law_at" := by unfold Vis; decide +kernel
theorem q7f : Vis (defScope q14) "_law_thing" := by unfold Vis; decide +kernel
theorem q7g : L2.Loc (defScope q14) "_law_at" := by unfold L2.Loc; decide +kernel
theorem q7h : (defScope q14).names.lookup ("int" : Str) = some .globalImplicit := by decide +kernel
theorem q7i : (defScope q14).names.lookup ("len" : Str) = some .globalImplicit := by decide +kernel
theorem q3j : FnScope ["_law_row", "_law_ask", "_law_signs", "_law_at"] ["_law_row", "_law_ask"] (defScope q13) := ⟨rfl, rfl, rfl, by decide +kernel, rfl, by decide +kernel, by decide +kernel⟩
theorem q2y : Vis (defScope q13) "_law_row" := by unfold Vis; decide +kernel
theorem q2z : Vis (defScope q13) "_law_ask" := by unfold Vis; decide +kernel
theorem q4r : Vis (defScope q13) "_law_at" := by unfold Vis; decide +kernel
theorem q4s : Vis (defScope q13) "_law_signs" := by unfold Vis; decide +kernel
theorem q7j : L2.Loc (defScope q13) "_law_signs" := by unfold L2.Loc; decide +kernel
theorem q7k : L2.Loc (defScope q13) "_law_at" := by unfold L2.Loc; decide +kernel
theorem q30 : (defScope q13).names.lookup ("int" : Str) = some .globalImplicit := by decide +kernel
theorem q4t : (defScope q13).names.lookup ("len" : Str) = some .globalImplicit := by decide +kernel
theorem q3k : FnScope ["_law_row", "_law_size", "_law_ask", "_law_low", "_law_wrong"] ["_law_row", "_law_size", "_law_ask"] (defScope q10) := ⟨rfl, rfl, rfl, by decide +kernel, rfl, by decide +kernel, by decide +kernel⟩
theorem q1p : Vis (defScope q10) "_law_row" := by unfold Vis; decide +kernel
theorem q3l : Vis (defScope q10) "_law_size" := by unfold Vis; decide +kernel
theorem q4u : Vis (defScope q10) "_law_wrong" := by unfold Vis; decide +kernel
theorem q3m : Vis (defScope q10) "_law_ask" := by unfold Vis; decide +kernel
theorem q31 : Vis (defScope q10) "_law_low" := by unfold Vis; decide +kernel
theorem q7l : L2.Loc (defScope q10) "_law_low" := by unfold L2.Loc; decide +kernel
theorem q7m : L2.Loc (defScope q10) "_law_wrong" := by unfold L2.Loc; decide +kernel
theorem q1x : (defScope q10).names.lookup ("int" : Str) = some .globalImplicit := by decide +kernel
theorem q7n : (defScope q10).names.lookup ("_law_bad_ask" : Str) = some .globalImplicit := by decide +kernel
theorem q7o : FnScope ["_law_faults", "_law_size", "_law_here"] ["_law_faults", "_law_size", "_law_here"] (defScope q18) := ⟨rfl, rfl, rfl, by decide +kernel, rfl, by decide +kernel, by decide +kernel⟩
theorem q1y : Vis (defScope q18) "_law_faults" := by unfold Vis; decide +kernel
theorem q4v : Vis (defScope q18) "_law_size" := by unfold Vis; decide +kernel
theorem q7p : Vis (defScope q18) "_law_here" := by unfold Vis; decide +kernel
theorem q7q : SupScope ["self", "part"] (defScope q1b) := ⟨rfl, rfl, rfl, by decide +kernel, by decide +kernel, by decide +kernel, by decide +kernel, by decide +kernel, by decide +kernel⟩
theorem q7r : SupScope ["self", "size"] (defScope q1c) := ⟨rfl, rfl, rfl, by decide +kernel, by decide +kernel, by decide +kernel, by decide +kernel, by decide +kernel, by decide +kernel⟩
theorem q3n : FnScope ["ask", "sign"] ["ask"] (defScope q16) := ⟨rfl, rfl, rfl, by decide +kernel, rfl, by decide +kernel, by decide +kernel⟩
theorem q3o : Vis (defScope q16) "ask" := by unfold Vis; decide +kernel
theorem q4w : (defScope q16).names.lookup ("len" : Str) = some .globalImplicit := by decide +kernel
theorem q7s : (defScope q16).names.lookup ("MOST_SIGNS" : Str) = some .globalImplicit := by decide +kernel
theorem q7t : (defScope q16).names.lookup ("all" : Str) = some .globalImplicit := by decide +kernel
theorem q2o : FnScope ["size", "marks", "steps", "mark", "state", "ask", "end"] ["size", "marks", "steps"] (defScope qo) := ⟨rfl, rfl, rfl, by decide +kernel, rfl, by decide +kernel, by decide +kernel⟩
theorem q1z : Vis (defScope qo) "size" := by unfold Vis; decide +kernel
theorem q7u : Vis (defScope qo) "marks" := by unfold Vis; decide +kernel
theorem q4x : Vis (defScope qo) "mark" := by unfold Vis; decide +kernel
theorem q7v : Vis (defScope qo) "steps" := by unfold Vis; decide +kernel
theorem q4y : Vis (defScope qo) "state" := by unfold Vis; decide +kernel
theorem q4z : Vis (defScope qo) "end" := by unfold Vis; decide +kernel
theorem q7w : Vis (defScope qo) "ask" := by unfold Vis; decide +kernel
theorem q7x : L2.Loc (defScope qo) "mark" := by unfold L2.Loc; decide +kernel
theorem q7y : L2.Loc (defScope qo) "state" := by unfold L2.Loc; decide +kernel
theorem q7z : L2.Loc (defScope qo) "ask" := by unfold L2.Loc; decide +kernel
theorem q80 : L2.Loc (defScope qo) "end" := by unfold L2.Loc; decide +kernel
theorem q3p : (defScope qo).names.lookup ("BadMachine" : Str) = some .globalImplicit := by decide +kernel
theorem q81 : (defScope qo).names.lookup ("MOST_STATES" : Str) = some .globalImplicit := by decide +kernel
theorem q82 : (defScope qo).names.lookup ("TooLarge" : Str) = some .globalImplicit := by decide +kernel
theorem q83 : (defScope qo).names.lookup ("is_ask" : Str) = some .globalImplicit := by decide +kernel
theorem q1l : FnScope ["rows", "ordered", "row", "low", "high", "middle"] ["rows"] (defScope qw) := ⟨rfl, rfl, rfl, by decide +kernel, rfl, by decide +kernel, by decide +kernel⟩
theorem q84 : Vis (defScope qw) "rows" := by unfold Vis; decide +kernel
theorem q20 : Vis (defScope qw) "ordered" := by unfold Vis; decide +kernel
theorem q2p : Vis (defScope qw) "low" := by unfold Vis; decide +kernel
theorem q50 : Vis (defScope qw) "high" := by unfold Vis; decide +kernel
theorem q3q : Vis (defScope qw) "middle" := by unfold Vis; decide +kernel
theorem q3r : Vis (defScope qw) "row" := by unfold Vis; decide +kernel
theorem q85 : L2.Loc (defScope qw) "ordered" := by unfold L2.Loc; decide +kernel
theorem q86 : L2.Loc (defScope qw) "row" := by unfold L2.Loc; decide +kernel
theorem q51 : L2.Loc (defScope qw) "low" := by unfold L2.Loc; decide +kernel
theorem q52 : L2.Loc (defScope qw) "high" := by unfold L2.Loc; decide +kernel
theorem q87 : L2.Loc (defScope qw) "middle" := by unfold L2.Loc; decide +kernel
theorem q53 : (defScope qw).names.lookup ("len" : Str) = some .globalImplicit := by decide +kernel
theorem q88 : SupScope ["self", "state"] (defScope q1d) := ⟨rfl, rfl, rfl, by decide +kernel, by decide +kernel, by decide +kernel, by decide +kernel, by decide +kernel, by decide +kernel⟩
theorem q2q : FnScope ["steps", "found", "state", "ask", "end"] ["steps"] (defScope q11) := ⟨rfl, rfl, rfl, by decide +kernel, rfl, by decide +kernel, by decide +kernel⟩
theorem q89 : Vis (defScope q11) "steps" := by unfold Vis; decide +kernel
theorem q3s : Vis (defScope q11) "found" := by unfold Vis; decide +kernel
theorem q54 : Vis (defScope q11) "state" := by unfold Vis; decide +kernel
theorem q55 : Vis (defScope q11) "ask" := by unfold Vis; decide +kernel
theorem q8a : Vis (defScope q11) "end" := by unfold Vis; decide +kernel
theorem q8b : L2.Loc (defScope q11) "found" := by unfold L2.Loc; decide +kernel
theorem q8c : L2.Loc (defScope q11) "state" := by unfold L2.Loc; decide +kernel
theorem q8d : L2.Loc (defScope q11) "ask" := by unfold L2.Loc; decide +kernel
theorem q8e : L2.Loc (defScope q11) "end" := by unfold L2.Loc; decide +kernel
theorem q21 : FnScope ["self", "size", "marks", "steps", "now", "ordered", "state", "ask", "end"] ["self", "size", "marks", "steps", "now"] (defScope qm) := ⟨rfl, rfl, rfl, by decide +kernel, rfl, by decide +kernel, by decide +kernel⟩
theorem q3t : Vis (defScope qm) "size" := by unfold Vis; decide +kernel
theorem q56 : Vis (defScope qm) "marks" := by unfold Vis; decide +kernel
theorem q57 : Vis (defScope qm) "steps" := by unfold Vis; decide +kernel
theorem q32 : Vis (defScope qm) "ordered" := by unfold Vis; decide +kernel
theorem q33 : Vis (defScope qm) "now" := by unfold Vis; decide +kernel
theorem q2r : Vis (defScope qm) "self" := by unfold Vis; decide +kernel
theorem q8f : L2.Loc (defScope qm) "ordered" := by unfold L2.Loc; decide +kernel
theorem q8g : (defScope qm).names.lookup ("check_parts" : Str) = some .globalImplicit := by decide +kernel
theorem q58 : (defScope qm).names.lookup ("in_order" : Str) = some .globalImplicit := by decide +kernel
theorem q59 : (defScope qm).names.lookup ("len" : Str) = some .globalImplicit := by decide +kernel
theorem q8h : (defScope qm).names.lookup ("MOST_STEPS" : Str) = some .globalImplicit := by decide +kernel
theorem q8i : (defScope qm).names.lookup ("TooLarge" : Str) = some .globalImplicit := by decide +kernel
theorem q8j : (defScope qm).names.lookup ("BadState" : Str) = some .globalImplicit := by decide +kernel
theorem q5a : (defScope qm).names.lookup ("tuple" : Str) = some .globalImplicit := by decide +kernel
theorem q8k : (defScope qm).names.lookup ("ends_by_ask" : Str) = some .globalImplicit := by decide +kernel
theorem q8l : SupScope ["self", "size", "marks", "steps", "now"] (defScope q1e) := ⟨rfl, rfl, rfl, by decide +kernel, by decide +kernel, by decide +kernel, by decide +kernel, by decide +kernel, by decide +kernel⟩
theorem q8m : SupScope ["self", "size", "marks", "steps", "now"] (defScope q1f) := ⟨rfl, rfl, rfl, by decide +kernel, by decide +kernel, by decide +kernel, by decide +kernel, by decide +kernel, by decide +kernel⟩
theorem q1m : FnScope ["_law_e", "_law_kinds_here", "_law_kind"] ["_law_e"] (defScope qj) := ⟨rfl, rfl, rfl, by decide +kernel, rfl, by decide +kernel, by decide +kernel⟩
theorem q1g : Vis (defScope qj) "_law_e" := by unfold Vis; decide +kernel
theorem q5b : Vis (defScope qj) "_law_kinds_here" := by unfold Vis; decide +kernel
theorem q5c : L2.Loc (defScope qj) "_law_kinds_here" := by unfold L2.Loc; decide +kernel
theorem q5d : (defScope qj).names.lookup ("BadMachine" : Str) = some .globalImplicit := by decide +kernel
theorem q1h : (defScope qj).names.lookup ("isinstance" : Str) = some .globalImplicit := by decide +kernel
theorem q5e : (defScope qj).names.lookup ("TooLarge" : Str) = some .globalImplicit := by decide +kernel
theorem q5f : (defScope qj).names.lookup ("BadState" : Str) = some .globalImplicit := by decide +kernel
theorem q5g : (defScope qj).names.lookup ("AsksError" : Str) = some .globalImplicit := by decide +kernel
theorem q5h : (defScope qj).names.lookup ("ValueError" : Str) = some .globalImplicit := by decide +kernel
theorem q5i : (defScope qj).names.lookup ("sum" : Str) = some .globalImplicit := by decide +kernel
theorem q8n : FnScope ["_law_x"] ["_law_x"] (defScope q15) := ⟨rfl, rfl, rfl, by decide +kernel, rfl, by decide +kernel, by decide +kernel⟩
theorem q5j : Vis (defScope q15) "_law_x" := by unfold Vis; decide +kernel
theorem q8o : (defScope q15).names.lookup ("int" : Str) = some .globalImplicit := by decide +kernel
theorem q5k : (defScope q15).names.lookup ("isinstance" : Str) = some .globalImplicit := by decide +kernel
theorem q8p : (defScope q15).names.lookup ("bool" : Str) = some .globalImplicit := by decide +kernel
theorem q2s : FnScope ["_law_choice", "_law_size", "_law_marks", "_law_steps", "_law_here", "_law_e", "_law_machine"] ["_law_choice", "_law_size", "_law_marks", "_law_steps", "_law_here"] (defScope qh) := ⟨rfl, rfl, rfl, by decide +kernel, rfl, by decide +kernel, by decide +kernel⟩
theorem q8q : Vis (defScope qh) "_law_choice" := by unfold Vis; decide +kernel
theorem q5l : Vis (defScope qh) "_law_size" := by unfold Vis; decide +kernel
theorem q5m : Vis (defScope qh) "_law_marks" := by unfold Vis; decide +kernel
theorem q5n : Vis (defScope qh) "_law_steps" := by unfold Vis; decide +kernel
theorem q5o : Vis (defScope qh) "_law_here" := by unfold Vis; decide +kernel
theorem q1n : Vis (defScope qh) "_law_e" := by unfold Vis; decide +kernel
theorem q5p : Vis (defScope qh) "_law_machine" := by unfold Vis; decide +kernel
theorem q3u : L2.Loc (defScope qh) "_law_machine" := by unfold L2.Loc; decide +kernel
theorem q5q : (defScope qh).names.lookup ("Service" : Str) = some .globalImplicit := by decide +kernel
theorem q8r : (defScope qh).names.lookup ("Pattern" : Str) = some .globalImplicit := by decide +kernel
theorem q3v : (defScope qh).names.lookup ("_law_kinds" : Str) = some .globalImplicit := by decide +kernel
theorem q8s : (defScope qh).names.lookup ("BadMachine" : Str) = some .globalImplicit := by decide +kernel
theorem q5r : (defScope qh).names.lookup ("_law_whole" : Str) = some .globalImplicit := by decide +kernel
theorem q8t : (defScope qh).names.lookup ("TooLarge" : Str) = some .globalImplicit := by decide +kernel
theorem q8u : (defScope qh).names.lookup ("BadState" : Str) = some .globalImplicit := by decide +kernel
theorem q8v : (defScope qh).names.lookup ("Machine" : Str) = some .globalImplicit := by decide +kernel
theorem q8w : (defScope qh).names.lookup ("isinstance" : Str) = some .globalImplicit := by decide +kernel
theorem q12 : FnScope ["_law_script", "_law_row", "_law_asks_here", "_law_codes", "_law_faults", "_law_here", "_law_due_here", "_law_size", "_law_marks", "_law_steps"] ["_law_script"] (defScope q7) := ⟨rfl, rfl, rfl, by decide +kernel, rfl, by decide +kernel, by decide +kernel⟩
theorem q3w : Vis (defScope q7) "_law_script" := by unfold Vis; decide +kernel
theorem qy : Vis (defScope q7) "_law_row" := by unfold Vis; decide +kernel
theorem q34 : Vis (defScope q7) "_law_asks_here" := by unfold Vis; decide +kernel
theorem q5s : Vis (defScope q7) "_law_codes" := by unfold Vis; decide +kernel
theorem q1j : Vis (defScope q7) "_law_size" := by unfold Vis; decide +kernel
theorem q1q : Vis (defScope q7) "_law_faults" := by unfold Vis; decide +kernel
theorem q3x : Vis (defScope q7) "_law_marks" := by unfold Vis; decide +kernel
theorem q35 : Vis (defScope q7) "_law_steps" := by unfold Vis; decide +kernel
theorem q3y : Vis (defScope q7) "_law_here" := by unfold Vis; decide +kernel
theorem q5t : Vis (defScope q7) "_law_due_here" := by unfold Vis; decide +kernel
theorem q8x : L2.Loc (defScope q7) "_law_row" := by unfold L2.Loc; decide +kernel
theorem q8y : L2.Loc (defScope q7) "_law_asks_here" := by unfold L2.Loc; decide +kernel
theorem q36 : L2.Loc (defScope q7) "_law_size" := by unfold L2.Loc; decide +kernel
theorem q5u : L2.Loc (defScope q7) "_law_marks" := by unfold L2.Loc; decide +kernel
theorem q37 : L2.Loc (defScope q7) "_law_steps" := by unfold L2.Loc; decide +kernel
theorem q8z : L2.Loc (defScope q7) "_law_codes" := by unfold L2.Loc; decide +kernel
theorem q5v : L2.Loc (defScope q7) "_law_faults" := by unfold L2.Loc; decide +kernel
theorem q5w : L2.Loc (defScope q7) "_law_here" := by unfold L2.Loc; decide +kernel
theorem q90 : L2.Loc (defScope q7) "_law_due_here" := by unfold L2.Loc; decide +kernel
theorem q3z : (defScope q7).names.lookup ("_law_draws" : Str) = some .globalImplicit := by decide +kernel
theorem q91 : (defScope q7).names.lookup ("_law_asks" : Str) = some .globalImplicit := by decide +kernel
theorem q92 : (defScope q7).names.lookup ("_law_parts" : Str) = some .globalImplicit := by decide +kernel
theorem q19 : (defScope q7).names.lookup ("int" : Str) = some .globalImplicit := by decide +kernel
theorem q93 : (defScope q7).names.lookup ("_law_large" : Str) = some .globalImplicit := by decide +kernel
theorem q40 : (defScope q7).names.lookup ("_law_put_in" : Str) = some .globalImplicit := by decide +kernel
theorem q94 : (defScope q7).names.lookup ("_law_bad_step" : Str) = some .globalImplicit := by decide +kernel
theorem q95 : (defScope q7).names.lookup ("_law_due" : Str) = some .globalImplicit := by decide +kernel
theorem q5x : (defScope q7).names.lookup ("_law_made" : Str) = some .globalImplicit := by decide +kernel
structure Facts (K : PySem.W.Frag) (mg : Str → Option Value) : Prop where
 g__law_cell : mg "_law_cell" = some (.ref (He.ga K "_law_cell"))
 g__law_draws : mg "_law_draws" = some (.ref (He.ga K "_law_draws"))
 g__law_asks : mg "_law_asks" = some (.ref (He.ga K "_law_asks"))
 g__law_parts : mg "_law_parts" = some (.ref (He.ga K "_law_parts"))
 g__law_large : mg "_law_large" = some (.ref (He.ga K "_law_large"))
 g__law_put_in : mg "_law_put_in" = some (.ref (He.ga K "_law_put_in"))
 g__law_bad_ask : mg "_law_bad_ask" = some (.ref (He.ga K "_law_bad_ask"))
 g__law_bad_step : mg "_law_bad_step" = some (.ref (He.ga K "_law_bad_step"))
 g__law_due : mg "_law_due" = some (.ref (He.ga K "_law_due"))
 g_is_ask : mg "is_ask" = some (.ref (He.ga K "is_ask"))
 g_check_parts : mg "check_parts" = some (.ref (He.ga K "check_parts"))
 g_in_order : mg "in_order" = some (.ref (He.ga K "in_order"))
 g_ends_by_ask : mg "ends_by_ask" = some (.ref (He.ga K "ends_by_ask"))
 g__law_kinds : mg "_law_kinds" = some (.ref (He.ga K "_law_kinds"))
 g__law_whole : mg "_law_whole" = some (.ref (He.ga K "_law_whole"))
 g__law_made : mg "_law_made" = some (.ref (He.ga K "_law_made"))
 g_law : mg "law" = some (.ref (He.ga K "law"))
 g_Machine : mg "Machine" = some (.ref (cl K 12))
 c_Machine : Cls K (cl K 12)
 k_Machine : Mk K (cl K 12) (He.ma K (He.ga K "Machine") "__init__")
 g_Pattern : mg "Pattern" = some (.ref (cl K 14))
 c_Pattern : Cls K (cl K 14)
 k_Pattern : Mk K (cl K 14) (He.ma K (He.ga K "Pattern") "__init__")
 g_Service : mg "Service" = some (.ref (cl K 13))
 c_Service : Cls K (cl K 13)
 k_Service : Mk K (cl K 13) (He.ma K (He.ga K "Service") "__init__")
 f_ValueError : mg "ValueError" = none
 f_all : mg "all" = none
 f_bool : mg "bool" = none
 f_int : mg "int" = none
 f_isinstance : mg "isinstance" = none
 f_len : mg "len" = none
 f_range : mg "range" = none
 f_sum : mg "sum" = none
 f_super : mg "super" = none
 f_tuple : mg "tuple" = none
 i_LETTERS : ∃ t, mg "LETTERS" = some (.str "abcdefghijklmnopqrstuvwxyz" t)
 i_MOST_SIGNS : ∃ t, mg "MOST_SIGNS" = some (.int (8) t)
 i_MOST_STATES : ∃ t, mg "MOST_STATES" = some (.int (200) t)
 i_MOST_STEPS : ∃ t, mg "MOST_STEPS" = some (.int (600) t)
 na_Machine_ends : NoAttr K (cl K 12) "ends"
 na_Service_ends : NoAttr K (cl K 13) "ends"
 na_Pattern_ends : NoAttr K (cl K 14) "ends"
 na_Machine_marks : NoAttr K (cl K 12) "marks"
 na_Service_marks : NoAttr K (cl K 13) "marks"
 na_Pattern_marks : NoAttr K (cl K 14) "marks"
 na_Machine_place : NoAttr K (cl K 12) "place"
 na_Service_place : NoAttr K (cl K 13) "place"
 na_Pattern_place : NoAttr K (cl K 14) "place"
 na_Machine_size : NoAttr K (cl K 12) "size"
 na_Service_size : NoAttr K (cl K 13) "size"
 na_Pattern_size : NoAttr K (cl K 14) "size"
 na_Machine_steps : NoAttr K (cl K 12) "steps"
 na_Service_steps : NoAttr K (cl K 13) "steps"
 na_Pattern_steps : NoAttr K (cl K 14) "steps"
 g_AsksError : mg "AsksError" = some (.ref (cl K 0))
 g_BadMachine : mg "BadMachine" = some (.ref (cl K 1))
 g_BadState : mg "BadState" = some (.ref (cl K 2))
 g_TooLarge : mg "TooLarge" = some (.ref (cl K 3))
 em_BadMachine_AsksError : PySem.W.exmOne K (.ref (cl K 1)) (.ref (cl K 0)) = some true
 em_BadMachine_BadMachine : PySem.W.exmOne K (.ref (cl K 1)) (.ref (cl K 1)) = some true
 em_BadMachine_BadState : PySem.W.exmOne K (.ref (cl K 1)) (.ref (cl K 2)) = some false
 em_BadMachine_TooLarge : PySem.W.exmOne K (.ref (cl K 1)) (.ref (cl K 3)) = some false
 em_BadState_AsksError : PySem.W.exmOne K (.ref (cl K 2)) (.ref (cl K 0)) = some true
 em_BadState_BadMachine : PySem.W.exmOne K (.ref (cl K 2)) (.ref (cl K 1)) = some false
 em_BadState_BadState : PySem.W.exmOne K (.ref (cl K 2)) (.ref (cl K 2)) = some true
 em_BadState_TooLarge : PySem.W.exmOne K (.ref (cl K 2)) (.ref (cl K 3)) = some false
 em_TooLarge_AsksError : PySem.W.exmOne K (.ref (cl K 3)) (.ref (cl K 0)) = some true
 em_TooLarge_BadMachine : PySem.W.exmOne K (.ref (cl K 3)) (.ref (cl K 1)) = some false
 em_TooLarge_BadState : PySem.W.exmOne K (.ref (cl K 3)) (.ref (cl K 2)) = some false
 em_TooLarge_TooLarge : PySem.W.exmOne K (.ref (cl K 3)) (.ref (cl K 3)) = some true
 ot_Machine : OkTy K (cl K 12)
 is_Machine_Machine : PySem.W.kitOne K (.ref (cl K 12)) (.ref (cl K 12)) = some true
 ot_Service : OkTy K (cl K 13)
 is_Service_Machine : PySem.W.kitOne K (.ref (cl K 13)) (.ref (cl K 12)) = some true
 ot_Pattern : OkTy K (cl K 14)
 is_Pattern_Machine : PySem.W.kitOne K (.ref (cl K 14)) (.ref (cl K 12)) = some true
 ox_BadMachine : OexC K (cl K 1)
 in_BadMachine : PySem.W.findIn K (.ref (cl K 1)) "__init__" = some (some (.ref (He.ma K (He.ga K "BadMachine") "__init__"))) ∧ PySem.W.typeIn K (.ref (He.ma K (He.ga K "BadMachine") "__init__")) = some (.type "function")
 ox_BadState : OexC K (cl K 2)
 in_BadState : PySem.W.findIn K (.ref (cl K 2)) "__init__" = some (some (.ref (He.ma K (He.ga K "BadState") "__init__"))) ∧ PySem.W.typeIn K (.ref (He.ma K (He.ga K "BadState") "__init__")) = some (.type "function")
 ox_TooLarge : OexC K (cl K 3)
 in_TooLarge : PySem.W.findIn K (.ref (cl K 3)) "__init__" = some (some (.ref (He.ma K (He.ga K "TooLarge") "__init__"))) ∧ PySem.W.typeIn K (.ref (He.ma K (He.ga K "TooLarge") "__init__")) = some (.type "function")
 xf_BadMachine_part : PySem.W.findIn K (.ref (cl K 1)) "part" = some none
 xf_BadState_state : PySem.W.findIn K (.ref (cl K 2)) "state" = some none
 xf_TooLarge_size : PySem.W.findIn K (.ref (cl K 3)) "size" = some none
 xc_BadMachine : XC K (cl K 1)
 xc_BadState : XC K (cl K 2)
 xc_TooLarge : XC K (cl K 3)
 kt_BadMachine_AsksError : PySem.W.kitOne K (.ref (cl K 1)) (.ref (cl K 0)) = some true
 kt_BadMachine_BadMachine : PySem.W.kitOne K (.ref (cl K 1)) (.ref (cl K 1)) = some true
 kt_BadMachine_BadState : PySem.W.kitOne K (.ref (cl K 1)) (.ref (cl K 2)) = some false
 kt_BadMachine_TooLarge : PySem.W.kitOne K (.ref (cl K 1)) (.ref (cl K 3)) = some false
 kt_BadState_AsksError : PySem.W.kitOne K (.ref (cl K 2)) (.ref (cl K 0)) = some true
 kt_BadState_BadMachine : PySem.W.kitOne K (.ref (cl K 2)) (.ref (cl K 1)) = some false
 kt_BadState_BadState : PySem.W.kitOne K (.ref (cl K 2)) (.ref (cl K 2)) = some true
 kt_BadState_TooLarge : PySem.W.kitOne K (.ref (cl K 2)) (.ref (cl K 3)) = some false
 kt_TooLarge_AsksError : PySem.W.kitOne K (.ref (cl K 3)) (.ref (cl K 0)) = some true
 kt_TooLarge_BadMachine : PySem.W.kitOne K (.ref (cl K 3)) (.ref (cl K 1)) = some false
 kt_TooLarge_BadState : PySem.W.kitOne K (.ref (cl K 3)) (.ref (cl K 2)) = some false
 kt_TooLarge_TooLarge : PySem.W.kitOne K (.ref (cl K 3)) (.ref (cl K 3)) = some true
 q22 : ∃ fd, FunD K "_law_cell" "_law_cell" (defArgs q17) (defBody q17) (defScope q17) [] [] (He.ga K "_law_cell") fd
 q23 : ∃ fd, FunD K "_law_draws" "_law_draws" (defArgs qk) (defBody qk) (defScope qk) [] [] (He.ga K "_law_draws") fd
 q24 : ∃ fd, FunD K "_law_asks" "_law_asks" (defArgs qd) (defBody qd) (defScope qd) [] [] (He.ga K "_law_asks") fd
 q25 : ∃ fd, FunD K "_law_parts" "_law_parts" (defArgs qp) (defBody qp) (defScope qp) [] [] (He.ga K "_law_parts") fd
 q26 : ∃ fd, FunD K "_law_large" "_law_large" (defArgs qu) (defBody qu) (defScope qu) [] [] (He.ga K "_law_large") fd
 q27 : ∃ fd, FunD K "_law_put_in" "_law_put_in" (defArgs q14) (defBody q14) (defScope q14) [] [] (He.ga K "_law_put_in") fd
 q28 : ∃ fd, FunD K "_law_bad_ask" "_law_bad_ask" (defArgs q13) (defBody q13) (defScope q13) [] [] (He.ga K "_law_bad_ask") fd
 q29 : ∃ fd, FunD K "_law_bad_step" "_law_bad_step" (defArgs q10) (defBody q10) (defScope q10) [] [] (He.ga K "_law_bad_step") fd
 q2a : ∃ fd, FunD K "_law_due" "_law_due" (defArgs q18) (defBody q18) (defScope q18) [] [] (He.ga K "_law_due") fd
 q2b : ∃ fd, ErrD P0 K "__init__" "BadMachine.__init__" (defArgs q1b) (defBody q1b) (defScope q1b) (cl K 1) (He.ma K (He.ga K "BadMachine") "__init__") fd
 q2c : ∃ fd, ErrD P0 K "__init__" "TooLarge.__init__" (defArgs q1c) (defBody q1c) (defScope q1c) (cl K 3) (He.ma K (He.ga K "TooLarge") "__init__") fd
 q2d : ∃ fd, FunD K "is_ask" "is_ask" (defArgs q16) (defBody q16) (defScope q16) [] [] (He.ga K "is_ask") fd
 q2e : ∃ fd, FunD K "check_parts" "check_parts" (defArgs qo) (defBody qo) (defScope qo) [] [] (He.ga K "check_parts") fd
 q2f : ∃ fd, FunD K "in_order" "in_order" (defArgs qw) (defBody qw) (defScope qw) [] [] (He.ga K "in_order") fd
 q2g : ∃ fd, ErrD P0 K "__init__" "BadState.__init__" (defArgs q1d) (defBody q1d) (defScope q1d) (cl K 2) (He.ma K (He.ga K "BadState") "__init__") fd
 q2h : ∃ fd, FunD K "ends_by_ask" "ends_by_ask" (defArgs q11) (defBody q11) (defScope q11) [] [] (He.ga K "ends_by_ask") fd
 q2i : ∃ fd, FunD K "__init__" "Machine.__init__" (defArgs qm) (defBody qm) (defScope qm) [.int (0)] [] (He.ma K (He.ga K "Machine") "__init__") fd
 q2j : ∃ fd, SupD P0 K "__init__" "Service.__init__" (defArgs q1e) (defBody q1e) (defScope q1e) [.int (0)] (cl K 13) (He.ma K (He.ga K "Machine") "__init__") (He.ma K (He.ga K "Service") "__init__") fd
 q2k : ∃ fd, SupD P0 K "__init__" "Pattern.__init__" (defArgs q1f) (defBody q1f) (defScope q1f) [.int (0)] (cl K 14) (He.ma K (He.ga K "Machine") "__init__") (He.ma K (He.ga K "Pattern") "__init__") fd
 q1r : ∃ fd, FunD K "_law_kinds" "_law_kinds" (defArgs qj) (defBody qj) (defScope qj) [] [] (He.ga K "_law_kinds") fd
 q2l : ∃ fd, FunD K "_law_whole" "_law_whole" (defArgs q15) (defBody q15) (defScope q15) [] [] (He.ga K "_law_whole") fd
 q2m : ∃ fd, FunD K "_law_made" "_law_made" (defArgs qh) (defBody qh) (defScope qh) [] [] (He.ga K "_law_made") fd
 q1s : ∃ fd, FunD K "law" "law" (defArgs q7) (defBody q7) (defScope q7) [] [] (He.ga K "law") fd
theorem facts {K : PySem.W.Frag} {h : Heap} {mg : Str → Option Value} (X : K.In h) (Gl : h.Ns mainGlobals mg) (c : Hx.SaysX P0 fa fn fx dx K) : Facts K mg where
 g__law_cell := He.glo_ok X Gl (c.d.fact 0 rfl)
 g__law_draws := He.glo_ok X Gl (c.d.fact 1 rfl)
 g__law_asks := He.glo_ok X Gl (c.d.fact 2 rfl)
 g__law_parts := He.glo_ok X Gl (c.d.fact 3 rfl)
 g__law_large := He.glo_ok X Gl (c.d.fact 4 rfl)
 g__law_put_in := He.glo_ok X Gl (c.d.fact 5 rfl)
 g__law_bad_ask := He.glo_ok X Gl (c.d.fact 6 rfl)
 g__law_bad_step := He.glo_ok X Gl (c.d.fact 7 rfl)
 g__law_due := He.glo_ok X Gl (c.d.fact 8 rfl)
 g_is_ask := He.glo_ok X Gl (c.d.fact 9 rfl)
 g_check_parts := He.glo_ok X Gl (c.d.fact 10 rfl)
 g_in_order := He.glo_ok X Gl (c.d.fact 11 rfl)
 g_ends_by_ask := He.glo_ok X Gl (c.d.fact 12 rfl)
 g__law_kinds := He.glo_ok X Gl (c.d.fact 13 rfl)
 g__law_whole := He.glo_ok X Gl (c.d.fact 14 rfl)
 g__law_made := He.glo_ok X Gl (c.d.fact 15 rfl)
 g_law := He.glo_ok X Gl (c.d.fact 16 rfl)
 g_Machine := He.glo_ok X Gl (c.d.fact 17 rfl)
 c_Machine := He.cls_ok (c.d.fact 18 rfl)
 k_Machine := He.mkr_ok (c.d.fact 19 rfl)
 g_Pattern := He.glo_ok X Gl (c.d.fact 20 rfl)
 c_Pattern := He.cls_ok (c.d.fact 21 rfl)
 k_Pattern := He.mkr_ok (c.d.fact 22 rfl)
 g_Service := He.glo_ok X Gl (c.d.fact 23 rfl)
 c_Service := He.cls_ok (c.d.fact 24 rfl)
 k_Service := He.mkr_ok (c.d.fact 25 rfl)
 f_ValueError := He.free_ok X Gl (c.d.fact 26 rfl)
 f_all := He.free_ok X Gl (c.d.fact 27 rfl)
 f_bool := He.free_ok X Gl (c.d.fact 28 rfl)
 f_int := He.free_ok X Gl (c.d.fact 29 rfl)
 f_isinstance := He.free_ok X Gl (c.d.fact 30 rfl)
 f_len := He.free_ok X Gl (c.d.fact 31 rfl)
 f_range := He.free_ok X Gl (c.d.fact 32 rfl)
 f_sum := He.free_ok X Gl (c.d.fact 33 rfl)
 f_super := He.free_ok X Gl (c.d.fact 34 rfl)
 f_tuple := He.free_ok X Gl (c.d.fact 35 rfl)
 i_LETTERS := He.str_ok X Gl (c.d.fact 36 rfl)
 i_MOST_SIGNS := He.int_ok X Gl (c.d.fact 37 rfl)
 i_MOST_STATES := He.int_ok X Gl (c.d.fact 38 rfl)
 i_MOST_STEPS := He.int_ok X Gl (c.d.fact 39 rfl)
 na_Machine_ends := He.noat_ok (c.d.fact 40 rfl)
 na_Service_ends := He.noat_ok (c.d.fact 41 rfl)
 na_Pattern_ends := He.noat_ok (c.d.fact 42 rfl)
 na_Machine_marks := He.noat_ok (c.d.fact 43 rfl)
 na_Service_marks := He.noat_ok (c.d.fact 44 rfl)
 na_Pattern_marks := He.noat_ok (c.d.fact 45 rfl)
 na_Machine_place := He.noat_ok (c.d.fact 46 rfl)
 na_Service_place := He.noat_ok (c.d.fact 47 rfl)
 na_Pattern_place := He.noat_ok (c.d.fact 48 rfl)
 na_Machine_size := He.noat_ok (c.d.fact 49 rfl)
 na_Service_size := He.noat_ok (c.d.fact 50 rfl)
 na_Pattern_size := He.noat_ok (c.d.fact 51 rfl)
 na_Machine_steps := He.noat_ok (c.d.fact 52 rfl)
 na_Service_steps := He.noat_ok (c.d.fact 53 rfl)
 na_Pattern_steps := He.noat_ok (c.d.fact 54 rfl)
 g_AsksError := He.glo_ok X Gl (c.d.fact 55 rfl)
 g_BadMachine := He.glo_ok X Gl (c.d.fact 56 rfl)
 g_BadState := He.glo_ok X Gl (c.d.fact 57 rfl)
 g_TooLarge := He.glo_ok X Gl (c.d.fact 58 rfl)
 em_BadMachine_AsksError := He.exm_ok (c.d.fact 59 rfl)
 em_BadMachine_BadMachine := He.exm_ok (c.d.fact 60 rfl)
 em_BadMachine_BadState := He.exm_ok (c.d.fact 61 rfl)
 em_BadMachine_TooLarge := He.exm_ok (c.d.fact 62 rfl)
 em_BadState_AsksError := He.exm_ok (c.d.fact 63 rfl)
 em_BadState_BadMachine := He.exm_ok (c.d.fact 64 rfl)
 em_BadState_BadState := He.exm_ok (c.d.fact 65 rfl)
 em_BadState_TooLarge := He.exm_ok (c.d.fact 66 rfl)
 em_TooLarge_AsksError := He.exm_ok (c.d.fact 67 rfl)
 em_TooLarge_BadMachine := He.exm_ok (c.d.fact 68 rfl)
 em_TooLarge_BadState := He.exm_ok (c.d.fact 69 rfl)
 em_TooLarge_TooLarge := He.exm_ok (c.d.fact 70 rfl)
 ot_Machine := Hx.okty_ok (He.cls_ok (c.d.fact 18 rfl)) (c.fact 0 rfl)
 is_Machine_Machine := Hx.isi_ok (c.fact 1 rfl)
 ot_Service := Hx.okty_ok (He.cls_ok (c.d.fact 24 rfl)) (c.fact 2 rfl)
 is_Service_Machine := Hx.isi_ok (c.fact 3 rfl)
 ot_Pattern := Hx.okty_ok (He.cls_ok (c.d.fact 21 rfl)) (c.fact 4 rfl)
 is_Pattern_Machine := Hx.isi_ok (c.fact 5 rfl)
 ox_BadMachine := Hx.oexB_ok (c.fact 6 rfl)
 in_BadMachine := Hx.iniB_ok (c.fact 7 rfl)
 ox_BadState := Hx.oexB_ok (c.fact 8 rfl)
 in_BadState := Hx.iniB_ok (c.fact 9 rfl)
 ox_TooLarge := Hx.oexB_ok (c.fact 10 rfl)
 in_TooLarge := Hx.iniB_ok (c.fact 11 rfl)
 xf_BadMachine_part := He.eqO_ok (c.fact 12 rfl)
 xf_BadState_state := He.eqO_ok (c.fact 13 rfl)
 xf_TooLarge_size := He.eqO_ok (c.fact 14 rfl)
 xc_BadMachine := xcB_ok (c.fact 15 rfl)
 xc_BadState := xcB_ok (c.fact 16 rfl)
 xc_TooLarge := xcB_ok (c.fact 17 rfl)
 kt_BadMachine_AsksError := Hx.isi_ok (c.fact 18 rfl)
 kt_BadMachine_BadMachine := Hx.isi_ok (c.fact 19 rfl)
 kt_BadMachine_BadState := Hx.isi_ok (c.fact 20 rfl)
 kt_BadMachine_TooLarge := Hx.isi_ok (c.fact 21 rfl)
 kt_BadState_AsksError := Hx.isi_ok (c.fact 22 rfl)
 kt_BadState_BadMachine := Hx.isi_ok (c.fact 23 rfl)
 kt_BadState_BadState := Hx.isi_ok (c.fact 24 rfl)
 kt_BadState_TooLarge := Hx.isi_ok (c.fact 25 rfl)
 kt_TooLarge_AsksError := Hx.isi_ok (c.fact 26 rfl)
 kt_TooLarge_BadMachine := Hx.isi_ok (c.fact 27 rfl)
 kt_TooLarge_BadState := Hx.isi_ok (c.fact 28 rfl)
 kt_TooLarge_TooLarge := Hx.isi_ok (c.fact 29 rfl)
 q22 := c.d.def_ 0 (d := q22) rfl
 q23 := c.d.def_ 1 (d := q23) rfl
 q24 := c.d.def_ 2 (d := q24) rfl
 q25 := c.d.def_ 3 (d := q25) rfl
 q26 := c.d.def_ 4 (d := q26) rfl
 q27 := c.d.def_ 5 (d := q27) rfl
 q28 := c.d.def_ 6 (d := q28) rfl
 q29 := c.d.def_ 7 (d := q29) rfl
 q2a := c.d.def_ 8 (d := q2a) rfl
 q2b := Hx.DefX.errD (d := q2b) (c.def_ 0 rfl).1 (c.def_ 0 rfl).2 rfl rfl (c.fact 30 rfl)
 q2c := Hx.DefX.errD (d := q2c) (c.def_ 1 rfl).1 (c.def_ 1 rfl).2 rfl rfl (c.fact 31 rfl)
 q2d := c.d.def_ 9 (d := q2d) rfl
 q2e := c.d.def_ 10 (d := q2e) rfl
 q2f := c.d.def_ 11 (d := q2f) rfl
 q2g := Hx.DefX.errD (d := q2g) (c.def_ 2 rfl).1 (c.def_ 2 rfl).2 rfl rfl (c.fact 32 rfl)
 q2h := c.d.def_ 12 (d := q2h) rfl
 q2i := c.d.def_ 13 (d := q2i) rfl
 q2j := Hx.DefX.supD (d := q2j) (c.def_ 3 rfl).1 (c.def_ 3 rfl).2 rfl (c.fact 33 rfl)
 q2k := Hx.DefX.supD (d := q2k) (c.def_ 4 rfl).1 (c.def_ 4 rfl).2 rfl (c.fact 34 rfl)
 q1r := c.d.def_ 14 (d := q1r) rfl
 q2l := c.d.def_ 15 (d := q2l) rfl
 q2m := c.d.def_ 16 (d := q2m) rfl
 q1s := c.d.def_ 17 (d := q1s) rfl
theorem Facts.n_ends {K : PySem.W.Frag} {mg : Str → Option Value} (G : Facts K mg) : ClsF K (cl K) [12, 13, 14, 17] "ends" := by
 intro c hc
 simp only [List.mem_cons, List.not_mem_nil, or_false] at hc
 rcases hc with rfl | rfl | rfl | rfl
 · exact ⟨G.c_Machine, G.na_Machine_ends⟩
 · exact ⟨G.c_Service, G.na_Service_ends⟩
 · exact ⟨G.c_Pattern, G.na_Pattern_ends⟩
 · exact ⟨G.c_Pattern, G.na_Pattern_ends⟩
theorem Facts.n_marks {K : PySem.W.Frag} {mg : Str → Option Value} (G : Facts K mg) : ClsF K (cl K) [12, 13, 14, 17] "marks" := by
 intro c hc
 simp only [List.mem_cons, List.not_mem_nil, or_false] at hc
 rcases hc with rfl | rfl | rfl | rfl
 · exact ⟨G.c_Machine, G.na_Machine_marks⟩
 · exact ⟨G.c_Service, G.na_Service_marks⟩
 · exact ⟨G.c_Pattern, G.na_Pattern_marks⟩
 · exact ⟨G.c_Pattern, G.na_Pattern_marks⟩
theorem Facts.n_place {K : PySem.W.Frag} {mg : Str → Option Value} (G : Facts K mg) : ClsF K (cl K) [12, 13, 14, 17] "place" := by
 intro c hc
 simp only [List.mem_cons, List.not_mem_nil, or_false] at hc
 rcases hc with rfl | rfl | rfl | rfl
 · exact ⟨G.c_Machine, G.na_Machine_place⟩
 · exact ⟨G.c_Service, G.na_Service_place⟩
 · exact ⟨G.c_Pattern, G.na_Pattern_place⟩
 · exact ⟨G.c_Pattern, G.na_Pattern_place⟩
theorem Facts.n_size {K : PySem.W.Frag} {mg : Str → Option Value} (G : Facts K mg) : ClsF K (cl K) [12, 13, 14, 17, 18] "size" := by
 intro c hc
 simp only [List.mem_cons, List.not_mem_nil, or_false] at hc
 rcases hc with rfl | rfl | rfl | rfl | rfl
 · exact ⟨G.c_Machine, G.na_Machine_size⟩
 · exact ⟨G.c_Service, G.na_Service_size⟩
 · exact ⟨G.c_Pattern, G.na_Pattern_size⟩
 · exact ⟨G.c_Pattern, G.na_Pattern_size⟩
 · exact ⟨G.c_Machine, G.na_Machine_size⟩
theorem Facts.n_steps {K : PySem.W.Frag} {mg : Str → Option Value} (G : Facts K mg) : ClsF K (cl K) [12, 13, 14, 17] "steps" := by
 intro c hc
 simp only [List.mem_cons, List.not_mem_nil, or_false] at hc
 rcases hc with rfl | rfl | rfl | rfl
 · exact ⟨G.c_Machine, G.na_Machine_steps⟩
 · exact ⟨G.c_Service, G.na_Service_steps⟩
 · exact ⟨G.c_Pattern, G.na_Pattern_steps⟩
 · exact ⟨G.c_Pattern, G.na_Pattern_steps⟩
theorem Facts.isT_Machine {K : PySem.W.Frag} {mg : Str → Option Value} (G : Facts K mg) : IsTab K (cl K) Mi.isT_Machine := by
 intro c' c b h
 unfold Mi.isT_Machine at h
 split at h
 · cases h; exact ⟨G.ot_Machine, G.is_Machine_Machine⟩
 · cases h; exact ⟨G.ot_Service, G.is_Service_Machine⟩
 · cases h; exact ⟨G.ot_Pattern, G.is_Pattern_Machine⟩
 · cases h; exact ⟨G.ot_Pattern, G.is_Pattern_Machine⟩
 · cases h
theorem Facts.xn_part {K : PySem.W.Frag} {mg : Str → Option Value} (G : Facts K mg) : ∀ c ∈ [1], XC K (cl K c) ∧ PySem.W.findIn K (.ref (cl K c)) "part" = some none := by
 intro c hc
 simp only [List.mem_cons, List.not_mem_nil, or_false] at hc
 rcases hc with rfl
 · exact ⟨G.xc_BadMachine, G.xf_BadMachine_part⟩
theorem Facts.xn_size {K : PySem.W.Frag} {mg : Str → Option Value} (G : Facts K mg) : ∀ c ∈ [3], XC K (cl K c) ∧ PySem.W.findIn K (.ref (cl K c)) "size" = some none := by
 intro c hc
 simp only [List.mem_cons, List.not_mem_nil, or_false] at hc
 rcases hc with rfl
 · exact ⟨G.xc_TooLarge, G.xf_TooLarge_size⟩
theorem Facts.xn_state {K : PySem.W.Frag} {mg : Str → Option Value} (G : Facts K mg) : ∀ c ∈ [2], XC K (cl K c) ∧ PySem.W.findIn K (.ref (cl K c)) "state" = some none := by
 intro c hc
 simp only [List.mem_cons, List.not_mem_nil, or_false] at hc
 rcases hc with rfl
 · exact ⟨G.xc_BadState, G.xf_BadState_state⟩
theorem Facts.xT {K : PySem.W.Frag} {mg : Str → Option Value} (G : Facts K mg) : XTab K (cl K) Mi.exT_k14 := by
 intro c c' b h
 unfold Mi.exT_k14 at h
 split at h
 · cases h; exact ⟨G.xc_BadMachine, G.kt_BadMachine_AsksError⟩
 · cases h; exact ⟨G.xc_BadMachine, G.kt_BadMachine_BadMachine⟩
 · cases h; exact ⟨G.xc_BadMachine, G.kt_BadMachine_BadState⟩
 · cases h; exact ⟨G.xc_BadMachine, G.kt_BadMachine_TooLarge⟩
 · cases h; exact ⟨G.xc_BadState, G.kt_BadState_AsksError⟩
 · cases h; exact ⟨G.xc_BadState, G.kt_BadState_BadMachine⟩
 · cases h; exact ⟨G.xc_BadState, G.kt_BadState_BadState⟩
 · cases h; exact ⟨G.xc_BadState, G.kt_BadState_TooLarge⟩
 · cases h; exact ⟨G.xc_TooLarge, G.kt_TooLarge_AsksError⟩
 · cases h; exact ⟨G.xc_TooLarge, G.kt_TooLarge_BadMachine⟩
 · cases h; exact ⟨G.xc_TooLarge, G.kt_TooLarge_BadState⟩
 · cases h; exact ⟨G.xc_TooLarge, G.kt_TooLarge_TooLarge⟩
 · cases h
theorem Facts.eT {K : PySem.W.Frag} {mg : Str → Option Value} (G : Facts K mg) : ETab K (cl K) Mi.exT_k14 := by
 intro c c' b h
 unfold Mi.exT_k14 at h
 split at h
 · cases h; exact G.em_BadMachine_AsksError
 · cases h; exact G.em_BadMachine_BadMachine
 · cases h; exact G.em_BadMachine_BadState
 · cases h; exact G.em_BadMachine_TooLarge
 · cases h; exact G.em_BadState_AsksError
 · cases h; exact G.em_BadState_BadMachine
 · cases h; exact G.em_BadState_BadState
 · cases h; exact G.em_BadState_TooLarge
 · cases h; exact G.em_TooLarge_AsksError
 · cases h; exact G.em_TooLarge_BadMachine
 · cases h; exact G.em_TooLarge_BadState
 · cases h; exact G.em_TooLarge_TooLarge
 · cases h
section
variable {w : World} {K : PySem.W.Frag} {mg : Str → Option Value} {base : Heap}
theorem q96 (G : Facts K mg) : ∃ fd, FunD K "_law_cell" "_law_cell" (defArgs q17) (defBody q17) (defScope q17) [] [] (He.ga K "_law_cell") fd ∧ FnOk P0 w K mg base (L2N.CX P0 w) 1 (He.ga K "_law_cell") fd ["_law_script", "_law_k"] (SpM ⟨P0, w, K, cl K⟩ 2 f__law_cell) := by
 obtain ⟨fd, Fd⟩ := G.q22
 unfold f__law_cell
 refine ⟨fd, Fd, fn_q Fd q6j fun cdv A outer s H E hr => ?_⟩
 refine xdk hr fun hu3 hu hu2 tk => ?_
 unfold m__law_cell
 exact (qss_cons (qs_if (qt_cmp oq_ltI (qe_var (i := 1) rfl q48) (qe_callB cq_len q6k G.f_len rfl (qa_cons (qe_var (i := 0) rfl q49) qa_nil)) (nomark _))
 (qss_one (qs_ret (qe_ix (xq_ixX hu2) (qe_var (i := 0) rfl q49) (qe_var (i := 1) rfl q48) fun _ _ => rfl)))
 qss_nil)
 (qss_one (qs_ret qe_int)))
theorem q97 (G : Facts K mg) : ∃ fd, FunD K "_law_draws" "_law_draws" (defArgs qk) (defBody qk) (defScope qk) [] [] (He.ga K "_law_draws") fd ∧ FnOk P0 w K mg base (L2N.CX P0 w) 2 (He.ga K "_law_draws") fd ["_law_script", "_law_k", "_law_many"] (SpM ⟨P0, w, K, cl K⟩ 3 f__law_draws) := by
 obtain ⟨fd, Fd⟩ := G.q23
 obtain ⟨q98, q5y, q99⟩ := q96 (w := w) (base := base) G
 have P__law_cell := q5y.kp
 have B__law_cell : Binds K q98 ["_law_script", "_law_k"] [] := q5y.bindsN fun _ _ _ _ _ _ us hl => match us, hl with | [_, _], _ => rfl
 unfold f__law_draws
 refine ⟨fd, Fd, fn_q Fd q1i fun cdv A outer s H E hr => ?_⟩
 refine xdk hr fun hu3 hu hu2 tk => ?_
 unfold m__law_draws
 exact (qss_cons (qs_set (i := 3) q1i.nd rfl q6n (qe_call (dvs := []) (ds := []) (dds := []) q99 tk (hr.mono (by decide)) q6p G.g__law_cell P__law_cell B__law_cell .nil Dfl.nil (qa_cons (qe_var (i := 0) rfl q6l) (qa_cons (qe_var (i := 1) rfl q4a) qa_nil))))
 (qss_cons (qs_set (i := 4) q1i.nd rfl q6o (qe_lstS qa_nil))
 (qss_cons (qs_if (qt_cmp oq_geI (qe_var (i := 3) rfl q3a) (qe_op oq_pow qe_int qe_int) (nomark _))
 (qss_cons (qs_set (i := 7) q1i.nd rfl q4e (qe_op oq_sub (qe_var (i := 3) rfl q3a) (qe_op oq_pow qe_int qe_int)))
 (qss_cons (qs_for (passes_of rfl) rfl (qi_range1 q4h G.f_range (qa_cons (qe_var (i := 2) rfl q4b) qa_nil)) (qg_name (i := 6) q1i.nd rfl q4f)
 (qss_cons (qs_expr (qe_bm chk_list PySem.F.plainAttrs_list PySem.F.slot_list_append PySem.F.type_list_append mq_append (qe_var (i := 4) rfl q2v) (qa_cons (qe_op oq_mod (qe_callTy cq_int q2w G.f_int rfl (qa_cons (qe_var (i := 7) rfl q4c) qa_nil)) qe_int) qa_nil)))
 (qss_one (qs_set (i := 7) q1i.nd rfl q4e (qe_op oq_div (qe_var (i := 7) rfl q4c) qe_int)))))
 (qss_one (qs_ret (qe_var (i := 4) rfl q2v)))))
 qss_nil)
 (qss_cons (qs_set (i := 5) q1i.nd rfl q4g (qe_op oq_mod (qe_callTy cq_int q2w G.f_int rfl (qa_cons (qe_op oq_add (qe_op oq_add (qe_op oq_mulI (qe_var (i := 3) rfl q3a) qe_int) (qe_op oq_mulI (qe_var (i := 1) rfl q4a) qe_int)) qe_int) qa_nil)) qe_int))
 (qss_cons (qs_for (passes_of rfl) rfl (qi_range1 q4h G.f_range (qa_cons (qe_var (i := 2) rfl q4b) qa_nil)) (qg_name (i := 6) q1i.nd rfl q4f)
 (qss_cons (qs_set (i := 5) q1i.nd rfl q4g (qe_op oq_mod (qe_callTy cq_int q2w G.f_int rfl (qa_cons (qe_op oq_add (qe_op oq_add (qe_op oq_mulI (qe_var (i := 5) rfl q4d) qe_int) (qe_var (i := 6) rfl q6m)) qe_int) qa_nil)) qe_int))
 (qss_one (qs_expr (qe_bm chk_list PySem.F.plainAttrs_list PySem.F.slot_list_append PySem.F.type_list_append mq_append (qe_var (i := 4) rfl q2v) (qa_cons (qe_op oq_mod (qe_callTy cq_int q2w G.f_int rfl (qa_cons (qe_op oq_div (qe_var (i := 5) rfl q4d) qe_int) qa_nil)) qe_int) qa_nil))))))
 (qss_one (qs_ret (qe_var (i := 4) rfl q2v))))))))
theorem q9a (G : Facts K mg) : ∃ fd, FunD K "_law_asks" "_law_asks" (defArgs qd) (defBody qd) (defScope qd) [] [] (He.ga K "_law_asks") fd ∧ FnOk P0 w K mg base (L2N.CX P0 w) 1 (He.ga K "_law_asks") fd ["_law_row", "_law_many"] (SpM ⟨P0, w, K, cl K⟩ 2 f__law_asks) := by
 obtain ⟨fd, Fd⟩ := G.q24
 unfold f__law_asks
 refine ⟨fd, Fd, fn_q Fd q1a fun cdv A outer s H E hr => ?_⟩
 refine xdk hr fun hu3 hu hu2 tk => ?_
 unfold m__law_asks
 exact (qss_cons (qs_set (i := 2) q1a.nd rfl q6u qe_str)
 (qss_cons (qs_set (i := 3) q1a.nd rfl q6v (qe_bm chk_str PySem.F.plainAttrs_str PySem.F.slot_str_join PySem.F.type_str_join mq_join qe_str (qa_cons (qe_lcV  rfl q1a.nd (qi_val (qe_slice sq_sl (qe_var (i := 0) rfl q1o) qo_none (qo_some qe_int))) (own := [("_law_digit", 10)]) (show BlkOk ["_law_row", "_law_many", "_law_letters", "_law_word", "_law_asks_here", "_law_at", "_law_size", "_law_place", "_law_jump", "_law_letter", "_law_digit"] (defScope qd) _ [("_law_digit", 10)] from ⟨rfl, by decide +kernel, by decide +kernel, by decide +kernel, by decide +kernel⟩) (fun _ _ _ _ _ => (qg_name (i := 10) q1a.nd rfl (by first | exact Or.inl rfl | exact Or.inr rfl))) (fun _ _ _ _ _ => qts_nil) (fun _ _ _ _ _ => (qe_ix (xq_ixX hu2) (qe_var (i := 2) rfl (by first | exact Or.inl rfl | exact Or.inr (Or.inl rfl) | exact Or.inr (Or.inr rfl))) (qe_op oq_mod (qe_callTy cq_int rfl G.f_int rfl (qa_cons (qe_var (i := 10) rfl (by first | exact Or.inl rfl | exact Or.inr (Or.inl rfl) | exact Or.inr (Or.inr rfl))) qa_nil)) qe_int) fun _ _ => rfl)) (by decide)) qa_nil)))
 (qss_cons (qs_set (i := 4) q1a.nd rfl q6w (qe_lstS qa_nil))
 (qss_cons (qs_for (passes_of rfl) rfl (qi_range1 q71 G.f_range (qa_cons (qe_var (i := 1) rfl q6q) qa_nil)) (qg_name (i := 5) q1a.nd rfl q6x)
 (qss_cons (qs_set (i := 6) q1a.nd rfl q4k (qe_op oq_add (qe_op oq_mod (qe_callTy cq_int q1t G.f_int rfl (qa_cons (qe_op oq_add (qe_ix (xq_ixX hu2) (qe_var (i := 0) rfl q1o) qe_int fun _ _ => rfl) (qe_op oq_mulI qe_int (qe_var (i := 5) rfl q4i))) qa_nil)) qe_int) qe_int))
 (qss_one (qs_if (qt_cmp (oq_eq hu) (qe_op oq_mod (qe_callTy cq_int q1t G.f_int rfl (qa_cons (qe_ix (xq_ixX hu2) (qe_var (i := 0) rfl q1o) qe_int fun _ _ => rfl) qa_nil)) qe_int) qe_int (nomark _))
 (qss_one (qs_expr (qe_bm chk_list PySem.F.plainAttrs_list PySem.F.slot_list_append PySem.F.type_list_append mq_append (qe_var (i := 4) rfl q3b) (qa_cons (qe_slice sq_sl (qe_var (i := 3) rfl q3c) qo_none (qo_some (qe_var (i := 6) rfl q3d))) qa_nil))))
 (qss_cons (qs_set (i := 6) q1a.nd rfl q4k (qe_op oq_add (qe_op oq_mod (qe_callTy cq_int q1t G.f_int rfl (qa_cons (qe_ix (xq_ixX hu2) (qe_var (i := 0) rfl q1o) qe_int fun _ _ => rfl) qa_nil)) qe_int) qe_int))
 (qss_cons (qs_set (i := 7) q1a.nd rfl q6y (qe_op oq_mod (qe_callTy cq_int q1t G.f_int rfl (qa_cons (qe_ix (xq_ixX hu2) (qe_var (i := 0) rfl q1o) qe_int fun _ _ => rfl) qa_nil)) (qe_var (i := 6) rfl q3d)))
 (qss_cons (qs_set (i := 8) q1a.nd rfl q6z (qe_op oq_add (qe_op oq_mulI (qe_op oq_mod (qe_callTy cq_int q1t G.f_int rfl (qa_cons (qe_ix (xq_ixX hu2) (qe_var (i := 0) rfl q1o) qe_int fun _ _ => rfl) qa_nil)) qe_int) qe_int) qe_int))
 (qss_cons (qs_set (i := 9) q1a.nd rfl q70 (qe_ix (xq_ixX hu2) (qe_var (i := 2) rfl q6r) (qe_op oq_mod (qe_callTy cq_int q1t G.f_int rfl (qa_cons (qe_op oq_add (qe_ix (xq_ixX hu2) (qe_var (i := 0) rfl q1o) qe_int fun _ _ => rfl) (qe_op oq_mulI (qe_var (i := 8) rfl q6s) (qe_var (i := 5) rfl q4i))) qa_nil)) qe_int) fun _ _ => rfl))
 (qss_one (qs_expr (qe_bm chk_list PySem.F.plainAttrs_list PySem.F.slot_list_append PySem.F.type_list_append mq_append (qe_var (i := 4) rfl q3b) (qa_cons (qe_op oq_add (qe_op oq_add (qe_slice sq_sl (qe_var (i := 3) rfl q3c) qo_none (qo_some (qe_var (i := 7) rfl q4j))) (qe_var (i := 9) rfl q6t)) (qe_slice sq_sl (qe_var (i := 3) rfl q3c) (qo_some (qe_op oq_add (qe_var (i := 7) rfl q4j) qe_int)) (qo_some (qe_var (i := 6) rfl q3d)))) qa_nil))))))))))))
 (qss_one (qs_ret (qe_var (i := 4) rfl q3b)))))))
theorem q9b (G : Facts K mg) : ∃ fd, FunD K "_law_parts" "_law_parts" (defArgs qp) (defBody qp) (defScope qp) [] [] (He.ga K "_law_parts") fd ∧ FnOk P0 w K mg base (L2N.CX P0 w) 1 (He.ga K "_law_parts") fd ["_law_row", "_law_asks_here"] (SpM ⟨P0, w, K, cl K⟩ 2 f__law_parts) := by
 obtain ⟨fd, Fd⟩ := G.q25
 unfold f__law_parts
 refine ⟨fd, Fd, fn_q Fd q1u fun cdv A outer s H E hr => ?_⟩
 refine xdk hr fun hu3 hu hu2 tk => ?_
 unfold m__law_parts
 exact (qss_cons (qs_set (i := 2) q1u.nd rfl q74 (qe_op oq_add qe_int (qe_op oq_mod (qe_callTy cq_int q1w G.f_int rfl (qa_cons (qe_op oq_add (qe_op oq_mulI (qe_ix (xq_ixX hu2) (qe_var (i := 0) rfl q1v) qe_int fun _ _ => rfl) qe_int) (qe_ix (xq_ixX hu2) (qe_var (i := 0) rfl q1v) qe_int fun _ _ => rfl)) qa_nil)) qe_int)))
 (qss_cons (qs_setLcV  (i := 3) rfl q1u.nd rfl (show (defScope qp).names.lookup ("_law_marks" : Str) = some .local by decide +kernel) rfl (qi_range1 q4m G.f_range (qa_cons (qe_op oq_mod (qe_callTy cq_int q1w G.f_int rfl (qa_cons (qe_ix (xq_ixX hu2) (qe_var (i := 0) rfl q1v) qe_int fun _ _ => rfl) qa_nil)) qe_int) qa_nil)) (own := [("_law_at", 5)]) (show BlkOk ["_law_row", "_law_asks_here", "_law_size", "_law_marks", "_law_steps", "_law_at"] (defScope qp) _ [("_law_at", 5)] from ⟨rfl, by decide +kernel, by decide +kernel, by decide +kernel, by decide +kernel⟩) (fun _ _ _ _ _ => (qg_name (i := 5) q1u.nd rfl (by first | exact Or.inl rfl | exact Or.inr rfl))) (fun _ _ _ _ _ => qts_nil) (fun _ _ _ _ _ => (qe_op oq_mod (qe_callTy cq_int rfl G.f_int rfl (qa_cons (qe_op oq_add (qe_op oq_mulI (qe_ix (xq_ixX hu2) (qe_var (i := 0) rfl (by first | exact Or.inl rfl | exact Or.inr (Or.inl rfl) | exact Or.inr (Or.inr rfl))) (qe_op oq_add qe_int (qe_var (i := 5) rfl (by first | exact Or.inl rfl | exact Or.inr (Or.inl rfl) | exact Or.inr (Or.inr rfl)))) fun _ _ => rfl) qe_int) (qe_var (i := 5) rfl (by first | exact Or.inl rfl | exact Or.inr (Or.inl rfl) | exact Or.inr (Or.inr rfl)))) qa_nil)) (qe_var (i := 2) rfl (by first | exact Or.inl rfl | exact Or.inr (Or.inl rfl) | exact Or.inr (Or.inr rfl))))) (by decide))
 (qss_cons (qs_set (i := 4) q1u.nd rfl q75 (qe_lstS qa_nil))
 (qss_cons (qs_for (passes_of rfl) rfl (qi_range1 q4m G.f_range (qa_cons (qe_op oq_mod (qe_callTy cq_int q1w G.f_int rfl (qa_cons (qe_ix (xq_ixX hu2) (qe_var (i := 0) rfl q1v) qe_int fun _ _ => rfl) qa_nil)) qe_int) qa_nil)) (qg_name (i := 5) q1u.nd rfl q76)
 (qss_one (qs_expr (qe_bm chk_list PySem.F.plainAttrs_list PySem.F.slot_list_append PySem.F.type_list_append mq_append (qe_var (i := 4) rfl q4l) (qa_cons (qe_tup (qa_cons (qe_op oq_mod (qe_callTy cq_int q1w G.f_int rfl (qa_cons (qe_ix (xq_ixX hu2) (qe_var (i := 0) rfl q1v) (qe_op oq_add qe_int (qe_var (i := 5) rfl q3e)) fun _ _ => rfl) qa_nil)) (qe_var (i := 2) rfl q3f)) (qa_cons (qe_ix (xq_ixX hu2) (qe_var (i := 1) rfl q72) (qe_op oq_mod (qe_callTy cq_int q1w G.f_int rfl (qa_cons (qe_var (i := 5) rfl q3e) qa_nil)) qe_int) fun _ _ => rfl) (qa_cons (qe_op oq_mod (qe_callTy cq_int q1w G.f_int rfl (qa_cons (qe_ix (xq_ixX hu2) (qe_var (i := 0) rfl q1v) (qe_op oq_add qe_int (qe_var (i := 5) rfl q3e)) fun _ _ => rfl) qa_nil)) (qe_var (i := 2) rfl q3f)) qa_nil)))) qa_nil)))))
 (qss_one (qs_ret (qe_tup (qa_cons (qe_var (i := 2) rfl q3f) (qa_cons (qe_var (i := 3) rfl q73) (qa_cons (qe_fz (qe_var (i := 4) rfl q4l)) qa_nil))))))))))
theorem q9c (G : Facts K mg) : ∃ fd, FunD K "_law_large" "_law_large" (defArgs qu) (defBody qu) (defScope qu) [] [] (He.ga K "_law_large") fd ∧ FnOk P0 w K mg base (L2N.CX P0 w) 1 (He.ga K "_law_large") fd ["_law_row", "_law_asks_here"] (SpM ⟨P0, w, K, cl K⟩ 2 f__law_large) := by
 obtain ⟨fd, Fd⟩ := G.q26
 unfold f__law_large
 refine ⟨fd, Fd, fn_q Fd q2n fun cdv A outer s H E hr => ?_⟩
 refine xdk hr fun hu3 hu hu2 tk => ?_
 unfold m__law_large
 exact (qss_cons (qs_set (i := 2) q2n.nd rfl q79 (qe_lstS qa_nil))
 (qss_cons (qs_for (passes_of rfl) rfl (qi_range1 q7d G.f_range (qa_cons qe_int qa_nil)) (qg_name (i := 3) q2n.nd rfl q7a)
 (qss_one (qs_for (passes_of rfl) rfl (qi_val (qe_var (i := 1) rfl q77)) (qg_name (i := 5) q2n.nd rfl q7b)
 (qss_one (qs_expr (qe_bm chk_list PySem.F.plainAttrs_list PySem.F.slot_list_append PySem.F.type_list_append mq_append (qe_var (i := 2) rfl q2x) (qa_cons (qe_tup (qa_cons (qe_var (i := 3) rfl q4n) (qa_cons (qe_var (i := 5) rfl q78) (qa_cons (qe_op oq_mod (qe_callTy cq_int q3h G.f_int rfl (qa_cons (qe_op oq_add (qe_op oq_mulI (qe_var (i := 3) rfl q4n) qe_int) (qe_ix (xq_ixX hu2) (qe_var (i := 0) rfl q3g) qe_int fun _ _ => rfl)) qa_nil)) qe_int) qa_nil)))) qa_nil)))))))
 (qss_cons (qs_set (i := 4) q2n.nd rfl q7c (qe_op oq_mulI (qe_callTy cq_int q3h G.f_int rfl (qa_cons (qe_ix (xq_ixX hu2) (qe_var (i := 0) rfl q3g) qe_int fun _ _ => rfl) qa_nil)) qe_int))
 (qss_one (qs_ret (qe_op oq_add (qe_op oq_add (qe_slice sq_sl (qe_var (i := 2) rfl q2x) (qo_some (qe_var (i := 4) rfl q4o)) qo_none) (qe_slice sq_sl (qe_var (i := 2) rfl q2x) qo_none (qo_some (qe_var (i := 4) rfl q4o)))) (qe_slice sq_sl (qe_var (i := 2) rfl q2x) qo_none (qo_some (qe_op oq_mod (qe_callTy cq_int q3h G.f_int rfl (qa_cons (qe_ix (xq_ixX hu2) (qe_var (i := 0) rfl q3g) qe_int fun _ _ => rfl) qa_nil)) qe_int)))))))))
theorem q9d (G : Facts K mg) : ∃ fd, FunD K "_law_put_in" "_law_put_in" (defArgs q14) (defBody q14) (defScope q14) [] [] (He.ga K "_law_put_in") fd ∧ FnOk P0 w K mg base (L2N.CX P0 w) 1 (He.ga K "_law_put_in") fd ["_law_rows", "_law_thing", "_law_digit"] (SpM ⟨P0, w, K, cl K⟩ 3 f__law_put_in) := by
 obtain ⟨fd, Fd⟩ := G.q27
 unfold f__law_put_in
 refine ⟨fd, Fd, fn_q Fd q4p fun cdv A outer s H E hr => ?_⟩
 refine xdk hr fun hu3 hu hu2 tk => ?_
 unfold m__law_put_in
 exact (qss_cons (qs_set (i := 3) q4p.nd rfl q7g (qe_op oq_mod (qe_callTy cq_int q7h G.f_int rfl (qa_cons (qe_var (i := 2) rfl q7e) qa_nil)) (qe_op oq_add (qe_callB cq_len q7i G.f_len rfl (qa_cons (qe_var (i := 0) rfl q3i) qa_nil)) qe_int)))
 (qss_one (qs_ret (qe_op oq_add (qe_op oq_add (qe_slice sq_sl (qe_var (i := 0) rfl q3i) qo_none (qo_some (qe_var (i := 3) rfl q4q))) (qe_lstV (qa_cons (qe_var (i := 1) rfl q7f) qa_nil))) (qe_slice sq_sl (qe_var (i := 0) rfl q3i) (qo_some (qe_var (i := 3) rfl q4q)) qo_none)))))
theorem q9e (G : Facts K mg) : ∃ fd, FunD K "_law_bad_ask" "_law_bad_ask" (defArgs q13) (defBody q13) (defScope q13) [] [] (He.ga K "_law_bad_ask") fd ∧ FnOk P0 w K mg base (L2N.CX P0 w) 1 (He.ga K "_law_bad_ask") fd ["_law_row", "_law_ask"] (SpM ⟨P0, w, K, cl K⟩ 2 f__law_bad_ask) := by
 obtain ⟨fd, Fd⟩ := G.q28
 unfold f__law_bad_ask
 refine ⟨fd, Fd, fn_q Fd q3j fun cdv A outer s H E hr => ?_⟩
 refine xdk hr fun hu3 hu hu2 tk => ?_
 unfold m__law_bad_ask
 exact (qss_cons (qs_if (qt_cmp (oq_eq hu) (qe_op oq_mod (qe_callTy cq_int q30 G.f_int rfl (qa_cons (qe_ix (xq_ixX hu2) (qe_var (i := 0) rfl q2y) qe_int fun _ _ => rfl) qa_nil)) qe_int) qe_int (nomark _))
 (qss_one (qs_ret qe_str))
 qss_nil)
 (qss_cons (qs_if (qt_cmp (oq_eq hu) (qe_op oq_mod (qe_callTy cq_int q30 G.f_int rfl (qa_cons (qe_ix (xq_ixX hu2) (qe_var (i := 0) rfl q2y) qe_int fun _ _ => rfl) qa_nil)) qe_int) qe_int (nomark _))
 (qss_one (qs_ret (qe_slice sq_sl (qe_op oq_mulT (qe_var (i := 1) rfl q2z) qe_int) qo_none (qo_some qe_int))))
 qss_nil)
 (qss_cons (qs_set (i := 2) q3j.nd rfl q7j qe_str)
 (qss_cons (qs_set (i := 3) q3j.nd rfl q7k (qe_op oq_mod (qe_callTy cq_int q30 G.f_int rfl (qa_cons (qe_ix (xq_ixX hu2) (qe_var (i := 0) rfl q2y) qe_int fun _ _ => rfl) qa_nil)) (qe_callB cq_len q4t G.f_len rfl (qa_cons (qe_var (i := 1) rfl q2z) qa_nil))))
 (qss_one (qs_ret (qe_op oq_add (qe_op oq_add (qe_slice sq_sl (qe_var (i := 1) rfl q2z) qo_none (qo_some (qe_var (i := 3) rfl q4r))) (qe_ix (xq_ixX hu2) (qe_var (i := 2) rfl q4s) (qe_op oq_mod (qe_callTy cq_int q30 G.f_int rfl (qa_cons (qe_ix (xq_ixX hu2) (qe_var (i := 0) rfl q2y) qe_int fun _ _ => rfl) qa_nil)) (qe_callB cq_len q4t G.f_len rfl (qa_cons (qe_var (i := 2) rfl q4s) qa_nil))) fun _ _ => rfl)) (qe_slice sq_sl (qe_var (i := 1) rfl q2z) (qo_some (qe_op oq_add (qe_var (i := 3) rfl q4r) qe_int)) qo_none))))))))
theorem q9f (G : Facts K mg) : ∃ fd, FunD K "_law_bad_step" "_law_bad_step" (defArgs q10) (defBody q10) (defScope q10) [] [] (He.ga K "_law_bad_step") fd ∧ FnOk P0 w K mg base (L2N.CX P0 w) 2 (He.ga K "_law_bad_step") fd ["_law_row", "_law_size", "_law_ask"] (SpM ⟨P0, w, K, cl K⟩ 3 f__law_bad_step) := by
 obtain ⟨fd, Fd⟩ := G.q29
 obtain ⟨q9g, q5z, q9h⟩ := q9e (w := w) (base := base) G
 have P__law_bad_ask := q5z.kp
 have B__law_bad_ask : Binds K q9g ["_law_row", "_law_ask"] [] := q5z.bindsN fun _ _ _ _ _ _ us hl => match us, hl with | [_, _], _ => rfl
 unfold f__law_bad_step
 refine ⟨fd, Fd, fn_q Fd q3k fun cdv A outer s H E hr => ?_⟩
 refine xdk hr fun hu3 hu hu2 tk => ?_
 unfold m__law_bad_step
 exact (qss_cons (qs_set (i := 3) q3k.nd rfl q7l (qe_op oq_mod (qe_callTy cq_int q1x G.f_int rfl (qa_cons (qe_ix (xq_ixX hu2) (qe_var (i := 0) rfl q1p) qe_int fun _ _ => rfl) qa_nil)) (qe_var (i := 1) rfl q3l)))
 (qss_cons (qs_set (i := 4) q3k.nd rfl q7m (qe_ix (xq_ixX hu2) (qe_lstV (qa_cons (qe_un uq_neg qe_int) (qa_cons (qe_var (i := 1) rfl q3l) (qa_cons (qe_op oq_add (qe_var (i := 1) rfl q3l) (qe_callTy cq_int q1x G.f_int rfl (qa_cons (qe_ix (xq_ixX hu2) (qe_var (i := 0) rfl q1p) qe_int fun _ _ => rfl) qa_nil))) (qa_cons (qe_op oq_sub (qe_un uq_neg qe_int) (qe_callTy cq_int q1x G.f_int rfl (qa_cons (qe_ix (xq_ixX hu2) (qe_var (i := 0) rfl q1p) qe_int fun _ _ => rfl) qa_nil))) qa_nil))))) (qe_op oq_mod (qe_callTy cq_int q1x G.f_int rfl (qa_cons (qe_ix (xq_ixX hu2) (qe_var (i := 0) rfl q1p) qe_int fun _ _ => rfl) qa_nil)) qe_int) fun _ _ => rfl))
 (qss_cons (qs_if (qt_cmp (oq_eq hu) (qe_op oq_mod (qe_callTy cq_int q1x G.f_int rfl (qa_cons (qe_ix (xq_ixX hu2) (qe_var (i := 0) rfl q1p) qe_int fun _ _ => rfl) qa_nil)) qe_int) qe_int (nomark _))
 (qss_one (qs_ret (qe_tup (qa_cons (qe_var (i := 4) rfl q4u) (qa_cons (qe_var (i := 2) rfl q3m) (qa_cons (qe_var (i := 3) rfl q31) qa_nil))))))
 qss_nil)
 (qss_cons (qs_if (qt_cmp (oq_eq hu) (qe_op oq_mod (qe_callTy cq_int q1x G.f_int rfl (qa_cons (qe_ix (xq_ixX hu2) (qe_var (i := 0) rfl q1p) qe_int fun _ _ => rfl) qa_nil)) qe_int) qe_int (nomark _))
 (qss_one (qs_ret (qe_tup (qa_cons (qe_var (i := 3) rfl q31) (qa_cons (qe_var (i := 2) rfl q3m) (qa_cons (qe_var (i := 4) rfl q4u) qa_nil))))))
 qss_nil)
 (qss_one (qs_ret (qe_tup (qa_cons (qe_var (i := 3) rfl q31) (qa_cons (qe_call (dvs := []) (ds := []) (dds := []) q9h tk (hr.mono (by decide)) q7n G.g__law_bad_ask P__law_bad_ask B__law_bad_ask .nil Dfl.nil (qa_cons (qe_slice sq_sl (qe_var (i := 0) rfl q1p) (qo_some qe_int) qo_none) (qa_cons (qe_var (i := 2) rfl q3m) qa_nil))) (qa_cons (qe_var (i := 3) rfl q31) qa_nil))))))))))
theorem q9i (G : Facts K mg) : ∃ fd, FunD K "_law_due" "_law_due" (defArgs q18) (defBody q18) (defScope q18) [] [] (He.ga K "_law_due") fd ∧ FnOk P0 w K mg base (L2N.CX P0 w) 1 (He.ga K "_law_due") fd ["_law_faults", "_law_size", "_law_here"] (SpM ⟨P0, w, K, cl K⟩ 3 f__law_due_7) := by
 obtain ⟨fd, Fd⟩ := G.q2a
 unfold f__law_due_7
 refine ⟨fd, Fd, fn_q Fd q7o fun cdv A outer s H E hr => ?_⟩
 refine xdk hr fun hu3 hu hu2 tk => ?_
 unfold m__law_due_7
 exact (qss_cons (qs_if (qt_cmp (oq_inX hu2) qe_int (qe_var (i := 0) rfl q1y) (by with_unfolding_all rfl))
 (qss_one (qs_ret (qe_tup (qa_cons qe_str (qa_cons qe_bl (qa_cons qe_str qa_nil))))))
 qss_nil)
 (qss_cons (qs_if (qt_cmp (oq_inX hu2) qe_int (qe_var (i := 0) rfl q1y) (by with_unfolding_all rfl))
 (qss_one (qs_ret (qe_tup (qa_cons qe_str (qa_cons qe_bl (qa_cons (qe_var (i := 1) rfl q4v) qa_nil))))))
 qss_nil)
 (qss_cons (qs_if (qt_cmp (oq_inX hu2) qe_int (qe_var (i := 0) rfl q1y) (by with_unfolding_all rfl))
 (qss_one (qs_ret (qe_tup (qa_cons qe_str (qa_cons qe_bl (qa_cons qe_str qa_nil))))))
 qss_nil)
 (qss_cons (qs_if (qt_cmp (oq_inX hu2) qe_int (qe_var (i := 0) rfl q1y) (by with_unfolding_all rfl))
 (qss_one (qs_ret (qe_tup (qa_cons qe_str (qa_cons qe_bl (qa_cons qe_str qa_nil))))))
 qss_nil)
 (qss_cons (qs_if (qt_cmp (oq_inX hu2) qe_int (qe_var (i := 0) rfl q1y) (by with_unfolding_all rfl))
 (qss_one (qs_ret (qe_tup (qa_cons qe_str (qa_cons qe_bl (qa_cons qe_int qa_nil))))))
 qss_nil)
 (qss_cons (qs_if (qt_cmp (oq_inX hu2) qe_int (qe_var (i := 0) rfl q1y) (by with_unfolding_all rfl))
 (qss_one (qs_ret (qe_tup (qa_cons qe_str (qa_cons qe_bl (qa_cons (qe_var (i := 2) rfl q7p) qa_nil))))))
 qss_nil)
 (qss_one (qs_ret (qe_tup (qa_cons qe_str (qa_cons qe_bl (qa_cons (qe_var (i := 1) rfl q4v) qa_nil))))))))))))
theorem q9j (G : Facts K mg) : ∃ fd, ErrD P0 K "__init__" "BadMachine.__init__" (defArgs q1b) (defBody q1b) (defScope q1b) (cl K 1) (He.ma K (He.ga K "BadMachine") "__init__") fd ∧ FnOk P0 w K mg base (L2N.CX P0 w) 1 (He.ma K (He.ga K "BadMachine") "__init__") fd ["self", "part"] (errSp (cl K 1) ["self", "part"] (tErr K ["part"] 1)) := by
 obtain ⟨fd, Fd⟩ := G.q2b
 exact ⟨fd, Fd, ErrD.ok (t := tCons (tC (.str "invalid part of a machine")) tNil) Fd q7q rfl rfl (by decide +kernel) G.f_super (fun _ _ _ _ _ _ _ => pa_cons pe_str pa_nil) (fun _ _ _ h => h _ (by simp)) (fun _ _ _ _ _ _ _ => pss_one (ps_ost (pv 0) (pv 1))) (fun _ => rfl) (fun _ => rfl) (fun _ => rfl) (fun _ => rfl) (fun _ _ _ => rfl)⟩
theorem q60 (G : Facts K mg) : ∃ fd, ErrD P0 K "__init__" "TooLarge.__init__" (defArgs q1c) (defBody q1c) (defScope q1c) (cl K 3) (He.ma K (He.ga K "TooLarge") "__init__") fd ∧ FnOk P0 w K mg base (L2N.CX P0 w) 1 (He.ma K (He.ga K "TooLarge") "__init__") fd ["self", "size"] (errSp (cl K 3) ["self", "size"] (tErr K ["size"] 1)) := by
 obtain ⟨fd, Fd⟩ := G.q2c
 exact ⟨fd, Fd, ErrD.ok (t := tCons (tC (.str "too large")) tNil) Fd q7r rfl rfl (by decide +kernel) G.f_super (fun _ _ _ _ _ _ _ => pa_cons pe_str pa_nil) (fun _ _ _ h => h _ (by simp)) (fun _ _ _ _ _ _ _ => pss_one (ps_ost (pv 0) (pv 1))) (fun _ => rfl) (fun _ => rfl) (fun _ => rfl) (fun _ => rfl) (fun _ _ _ => rfl)⟩
theorem q9k (G : Facts K mg) : ∃ fd, FunD K "is_ask" "is_ask" (defArgs q16) (defBody q16) (defScope q16) [] [] (He.ga K "is_ask") fd ∧ FnOk P0 w K mg base (L2N.CX P0 w) 1 (He.ga K "is_ask") fd ["ask"] (SpM ⟨P0, w, K, cl K⟩ 1 f_is_ask) := by
 obtain ⟨fd, Fd⟩ := G.q2d
 unfold f_is_ask
 refine ⟨fd, Fd, fn_q Fd q3n fun cdv A outer s H E hr => ?_⟩
 refine xdk hr fun hu3 hu hu2 tk => ?_
 unfold m_is_ask
 exact (qss_cons (qs_if (qt_w (qw_or (qt_cmp oq_ltI (qe_callB cq_len q4w G.f_len rfl (qa_cons (qe_var (i := 0) rfl q3o) qa_nil)) qe_int (nomark _)) (qw_or1 (qt_cmp oq_gtI (qe_callB cq_len q4w G.f_len rfl (qa_cons (qe_var (i := 0) rfl q3o) qa_nil)) (qe_gInt q7s (G.i_MOST_SIGNS).choose_spec) (nomark _)))))
 (qss_one (qs_ret qe_bl))
 qss_nil)
 (qss_one (qs_ret (qe_callB (cq_all rfl) q7t G.f_all rfl (qa_cons (qe_lcV  rfl q3n.nd (qi_chr (qe_var (i := 0) rfl q3o)) (own := [("sign", 1)]) (show BlkOk ["ask", "sign"] (defScope q16) _ [("sign", 1)] from ⟨rfl, by decide +kernel, by decide +kernel, by decide +kernel, by decide +kernel⟩) (fun _ _ _ _ _ => (qg_name (i := 1) q3n.nd rfl (by first | exact Or.inl rfl | exact Or.inr rfl))) (fun _ _ _ _ _ => qts_nil) (fun _ _ _ _ _ => (qe_cmp (oq_inX hu2) (qe_var (i := 1) rfl (by first | exact Or.inl rfl | exact Or.inr (Or.inl rfl) | exact Or.inr (Or.inr rfl))) (qe_gStr rfl (G.i_LETTERS).choose_spec) (by with_unfolding_all rfl))) (by decide)) qa_nil)))))
theorem q9l (G : Facts K mg) : ∃ fd, FunD K "check_parts" "check_parts" (defArgs qo) (defBody qo) (defScope qo) [] [] (He.ga K "check_parts") fd ∧ FnOk P0 w K mg base (L2N.CX P0 w) 3 (He.ga K "check_parts") fd ["size", "marks", "steps"] (SpM ⟨P0, w, K, cl K⟩ 3 f_check_parts) := by
 obtain ⟨fd, Fd⟩ := G.q2e
 obtain ⟨q9m, q61, q41⟩ := q9j (w := w) (base := base) G
 have P_BadMachineu_initu := q61.kp
 have B_BadMachineu_initu : Binds K q9m ["self", "part"] [] := q61.bindsN fun _ _ _ _ _ _ _ us hl => match us, hl with | [_, _], _ => rfl
 obtain ⟨q42, q2t, q43⟩ := q60 (w := w) (base := base) G
 have P_TooLargeu_initu := q2t.kp
 have B_TooLargeu_initu : Binds K q42 ["self", "size"] [] := q2t.bindsN fun _ _ _ _ _ _ _ us hl => match us, hl with | [_, _], _ => rfl
 obtain ⟨q9n, q62, q9o⟩ := q9k (w := w) (base := base) G
 have P_is_ask := q62.kp
 have B_is_ask : Binds K q9n ["ask"] [] := q62.bindsN fun _ _ _ _ _ _ us hl => match us, hl with | [_], _ => rfl
 unfold f_check_parts
 refine ⟨fd, Fd, fn_q Fd q2o fun cdv A outer s H E hr => ?_⟩
 refine xdk hr fun hu3 hu hu2 tk => ?_
 unfold m_check_parts
 exact (qss_cons (qs_if (qt_cmp oq_ltI (qe_var (i := 0) rfl q1z) qe_int (nomark _))
 (qss_one (qs_raise1 (c := 1) rfl tk G.ox_BadMachine G.xf_BadMachine_part G.in_BadMachine.1 G.in_BadMachine.2 q41 (hr.mono (by decide)) B_BadMachineu_initu q3p G.g_BadMachine (qa_cons qe_str qa_nil)))
 qss_nil)
 (qss_cons (qs_if (qt_cmp oq_gtI (qe_var (i := 0) rfl q1z) (qe_gInt q81 (G.i_MOST_STATES).choose_spec) (nomark _))
 (qss_one (qs_raise1 (c := 3) rfl tk G.ox_TooLarge G.xf_TooLarge_size G.in_TooLarge.1 G.in_TooLarge.2 q43 (hr.mono (by decide)) B_TooLargeu_initu q82 G.g_TooLarge (qa_cons (qe_var (i := 0) rfl q1z) qa_nil)))
 qss_nil)
 (qss_cons (qs_for (passes_of rfl) rfl (qi_val (qe_var (i := 1) rfl q7u)) (qg_name (i := 3) q2o.nd rfl q7x)
 (qss_one (qs_if (qt_w (qw_or (qt_cmp oq_ltI (qe_var (i := 3) rfl q4x) qe_int (nomark _)) (qw_or1 (qt_cmp oq_geI (qe_var (i := 3) rfl q4x) (qe_var (i := 0) rfl q1z) (nomark _)))))
 (qss_one (qs_raise1 (c := 1) rfl tk G.ox_BadMachine G.xf_BadMachine_part G.in_BadMachine.1 G.in_BadMachine.2 q41 (hr.mono (by decide)) B_BadMachineu_initu q3p G.g_BadMachine (qa_cons qe_str qa_nil)))
 qss_nil)))
 (qss_one (qs_for (passes_of rfl) rfl (qi_val (qe_var (i := 2) rfl q7v)) (qg_tup rfl (qgs_cons (qg_name (i := 4) q2o.nd rfl q7y) (qgs_cons (qg_name (i := 5) q2o.nd rfl q7z) (qgs_cons (qg_name (i := 6) q2o.nd rfl q80) qgs_nil))))
 (qss_one (qs_if (qt_w (qw_or (qt_cmp oq_ltI (qe_var (i := 4) rfl q4y) qe_int (nomark _)) (qw_or (qt_cmp oq_geI (qe_var (i := 4) rfl q4y) (qe_var (i := 0) rfl q1z) (nomark _)) (qw_or (qt_cmp oq_ltI (qe_var (i := 6) rfl q4z) qe_int (nomark _)) (qw_or (qt_cmp oq_geI (qe_var (i := 6) rfl q4z) (qe_var (i := 0) rfl q1z) (nomark _)) (qw_or1 (qt_not (qt_val (qe_call (dvs := []) (ds := []) (dds := []) q9o tk (hr.mono (by decide)) q83 G.g_is_ask P_is_ask B_is_ask .nil Dfl.nil (qa_cons (qe_var (i := 5) rfl q7w) qa_nil))))))))))
 (qss_one (qs_raise1 (c := 1) rfl tk G.ox_BadMachine G.xf_BadMachine_part G.in_BadMachine.1 G.in_BadMachine.2 q41 (hr.mono (by decide)) B_BadMachineu_initu q3p G.g_BadMachine (qa_cons qe_str qa_nil)))
 qss_nil)))))))
theorem q9p (G : Facts K mg) : ∃ fd, FunD K "in_order" "in_order" (defArgs qw) (defBody qw) (defScope qw) [] [] (He.ga K "in_order") fd ∧ FnOk P0 w K mg base (L2N.CX P0 w) 1 (He.ga K "in_order") fd ["rows"] (SpM ⟨P0, w, K, cl K⟩ 1 f_in_order) := by
 obtain ⟨fd, Fd⟩ := G.q2f
 unfold f_in_order
 refine ⟨fd, Fd, fn_q Fd q1l fun cdv A outer s H E hr => ?_⟩
 refine xdk hr fun hu3 hu hu2 tk => ?_
 unfold m_in_order
 exact (qss_cons (qs_set (i := 1) q1l.nd rfl q85 (qe_lstS qa_nil))
 (qss_cons (qs_for (passes_of rfl) rfl (qi_val (qe_var (i := 0) rfl q84)) (qg_name (i := 2) q1l.nd rfl q86)
 (qss_cons (qs_set (i := 3) q1l.nd rfl q51 qe_int)
 (qss_cons (qs_set (i := 4) q1l.nd rfl q52 (qe_callB cq_len q53 G.f_len rfl (qa_cons (qe_var (i := 1) rfl q20) qa_nil)))
 (qss_cons (qs_while (passes_of rfl) (qt_cmp (oq_ltD hu) (qe_var (i := 3) rfl q2p) (qe_var (i := 4) rfl q50) (nomark _))
 (qss_cons (qs_set (i := 5) q1l.nd rfl q87 (qe_op oq_div (qe_op oq_add (qe_var (i := 3) rfl q2p) (qe_var (i := 4) rfl q50)) qe_int))
 (qss_one (qs_if (qt_cmp (oq_ltD hu) (qe_ix (xq_ixX hu2) (qe_var (i := 1) rfl q20) (qe_var (i := 5) rfl q3q) fun _ _ => rfl) (qe_var (i := 2) rfl q3r) (nomark _))
 (qss_one (qs_set (i := 3) q1l.nd rfl q51 (qe_op oq_add (qe_var (i := 5) rfl q3q) qe_int)))
 (qss_one (qs_set (i := 4) q1l.nd rfl q52 (qe_var (i := 5) rfl q3q)))))))
 (qss_one (qs_if (qt_w (qw_or (qt_cmp (oq_eq hu) (qe_var (i := 3) rfl q2p) (qe_callB cq_len q53 G.f_len rfl (qa_cons (qe_var (i := 1) rfl q20) qa_nil)) (nomark _)) (qw_or1 (qt_cmp (oq_ne hu) (qe_ix (xq_ixX hu2) (qe_var (i := 1) rfl q20) (qe_var (i := 3) rfl q2p) fun _ _ => rfl) (qe_var (i := 2) rfl q3r) (nomark _)))))
 (qss_one (qs_expr (qe_bm chk_list PySem.F.plainAttrs_list PySem.F.slot_list_insert PySem.F.type_list_insert mq_insert (qe_var (i := 1) rfl q20) (qa_cons (qe_var (i := 3) rfl q2p) (qa_cons (qe_var (i := 2) rfl q3r) qa_nil)))))
 qss_nil))))))
 (qss_one (qs_ret (qe_var (i := 1) rfl q20)))))
theorem q9q (G : Facts K mg) : ∃ fd, ErrD P0 K "__init__" "BadState.__init__" (defArgs q1d) (defBody q1d) (defScope q1d) (cl K 2) (He.ma K (He.ga K "BadState") "__init__") fd ∧ FnOk P0 w K mg base (L2N.CX P0 w) 1 (He.ma K (He.ga K "BadState") "__init__") fd ["self", "state"] (errSp (cl K 2) ["self", "state"] (tErr K ["state"] 1)) := by
 obtain ⟨fd, Fd⟩ := G.q2g
 exact ⟨fd, Fd, ErrD.ok (t := tCons (tC (.str "invalid state")) tNil) Fd q88 rfl rfl (by decide +kernel) G.f_super (fun _ _ _ _ _ _ _ => pa_cons pe_str pa_nil) (fun _ _ _ h => h _ (by simp)) (fun _ _ _ _ _ _ _ => pss_one (ps_ost (pv 0) (pv 1))) (fun _ => rfl) (fun _ => rfl) (fun _ => rfl) (fun _ => rfl) (fun _ _ _ => rfl)⟩
theorem q9r (G : Facts K mg) : ∃ fd, FunD K "ends_by_ask" "ends_by_ask" (defArgs q11) (defBody q11) (defScope q11) [] [] (He.ga K "ends_by_ask") fd ∧ FnOk P0 w K mg base (L2N.CX P0 w) 1 (He.ga K "ends_by_ask") fd ["steps"] (SpM ⟨P0, w, K, cl K⟩ 1 f_ends_by_ask) := by
 obtain ⟨fd, Fd⟩ := G.q2h
 unfold f_ends_by_ask
 refine ⟨fd, Fd, fn_q Fd q2q fun cdv A outer s H E hr => ?_⟩
 refine xdk hr fun hu3 hu hu2 tk => ?_
 unfold m_ends_by_ask
 exact (qss_cons (qs_set (i := 1) q2q.nd rfl q8b qe_dict)
 (qss_cons (qs_for (passes_of rfl) rfl (qi_val (qe_var (i := 0) rfl q89)) (qg_tup rfl (qgs_cons (qg_name (i := 2) q2q.nd rfl q8c) (qgs_cons (qg_name (i := 3) q2q.nd rfl q8d) (qgs_cons (qg_name (i := 4) q2q.nd rfl q8e) qgs_nil))))
 (qss_one (qs_sub hu2 (qe_var (i := 1) rfl q3s) (qe_tup (qa_cons (qe_var (i := 2) rfl q54) (qa_cons (qe_var (i := 3) rfl q55) qa_nil))) (qe_op oq_add (qe_dm PySem.F.slot_dict_get PySem.F.type_dict_get (mq_get hu2) (qe_var (i := 1) rfl q3s) (qa_cons (qe_tup (qa_cons (qe_var (i := 2) rfl q54) (qa_cons (qe_var (i := 3) rfl q55) qa_nil))) (qa_cons (qe_tup qa_nil) qa_nil))) (qe_tup (qa_cons (qe_var (i := 4) rfl q8a) qa_nil))))))
 (qss_one (qs_ret (qe_var (i := 1) rfl q3s)))))
theorem q63 (G : Facts K mg) : ∃ fd, FunD K "__init__" "Machine.__init__" (defArgs qm) (defBody qm) (defScope qm) [.int (0)] [] (He.ma K (He.ga K "Machine") "__init__") fd ∧ FnOk P0 w K mg base (L2N.CX P0 w) 4 (He.ma K (He.ga K "Machine") "__init__") fd ["self", "size", "marks", "steps", "now"] (SpM ⟨P0, w, K, cl K⟩ 5 f_Machineu_initu) := by
 obtain ⟨fd, Fd⟩ := G.q2i
 obtain ⟨q9s, q64, q9t⟩ := q9l (w := w) (base := base) G
 have P_check_parts := q64.kp
 have B_check_parts : Binds K q9s ["size", "marks", "steps"] [] := q64.bindsN fun _ _ _ _ _ _ us hl => match us, hl with | [_, _, _], _ => rfl
 obtain ⟨q9u, q65, q66⟩ := q9p (w := w) (base := base) G
 have P_in_order := q65.kp
 have B_in_order : Binds K q9u ["rows"] [] := q65.bindsN fun _ _ _ _ _ _ us hl => match us, hl with | [_], _ => rfl
 obtain ⟨q42, q2t, q43⟩ := q60 (w := w) (base := base) G
 have P_TooLargeu_initu := q2t.kp
 have B_TooLargeu_initu : Binds K q42 ["self", "size"] [] := q2t.bindsN fun _ _ _ _ _ _ _ us hl => match us, hl with | [_, _], _ => rfl
 obtain ⟨q9v, q67, q9w⟩ := q9q (w := w) (base := base) G
 have P_BadStateu_initu := q67.kp
 have B_BadStateu_initu : Binds K q9v ["self", "state"] [] := q67.bindsN fun _ _ _ _ _ _ _ us hl => match us, hl with | [_, _], _ => rfl
 obtain ⟨q9x, q68, q9y⟩ := q9r (w := w) (base := base) G
 have P_ends_by_ask := q68.kp
 have B_ends_by_ask : Binds K q9x ["steps"] [] := q68.bindsN fun _ _ _ _ _ _ us hl => match us, hl with | [_], _ => rfl
 unfold f_Machineu_initu
 refine ⟨fd, Fd, fn_q Fd q21 fun cdv A outer s H E hr => ?_⟩
 refine xdk hr fun hu3 hu hu2 tk => ?_
 unfold m_Machineu_initu
 exact (qss_cons (qs_expr (qe_call (dvs := []) (ds := []) (dds := []) q9t tk (hr.mono (by decide)) q8g G.g_check_parts P_check_parts B_check_parts .nil Dfl.nil (qa_cons (qe_var (i := 1) rfl q3t) (qa_cons (qe_var (i := 2) rfl q56) (qa_cons (qe_var (i := 3) rfl q57) qa_nil)))))
 (qss_cons (qs_set (i := 5) q21.nd rfl q8f (qe_call (dvs := []) (ds := []) (dds := []) q66 tk (hr.mono (by decide)) q58 G.g_in_order P_in_order B_in_order .nil Dfl.nil (qa_cons (qe_lcV  rfl q21.nd (qi_val (qe_var (i := 3) rfl q57)) (own := [("state", 6), ("ask", 7), ("end", 8)]) (show BlkOk ["self", "size", "marks", "steps", "now", "ordered", "state", "ask", "end"] (defScope qm) _ [("state", 6), ("ask", 7), ("end", 8)] from ⟨rfl, by decide +kernel, by decide +kernel, by decide +kernel, by decide +kernel⟩) (fun _ _ _ _ _ => (qg_tup rfl (qgs_cons (qg_name (i := 6) q21.nd rfl (by first | exact Or.inl rfl | exact Or.inr rfl)) (qgs_cons (qg_name (i := 7) q21.nd rfl (by first | exact Or.inl rfl | exact Or.inr rfl)) (qgs_cons (qg_name (i := 8) q21.nd rfl (by first | exact Or.inl rfl | exact Or.inr rfl)) qgs_nil))))) (fun _ _ _ _ _ => qts_nil) (fun _ _ _ _ _ => (qe_tup (qa_cons (qe_var (i := 6) rfl (by first | exact Or.inl rfl | exact Or.inr (Or.inl rfl) | exact Or.inr (Or.inr rfl))) (qa_cons (qe_var (i := 7) rfl (by first | exact Or.inl rfl | exact Or.inr (Or.inl rfl) | exact Or.inr (Or.inr rfl))) (qa_cons (qe_var (i := 8) rfl (by first | exact Or.inl rfl | exact Or.inr (Or.inl rfl) | exact Or.inr (Or.inr rfl))) qa_nil))))) (by decide)) qa_nil)))
 (qss_cons (qs_if (qt_cmp oq_gtI (qe_callB cq_len q59 G.f_len rfl (qa_cons (qe_var (i := 5) rfl q32) qa_nil)) (qe_gInt q8h (G.i_MOST_STEPS).choose_spec) (nomark _))
 (qss_one (qs_raise1 (c := 3) rfl tk G.ox_TooLarge G.xf_TooLarge_size G.in_TooLarge.1 G.in_TooLarge.2 q43 (hr.mono (by decide)) B_TooLargeu_initu q8i G.g_TooLarge (qa_cons (qe_callB cq_len q59 G.f_len rfl (qa_cons (qe_var (i := 5) rfl q32) qa_nil)) qa_nil)))
 qss_nil)
 (qss_cons (qs_if (qt_w (qw_or (qt_cmp oq_ltI (qe_var (i := 4) rfl q33) qe_int (nomark _)) (qw_or1 (qt_cmp oq_geI (qe_var (i := 4) rfl q33) (qe_var (i := 1) rfl q3t) (nomark _)))))
 (qss_one (qs_raise1 (c := 2) rfl tk G.ox_BadState G.xf_BadState_state G.in_BadState.1 G.in_BadState.2 q9w (hr.mono (by decide)) B_BadStateu_initu q8j G.g_BadState (qa_cons (qe_var (i := 4) rfl q33) qa_nil)))
 qss_nil)
 (qss_cons (qs_fld (qe_var (i := 0) rfl q2r) (qe_var (i := 1) rfl q3t) G.n_size)
 (qss_cons (qs_fld (qe_var (i := 0) rfl q2r) (qe_callTy cq_tuple q5a G.f_tuple rfl (qa_cons (qe_call (dvs := []) (ds := []) (dds := []) q66 tk (hr.mono (by decide)) q58 G.g_in_order P_in_order B_in_order .nil Dfl.nil (qa_cons (qe_var (i := 2) rfl q56) qa_nil)) qa_nil)) G.n_marks)
 (qss_cons (qs_fld (qe_var (i := 0) rfl q2r) (qe_callTy cq_tuple q5a G.f_tuple rfl (qa_cons (qe_var (i := 5) rfl q32) qa_nil)) G.n_steps)
 (qss_cons (qs_fld (qe_var (i := 0) rfl q2r) (qe_call (dvs := []) (ds := []) (dds := []) q9y tk (hr.mono (by decide)) q8k G.g_ends_by_ask P_ends_by_ask B_ends_by_ask .nil Dfl.nil (qa_cons (qe_var (i := 5) rfl q32) qa_nil)) G.n_ends)
 (qss_one (qs_fld (qe_var (i := 0) rfl q2r) (qe_var (i := 4) rfl q33) G.n_place))))))))))
theorem q9z (G : Facts K mg) : ∃ fd, SupD P0 K "__init__" "Service.__init__" (defArgs q1e) (defBody q1e) (defScope q1e) [.int (0)] (cl K 13) (He.ma K (He.ga K "Machine") "__init__") (He.ma K (He.ga K "Service") "__init__") fd ∧ FnOk P0 w K mg base (L2N.CX P0 w) 5 (He.ma K (He.ga K "Service") "__init__") fd ["self", "size", "marks", "steps", "now"] (SpM ⟨P0, w, K, cl K⟩ 5 f_Serviceu_initu) := by
 obtain ⟨fd, Fd⟩ := G.q2j
 obtain ⟨q44, q1k, q45⟩ := q63 (w := w) (base := base) G
 have P_Machineu_initu := q1k.kp
 obtain ⟨da_Machineu_initu, va_Machineu_initu, Ba_Machineu_initu⟩ := q1k.binds1 (ps := ["self", "size", "marks", "steps", "now"]) 5 1 (by simp) rfl (fun _ _ _ _ _ _ _ us its l1 l2 => match us, its, l1, l2 with | [_, _, _, _, _], [_], _, _ => ⟨_, rfl, rfl⟩)
 have B_Machineu_initu : Binds K q44 ["self", "size", "marks", "steps", "now"] [] := by rw [nil_vals va_Machineu_initu] at Ba_Machineu_initu; exact Ba_Machineu_initu
 obtain ⟨ds_Machineu_initu, VD_Machineu_initu, BD_Machineu_initu⟩ := q1k.binds1 (ps := ["self", "size", "marks", "steps", "now"]) 4 0 (by simp) rfl (fun _ _ _ _ _ _ _ us its l1 l2 => match us, its, l1, l2 with | [_, _, _, _], [_], _, _ => ⟨_, rfl, rfl⟩)
 have KB_Machineu_initu_now := funD_kb q1k (ps := ["self", "size", "marks", "steps", "now"]) 4 ["now"] (by simp) (fun _ _ _ _ _ _ _ us its ws l1 l2 l3 => match us, its, ws, l1, l2, l3 with | [_, _, _, _], [_], [_], _, _, _ => ⟨_, rfl, rfl⟩)
 unfold f_Serviceu_initu
 refine ⟨fd, Fd, sup_q rfl (SupD.ok (t := (tCons (tVar 1) (tCons (tVar 2) (tCons (tVar 3) (tCons (tVar 4) tNil))))) Fd q8l rfl rfl (by decide +kernel) G.f_super q45 B_Machineu_initu (fun _ _ _ _ _ _ _ => (pa_cons (pv 1) (pa_cons (pv 2) (pa_cons (pv 3) (pa_cons (pv 4) pa_nil))))) (fun v ws H Q hl hq => match ws, hl with | [a1, a2, a3, a4], _ => ⟨a1, rfl, a2, rfl, a3, rfl, a4, rfl, hq⟩) (fun _ => rfl) (fun _ => rfl) (fun _ => rfl) (fun _ => rfl) (fun _ _ _ => rfl))⟩
theorem qa0 (G : Facts K mg) : ∃ fd, SupD P0 K "__init__" "Pattern.__init__" (defArgs q1f) (defBody q1f) (defScope q1f) [.int (0)] (cl K 14) (He.ma K (He.ga K "Machine") "__init__") (He.ma K (He.ga K "Pattern") "__init__") fd ∧ FnOk P0 w K mg base (L2N.CX P0 w) 5 (He.ma K (He.ga K "Pattern") "__init__") fd ["self", "size", "marks", "steps", "now"] (SpM ⟨P0, w, K, cl K⟩ 5 f_Patternu_initu) := by
 obtain ⟨fd, Fd⟩ := G.q2k
 obtain ⟨q44, q1k, q45⟩ := q63 (w := w) (base := base) G
 have P_Machineu_initu := q1k.kp
 obtain ⟨da_Machineu_initu, va_Machineu_initu, Ba_Machineu_initu⟩ := q1k.binds1 (ps := ["self", "size", "marks", "steps", "now"]) 5 1 (by simp) rfl (fun _ _ _ _ _ _ _ us its l1 l2 => match us, its, l1, l2 with | [_, _, _, _, _], [_], _, _ => ⟨_, rfl, rfl⟩)
 have B_Machineu_initu : Binds K q44 ["self", "size", "marks", "steps", "now"] [] := by rw [nil_vals va_Machineu_initu] at Ba_Machineu_initu; exact Ba_Machineu_initu
 obtain ⟨ds_Machineu_initu, VD_Machineu_initu, BD_Machineu_initu⟩ := q1k.binds1 (ps := ["self", "size", "marks", "steps", "now"]) 4 0 (by simp) rfl (fun _ _ _ _ _ _ _ us its l1 l2 => match us, its, l1, l2 with | [_, _, _, _], [_], _, _ => ⟨_, rfl, rfl⟩)
 have KB_Machineu_initu_now := funD_kb q1k (ps := ["self", "size", "marks", "steps", "now"]) 4 ["now"] (by simp) (fun _ _ _ _ _ _ _ us its ws l1 l2 l3 => match us, its, ws, l1, l2, l3 with | [_, _, _, _], [_], [_], _, _, _ => ⟨_, rfl, rfl⟩)
 unfold f_Patternu_initu
 refine ⟨fd, Fd, sup_q rfl (SupD.ok (t := (tCons (tVar 1) (tCons (tVar 2) (tCons (tVar 3) (tCons (tVar 4) tNil))))) Fd q8m rfl rfl (by decide +kernel) G.f_super q45 B_Machineu_initu (fun _ _ _ _ _ _ _ => (pa_cons (pv 1) (pa_cons (pv 2) (pa_cons (pv 3) (pa_cons (pv 4) pa_nil))))) (fun v ws H Q hl hq => match ws, hl with | [a1, a2, a3, a4], _ => ⟨a1, rfl, a2, rfl, a3, rfl, a4, rfl, hq⟩) (fun _ => rfl) (fun _ => rfl) (fun _ => rfl) (fun _ => rfl) (fun _ _ _ => rfl))⟩
theorem qal (G : Facts K mg) : ∃ fd, FunD K "_law_kinds" "_law_kinds" (defArgs qj) (defBody qj) (defScope qj) [] [] (He.ga K "_law_kinds") fd ∧ FnOk P0 w K mg base (L2N.CX P0 w) 1 (He.ga K "_law_kinds") fd ["_law_e"] (SpM ⟨P0, w, K, cl K⟩ 1 f__law_kinds) := by
 obtain ⟨fd, Fd⟩ := G.q1r
 unfold f__law_kinds
 refine ⟨fd, Fd, fn_q Fd q1m fun cdv A outer s H E hr => ?_⟩
 refine xdk hr fun hu3 hu hu2 tk => ?_
 unfold m__law_kinds
 exact (qss_cons (qs_set (i := 1) q1m.nd rfl q5c (qe_lstV (qa_cons (qe_callB (cq_isE G.xT) q1h G.f_isinstance rfl (qa_cons (qe_var (i := 0) rfl q1g) (qa_cons (qe_gCls (i := 1) q5d G.g_BadMachine) qa_nil))) (qa_cons (qe_callB (cq_isE G.xT) q1h G.f_isinstance rfl (qa_cons (qe_var (i := 0) rfl q1g) (qa_cons (qe_gCls (i := 3) q5e G.g_TooLarge) qa_nil))) (qa_cons (qe_callB (cq_isE G.xT) q1h G.f_isinstance rfl (qa_cons (qe_var (i := 0) rfl q1g) (qa_cons (qe_gCls (i := 2) q5f G.g_BadState) qa_nil))) qa_nil)))))
 (qss_one (qs_ret (qe_and (qe_callB (cq_isE G.xT) q1h G.f_isinstance rfl (qa_cons (qe_var (i := 0) rfl q1g) (qa_cons (qe_gCls (i := 0) q5g G.g_AsksError) qa_nil))) (qe_and (qe_callB (cq_isE G.xT) q1h G.f_isinstance rfl (qa_cons (qe_var (i := 0) rfl q1g) (qa_cons (qe_bTy q5h G.f_ValueError rfl) qa_nil))) (qe_one (qe_cmp (oq_eq hu) (qe_callB (cq_sum rfl) q5i G.f_sum rfl (qa_cons (qe_lcV  rfl q1m.nd (qi_lst (qe_var (i := 1) rfl q5b)) (own := [("_law_kind", 2)]) (show BlkOk ["_law_e", "_law_kinds_here", "_law_kind"] (defScope qj) _ [("_law_kind", 2)] from ⟨rfl, by decide +kernel, by decide +kernel, by decide +kernel, by decide +kernel⟩) (fun _ _ _ _ _ => (qg_name (i := 2) q1m.nd rfl (by first | exact Or.inl rfl | exact Or.inr rfl))) (fun _ _ _ _ _ => qts_nil) (fun _ _ _ _ _ => (qe_callTy cq_int rfl G.f_int rfl (qa_cons (qe_var (i := 2) rfl (by first | exact Or.inl rfl | exact Or.inr (Or.inl rfl) | exact Or.inr (Or.inr rfl))) qa_nil))) (by decide)) qa_nil)) qe_int (nomark _))))))))
theorem okl__law_kinds (G : Facts K mg) : ∃ fd, FunD K "_law_kinds" "_law_kinds" (defArgs qj) (defBody qj) (defScope qj) [] [] (He.ga K "_law_kinds") fd ∧ FnLH P0 w K mg base 1 (He.ga K "_law_kinds") fd ["_law_e"] (SpM ⟨P0, w, K, cl K⟩ 1 f__law_kinds) := by
 obtain ⟨fd, Fd⟩ := G.q1r
 unfold f__law_kinds
 refine ⟨fd, Fd, fn_lh Fd q1m fun cdv A outer s H hr hX => ?_⟩
 have hu : (XdL P0 w K mg base ["_law_e", "_law_kinds_here", "_law_kind"] "_law_kinds" (defScope qj) (He.ga K "_law_kinds") cdv A outer s H).A.units + 64 < cLine := by have := hr.un; show (A.deeper _).units + 64 < cLine; omega
 have hu2 : (XdL P0 w K mg base ["_law_e", "_law_kinds_here", "_law_kind"] "_law_kinds" (defScope qj) (He.ga K "_law_kinds") cdv A outer s H).A.units + 20 < cLine := by omega
 unfold m__law_kinds
 exact (qss_cons (qs_set (i := 1) q1m.nd rfl q5c (qe_lstV (qa_cons (qe_callB (cq_isE G.xT) q1h G.f_isinstance rfl (qa_cons (qe_var (i := 0) rfl q1g) (qa_cons (qe_gCls (i := 1) q5d G.g_BadMachine) qa_nil))) (qa_cons (qe_callB (cq_isE G.xT) q1h G.f_isinstance rfl (qa_cons (qe_var (i := 0) rfl q1g) (qa_cons (qe_gCls (i := 3) q5e G.g_TooLarge) qa_nil))) (qa_cons (qe_callB (cq_isE G.xT) q1h G.f_isinstance rfl (qa_cons (qe_var (i := 0) rfl q1g) (qa_cons (qe_gCls (i := 2) q5f G.g_BadState) qa_nil))) qa_nil)))))
 (qss_one (qs_ret (qe_and (qe_callB (cq_isE G.xT) q1h G.f_isinstance rfl (qa_cons (qe_var (i := 0) rfl q1g) (qa_cons (qe_gCls (i := 0) q5g G.g_AsksError) qa_nil))) (qe_and (qe_callB (cq_isE G.xT) q1h G.f_isinstance rfl (qa_cons (qe_var (i := 0) rfl q1g) (qa_cons (qe_bTy q5h G.f_ValueError rfl) qa_nil))) (qe_one (qe_cmp (oq_eq hu) (qe_callB (cq_sumO hX) q5i G.f_sum rfl (qa_cons (qe_lcVO hX q1m.nd (qio_lst (qe_var (i := 1) rfl q5b)) (own := [("_law_kind", 2)]) (show BlkOk ["_law_e", "_law_kinds_here", "_law_kind"] (defScope qj) _ [("_law_kind", 2)] from ⟨rfl, by decide +kernel, by decide +kernel, by decide +kernel, by decide +kernel⟩) (fun _ _ _ _ _ => (qg_name (i := 2) q1m.nd rfl (by first | exact Or.inl rfl | exact Or.inr rfl))) (fun _ _ _ _ _ => qts_nil) (fun _ _ _ _ _ => (qe_callTy cq_int rfl G.f_int rfl (qa_cons (qe_var (i := 2) rfl (by first | exact Or.inl rfl | exact Or.inr (Or.inl rfl) | exact Or.inr (Or.inr rfl))) qa_nil))) (by decide)) qa_nil)) qe_int (nomark _))))))))
theorem okl__law_whole (G : Facts K mg) : ∃ fd, FunD K "_law_whole" "_law_whole" (defArgs q15) (defBody q15) (defScope q15) [] [] (He.ga K "_law_whole") fd ∧ FnL P0 w K mg base 1 (He.ga K "_law_whole") fd ["_law_x"] (SpM ⟨P0, w, K, cl K⟩ 1 f__law_whole) := by
 obtain ⟨fd, Fd⟩ := G.q2l
 unfold f__law_whole
 refine ⟨fd, Fd, fn_l Fd q8n fun cdv A outer s H hr => ?_⟩
 have hu : (XdL P0 w K mg base ["_law_x"] "_law_whole" (defScope q15) (He.ga K "_law_whole") cdv A outer s H).A.units + 64 < cLine := by have := hr.un; show (A.deeper _).units + 64 < cLine; omega
 have hu2 : (XdL P0 w K mg base ["_law_x"] "_law_whole" (defScope q15) (He.ga K "_law_whole") cdv A outer s H).A.units + 20 < cLine := by omega
 unfold m__law_whole
 exact (qss_one (qs_ret (qe_and (qe_callB cq_isi q5k G.f_isinstance rfl (qa_cons (qe_var (i := 0) rfl q5j) (qa_cons (qe_bTy q8o G.f_int rfl) qa_nil))) (qe_one (qe_not (qe_callB cq_isi q5k G.f_isinstance rfl (qa_cons (qe_var (i := 0) rfl q5j) (qa_cons (qe_bTy q8p G.f_bool rfl) qa_nil))))))))
theorem qa1 (G : Facts K mg) : ∃ fd, FunD K "_law_made" "_law_made" (defArgs qh) (defBody qh) (defScope qh) [] [] (He.ga K "_law_made") fd ∧ FnOk P0 w K mg base (L2N.CX P0 w) 7 (He.ga K "_law_made") fd ["_law_choice", "_law_size", "_law_marks", "_law_steps", "_law_here"] (SpM ⟨P0, w, K, cl K⟩ 5 f__law_made_4) := by
 obtain ⟨fd, Fd⟩ := G.q2m
 obtain ⟨qa2, q38, q69⟩ := q9z (w := w) (base := base) G
 have P_Serviceu_initu := q38.kp
 obtain ⟨da_Serviceu_initu, va_Serviceu_initu, Ba_Serviceu_initu⟩ := q38.binds1 (ps := ["self", "size", "marks", "steps", "now"]) 5 1 (by simp) rfl (fun _ _ _ _ _ _ _ _ us its l1 l2 => match us, its, l1, l2 with | [_, _, _, _, _], [_], _, _ => ⟨_, rfl, rfl⟩)
 have B_Serviceu_initu : Binds K qa2 ["self", "size", "marks", "steps", "now"] [] := by rw [nil_vals va_Serviceu_initu] at Ba_Serviceu_initu; exact Ba_Serviceu_initu
 obtain ⟨ds_Serviceu_initu, VD_Serviceu_initu, BD_Serviceu_initu⟩ := q38.binds1 (ps := ["self", "size", "marks", "steps", "now"]) 4 0 (by simp) rfl (fun _ _ _ _ _ _ _ _ us its l1 l2 => match us, its, l1, l2 with | [_, _, _, _], [_], _, _ => ⟨_, rfl, rfl⟩)
 have KB_Serviceu_initu_now := SupD.kb q38 (ps := ["self", "size", "marks", "steps", "now"]) 4 ["now"] (by simp) (fun _ _ _ _ _ _ _ _ us its ws l1 l2 l3 => match us, its, ws, l1, l2, l3 with | [_, _, _, _], [_], [_], _, _, _ => ⟨_, rfl, rfl⟩)
 obtain ⟨qa3, q39, qa4⟩ := qa0 (w := w) (base := base) G
 have P_Patternu_initu := q39.kp
 obtain ⟨da_Patternu_initu, va_Patternu_initu, Ba_Patternu_initu⟩ := q39.binds1 (ps := ["self", "size", "marks", "steps", "now"]) 5 1 (by simp) rfl (fun _ _ _ _ _ _ _ _ us its l1 l2 => match us, its, l1, l2 with | [_, _, _, _, _], [_], _, _ => ⟨_, rfl, rfl⟩)
 have B_Patternu_initu : Binds K qa3 ["self", "size", "marks", "steps", "now"] [] := by rw [nil_vals va_Patternu_initu] at Ba_Patternu_initu; exact Ba_Patternu_initu
 obtain ⟨ds_Patternu_initu, VD_Patternu_initu, BD_Patternu_initu⟩ := q39.binds1 (ps := ["self", "size", "marks", "steps", "now"]) 4 0 (by simp) rfl (fun _ _ _ _ _ _ _ _ us its l1 l2 => match us, its, l1, l2 with | [_, _, _, _], [_], _, _ => ⟨_, rfl, rfl⟩)
 have KB_Patternu_initu_now := SupD.kb q39 (ps := ["self", "size", "marks", "steps", "now"]) 4 ["now"] (by simp) (fun _ _ _ _ _ _ _ _ us its ws l1 l2 l3 => match us, its, ws, l1, l2, l3 with | [_, _, _, _], [_], [_], _, _, _ => ⟨_, rfl, rfl⟩)
 obtain ⟨fdL__law_kinds, FL__law_kinds, KL__law_kinds⟩ := okl__law_kinds (w := w) (base := base) G
 have PL__law_kinds := FL__law_kinds.kp
 have BL__law_kinds : Binds K fdL__law_kinds ["_law_e"] [] := FL__law_kinds.bindsN fun _ _ _ _ _ _ us hl => match us, hl with | [_], _ => rfl
 obtain ⟨fdL__law_whole, FL__law_whole, KL__law_whole⟩ := okl__law_whole (w := w) (base := base) G
 have PL__law_whole := FL__law_whole.kp
 have BL__law_whole : Binds K fdL__law_whole ["_law_x"] [] := FL__law_whole.bindsN fun _ _ _ _ _ _ us hl => match us, hl with | [_], _ => rfl
 unfold f__law_made_4
 refine ⟨fd, Fd, fn_q Fd q2s fun cdv A outer s H E hr => ?_⟩
 refine xdk hr fun hu3 hu hu2 tk => ?_
 unfold m__law_made_4
 exact (qss_cons (qs_try G.eT rfl rfl rfl q2s.nd tk (fun _ _ _ tk pw => (qss_cons (qs_set (i := 6) q2s.nd rfl q3u (qe_makeS (c := 13) (dds := dd_Serviceu_initu) G.k_Service q69 tk (hr.mono (by decide)) q5q G.g_Service BD_Serviceu_initu VD_Serviceu_initu DD_Serviceu_initu (qa_cons qe_int (qa_cons (qe_lstV qa_nil) (qa_cons (qe_lstV qa_nil) qa_nil)))))
 (qss_one (qs_if (qt_cmp (oq_eq hu) (qe_var (i := 0) rfl q8q) qe_int (nomark _))
 (qss_one (qs_set (i := 6) q2s.nd rfl q3u (qe_makeS (c := 13) (dvs := []) (ds := []) (dds := []) G.k_Service q69 tk (hr.mono (by decide)) q5q G.g_Service B_Serviceu_initu .nil Dfl.nil (qa_cons (qe_var (i := 1) rfl q5l) (qa_cons (qe_var (i := 2) rfl q5m) (qa_cons (qe_var (i := 3) rfl q5n) (qa_cons (qe_var (i := 4) rfl q5o) qa_nil)))))))
 (qss_one (qs_set (i := 6) q2s.nd rfl q3u (qe_makeS (c := 14) (dvs := []) (ds := []) (dds := []) G.k_Pattern qa4 tk (hr.mono (by decide)) q8r G.g_Pattern B_Patternu_initu .nil Dfl.nil (qa_cons (qe_var (i := 1) rfl q5l) (qa_cons (qe_var (i := 2) rfl q5m) (qa_cons (qe_var (i := 3) rfl q5n) (qa_cons (qe_var (i := 4) rfl q5o) qa_nil)))))))))))
 (MHs.cons (c := 1) (i := (some 5)) ⟨q8s, rfl, .inl G.g_BadMachine⟩ ⟨rfl, show (defScope qh).names.lookup ("_law_e" : Str) = some .local by decide +kernel⟩ (fun _ hz => (qss_one (qs_ret (qe_tup (qa_cons qe_str (qa_cons (qe_callLH KL__law_kinds (hotX_su hz) (Room.mark (hr.mono (by decide)) _) q3v G.g__law_kinds PL__law_kinds BL__law_kinds (qa_cons (qe_var (i := 5) rfl q1n) qa_nil)) (qa_cons (qe_xf (qe_var (i := 5) rfl q1n) G.xn_part) qa_nil))))))) (MHs.cons (c := 3) (i := (some 5)) ⟨q8t, rfl, .inl G.g_TooLarge⟩ ⟨rfl, show (defScope qh).names.lookup ("_law_e" : Str) = some .local by decide +kernel⟩ (fun _ hz => (qss_one (qs_ret (qe_tup (qa_cons qe_str (qa_cons (qe_and (qe_callLH KL__law_kinds (hotX_su hz) (Room.mark (hr.mono (by decide)) _) q3v G.g__law_kinds PL__law_kinds BL__law_kinds (qa_cons (qe_var (i := 5) rfl q1n) qa_nil)) (qe_one (qe_callL KL__law_whole (Room.mark (hr.mono (by decide)) _) q5r G.g__law_whole PL__law_whole BL__law_whole (qa_cons (qe_xf (qe_var (i := 5) rfl q1n) G.xn_size) qa_nil)))) (qa_cons (qe_xf (qe_var (i := 5) rfl q1n) G.xn_size) qa_nil))))))) (MHs.cons (c := 2) (i := (some 5)) ⟨q8u, rfl, .inl G.g_BadState⟩ ⟨rfl, show (defScope qh).names.lookup ("_law_e" : Str) = some .local by decide +kernel⟩ (fun _ hz => (qss_one (qs_ret (qe_tup (qa_cons qe_str (qa_cons (qe_and (qe_callLH KL__law_kinds (hotX_su hz) (Room.mark (hr.mono (by decide)) _) q3v G.g__law_kinds PL__law_kinds BL__law_kinds (qa_cons (qe_var (i := 5) rfl q1n) qa_nil)) (qe_one (qe_callL KL__law_whole (Room.mark (hr.mono (by decide)) _) q5r G.g__law_whole PL__law_whole BL__law_whole (qa_cons (qe_xf (qe_var (i := 5) rfl q1n) G.xn_state) qa_nil)))) (qa_cons (qe_xf (qe_var (i := 5) rfl q1n) G.xn_state) qa_nil))))))) MHs.nil))))
 (qss_one (qs_ret (qe_tup (qa_cons qe_str (qa_cons (qe_callB (cq_isX G.isT_Machine) q8w G.f_isinstance rfl (qa_cons (qe_var (i := 6) rfl q5p) (qa_cons (qe_gCls (i := 12) q8v G.g_Machine) qa_nil))) (qa_cons (qe_fld (qe_var (i := 6) rfl q5p) G.n_size) qa_nil)))))))
theorem qa5 (G : Facts K mg) : ∃ fd, FunD K "law" "law" (defArgs q7) (defBody q7) (defScope q7) [] [] (He.ga K "law") fd ∧ FnOk P0 w K mg base (L2N.CX P0 w) 8 (He.ga K "law") fd ["_law_script"] (SpM ⟨P0, w, K, cl K⟩ 1 f_law_37) := by
 obtain ⟨fd, Fd⟩ := G.q1s
 obtain ⟨qa6, q6a, q46⟩ := q97 (w := w) (base := base) G
 have P__law_draws := q6a.kp
 have B__law_draws : Binds K qa6 ["_law_script", "_law_k", "_law_many"] [] := q6a.bindsN fun _ _ _ _ _ _ us hl => match us, hl with | [_, _, _], _ => rfl
 obtain ⟨qa7, q6b, qa8⟩ := q9a (w := w) (base := base) G
 have P__law_asks := q6b.kp
 have B__law_asks : Binds K qa7 ["_law_row", "_law_many"] [] := q6b.bindsN fun _ _ _ _ _ _ us hl => match us, hl with | [_, _], _ => rfl
 obtain ⟨qa9, q6c, qaa⟩ := q9b (w := w) (base := base) G
 have P__law_parts := q6c.kp
 have B__law_parts : Binds K qa9 ["_law_row", "_law_asks_here"] [] := q6c.bindsN fun _ _ _ _ _ _ us hl => match us, hl with | [_, _], _ => rfl
 obtain ⟨qab, q6d, qac⟩ := q9c (w := w) (base := base) G
 have P__law_large := q6d.kp
 have B__law_large : Binds K qab ["_law_row", "_law_asks_here"] [] := q6d.bindsN fun _ _ _ _ _ _ us hl => match us, hl with | [_, _], _ => rfl
 obtain ⟨qad, q6e, q47⟩ := q9d (w := w) (base := base) G
 have P__law_put_in := q6e.kp
 have B__law_put_in : Binds K qad ["_law_rows", "_law_thing", "_law_digit"] [] := q6e.bindsN fun _ _ _ _ _ _ us hl => match us, hl with | [_, _, _], _ => rfl
 obtain ⟨qae, q6f, qaf⟩ := q9f (w := w) (base := base) G
 have P__law_bad_step := q6f.kp
 have B__law_bad_step : Binds K qae ["_law_row", "_law_size", "_law_ask"] [] := q6f.bindsN fun _ _ _ _ _ _ us hl => match us, hl with | [_, _, _], _ => rfl
 obtain ⟨qag, q6g, qah⟩ := q9i (w := w) (base := base) G
 have P__law_due := q6g.kp
 have B__law_due : Binds K qag ["_law_faults", "_law_size", "_law_here"] [] := q6g.bindsN fun _ _ _ _ _ _ us hl => match us, hl with | [_, _, _], _ => rfl
 obtain ⟨qai, q6h, q6i⟩ := qa1 (w := w) (base := base) G
 have P__law_made := q6h.kp
 have B__law_made : Binds K qai ["_law_choice", "_law_size", "_law_marks", "_law_steps", "_law_here"] [] := q6h.bindsN fun _ _ _ _ _ _ us hl => match us, hl with | [_, _, _, _, _], _ => rfl
 unfold f_law_37
 refine ⟨fd, Fd, fn_q Fd q12 fun cdv A outer s H E hr => ?_⟩
 refine xdk hr fun hu3 hu hu2 tk => ?_
 unfold m_law_37
 exact (qss_cons (qs_set (i := 1) q12.nd rfl q8x (qe_call (dvs := []) (ds := []) (dds := []) q46 tk (hr.mono (by decide)) q3z G.g__law_draws P__law_draws B__law_draws .nil Dfl.nil (qa_cons (qe_var (i := 0) rfl q3w) (qa_cons qe_int (qa_cons qe_int qa_nil)))))
 (qss_cons (qs_set (i := 2) q12.nd rfl q8y (qe_call (dvs := []) (ds := []) (dds := []) qa8 tk (hr.mono (by decide)) q91 G.g__law_asks P__law_asks B__law_asks .nil Dfl.nil (qa_cons (qe_call (dvs := []) (ds := []) (dds := []) q46 tk (hr.mono (by decide)) q3z G.g__law_draws P__law_draws B__law_draws .nil Dfl.nil (qa_cons (qe_var (i := 0) rfl q3w) (qa_cons qe_int (qa_cons qe_int qa_nil)))) (qa_cons qe_int qa_nil))))
 (qss_cons (qs_asg (qe_call (dvs := []) (ds := []) (dds := []) qaa tk (hr.mono (by decide)) q92 G.g__law_parts P__law_parts B__law_parts .nil Dfl.nil (qa_cons (qe_var (i := 1) rfl qy) (qa_cons (qe_var (i := 2) rfl q34) qa_nil))) (qg_tup rfl (qgs_cons (qg_name (i := 7) q12.nd rfl q36) (qgs_cons (qg_name (i := 8) q12.nd rfl q5u) (qgs_cons (qg_name (i := 9) q12.nd rfl q37) qgs_nil)))))
 (qss_cons (qs_set (i := 3) q12.nd rfl q8z (qe_lstV (qa_cons qe_int (qa_cons qe_int (qa_cons qe_int (qa_cons qe_int (qa_cons qe_int (qa_cons qe_int (qa_cons qe_int qa_nil)))))))))
 (qss_cons (qs_set (i := 4) q12.nd rfl q5v (qe_lstV (qa_cons (qe_ix (xq_ixX hu2) (qe_var (i := 3) rfl q5s) (qe_op oq_mod (qe_callTy cq_int q19 G.f_int rfl (qa_cons (qe_ix (xq_ixX hu2) (qe_var (i := 1) rfl qy) qe_int fun _ _ => rfl) qa_nil)) qe_int) fun _ _ => rfl) (qa_cons (qe_ix (xq_ixX hu2) (qe_var (i := 3) rfl q5s) (qe_op oq_mod (qe_callTy cq_int q19 G.f_int rfl (qa_cons (qe_ix (xq_ixX hu2) (qe_var (i := 1) rfl qy) qe_int fun _ _ => rfl) qa_nil)) qe_int) fun _ _ => rfl) qa_nil))))
 (qss_cons (qs_if (qt_cmp (oq_eq hu) (qe_op oq_mod (qe_callTy cq_int q19 G.f_int rfl (qa_cons (qe_ix (xq_ixX hu2) (qe_var (i := 1) rfl qy) qe_int fun _ _ => rfl) qa_nil)) qe_int) qe_int (nomark _))
 (qss_cons (qs_set (i := 7) q12.nd rfl q36 qe_int)
 (qss_cons (qs_set (i := 9) q12.nd rfl q37 (qe_call (dvs := []) (ds := []) (dds := []) qac tk (hr.mono (by decide)) q93 G.g__law_large P__law_large B__law_large .nil Dfl.nil (qa_cons (qe_var (i := 1) rfl qy) (qa_cons (qe_var (i := 2) rfl q34) qa_nil))))
 (qss_one (qs_set (i := 4) q12.nd rfl q5v (qe_lstV (qa_cons (qe_ix (xq_ixX hu2) (qe_lstV (qa_cons qe_int (qa_cons qe_int (qa_cons qe_int (qa_cons qe_int qa_nil))))) (qe_op oq_mod (qe_callTy cq_int q19 G.f_int rfl (qa_cons (qe_ix (xq_ixX hu2) (qe_var (i := 1) rfl qy) qe_int fun _ _ => rfl) qa_nil)) qe_int) fun _ _ => rfl) (qa_cons (qe_ix (xq_ixX hu2) (qe_lstV (qa_cons qe_int (qa_cons qe_int (qa_cons qe_int (qa_cons qe_int qa_nil))))) (qe_op oq_mod (qe_callTy cq_int q19 G.f_int rfl (qa_cons (qe_ix (xq_ixX hu2) (qe_var (i := 1) rfl qy) qe_int fun _ _ => rfl) qa_nil)) qe_int) fun _ _ => rfl) qa_nil)))))))
 qss_nil)
 (qss_cons (qs_set (i := 5) q12.nd rfl q5w (qe_op oq_mod (qe_callTy cq_int q19 G.f_int rfl (qa_cons (qe_op oq_add (qe_op oq_mulI (qe_ix (xq_ixX hu2) (qe_var (i := 1) rfl qy) qe_int fun _ _ => rfl) qe_int) (qe_ix (xq_ixX hu2) (qe_var (i := 1) rfl qy) qe_int fun _ _ => rfl)) qa_nil)) (qe_var (i := 7) rfl q1j)))
 (qss_cons (qs_if (qt_cmp (oq_inX hu2) qe_int (qe_var (i := 4) rfl q1q) (by with_unfolding_all rfl))
 (qss_one (qs_set (i := 8) q12.nd rfl q5u (qe_call (dvs := []) (ds := []) (dds := []) q47 tk (hr.mono (by decide)) q40 G.g__law_put_in P__law_put_in B__law_put_in .nil Dfl.nil (qa_cons (qe_var (i := 8) rfl q3x) (qa_cons (qe_ix (xq_ixX hu2) (qe_lstV (qa_cons (qe_un uq_neg qe_int) (qa_cons (qe_var (i := 7) rfl q1j) (qa_cons (qe_op oq_add (qe_var (i := 7) rfl q1j) (qe_callTy cq_int q19 G.f_int rfl (qa_cons (qe_ix (xq_ixX hu2) (qe_var (i := 1) rfl qy) qe_int fun _ _ => rfl) qa_nil))) qa_nil)))) (qe_op oq_mod (qe_callTy cq_int q19 G.f_int rfl (qa_cons (qe_ix (xq_ixX hu2) (qe_var (i := 1) rfl qy) qe_int fun _ _ => rfl) qa_nil)) qe_int) fun _ _ => rfl) (qa_cons (qe_ix (xq_ixX hu2) (qe_var (i := 1) rfl qy) qe_int fun _ _ => rfl) qa_nil))))))
 qss_nil)
 (qss_cons (qs_if (qt_cmp (oq_inX hu2) qe_int (qe_var (i := 4) rfl q1q) (by with_unfolding_all rfl))
 (qss_one (qs_set (i := 9) q12.nd rfl q37 (qe_call (dvs := []) (ds := []) (dds := []) q47 tk (hr.mono (by decide)) q40 G.g__law_put_in P__law_put_in B__law_put_in .nil Dfl.nil (qa_cons (qe_var (i := 9) rfl q35) (qa_cons (qe_tup (qa_cons qe_int (qa_cons (qe_ix (xq_ixX hu2) (qe_var (i := 2) rfl q34) qe_int fun _ _ => rfl) (qa_cons (qe_op oq_mod (qe_callTy cq_int q19 G.f_int rfl (qa_cons (qe_op oq_add qe_int (qe_ix (xq_ixX hu2) (qe_var (i := 1) rfl qy) qe_int fun _ _ => rfl)) qa_nil)) qe_int) qa_nil)))) (qa_cons (qe_ix (xq_ixX hu2) (qe_var (i := 1) rfl qy) qe_int fun _ _ => rfl) qa_nil))))))
 qss_nil)
 (qss_cons (qs_if (qt_cmp (oq_inX hu2) qe_int (qe_var (i := 4) rfl q1q) (by with_unfolding_all rfl))
 (qss_one (qs_set (i := 9) q12.nd rfl q37 (qe_call (dvs := []) (ds := []) (dds := []) q47 tk (hr.mono (by decide)) q40 G.g__law_put_in P__law_put_in B__law_put_in .nil Dfl.nil (qa_cons (qe_var (i := 9) rfl q35) (qa_cons (qe_call (dvs := []) (ds := []) (dds := []) qaf tk (hr.mono (by decide)) q94 G.g__law_bad_step P__law_bad_step B__law_bad_step .nil Dfl.nil (qa_cons (qe_call (dvs := []) (ds := []) (dds := []) q46 tk (hr.mono (by decide)) q3z G.g__law_draws P__law_draws B__law_draws .nil Dfl.nil (qa_cons (qe_var (i := 0) rfl q3w) (qa_cons qe_int (qa_cons qe_int qa_nil)))) (qa_cons (qe_var (i := 7) rfl q1j) (qa_cons (qe_ix (xq_ixX hu2) (qe_var (i := 2) rfl q34) qe_int fun _ _ => rfl) qa_nil)))) (qa_cons (qe_ix (xq_ixX hu2) (qe_var (i := 1) rfl qy) qe_int fun _ _ => rfl) qa_nil))))))
 qss_nil)
 (qss_cons (qs_if (qt_cmp (oq_inX hu2) qe_int (qe_var (i := 4) rfl q1q) (by with_unfolding_all rfl))
 (qss_one (qs_set (i := 5) q12.nd rfl q5w (qe_ix (xq_ixX hu2) (qe_lstV (qa_cons (qe_un uq_neg qe_int) (qa_cons (qe_var (i := 7) rfl q1j) (qa_cons (qe_op oq_add (qe_var (i := 7) rfl q1j) (qe_callTy cq_int q19 G.f_int rfl (qa_cons (qe_ix (xq_ixX hu2) (qe_var (i := 1) rfl qy) qe_int fun _ _ => rfl) qa_nil))) qa_nil)))) (qe_op oq_mod (qe_callTy cq_int q19 G.f_int rfl (qa_cons (qe_ix (xq_ixX hu2) (qe_var (i := 1) rfl qy) qe_int fun _ _ => rfl) qa_nil)) qe_int) fun _ _ => rfl)))
 qss_nil)
 (qss_cons (qs_if (qt_cmp (oq_inX hu2) qe_int (qe_var (i := 4) rfl q1q) (by with_unfolding_all rfl))
 (qss_one (qs_set (i := 7) q12.nd rfl q36 (qe_op oq_add qe_int (qe_callTy cq_int q19 G.f_int rfl (qa_cons (qe_op oq_add (qe_op oq_mulI (qe_ix (xq_ixX hu2) (qe_var (i := 1) rfl qy) qe_int fun _ _ => rfl) qe_int) (qe_ix (xq_ixX hu2) (qe_var (i := 1) rfl qy) qe_int fun _ _ => rfl)) qa_nil)))))
 qss_nil)
 (qss_cons (qs_if (qt_cmp (oq_inX hu2) qe_int (qe_var (i := 4) rfl q1q) (by with_unfolding_all rfl))
 (qss_one (qs_set (i := 7) q12.nd rfl q36 (qe_un uq_neg (qe_op oq_mod (qe_callTy cq_int q19 G.f_int rfl (qa_cons (qe_ix (xq_ixX hu2) (qe_var (i := 1) rfl qy) qe_int fun _ _ => rfl) qa_nil)) qe_int))))
 qss_nil)
 (qss_cons (qs_set (i := 6) q12.nd rfl q90 (qe_call (dvs := []) (ds := []) (dds := []) qah tk (hr.mono (by decide)) q95 G.g__law_due P__law_due B__law_due .nil Dfl.nil (qa_cons (qe_var (i := 4) rfl q1q) (qa_cons (qe_var (i := 7) rfl q1j) (qa_cons (qe_var (i := 5) rfl q3y) qa_nil)))))
 (qss_one (qs_ret (qe_and (qe_cmp (oq_eqB hu) (qe_call (dvs := []) (ds := []) (dds := []) q6i tk (hr.mono (by decide)) q5x G.g__law_made P__law_made B__law_made .nil Dfl.nil (qa_cons qe_int (qa_cons (qe_var (i := 7) rfl q1j) (qa_cons (qe_var (i := 8) rfl q3x) (qa_cons (qe_var (i := 9) rfl q35) (qa_cons (qe_var (i := 5) rfl q3y) qa_nil)))))) (qe_var (i := 6) rfl q5t) (nomark _)) (qe_one (qe_cmp (oq_eqB hu) (qe_call (dvs := []) (ds := []) (dds := []) q6i tk (hr.mono (by decide)) q5x G.g__law_made P__law_made B__law_made .nil Dfl.nil (qa_cons qe_int (qa_cons (qe_var (i := 7) rfl q1j) (qa_cons (qe_var (i := 8) rfl q3x) (qa_cons (qe_var (i := 9) rfl q35) (qa_cons (qe_var (i := 5) rfl q3y) qa_nil)))))) (qe_var (i := 6) rfl q5t) (nomark _))))))))))))))))))))
end
end K14
namespace Mi
open PySem Pu L2
def celN (ns : List Int) (k : Int) : Int := ns.getD k.toNat 0
theorem cell_ok (ns : List Int) (k : Int) (hk : 0 ≤ k) (S : Sto) : f__law_cell [.v (.frl (ns.map D.int)), .v (.int k)] S = .ok (.v (.int (celN ns k))) S := by
 unfold f__law_cell
 refine runF_eq ?_
 simp [m__law_cell, start0]
 split
 · rename_i h
   rw [atI_get 0 hk h]
   rfl
 · rename_i h
   simp [celN]
   rw [List.getElem?_eq_none (by omega)]
   rfl
def rA (r : Int) : Nat → Int
 | 0 => r
 | n + 1 => rA r n / 64
def sB (s : Int) : Nat → Int
 | 0 => s
 | n + 1 => (sB s n * 48271 + n + 11) % 2147483647
def rowN (ns : List Int) (k : Int) (n : Nat) : List Int :=
 if 1000000000000000000 ≤ celN ns k then (List.range n).map fun i => rA (celN ns k - 1000000000000000000) i % 64
 else (List.range n).map fun i => sB ((celN ns k * 7919 + k * 104729 + 12345) % 2147483647) (i + 1) / 65536 % 64
@[simp] theorem rowN_len (ns : List Int) (k : Int) (n : Nat) : (rowN ns k n).length = n := by unfold rowN; split <;> simp
theorem rowN_bd (ns : List Int) (k : Int) (n : Nat) : ∀ x ∈ rowN ns k n, 0 ≤ x ∧ x < 64 := by
 intro x hx
 unfold rowN at hx
 split at hx <;> simp at hx <;> obtain ⟨i, _, rfl⟩ := hx <;> omega
theorem draws_ok (ns : List Int) (k : Int) (n : Nat) (hk : 0 ≤ k) (hn : n ≤ 1000) (S : Sto) : f__law_draws [.v (.frl (ns.map D.int)), .v (.int k), .v (.int n)] S = .ok (.v (.lst ((rowN ns k n).map D.int))) S := by
 unfold f__law_draws
 refine runF_eq ?_
 simp [m__law_draws, start0, cell_ok ns k hk]
 split
 · rename_i h
   refine ⟨by omega, for_inv (fun i ρ T => ∃ x, ρ = [some (.v (.frl (ns.map D.int))), some (.v (.int k)), some (.v (.int n)), some (.v (.int (celN ns k))), some (.r S.length), none, x, some (.v (.int (rA (celN ns k - 1000000000000000000) i)))] ∧
     T = S ++ [.lst ((((List.range i).map fun i => rA (celN ns k - 1000000000000000000) i % 64).map D.int).map U.v)]) ⟨_, rfl, rfl⟩ ?_ ?_⟩
   · rintro i u ρ T hu ⟨x, rfl, rfl⟩
     obtain ⟨hi, rfl⟩ := rngU_get hu
     simp [isL_r]
     exact ⟨by omega, by simp [rA], by simp [List.range_succ]⟩
   · rintro ρ T ⟨x, rfl, rfl⟩
     simp only [rngU_len, getv_s, getv_0]
     rw [fin_l0, rowN, if_pos h]
 · rename_i h
   refine ⟨by omega, for_inv (fun i ρ T => ∃ x, ρ = [some (.v (.frl (ns.map D.int))), some (.v (.int k)), some (.v (.int n)), some (.v (.int (celN ns k))), some (.r S.length), some (.v (.int (sB ((celN ns k * 7919 + k * 104729 + 12345) % 2147483647) i))), x, none] ∧
     T = S ++ [.lst ((((List.range i).map fun i => sB ((celN ns k * 7919 + k * 104729 + 12345) % 2147483647) (i + 1) / 65536 % 64).map D.int).map U.v)]) ⟨_, rfl, rfl⟩ ?_ ?_⟩
   · rintro i u ρ T hu ⟨x, rfl, rfl⟩
     obtain ⟨hi, rfl⟩ := rngU_get hu
     simp [isL_r]
     exact ⟨by omega, by simp [sB], by simp [List.range_succ, sB]⟩
   · rintro ρ T ⟨x, rfl, rfl⟩
     simp only [rngU_len, getv_s, getv_0]
     rw [fin_l0, rowN, if_neg h]
theorem draws_i (ns : List Int) (k n : Int) (hk : 0 ≤ k) (hn0 : 0 ≤ n) (hn : n ≤ 1000) (S : Sto) : f__law_draws [.v (.frl (ns.map D.int)), .v (.int k), .v (.int n)] S = .ok (.v (.lst ((rowN ns k n.toNat).map D.int))) S := by
 obtain ⟨m, rfl⟩ := Int.eq_ofNat_of_zero_le hn0
 exact draws_ok ns k m hk (by omega) S
theorem row_at (ns : List Int) (k : Int) (n : Nat) (i : Int) (q : Int → Prop) (h0 : 0 ≤ i) (h1 : i < n) : wpo (atI (rowN ns k n) i) q = q ((rowN ns k n).getD i.toNat 0) := atI_get 0 h0 (by rw [rowN_len]; exact h1)
theorem getD_lt {α : Type} {xs : List α} {i : Nat} (d : α) (h : i < xs.length) : xs.getD i d = xs[i] := by simp [List.getD, List.getElem?_eq_getElem h]
theorem whole_ok (i : Int) (S : Sto) : f__law_whole [.v (.int i)] S = .ok (.v (.bl true)) S := by
 unfold f__law_whole
 refine runF_eq ?_
 simp [m__law_whole, start0]
def mkS (l : List Nat) : Str := ⟨l.toArray⟩
@[simp] theorem mkS_cps (l : List Nat) : (mkS l).cps.toList = l := rfl
@[simp] theorem mkS_len (l : List Nat) : (mkS l).length = l.length := by show l.toArray.size = _; simp
theorem mkS_of (z : Str) : z = mkS z.cps.toList := by cases z; simp [mkS]
theorem mkS_inj {a b : List Nat} (h : mkS a = mkS b) : a = b := by
 have := congrArg (fun z : Str => z.cps.toList) h
 simpa using this
theorem mkS_app (a b : List Nat) : mkS a ++ mkS b = mkS (a ++ b) := by
 show (⟨a.toArray ++ b.toArray⟩ : Str) = ⟨(a ++ b).toArray⟩
 simp
theorem cut_hi (l : List Nat) (k : Int) (h0 : 0 ≤ k) : cutS (mkS l) none (some k) = mkS (l.take k.toNat) := by
 obtain ⟨n, rfl⟩ := Int.eq_ofNat_of_zero_le h0
 unfold cutS
 show mkS _ = _
 rw [mkS_cps, mkS_len, HT.sIx_none, HT.sIx_nat]
 congr 1
 simp only [List.drop_zero, Nat.sub_zero, Int.toNat_natCast]
 by_cases h : n ≤ l.length
 · rw [Nat.min_eq_left h]
 · rw [Nat.min_eq_right (by omega), List.take_of_length_le (by omega), List.take_of_length_le (by omega)]
theorem cut_mid (l : List Nat) (j k : Int) (h0 : 0 ≤ j) (h1 : 0 ≤ k) : cutS (mkS l) (some j) (some k) = mkS ((l.take k.toNat).drop j.toNat) := by
 obtain ⟨n, rfl⟩ := Int.eq_ofNat_of_zero_le h0
 obtain ⟨m, rfl⟩ := Int.eq_ofNat_of_zero_le h1
 unfold cutS
 show mkS _ = _
 rw [mkS_cps, mkS_len, HT.sIx_nat, HT.sIx_nat]
 congr 1
 simp only [Int.toNat_natCast]
 rw [List.drop_take]
 by_cases h : n ≤ l.length
 · rw [Nat.min_eq_left h]
   by_cases h2 : m ≤ l.length
   · rw [Nat.min_eq_left h2]
   · rw [Nat.min_eq_right (by omega), List.take_of_length_le (by simp), List.take_of_length_le (by simp; omega)]
 · rw [List.drop_eq_nil_of_le (Nat.le_min.mpr ⟨by omega, Nat.le_refl _⟩), List.drop_eq_nil_of_le (by omega)]
   simp
theorem join_chars (cs : List Nat) : Txt.join (Str.ofString "") (cs.map fun c => mkS [c]) = mkS cs := by
 rw [TL.join_eq]
 have e := TL.tl_join (Str.ofString "") (cs.map fun c => mkS [c])
 have hj : ∀ ps : List (List Nat), TL.joinL [] ps = ps.flatten := by
   intro ps
   induction ps with
   | nil => rfl
   | cons p r ih =>
     cases r with
     | nil => simp [TL.joinL]
     | cons q r => simp only [TL.joinL, List.nil_append, List.flatten_cons] at ih ⊢; rw [ih]
 have h0 : TL.tl (Str.ofString "") = [] := rfl
 rw [h0, hj, List.map_map] at e
 rw [mkS_of (Str.join _ _)]
 have e2 : (Str.join (Str.ofString "") (cs.map fun c => mkS [c])).cps.toList = (cs.map (TL.tl ∘ fun c => mkS [c])).flatten := e
 rw [e2]
 congr 1
 have : (TL.tl ∘ fun c => mkS [c]) = fun c => [c] := by funext c; rfl
 rw [this]
 clear e e2
 induction cs with
 | nil => rfl
 | cons c cs ih => simp [ih]
def lett26 (x : Int) : Nat := 97 + (x % 26).toNat
abbrev lettT : Str := Str.ofString "abcdefghijklmnopqrstuvwxyz"
theorem lett_l : lettT.cps.toList = (List.range 26).map (97 + ·) := by decide +kernel
theorem lett_len : lettT.length ≤ 100000 := by decide +kernel
theorem lett_at (x : Int) (k : Nat → Prop) : wpo (atI lettT.cps.toList (x % 26)) k = k (lett26 x) := by
 rw [lett_l, atI_get 0 (by omega) (by simp; omega)]
 have h : (x % 26).toNat < 26 := by omega
 rw [getD_lt _ (by simp; omega)]
 simp [lett26]
def rg (row : List Int) (i : Nat) : Int := row.getD i 0
def wordN (row : List Int) : List Nat := (row.take 8).map lett26
def askL (row : List Int) (i : Nat) : List Nat :=
 if rg row 8 % 2 = 0 then (wordN row).take ((rg row 9 + 3 * i) % 8 + 1).toNat
 else
   let size := rg row 9 % 8 + 1
   let place := rg row 10 % size
   (wordN row).take place.toNat ++ [lett26 (rg row 11 + (rg row 12 % 6 * 2 + 1) * i)] ++ ((wordN row).take size.toNat).drop (place + 1).toNat
def askN (row : List Int) (i : Nat) : Str := mkS (askL row i)
theorem asks_ok (row : List Int) (hl : row.length = 13) (n : Nat) (hn : n ≤ 100) (S : Sto) : f__law_asks [.v (.lst (row.map D.int)), .v (.int n)] S = .ok (.v (.lst ((List.range n).map fun i => D.str (askN row i)))) S := by
 unfold f__law_asks
 refine runF_eq ?_
 have hI : ∀ i : Int, 0 ≤ i → i < 13 → ∀ k : Int → Prop, wpo (atI row i) k = k (rg row i.toNat) := fun i h0 h1 k => atI_get 0 h0 (by omega)
 simp [m__law_asks, start0]
 refine w_lcV (ds := (row.take 8).map D.int) (src := none) (S1 := S) (fun _ => true) (fun d => match d with | .int x => .str (mkS [lett26 x]) | _ => .non) ?_ ?_ nofun ?_ ?_
 · simp [cutU_map, cutU, HT.sIx]
 · simp; omega
 · intro d hd acc
   obtain ⟨x, hx, rfl⟩ := List.mem_map.mp hd
   simp [wipeE]
   refine ⟨lett_len, ?_⟩
   rw [lett_at]
   rfl
 · have e : ((((row.take 8).map D.int).filter fun _ => true).map fun d => match d with | .int x => D.str (mkS [lett26 x]) | _ => .non) = ((wordN row).map fun c => mkS [c]).map D.str := by
     rw [List.filter_eq_self.mpr (fun _ _ => rfl)]
     simp [wordN, Function.comp_def]
   have hwl : (wordN row).length = 8 := by simp [wordN]; omega
   have hws : (((wordN row).map fun c => mkS [c]).map (·.length)).sum + ((wordN row).map fun c => mkS [c]).length * (Str.ofString "").length ≤ 100 := by
     have e1 : (((wordN row).map fun c => mkS [c]).map (·.length)).sum = ((wordN row).map fun c => mkS [c]).length := sum_ones fun x hx => by
       obtain ⟨y, _, rfl⟩ := List.mem_map.mp hx
       rfl
     have e2 : (Str.ofString "").length = 0 := rfl
     rw [e1, e2]; simp; omega
   rw [e, v_join _ _ (by omega), join_chars]
   refine ⟨by omega, ?_⟩
   refine for_inv (fun i ρ T => ∃ x5 x6 x7 x8 x9 x10, ρ = [some (.v (.lst (row.map D.int))), some (.v (.int n)), some (.v (.str "abcdefghijklmnopqrstuvwxyz")), some (.v (.str (mkS (wordN row)))), some (.r S.length), x5, x6, x7, x8, x9, x10] ∧
     T = S ++ [.lst (((List.range i).map fun i => D.str (askN row i)).map U.v)]) ⟨none, none, none, none, none, none, rfl, rfl⟩ ?_ ?_
   · rintro i u ρ T hu ⟨x5, x6, x7, x8, x9, x10, rfl, rfl⟩
     obtain ⟨hi, rfl⟩ := rngU_get hu
     simp [hI, isL_r, hwl]
     split
     · rename_i hp
       refine ⟨by omega, ?_⟩
       rw [cut_hi _ _ (by omega)]
       simp [List.range_succ, askN, askL, hp]
     · rename_i hp
       have hsz : 0 < rg row 9 % 8 + 1 := by omega
       have hpl : 0 ≤ rg row 10 % (rg row 9 % 8 + 1) := Int.emod_nonneg _ (by omega)
       have hpl2 : rg row 10 % (rg row 9 % 8 + 1) < rg row 9 % 8 + 1 := Int.emod_lt_of_pos _ hsz
       refine ⟨by omega, .inr (by omega), lett_len, ?_⟩
       rw [lett_at]
       rw [cut_hi _ _ hpl, cut_mid _ _ _ (by omega) (by omega)]
       simp only [show (⟨#[lett26 (rg row 11 + (rg row 12 % 6 * 2 + 1) * i)]⟩ : Str) = mkS [lett26 (rg row 11 + (rg row 12 % 6 * 2 + 1) * i)] from rfl, mkS_app, mkS_len]
       refine ⟨by simp; omega, by simp; omega, by omega, ?_⟩
       simp [List.range_succ, askN, askL, hp]
   · rintro ρ T ⟨x5, x6, x7, x8, x9, x10, rfl, rfl⟩
     simp only [rngU_len, getv_s, getv_0]
     rw [fin_l0]
def AskS (z : Str) : Prop := 1 ≤ z.length ∧ z.length ≤ 8 ∧ ∀ c ∈ z.cps.toList, 97 ≤ c ∧ c ≤ 122
theorem lett26_bd (x : Int) : 97 ≤ lett26 x ∧ lett26 x ≤ 122 := by unfold lett26; omega
theorem word_bd (row : List Int) : ∀ c ∈ wordN row, 97 ≤ c ∧ c ≤ 122 := by
 intro c hc
 obtain ⟨x, _, rfl⟩ := List.mem_map.mp hc
 exact lett26_bd x
theorem askN_ok (row : List Int) (hl : row.length = 13) (i : Nat) : AskS (askN row i) := by
 have hwl : (wordN row).length = 8 := by simp [wordN]; omega
 unfold AskS askN
 rw [mkS_len, mkS_cps]
 unfold askL
 split
 · refine ⟨by simp; omega, by simp; omega, fun c hc => word_bd row c (List.mem_of_mem_take hc)⟩
 · have hsz : 0 < rg row 9 % 8 + 1 := by omega
   have hpl : 0 ≤ rg row 10 % (rg row 9 % 8 + 1) := Int.emod_nonneg _ (by omega)
   have hpl2 : rg row 10 % (rg row 9 % 8 + 1) < rg row 9 % 8 + 1 := Int.emod_lt_of_pos _ hsz
   refine ⟨by simp; omega, by simp; omega, fun c hc => ?_⟩
   simp only [List.mem_append, List.mem_singleton] at hc
   rcases hc with (hc | hc) | hc
   · exact word_bd row c (List.mem_of_mem_take hc)
   · rw [hc]; exact lett26_bd _
   · exact word_bd row c (List.mem_of_mem_take (List.mem_of_mem_drop hc))
theorem askN_inj (row : List Int) (hl : row.length = 13) (i j : Nat) (hi : i < 8) (hj : j < 8) (h : askN row i = askN row j) : i = j := by
 have hwl : (wordN row).length = 8 := by simp [wordN]; omega
 have h := mkS_inj h
 unfold askL at h
 split at h
 · have e := congrArg List.length h
   simp only [List.length_take, hwl] at e
   omega
 · have hsz : 0 < rg row 9 % 8 + 1 := by omega
   have hpl : 0 ≤ rg row 10 % (rg row 9 % 8 + 1) := Int.emod_nonneg _ (by omega)
   simp only [List.append_assoc, List.singleton_append] at h
   have h2 := List.append_cancel_left h
   injection h2 with h3 _
   unfold lett26 at h3
   have h4 : (rg row 11 + (rg row 12 % 6 * 2 + 1) * i) % 26 = (rg row 11 + (rg row 12 % 6 * 2 + 1) * j) % 26 := by omega
   have h5 : rg row 12 % 6 = 0 ∨ rg row 12 % 6 = 1 ∨ rg row 12 % 6 = 2 ∨ rg row 12 % 6 = 3 ∨ rg row 12 % 6 = 4 ∨ rg row 12 % 6 = 5 := by omega
   rcases h5 with h5 | h5 | h5 | h5 | h5 | h5 <;> rw [h5] at h4 <;> omega
end Mi
namespace Mi
open PySem Pu L2
structure OrdOn (T : D → Prop) (lt : D → D → Prop) : Prop where
 irr : ∀ a, ¬ lt a a
 tr : ∀ a b c, lt a b → lt b c → lt a c
 tot : ∀ a b, T a → T b → ¬ lt a b → a ≠ b → lt b a
 dat : ∀ a, T a → isDat a = true
 ev : ∀ a b, T a → T b → ∀ (S : Sto) (q : U → Sto → Prop) [Decidable (lt a b)], wpO (fLtD (.v a) (.v b) S) q = q (.v (.bl (decide (lt a b)))) S
theorem qaj (i j : Int) (S : Sto) (q : U → Sto → Prop) : wpO (fLtD (.v (.int i)) (.v (.int j)) S) q = q (.v (.bl (decide (i < j)))) S := by
 rw [v_ltD (p := .int i) (r := .int j) rfl rfl (by simp) (by simp) (by simp [PySem.W.alike]) (by simp), PySem.W.dataLt_int]
def dlt (a b : D) : Prop := PySem.W.dataLt (encD a) (encD b) = true
instance (a b : D) : Decidable (dlt a b) := by unfold dlt; infer_instance
structure Form (T : D → Prop) : Prop where
 dat : ∀ a, T a → isDat a = true
 al : ∀ a b, T a → T b → PySem.W.alike (encD a) (encD b) = true
 nn : ∀ a, T a → a ≠ .non
theorem enc_of {a : D} (h : isDat a = true) : pyOf a = some (encD a) := by
 obtain ⟨k, e, _⟩ := py_of h
 unfold encD
 rw [e]; rfl
theorem dlt_irr (a : D) : ¬ dlt a a := by
 unfold dlt PySem.W.dataLt
 rw [PyProof.Rows.lex_irrefl]; simp
theorem dlt_tr (a b c : D) : dlt a b → dlt b c → dlt a c := PyProof.Rows.lex_trans _ _ _
theorem Form.ord {T : D → Prop} (F : Form T) : OrdOn T dlt where
 irr := dlt_irr
 tr := dlt_tr
 dat := F.dat
 tot := fun a b ha hb h1 h2 => by
   have e1 := enc_of (F.dat a ha)
   have e2 := enc_of (F.dat b hb)
   have al := F.al a b ha hb
   have hne : PyData.eqv (encD a) (encD b) = false := by
     cases e : PyData.eqv (encD a) (encD b) with
     | false => rfl
     | true => exact absurd (py_inj e1 (by rw [(py_eqv e1 e2).mp e]; exact e2)) h2
   have ht := (PySem.W.toks_eqv _ _ al).2 hne
   have hk : PySem.W.keyToks (encD a) ≠ PySem.W.keyToks (encD b) := fun z => by
     have t1 := ht [] [.inl 0]
     have t2 := ht [.inl 0] []
     rw [z] at t1 t2
     rw [PySem.W.lex_pre] at t1 t2
     have := t1.trans t2.symm
     simp [PyProof.Rows.lexLt] at this
   unfold dlt PySem.W.dataLt at h1 ⊢
   cases e : PyProof.Rows.lexLt PyProof.Rows.itemOrd (PySem.W.keyToks (encD b)) (PySem.W.keyToks (encD a)) with
   | true => rfl
   | false => exact absurd (PyProof.Rows.lex_total _ _ (by simpa using h1) e) hk
 ev := fun a b ha hb S q _ => by
   rw [v_ltD (enc_of (F.dat a ha)) (enc_of (F.dat b hb)) (F.dat a ha) (F.dat b hb) (F.al a b ha hb) (F.nn a ha)]
   congr 3
   by_cases h : dlt a b
   · rw [decide_eq_true h]; exact h
   · rw [decide_eq_false h]; simpa [dlt] using h
open Classical in
theorem in_order_ok {T : D → Prop} {lt : D → D → Prop} (O : OrdOn T lt) (ds : List D) (u : U) (S : Sto) (hu : asSeq S u = some (ds.map U.v)) (hT : ∀ d ∈ ds, T d) (hl : ds.length ≤ 2000) :
   ∃ es, f_in_order [u] S = .ok (.v (.lst es)) S ∧ es.Pairwise lt ∧ ∀ d, d ∈ es ↔ d ∈ ds := by
 unfold f_in_order
 suffices h : wpr (runF 6 m_in_order [u] S) (fun v T' => ∃ es : List D, v = .v (.lst es) ∧ T' = S ∧ es.Pairwise lt ∧ ∀ d, d ∈ es ↔ d ∈ ds) (fun _ _ _ => False) by
   obtain ⟨v, T', e, es, rfl, rfl, h1, h2⟩ := wpr_iff.mp h
   exact ⟨es, e, h1, h2⟩
 rw [wp_runF]
 simp [m_in_order, start0]
 unfold seqV
 rw [asSeq_app _ hu]
 simp only
 refine for_inv (fun i ρ T' => ∃ x2 x3 x4 x5 es, ρ = [some u, some (.r S.length), x2, x3, x4, x5] ∧ T' = S ++ [.lst (es.map U.v)] ∧ es.length ≤ i ∧ es.Pairwise lt ∧ ∀ d, d ∈ es ↔ d ∈ ds.take i) ⟨none, none, none, none, [], rfl, rfl, by simp, by simp, by simp⟩ ?_ ?_
 · rintro i w ρ T' hw ⟨x2, x3, x4, x5, es, rfl, rfl, hln, hp, hm⟩
   rw [List.getElem?_map, Option.map_eq_some_iff] at hw
   obtain ⟨d, hd, rfl⟩ := hw
   have hTd := hT d (List.mem_of_getElem? hd)
   have hi : i < ds.length := (List.getElem?_eq_some_iff.mp hd).1
   have hTe : ∀ e ∈ es, T e := fun e he => hT e (List.mem_of_mem_take ((hm e).mp he))
   have hget : ∀ (j : Nat), j < es.length → ∃ e, es[j]? = some e ∧ e ∈ es := fun j hj => ⟨es[j], List.getElem?_eq_getElem hj, List.getElem_mem hj⟩
   simp
   refine s_while _ _ (fun n ρ T' => ∃ (x5 : Option U) (lo hi : Nat), ρ = [some u, some (.r S.length), some (.v d), some (.v (.int lo)), some (.v (.int hi)), x5] ∧ T' = S ++ [.lst (es.map U.v)] ∧ lo ≤ hi ∧ hi ≤ es.length ∧ n = hi - lo ∧
     (∀ j e, j < lo → es[j]? = some e → lt e d) ∧ (∀ j e, hi ≤ j → es[j]? = some e → ¬ lt e d)) es.length ⟨x5, 0, es.length, rfl, rfl, by omega, by omega, by omega, by intro j e h; omega, fun j e h1 h2 => by rw [List.getElem?_eq_none h1] at h2; cases h2⟩ ?_
   rintro n ρ T' ⟨x5, lo, hi, rfl, rfl, h1, h2, h3, h4, h5⟩
   simp only [w_tB, w_op, w_var, getv_s, getv_0, qaj, isBl_b]
   by_cases hlt : (lo : Int) < hi
   · simp only [hlt, decide_true, if_true]
     obtain ⟨mid, hmid, hm1, hm2⟩ : ∃ mid : Nat, ((lo : Int) + hi) / 2 = mid ∧ lo ≤ mid ∧ mid < hi := ⟨(lo + hi) / 2, by omega, by omega, by omega⟩
     obtain ⟨e, he, hem⟩ := hget mid (by omega)
     simp [hmid, Pu.atI_nat, he, O.ev e d (hTe e hem) hTd]
     by_cases hed : lt e d
     · simp only [hed, if_true]
       refine ⟨hi - (mid + 1), by omega, some (.v (.int mid)), mid + 1, hi, ⟨by simp, rfl, rfl⟩, by omega, h2, rfl, fun j e' hj hj2 => ?_, h5⟩
       by_cases hjm : j = mid
       · subst hjm; rw [he] at hj2; cases hj2; exact hed
       · obtain ⟨hjl, hje⟩ := List.getElem?_eq_some_iff.mp hj2
         obtain ⟨hml, hme⟩ := List.getElem?_eq_some_iff.mp he
         have := List.pairwise_iff_getElem.mp hp j mid hjl hml (by omega)
         rw [hje, hme] at this
         exact O.tr _ _ _ this hed
     · simp only [hed, if_false]
       refine ⟨mid - lo, by omega, some (.v (.int mid)), lo, mid, ⟨rfl, rfl, rfl⟩, by omega, by omega, rfl, h4, fun j e' hj hj2 => ?_⟩
       by_cases hjm : j = mid
       · subst hjm; rw [he] at hj2; cases hj2; exact hed
       · obtain ⟨hjl, hje⟩ := List.getElem?_eq_some_iff.mp hj2
         obtain ⟨hml, hme⟩ := List.getElem?_eq_some_iff.mp he
         have := List.pairwise_iff_getElem.mp hp mid j hml hjl (by omega)
         rw [hje, hme] at this
         exact fun z => hed (O.tr _ _ _ this z)
   · simp only [hlt, decide_false, Bool.false_eq_true, if_false]
     have hlh : lo = hi := by omega
     subst hlh
     have hso := fun l l' => src_app (S := S) l l' hu
     have htk : ds.take (i + 1) = ds.take i ++ [d] := by rw [List.take_succ, hd]; rfl
     have hbef : ∀ a ∈ es.take lo, lt a d := fun a ha => by
       obtain ⟨j, hj, rfl⟩ := List.mem_take_iff_getElem.mp ha
       exact h4 j _ (by omega) (List.getElem?_eq_getElem _)
     have haft : ∀ a ∈ es.drop lo, ¬ lt a d := fun a ha => by
       obtain ⟨j, hj, rfl⟩ := List.mem_drop_iff_getElem.mp ha
       exact h5 (lo + j) _ (by omega) (List.getElem?_eq_getElem _)
     have hmem : ∀ a, a ∈ es ↔ a ∈ es.take lo ∨ a ∈ es.drop lo := fun a => by rw [← List.mem_append, List.take_append_drop]
     have hins : d ∉ es → ∃ es' : List D, List.take lo (es.map U.v) ++ U.v d :: List.drop lo (es.map U.v) = es'.map U.v ∧ es'.length ≤ i + 1 ∧ es'.Pairwise lt ∧ ∀ d', d' ∈ es' ↔ d' ∈ ds.take (i + 1) := fun hnd => by
       refine ⟨es.take lo ++ d :: es.drop lo, by simp [List.map_take, List.map_drop], by simp; omega, ?_, fun d' => ?_⟩
       · rw [List.pairwise_append, List.pairwise_cons]
         have hda : ∀ b ∈ es.drop lo, lt d b := fun b hb => O.tot b d (hTe b ((hmem b).mpr (.inr hb))) hTd (haft b hb) (fun e => hnd (by rw [← e]; exact (hmem b).mpr (.inr hb)))
         refine ⟨hp.sublist (List.take_sublist _ _), ⟨hda, hp.sublist (List.drop_sublist _ _)⟩, fun a ha b hb => ?_⟩
         rcases List.mem_cons.mp hb with e | e
         · subst e; exact hbef a ha
         · exact O.tr _ _ _ (hbef a ha) (hda b e)
       · rw [htk, List.mem_append, List.mem_append, List.mem_singleton, List.mem_cons, ← hm, hmem]
         constructor
         · rintro (h | h | h)
           · exact .inl (.inl h)
           · exact .inr h
           · exact .inl (.inr h)
         · rintro ((h | h) | h)
           · exact .inl h
           · exact .inr (.inr h)
           · exact .inr (.inl h)
     simp [isL_r]
     split
     · rename_i hll
       have hll2 : lo = es.length := by omega
       have hnd : d ∉ es := fun hde => by
         rcases (hmem d).mp hde with h | h
         · exact O.irr d (hbef d h)
         · rw [hll2] at h; simp at h
       obtain ⟨es', e1, e2, e3, e4⟩ := hins hnd
       rw [e1]
       exact ⟨⟨by omega, by omega⟩, hso _ _, es', rfl, e2, e3, e4⟩
     · rename_i hll
       obtain ⟨e, he, hem⟩ := hget lo (by omega)
       simp [Pu.atI_nat, he, v_ne (O.dat e (hTe e hem)) (O.dat d hTd), isL_r]
       by_cases hed : e = d
       · subst hed
         simp
         refine ⟨hso _ _, es, rfl, by omega, hp, fun d' => ?_⟩
         rw [htk, List.mem_append, List.mem_singleton, ← hm]
         exact ⟨.inl, fun h => h.elim id fun h => by rw [h]; exact hem⟩
       · simp [hed]
         have hnd : d ∉ es := fun hde => by
           obtain ⟨j, hj, hje⟩ := List.mem_iff_getElem.mp hde
           obtain ⟨hlol, hloe⟩ := List.getElem?_eq_some_iff.mp he
           by_cases hjl : j < lo
           · exact O.irr d (h4 j d hjl (by rw [List.getElem?_eq_getElem hj, hje]))
           · by_cases hjo : j = lo
             · subst hjo; exact hed (by rw [← hloe, hje])
             · have := List.pairwise_iff_getElem.mp hp lo j hlol hj (by omega)
               rw [hloe, hje] at this
               exact h5 lo e (Nat.le_refl _) he this
         obtain ⟨es', e1, e2, e3, e4⟩ := hins hnd
         rw [e1]
         exact ⟨⟨by omega, by omega⟩, hso _ _, es', rfl, e2, e3, e4⟩
 · rintro ρ T' ⟨x2, x3, x4, x5, es, rfl, rfl, hln, hp, hm⟩
   simp only [List.length_map] at hm
   simp only [getv_s, getv_0]
   rw [fin_l0]
   refine ⟨es, rfl, rfl, hp, fun d => ?_⟩
   rw [hm]; simp
def isI (d : D) : Prop := ∃ i : Int, d = .int i
theorem form_i : Form isI where
 dat := by rintro _ ⟨i, rfl⟩; simp
 al := by rintro _ _ ⟨i, rfl⟩ ⟨j, rfl⟩; rfl
 nn := by rintro _ ⟨i, rfl⟩; simp
theorem dlt_i (i j : Int) : dlt (.int i) (.int j) ↔ i < j := by
 unfold dlt
 show PySem.W.dataLt (.int i) (.int j) = true ↔ _
 rw [PySem.W.dataLt_int]; simp
abbrev St3 := Int × Str × Int
def stD (s : St3) : D := .tup [.int s.1, .str s.2.1, .int s.2.2]
theorem stD_inj {a b : St3} (h : stD a = stD b) : a = b := by
 obtain ⟨a1, a2, a3⟩ := a
 obtain ⟨b1, b2, b3⟩ := b
 simpa [stD] using h
def isSt (d : D) : Prop := ∃ s : St3, d = stD s
theorem form_st : Form isSt where
 dat := by rintro _ ⟨i, rfl⟩; simp [stD]
 al := by rintro _ _ ⟨i, rfl⟩ ⟨j, rfl⟩; rfl
 nn := by rintro _ ⟨i, rfl⟩; simp [stD]
theorem dlt_st (a b : St3) : dlt (stD a) (stD b) ↔ a.1 < b.1 ∨ (a.1 = b.1 ∧ (a.2.1.cps.toList < b.2.1.cps.toList ∨ (a.2.1 = b.2.1 ∧ a.2.2 < b.2.2))) := by
 unfold dlt
 show PySem.W.dataLt (.tuple [.int a.1, .str a.2.1, .int a.2.2]) (.tuple [.int b.1, .str b.2.1, .int b.2.2]) = true ↔ _
 rw [PySem.W.dataLt_tuple, PySem.W.dataLt_cons (by rfl), PySem.W.dataLt_cons (by rfl), PySem.W.dataLt_cons (by rfl), PySem.W.dataLt_int, PySem.W.dataLt_int, PySem.W.dataLt_str, PyProof.Rows.lex_irrefl]
 simp only [PyData.eqv, beq_iff_eq]
 by_cases h1 : a.1 = b.1 <;> by_cases h2 : a.2.1 = b.2.1 <;> by_cases h3 : a.2.2 = b.2.2 <;> simp [h1, h2, h3]
 exact fun h => absurd h (Array.lt_irrefl _)
end Mi
namespace Mi
open PySem Pu L2
theorem is_ask_ok (z : Str) (h : AskS z) (S : Sto) : f_is_ask [.v (.str z)] S = .ok (.v (.bl true)) S := by
 unfold f_is_ask
 refine runF_eq ?_
 obtain ⟨h1, h2, h3⟩ := h
 have e1 : ¬ ((z.length : Int) < 1) := by omega
 have e2 : ¬ ((8 : Int) < z.length) := by omega
 have e4 : z.length ≤ 100000 := by omega
 simp [m_is_ask, start0, e1, e2, e4]
 refine w_lcV (ds := z.cps.toList.map fun c => D.str (mkS [c])) (src := none) (S1 := S) (fun _ => true) (fun _ => .bl true) ?_ ?_ nofun ?_ ?_
 · simp [chrs]; exact fun _ _ => rfl
 · have e3 : z.cps.toList.length = z.length := by simp; rfl
   rw [List.length_map, e3]; omega
 · intro d hd acc
   obtain ⟨c, hc, rfl⟩ := List.mem_map.mp hd
   have hc2 := h3 c hc
   simp [wipeE]
   have hin : c ∈ lettT.cps.toList := by
     rw [lett_l]
     refine List.mem_map.mpr ⟨c - 97, by simp; omega, by omega⟩
   show wpO (fInX false (.v (.str ⟨⟨[c]⟩⟩)) (.v (.str lettT)) _) _
   unfold fInX asDic fIn
   simp only
   show _ ∧ _
   refine ⟨?_, rfl⟩
   simp only [cond_false]
   rw [decide_eq_true hin]
 · have e : (((z.cps.toList.map fun c => D.str (mkS [c])).filter fun _ => true).map fun _ => D.bl true) = (z.cps.toList.map fun _ => true).map D.bl := by
     rw [List.filter_eq_self.mpr (fun _ _ => rfl)]
     simp [Function.comp_def]
   rw [e, v_all]
   simp
theorem src_so {S : Sto} {u : U} {xs : List U} (h : asSeq S u = some xs) : srcOk (srcOf u) ((srcOf u).bind fun n => S[n]?) S := by
 have := src_app (S := S) [] [] h
 simpa using this
theorem check_parts_ok (size : Int) (marks : List Int) (steps : List St3) (mu su : U) (S : Sto) (hm : asSeq S mu = some ((marks.map D.int).map U.v)) (hs : asSeq S su = some ((steps.map stD).map U.v)) (h1 : 1 ≤ size) (h2 : size ≤ 200) (h3 : ∀ m ∈ marks, 0 ≤ m ∧ m < size)
   (h4 : ∀ s ∈ steps, 0 ≤ s.1 ∧ s.1 < size ∧ 0 ≤ s.2.2 ∧ s.2.2 < size ∧ AskS s.2.1) : f_check_parts [.v (.int size), mu, su] S = .ok (.v .non) S := by
 unfold f_check_parts
 refine runF_eq ?_
 have e1 : ¬ (size < 1) := by omega
 have e2 : ¬ (200 < size) := by omega
 simp [m_check_parts, start0, e1, e2, seqV_at0 hm]
 refine for_inv (fun i ρ T => ∃ x, ρ = [some (.v (.int size)), some mu, some su, x, none, none, none] ∧ T = S) ⟨_, rfl, rfl⟩ ?_ ?_
 · rintro i u ρ T hu ⟨x, rfl, rfl⟩
   obtain ⟨m, hm1, rfl, _⟩ := data_get2 hu
   have hb := h3 m (List.mem_of_getElem? hm1)
   have b1 : ¬ m < 0 := by omega
   have b2 : ¬ size ≤ m := by omega
   simp [b1, b2]
   exact src_so hm
 · rintro ρ T ⟨x, rfl, rfl⟩
   simp [seqV_at0 hs]
   refine for_inv (fun i ρ T' => ∃ x y z, ρ = [some (.v (.int size)), some mu, some su, _, x, y, z] ∧ T' = T) ⟨_, _, _, rfl, rfl⟩ ?_ ?_
   · rintro i u ρ T' hu ⟨x, y, z, rfl, rfl⟩
     obtain ⟨s, hs1, rfl, _⟩ := data_get2 hu
     obtain ⟨b1, b2, b3, b4, b5⟩ := h4 s (List.mem_of_getElem? hs1)
     have c1 : ¬ s.1 < 0 := by omega
     have c2 : ¬ size ≤ s.1 := by omega
     have c3 : ¬ s.2.2 < 0 := by omega
     have c4 : ¬ size ≤ s.2.2 := by omega
     simp [stD, c1, c2, c3, c4, is_ask_ok _ b5]
     exact src_so hs
   · rintro ρ T' ⟨x, y, z, rfl, rfl⟩
     simp
def keyS (s : Int) (a : Str) : D := .tup [.int s, .str a]
theorem keyS_key (s : Int) (a : Str) : isKey (keyS s a) = true := by simp [keyS]
theorem keyS_inj {s s' : Int} {a a' : Str} : keyS s a = keyS s' a' ↔ s = s' ∧ a = a' := by simp [keyS]
noncomputable def ends1 (acc : List (D × D)) (s : St3) : List (D × D) := dputD acc (keyS s.1 s.2.1) (.tup ((match dgetD acc (keyS s.1 s.2.1) with | some (.tup es) => es | _ => []) ++ [.int s.2.2]))
noncomputable def endsD (steps : List St3) : List (D × D) := steps.foldl ends1 []
def endsL (steps : List St3) (s : Int) (a : Str) : List Int := (steps.filter fun t => decide (t.1 = s ∧ t.2.1 = a)).map (·.2.2)
def endsT (es : List Int) : Option D := if es = [] then none else some (.tup (es.map D.int))
theorem ends_get (s : Int) (a : Str) : ∀ (steps pre : List St3) (acc : List (D × D)), (∀ s a, dgetD acc (keyS s a) = endsT (endsL pre s a)) → dgetD (steps.foldl ends1 acc) (keyS s a) = endsT (endsL (pre ++ steps) s a)
 | [], pre, acc, h => by simpa using h s a
 | t :: r, pre, acc, h => by
   rw [List.foldl_cons, ends_get s a r (pre ++ [t])]
   · simp
   · intro s a
     unfold ends1
     rw [dgetD_put, h]
     unfold endsL
     rw [List.filter_append, List.map_append]
     by_cases e : keyS s a = keyS t.1 t.2.1
     · obtain ⟨rfl, rfl⟩ := keyS_inj.mp e
       rw [if_pos rfl]
       simp only [List.filter_cons, and_self, decide_true, if_true, List.filter_nil, List.map_cons, List.map_nil]
       unfold endsT
       have hne : ∀ l : List Int, l ++ [t.2.2] ≠ [] := by intro l; simp
       rw [if_neg (hne _)]
       split
       · rename_i es hes
         split at hes
         · cases hes
         · cases hes; simp
       · rename_i hes
         split at hes
         · rename_i h0; rw [h0]; rfl
         · rename_i h0; exact absurd rfl (hes _)
     · rw [if_neg e, h]
       have : ¬ (t.1 = s ∧ t.2.1 = a) := fun z => e (keyS_inj.mpr ⟨z.1.symm, z.2.symm⟩)
       rw [List.filter_cons, if_neg (by simpa using this)]
       simp [endsL]
theorem endsD_get (steps : List St3) (s : Int) (a : Str) : dgetD (endsD steps) (keyS s a) = endsT (endsL steps s a) := by
 have := ends_get s a steps [] [] (fun s a => by simp [endsL, endsT, dgetD_nil])
 rw [List.nil_append] at this
 exact this
theorem endsD_getD (steps : List St3) (s : Int) (a : Str) : (dgetD (endsD steps) (keyS s a)).getD (.tup []) = .tup ((endsL steps s a).map D.int) := by
 rw [endsD_get]
 unfold endsT
 split
 · rename_i h; rw [h]; rfl
 · rfl
theorem ends1_len (acc : List (D × D)) (s : St3) : (ends1 acc s).length ≤ acc.length + 1 := dputD_len _ _ _
theorem endsF_len : ∀ (steps : List St3) (acc : List (D × D)), (steps.foldl ends1 acc).length ≤ acc.length + steps.length
 | [], acc => by simp
 | s :: r, acc => by
   have h1 := ends1_len acc s
   have h2 := endsF_len r (ends1 acc s)
   simp only [List.foldl_cons, List.length_cons]; omega
theorem ends_by_ask_ok (steps : List St3) (u : U) (S : Sto) (hu : asSeq S u = some ((steps.map stD).map U.v)) (hl : steps.length ≤ 2000) : f_ends_by_ask [u] S = .ok (.v (.dic (endsD steps))) S := by
 unfold f_ends_by_ask
 refine runF_eq ?_
 simp [m_ends_by_ask, start0, seqV_at _ hu]
 refine for_inv (fun i ρ T => ∃ x y z, ρ = [some u, some (.r S.length), x, y, z] ∧ T = S ++ [.dic (((steps.take i).foldl ends1 []).map vv)]) ⟨none, none, none, rfl, rfl⟩ ?_ ?_
 · rintro i w ρ T hw ⟨x, y, z, rfl, rfl⟩
   obtain ⟨s, hs1, rfl, _⟩ := data_get2 hw
   have hi : i < steps.length := (List.getElem?_eq_some_iff.mp hs1).1
   have hd : ∀ kvs : List (D × D), (S ++ [Cell.dic (kvs.map vv)])[S.length]? = some (.dic (kvs.map vv)) := fun kvs => by simp
   have htk : (steps.take (i + 1)).foldl ends1 [] = ends1 ((steps.take i).foldl ends1 []) s := by
     rw [List.take_succ, hs1]; simp
   have hlen := endsF_len (steps.take i) []
   rw [htk]
   generalize hacc : (steps.take i).foldl ends1 [] = acc at hlen ⊢
   have hget : (dgetD acc (keyS s.1 s.2.1)).getD (.tup []) = .tup ((endsL (steps.take i) s.1 s.2.1).map D.int) := by
     rw [← hacc]; exact endsD_getD _ _ _
   have hel : (endsL (steps.take i) s.1 s.2.1).length ≤ i := by
     unfold endsL
     rw [List.length_map]
     refine Nat.le_trans (List.length_filter_le _ _) ?_
     simp; omega
   have hval : (match dgetD acc (keyS s.1 s.2.1) with | some (.tup es) => es | _ => []) = (endsL (steps.take i) s.1 s.2.1).map D.int := by
     have e := endsD_get (steps.take i) s.1 s.2.1
     unfold endsD at e
     rw [hacc] at e
     rw [e]
     unfold endsT
     split
     · rename_i es h
       split at h
       · cases h
       · cases h; rfl
     · rename_i h
       split at h
       · rename_i h0; rw [h0]; rfl
       · exact absurd rfl (h _)
   have hkey := keyS_key s.1 s.2.1
   simp [stD, isDc_c (hd acc), v_getC (hd acc)]
   rw [show D.tup [D.int s.1, D.str s.2.1] = keyS s.1 s.2.1 from rfl, hget]
   simp
   refine ⟨by omega, ?_⟩
   rw [show keyS s.1 s.2.1 = D.tup [D.int s.1, D.str s.2.1] from rfl, v_setC (hd acc)]
   refine ⟨⟨hkey, by simp at hlen; omega⟩, ?_, ?_⟩
   · simp only [set_0]; exact src_app _ _ hu
   · simp only [set_0, List.set_cons_zero]
     unfold ends1
     rw [hval]; rfl
 · rintro ρ T ⟨x, y, z, rfl, rfl⟩
   simp
   exact fin_d0
def mFs (size : Int) (marks : List Int) (steps : List D) (ends : List (D × D)) (now : Int) : List (Str × D) := [("size", .int size), ("marks", .tup (marks.map D.int)), ("steps", .tup steps), ("ends", .dic ends), ("place", .int now)]
noncomputable def mRec (size : Int) (marks : List Int) (steps : List St3) (now : Int) : List (Str × D) := mFs size marks (steps.map stD) (endsD steps) now
structure Sorted (T : D → Prop) (xs ys : List D) : Prop where
 asc : ys.Pairwise dlt
 mem : ∀ d, d ∈ ys ↔ d ∈ xs
structure OkParts (size : Int) (marks0 marks : List Int) (steps0 steps : List St3) (now : Int) : Prop where
 s1 : 1 ≤ size
 s2 : size ≤ 200
 m0 : ∀ m ∈ marks0, 0 ≤ m ∧ m < size
 t0 : ∀ s ∈ steps0, 0 ≤ s.1 ∧ s.1 < size ∧ 0 ≤ s.2.2 ∧ s.2.2 < size ∧ AskS s.2.1
 ml : marks0.length ≤ 2000
 tl : steps0.length ≤ 2000
 n0 : 0 ≤ now
 n1 : now < size
 ma : (marks.map D.int).Pairwise dlt
 mm : ∀ m, m ∈ marks ↔ m ∈ marks0
 ta : (steps.map stD).Pairwise dlt
 tm : ∀ t, t ∈ steps ↔ t ∈ steps0
 t6 : steps.length ≤ 600
theorem in_order_eq {T : D → Prop} (F : Form T) (xs ys : List D) (u : U) (S : Sto) (hu : asSeq S u = some (xs.map U.v)) (hT : ∀ d ∈ xs, T d) (hl : xs.length ≤ 2000) (ha : ys.Pairwise dlt) (hm : ∀ d, d ∈ ys ↔ d ∈ xs) : f_in_order [u] S = .ok (.v (.lst ys)) S := by
 obtain ⟨es, e, h1, h2⟩ := in_order_ok F.ord xs u S hu hT hl
 rw [e, asc_ext dlt_irr dlt_tr h1 ha fun d => (h2 d).trans (hm d).symm]
theorem init_ok (c : Nat) (hc : c ∈ [12, 13, 14, 17]) (size : Int) (marks0 marks : List Int) (steps0 steps : List St3) (now : Int) (O : OkParts size marks0 marks steps0 steps now) (mu su : U) (S : Sto) (hm : asSeq S mu = some ((marks0.map D.int).map U.v)) (hs : asSeq S su = some ((steps0.map stD).map U.v)) :
   f_Machineu_initu [.r S.length, .v (.int size), mu, su, .v (.int now)] (S ++ [.ins c []]) = .ok (.v .non) (S ++ [.ins c (uFs (mRec size marks steps now))]) := by
 unfold f_Machineu_initu
 refine runF_eq ?_
 have hm1 := asSeq_app [Cell.ins c []] hm
 have hs1 := asSeq_app [Cell.ins c []] hs
 have k1 := check_parts_ok size marks0 steps0 mu su _ hm1 hs1 O.s1 O.s2 O.m0 O.t0
 have hc5 : c ∈ [12, 13, 14, 17, 18] := by
   simp only [List.mem_cons, List.not_mem_nil, or_false] at hc ⊢; omega
 simp [m_Machineu_initu, start0, k1]
 refine w_lcV (ds := steps0.map stD) (src := srcOf su) (S1 := S ++ [.ins c []]) (fun _ => true) (fun d => d) ?_ ?_ ?_ ?_ ?_
 · simp [seqV_at0 hs1]
 · have := O.tl; simp; omega
 · intro n hn
   cases su with
   | v d => cases hn
   | r m =>
     have hn : m = n := by simpa using hn
     subst hn
     unfold asSeq at hs1
     simp only at hs1
     by_cases hlt : m < (S ++ [Cell.ins c []]).length
     · exact hlt
     · rw [List.getElem?_eq_none (by omega)] at hs1; cases hs1
 · intro d hd acc
   obtain ⟨s, hs1, rfl⟩ := List.mem_map.mp hd
   simp [wipeE, stD]
 · have e0 : (((steps0.map stD).filter fun _ => true).map fun d => d) = steps0.map stD := by
     rw [List.filter_eq_self.mpr (fun _ _ => rfl)]; simp
   rw [e0]
   have k2 := in_order_eq form_st (steps0.map stD) (steps.map stD) (.v (.lst (steps0.map stD))) (S ++ [.ins c []]) rfl (fun d hd => by obtain ⟨s, _, rfl⟩ := List.mem_map.mp hd; exact ⟨s, rfl⟩) (by have := O.tl; simp; exact this) O.ta (fun d => by
     simp only [List.mem_map]
     exact ⟨fun ⟨s, h1, h2⟩ => ⟨s, (O.tm s).mp h1, h2⟩, fun ⟨s, h1, h2⟩ => ⟨s, (O.tm s).mpr h1, h2⟩⟩)
   have kl : ¬ ((600 : Int) < (steps.map stD).length) := by have := O.t6; simp; omega
   have n0 : ¬ now < 0 := by have := O.n0; omega
   have n1 : ¬ size ≤ now := by have := O.n1; omega
   have hlt : ¬ (600 < (steps.length : Int)) := by have := O.t6; omega
   have k3 := fun fs => in_order_eq form_i (marks0.map D.int) (marks.map D.int) mu (S ++ [.ins c fs]) (asSeq_app _ hm) (fun d hd => by obtain ⟨s, _, rfl⟩ := List.mem_map.mp hd; exact ⟨s, rfl⟩) (by have := O.ml; simp; exact this) O.ma (fun d => by
     simp only [List.mem_map]
     exact ⟨fun ⟨s, h1, h2⟩ => ⟨s, (O.mm s).mp h1, h2⟩, fun ⟨s, h1, h2⟩ => ⟨s, (O.mm s).mpr h1, h2⟩⟩)
   have k4 := fun T => ends_by_ask_ok steps (.v (.lst (steps.map stD))) T rfl (by have := O.t6; omega)
   have hcc : c = 12 ∨ c = 13 ∨ c = 14 ∨ c = 17 := by simpa using hc
   have hcc5 : c = 12 ∨ c = 13 ∨ c = 14 ∨ c = 17 ∨ c = 18 := by simpa using hc5
   simp [k2, hlt, n0, n1, k3, k4, putU, hcc, hcc5]
   have := fin_last (S := S) (c0 := Cell.ins c []) (c1 := Cell.ins c (uFs (mRec size marks steps now))) (l := []) (d := .non) (fixC_ins _ _ _ _ _)
   have fin := (show _ = _ from by simpa [uFs, mRec, mFs] using this)
   first
     | exact ⟨O.n0, O.n1, fin⟩
     | exact fin
theorem service_ok (size : Int) (marks0 marks : List Int) (steps0 steps : List St3) (now : Int) (O : OkParts size marks0 marks steps0 steps now) (mu su : U) (S : Sto) (hm : asSeq S mu = some ((marks0.map D.int).map U.v)) (hs : asSeq S su = some ((steps0.map stD).map U.v)) :
   f_Serviceu_initu [.r S.length, .v (.int size), mu, su, .v (.int now)] (S ++ [.ins 13 []]) = .ok (.v .non) (S ++ [.ins 13 (uFs (mRec size marks steps now))]) := by
 refine eq_of_wpr ?_
 unfold f_Serviceu_initu
 simp [init_ok 13 (by simp) size marks0 marks steps0 steps now O mu su S hm hs]
theorem pattern_ok (size : Int) (marks0 marks : List Int) (steps0 steps : List St3) (now : Int) (O : OkParts size marks0 marks steps0 steps now) (mu su : U) (S : Sto) (hm : asSeq S mu = some ((marks0.map D.int).map U.v)) (hs : asSeq S su = some ((steps0.map stD).map U.v)) :
   f_Patternu_initu [.r S.length, .v (.int size), mu, su, .v (.int now)] (S ++ [.ins 14 []]) = .ok (.v .non) (S ++ [.ins 14 (uFs (mRec size marks steps now))]) := by
 refine eq_of_wpr ?_
 unfold f_Patternu_initu
 simp [init_ok 14 (by simp) size marks0 marks steps0 steps now O mu su S hm hs]
end Mi
namespace Mi
open PySem Pu L2
def climbF (size : Int) : List Int → Int → List Int
 | [], _ => []
 | d :: ds, s => if s < size then s :: climbF size ds (s + 1 + d % 17) else climbF size ds s
def climbN (row : List Int) (size : Int) : List Int := climbF size (cutU row (some 2) (some (2 + rg row 1 % 13))) (rg row 0 % size)
section
variable {S : Sto} {u : U} {xs : List D} {q : U → Sto → Prop}
theorem lst_list {l : List U} (h : asLst S u = some l) : asList S u = some l := by
 cases u with
 | v d => cases d <;> first | exact h | cases h
 | r n => exact h
theorem qak (h : asLst S u = some (xs.map U.v)) (lo hi : Option Int) : wpO (fSl u lo hi S) q = q (.v (.lst (cutU xs lo hi))) S := by
 have h2 := lst_list h
 have e : fSl u lo hi S = (match asList S u with
   | some xs => (allV (cutU xs lo hi)).map fun ds => (.v (.lst ds), S)
   | none => none) := by
   cases u with
   | v d => cases d <;> first | rfl | cases h
   | r n => rfl
 rw [e, h2]
 simp only [cutU_map, allV_map]
 rfl
end
@[simp] theorem asLst_v (S : Sto) (xs : List D) : asLst S (.v (.lst xs)) = some (xs.map U.v) := rfl
theorem cutU_lo {α : Type} (xs : List α) (k : Int) (h : 0 ≤ k) : cutU xs (some k) none = xs.drop k.toNat := by
 obtain ⟨n, rfl⟩ := Int.eq_ofNat_of_zero_le h
 unfold cutU
 rw [HT.sIx_nat, HT.sIx_none]
 by_cases hn : n ≤ xs.length
 · rw [Nat.min_eq_left hn, List.take_of_length_le (by simp)]; rfl
 · rw [Nat.min_eq_right (by omega), List.drop_eq_nil_of_le (Nat.le_refl _), List.drop_eq_nil_of_le (by simp; omega)]; simp
theorem cutU_hi {α : Type} (xs : List α) (k : Int) (h : 0 ≤ k) : cutU xs none (some k) = xs.take k.toNat := by
 obtain ⟨n, rfl⟩ := Int.eq_ofNat_of_zero_le h
 unfold cutU
 rw [HT.sIx_nat, HT.sIx_none]
 simp only [List.drop_zero, Nat.sub_zero, Int.toNat_natCast]
 by_cases hn : n ≤ xs.length
 · rw [Nat.min_eq_left hn]
 · rw [Nat.min_eq_right (by omega), List.take_of_length_le (Nat.le_refl _), List.take_of_length_le (by omega)]
end Mi
namespace Mi
open PySem Pu L2
section
variable (size : Int) (marks : List Int) (steps : List St3) (now : Int) (k : U → Prop) (kd : List D → Prop)
@[simp ↓] theorem mX_marks (ex : List (Str × U)) : wpo ((List.map (fun p => (p.1, U.v p.2)) (mRec size marks steps now) ++ ex).lookup (Str.ofString "marks")) k = k (.v (.tup (marks.map D.int))) := by simp [mRec, mFs]
@[simp ↓] theorem mX_ends (ex : List (Str × U)) : wpo ((List.map (fun p => (p.1, U.v p.2)) (mRec size marks steps now) ++ ex).lookup (Str.ofString "ends")) k = k (.v (.dic (endsD steps))) := by simp [mRec, mFs]
@[simp ↓] theorem mX_place (ex : List (Str × U)) : wpo ((List.map (fun p => (p.1, U.v p.2)) (mRec size marks steps now) ++ ex).lookup (Str.ofString "place")) k = k (.v (.int now)) := by simp [mRec, mFs]
end
theorem dat_ints (l : List Int) : isDat (.lst (l.map D.int)) = true := by simp
theorem allT {α : Type} (l : List α) (f : α → D) (g : D → D) (hg : ∀ a, g (f a) = .bl true) : (((l.map f).filter fun _ => true).map g) = (l.map fun _ => true).map D.bl := by
 rw [List.filter_eq_self.mpr (fun _ _ => rfl)]
 simp [Function.comp_def, hg]
theorem all_true {α : Type} (l : List α) : (l.map fun _ => true).all id = true := by simp
end Mi
namespace Mi
open PySem Pu L2
def isStr (d : D) : Prop := ∃ z : Str, d = .str z
def slt (a b : Str) : Prop := a.cps.toList < b.cps.toList
theorem dlt_s (a b : Str) : dlt (.str a) (.str b) ↔ slt a b := by
 unfold dlt slt
 show PySem.W.dataLt (.str a) (.str b) = true ↔ _
 rw [PySem.W.dataLt_str]; simp
noncomputable def sortS (zs : List Str) : List Str := (sortD (zs.map D.str)).map fun d => match d with | .str z => z | _ => ""
def asksN (row : List Int) (n : Nat) : List Str := (List.range n).map fun i => askN row i
@[simp] theorem asksN_len (row : List Int) (n : Nat) : (asksN row n).length = n := by simp [asksN]
theorem asks_i (row : List Int) (hl : row.length = 13) (n : Int) (h0 : 0 ≤ n) (hn : n ≤ 100) (S : Sto) : f__law_asks [.v (.lst (row.map D.int)), .v (.int n)] S = .ok (.v (.lst ((asksN row n.toNat).map D.str))) S := by
 obtain ⟨m, rfl⟩ := Int.eq_ofNat_of_zero_le h0
 have := asks_ok row hl m (by omega) S
 rw [this]
 simp [asksN, Function.comp_def]
theorem asksN_ask (row : List Int) (hl : row.length = 13) (n : Nat) : ∀ z ∈ asksN row n, AskS z := by
 intro z hz
 obtain ⟨i, _, rfl⟩ := List.mem_map.mp hz
 exact askN_ok row hl i
theorem asksN_nd (row : List Int) (hl : row.length = 13) (n : Nat) (hn : n ≤ 8) : (asksN row n).Nodup := by
 unfold asksN
 rw [List.nodup_iff_pairwise_ne, List.pairwise_map]
 refine List.nodup_range.imp_of_mem fun {a b} ha hb h e => h ?_
 simp at ha hb
 exact askN_inj row hl a b (by omega) (by omega) e
def lt3 (a b : St3) : Prop := a.1 < b.1 ∨ (a.1 = b.1 ∧ (slt a.2.1 b.2.1 ∨ (a.2.1 = b.2.1 ∧ a.2.2 < b.2.2)))
theorem asc3 {l : List St3} (h : l.Pairwise lt3) : (l.map stD).Pairwise dlt := by
 rw [List.pairwise_map]
 exact h.imp fun h => (dlt_st _ _).mpr h
theorem ascI {l : List Int} (h : l.Pairwise (· < ·)) : (l.map D.int).Pairwise dlt := by
 rw [List.pairwise_map]
 exact h.imp fun h => (dlt_i _ _).mpr h
end Mi
namespace Mi
open PySem Pu L2
theorem filter2_len {α : Type} (p q : α → Bool) (h : ∀ a, p a = true → q a = true → False) : ∀ l : List α, (l.filter p).length + (l.filter q).length ≤ l.length
 | [] => by simp
 | a :: l => by
   have ih := filter2_len p q h l
   rw [List.filter_cons, List.filter_cons]
   cases hp : p a <;> cases hq : q a
   · simp; omega
   · simp; omega
   · simp; omega
   · exact (h a hp hq).elim
open Classical in
theorem exists_asc {α : Type} {lt : α → α → Prop} (irr : ∀ a, ¬ lt a a) (tr : ∀ a b c, lt a b → lt b c → lt a c) (tot : ∀ a b, ¬ lt a b → a ≠ b → lt b a) : ∀ l : List α, ∃ l' : List α, l'.Pairwise lt ∧ (∀ a, a ∈ l' ↔ a ∈ l) ∧ l'.length ≤ l.length
 | [] => ⟨[], by simp, by simp, by simp⟩
 | x :: l => by
   obtain ⟨l', h1, h2, h3⟩ := exists_asc irr tr tot l
   refine ⟨l'.filter (fun a => decide (lt a x)) ++ x :: l'.filter (fun a => decide (lt x a)), ?_, fun a => ?_, ?_⟩
   · rw [List.pairwise_append, List.pairwise_cons]
     refine ⟨h1.sublist (List.filter_sublist), ⟨fun a ha => by simpa using (List.mem_filter.mp ha).2, h1.sublist (List.filter_sublist)⟩, fun a ha b hb => ?_⟩
     have ha' : lt a x := by simpa using (List.mem_filter.mp ha).2
     rcases List.mem_cons.mp hb with e | e
     · subst e; exact ha'
     · exact tr a x b ha' (by simpa using (List.mem_filter.mp e).2)
   · rw [List.mem_append, List.mem_cons, List.mem_filter, List.mem_filter, List.mem_cons, ← h2 a]
     constructor
     · rintro (⟨h, _⟩ | h | ⟨h, _⟩)
       · exact .inr h
       · exact .inl h
       · exact .inr h
     · rintro (h | h)
       · exact .inr (.inl h)
       · by_cases e1 : lt a x
         · exact .inl ⟨h, by simpa using e1⟩
         · by_cases e2 : a = x
           · exact .inr (.inl e2)
           · exact .inr (.inr ⟨h, by simpa using tot a x e1 e2⟩)
   · have := filter2_len (fun a => decide (lt a x)) (fun a => decide (lt x a)) (fun a h h' => irr a (tr a x a (by simpa using h) (by simpa using h'))) l'
     simp; omega
theorem lt3_dlt (a b : St3) : lt3 a b ↔ dlt (stD a) (stD b) := (dlt_st a b).symm
theorem lt3_irr (a : St3) : ¬ lt3 a a := fun h => dlt_irr _ ((lt3_dlt _ _).mp h)
theorem lt3_tr (a b c : St3) (h : lt3 a b) (h' : lt3 b c) : lt3 a c := (lt3_dlt _ _).mpr (dlt_tr _ _ _ ((lt3_dlt _ _).mp h) ((lt3_dlt _ _).mp h'))
theorem lt3_tot (a b : St3) (h : ¬ lt3 a b) (h' : a ≠ b) : lt3 b a := (lt3_dlt _ _).mpr (form_st.ord.tot _ _ ⟨a, rfl⟩ ⟨b, rfl⟩ (fun z => h ((lt3_dlt _ _).mpr z)) fun z => h' (stD_inj z))
noncomputable def sort3 (l : List St3) : List St3 := (exists_asc lt3_irr lt3_tr lt3_tot l).choose
theorem sort3_asc (l : List St3) : (sort3 l).Pairwise lt3 := (exists_asc lt3_irr lt3_tr lt3_tot l).choose_spec.1
theorem sort3_mem (l : List St3) (t : St3) : t ∈ sort3 l ↔ t ∈ l := (exists_asc lt3_irr lt3_tr lt3_tot l).choose_spec.2.1 t
theorem sort3_len (l : List St3) : (sort3 l).length ≤ l.length := (exists_asc lt3_irr lt3_tr lt3_tot l).choose_spec.2.2
theorem sort3_eq {l m : List St3} (h : m.Pairwise lt3) (hm : ∀ t, t ∈ m ↔ t ∈ l) : sort3 l = m := asc_ext lt3_irr lt3_tr (sort3_asc l) h fun t => (sort3_mem l t).trans (hm t).symm
theorem iex (l : List Int) : ∃ l' : List Int, l'.Pairwise (· < ·) ∧ (∀ a, a ∈ l' ↔ a ∈ l) ∧ l'.length ≤ l.length := exists_asc (by omega) (by omega) (by omega) l
noncomputable def sortI (l : List Int) : List Int := (iex l).choose
theorem sortI_asc (l : List Int) : (sortI l).Pairwise (· < ·) := (iex l).choose_spec.1
theorem sortI_mem (l : List Int) (t : Int) : t ∈ sortI l ↔ t ∈ l := (iex l).choose_spec.2.1 t
theorem sortI_eq {l m : List Int} (h : m.Pairwise (· < ·)) (hm : ∀ t, t ∈ m ↔ t ∈ l) : sortI l = m := asc_ext (lt := (· < ·)) (by omega) (by omega) (sortI_asc l) h fun t => (sortI_mem l t).trans (hm t).symm
structure Raw (size : Int) (ms : List Int) (ts : List St3) : Prop where
 s1 : 1 ≤ size
 s2 : size ≤ 200
 m0 : ∀ m ∈ ms, 0 ≤ m ∧ m < size
 t0 : ∀ s ∈ ts, 0 ≤ s.1 ∧ s.1 < size ∧ 0 ≤ s.2.2 ∧ s.2.2 < size ∧ AskS s.2.1
 ml : ms.length ≤ 600
 tl : ts.length ≤ 600
theorem Raw.ok {size : Int} {ms : List Int} {ts : List St3} (h : Raw size ms ts) {now : Int} (h0 : 0 ≤ now) (h1 : now < size) : OkParts size ms (sortI ms) ts (sort3 ts) now where
 s1 := h.s1
 s2 := h.s2
 m0 := h.m0
 t0 := h.t0
 ml := by have := h.ml; omega
 tl := by have := h.tl; omega
 n0 := h0
 n1 := h1
 ma := ascI (sortI_asc ms)
 mm := sortI_mem ms
 ta := asc3 (sort3_asc ts)
 tm := sort3_mem ts
 t6 := by have := h.tl; have := sort3_len ts; omega
theorem endsL_asc {ts : List St3} (h : ts.Pairwise lt3) (s : Int) (a : Str) : (endsL ts s a).Pairwise (· < ·) := by
 unfold endsL
 rw [List.pairwise_map, List.pairwise_filter]
 refine h.imp fun {x y} hxy hx hy => ?_
 have hx : x.1 = s ∧ x.2.1 = a := by simpa using hx
 have hy : y.1 = s ∧ y.2.1 = a := by simpa using hy
 rcases hxy with e | ⟨_, e | ⟨_, e⟩⟩
 · omega
 · rw [hx.2, hy.2] at e
   exact absurd ((dlt_s a a).mpr e) (dlt_irr _)
 · exact e
theorem endsL_mem {ts : List St3} {s : Int} {a : Str} {e : Int} : e ∈ endsL ts s a ↔ (s, a, e) ∈ ts := by
 unfold endsL
 rw [List.mem_map]
 constructor
 · rintro ⟨t, ht, rfl⟩
   obtain ⟨h1, h2⟩ := List.mem_filter.mp ht
   obtain ⟨rfl, rfl⟩ : t.1 = s ∧ t.2.1 = a := by simpa using h2
   exact h1
 · intro h
   exact ⟨(s, a, e), List.mem_filter.mpr ⟨h, by simp⟩, rfl⟩
abbrev uF (fs : List (Str × D)) : List (Str × U) := List.map (fun p => (p.1, U.v p.2)) fs
def IsM (S : Sto) (x : U) (c : Nat) (size : Int) (ms : List Int) (ts : List St3) (now : Int) : Prop := (∃ ex : List (Str × U), asIns S x = some (c, uF (mRec size ms ts now) ++ ex)) ∧ (c = 12 ∨ c = 13 ∨ c = 14 ∨ c = 17)
section
variable {S : Sto} {x : U} {c : Nat} {size : Int} {ms : List Int} {ts : List St3} {now : Int}
noncomputable def IsM.ex (h : IsM S x c size ms ts now) : List (Str × U) := h.1.choose
theorem IsM.as (h : IsM S x c size ms ts now) : asIns S x = some (c, uF (mRec size ms ts now) ++ h.ex) := h.1.choose_spec
theorem isIns_of {p : Nat × List (Str × U)} (h : asIns S x = some p) (k : Nat → List (Str × U) → Prop) : isIns S x k = k p.1 p.2 := by unfold isIns; rw [h]
theorem IsM.at (h : IsM S x c size ms ts now) (k : Nat → List (Str × U) → Prop) : isIns S x k = k c (uF (mRec size ms ts now) ++ h.ex) := isIns_of h.as k
theorem isM_r {n : Nat} (h : S[n]? = some (.ins c (uFs (mRec size ms ts now)))) (hc : c = 12 ∨ c = 13 ∨ c = 14 ∨ c = 17) : IsM S (.r n) c size ms ts now := ⟨⟨[], by unfold asIns; simp only [h, List.append_nil]; rfl⟩, hc⟩
theorem now_x (h : IsM S x c size ms ts now) : f_Machine_now [x] S = .ok (.v (.int now)) S := by
 unfold f_Machine_now
 refine runF_eq ?_
 simp [m_Machine_now, start0, h.at, h.2]
end
section
variable {S : Sto} {q : U → Sto → Prop}
theorem q2u (neg : Bool) {d : D} {u : U} {ds : List D} (hu : asSeq S u = some (ds.map U.v)) (hd : isKey d = true) (hs : ∀ x ∈ ds, isKey x = true) (hn : ∀ z, d ≠ .str z) : wpO (fInX neg (.v d) u S) q = q (.v (.bl (cond neg (!decide (d ∈ ds)) (decide (d ∈ ds))))) S := by
 have h0 : asDic S u = none := by
   cases u with
   | v e => cases e <;> first | rfl | cases hu
   | r n =>
     unfold asSeq at hu; unfold asDic
     simp only at hu ⊢
     cases e : S[n]? with
     | none => rfl
     | some cc => rw [e] at hu; cases cc <;> first | rfl | cases hu
 unfold fInX
 rw [h0]
 have h1 : fIn neg (.v d) u S = (inSeq d (ds.map U.v)).map fun b => (.v (.bl (cond neg (!b) b)), S) := by
   cases d with
   | str z => exact absurd rfl (hn z)
   | _ => unfold fIn; simp only [hu]
 simp only [h1]
 have h2 : inSeq d (ds.map U.v) = some (decide (d ∈ ds)) := by
   unfold inSeq
   rw [if_pos hd, allV_map]
   simp only
   rw [if_pos (List.all_eq_true.mpr hs)]
 rw [h2]; rfl
end
end Mi
namespace Mi
open PySem L2 Pu
noncomputable def m__law_steps : MS := (sSeq (sAsg (eCB fLstS aNil) (gName 4))
 (sSeq (sFor (iRng1 (aCons (eVar 1) aNil)) (gName 5)
 (sFor (iRng1 (aCons (eCB fLen (aCons (eVar 2) aNil)) aNil)) (gName 6)
 (sSeq (sAsg (eOp fIxX (eVar 0) (eOp (fI gMod) (eCB fInt (aCons (eOp fAdd (eOp (fI gMul) (eVar 5) (eCB fLen (aCons (eVar 2) aNil))) (eVar 6)) aNil)) (eCB fLen (aCons (eVar 0) aNil)))) (gName 7))
 (sFor (iRng1 (aCons (eVar 1) aNil)) (gName 8)
 (sSeq (sIf (tAnd (tB (eVar 3)) (tB (eOp fEq (eOp (fI gMod) (eCB fInt (aCons (eVar 7) aNil)) (eOp fAdd (eVar 1) (eC (.int 1)))) (eOp fAdd (eVar 8) (eC (.int 1))))))
 (sExpr (eMtT isL fAppend (eVar 4) (aCons (eCB fTup (aCons (eVar 5) (aCons (eOp fIxX (eVar 2) (eVar 6)) (aCons (eVar 8) aNil)))) aNil)))
 sNext)
 (sIf (tAnd (tNot (tB (eVar 3))) (tB (eOp fEq (eOp (fI gMod) (eCB fInt (aCons (eOp (fI gDiv) (eVar 7) (eOp fIxX (eCB fLstV (aCons (eC (.int 1)) (aCons (eC (.int 2)) (aCons (eC (.int 4)) (aCons (eC (.int 8)) aNil))))) (eVar 8))) aNil)) (eC (.int 2))) (eC (.int 1)))))
 (sExpr (eMtT isL fAppend (eVar 4) (aCons (eCB fTup (aCons (eVar 5) (aCons (eOp fIxX (eVar 2) (eVar 6)) (aCons (eVar 8) aNil)))) aNil)))
 sNext))))))
 (sRet (eVar 4))))
noncomputable def f__law_steps : List U → Sto → R U := runF 9 m__law_steps
noncomputable def m__law_marks : MS := (sRet (eLcV [2] (iRng1 (aCons (eVar 1) aNil)) (gName 2) (tOr (tB (eOp (fI (gCmp fun i j => decide (j ≤ i))) (eVar 0) (eC (.int 48)))) (tB (eOp fEq (eOp (fI gMod) (eCB fInt (aCons (eOp (fI gDiv) (eVar 0) (eOp fIxX (eCB fLstV (aCons (eC (.int 1)) (aCons (eC (.int 2)) (aCons (eC (.int 4)) (aCons (eC (.int 8)) aNil))))) (eVar 2))) aNil)) (eC (.int 2))) (eC (.int 1))))) (eVar 2)))
noncomputable def f__law_marks : List U → Sto → R U := runF 3 m__law_marks
noncomputable def m_Machineu_getitemu : MS := (sRet (eMtT isDc fGet (eUn (fFld [12, 13, 14, 17] "ends") (eVar 0)) (aCons (eCB fTup (aCons (eUn (fFld [12, 13, 14, 17] "place") (eVar 0)) (aCons (eVar 1) aNil))) (aCons (eCB fTup aNil) aNil))))
noncomputable def f_Machineu_getitemu : List U → Sto → R U := runF 2 m_Machineu_getitemu
noncomputable def m__law_item_holds : MS := (sSeq (sAsg (eIxO [12, 13, 14, 17] f_Machineu_getitemu (eVar 0) (eVar 1)) (gName 3))
 (sSeq (sIf (tOr (tNot (tB (eCB fIsi (aCons (eVar 3) (aCons (eC (.ty "tuple")) aNil))))) (tNot (tB (eCB fAll (aCons (eLcV [4] (iVal (eVar 3)) (gName 4) tYesM (eCall 1 f__law_whole [] (aCons (eVar 4) aNil))) aNil)))))
 (sRet (eC (.bl false)))
 sNext)
 (sRet (eOp fEq (eCB fListX (aCons (eVar 3) aNil)) (eVar 2)))))
noncomputable def f__law_item_holds : List U → Sto → R U := runF 5 m__law_item_holds
noncomputable def m_Machineu_boolu : MS := (sRet (eOp (fInX false) (eUn (fFld [12, 13, 14, 17] "place") (eVar 0)) (eUn (fFld [12, 13, 14, 17] "marks") (eVar 0))))
noncomputable def f_Machineu_boolu : List U → Sto → R U := runF 1 m_Machineu_boolu
noncomputable def m_law_2 : MS := (sSeq (sAsg (eCall 3 f__law_draws [] (aCons (eVar 0) (aCons (eC (.int 0)) (aCons (eC (.int 8)) aNil)))) (gName 1))
 (sSeq (sAsg (eOp fAdd (eC (.int 1)) (eOp (fI gMod) (eCB fInt (aCons (eOp fIxX (eVar 1) (eC (.int 0))) aNil)) (eC (.int 4)))) (gName 2))
 (sSeq (sAsg (eCall 2 f__law_asks [] (aCons (eCall 3 f__law_draws [] (aCons (eVar 0) (aCons (eC (.int 1)) (aCons (eC (.int 13)) aNil)))) (aCons (eOp fAdd (eC (.int 2)) (eOp (fI gMod) (eCB fInt (aCons (eOp fIxX (eVar 1) (eC (.int 1))) aNil)) (eC (.int 4)))) aNil))) (gName 3))
 (sSeq (sAsg (eSl fSl (eVar 3) (oSome (eC (.int 1))) oNone) (gName 4))
 (sSeq (sAsg (eCall 4 f__law_steps [] (aCons (eCall 3 f__law_draws [] (aCons (eVar 0) (aCons (eC (.int 2)) (aCons (eC (.int 16)) aNil)))) (aCons (eVar 2) (aCons (eVar 4) (aCons (eOp fEq (eOp (fI gMod) (eCB fInt (aCons (eOp fIxX (eVar 1) (eC (.int 2))) aNil)) (eC (.int 4))) (eC (.int 0))) aNil))))) (gName 5))
 (sSeq (sAsg (eCall 2 f__law_marks [] (aCons (eOp fIxX (eVar 1) (eC (.int 3))) (aCons (eVar 2) aNil))) (gName 6))
 (sSeq (sFor (iRng1 (aCons (eVar 2) aNil)) (gName 7)
 (sSeq (sAsg (eMk 13 5 f_Serviceu_initu [] (aCons (eVar 2) (aCons (eCB fListX (aCons (eVar 6) aNil)) (aCons (eUn fRev (eVar 5)) (aCons (eVar 7) aNil))))) (gName 8))
 (sSeq (sIf (tB (eOp fEq (eOp (fI gMod) (eCB fInt (aCons (eOp fAdd (eOp fIxX (eVar 1) (eC (.int 4))) (eVar 7)) aNil)) (eC (.int 2))) (eC (.int 0))))
 (sAsg (eMk 14 5 f_Patternu_initu [] (aCons (eVar 2) (aCons (eCB fListX (aCons (eVar 6) aNil)) (aCons (eUn fRev (eVar 5)) (aCons (eVar 7) aNil))))) (gName 8))
 sNext)
 (sFor (iRng1 (aCons (eC (.int 2)) aNil)) (gName 9)
 (sSeq (sFor (iVal (eVar 3)) (gName 10)
 (sSeq (sAsg (eLcV [12] (iRng1 (aCons (eVar 2) aNil)) (gName 12) (tB (eOp (fInX false) (eCB fTup (aCons (eVar 7) (aCons (eVar 10) (aCons (eVar 12) aNil)))) (eVar 5))) (eVar 12)) (gName 11))
 (sIf (tNot (tB (eCall 3 f__law_item_holds [] (aCons (eVar 8) (aCons (eVar 10) (aCons (eVar 11) aNil))))))
 (sRet (eC (.bl false)))
 sNext)))
 (sIf (tOr (tB (eOp fNe (eCB (fBoolO [12, 13, 14, 17] f_Machineu_boolu) (aCons (eVar 8) aNil)) (eOp (fInX false) (eVar 7) (eVar 6)))) (tOr (tB (eOp fNe (eProp [12, 13, 14, 17] f_Machine_now (eVar 8)) (eVar 7))) (tNot (tB (eCB (fIsX isT_Machine) (aCons (eVar 8) (aCons (eC (.cls 12)) aNil)))))))
 (sRet (eC (.bl false)))
 sNext))))))
 (sRet (eC (.bl true))))))))))
noncomputable def f_law_2 : List U → Sto → R U := runF 13 m_law_2
end Mi
namespace Mi
open PySem Pu L2
def sg (as : List Str) (j : Nat) : Str := as.getD j ""
theorem sg_get {xs : List Str} {i : Nat} (h : i < xs.length) : sg xs i = xs[i] := by simp [sg, List.getD, List.getElem?_eq_getElem h]
theorem at_int (xs : List Int) (i : Nat) (h : i < xs.length) (k : D → Prop) : wpo (atI (xs.map D.int) i) k = k (.int (rg xs i)) := by
 rw [atI_map, wpo_map, atI_get 0 (by omega) (by omega)]; rfl
theorem at_str (xs : List Str) (i : Nat) (h : i < xs.length) (k : D → Prop) : wpo (atI (xs.map D.str) i) k = k (.str (sg xs i)) := by
 rw [atI_map, wpo_map, atI_get (Str.ofString "") (by omega) (by omega)]; rfl
theorem at_intI (xs : List Int) (i : Int) (h0 : 0 ≤ i) (h : i < xs.length) (k : D → Prop) : wpo (atI (xs.map D.int) i) k = k (.int (rg xs i.toNat)) := by
 obtain ⟨n, rfl⟩ := Int.eq_ofNat_of_zero_le h0
 exact at_int xs n (by omega) k
def pw (e : Nat) : Int := match e with | 0 => 1 | 1 => 2 | 2 => 4 | _ => 8
theorem at_pw (e : Nat) (h : e < 4) (k : D → Prop) : wpo (atI [D.int 1, D.int 2, D.int 4, D.int 8] e) k = k (.int (pw e)) := by
 have : e = 0 ∨ e = 1 ∨ e = 2 ∨ e = 3 := by omega
 rcases this with rfl | rfl | rfl | rfl <;> rfl
theorem pw_bd (e : Nat) : 0 < pw e ∧ pw e < 1073741824 := by
 unfold pw; split <;> omega
def markIn (dg : Int) (e : Nat) : Bool := decide (48 ≤ dg) || decide (dg / pw e % 2 = 1)
def marksN (dg : Int) (size : Nat) : List Int := ((List.range size).filter (markIn dg)).map fun (n : Nat) => (n : Int)
theorem marksN_asc (dg : Int) (size : Nat) : (marksN dg size).Pairwise (· < ·) := by
 unfold marksN
 rw [List.pairwise_map]
 exact (List.pairwise_lt_range.sublist List.filter_sublist).imp fun h => by omega
theorem marksN_bd {dg : Int} {size : Nat} {m : Int} (h : m ∈ marksN dg size) : 0 ≤ m ∧ m < size := by
 obtain ⟨n, hn, rfl⟩ := List.mem_map.mp h
 have := (List.mem_filter.mp hn).1
 simp at this; omega
theorem marksN_len (dg : Int) (size : Nat) : (marksN dg size).length ≤ size := by
 unfold marksN
 rw [List.length_map]
 refine Nat.le_trans (List.length_filter_le _ _) (by simp)
theorem rngU_map (n : Nat) : rngU 0 n = ((List.range n).map fun (i : Nat) => D.int i).map U.v := by
 unfold rngU
 rw [List.map_map]
 refine List.map_congr_left fun i _ => ?_
 simp
theorem marks_ok (dg : Int) (size : Nat) (hs : size ≤ 4) (S : Sto) : f__law_marks [.v (.int dg), .v (.int size)] S = .ok (.v (.lst ((marksN dg size).map D.int))) S := by
 unfold f__law_marks
 refine runF_eq ?_
 simp [m__law_marks, start0]
 refine w_lcV (ds := (List.range size).map fun (i : Nat) => D.int i) (src := none) (S1 := S) (fun d => match d with | .int i => markIn dg i.toNat | _ => false) (fun d => d) ?_ ?_ nofun ?_ ?_
 · simp [rngU_map, Function.comp_def]; omega
 · simp; omega
 · intro d hd acc
   have hd2 := List.mem_map.mp hd
   obtain ⟨i, hi, he⟩ := hd2
   subst he
   simp at hi
   have hp := pw_bd i
   simp [wipeE, at_pw i (by omega), hp.1, hp.2, markIn]
   by_cases h : 48 ≤ dg <;> simp [h]
 · have e : (((List.range size).map fun (i : Nat) => D.int i).filter fun d => match d with | .int i => markIn dg i.toNat | _ => false).map (fun d => d) = (marksN dg size).map D.int := by
     unfold marksN
     rw [List.filter_map, List.map_map, List.map_map]
     rfl
   rw [e]; simp
def stepIn (row : List Int) (size n : Nat) (single : Bool) (s a e : Nat) : Bool :=
 if single = true then decide (rg row ((s * n + a) % row.length) % (size + 1) = e + 1) else decide (rg row ((s * n + a) % row.length) / pw e % 2 = 1)
def stE (row : List Int) (size : Nat) (asks : List Str) (single : Bool) (s a k : Nat) : List St3 := ((List.range k).filter fun e => stepIn row size asks.length single s a e).map fun (e : Nat) => ((s : Int), sg asks a, (e : Int))
def stA (row : List Int) (size : Nat) (asks : List Str) (single : Bool) (s k : Nat) : List St3 := (List.range k).flatMap fun a => stE row size asks single s a size
def stS (row : List Int) (size : Nat) (asks : List Str) (single : Bool) (k : Nat) : List St3 := (List.range k).flatMap fun s => stA row size asks single s asks.length
abbrev stepsN (row : List Int) (size : Nat) (asks : List Str) (single : Bool) : List St3 := stS row size asks single size
section
variable {row : List Int} {size : Nat} {asks : List Str} {single : Bool}
theorem stE_succ (s a k : Nat) : stE row size asks single s a (k + 1) = stE row size asks single s a k ++ (if stepIn row size asks.length single s a k = true then [((s : Int), sg asks a, (k : Int))] else []) := by
 unfold stE
 rw [List.range_succ, List.filter_append, List.map_append]
 congr 1
 by_cases h : stepIn row size asks.length single s a k = true <;> simp [h]
theorem stA_succ (s k : Nat) : stA row size asks single s (k + 1) = stA row size asks single s k ++ stE row size asks single s k size := by simp [stA, List.range_succ]
theorem stS_succ (k : Nat) : stS row size asks single (k + 1) = stS row size asks single k ++ stA row size asks single k asks.length := by simp [stS, List.range_succ]
theorem stE_len (s a k : Nat) : (stE row size asks single s a k).length ≤ k := by
 unfold stE; rw [List.length_map]; exact Nat.le_trans (List.length_filter_le _ _) (by simp)
theorem stA_len (s : Nat) : ∀ k, (stA row size asks single s k).length ≤ k * size
 | 0 => by simp [stA]
 | k + 1 => by
   have h1 := stA_len s k
   have h2 := stE_len (row := row) (size := size) (asks := asks) (single := single) s k size
   rw [stA_succ, List.length_append, Nat.succ_mul]; omega
theorem stS_len : ∀ k, (stS row size asks single k).length ≤ k * (asks.length * size)
 | 0 => by simp [stS]
 | k + 1 => by
   have h1 := stS_len k
   have h2 := stA_len (row := row) (size := size) (asks := asks) (single := single) k asks.length
   rw [stS_succ, List.length_append, Nat.succ_mul]; omega
theorem stepsN_mem {t : St3} : t ∈ stepsN row size asks single ↔ ∃ s a e : Nat, s < size ∧ a < asks.length ∧ e < size ∧ stepIn row size asks.length single s a e = true ∧ t = ((s : Int), sg asks a, (e : Int)) := by
 unfold stepsN stS stA stE
 simp only [List.mem_flatMap, List.mem_map, List.mem_filter, List.mem_range]
 constructor
 · rintro ⟨s, hs, a, ha, e, ⟨he, h⟩, rfl⟩
   exact ⟨s, a, e, hs, ha, he, h, rfl⟩
 · rintro ⟨s, a, e, hs, ha, he, h, rfl⟩
   exact ⟨s, hs, a, ha, e, ⟨he, h⟩, rfl⟩
theorem stepsN_raw (hs : 1 ≤ size) (hs2 : size ≤ 4) (ha : asks.length ≤ 8) (hk : ∀ z ∈ asks, AskS z) {ms : List Int} (hm : ∀ m ∈ ms, 0 ≤ m ∧ m < size) (hml : ms.length ≤ 600) : Raw size ms (stepsN row size asks single) where
 s1 := by omega
 s2 := by omega
 m0 := hm
 t0 := fun t ht => by
   obtain ⟨s, a, e, h1, h2, h3, _, rfl⟩ := stepsN_mem.mp ht
   refine ⟨by show (0 : Int) ≤ s; omega, by show (s : Int) < size; omega, by show (0 : Int) ≤ e; omega, by show (e : Int) < size; omega, ?_⟩
   show AskS (sg asks a)
   rw [sg_get h2]
   exact hk _ (List.getElem_mem h2)
 ml := hml
 tl := by
   have h := stS_len (row := row) (size := size) (asks := asks) (single := single) size
   have h1 : asks.length * size ≤ 8 * 4 := Nat.mul_le_mul ha hs2
   have h2 : size * (asks.length * size) ≤ 4 * (8 * 4) := Nat.mul_le_mul hs2 h1
   exact Nat.le_trans h (by omega)
end
theorem steps_ok (row : List Int) (hr : 0 < row.length) (size : Nat) (hs : size ≤ 4) (asks : List Str) (ha : asks.length ≤ 8) (single : Bool) (S : Sto) :
   f__law_steps [.v (.lst (row.map D.int)), .v (.int size), .v (.lst (asks.map D.str)), .v (.bl single)] S = .ok (.v (.lst ((stepsN row size asks single).map stD))) S := by
 unfold f__law_steps
 refine runF_eq ?_
 simp [m__law_steps, start0]
 refine ⟨by omega, ?_⟩
 have hb : ∀ s a e, s ≤ 4 → a ≤ 8 → e ≤ 4 → (stS row size asks single s).length + (stA row size asks single s a).length + (stE row size asks single s a e).length < 1000 := fun s a e h1 h2 h3 => by
   have b1 := stS_len (row := row) (size := size) (asks := asks) (single := single) s
   have b2 := stA_len (row := row) (size := size) (asks := asks) (single := single) s a
   have b3 := stE_len (row := row) (size := size) (asks := asks) (single := single) s a e
   have c1 : asks.length * size ≤ 8 * 4 := Nat.mul_le_mul ha hs
   have c2 : s * (asks.length * size) ≤ 4 * (8 * 4) := Nat.mul_le_mul h1 c1
   have c3 : a * size ≤ 8 * 4 := Nat.mul_le_mul h2 hs
   omega
 refine for_inv (fun i ρ T => ∃ x5 x6 x7 x8, ρ = [some (.v (.lst (row.map D.int))), some (.v (.int size)), some (.v (.lst (asks.map D.str))), some (.v (.bl single)), some (.r S.length), x5, x6, x7, x8] ∧ T = S ++ [.lst (((stS row size asks single i).map stD).map U.v)]) ⟨none, none, none, none, rfl, by simp [stS]⟩ ?_ ?_
 · rintro s u ρ T hu ⟨x5, x6, x7, x8, rfl, rfl⟩
   obtain ⟨hsz, rfl⟩ := rngU_get hu
   simp
   refine ⟨by omega, ?_⟩
   refine for_inv (fun i ρ T => ∃ x6 x7 x8, ρ = [some (.v (.lst (row.map D.int))), some (.v (.int size)), some (.v (.lst (asks.map D.str))), some (.v (.bl single)), some (.r S.length), some (.v (.int s)), x6, x7, x8] ∧ T = S ++ [.lst (((stS row size asks single s ++ stA row size asks single s i).map stD).map U.v)]) ⟨x6, x7, x8, rfl, by simp [stA]⟩ ?_ ?_
   · rintro a u ρ T hu ⟨x6, x7, x8, rfl, rfl⟩
     obtain ⟨haz, rfl⟩ := rngU_get hu
     have hdg : ∀ k : D → Prop, wpo (atI (row.map D.int) (((s : Int) * asks.length + a) % row.length)) k = k (.int (rg row ((s * asks.length + a) % row.length))) := fun k => by
       have e : ((s : Int) * asks.length + a) % row.length = ((s * asks.length + a) % row.length : Nat) := by simp
       rw [e]
       exact at_int row _ (Nat.mod_lt _ hr) k
     simp [-atI_map, hdg]
     refine ⟨.inl (by omega), by omega, by omega, ?_⟩
     refine for_inv (fun i ρ T => ∃ x8, ρ = [some (.v (.lst (row.map D.int))), some (.v (.int size)), some (.v (.lst (asks.map D.str))), some (.v (.bl single)), some (.r S.length), some (.v (.int s)), some (.v (.int a)), some (.v (.int (rg row ((s * asks.length + a) % row.length)))), x8] ∧ T = S ++ [.lst (((stS row size asks single s ++ stA row size asks single s a ++ stE row size asks single s a i).map stD).map U.v)]) ⟨x8, rfl, by simp [stE]⟩ ?_ ?_
     · rintro e u ρ T hu ⟨x8, rfl, rfl⟩
       obtain ⟨hez, rfl⟩ := rngU_get hu
       have hbd := hb s a e (by omega) (by omega) (by omega)
       have hp := pw_bd e
       rw [stE_succ]
       unfold stepIn
       cases single with
       | true =>
         simp [-atI_map, at_str asks a haz]
         intro h
         simp [h, isL_r, stD]; omega
       | false =>
         simp [-atI_map, at_str asks a haz, at_pw e (by omega), hp.1, hp.2]
         by_cases h : rg row ((s * asks.length + a) % row.length) / pw e % 2 = 1
         · simp [h, isL_r, -atI_map, at_str asks a haz, stD]; omega
         · simp [h]
     · rintro ρ T ⟨x8, rfl, rfl⟩
       simp [stA_succ]
   · rintro ρ T ⟨x6, x7, x8, rfl, rfl⟩
     simp [stS_succ]
 · rintro ρ T ⟨x5, x6, x7, x8, rfl, rfl⟩
   simp only [rngU_len, getv_s, getv_0]
   rw [fin_l0]
section
variable {S : Sto} {x : U} {c : Nat} {size : Int} {ms : List Int} {ts : List St3} {now : Int}
theorem getitem_ok (h : IsM S x c size ms ts now) (a : Str) : f_Machineu_getitemu [x, .v (.str a)] S = .ok (.v (.tup ((endsL ts now a).map D.int))) S := by
 unfold f_Machineu_getitemu
 refine runF_eq ?_
 have hk := keyS_key now a
 have e := endsD_getD ts now a
 unfold keyS at hk e
 simp [m_Machineu_getitemu, start0, h.at, h.2, v_getV, e]
theorem bool_ok (h : IsM S x c size ms ts now) : f_Machineu_boolu [x] S = .ok (.v (.bl (decide (now ∈ ms)))) S := by
 unfold f_Machineu_boolu
 refine runF_eq ?_
 simp [m_Machineu_boolu, start0, h.at, h.2]
 rw [q2u (ds := ms.map D.int) false rfl (by simp) (by simp) (by simp)]
 simp
end
end Mi
namespace Pu
open PySem L2
theorem finX_v (S : Sto) (c : Nat) (fs : List (Str × D)) : finX S c (fs.map fun p => (p.1, U.v p.2)) S = .ex c (fs.map fun p => (p.1, U.v p.2)) S := by
 unfold finX
 rw [fixS_id]
 have : optAll (fun p : Str × U => (fixU S.length 4 S p.2).map fun d => (p.1, d)) (fs.map fun p => (p.1, U.v p.2)) = some (fs.map fun p => (p.1, U.v p.2)) := by
   exact optAll_id fun p hp => by
     obtain ⟨a, _, rfl⟩ := List.mem_map.mp hp
     rfl
 rw [this]
end Pu
namespace Mi
open PySem Pu L2
open Classical in
theorem is_ask_gen (z : Str) (hz : z.length ≤ 100000) (S : Sto) : f_is_ask [.v (.str z)] S = .ok (.v (.bl (decide (AskS z)))) S := by
 unfold f_is_ask
 refine runF_eq ?_
 by_cases h1 : 1 ≤ z.length
 · by_cases h2 : z.length ≤ 8
   · have e1 : ¬ ((z.length : Int) < 1) := by omega
     have e2 : ¬ ((8 : Int) < z.length) := by omega
     simp [m_is_ask, start0, e1, e2, hz]
     refine w_lcV (ds := z.cps.toList.map fun c => D.str (mkS [c])) (src := none) (S1 := S) (fun _ => true) (fun d => match d with | .str x => .bl (x.cps.toList.all fun c => decide (97 ≤ c ∧ c ≤ 122)) | _ => .non) ?_ ?_ nofun ?_ ?_
     · simp [chrs]; exact fun _ _ => rfl
     · have e3 : z.cps.toList.length = z.length := by simp; rfl
       rw [List.length_map, e3]; omega
     · intro d hd acc
       obtain ⟨c, hc, rfl⟩ := List.mem_map.mp hd
       have hin : (c ∈ lettT.cps.toList) ↔ (97 ≤ c ∧ c ≤ 122) := by
         rw [lett_l]
         constructor
         · intro h
           obtain ⟨k, hk, rfl⟩ := List.mem_map.mp h
           simp at hk
           omega
         · intro h
           exact List.mem_map.mpr ⟨c - 97, by simp; omega, by omega⟩
       simp [wipeE]
       show wpO (fInX false (.v (.str ⟨⟨[c]⟩⟩)) (.v (.str lettT)) _) _
       unfold fInX asDic fIn
       simp only
       show _ ∧ _
       refine ⟨?_, rfl⟩
       simp only [cond_false]
       by_cases hb : 97 ≤ c ∧ c ≤ 122
       · rw [decide_eq_true (hin.mpr hb)]; simp [mkS, hb]
       · rw [decide_eq_false (fun h => hb (hin.mp h))]; simp [mkS]; omega
     · have e : (((z.cps.toList.map fun c => D.str (mkS [c])).filter fun _ => true).map fun d => match d with | .str x => D.bl (x.cps.toList.all fun c => decide (97 ≤ c ∧ c ≤ 122)) | _ => .non) = (z.cps.toList.map fun c => decide (97 ≤ c ∧ c ≤ 122)).map D.bl := by
         rw [List.filter_eq_self.mpr (fun _ _ => rfl)]
         simp [Function.comp_def, mkS]
       rw [e, v_all]
       simp [AskS, h1, h2]
       rw [Bool.eq_iff_iff, decide_eq_true_iff, ← Array.all_toList, List.all_eq_true]
       simp
   · have e1 : ¬ ((z.length : Int) < 1) := by omega
     have e2 : ((8 : Int) < z.length) := by omega
     simp [m_is_ask, start0, e1, e2, hz, AskS, h2]
 · have e1 : ((z.length : Int) < 1) := by omega
   simp [m_is_ask, start0, e1, hz, AskS, h1]
def MkS (size m : Int) : Prop := 0 ≤ m ∧ m < size
def StS (size : Int) (s : St3) : Prop := 0 ≤ s.1 ∧ s.1 < size ∧ 0 ≤ s.2.2 ∧ s.2.2 < size ∧ AskS s.2.1
inductive Flt (size : Int) (ms : List Int) (ts : List St3) : Nat → List (Str × U) → Prop
 | s1 : size < 1 → Flt size ms ts 1 [("part", .v (.str "size"))]
 | s2 : 200 < size → Flt size ms ts 3 [("size", .v (.int size))]
 | mk : 1 ≤ size → size ≤ 200 → (∃ m ∈ ms, ¬ MkS size m) → Flt size ms ts 1 [("part", .v (.str "mark"))]
 | st : 1 ≤ size → size ≤ 200 → (∀ m ∈ ms, MkS size m) → (∃ s ∈ ts, ¬ StS size s) → Flt size ms ts 1 [("part", .v (.str "step"))]
theorem finX_1 (T : Sto) (c : Nat) (k : Str) (d : D) : finX T c [(k, .v d)] T = .ex c [(k, .v d)] T := finX_v T c [(k, d)]
open Classical in
theorem check_parts_gen (size : Int) (marks : List Int) (steps : List St3) (mu su : U) (S : Sto) (hm : asSeq S mu = some ((marks.map D.int).map U.v)) (hs : asSeq S su = some ((steps.map stD).map U.v)) (hz : ∀ s ∈ steps, s.2.1.length ≤ 100000) :
   wpr (f_check_parts [.v (.int size), mu, su] S) (fun u T => u = .v .non ∧ T = S ∧ 1 ≤ size ∧ size ≤ 200 ∧ (∀ m ∈ marks, MkS size m) ∧ ∀ s ∈ steps, StS size s) (fun c fs T => T = S ∧ Flt size marks steps c fs) := by
 unfold f_check_parts
 rw [wp_runF]
 by_cases e1 : size < 1
 · simp [-s_for, m_check_parts, start0, e1, finX_1]
   exact .s1 e1
 by_cases e2 : 200 < size
 · simp [-s_for, m_check_parts, start0, e1, e2, finX_1]
   exact .s2 e2
 simp [-s_for, m_check_parts, start0, e1, e2]
 rw [s_for]
 simp [seqV_at0 hm]
 refine for_inv (fun i ρ T => (∃ x, ρ = [some (.v (.int size)), some mu, some su, x, none, none, none]) ∧ T = S ∧ ∀ (j : Nat) (m : Int), j < i → marks[j]? = some m → MkS size m) ⟨⟨_, rfl⟩, rfl, by omega⟩ ?_ ?_
 · rintro i u ρ T hu ⟨⟨x, rfl⟩, rfl, hb⟩
   obtain ⟨m, hm1, rfl, _⟩ := data_get2 hu
   by_cases b : MkS size m
   · obtain ⟨b3, b4⟩ := id b
     have b1 : ¬ m < 0 := by omega
     have b2 : ¬ size ≤ m := by omega
     simp [b1, b2]
     refine ⟨src_so hm, fun j q hj hq => ?_⟩
     rcases Nat.lt_succ_iff_lt_or_eq.mp hj with h | h
     · exact hb j q h hq
     · subst h; rw [hm1] at hq; cases hq; exact b
   · have h1 : 1 ≤ size := by omega
     have hf : Flt size marks steps 1 [("part", .v (.str "mark"))] := .mk h1 (by omega) ⟨m, List.mem_of_getElem? hm1, b⟩
     by_cases b1 : m < 0
     · simp [b1, finX_1]; exact hf
     · have b2 : size ≤ m := by unfold MkS at b; omega
       simp [b1, b2, finX_1]; exact hf
 · rintro ρ T ⟨⟨x, rfl⟩, rfl, hb⟩
   have hmk : ∀ m ∈ marks, MkS size m := fun m h => by
     obtain ⟨j, hj, rfl⟩ := List.getElem_of_mem h
     exact hb j _ (by simp; exact hj) (List.getElem?_eq_getElem hj)
   simp [seqV_at0 hs]
   refine for_inv (fun i ρ T' => (∃ x y z, ρ = [some (.v (.int size)), some mu, some su, _, x, y, z]) ∧ T' = T ∧ ∀ (j : Nat) (s : St3), j < i → steps[j]? = some s → StS size s) ⟨⟨_, _, _, rfl⟩, rfl, by omega⟩ ?_ ?_
   · rintro i u ρ T' hu ⟨⟨x, y, z, rfl⟩, rfl, hb2⟩
     obtain ⟨s, hs1, rfl, _⟩ := data_get2 hu
     have hzs := hz s (List.mem_of_getElem? hs1)
     have hf : ¬ StS size s → Flt size marks steps 1 [("part", .v (.str "step"))] := fun b => .st (by omega) (by omega) hmk ⟨s, List.mem_of_getElem? hs1, b⟩
     by_cases c1 : s.1 < 0
     · simp [stD, c1, finX_1]; exact hf (by unfold StS; omega)
     by_cases c2 : size ≤ s.1
     · simp [stD, c1, c2, finX_1]; exact hf (by unfold StS; omega)
     by_cases c3 : s.2.2 < 0
     · simp [stD, c1, c2, c3, finX_1]; exact hf (by unfold StS; omega)
     by_cases c4 : size ≤ s.2.2
     · simp [stD, c1, c2, c3, c4, finX_1]; exact hf (by unfold StS; omega)
     by_cases c5 : AskS s.2.1
     · simp [stD, c1, c2, c3, c4, is_ask_gen _ hzs, c5]
       refine ⟨src_so hs, fun j a b d hj hq => ?_⟩
       rcases Nat.lt_succ_iff_lt_or_eq.mp hj with h | h
       · exact hb2 j (a, b, d) h hq
       · subst h; rw [hs1] at hq; cases hq; exact ⟨by omega, by omega, by omega, by omega, c5⟩
     · simp [stD, c1, c2, c3, c4, is_ask_gen _ hzs, c5, finX_1]
       exact hf (fun h => c5 h.2.2.2.2)
   · rintro ρ T' ⟨⟨x, y, z, rfl⟩, rfl, hb2⟩
     simp
     refine ⟨by omega, by omega, hmk, ?_⟩
     have hall : ∀ s ∈ steps, StS size s := fun s h => by
       obtain ⟨j, hj, rfl⟩ := List.getElem_of_mem h
       exact hb2 j _ (by simp; exact hj) (List.getElem?_eq_getElem hj)
     first | exact hall | exact fun a b c h => hall (a, b, c) h
inductive FltM (size : Int) (ms : List Int) (ts : List St3) (now : Int) : Nat → List (Str × U) → Prop
 | p {c : Nat} {fs : List (Str × U)} : Flt size ms ts c fs → FltM size ms ts now c fs
 | l : 1 ≤ size → size ≤ 200 → (∀ m ∈ ms, MkS size m) → (∀ s ∈ ts, StS size s) → 600 < (sort3 ts).length → FltM size ms ts now 3 [("size", .v (.int ((sort3 ts).length : Nat)))]
 | n : 1 ≤ size → size ≤ 200 → (∀ m ∈ ms, MkS size m) → (∀ s ∈ ts, StS size s) → (sort3 ts).length ≤ 600 → ¬ MkS size now → FltM size ms ts now 2 [("state", .v (.int now))]
open Classical in
theorem init_gen (c : Nat) (hc : c ∈ [12, 13, 14, 17]) (size : Int) (ms : List Int) (ts : List St3) (now : Int) (mu su : U) (S : Sto) (hm : asSeq S mu = some ((ms.map D.int).map U.v)) (hs : asSeq S su = some ((ts.map stD).map U.v)) (hml : ms.length ≤ 2000) (htl : ts.length ≤ 2000) (hz : ∀ s ∈ ts, s.2.1.length ≤ 100000) :
   wpr (f_Machineu_initu [.r S.length, .v (.int size), mu, su, .v (.int now)] (S ++ [.ins c []])) (fun u T => u = .v .non ∧ T = S ++ [.ins c (uFs (mRec size (sortI ms) (sort3 ts) now))] ∧ OkParts size ms (sortI ms) ts (sort3 ts) now) (fun k fs T => T = S ++ [.ins c []] ∧ FltM size ms ts now k fs) := by
 by_cases good : OkParts size ms (sortI ms) ts (sort3 ts) now
 · rw [init_ok c hc size ms _ ts _ now good mu su S hm hs, wpr_ok]
   exact ⟨rfl, rfl, good⟩
 have hm1 := asSeq_app [Cell.ins c []] hm
 have hs1 := asSeq_app [Cell.ins c []] hs
 unfold f_Machineu_initu
 rw [wp_runF]
 have kg := check_parts_gen size ms ts mu su (S ++ [.ins c []]) hm1 hs1 hz
 cases hk : f_check_parts [.v (.int size), mu, su] (S ++ [.ins c []]) with
 | er => rw [hk] at kg; exact kg.elim
 | ex k fs T =>
   rw [hk] at kg
   obtain ⟨rfl, hf⟩ := kg
   have hfx : finX (S ++ [.ins c []]) k fs (S ++ [.ins c []]) = .ex k fs (S ++ [.ins c []]) := by
     cases hf <;> exact finX_1 _ _ _ _
   simp [m_Machineu_initu, start0, hk, hfx]
   exact .p hf
 | ok u T =>
   rw [hk] at kg
   obtain ⟨rfl, rfl, s1, s2, hmk, hst⟩ := kg
   simp [m_Machineu_initu, start0, hk]
   refine w_lcV (ds := ts.map stD) (src := srcOf su) (S1 := S ++ [.ins c []]) (fun _ => true) (fun d => d) ?_ ?_ ?_ ?_ ?_
   · simp [seqV_at0 hs1]
   · simp; omega
   · intro n hn
     cases su with
     | v d => cases hn
     | r m =>
       have hn : m = n := by simpa using hn
       subst hn
       unfold asSeq at hs1
       simp only at hs1
       by_cases hlt : m < (S ++ [Cell.ins c []]).length
       · exact hlt
       · rw [List.getElem?_eq_none (by omega)] at hs1; cases hs1
   · intro d hd acc
     obtain ⟨s, hs1, rfl⟩ := List.mem_map.mp hd
     simp [wipeE, stD]
   · have e0 : (((ts.map stD).filter fun _ => true).map fun d => d) = ts.map stD := by
       rw [List.filter_eq_self.mpr (fun _ _ => rfl)]; simp
     rw [e0]
     have k2 := in_order_eq form_st (ts.map stD) ((sort3 ts).map stD) (.v (.lst (ts.map stD))) (S ++ [.ins c []]) rfl (fun d hd => by obtain ⟨s, _, rfl⟩ := List.mem_map.mp hd; exact ⟨s, rfl⟩) (by simp; exact htl) (asc3 (sort3_asc ts)) (fun d => by
       simp only [List.mem_map]
       exact ⟨fun ⟨s, h1, h2⟩ => ⟨s, (sort3_mem ts s).mp h1, h2⟩, fun ⟨s, h1, h2⟩ => ⟨s, (sort3_mem ts s).mpr h1, h2⟩⟩)
     by_cases h6 : 600 < (sort3 ts).length
     · have hlt : (600 < ((sort3 ts).length : Int)) := by omega
       simp [k2, hlt, finX_1]
       exact .l s1 s2 hmk hst h6
     · have hlt : ¬ (600 < ((sort3 ts).length : Int)) := by omega
       have hbad : ¬ MkS size now := fun hb => good ⟨s1, s2, hmk, hst, hml, htl, hb.1, hb.2, ascI (sortI_asc ms), sortI_mem ms, asc3 (sort3_asc ts), sort3_mem ts, by omega⟩
       have hf := FltM.n (now := now) s1 s2 hmk hst (by omega) hbad
       by_cases n0 : now < 0
       · simp [k2, hlt, n0, finX_1]
         exact hf
       · have n1 : size ≤ now := by unfold MkS at hbad; omega
         simp [k2, hlt, n0, n1, finX_1]
         exact hf
open Classical in
theorem mk_gen (c : Nat) (hc : c ∈ [12, 13, 14, 17]) (size : Int) (ms : List Int) (ts : List St3) (now : Int) (mu su : U) (S : Sto) (hm : asSeq S mu = some ((ms.map D.int).map U.v)) (hs : asSeq S su = some ((ts.map stD).map U.v)) (hml : ms.length ≤ 2000) (htl : ts.length ≤ 2000) (hz : ∀ s ∈ ts, s.2.1.length ≤ 100000) :
   wpr (supN c f_Machineu_initu [.r S.length, .v (.int size), mu, su, .v (.int now)] (S ++ [.ins c []])) (fun u T => u = .v .non ∧ T = S ++ [.ins c (uFs (mRec size (sortI ms) (sort3 ts) now))] ∧ OkParts size ms (sortI ms) ts (sort3 ts) now) (fun k fs T => T = S ++ [.ins c []] ∧ FltM size ms ts now k fs) := by
 have h := init_gen c hc size ms ts now mu su S hm hs hml htl hz
 have ha : asIns (S ++ [Cell.ins c []]) (.r S.length) = some (c, []) := by
   unfold asIns; simp
 unfold supN
 simp only [ha, if_true]
 cases hk : f_Machineu_initu [.r S.length, .v (.int size), mu, su, .v (.int now)] (S ++ [.ins c []]) with
 | er => rw [hk] at h; exact h.elim
 | ex k fs T => rw [hk] at h; exact h
 | ok u T =>
   rw [hk] at h
   obtain ⟨rfl, rfl, h3⟩ := h
   exact ⟨rfl, rfl, h3⟩
def outD : Nat → List (Str × U) → D
 | 1, [(_, .v x)] => .tup [.str "machine", .bl true, x]
 | 3, [(_, .v x)] => .tup [.str "large", .bl true, x]
 | 2, [(_, .v x)] => .tup [.str "state", .bl true, x]
 | _, _ => .non
def builtD (size : Int) : D := .tup [.str "built", .bl true, .int size]
theorem kinds_ok (c : Nat) (hc : c = 1 ∨ c = 2 ∨ c = 3) (ds : List (Str × D)) (S : Sto) : f__law_kinds [.v (.exn c ds)] S = .ok (.v (.bl true)) S := by
 unfold f__law_kinds
 refine runF_eq ?_
 have key : ∀ (b1 b2 b3 : Bool) (x0 : Option U), eLcV [2] (iLst (eVar 1)) (gName 2) tYesM (eCB fInt (aCons (eVar 2) aNil)) [x0, some (.v (.lst [.bl b1, .bl b2, .bl b3])), none] S = .ok (.v (.lst [.int (if b1 then 1 else 0), .int (if b2 then 1 else 0), .int (if b3 then 1 else 0)])) S := by
   intro b1 b2 b3 x0
   refine eq_of_wpr ?_
   refine w_lcV (ds := [.bl b1, .bl b2, .bl b3]) (src := none) (S1 := S) (fun _ => true) (fun d => match d with | .bl b => .int (if b then 1 else 0) | _ => .non) ?_ (by simp) nofun ?_ ?_
   · exact ⟨rfl, rfl⟩
   · intro d hd acc
     simp only [List.mem_cons, List.not_mem_nil, or_false] at hd
     rcases hd with rfl | rfl | rfl <;> simp [wipeE]
   · simp
 have hsum : ∀ (a b c : Int) (q : U → Sto → Prop), wpO (fSum [.v (.lst [.int a, .int b, .int c])] S) q = q (.v (.int (a + (b + c)))) S := fun a b c q => by
   simp [fSum, optAll, asI]
 rcases hc with rfl | rfl | rfl
 · have := key true false false
   simp [m__law_kinds, start0, exT_k14, this, hsum]
 · have := key false false true
   simp [m__law_kinds, start0, exT_k14, this, hsum]
 · have := key false true false
   simp [m__law_kinds, start0, exT_k14, this, hsum]
theorem flt_fs {size : Int} {ms : List Int} {ts : List St3} {now : Int} {c : Nat} {fs : List (Str × U)} (h : FltM size ms ts now c fs) : (c = 1 ∧ ∃ x, fs = [(("part" : Str), U.v (.str x))]) ∨ (c = 3 ∧ ∃ x, fs = [(("size" : Str), U.v (.int x))]) ∨ (c = 2 ∧ ∃ x, fs = [(("state" : Str), U.v (.int x))]) := by
 cases h with
 | p h => cases h with
   | s1 => exact .inl ⟨rfl, _, rfl⟩
   | s2 => exact .inr (.inl ⟨rfl, _, rfl⟩)
   | mk => exact .inl ⟨rfl, _, rfl⟩
   | st => exact .inl ⟨rfl, _, rfl⟩
 | l => exact .inr (.inl ⟨rfl, _, rfl⟩)
 | n => exact .inr (.inr ⟨rfl, _, rfl⟩)
theorem madeF_ok (ch : Int) (size : Int) (ms : List Int) (ts : List St3) (now : Int) (due : D) (S : Sto) (hml : ms.length ≤ 2000) (htl : ts.length ≤ 2000) (hz : ∀ s ∈ ts, s.2.1.length ≤ 100000)
   (h0 : OkParts size ms (sortI ms) ts (sort3 ts) now → due = builtD size) (h1 : ∀ c fs, FltM size ms ts now c fs → due = outD c fs) :
   f__law_made_4 [.v (.int ch), .v (.int size), .v (.lst (ms.map D.int)), .v (.lst (ts.map stD)), .v (.int now)] S = .ok (.v due) S := by
 unfold f__law_made_4
 refine runF_eq ?_
 have g1 : OkParts 1 [] (sortI []) [] (sort3 []) 0 := Raw.ok ⟨by omega, by omega, by simp, by simp, by simp, by simp⟩ (by omega) (by omega)
 have hone := service_ok 1 [] (sortI []) [] (sort3 []) 0 g1 (.v (.lst [])) (.v (.lst [])) S rfl rfl
 simp [m__law_made_4, start0, hone]
 obtain ⟨c1, hc1⟩ : ∃ c1, c1 = Cell.ins 13 (uFs (mRec 1 (sortI []) (sort3 []) 0)) := ⟨_, rfl⟩
 rw [← hc1]
 have hA : ∀ c, c ∈ [13, 14] → wpr (supN c f_Machineu_initu [.r (S.length + 1), .v (.int size), .v (.lst (ms.map D.int)), .v (.lst (ts.map stD)), .v (.int now)] (S ++ [c1, .ins c []])) (fun u T => u = .v .non ∧ T = S ++ [c1, .ins c (uFs (mRec size (sortI ms) (sort3 ts) now))] ∧ OkParts size ms (sortI ms) ts (sort3 ts) now) (fun k fs T => T = S ++ [c1, .ins c []] ∧ FltM size ms ts now k fs) := fun c hc => by
   have := mk_gen c (by simp at hc ⊢; omega) size ms ts now (.v (.lst (ms.map D.int))) (.v (.lst (ts.map stD))) (S ++ [c1]) rfl rfl hml htl hz
   simpa using this
 by_cases hch : ch = 0
 · simp [hch]
   refine wpr_mono (hA 13 (by simp)) ?_ ?_
   · rintro u T ⟨rfl, rfl, hg⟩
     rw [h0 hg]
     have hM : asIns (S ++ [c1, Cell.ins 13 (uFs (mRec size (sortI ms) (sort3 ts) now))]) (.r (S.length + 1)) = some (13, uFs (mRec size (sortI ms) (sort3 ts) now)) := by
       unfold asIns; simp
     have hX : ∀ q : U → Sto → Prop, wpO (fIsX isT_Machine [.r (S.length + 1), .v (.cls 12)] (S ++ [c1, Cell.ins 13 (uFs (mRec size (sortI ms) (sort3 ts) now))])) q = q (.v (.bl true)) (S ++ [c1, Cell.ins 13 (uFs (mRec size (sortI ms) (sort3 ts) now))]) := fun q => by
       unfold fIsX; simp [hM, isT_Machine]
     simp [hX, builtD]
     simp [mRec, mFs, uFs]
   · rintro k fs T ⟨rfl, hf⟩
     rw [h1 k fs hf]
     rcases flt_fs hf with ⟨rfl, x, rfl⟩ | ⟨rfl, x, rfl⟩ | ⟨rfl, x, rfl⟩
     · rw [wCatch_yes (ds := [(("part" : Str), .str x)]) rfl rfl]
       simp [kinds_ok, whole_ok, outD, offP]
     · rw [wCatch_no rfl, wCatch_yes (ds := [(("size" : Str), .int x)]) rfl rfl]
       simp [kinds_ok, whole_ok, outD, offP]
     · rw [wCatch_no rfl, wCatch_no rfl, wCatch_yes (ds := [(("state" : Str), .int x)]) rfl rfl]
       simp [kinds_ok, whole_ok, outD, offP]
 · simp [hch]
   refine wpr_mono (hA 14 (by simp)) ?_ ?_
   · rintro u T ⟨rfl, rfl, hg⟩
     rw [h0 hg]
     have hM : asIns (S ++ [c1, Cell.ins 14 (uFs (mRec size (sortI ms) (sort3 ts) now))]) (.r (S.length + 1)) = some (14, uFs (mRec size (sortI ms) (sort3 ts) now)) := by
       unfold asIns; simp
     have hX : ∀ q : U → Sto → Prop, wpO (fIsX isT_Machine [.r (S.length + 1), .v (.cls 12)] (S ++ [c1, Cell.ins 14 (uFs (mRec size (sortI ms) (sort3 ts) now))])) q = q (.v (.bl true)) (S ++ [c1, Cell.ins 14 (uFs (mRec size (sortI ms) (sort3 ts) now))]) := fun q => by
       unfold fIsX; simp [hM, isT_Machine]
     simp [hX, builtD]
     simp [mRec, mFs, uFs]
   · rintro k fs T ⟨rfl, hf⟩
     rw [h1 k fs hf]
     rcases flt_fs hf with ⟨rfl, x, rfl⟩ | ⟨rfl, x, rfl⟩ | ⟨rfl, x, rfl⟩
     · rw [wCatch_yes (ds := [(("part" : Str), .str x)]) rfl rfl]
       simp [kinds_ok, whole_ok, outD, offP]
     · rw [wCatch_no rfl, wCatch_yes (ds := [(("size" : Str), .int x)]) rfl rfl]
       simp [kinds_ok, whole_ok, outD, offP]
     · rw [wCatch_no rfl, wCatch_no rfl, wCatch_yes (ds := [(("state" : Str), .int x)]) rfl rfl]
       simp [kinds_ok, whole_ok, outD, offP]
end Mi
namespace Mi
open PySem Pu L2
theorem put_in_ok (xs : List D) (x : D) (k : Int) (hl : xs.length ≤ 5000) (S : Sto) : ∃ n : Nat, n ≤ xs.length ∧ f__law_put_in [.v (.lst xs), .v x, .v (.int k)] S = .ok (.v (.lst (xs.take n ++ [x] ++ xs.drop n))) S := by
 have h0 : 0 ≤ k % ((xs.length : Int) + 1) := Int.emod_nonneg _ (by omega)
 have h1 : k % ((xs.length : Int) + 1) < (xs.length : Int) + 1 := Int.emod_lt_of_pos _ (by omega)
 obtain ⟨n, hn⟩ := Int.eq_ofNat_of_zero_le h0
 refine ⟨n, by omega, ?_⟩
 unfold f__law_put_in
 refine runF_eq ?_
 have hne : (xs.length : Int) + 1 ≠ 0 := by omega
 simp [m__law_put_in, start0, hne, hn, v_slL, cutU_hi, cutU_lo, allV]
 omega
theorem due_ok (F : List Int) (hF : F.length ≤ 10) (size here : Int) (S : Sto) : f__law_due_7 [.v (.lst (F.map D.int)), .v (.int size), .v (.int here)] S = .ok (.v (if 1 ∈ F then .tup [.str "machine", .bl true, .str "size"] else if 2 ∈ F then .tup [.str "large", .bl true, .int size] else if 3 ∈ F then .tup [.str "machine", .bl true, .str "mark"] else if 4 ∈ F then .tup [.str "machine", .bl true, .str "step"] else if 5 ∈ F then .tup [.str "large", .bl true, .int 601] else if 6 ∈ F then .tup [.str "state", .bl true, .int here] else .tup [.str "built", .bl true, .int size])) S := by
 unfold f__law_due_7
 refine runF_eq ?_
 have hin : ∀ (k : Int) (q : U → Sto → Prop), wpO (fInX false (.v (.int k)) (.v (.lst (F.map D.int))) S) q = q (.v (.bl (decide (k ∈ F)))) S := fun k q => by
   rw [q2u false (ds := F.map D.int) rfl rfl (fun x hx => by obtain ⟨y, _, rfl⟩ := List.mem_map.mp hx; rfl) (by simp)]
   have : (D.int k ∈ F.map D.int) ↔ k ∈ F := by simp
   simp [this]
 by_cases c1 : 1 ∈ F
 · simp [m__law_due_7, start0, hin, c1]
 by_cases c2 : 2 ∈ F
 · simp [m__law_due_7, start0, hin, c1, c2]
 by_cases c3 : 3 ∈ F
 · simp [m__law_due_7, start0, hin, c1, c2, c3]
 by_cases c4 : 4 ∈ F
 · simp [m__law_due_7, start0, hin, c1, c2, c3, c4]
 by_cases c5 : 5 ∈ F
 · simp [m__law_due_7, start0, hin, c1, c2, c3, c4, c5]
 by_cases c6 : 6 ∈ F
 · simp [m__law_due_7, start0, hin, c1, c2, c3, c4, c5, c6]
 · simp [m__law_due_7, start0, hin, c1, c2, c3, c4, c5, c6]
theorem fold_flat (l : List Nat) : ∀ (n : Nat) (b : List Nat), (List.replicate n l.toArray).foldl (· ++ ·) b.toArray = (b ++ (List.replicate n l).flatten).toArray
 | 0, b => by simp
 | n + 1, b => by
   rw [List.replicate_succ, List.foldl_cons, List.append_toArray, fold_flat l n (b ++ l), List.replicate_succ, List.flatten_cons, List.append_assoc]
theorem mul_mkS (l : List Nat) (hl : l ≠ []) (n : Nat) (hn : 2 ≤ n) : Txt.mul (mkS l) (n : Nat) = mkS ((List.replicate n l).flatten) := by
 unfold Txt.mul
 rw [if_neg (by omega)]
 have h2 : ¬ ((((n : Nat) : Int) == 1 || (mkS l).length == 0) = true) := by
   have : l.length ≠ 0 := fun h => hl (List.length_eq_zero_iff.mp h)
   simp
   exact ⟨by omega, fun h => this (by simp [h])⟩
 rw [if_neg h2]
 have := fold_flat l n []
 simp at this
 unfold mkS
 simp [this]
theorem cut_loS (l : List Nat) (k : Int) (h0 : 0 ≤ k) : cutS (mkS l) (some k) none = mkS (l.drop k.toNat) := by
 obtain ⟨n, rfl⟩ := Int.eq_ofNat_of_zero_le h0
 unfold cutS
 show mkS _ = _
 rw [mkS_cps, mkS_len, HT.sIx_none, HT.sIx_nat]
 congr 1
 simp only [Int.toNat_natCast]
 by_cases h : n ≤ l.length
 · rw [Nat.min_eq_left h, List.take_of_length_le (by simp)]
 · rw [Nat.min_eq_right (by omega), List.drop_eq_nil_of_le (Nat.le_refl _), List.drop_eq_nil_of_le (by omega)]; simp
def signsT : Str := "ABCDEFGHIJKLMNOPQRSTUVWXYZ0123456789 !#&'()*+,-./:;<=>?\x40[]^_|~"
theorem signs_bad : ∀ c ∈ signsT.cps.toList, ¬ (97 ≤ c ∧ c ≤ 122) := by decide +kernel
theorem signs_len : signsT.cps.toList.length = 62 := by decide +kernel
theorem bad_ask_ok (row : List Int) (hr : 3 ≤ row.length) (z : Str) (hz : AskS z) (S : Sto) : ∃ y : Str, f__law_bad_ask [.v (.lst (row.map D.int)), .v (.str z)] S = .ok (.v (.str y)) S ∧ ¬ AskS y ∧ y.length ≤ 1000 := by
 obtain ⟨l, rfl⟩ : ∃ l, z = mkS l := ⟨z.cps.toList, rfl⟩
 obtain ⟨h1, h2, h3⟩ := hz
 have hlen : (mkS l).length = l.length := mkS_len l
 have l1 : 1 ≤ l.length := by omega
 have l8 : l.length ≤ 8 := by omega
 have hne : l ≠ [] := fun h => by simp [h] at l1
 have I : ∀ i : Int, 0 ≤ i → i < 3 → ∀ (Z : Sto) (k : U → Sto → Prop), wpO (fIxX (.v (.lst (row.map D.int))) (.v (.int i)) Z) k = k (.v (.int (rg row i.toNat))) Z := fun i h0 h1 Z k => by
   rw [v_ixL, at_intI row i h0 (by omega)]
 have I0 := I 0 (by omega) (by omega)
 have I1 := I 1 (by omega) (by omega)
 have I2 := I 2 (by omega) (by omega)
 by_cases c0 : rg row 0 % 4 = 0
 · refine ⟨"", ?_, fun h => absurd h.1 (by decide), by decide⟩
   unfold f__law_bad_ask
   refine runF_eq ?_
   simp [-atI_map, -v_ixL, m__law_bad_ask, start0, I0, c0]
 by_cases c1 : rg row 0 % 4 = 1
 · refine ⟨mkS (((List.replicate 9 l).flatten).take 9), ?_, fun h => ?_, ?_⟩
   · unfold f__law_bad_ask
     refine runF_eq ?_
     have hm := mul_mkS l hne 9 (by omega)
     have hmul : ∀ q : U → Sto → Prop, wpO (fMulT (.v (.str (mkS l))) (.v (.int 9)) S) q = q (.v (.str (mkS ((List.replicate 9 l).flatten)))) S := fun q => by
       rw [← hm]
       have h90 : (mkS l).length ≤ 90 := by omega
       simp only [fMulT]
       rw [if_pos ⟨by omega, by omega, h90⟩]
       rfl
     simp [-atI_map, -v_ixL, m__law_bad_ask, start0, I0, c1, hmul]
     refine ⟨by omega, ?_⟩
     rw [cut_hi _ _ (by omega)]
     rfl
   · have h9 : (((List.replicate 9 l).flatten).take 9).length = 9 := by
       rw [List.length_take, List.length_flatten]
       simp
       omega
     have := h.2.1
     rw [mkS_len, h9] at this
     omega
   · rw [mkS_len, List.length_take]; omega
 · have hk : ∀ x : Int, 0 ≤ x % 62 ∧ x % 62 < 62 := fun x => by omega
   obtain ⟨k, hk⟩ : ∃ k : Nat, rg row 2 % 62 = k := ⟨(rg row 2 % 62).toNat, by omega⟩
   have hk62 : k < signsT.cps.toList.length := by rw [signs_len]; omega
   obtain ⟨a, ha⟩ : ∃ a : Nat, rg row 1 % (l.length : Int) = a := Int.eq_ofNat_of_zero_le (Int.emod_nonneg _ (by omega))
   have ha2 : a < l.length := by have := Int.emod_lt_of_pos (rg row 1) (show (0 : Int) < l.length by omega); omega
   obtain ⟨c, hc⟩ : ∃ c, c = signsT.cps.toList[k] := ⟨_, rfl⟩
   have hcb := signs_bad c (by rw [hc]; exact List.getElem_mem hk62)
   refine ⟨mkS (l.take a ++ [c] ++ l.drop (a + 1)), ?_, fun h => ?_, ?_⟩
   · unfold f__law_bad_ask
     refine runF_eq ?_
     have hs : (Str.ofString "ABCDEFGHIJKLMNOPQRSTUVWXYZ0123456789 !#&'()*+,-./:;<=>?\x40[]^_|~") = signsT := rfl
     have hsl : signsT.length = 62 := by rw [← signs_len]; rfl
     have hat : ∀ q : Nat → Prop, wpo (atI signsT.cps.toList (k : Int)) q = q c := fun q => by
       rw [Pu.atI_nat, List.getElem?_eq_getElem hk62, hc]; rfl
     have hne0 : ¬ (l.length : Int) = 0 := by omega
     simp [-atI_map, -v_ixL, m__law_bad_ask, start0, I0, I1, I2, c0, c1, hs, hsl, hk, hat, hne0, ha]
     have ec : (⟨#[c]⟩ : Str) = mkS [c] := rfl
     have e1 : ((a : Int) + 1).toNat = a + 1 := by omega
     rw [cut_hi _ _ (by omega), cut_loS _ _ (by omega), ec, mkS_app, mkS_app, e1, Int.toNat_natCast, mkS_len, mkS_len, mkS_len, mkS_len]
     refine ⟨by omega, by omega, by omega, by simp; omega, by omega, by simp; omega, by simp⟩
   · exact hcb (h.2.2 c (by simp [mkS]))
   · rw [mkS_len]; simp; omega
theorem bad_step_ok (row : List Int) (hr : 7 ≤ row.length) (hb : ∀ x ∈ row, 0 ≤ x) (size : Int) (h1 : 1 ≤ size) (z : Str) (hz : AskS z) (S : Sto) : ∃ s : St3, f__law_bad_step [.v (.lst (row.map D.int)), .v (.int size), .v (.str z)] S = .ok (.v (stD s)) S ∧ ¬ StS size s ∧ s.2.1.length ≤ 1000 := by
 have I : ∀ i : Int, 0 ≤ i → i < 7 → ∀ (Z : Sto) (k : U → Sto → Prop), wpO (fIxX (.v (.lst (row.map D.int))) (.v (.int i)) Z) k = k (.v (.int (rg row i.toNat))) Z := fun i h0 h1 Z k => by
   rw [v_ixL, at_intI row i h0 (by omega)]
 have I0 := I 0 (by omega) (by omega)
 have I1 := I 1 (by omega) (by omega)
 have I2 := I 2 (by omega) (by omega)
 have I3 := I 3 (by omega) (by omega)
 have b1 : 0 ≤ rg row 1 := by
   unfold rg
   rw [List.getD_eq_getElem?_getD, List.getElem?_eq_getElem (by omega)]
   exact hb _ (List.getElem_mem _)
 have hz8 : z.length ≤ 1000 := by have := hz.2.1; omega
 obtain ⟨low, hlow⟩ : ∃ low, rg row 0 % size = low := ⟨_, rfl⟩
 have hn0 : size ≠ 0 := by omega
 obtain ⟨wr, hwr, hbad⟩ : ∃ wr : Int, (∀ q : D → Prop, wpo (atI [D.int (-1), .int size, .int (size + rg row 1), .int (-1 - rg row 1)] (rg row 2 % 4)) q = q (.int wr)) ∧ (wr < 0 ∨ size ≤ wr) := by
   have h4 : rg row 2 % 4 = 0 ∨ rg row 2 % 4 = 1 ∨ rg row 2 % 4 = 2 ∨ rg row 2 % 4 = 3 := by omega
   rcases h4 with h | h | h | h <;> rw [h]
   · exact ⟨-1, fun q => rfl, by omega⟩
   · exact ⟨size, fun q => rfl, by omega⟩
   · exact ⟨size + rg row 1, fun q => rfl, by omega⟩
   · exact ⟨-1 - rg row 1, fun q => rfl, by omega⟩
 by_cases c0 : rg row 3 % 3 = 0
 · refine ⟨(wr, z, low), ?_, fun h => by have := h.1; have := h.2.1; simp at *; omega, hz8⟩
   unfold f__law_bad_step
   refine runF_eq ?_
   simp [-atI_map, -v_ixL, m__law_bad_step, start0, I0, I1, I2, I3, hn0, hlow, c0, allV]
   rw [v_ixL, hwr]
   simp [stD]
   omega
 by_cases c1 : rg row 3 % 3 = 1
 · refine ⟨(low, z, wr), ?_, fun h => by have := h.2.2.1; have := h.2.2.2.1; simp at *; omega, hz8⟩
   unfold f__law_bad_step
   refine runF_eq ?_
   simp [-atI_map, -v_ixL, m__law_bad_step, start0, I0, I1, I2, I3, hn0, hlow, c0, c1, allV]
   rw [v_ixL, hwr]
   simp [stD]
   omega
 · obtain ⟨y, hy, hy2, hy3⟩ := bad_ask_ok (row.drop 4) (by simp; omega) z hz S
   refine ⟨(low, y, low), ?_, fun h => hy2 h.2.2.2.2, hy3⟩
   unfold f__law_bad_step
   refine runF_eq ?_
   simp [-atI_map, -v_ixL, m__law_bad_step, start0, I0, I1, I2, I3, hn0, hlow, c0, c1, allV]
   rw [v_ixL, hwr]
   simp [stD, cutU_lo, ← List.map_drop, hy]
   omega
end Mi
namespace Mi
open PySem Pu L2
def szP (row : List Int) : Int := 1 + (rg row 0 * 64 + rg row 1) % 200
def msP (row : List Int) : List Int := (List.range (rg row 7 % 5).toNat).map fun (i : Nat) => (rg row (2 + i) * 64 + i) % szP row
def tsP (row : List Int) (zs : List Str) : List St3 := (List.range (rg row 15 % 7).toNat).map fun (i : Nat) => (rg row (8 + i) % szP row, sg zs (i % 3), rg row (9 + i) % szP row)
theorem szP_bd (row : List Int) : 1 ≤ szP row ∧ szP row ≤ 200 := by unfold szP; omega
theorem msP_ok (row : List Int) : (∀ m ∈ msP row, MkS (szP row) m) ∧ (msP row).length ≤ 4 := by
 have s1 := (szP_bd row).1
 refine ⟨fun m hm => ?_, by unfold msP; simp; omega⟩
 obtain ⟨i, _, rfl⟩ := List.mem_map.mp hm
 exact ⟨Int.emod_nonneg _ (by omega), Int.emod_lt_of_pos _ (by omega)⟩
theorem tsP_ok (row : List Int) (zs : List Str) (hz : zs.length = 3) (hk : ∀ z ∈ zs, AskS z) : (∀ s ∈ tsP row zs, StS (szP row) s) ∧ (tsP row zs).length ≤ 6 := by
 have s1 := (szP_bd row).1
 refine ⟨fun m hm => ?_, by unfold tsP; simp; omega⟩
 obtain ⟨i, _, rfl⟩ := List.mem_map.mp hm
 have hi : i % 3 < zs.length := by rw [hz]; omega
 exact ⟨Int.emod_nonneg _ (by omega), Int.emod_lt_of_pos _ (by omega), Int.emod_nonneg _ (by omega), Int.emod_lt_of_pos _ (by omega), by show AskS (sg zs (i % 3)); rw [sg_get hi]; exact hk _ (List.getElem_mem hi)⟩
theorem parts_ok (row : List Int) (zs : List Str) (hr : row.length = 24) (hz : zs.length = 3) (S : Sto) :
   f__law_parts [.v (.lst (row.map D.int)), .v (.lst (zs.map D.str))] S = .ok (.v (.tup [.int (szP row), .lst ((msP row).map D.int), .lst ((tsP row zs).map stD)])) S := by
 unfold f__law_parts
 refine runF_eq ?_
 have s1 := (szP_bd row).1
 have hs0 : szP row ≠ 0 := by omega
 have I : ∀ i : Int, 0 ≤ i → i < 24 → ∀ (Z : Sto) (k : U → Sto → Prop), wpO (fIxX (.v (.lst (row.map D.int))) (.v (.int i)) Z) k = k (.v (.int (rg row i.toNat))) Z := fun i h0 h1 Z k => by
   rw [v_ixL, at_intI row i h0 (by omega)]
 have I0 := I 0 (by omega) (by omega)
 have I1 := I 1 (by omega) (by omega)
 have I7 := I 7 (by omega) (by omega)
 have I15 := I 15 (by omega) (by omega)
 obtain ⟨n, hn⟩ : ∃ n : Nat, rg row 7 % 5 = n := ⟨(rg row 7 % 5).toNat, by omega⟩
 obtain ⟨k, hk2⟩ : ∃ k : Nat, rg row 15 % 7 = k := ⟨(rg row 15 % 7).toNat, by omega⟩
 have hsz : 1 + (rg row 0 * 64 + rg row 1) % 200 = szP row := rfl
 have em : msP row = (List.range n).map fun (i : Nat) => (rg row (2 + i) * 64 + i) % szP row := by unfold msP; rw [hn]; rfl
 have et : tsP row zs = (List.range k).map fun (i : Nat) => (rg row (8 + i) % szP row, sg zs (i % 3), rg row (9 + i) % szP row) := by unfold tsP; rw [hk2]; rfl
 simp [-atI_map, -v_ixL, m__law_parts, start0, I0, I1, I7, I15, hsz, hn, hk2]
 refine w_lcV (ds := (List.range n).map fun (i : Nat) => D.int i) (src := none) (S1 := S) (fun _ => true) (fun d => match d with | .int i => .int ((rg row (2 + i.toNat) * 64 + i) % szP row) | _ => .non) ?_ ?_ nofun ?_ ?_
 · simp [-atI_map, -v_ixL, I7, hn]
   refine ⟨by omega, ?_⟩
   unfold rngU
   simp
 · simp; omega
 · intro d hd acc
   obtain ⟨i, hi, rfl⟩ := List.mem_map.mp hd
   have hi2 : i < n := by simpa using hi
   have Ii := I (2 + (i : Int)) (by omega) (by omega)
   have e : (2 + (i : Int)).toNat = 2 + i := by omega
   rw [e] at Ii
   simp [-atI_map, -v_ixL, wipeE, Ii]
   omega
 · have ef : ((((List.range n).map fun (i : Nat) => D.int i).filter fun _ => true).map fun d => match d with | .int i => D.int ((rg row (2 + i.toNat) * 64 + i) % szP row) | _ => .non) = (msP row).map D.int := by
     rw [List.filter_eq_self.mpr (fun _ _ => rfl), em]
     simp [Function.comp_def]
   rw [ef]
   refine ⟨by omega, ?_⟩
   refine for_inv (fun i ρ T => (∃ x5, ρ = [some (.v (.lst (row.map D.int))), some (.v (.lst (zs.map D.str))), some (.v (.int (szP row))), some (.v (.lst ((msP row).map D.int))), some (.r S.length), x5]) ∧
     T = S ++ [.lst ((((List.range i).map fun (i : Nat) => ((rg row (8 + i) % szP row, sg zs (i % 3), rg row (9 + i) % szP row) : St3)).map stD).map U.v)]) ⟨⟨none, rfl⟩, rfl⟩ ?_ ?_
   · rintro i u ρ T hu ⟨⟨x5, rfl⟩, rfl⟩
     obtain ⟨hi, rfl⟩ := rngU_get hu
     have Ii := I (8 + (i : Int)) (by omega) (by omega)
     have Ij := I (9 + (i : Int)) (by omega) (by omega)
     have e : (8 + (i : Int)).toNat = 8 + i := by omega
     have e2 : (9 + (i : Int)).toNat = 9 + i := by omega
     rw [e] at Ii
     rw [e2] at Ij
     have e3 : (i : Int) % 3 = ((i % 3 : Nat) : Int) := by omega
     have ha := fun (k : D → Prop) => at_str zs (i % 3) (by omega) k
     simp [-atI_map, -v_ixL, Ii, Ij, isL_r]
     rw [v_ixL, e3, ha]
     refine ⟨by omega, by omega, ?_⟩
     simp [List.range_succ, stD]
     omega
   · rintro ρ T ⟨⟨x5, rfl⟩, rfl⟩
     simp only [rngU_len, et]
     simp
     rw [v_fzL (ds := (List.range k).map (stD ∘ fun (i : Nat) => ((rg row (8 + i) % szP row, sg zs (i % 3), rg row (9 + i) % szP row) : St3))) (by simp)]
     simp [allV]
def larR (row : List Int) (st : Nat) (a : Str) : St3 := ((st : Int), a, ((st : Int) * 3 + rg row 0) % 200)
def larT (row : List Int) (zs : List Str) (n : Nat) : List St3 := (List.range n).flatMap fun st => zs.map (larR row st)
def larP (row : List Int) (zs : List Str) : List St3 := (larT row zs 200).drop (rg row 1 * 9).toNat ++ (larT row zs 200).take (rg row 1 * 9).toNat ++ (larT row zs 200).take (rg row 2 % 4).toNat
theorem larT_succ (row : List Int) (zs : List Str) (n : Nat) : larT row zs (n + 1) = larT row zs n ++ zs.map (larR row n) := by
 unfold larT
 rw [List.range_succ, List.flatMap_append]
 simp
theorem larT_len (row : List Int) (zs : List Str) : ∀ n : Nat, (larT row zs n).length = n * zs.length
 | 0 => by simp [larT]
 | n + 1 => by
   rw [larT_succ, List.length_append, larT_len row zs n, List.length_map, Nat.succ_mul]
theorem larT_mem {row : List Int} {zs : List Str} {n : Nat} {s : St3} : s ∈ larT row zs n ↔ ∃ st a, st < n ∧ a ∈ zs ∧ s = larR row st a := by
 unfold larT
 rw [List.mem_flatMap]
 constructor
 · rintro ⟨st, h1, h2⟩
   obtain ⟨a, h3, rfl⟩ := List.mem_map.mp h2
   exact ⟨st, a, by simpa using h1, h3, rfl⟩
 · rintro ⟨st, a, h1, h2, rfl⟩
   exact ⟨st, by simpa using h1, List.mem_map_of_mem h2⟩
theorem larT_nd (row : List Int) (zs : List Str) (hz : zs.Nodup) : ∀ n, (larT row zs n).Nodup
 | 0 => by simp [larT]
 | n + 1 => by
   rw [larT_succ, List.nodup_append]
   refine ⟨larT_nd row zs hz n, ?_, fun s h1 t h2 e => ?_⟩
   · rw [List.nodup_iff_pairwise_ne, List.pairwise_map]
     exact (List.nodup_iff_pairwise_ne.mp hz).imp fun {a b} h e => h (by unfold larR at e; simpa using e)
   · subst e
     obtain ⟨st, a, h3, _, rfl⟩ := larT_mem.mp h1
     obtain ⟨b, _, h4⟩ := List.mem_map.mp h2
     unfold larR at h4
     simp at h4
     omega
theorem larP_mem {row : List Int} {zs : List Str} {s : St3} : s ∈ larP row zs ↔ s ∈ larT row zs 200 := by
 unfold larP
 simp only [List.mem_append]
 constructor
 · rintro ((h | h) | h)
   · exact List.mem_of_mem_drop h
   · exact List.mem_of_mem_take h
   · exact List.mem_of_mem_take h
 · intro h
   rw [← List.take_append_drop (rg row 1 * 9).toNat (larT row zs 200)] at h
   rcases List.mem_append.mp h with h | h
   · exact .inl (.inr h)
   · exact .inl (.inl h)
theorem larP_ok (row : List Int) (zs : List Str) (hk : ∀ z ∈ zs, AskS z) : ∀ s ∈ larP row zs, StS 200 s := fun s h => by
 obtain ⟨st, a, h1, h2, rfl⟩ := larT_mem.mp (larP_mem.mp h)
 exact ⟨by unfold larR; simp, by unfold larR; simp; omega, by unfold larR; simp; omega, by unfold larR; simp; omega, hk _ h2⟩
theorem larP_len (row : List Int) (zs : List Str) (hz : zs.length = 3) : (larP row zs).length ≤ 603 := by
 have := larT_len row zs 200
 rw [hz] at this
 unfold larP
 simp
 omega
theorem sort3_nd (l : List St3) : (sort3 l).Nodup := by
 rw [List.nodup_iff_pairwise_ne]
 exact (sort3_asc l).imp fun {a b} h e => by subst e; exact lt3_irr _ h
theorem sort3_cnt {l L : List St3} (hn : L.Nodup) (h : ∀ t, t ∈ l ↔ t ∈ L) : (sort3 l).length = L.length :=
 ((List.perm_ext_iff_of_nodup (sort3_nd l) hn).mpr fun t => (sort3_mem l t).trans (h t)).length_eq
theorem large_ok (row : List Int) (zs : List Str) (hr : row.length = 24) (hb : ∀ x ∈ row, 0 ≤ x) (hz : zs.length = 3) (S : Sto) :
   f__law_large [.v (.lst (row.map D.int)), .v (.lst (zs.map D.str))] S = .ok (.v (.lst ((larP row zs).map stD))) S := by
 unfold f__law_large
 refine runF_eq ?_
 have I : ∀ i : Int, 0 ≤ i → i < 24 → ∀ (Z : Sto) (k : U → Sto → Prop), wpO (fIxX (.v (.lst (row.map D.int))) (.v (.int i)) Z) k = k (.v (.int (rg row i.toNat))) Z := fun i h0 h1 Z k => by
   rw [v_ixL, at_intI row i h0 (by omega)]
 have I0 : ∀ (Z : Sto) (q : U → Sto → Prop), wpO (fIxX (.v (.lst (row.map D.int))) (.v (.int 0)) Z) q = q (.v (.int (rg row 0))) Z := I 0 (by omega) (by omega)
 have I1 : ∀ (Z : Sto) (q : U → Sto → Prop), wpO (fIxX (.v (.lst (row.map D.int))) (.v (.int 1)) Z) q = q (.v (.int (rg row 1))) Z := I 1 (by omega) (by omega)
 have I2 : ∀ (Z : Sto) (q : U → Sto → Prop), wpO (fIxX (.v (.lst (row.map D.int))) (.v (.int 2)) Z) q = q (.v (.int (rg row 2))) Z := I 2 (by omega) (by omega)
 have b1 : 0 ≤ rg row 1 := by
   unfold rg
   rw [List.getD_eq_getElem?_getD, List.getElem?_eq_getElem (by omega)]
   exact hb _ (List.getElem_mem _)
 simp [-s_for, m__law_large, start0]
 rw [s_for]
 simp
 refine for_inv (fun i ρ T => (∃ x3 x5, ρ = [some (.v (.lst (row.map D.int))), some (.v (.lst (zs.map D.str))), some (.r S.length), x3, none, x5]) ∧ T = S ++ [.lst (((larT row zs i).map stD).map U.v)]) ⟨⟨none, none, rfl⟩, rfl⟩ ?_ ?_
 · rintro i u ρ T hu ⟨⟨x3, x5, rfl⟩, rfl⟩
   obtain ⟨hi, rfl⟩ := rngU_get hu
   simp only [w_gName, wpo_some, List.set_cons_succ, List.set_cons_zero]
   rw [s_for]
   simp only [w_iVal, w_var, getv_s, getv_0, seqV_l]
   refine for_inv (fun j ρ T => (∃ x5, ρ = [some (.v (.lst (row.map D.int))), some (.v (.lst (zs.map D.str))), some (.r S.length), some (.v (.int (i : Nat))), none, x5]) ∧ T = S ++ [.lst (((larT row zs i ++ (zs.take j).map (larR row i)).map stD).map U.v)]) ⟨⟨_, by simp; rfl⟩, by simp⟩ ?_ ?_
   · rintro j u ρ T hu ⟨⟨x5, rfl⟩, rfl⟩
     rw [List.map_map, List.getElem?_map, Option.map_eq_some_iff] at hu
     obtain ⟨a, ha, rfl⟩ := hu
     have hl := larT_len row zs i
     have hj := (List.getElem?_eq_some_iff.mp ha).1
     simp [-atI_map, -v_ixL, I0, isL_r]
     refine ⟨by rw [hl, hz]; omega, ?_⟩
     rw [List.take_add_one, List.getElem?_map, ha]
     rfl
   · rintro ρ T ⟨⟨x5, rfl⟩, rfl⟩
     refine ⟨trivial, ⟨_, _, rfl⟩, ?_⟩
     rw [larT_succ, List.length_map, List.length_map, List.take_length]
 · rintro ρ T ⟨⟨x3, x5, rfl⟩, rfl⟩
   simp only [rngU_len]
   obtain ⟨n, hn⟩ : ∃ n : Nat, rg row 1 * 9 = n := ⟨(rg row 1 * 9).toNat, by omega⟩
   obtain ⟨c, hc⟩ : ∃ c : Nat, rg row 2 % 4 = c := ⟨(rg row 2 % 4).toNat, by omega⟩
   have hL := larT_len row zs 200
   rw [hz] at hL
   have hsl : ∀ (lo hi : Option Int) (q : U → Sto → Prop), wpO (fSl (.r S.length) lo hi (S ++ [Cell.lst (((larT row zs 200).map stD).map U.v)])) q = q (.v (.lst (cutU ((larT row zs 200).map stD) lo hi))) (S ++ [Cell.lst (((larT row zs 200).map stD).map U.v)]) := fun lo hi q => qak (by unfold asLst; simp) lo hi
   have it : ∀ (a : Int) (Z : Sto) (k : U → Sto → Prop), wpO (fInt [.v (.int a)] Z) k = k (.v (.int a)) Z := fun a Z k => by simp
   have m9 : ∀ (Z : Sto) (k : U → Sto → Prop), wpO (fI gMul (.v (.int (rg row 1))) (.v (.int 9)) Z) k = k (.v (.int n)) Z := fun Z k => by simp [hn]
   have m4 : ∀ (Z : Sto) (k : U → Sto → Prop), wpO (fI gMod (.v (.int (rg row 2))) (.v (.int 4)) Z) k = k (.v (.int c)) Z := fun Z k => by simp [hc]
   simp only [getv_s, getv_0, I1, I2, it, m9, m4, List.set_cons_succ, List.set_cons_zero, isInt, hsl, cutU_lo _ _ (show (0 : Int) ≤ n by omega), cutU_hi _ _ (show (0 : Int) ≤ n by omega), cutU_hi _ _ (show (0 : Int) ≤ c by omega), v_addL, Int.toNat_natCast]
   rw [← List.map_drop, ← List.map_take, ← List.map_take]
   have ef : larP row zs = (larT row zs 200).drop n ++ (larT row zs 200).take n ++ (larT row zs 200).take c := by unfold larP; rw [hn, hc]; rfl
   rw [ef]
   refine ⟨by simp; omega, by simp; omega, ?_⟩
   simp
end Mi
namespace Mi
open PySem Pu L2
theorem intD_inj {a b : List Int} : a.map D.int = b.map D.int ↔ a = b := ⟨fun h => by have := congrArg (List.map fun d => match d with | .int i => i | _ => 0) h; simpa [Function.comp_def] using this, congrArg _⟩
theorem item_holds_ok {S : Sto} {x : U} {c : Nat} {size : Int} {ms : List Int} {ts : List St3} {now : Int} (h : IsM S x c size ms ts now) (a : Str) (due : List Int) (hl : ts.length ≤ 1000) :
   f__law_item_holds [x, .v (.str a), .v (.lst (due.map D.int))] S = .ok (.v (.bl (decide (endsL ts now a = due)))) S := by
 unfold f__law_item_holds
 refine runF_eq ?_
 have hel : (endsL ts now a).length ≤ ts.length := by unfold endsL; rw [List.length_map]; exact List.length_filter_le _ _
 simp [m__law_item_holds, start0, h.at, h.2, getitem_ok h]
 refine w_lcV (ds := (endsL ts now a).map D.int) (src := none) (S1 := S) (fun _ => true) (fun _ => .bl true) ?_ ?_ nofun ?_ ?_
 · simp
 · simp; omega
 · intro d hd acc
   obtain ⟨i, hi, rfl⟩ := List.mem_map.mp hd
   simp [wipeE, whole_ok]
 rw [allT _ D.int _ (fun _ => rfl), v_all, all_true]
 simp
 rw [v_eq (dat_ints _) (dat_ints _)]
 simp [intD_inj]
end Mi
namespace K02
open PySem Pu L2 Mi
def due (size : Nat) (ts : List St3) (here : Int) (a : Str) : List Int := ((List.range size).filter fun (e : Nat) => decide ((here, a, (e : Int)) ∈ ts)).map fun (e : Nat) => (e : Int)
theorem due_eq {size : Nat} {ts : List St3} (hb : ∀ t ∈ ts, 0 ≤ t.2.2 ∧ t.2.2 < size) (here : Int) (a : Str) : endsL (sort3 ts) here a = due size ts here a := by
 refine asc_ext (lt := (· < ·)) (by omega) (by omega) (endsL_asc (sort3_asc ts) here a) ?_ fun e => ?_
 · unfold due
   rw [List.pairwise_map]
   exact (List.pairwise_lt_range.sublist List.filter_sublist).imp fun h => by omega
 · rw [endsL_mem, sort3_mem]
   unfold due
   simp only [List.mem_map, List.mem_filter, List.mem_range, decide_eq_true_eq]
   constructor
   · intro h
     have hbe := hb _ h
     simp only at hbe
     obtain ⟨n, rfl⟩ := Int.eq_ofNat_of_zero_le hbe.1
     exact ⟨n, ⟨by omega, h⟩, rfl⟩
   · rintro ⟨n, ⟨_, h⟩, rfl⟩
     exact h
theorem key_st (t : St3) : isKey (stD t) = true := by simp [stD]
theorem in_steps {S : Sto} {q : U → Sto → Prop} (neg : Bool) (t : St3) (u : U) (ts : List St3) (hu : asSeq S u = some ((ts.map stD).map U.v)) : wpO (fInX neg (.v (stD t)) u S) q = q (.v (.bl (cond neg (!decide (t ∈ ts)) (decide (t ∈ ts))))) S := by
 rw [q2u neg hu (key_st t) (fun x hx => by obtain ⟨s, _, rfl⟩ := List.mem_map.mp hx; exact key_st s) (by simp [stD])]
 have : stD t ∈ ts.map stD ↔ t ∈ ts := ⟨fun h => by obtain ⟨s, hs, e⟩ := List.mem_map.mp h; rw [← stD_inj e]; exact hs, fun h => List.mem_map_of_mem h⟩
 simp only [this]
theorem in_ints {S : Sto} {q : U → Sto → Prop} (neg : Bool) (i : Int) (u : U) (l : List Int) (hu : asSeq S u = some ((l.map D.int).map U.v)) : wpO (fInX neg (.v (.int i)) u S) q = q (.v (.bl (cond neg (!decide (i ∈ l)) (decide (i ∈ l))))) S := by
 rw [q2u neg hu (by simp) (fun x hx => by obtain ⟨s, _, rfl⟩ := List.mem_map.mp hx; simp) (by simp)]
 have : D.int i ∈ l.map D.int ↔ i ∈ l := by simp
 simp only [this]
theorem fin_nil (d : D) (l : Sto) : fin [] (.v d) l = .ok (.v d) [] := fin_v [] d l
theorem pure_law (ns : List Int) (hns : ns.length ≤ 63) : ∃ S', f_law_2 [.v (.frl (ns.map D.int))] [] = .ok (.v (.bl true)) S' := by
 suffices h : wpr (f_law_2 [.v (.frl (ns.map D.int))] []) (fun u _ => u = .v (.bl true)) (fun _ _ _ => False) by
   obtain ⟨u, S', e, rfl⟩ := wpr_iff.mp h
   exact ⟨S', e⟩
 unfold f_law_2
 rw [wp_runF]
 have D0 := fun S => draws_i ns 0 8 (by omega) (by omega) (by omega) S
 have D1 := fun S => draws_i ns 1 13 (by omega) (by omega) (by omega) S
 have D2 := fun S => draws_i ns 2 16 (by omega) (by omega) (by omega) S
 obtain ⟨r0, hr0⟩ : ∃ r, r = rowN ns 0 8 := ⟨_, rfl⟩
 obtain ⟨r1, hr1⟩ : ∃ r, r = rowN ns 1 13 := ⟨_, rfl⟩
 obtain ⟨r2, hr2⟩ : ∃ r, r = rowN ns 2 16 := ⟨_, rfl⟩
 have l0 : r0.length = 8 := by rw [hr0]; simp
 have l1 : r1.length = 13 := by rw [hr1]; simp
 have l2 : r2.length = 16 := by rw [hr2]; simp
 simp only [Int.reduceToNat, ← hr0, ← hr1, ← hr2] at D0 D1 D2
 clear hr0 hr1 hr2
 have I0 : ∀ i : Int, 0 ≤ i → i < 8 → ∀ k : Int → Prop, wpo (atI r0 i) k = k (rg r0 i.toNat) := fun i h0 h1 k => atI_get 0 h0 (by omega)
 have hA := fun S => asks_i r1 l1 (2 + rg r0 1 % 4) (by omega) (by omega) S
 obtain ⟨zs, hzs⟩ : ∃ z, z = asksN r1 (2 + rg r0 1 % 4).toNat := ⟨_, rfl⟩
 have zl : zs.length ≤ 5 := by rw [hzs]; simp; omega
 have zk : ∀ z ∈ zs, AskS z := by rw [hzs]; exact asksN_ask r1 l1 _
 rw [← hzs] at hA
 clear hzs
 obtain ⟨size, hsize⟩ : ∃ z : Nat, (1 + rg r0 0 % 4) = (z : Int) := ⟨(1 + rg r0 0 % 4).toNat, by omega⟩
 have sz1 : 1 ≤ size := by omega
 have sz2 : size ≤ 4 := by omega
 obtain ⟨as, has⟩ : ∃ z, z = zs.drop 1 := ⟨_, rfl⟩
 have al : as.length ≤ 8 := by rw [has]; simp; omega
 have ak : ∀ z ∈ as, AskS z := fun z hz => zk z (by rw [has] at hz; exact List.mem_of_mem_drop hz)
 have hS := fun S => steps_ok r2 (by omega) size sz2 as al (decide (rg r0 2 % 4 = 0)) S
 have hM := fun S => marks_ok (rg r0 3) size sz2 S
 have raw := stepsN_raw (row := r2) (single := decide (rg r0 2 % 4 = 0)) sz1 sz2 al ak (ms := marksN (rg r0 3) size) (fun m hm => marksN_bd hm) (by have := marksN_len (rg r0 3) size; omega)
 generalize stepsN r2 size as (decide (rg r0 2 % 4 = 0)) = ts at hS raw
 have mas := marksN_asc (rg r0 3) size
 generalize marksN (rg r0 3) size = ms at hM raw mas
 have hcut : cutU (zs.map D.str) (some 1) none = as.map D.str := by rw [cutU_lo _ _ (by omega), has]; simp
 simp [m_law_2, start0, D0, D1, D2, I0, hA, hcut, hS, hM, hsize]
 refine ⟨by omega, ?_⟩
 have rawR : Raw size ms ts.reverse := ⟨raw.s1, raw.s2, raw.m0, fun s hs => raw.t0 s (by simpa using hs), raw.ml, by simpa using raw.tl⟩
 have eS : sort3 ts.reverse = sort3 ts := sort3_eq (sort3_asc ts) fun t => by rw [sort3_mem]; simp
 have eM : sortI ms = ms := sortI_eq mas fun _ => Iff.rfl
 have hdue : ∀ (here : Int) (a : Str), endsL (sort3 ts) here a = due size ts here a := fun here a => due_eq (fun t ht => ⟨(raw.t0 t ht).2.2.1, (raw.t0 t ht).2.2.2.1⟩) here a
 have tl := raw.tl
 have tl3 := sort3_len ts
 refine for_inv (fun i ρ T => ∃ x7 x8 x9 x10 x11, ρ = [some (.v (.frl (ns.map D.int))), some (.v (.lst (r0.map D.int))), some (.v (.int size)), some (.v (.lst (zs.map D.str))), some (.v (.lst (as.map D.str))), some (.v (.lst (ts.map stD))), some (.v (.lst (ms.map D.int))), x7, x8, x9, x10, x11, none]) ⟨none, none, none, none, none, rfl⟩ ?_ ?_
 · rintro here u ρ T hu ⟨x7, x8, x9, x10, x11, rfl⟩
   obtain ⟨hh, rfl⟩ := rngU_get hu
   have OK := rawR.ok (now := here) (by omega) (by omega)
   have hs := fun T => service_ok size ms (sortI ms) ts.reverse (sort3 ts.reverse) here OK (.v (.lst (ms.map D.int))) (.v (.lst (ts.reverse.map stD))) T rfl rfl
   have hp := fun T => pattern_ok size ms (sortI ms) ts.reverse (sort3 ts.reverse) here OK (.v (.lst (ms.map D.int))) (.v (.lst (ts.reverse.map stD))) T rfl rfl
   rw [eS, eM] at hs hp
   have rest : ∀ (c n : Nat) (T : Sto) (x9 x10 x11 : Option U), IsM T (.r n) c size ms (sort3 ts) here → ∀ Q : Post, (∀ x9 x10 x11, Q.nx [some (.v (.frl (ns.map D.int))), some (.v (.lst (r0.map D.int))), some (.v (.int size)), some (.v (.lst (zs.map D.str))), some (.v (.lst (as.map D.str))), some (.v (.lst (ts.map stD))), some (.v (.lst (ms.map D.int))), some (.v (.int here)), some (.r n), x9, x10, x11, none] T) →
       ∀ m : MS, m = (sFor (iRng1 (aCons (eC (.int 2)) aNil)) (gName 9)
         (sSeq (sFor (iVal (eVar 3)) (gName 10)
         (sSeq (sAsg (eLcV [12] (iRng1 (aCons (eVar 2) aNil)) (gName 12) (tB (eOp (fInX false) (eCB fTup (aCons (eVar 7) (aCons (eVar 10) (aCons (eVar 12) aNil)))) (eVar 5))) (eVar 12)) (gName 11))
         (sIf (tNot (tB (eCall 3 f__law_item_holds [] (aCons (eVar 8) (aCons (eVar 10) (aCons (eVar 11) aNil))))))
         (sRet (eC (.bl false)))
         sNext)))
         (sIf (tOr (tB (eOp fNe (eCB (fBoolO [12, 13, 14, 17] f_Machineu_boolu) (aCons (eVar 8) aNil)) (eOp (fInX false) (eVar 7) (eVar 6)))) (tOr (tB (eOp fNe (eProp [12, 13, 14, 17] f_Machine_now (eVar 8)) (eVar 7))) (tNot (tB (eCB (fIsX isT_Machine) (aCons (eVar 8) (aCons (eC (.cls 12)) aNil)))))))
         (sRet (eC (.bl false)))
         sNext))) →
       wps (m [some (.v (.frl (ns.map D.int))), some (.v (.lst (r0.map D.int))), some (.v (.int size)), some (.v (.lst (zs.map D.str))), some (.v (.lst (as.map D.str))), some (.v (.lst (ts.map stD))), some (.v (.lst (ms.map D.int))), some (.v (.int here)), some (.r n), x9, x10, x11, none] T) Q := by
     rintro c n T x9 x10 x11 hm Q hQ m rfl
     have ht : isT_Machine c 12 = some true := by rcases hm.2 with rfl | rfl | rfl | rfl <;> rfl
     simp
     refine for_inv (fun i ρ T' => T = T' ∧ ∃ x9 x10 x11, ρ = [some (.v (.frl (ns.map D.int))), some (.v (.lst (r0.map D.int))), some (.v (.int size)), some (.v (.lst (zs.map D.str))), some (.v (.lst (as.map D.str))), some (.v (.lst (ts.map stD))), some (.v (.lst (ms.map D.int))), some (.v (.int here)), some (.r n), x9, x10, x11, none]) ⟨rfl, x9, x10, x11, rfl⟩ ?_ ?_
     · rintro turn u ρ T' hu ⟨rfl, x9, x10, x11, rfl⟩
       simp
       refine for_inv (fun i ρ T' => T = T' ∧ ∃ x10 x11, ρ = [some (.v (.frl (ns.map D.int))), some (.v (.lst (r0.map D.int))), some (.v (.int size)), some (.v (.lst (zs.map D.str))), some (.v (.lst (as.map D.str))), some (.v (.lst (ts.map stD))), some (.v (.lst (ms.map D.int))), some (.v (.int here)), some (.r n), some u, x10, x11, none]) ⟨rfl, x10, x11, rfl⟩ ?_ ?_
       · rintro i w ρ T' hw ⟨rfl, x10, x11, rfl⟩
         obtain ⟨a, ha, rfl, _⟩ := data_get2 hw
         simp
         refine w_lcV (ds := (List.range size).map fun (i : Nat) => D.int i) (src := none) (S1 := T) (fun d => match d with | .int e => decide (((here : Int), a, e) ∈ ts) | _ => false) (fun d => d) ?_ ?_ nofun ?_ ?_
         · simp [rngU_map, Function.comp_def]; omega
         · simp; omega
         · intro d hd acc
           obtain ⟨e, he, rfl⟩ := List.mem_map.mp hd
           simp [wipeE]
           rw [show D.tup [D.int here, D.str a, D.int e] = stD ((here : Int), a, (e : Int)) from rfl, in_steps false _ _ ts rfl]
           simp
         · have e : (((List.range size).map fun (i : Nat) => D.int i).filter fun d => match d with | .int e => decide (((here : Int), a, e) ∈ ts) | _ => false).map (fun d => d) = (due size ts here a).map D.int := by
             unfold due
             rw [List.filter_map, List.map_map, List.map_map]
             rfl
           rw [e]
           have hi := item_holds_ok hm a (due size ts here a) (by omega)
           rw [hdue here a] at hi
           simp [hi]
       · rintro ρ T' ⟨rfl, x10, x11, rfl⟩
         simp [-isIns_r, v_boolO _ _ _ (bool_ok hm), hm.at, hm.2, in_ints false (here : Int) (.v (.lst (ms.map D.int))) ms rfl, now_x hm, v_isX, ht]
     · rintro ρ T' ⟨rfl, x9, x10, x11, rfl⟩
       exact hQ x9 x10 x11
   have hsv := hs T
   have hpv := hp (T ++ [.ins 13 (uFs (mRec size ms (sort3 ts) here))])
   simp only [List.map_reverse] at hsv hpv
   simp only [List.length_append, List.length_cons, List.length_nil, Nat.zero_add, List.append_assoc, List.cons_append, List.nil_append] at hpv
   simp [-s_for, I0, hsv, hpv]
   split
   · refine rest 14 (T.length + 1) _ _ _ _ (isM_r (by simp) (by simp)) _ ?_ _ rfl
     intro x9 x10 x11
     simp
   · refine rest 13 T.length _ _ _ _ (isM_r (by simp) (by simp)) _ ?_ _ rfl
     intro x9 x10 x11
     simp
 · rintro ρ T ⟨x7, x8, x9, x10, x11, rfl⟩
   simp [fin_nil]
end K02
namespace K14
open PySem Pu L2 Mi
noncomputable def mS6 : MS := (sAsg (eOp (fI gMod) (eCB fInt (aCons (eOp fAdd (eOp (fI gMul) (eOp fIxX (eVar 1) (eC (.int 19))) (eC (.int 64))) (eOp fIxX (eVar 1) (eC (.int 20)))) aNil)) (eVar 7)) (gName 5))
noncomputable def mS7 : MS := (sIf (tB (eOp (fInX false) (eC (.int 3)) (eVar 4)))
 (sAsg (eCall 3 f__law_put_in [] (aCons (eVar 8) (aCons (eOp fIxX (eCB fLstV (aCons (eUn fNeg (eC (.int 1))) (aCons (eVar 7) (aCons (eOp fAdd (eVar 7) (eCB fInt (aCons (eOp fIxX (eVar 1) (eC (.int 21))) aNil))) aNil)))) (eOp (fI gMod) (eCB fInt (aCons (eOp fIxX (eVar 1) (eC (.int 22))) aNil)) (eC (.int 3)))) (aCons (eOp fIxX (eVar 1) (eC (.int 23))) aNil)))) (gName 8))
 sNext)
noncomputable def mS8 : MS := (sIf (tB (eOp (fInX false) (eC (.int 5)) (eVar 4)))
 (sAsg (eCall 3 f__law_put_in [] (aCons (eVar 9) (aCons (eCB fTup (aCons (eC (.int 7)) (aCons (eOp fIxX (eVar 2) (eC (.int 0))) (aCons (eOp (fI gMod) (eCB fInt (aCons (eOp fAdd (eC (.int 22)) (eOp fIxX (eVar 1) (eC (.int 0)))) aNil)) (eC (.int 200))) aNil)))) (aCons (eOp fIxX (eVar 1) (eC (.int 21))) aNil)))) (gName 9))
 sNext)
noncomputable def mS9 : MS := (sIf (tB (eOp (fInX false) (eC (.int 4)) (eVar 4)))
 (sAsg (eCall 3 f__law_put_in [] (aCons (eVar 9) (aCons (eCall 3 f__law_bad_step [] (aCons (eCall 3 f__law_draws [] (aCons (eVar 0) (aCons (eC (.int 2)) (aCons (eC (.int 8)) aNil)))) (aCons (eVar 7) (aCons (eOp fIxX (eVar 2) (eC (.int 0))) aNil)))) (aCons (eOp fIxX (eVar 1) (eC (.int 22))) aNil)))) (gName 9))
 sNext)
noncomputable def mS10 : MS := (sIf (tB (eOp (fInX false) (eC (.int 6)) (eVar 4)))
 (sAsg (eOp fIxX (eCB fLstV (aCons (eUn fNeg (eC (.int 1))) (aCons (eVar 7) (aCons (eOp fAdd (eVar 7) (eCB fInt (aCons (eOp fIxX (eVar 1) (eC (.int 21))) aNil))) aNil)))) (eOp (fI gMod) (eCB fInt (aCons (eOp fIxX (eVar 1) (eC (.int 23))) aNil)) (eC (.int 3)))) (gName 5))
 sNext)
noncomputable def mS11 : MS := (sIf (tB (eOp (fInX false) (eC (.int 2)) (eVar 4)))
 (sAsg (eOp fAdd (eC (.int 201)) (eCB fInt (aCons (eOp fAdd (eOp (fI gMul) (eOp fIxX (eVar 1) (eC (.int 10))) (eC (.int 64))) (eOp fIxX (eVar 1) (eC (.int 11)))) aNil))) (gName 7))
 sNext)
noncomputable def mS12 : MS := (sIf (tB (eOp (fInX false) (eC (.int 1)) (eVar 4)))
 (sAsg (eUn fNeg (eOp (fI gMod) (eCB fInt (aCons (eOp fIxX (eVar 1) (eC (.int 10))) aNil)) (eC (.int 3)))) (gName 7))
 sNext)
noncomputable def mE13 : MS := (sSeq (sAsg (eCall 3 f__law_due_7 [] (aCons (eVar 4) (aCons (eVar 7) (aCons (eVar 5) aNil)))) (gName 6))
 (sRet (eAnd (eOp fEqB (eCall 5 f__law_made_4 [] (aCons (eC (.int 0)) (aCons (eVar 7) (aCons (eVar 8) (aCons (eVar 9) (aCons (eVar 5) aNil)))))) (eVar 6)) (eOp fEqB (eCall 5 f__law_made_4 [] (aCons (eC (.int 1)) (aCons (eVar 7) (aCons (eVar 8) (aCons (eVar 9) (aCons (eVar 5) aNil)))))) (eVar 6)))))
noncomputable def mE6 : MS := (sSeq mS6
 (sSeq mS7
 (sSeq mS8
 (sSeq mS9
 (sSeq mS10
 (sSeq mS11
 (sSeq mS12
 mE13)))))))
theorem law_eq : m_law_37 = (sSeq (sAsg (eCall 3 f__law_draws [] (aCons (eVar 0) (aCons (eC (.int 0)) (aCons (eC (.int 24)) aNil)))) (gName 1))
 (sSeq (sAsg (eCall 2 f__law_asks [] (aCons (eCall 3 f__law_draws [] (aCons (eVar 0) (aCons (eC (.int 1)) (aCons (eC (.int 13)) aNil)))) (aCons (eC (.int 3)) aNil))) (gName 2))
 (sSeq (sAsg (eCall 2 f__law_parts [] (aCons (eVar 1) (aCons (eVar 2) aNil))) (gTup 3 (gCons (gName 7) (gCons (gName 8) (gCons (gName 9) gNil)))))
 (sSeq (sAsg (eCB fLstV (aCons (eC (.int 0)) (aCons (eC (.int 1)) (aCons (eC (.int 2)) (aCons (eC (.int 3)) (aCons (eC (.int 4)) (aCons (eC (.int 6)) (aCons (eC (.int 0)) aNil)))))))) (gName 3))
 (sSeq (sAsg (eCB fLstV (aCons (eOp fIxX (eVar 3) (eOp (fI gMod) (eCB fInt (aCons (eOp fIxX (eVar 1) (eC (.int 16))) aNil)) (eC (.int 7)))) (aCons (eOp fIxX (eVar 3) (eOp (fI gMod) (eCB fInt (aCons (eOp fIxX (eVar 1) (eC (.int 17))) aNil)) (eC (.int 7)))) aNil))) (gName 4))
 (sSeq (sIf (tB (eOp fEq (eOp (fI gMod) (eCB fInt (aCons (eOp fIxX (eVar 1) (eC (.int 18))) aNil)) (eC (.int 8))) (eC (.int 0))))
 (sSeq (sAsg (eC (.int 200)) (gName 7))
 (sSeq (sAsg (eCall 2 f__law_large [] (aCons (eVar 1) (aCons (eVar 2) aNil))) (gName 9))
 (sAsg (eCB fLstV (aCons (eOp fIxX (eCB fLstV (aCons (eC (.int 0)) (aCons (eC (.int 5)) (aCons (eC (.int 4)) (aCons (eC (.int 6)) aNil))))) (eOp (fI gMod) (eCB fInt (aCons (eOp fIxX (eVar 1) (eC (.int 16))) aNil)) (eC (.int 4)))) (aCons (eOp fIxX (eCB fLstV (aCons (eC (.int 0)) (aCons (eC (.int 5)) (aCons (eC (.int 6)) (aCons (eC (.int 0)) aNil))))) (eOp (fI gMod) (eCB fInt (aCons (eOp fIxX (eVar 1) (eC (.int 17))) aNil)) (eC (.int 4)))) aNil))) (gName 4))))
 sNext)
 mE6)))))) := rfl
section
variable {S : Sto}
theorem nx_of {m : MS} {ρ ρ' : Env'} (h : wps (m ρ S) { nx := fun ρ1 T => ρ1 = ρ' ∧ T = S }) : m ρ S = .nx ρ' S := by
 cases e : m ρ S with
 | nx ρ1 T => rw [e] at h; obtain ⟨rfl, rfl⟩ := h; rfl
 | _ => rw [e] at h; exact h.elim
theorem seq_nx {a b : MS} {ρ ρ' : Env'} {Q : Post} (h : a ρ S = .nx ρ' S) : wps (sSeq a b ρ S) Q = wps (b ρ' S) Q := by
 rw [s_seq, h]; rfl
def env (x0 : Option U) (row : List Int) (zs : List Str) (x3 : Option U) (F : List Int) (x5 : Option U) (size : Int) (ms : List Int) (ts : List St3) : Env' :=
 [x0, some (.v (.lst (row.map D.int))), some (.v (.lst (zs.map D.str))), x3, some (.v (.lst (F.map D.int))), x5, none, some (.v (.int size)), some (.v (.lst (ms.map D.int))), some (.v (.lst (ts.map stD)))]
variable {x0 x3 x5 : Option U} {row : List Int} {zs : List Str} {F : List Int} {size : Int} {ms : List Int} {ts : List St3} {here : Int}
theorem f_in (F : List Int) (k : Int) (q : U → Sto → Prop) : wpO (fInX false (.v (.int k)) (.v (.lst (F.map D.int))) S) q = q (.v (.bl (decide (k ∈ F)))) S := by
 rw [q2u false (ds := F.map D.int) rfl rfl (fun x hx => by obtain ⟨y, _, rfl⟩ := List.mem_map.mp hx; rfl) (by simp)]
 have : (D.int k ∈ F.map D.int) ↔ k ∈ F := by simp
 simp [this]
theorem row_at (hr : row.length = 24) (i : Nat) (hi : i < 24) (q : U → Sto → Prop) : wpO (fIxX (.v (.lst (row.map D.int))) (.v (.int (i : Nat))) S) q = q (.v (.int (rg row i))) S := by
 rw [v_ixL, at_intI row i (by omega) (by omega)]; rfl
theorem rg_bd (hr : row.length = 24) (hb : ∀ x ∈ row, 0 ≤ x ∧ x < 64) (i : Nat) (hi : i < 24) : 0 ≤ rg row i ∧ rg row i < 64 := by
 unfold rg
 rw [List.getD_eq_getElem?_getD, List.getElem?_eq_getElem (by omega)]
 exact hb _ (List.getElem_mem _)
theorem s6_ok (hr : row.length = 24) (h1 : 1 ≤ size) : ∃ here, MkS size here ∧ mS6 (env x0 row zs x3 F x5 size ms ts) S = .nx (env x0 row zs x3 F (some (.v (.int here))) size ms ts) S := by
 refine ⟨(rg row 19 * 64 + rg row 20) % size, ⟨Int.emod_nonneg _ (by omega), Int.emod_lt_of_pos _ (by omega)⟩, nx_of ?_⟩
 have I19 : ∀ q : U → Sto → Prop, wpO (fIxX (.v (.lst (row.map D.int))) (.v (.int 19)) S) q = q (.v (.int (rg row 19))) S := row_at hr 19 (by omega)
 have I20 : ∀ q : U → Sto → Prop, wpO (fIxX (.v (.lst (row.map D.int))) (.v (.int 20)) S) q = q (.v (.int (rg row 20))) S := row_at hr 20 (by omega)
 have hne : size ≠ 0 := by omega
 simp [-v_ixL, mS6, env, I19, I20, hne]
 omega
theorem pick3 (x : Int) (size r : Int) (h0 : 0 ≤ r) (h1 : 1 ≤ size) : ∃ w : Int, (∀ q : D → Prop, wpo (atI [D.int (-1), .int size, .int (size + r)] (x % 3)) q = q (.int w)) ∧ ¬ MkS size w := by
 have h4 : x % 3 = 0 ∨ x % 3 = 1 ∨ x % 3 = 2 := by omega
 rcases h4 with h | h | h <;> rw [h]
 · exact ⟨-1, fun q => rfl, by unfold MkS; omega⟩
 · exact ⟨size, fun q => rfl, by unfold MkS; omega⟩
 · exact ⟨size + r, fun q => rfl, by unfold MkS; omega⟩
theorem s7_ok (hr : row.length = 24) (hb : ∀ x ∈ row, 0 ≤ x ∧ x < 64) (h1 : 1 ≤ size) (hml : ms.length ≤ 1000) : ∃ ms' : List Int, ms'.length ≤ ms.length + 1 ∧ (3 ∈ F → ∃ m ∈ ms', ¬ MkS size m) ∧ (3 ∉ F → ms' = ms) ∧ mS7 (env x0 row zs x3 F x5 size ms ts) S = .nx (env x0 row zs x3 F x5 size ms' ts) S := by
 by_cases c : 3 ∈ F
 · obtain ⟨w, hw, hbad⟩ := pick3 (rg row 22) size (rg row 21) (rg_bd hr hb 21 (by omega)).1 h1
   obtain ⟨n, hn, hp⟩ := put_in_ok (ms.map D.int) (.int w) (rg row 23) (by simp; omega) S
   refine ⟨ms.take n ++ [w] ++ ms.drop n, by simp; omega, fun _ => ⟨w, by simp, hbad⟩, fun h => absurd c h, nx_of ?_⟩
   have I21 : ∀ q : U → Sto → Prop, wpO (fIxX (.v (.lst (row.map D.int))) (.v (.int 21)) S) q = q (.v (.int (rg row 21))) S := row_at hr 21 (by omega)
   have I22 : ∀ q : U → Sto → Prop, wpO (fIxX (.v (.lst (row.map D.int))) (.v (.int 22)) S) q = q (.v (.int (rg row 22))) S := row_at hr 22 (by omega)
   have I23 : ∀ q : U → Sto → Prop, wpO (fIxX (.v (.lst (row.map D.int))) (.v (.int 23)) S) q = q (.v (.int (rg row 23))) S := row_at hr 23 (by omega)
   simp [-atI_map, -v_ixL, mS7, env, I21, I22, I23, f_in, c, allV]
   rw [v_ixL, hw]
   simp [-atI_map, -v_ixL, I23]
   simp [hp]
 · exact ⟨ms, by omega, fun h => absurd h c, fun _ => rfl, nx_of (by simp [mS7, env, f_in, c])⟩
theorem s8_ok (hr : row.length = 24) (hz : zs.length = 3) (htl : ts.length ≤ 1000) : ∃ ts' : List St3, ts'.length ≤ ts.length + 1 ∧ (5 ∈ F → ∀ s, s ∈ ts' ↔ (s = (7, sg zs 0, (22 + rg row 0) % 200) ∨ s ∈ ts)) ∧ (5 ∉ F → ts' = ts) ∧ mS8 (env x0 row zs x3 F x5 size ms ts) S = .nx (env x0 row zs x3 F x5 size ms ts') S := by
 by_cases c : 5 ∈ F
 · obtain ⟨n, hn, hp⟩ := put_in_ok (ts.map stD) (stD (7, sg zs 0, (22 + rg row 0) % 200)) (rg row 21) (by simp; omega) S
   refine ⟨ts.take n ++ [(7, sg zs 0, (22 + rg row 0) % 200)] ++ ts.drop n, by simp; omega, fun _ s => ?_, fun h => absurd c h, nx_of ?_⟩
   · have e : s ∈ ts ↔ s ∈ ts.take n ∨ s ∈ ts.drop n := by rw [← List.mem_append, List.take_append_drop]
     rw [e]
     simp only [List.mem_append, List.mem_singleton]
     constructor
     · rintro ((h | h) | h)
       · exact .inr (.inl h)
       · exact .inl h
       · exact .inr (.inr h)
     · rintro (h | h | h)
       · exact .inl (.inr h)
       · exact .inl (.inl h)
       · exact .inr h
   have I0 : ∀ q : U → Sto → Prop, wpO (fIxX (.v (.lst (row.map D.int))) (.v (.int 0)) S) q = q (.v (.int (rg row 0))) S := row_at hr 0 (by omega)
   have I21 : ∀ q : U → Sto → Prop, wpO (fIxX (.v (.lst (row.map D.int))) (.v (.int 21)) S) q = q (.v (.int (rg row 21))) S := row_at hr 21 (by omega)
   have hA0 : ∀ q : U → Sto → Prop, wpO (fIxX (.v (.lst (zs.map D.str))) (.v (.int 0)) S) q = q (.v (.str (sg zs 0))) S := fun q => by
     rw [v_ixL]
     exact at_str zs 0 (by omega) _
   have htp : ∀ (x : Int) (q : U → Sto → Prop), wpO (fTup [.v (.int 7), .v (.str (sg zs 0)), .v (.int x)] S) q = q (.v (stD (7, sg zs 0, x))) S := fun x q => by simp [stD, allV]
   simp [-atI_map, -v_ixL, -v_tup, mS8, env, I0, I21, f_in, c, hA0, htp]
   simp [hp]
 · exact ⟨ts, by omega, fun h => absurd h c, fun _ => rfl, nx_of (by simp [mS8, env, f_in, c])⟩
theorem s9_ok {ns : List Int} (hns : ns.length ≤ 63) (hr : row.length = 24) (hz : zs.length = 3) (hk : ∀ z ∈ zs, AskS z) (h1 : 1 ≤ size) (htl : ts.length ≤ 1000) : ∃ ts' : List St3, ts'.length ≤ ts.length + 1 ∧ (4 ∈ F → ∃ s ∈ ts', ¬ StS size s) ∧ (∀ s ∈ ts', s ∈ ts ∨ s.2.1.length ≤ 1000) ∧ (4 ∉ F → ts' = ts) ∧ mS9 (env (some (.v (.frl (ns.map D.int)))) row zs x3 F x5 size ms ts) S = .nx (env (some (.v (.frl (ns.map D.int)))) row zs x3 F x5 size ms ts') S := by
 by_cases c : 4 ∈ F
 · have D2 := draws_i ns 2 8 (by omega) (by omega) (by omega) S
   obtain ⟨r2, hr2⟩ : ∃ r, r = rowN ns 2 8 := ⟨_, rfl⟩
   have l2 : r2.length = 8 := by rw [hr2]; simp
   have b2 : ∀ x ∈ r2, 0 ≤ x := fun x hx => (rowN_bd ns 2 8 x (by rw [← hr2]; exact hx)).1
   simp only [Int.reduceToNat, ← hr2] at D2
   have hz0 : sg zs 0 ∈ zs := by rw [sg_get (by omega)]; exact List.getElem_mem (by omega)
   obtain ⟨b, hbs, hbad, hbl⟩ := bad_step_ok r2 (by omega) b2 size h1 (sg zs 0) (hk _ hz0) S
   obtain ⟨n, hn, hp⟩ := put_in_ok (ts.map stD) (stD b) (rg row 22) (by simp; omega) S
   refine ⟨ts.take n ++ [b] ++ ts.drop n, by simp; omega, fun _ => ⟨b, by simp, hbad⟩, fun s hs => ?_, fun h => absurd c h, nx_of ?_⟩
   · simp only [List.mem_append, List.mem_singleton] at hs
     rcases hs with (h | h) | h
     · exact .inl (List.mem_of_mem_take h)
     · subst h; exact .inr hbl
     · exact .inl (List.mem_of_mem_drop h)
   have I22 : ∀ q : U → Sto → Prop, wpO (fIxX (.v (.lst (row.map D.int))) (.v (.int 22)) S) q = q (.v (.int (rg row 22))) S := row_at hr 22 (by omega)
   have hA0 : ∀ q : U → Sto → Prop, wpO (fIxX (.v (.lst (zs.map D.str))) (.v (.int 0)) S) q = q (.v (.str (sg zs 0))) S := fun q => by
     rw [v_ixL]
     exact at_str zs 0 (by omega) _
   simp [-atI_map, -v_ixL, mS9, env, I22, f_in, c, hA0, D2, hbs]
   simp [hp]
 · exact ⟨ts, by omega, fun h => absurd h c, fun s h => .inl h, fun _ => rfl, nx_of (by simp [mS9, env, f_in, c])⟩
theorem s10_ok (hr : row.length = 24) (hb : ∀ x ∈ row, 0 ≤ x ∧ x < 64) (h1 : 1 ≤ size) : ∃ here' : Int, (6 ∈ F → ¬ MkS size here') ∧ (6 ∉ F → here' = here) ∧ mS10 (env x0 row zs x3 F (some (.v (.int here))) size ms ts) S = .nx (env x0 row zs x3 F (some (.v (.int here'))) size ms ts) S := by
 by_cases c : 6 ∈ F
 · obtain ⟨w, hw, hbad⟩ := pick3 (rg row 23) size (rg row 21) (rg_bd hr hb 21 (by omega)).1 h1
   refine ⟨w, fun _ => hbad, fun h => absurd c h, nx_of ?_⟩
   have I21 : ∀ q : U → Sto → Prop, wpO (fIxX (.v (.lst (row.map D.int))) (.v (.int 21)) S) q = q (.v (.int (rg row 21))) S := row_at hr 21 (by omega)
   have I23 : ∀ q : U → Sto → Prop, wpO (fIxX (.v (.lst (row.map D.int))) (.v (.int 23)) S) q = q (.v (.int (rg row 23))) S := row_at hr 23 (by omega)
   simp [-atI_map, -v_ixL, mS10, env, I21, I23, f_in, c, allV]
   rw [v_ixL, hw]
   simp
 · exact ⟨here, fun h => absurd h c, fun _ => rfl, nx_of (by simp [mS10, env, f_in, c])⟩
theorem s11_ok (hr : row.length = 24) (hb : ∀ x ∈ row, 0 ≤ x ∧ x < 64) : ∃ size' : Int, (2 ∈ F → 200 < size') ∧ (2 ∉ F → size' = size) ∧ mS11 (env x0 row zs x3 F x5 size ms ts) S = .nx (env x0 row zs x3 F x5 size' ms ts) S := by
 by_cases c : 2 ∈ F
 · have b1 := (rg_bd hr hb 10 (by omega)).1
   have b2 := (rg_bd hr hb 11 (by omega)).1
   refine ⟨201 + (rg row 10 * 64 + rg row 11), fun _ => by omega, fun h => absurd c h, nx_of ?_⟩
   have I10 : ∀ q : U → Sto → Prop, wpO (fIxX (.v (.lst (row.map D.int))) (.v (.int 10)) S) q = q (.v (.int (rg row 10))) S := row_at hr 10 (by omega)
   have I11 : ∀ q : U → Sto → Prop, wpO (fIxX (.v (.lst (row.map D.int))) (.v (.int 11)) S) q = q (.v (.int (rg row 11))) S := row_at hr 11 (by omega)
   simp [-atI_map, -v_ixL, mS11, env, I10, I11, f_in, c]
 · exact ⟨size, fun h => absurd h c, fun _ => rfl, nx_of (by simp [mS11, env, f_in, c])⟩
theorem s12_ok (hr : row.length = 24) (hb : ∀ x ∈ row, 0 ≤ x ∧ x < 64) : ∃ size' : Int, (1 ∈ F → size' < 1) ∧ (1 ∉ F → size' = size) ∧ mS12 (env x0 row zs x3 F x5 size ms ts) S = .nx (env x0 row zs x3 F x5 size' ms ts) S := by
 by_cases c : 1 ∈ F
 · refine ⟨-(rg row 10 % 3), fun _ => by omega, fun h => absurd c h, nx_of ?_⟩
   have I10 : ∀ q : U → Sto → Prop, wpO (fIxX (.v (.lst (row.map D.int))) (.v (.int 10)) S) q = q (.v (.int (rg row 10))) S := row_at hr 10 (by omega)
   simp [-atI_map, -v_ixL, mS12, env, I10, f_in, c]
 · exact ⟨size, fun h => absurd h c, fun _ => rfl, nx_of (by simp [mS12, env, f_in, c])⟩
open Classical in
theorem e13_ok (row' : List Int) (h0 : OkParts size ms (sortI ms) ts (sort3 ts) here → ∀ k, 1 ≤ k → k ≤ 6 → k ∉ F) (h1 : ∀ c fs, FltM size ms ts here c fs → (if 1 ∈ F then .tup [.str "machine", .bl true, .str "size"] else if 2 ∈ F then .tup [.str "large", .bl true, .int size] else if 3 ∈ F then .tup [.str "machine", .bl true, .str "mark"] else if 4 ∈ F then .tup [.str "machine", .bl true, .str "step"] else if 5 ∈ F then .tup [.str "large", .bl true, .int 601] else if 6 ∈ F then .tup [.str "state", .bl true, .int here] else .tup [.str "built", .bl true, .int size] : D) = outD c fs)
   (hml : ms.length ≤ 2000) (htl : ts.length ≤ 2000) (hz : ∀ s ∈ ts, s.2.1.length ≤ 100000) (hF : F.length ≤ 10) {Q : Post} (hQ : Q.rt (.v (.bl true)) S) : wps (mE13 (env x0 row zs x3 F (some (.v (.int here))) size ms ts) S) Q := by
 have hd := due_ok F hF size here S
 generalize hdue : (if 1 ∈ F then .tup [.str "machine", .bl true, .str "size"] else if 2 ∈ F then .tup [.str "large", .bl true, .int size] else if 3 ∈ F then .tup [.str "machine", .bl true, .str "mark"] else if 4 ∈ F then .tup [.str "machine", .bl true, .str "step"] else if 5 ∈ F then .tup [.str "large", .bl true, .int 601] else if 6 ∈ F then .tup [.str "state", .bl true, .int here] else .tup [.str "built", .bl true, .int size] : D) = due at hd h1
 have hb : OkParts size ms (sortI ms) ts (sort3 ts) here → due = builtD size := fun g => by
   have h := h0 g
   rw [← hdue, if_neg (h 1 (by omega) (by omega)), if_neg (h 2 (by omega) (by omega)), if_neg (h 3 (by omega) (by omega)), if_neg (h 4 (by omega) (by omega)), if_neg (h 5 (by omega) (by omega)), if_neg (h 6 (by omega) (by omega))]
   rfl
 have m0 := madeF_ok 0 size ms ts here due S hml htl hz hb h1
 have m1 := madeF_ok 1 size ms ts here due S hml htl hz hb h1
 have hlk : isDatB due = true ∧ likeB due due = true := by
   rw [← hdue]
   repeat' split
   all_goals exact ⟨by simp [isDatB, datB], by simp [likeB, likesB]⟩
 have heq : ∀ q : U → Sto → Prop, wpO (fEqB (.v due) (.v due) S) q = q (.v (.bl true)) S := fun q => by
   rw [v_eqDB rfl rfl hlk.1 hlk.1 hlk.2]; simp
 simp [mE13, env, hd, m0, m1, heq]
 exact hQ
theorem e6_ok {ns : List Int} (hns : ns.length ≤ 63) (hr : row.length = 24) (hb : ∀ x ∈ row, 0 ≤ x ∧ x < 64) (hz : zs.length = 3) (hk : ∀ z ∈ zs, AskS z) (s1 : 1 ≤ size) (s2 : size ≤ 200) (hms : ∀ m ∈ ms, MkS size m) (hts : ∀ s ∈ ts, StS size s) (hml : ms.length ≤ 900) (htl : ts.length ≤ 900) (hF : F.length ≤ 10)
   (h5 : 5 ∈ F → size = 200 ∧ ∀ l : List St3, (∀ s, s ∈ l ↔ (s = (7, sg zs 0, (22 + rg row 0) % 200) ∨ s ∈ ts)) → (sort3 l).length = 601) (h5n : (sort3 ts).length ≤ 600) {Q : Post} (hQ : Q.rt (.v (.bl true)) S) :
   wps (mE6 (env (some (.v (.frl (ns.map D.int)))) row zs x3 F x5 size ms ts) S) Q := by
 obtain ⟨here, hh, e6⟩ := s6_ok (S := S) (x0 := some (.v (.frl (ns.map D.int)))) (zs := zs) (x3 := x3) (F := F) (x5 := x5) (ms := ms) (ts := ts) hr s1
 obtain ⟨ms1, l7, y7, n7, e7⟩ := s7_ok (S := S) (x0 := some (.v (.frl (ns.map D.int)))) (zs := zs) (x3 := x3) (F := F) (x5 := some (.v (.int here))) (ms := ms) (ts := ts) hr hb s1 (by omega)
 obtain ⟨ts1, l8, y8, n8, e8⟩ := s8_ok (S := S) (x0 := some (.v (.frl (ns.map D.int)))) (zs := zs) (x3 := x3) (F := F) (x5 := some (.v (.int here))) (size := size) (ms := ms1) (ts := ts) hr hz (by omega)
 obtain ⟨ts2, l9, y9, m9, n9, e9⟩ := s9_ok (S := S) (x3 := x3) (F := F) (x5 := some (.v (.int here))) (size := size) (ms := ms1) (ts := ts1) hns hr hz hk s1 (by omega)
 obtain ⟨here1, y10, n10, e10⟩ := s10_ok (S := S) (x0 := some (.v (.frl (ns.map D.int)))) (zs := zs) (x3 := x3) (F := F) (here := here) (ms := ms1) (ts := ts2) hr hb s1
 obtain ⟨size1, y11, n11, e11⟩ := s11_ok (S := S) (x0 := some (.v (.frl (ns.map D.int)))) (zs := zs) (x3 := x3) (F := F) (x5 := some (.v (.int here1))) (size := size) (ms := ms1) (ts := ts2) hr hb
 obtain ⟨size2, y12, n12, e12⟩ := s12_ok (S := S) (x0 := some (.v (.frl (ns.map D.int)))) (zs := zs) (x3 := x3) (F := F) (x5 := some (.v (.int here1))) (size := size1) (ms := ms1) (ts := ts2) hr hb
 unfold mE6
 rw [seq_nx e6, seq_nx e7, seq_nx e8, seq_nx e9, seq_nx e10, seq_nx e11, seq_nx e12]
 have hb3 := rg_bd hr hb 0 (by omega)
 have hz0 : sg zs 0 ∈ zs := by rw [sg_get (by omega)]; exact List.getElem_mem (by omega)
 have good1 : ∀ s ∈ ts1, StS size s := fun s hs => by
   by_cases c : 5 ∈ F
   · rcases (y8 c s).mp hs with rfl | h
     · have e := (h5 c).1
       exact ⟨by simp, by show (7 : Int) < size; omega, by show (0 : Int) ≤ (22 + rg row 0) % 200; omega, by show (22 + rg row 0) % 200 < size; omega, hk _ hz0⟩
     · exact hts s h
   · rw [n8 c] at hs
     exact hts s hs
 have cnt1 : 5 ∈ F → (sort3 ts1).length = 601 := fun c => (h5 c).2 ts1 (y8 c)
 have askl : ∀ s ∈ ts2, s.2.1.length ≤ 100000 := fun s hs => by
   rcases m9 s hs with h | h
   · have := (good1 s h).2.2.2.2.2.1; omega
   · omega
 refine e13_ok row (fun g => ?_) (fun c fs h => ?_) (by omega) (by omega) askl hF hQ
 · have c1 : 1 ∉ F := fun c => by have := y12 c; have := g.s1; omega
   have q1 := n12 c1
   subst q1
   have c2 : 2 ∉ F := fun c => by have := y11 c; have := g.s2; omega
   have q2 := n11 c2
   subst q2
   have c3 : 3 ∉ F := fun c => by obtain ⟨m, hm, hx⟩ := y7 c; exact hx (g.m0 m hm)
   have c4 : 4 ∉ F := fun c => by obtain ⟨m, hm, hx⟩ := y9 c; exact hx (g.t0 m hm)
   have q4 := n9 c4
   subst q4
   have c5 : 5 ∉ F := fun c => by have := cnt1 c; have := g.t6; omega
   have c6 : 6 ∉ F := fun c => y10 c ⟨g.n0, g.n1⟩
   intro k k1 k6
   have : k = 1 ∨ k = 2 ∨ k = 3 ∨ k = 4 ∨ k = 5 ∨ k = 6 := by omega
   rcases this with rfl | rfl | rfl | rfl | rfl | rfl <;> assumption
 · by_cases c1 : 1 ∈ F
   · have q := y12 c1
     rw [if_pos c1]
     cases h with
     | p h => cases h with
       | s1 => rfl
       | s2 => omega
       | mk => omega
       | st => omega
     | l => omega
     | n => omega
   rw [if_neg c1]
   have q1 := n12 c1
   subst q1
   by_cases c2 : 2 ∈ F
   · have q := y11 c2
     rw [if_pos c2]
     cases h with
     | p h => cases h with
       | s1 => omega
       | s2 => rfl
       | mk => omega
       | st => omega
     | l => omega
     | n => omega
   rw [if_neg c2]
   have q2 := n11 c2
   subst q2
   by_cases c3 : 3 ∈ F
   · obtain ⟨m, hm, hx⟩ := y7 c3
     rw [if_pos c3]
     cases h with
     | p h => cases h with
       | s1 => omega
       | s2 => omega
       | mk => rfl
       | st _ _ h => exact absurd (h m hm) hx
     | l _ _ h => exact absurd (h m hm) hx
     | n _ _ h => exact absurd (h m hm) hx
   rw [if_neg c3]
   have q3 := n7 c3
   subst q3
   by_cases c4 : 4 ∈ F
   · obtain ⟨m, hm, hx⟩ := y9 c4
     rw [if_pos c4]
     cases h with
     | p h => cases h with
       | s1 => omega
       | s2 => omega
       | mk _ _ h => obtain ⟨m, h1, h2⟩ := h; exact absurd (hms m h1) h2
       | st => rfl
     | l _ _ _ h => exact absurd (h m hm) hx
     | n _ _ _ h => exact absurd (h m hm) hx
   rw [if_neg c4]
   have q4 := n9 c4
   subst q4
   have nope : ∀ c fs, ¬ Flt size2 ms1 ts2 c fs := fun c fs h => by
     cases h with
     | s1 => omega
     | s2 => omega
     | mk _ _ h => obtain ⟨m, h1, h2⟩ := h; exact absurd (hms m h1) h2
     | st _ _ _ h => obtain ⟨m, h1, h2⟩ := h; exact absurd (good1 m h1) h2
   by_cases c5 : 5 ∈ F
   · have q := cnt1 c5
     rw [if_pos c5]
     cases h with
     | p h => exact absurd h (nope _ _)
     | l => rw [q]; rfl
     | n => omega
   rw [if_neg c5]
   have q5 := n8 c5
   subst q5
   by_cases c6 : 6 ∈ F
   · rw [if_pos c6]
     cases h with
     | p h => exact absurd h (nope _ _)
     | l => omega
     | n => rfl
   · have q6 := n10 c6
     subst q6
     cases h with
     | p h => exact absurd h (nope _ _)
     | l => omega
     | n _ _ _ _ _ h => exact absurd hh h
end
theorem pick7 (x : Int) : ∃ f : Int, (∀ q : D → Prop, wpo (atI [D.int 0, .int 1, .int 2, .int 3, .int 4, .int 6, .int 0] (x % 7)) q = q (.int f)) ∧ f ≠ 5 := by
 have h : x % 7 = 0 ∨ x % 7 = 1 ∨ x % 7 = 2 ∨ x % 7 = 3 ∨ x % 7 = 4 ∨ x % 7 = 5 ∨ x % 7 = 6 := by omega
 rcases h with h | h | h | h | h | h | h <;> rw [h]
 · exact ⟨0, fun q => rfl, by omega⟩
 · exact ⟨1, fun q => rfl, by omega⟩
 · exact ⟨2, fun q => rfl, by omega⟩
 · exact ⟨3, fun q => rfl, by omega⟩
 · exact ⟨4, fun q => rfl, by omega⟩
 · exact ⟨6, fun q => rfl, by omega⟩
 · exact ⟨0, fun q => rfl, by omega⟩
theorem pick4 (x a b c d : Int) : ∃ f : Int, (∀ q : D → Prop, wpo (atI [D.int a, .int b, .int c, .int d] (x % 4)) q = q (.int f)) := by
 have h : x % 4 = 0 ∨ x % 4 = 1 ∨ x % 4 = 2 ∨ x % 4 = 3 := by omega
 rcases h with h | h | h | h <;> rw [h]
 · exact ⟨a, fun q => rfl⟩
 · exact ⟨b, fun q => rfl⟩
 · exact ⟨c, fun q => rfl⟩
 · exact ⟨d, fun q => rfl⟩
theorem pure_law (ns : List Int) (hns : ns.length ≤ 63) : ∃ S', f_law_37 [.v (.frl (ns.map D.int))] [] = .ok (.v (.bl true)) S' := by
 suffices h : wpr (f_law_37 [.v (.frl (ns.map D.int))] []) (fun u _ => u = .v (.bl true)) (fun _ _ _ => False) by
   obtain ⟨u, S', e, rfl⟩ := wpr_iff.mp h
   exact ⟨S', e⟩
 unfold f_law_37
 rw [wp_runF, law_eq]
 have D0 := fun S => draws_i ns 0 24 (by omega) (by omega) (by omega) S
 have D1 := fun S => draws_i ns 1 13 (by omega) (by omega) (by omega) S
 obtain ⟨r0, hr0⟩ : ∃ r, r = rowN ns 0 24 := ⟨_, rfl⟩
 obtain ⟨r1, hr1⟩ : ∃ r, r = rowN ns 1 13 := ⟨_, rfl⟩
 have l0 : r0.length = 24 := by rw [hr0]; simp
 have l1 : r1.length = 13 := by rw [hr1]; simp
 have b0 : ∀ x ∈ r0, 0 ≤ x ∧ x < 64 := by rw [hr0]; exact rowN_bd ns 0 24
 simp only [Int.reduceToNat, ← hr0, ← hr1] at D0 D1
 clear hr0 hr1
 have hA := fun S => asks_i r1 l1 3 (by omega) (by omega) S
 simp only [Int.reduceToNat] at hA
 obtain ⟨zs, hzs⟩ : ∃ z, z = asksN r1 3 := ⟨_, rfl⟩
 have zl : zs.length = 3 := by rw [hzs]; simp [asksN]
 have zk : ∀ z ∈ zs, AskS z := by rw [hzs]; exact asksN_ask r1 l1 _
 have zn : zs.Nodup := by rw [hzs]; exact asksN_nd r1 l1 _ (by omega)
 rw [← hzs] at hA
 clear hzs
 have hP := fun S => parts_ok r0 zs l0 zl S
 have hL := fun S => large_ok r0 zs l0 (fun x hx => (b0 x hx).1) zl S
 obtain ⟨f1, hf1, nf1⟩ := pick7 (rg r0 16)
 obtain ⟨f2, hf2, nf2⟩ := pick7 (rg r0 17)
 obtain ⟨g1, hg1⟩ := pick4 (rg r0 16) 0 5 4 6
 obtain ⟨g2, hg2⟩ := pick4 (rg r0 17) 0 5 6 0
 have I16 : ∀ (S : Sto) (q : U → Sto → Prop), wpO (fIxX (.v (.lst (r0.map D.int))) (.v (.int 16)) S) q = q (.v (.int (rg r0 16))) S := fun S => row_at l0 16 (by omega)
 have I17 : ∀ (S : Sto) (q : U → Sto → Prop), wpO (fIxX (.v (.lst (r0.map D.int))) (.v (.int 17)) S) q = q (.v (.int (rg r0 17))) S := fun S => row_at l0 17 (by omega)
 have I18 : ∀ (S : Sto) (q : U → Sto → Prop), wpO (fIxX (.v (.lst (r0.map D.int))) (.v (.int 18)) S) q = q (.v (.int (rg r0 18))) S := fun S => row_at l0 18 (by omega)
 generalize hpost : (fun (u : U) (_ : Sto) => u = U.v (.bl true)) = post
 have hrt : ∀ S2 : Sto, wpr (fin [] (.v (.bl true)) S2) post (fun _ _ _ => False) := fun S2 => by
   rw [← hpost, K02.fin_nil]
   rfl
 obtain ⟨hm1, hm2⟩ := msP_ok r0
 obtain ⟨ht1, ht2⟩ := tsP_ok r0 zs zl zk
 obtain ⟨sz1, sz2⟩ := szP_bd r0
 have hl603 := larP_len r0 zs zl
 have hcnt : (sort3 (larP r0 zs)).length = 600 := by
   rw [sort3_cnt (larT_nd r0 zs zn 200) (fun t => larP_mem), larT_len, zl]
 have TA := fun x3 x5 => e6_ok (S := []) (row := r0) (zs := zs) (F := [f1, f2]) (size := szP r0) (ms := msP r0) (ts := tsP r0 zs) (x3 := x3) (x5 := x5) hns l0 b0 zl zk sz1 sz2 hm1 ht1 (by omega) (by omega) (by simp) (fun h => by simp at h; omega) (by have := sort3_len (tsP r0 zs); omega) (Q := { nx := fun _ S => wpr (fin [] (.v .non) S) post (fun _ _ _ => False), rt := fun u S => wpr (fin [] u S) post (fun _ _ _ => False), ex := fun c fs _ S => wpr (finX [] c fs S) post (fun _ _ _ => False) }) (hrt [])
 have TB := fun x3 x5 => e6_ok (S := []) (row := r0) (zs := zs) (F := [g1, g2]) (size := 200) (ms := msP r0) (ts := larP r0 zs) (x3 := x3) (x5 := x5) hns l0 b0 zl zk (by omega) (by omega) (fun m hm => ⟨(hm1 m hm).1, by have := (hm1 m hm).2; omega⟩) (larP_ok r0 zs zk) (by omega) (by omega) (by simp) (fun _ => ⟨rfl, fun l h => by
   have hnd : ((7, sg zs 0, (22 + rg r0 0) % 200) :: larT r0 zs 200 : List St3).Nodup := by
     rw [List.nodup_cons]
     refine ⟨fun hm => ?_, larT_nd r0 zs zn 200⟩
     obtain ⟨st, a, _, _, e⟩ := larT_mem.mp hm
     unfold larR at e
     simp at e
     omega
   rw [sort3_cnt hnd (fun t => by rw [h t, List.mem_cons, larP_mem]), List.length_cons, larT_len, zl]⟩) (by omega) (Q := { nx := fun _ S => wpr (fin [] (.v .non) S) post (fun _ _ _ => False), rt := fun u S => wpr (fin [] u S) post (fun _ _ _ => False), ex := fun c fs _ S => wpr (finX [] c fs S) post (fun _ _ _ => False) }) (hrt [])
 unfold env at TA TB
 generalize mE6 = M6 at TA TB
 by_cases c : rg r0 18 % 8 = 0
 · simp [-atI_map, -v_ixL, start0, D0, D1, hA, hP, hL, I16, I17, I18, c, allV]
   rw [v_ixL, hf1, v_ixL, hf2]
   simp only [allV, Option.map_some, wpo_some]
   rw [v_ixL, hg1, v_ixL, hg2]
   simp only [allV, Option.map_some, wpo_some]
   exact TB _ _
 · simp [-atI_map, -v_ixL, start0, D0, D1, hA, hP, hL, I16, I17, I18, c, allV]
   rw [v_ixL, hf1, v_ixL, hf2]
   simp only [allV, Option.map_some, wpo_some]
   exact TA _ _
end K14
namespace K14
open PySem PySem.Spec PyProof.Rows L2
end K14
open PySem PySem.W PySem.Calls PyProof.Rows
theorem PySem.Challenge.cw_askshanded_k14_machines_refused_holds : PySem.Challenge.rw_askshanded_k14_machines_refused.Holds := by
 w_on; o_law
 refine HandSHeadRun.head_any (r := OpenLaw.row PySem.Challenge.rw_askshanded_k14_machines_refused) (q := view (OpenLaw.row PySem.Challenge.rw_askshanded_k14_machines_refused).prog [37]) (H := K14.hk) (ob := K14.ob) (M := 20000) (loose := K14.LS) (d := HandSHeadRun.topDef (OpenLaw.row PySem.Challenge.rw_askshanded_k14_machines_refused).prog 37) (kwd := []) K14.ob_eq
   (by kernel_rfl) (fun s => by kernel_rfl) K14.run (by kernel_rfl) (by kernel_rfl) (by kernel_rfl) (by rfl) (by first | assumption | decide +kernel) (by decide +kernel) ⟨rfl, rfl, rfl, rfl, rfl, by decide +kernel⟩ ?hw ?hc
 case hw => w_witness2
 case hc =>
   refine Pu.law_end (l := PySem.Challenge.rw_askshanded_k14_machines_refused) (n := 63) (k := 8) (x := "_law_script") (cl := K14.cl) rfl (by decide) (by kernel_rfl) ⟨rfl, by decide, by decide⟩ K14.pure_law ?F
   intro w mg fa h Y G hmg0
   obtain ⟨K, KX, c⟩ := Y
   have hmg : mg ("law" : PySem.Str) = some (.ref fa) := by
     have e : (HandSHeadRun.topDef (OpenLaw.row PySem.Challenge.rw_askshanded_k14_machines_refused).prog 37).name = ("law" : PySem.Str) := by kernel_rfl
     rw [← e]
     exact hmg0
   have Gf := K14.facts KX G c
   have e := hmg.symm.trans Gf.g_law
   cases e
   obtain ⟨fd, Fd⟩ := Gf.q1s
   have b := L2.FunD.bindsA (ps := ["_law_script"]) Fd fun _ _ _ _ _ _ us hl => match us, hl with | [_], _ => rfl
   refine ⟨K, fd, KX, fun s v => b s [v] rfl, fun base => ?_⟩
   obtain ⟨fd2, Fd2, ok⟩ := K14.qa5 (w := w) (base := base) Gf
   have e2 := Pu.funD_same Fd Fd2
   subst e2
   exact ok
