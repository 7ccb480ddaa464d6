import PyProof.Rows.All
import Wide.All
import OpenK.AllK
import Wide.FinOn
import HandS.ForMost
import HandS.ForExc
import HandS.TupAny
import KE.KDictKeyed
import KE.DataCmp
import HandS.CallSlots
import HandS.Defaults
import HandS.IsInst
import HandS.Style
import HandS.RaiseMore
import KE.KDictWalk
import HandS.MakeKwOnly
import HandS.Star
import HandS.More
import HandS.WordsExc
import HandS.Ends
import HandS.HeadEnd
import KE.KSuper
import HandS.ClsMeth
import KE.DataAny
import HandS.Property
import KE.KOpsOwn
import KE.KOwnIter
import HandS.IterVal
import KE.SortData
import HandS.Iter
import HandS.HeadHook1
import HandS.HeadHook2
import HandS.Head2
import PyProof.Conv_bool
import PyProof.DictCompW
import HandS.DictComp
import KE.KDictList
import KE.KExcSuper
import HandS.ExcInit
import HandS.ExcField
import HandS.ExcIs
import KE.KExcIs
import HandS.Zip
import KE.GoesMore
import HandS.Head0
import HandS.Head1
import HandS.Words
import HandS.Deep
import KE.KDictCopyH
import KE.DataFind
import KE.KDictPairs
import PyProof.EnumMake
import HandS.TupLen
import KE.KDictDisplayH
import HandS.ListItems
import HandS.GenYield
import HandS.GenCall
import HandS.GenList
import KE.KStateDown
import PySem.Challenge.RW_askshanded_k04_rows_of_asks
set_option Elab.async false
set_option linter.all false
set_option maxRecDepth 100000
set_option maxHeartbeats 0
namespace Pu
open PySem L2
open PyProof.Rows hiding St
def TupAt (H : Hp) (a : Addr) (vs : List V) : Prop := ∃ o : Obj, o.dict = none ∧ H a = some (.frz o (.tup vs))
theorem TupAt.sq {K : PySem.W.Frag} {H : Hp} {a : Addr} {vs : List V} (h : TupAt H a vs) : SqT K H a vs := let ⟨o, _, h⟩ := h; .inl (.inr ⟨o, h⟩)
theorem TupAt.imp {H H' : Hp} {a : Addr} {vs : List V} (h : TupAt H a vs) (k : ∀ u, H a = some u → H' a = some u) : TupAt H' a vs := let ⟨o, d, h⟩ := h; ⟨o, d, k _ h⟩
theorem TupAt.lk {H H' : Hp} {a : Addr} {vs : List V} (h : TupAt H a vs) (k : ∀ a o xs, H a = some (.frz o (.tup xs)) → H' a = some (.frz o (.tup xs))) : TupAt H' a vs := let ⟨o, d, h⟩ := h; ⟨o, d, k _ _ _ h⟩
theorem TupAt.there {H : Hp} {a : Addr} {vs : List V} (h : TupAt H a vs) : ∃ o u, H a = some (.frz o u) := let ⟨o, _, h⟩ := h; ⟨o, _, h⟩
abbrev NewT (H : Hp) (Q : VK) (vs : List V) : Prop := ∀ (p : Addr) (o : Obj), o.dict = none → H p = none → Q (.ref p) (upd H p (.frz o (.tup vs)))
section
variable {X : Cx} {pins : List (Addr × Obj)} {σ : L2.St} {H : Hp} {s : Shared} {Q : VK} {vs : List V} {its : List Value}
theorem new_tup (I : Inv X pins σ H s) (hz : vs.length ≤ sizeLine) (r : Vals vs its) {t : Nat} (q : NewT H Q vs) : EP X pins σ Q (.ref s.heap.objs.size) { s with heap := s.heap.push { cls := .type "tuple", data := .seq its.toArray }, toks := t } :=
 ⟨.ref s.heap.objs.size, upd H s.heap.objs.size (.frz { cls := .type "tuple", data := .seq its.toArray } (.tup vs)), I.laid (t' := t) (fun _ _ e => Heap.get?_push_of_some _ e) (Nat.le_refl _)
   (show ObjOk X.prog X.w _ _ _ (.frz _ (.tup vs)) from ⟨Heap.get?_push_size _ rfl, hz, its, r, IsTup.new _ _⟩), rfl, q _ _ rfl (I.hok.fresh (Nat.le_refl _))⟩
end
section
variable {X : Cx} {es : List Expr} {t : TA} {pos : Pos}
def tTupZ (t : TA) : TE := fun σ H Q => t σ H fun xs H1 => xs.length ≤ sizeLine ∧ NewT H1 Q xs
theorem pe_tupZ {k : Nat} (h : PA X es t) : PE X (.Tuple es k pos) (tTupZ t) := by
 refine ⟨fun pins s σ H Q I hq => ?_⟩
 refine wpAny_Tuple_spliced (thn (h.run pos pins s σ H _ I hq) fun us s1 ⟨xs, H1, I1, r, z, q⟩ => ⟨by rw [← r.length]; exact z, ?_⟩)
 exact new_tup (t := s1.toks) I1 z r q
def rCatZ (K : PySem.W.Frag) : R2 := fun x y H Q => ∃ a b xs ys, x = .ref a ∧ y = .ref b ∧ SqT K H a xs ∧ SqT K H b ys ∧ xs.length + ys.length ≤ sizeLine ∧
 (xs = [] → Q (.ref b) H) ∧ (xs ≠ [] → ys = [] → Q (.ref a) H) ∧ (xs ≠ [] → ys ≠ [] → NewT H Q (xs ++ ys))
theorem op_catZ : OpR X (binaryOp .Add) (rCatZ X.K) := by
 intro pins s σ H x y v u Q I rx ry h
 obtain ⟨a, b, xs, ys, rfl, rfl, ha, hb, hz, q0, q1, q2⟩ := h
 by_cases hx : xs = []
 · exact op_catA pins s σ H _ _ v u Q I rx ry ⟨a, b, xs, ys, rfl, rfl, ha, hb, hz, q0, fun z => absurd hx z, fun z => absurd hx z⟩
 · cases rx
   cases ry
   obtain ⟨its, r1, p1, _⟩ := I.tuple ha
   obtain ⟨its2, r2, p2, _⟩ := I.tuple hb
   refine HT.cat_tup p1 p2 (fun z => hx (r1.nil_iff.mp z)) (fun z => ⟨.ref a, H, I, rfl, q1 hx (r2.nil_iff.mp z)⟩) (fun z => ?_) (by rw [← r1.length, ← r2.length]; exact hz)
   exact new_tup (t := s.toks) I (by rw [List.length_append]; exact hz) (r1.append r2) (q2 hx fun w => z (r2.nil_iff.mpr w))
def rSlZ (K : PySem.W.Frag) : V → Option Int → Option Int → Hp → VK → Prop := fun x lo hi H Q => ∃ a xs, x = .ref a ∧ SqT K H a xs ∧
 (HT.sIx xs.length 0 lo = 0 ∧ HT.sIx xs.length xs.length hi = xs.length → Q (.ref a) H) ∧ (¬ (HT.sIx xs.length 0 lo = 0 ∧ HT.sIx xs.length xs.length hi = xs.length) → NewT H Q (cutV xs lo hi))
theorem sl_tupZ : SlR X (rSlZ X.K) := by
 intro pins s σ H x v vl vu lo hi sl Q I rx hs pl pu h
 obtain ⟨a, xs, rfl, hx, q1, q2⟩ := h
 by_cases hw : HT.sIx xs.length 0 lo = 0 ∧ HT.sIx xs.length xs.length hi = xs.length
 · exact sl_tupA pins s σ H _ v vl vu lo hi sl Q I rx hs pl pu ⟨a, xs, rfl, hx, q1, fun z => absurd hw z⟩
 · cases rx
   obtain ⟨its, r, ht, hz⟩ := I.tuple hx
   have hlen : its.toArray.size = xs.length := by rw [List.size_toArray]; exact r.length.symm
   refine ⟨"tuple", _, PyProof.Rows.slot_tuple_getitem.lookup, ht.typeIs, ?_⟩
   refine HT.getItem_tuple_cut ht hs pl pu (by rw [hlen]; exact hw) ?_ (by rw [hlen]; exact hz)
   rw [hlen]
   exact new_tup (t := s.toks) I (Nat.le_trans (cutV_length xs lo hi) hz) ((r.drop (HT.sIx xs.length 0 lo)).take (HT.sIx xs.length xs.length hi - HT.sIx xs.length 0 lo)) (q2 hw)
theorem call_tupleZ : CallR X (.type "tuple") (fun xs H Q => ∃ p ys, xs = [.ref p] ∧ ((SqL X.K H p ys ∧ NewT H Q ys) ∨ (SqT X.K H p ys ∧ Q (.ref p) H))) := by
 intro pins s σ H xs us Q I r h
 obtain ⟨p, ys, rfl, h⟩ := h
 rcases h with ⟨hq, q⟩ | ⟨hq, q⟩
 · obtain ⟨u, rfl, rx⟩ := vals1 r
   cases rx
   obtain ⟨its, r', pl, hz⟩ := I.list hq
   have hlen := r'.length
   refine call_tuple_list pl.isList (fun h' kp => ?_) (by simp only [List.size_toArray] <;> omega)
   have I1 : Inv X pins σ H { s with heap := h' } := I.kept (t' := s.toks) kp
   exact new_tup (t := s.toks) I1 hz r' q
 · exact call_tuple_of pins s σ H _ us Q I r ⟨p, ys, rfl, .inr ⟨hq, q⟩⟩
end
end Pu
namespace Pu
open PySem L2
inductive D where
 | non | bl (b : Bool) | int (i : Int) | str (x : Str) | tup (xs : List D) | lst (xs : List D)
 | dic (kvs : List (D × D)) | ins (c : Nat) (fs : List (Str × D)) | cls (c : Nat) | ty (n : String) | frl (xs : List D) | exn (c : Nat) (fs : List (Str × D))
noncomputable instance : DecidableEq D := fun _ _ => Classical.propDecidable _
inductive U where
 | v (d : D) | r (n : Nat)
inductive Cell where
 | lst (xs : List U) | dic (kvs : List (D × U)) | ins (c : Nat) (fs : List (Str × U)) | dead | dicL (kvs : List (D × U)) | tpc (xs : List U)
noncomputable instance : DecidableEq U := fun _ _ => Classical.propDecidable _
noncomputable instance : DecidableEq Cell := fun _ _ => Classical.propDecidable _
abbrev Sto := List Cell
abbrev Env' := List (Option U)
structure Bx where
 prog : Program
 w : World
 K : PySem.W.Frag
 cl : Nat → Addr
def nkey : D → Option NestedKey
 | .non => some .none
 | .int i => some (.num i)
 | .str x => some (.text x)
 | .tup xs => (nkeys xs).map .tup
 | _ => none
where nkeys : List D → Option (List NestedKey)
 | [] => some []
 | x :: xs => match nkey x, nkeys xs with
   | some k, some ks => some (k :: ks)
   | _, _ => none
abbrev Ent := NestedKey × Addr × Value
def DRaw (P : Program) (w : World) (a : Addr) (xs : List Ent) (h : Heap) : Prop :=
 ∃ o es ep, h.get? a = some o ∧ o.ExactDict ∧ o.data = .dict es ep ∧ es.toList = xs.map (entryOfKey (nestedKind P w)) ∧ (xs.map (·.1)).Nodup ∧ (a == sysModules) = false
def dicO (P : Program) (w : World) (a : Addr) (xs : List Ent) : HO := .ext (DRaw P w a xs)
def xO (a : Addr) (oe : Obj) : HO := .ext fun h => h.get? a = some oe
def Lk (K : PySem.W.Frag) (F : Addr → Prop) (H : Hp) (a : Addr) (xs : List V) : Prop := (F a ∧ ∃ o, H a = some (.frz o (.lst xs))) ∨
 ∃ (o : Obj) (its : Array Value) (n : Nat), K.lookup a = some o ∧ o.cls = .type "list" ∧ o.dict = none ∧ o.data = .seq its n ∧ its.size ≤ sizeLine ∧ Vals xs its.toList
theorem Lk.sq {K : PySem.W.Frag} {F : Addr → Prop} {H : Hp} {a : Addr} {xs : List V} (h : Lk K F H a xs) : SqL K H a xs := by
 rcases h with ⟨_, o, h⟩ | h
 · exact .inl (.inr ⟨o, h⟩)
 · exact .inr h
section
variable (B : Bx) (F : Addr → Prop) (H : Hp)
mutual
inductive Rep : V → D → Prop
 | non : Rep .non .non
 | bl (b : Bool) : Rep (.bl b) (.bl b)
 | int (i : Int) : Rep (.int i) (.int i)
 | str (x : Str) : PyData.strOk x = true → Rep (.str x) (.str x)
 | tup {a : Addr} {vs : List V} {ds : List D} : TupAt H a vs → Reps vs ds → Rep (.ref a) (.tup ds)
 | lst {a : Addr} {vs : List V} {ds : List D} : F a → H a = some (.lst vs) → Reps vs ds → Rep (.ref a) (.lst ds)
 | frl {a : Addr} {vs : List V} {ds : List D} : Lk B.K F H a vs → Reps vs ds → Rep (.ref a) (.frl ds)
 | dic {a : Addr} {xs : List Ent} {kvs : List (D × D)} : F a → Rd H a (dicO B.prog B.w a xs) → xs.length ≤ sizeLine → RepK xs kvs → Rep (.ref a) (.dic kvs)
 | ins {a dx : Addr} {c : Nat} {vs : List (Str × V)} {fs : List (Str × D)} : F a → F dx → H a = some (.ins (B.cl c) dx vs) → H dx = some (.own a) → RepF vs fs → Rep (.ref a) (.ins c fs)
 | cls (c : Nat) : Rep (.ref (B.cl c)) (.cls c)
 | ty (n : String) : Rep (.ty n) (.ty n)
 | exn {a dx : Addr} {oe : Obj} {w : Array Value} {c : Nat} {vs : List (Str × V)} {fs : List (Str × D)} : F a → F dx → Rd H a (xO a oe) → oe.cls = .ref (B.cl c) → oe.dict = some dx → oe.data = .fields w → H dx = some (.xd vs) → RepF vs fs → Rep (.ref a) (.exn c fs)
inductive Reps : List V → List D → Prop
 | nil : Reps [] []
 | cons {v : V} {vs : List V} {d : D} {ds : List D} : Rep v d → Reps vs ds → Reps (v :: vs) (d :: ds)
inductive RepK : List Ent → List (D × D) → Prop
 | nil : RepK [] []
 | cons {nk : NestedKey} {b : Addr} {u : Value} {v : V} {k d : D} {xs : List Ent} {kvs : List (D × D)} : nkey k = some nk → Rep (.ref b) k → nk.depth ≤ 8 → RelV v u → Rep v d → RepK xs kvs → RepK ((nk, b, u) :: xs) ((k, d) :: kvs)
inductive RepF : List (Str × V) → List (Str × D) → Prop
 | nil : RepF [] []
 | cons {x : Str} {v : V} {d : D} {vs : List (Str × V)} {fs : List (Str × D)} : Rep v d → RepF vs fs → RepF ((x, v) :: vs) ((x, d) :: fs)
end
end
inductive RepU (B : Bx) (ι : List Addr) (F : Addr → Prop) (H : Hp) : V → U → Prop
 | v {v : V} {d : D} : Rep B F H v d → RepU B ι F H v (.v d)
 | r {n : Nat} {a : Addr} : ι[n]? = some a → RepU B ι F H (.ref a) (.r n)
abbrev RepUs (B : Bx) (ι : List Addr) (F : Addr → Prop) (H : Hp) : List V → List U → Prop := Paired (RepU B ι F H)
def RepKU (B : Bx) (ι : List Addr) (F : Addr → Prop) (H : Hp) : List Ent → List (D × U) → Prop :=
 Paired fun (e : Ent) (p : D × U) => nkey p.1 = some e.1 ∧ Rep B F H (.ref e.2.1) p.1 ∧ e.1.depth ≤ 8 ∧ ∃ v, RelV v e.2.2 ∧ RepU B ι F H v p.2
def RepFU (B : Bx) (ι : List Addr) (F : Addr → Prop) (H : Hp) : List (Str × V) → List (Str × U) → Prop :=
 Paired fun (e : Str × V) (p : Str × U) => e.1 = p.1 ∧ RepU B ι F H e.2 p.2
def CellOk (B : Bx) (ι : List Addr) (F : Addr → Prop) (H : Hp) (a : Addr) : Cell → Prop
 | .lst xs => ∃ vs, H a = some (.lst vs) ∧ RepUs B ι F H vs xs
 | .dic kvs => ∃ es, H a = some (dicO B.prog B.w a es) ∧ es.length ≤ sizeLine ∧ RepKU B ι F H es kvs
 | .ins c fs => ∃ dx vs, H a = some (.ins (B.cl c) dx vs) ∧ H dx = some (.own a) ∧ ¬ F dx ∧ RepFU B ι F H vs fs
 | .dead => True
 | .tpc xs => ∃ vs, TupAt H a vs ∧ RepUs B ι F H vs xs
 | .dicL kvs => ∃ es od, H a = some (.frz od (dicO B.prog B.w a es)) ∧ es.length ≤ sizeLine ∧ RepKU B ι F H es kvs
def Cell.live : Cell → Bool
 | .dead => false
 | _ => true
structure Rel (B : Bx) (ι : List Addr) (F : Addr → Prop) (S : Sto) (H : Hp) : Prop where
 len : ι.length = S.length
 nd : ι.Nodup
 nf : ∀ (n : Nat) (a : Addr) (c : Cell), ι[n]? = some a → S[n]? = some c → c.live = true → ¬ F a
 ok : ∀ (n : Nat) (a : Addr) (c : Cell), ι[n]? = some a → S[n]? = some c → CellOk B ι F H a c
 there : ∀ a ∈ ι, H a ≠ none
 fthere : ∀ a, F a → H a ≠ none
 now : ∀ a ∈ ι, ∀ x, H a ≠ some (.own x)
structure Ev0 (F : Addr → Prop) (H : Hp) (F' : Addr → Prop) (H' : Hp) : Prop where
 sub : ∀ a, F a → F' a
 keep : ∀ a o, F a → H a = some o → (∀ φ, o ≠ .ext φ) → H' a = some o
 tups : ∀ a xs, H a = some (.tup xs) → H' a = some (.tup xs)
 kext : ∀ a φ, F a → Rd H a (.ext φ) → Rd H' a (.ext φ)
 tupz : ∀ a o xs, H a = some (.frz o (.tup xs)) → H' a = some (.frz o (.tup xs))
structure Evo (ι : List Addr) (F : Addr → Prop) (H : Hp) (ι' : List Addr) (F' : Addr → Prop) (H' : Hp) : Prop where
 pre : ∀ (n : Nat) (a : Addr), ι[n]? = some a → ι'[n]? = some a
 sub : ∀ a, F a → F' a
 keep : ∀ a o, F a → H a = some o → (∀ φ, o ≠ .ext φ) → H' a = some o
 tups : ∀ a xs, H a = some (.tup xs) → H' a = some (.tup xs)
 alive : ∀ a, H a ≠ none → H' a ≠ none
 lkd : ∀ a o u, H a = some (.frz o u) → H' a = some (.frz o u)
 kext : ∀ a φ, F a → Rd H a (.ext φ) → Rd H' a (.ext φ)
theorem Evo.e0 {ι ι' : List Addr} {F F' : Addr → Prop} {H H' : Hp} (e : Evo ι F H ι' F' H') : Ev0 F H F' H' := ⟨e.sub, e.keep, e.tups, e.kext, fun a o xs h => e.lkd a o _ h⟩
theorem rd_ne {H : Hp} {a b : Addr} {o u : HO} (hb : b ≠ a) (h : Rd H b u) : Rd (upd H a o) b u := by
 unfold Rd
 rw [upd_ne hb]; exact h
theorem Evo.refl {ι : List Addr} {F : Addr → Prop} {H : Hp} : Evo ι F H ι F H := ⟨fun _ _ h => h, fun _ h => h, fun _ _ _ h _ => h, fun _ _ h => h, fun _ h => h, fun _ _ _ h => h, fun _ _ _ h => h⟩
theorem Evo.trans {ι ι1 ι2 : List Addr} {F F1 F2 : Addr → Prop} {H H1 H2 : Hp} (a : Evo ι F H ι1 F1 H1) (b : Evo ι1 F1 H1 ι2 F2 H2) : Evo ι F H ι2 F2 H2 :=
 ⟨fun n x h => b.pre n x (a.pre n x h), fun x h => b.sub x (a.sub x h), fun x o f h q => b.keep x o (a.sub x f) (a.keep x o f h q) q, fun x xs h => b.tups x xs (a.tups x xs h), fun x h => b.alive x (a.alive x h), fun x o u h => b.lkd x o u (a.lkd x o u h), fun x φ f h => b.kext x φ (a.sub x f) (a.kext x φ f h)⟩
section
variable {B : Bx} {ι ι' : List Addr} {F F' : Addr → Prop} {H H' : Hp}
mutual
theorem Rep.mono0 (e : Ev0 F H F' H') : ∀ {v : V} {d : D}, Rep B F H v d → Rep B F' H' v d
 | _, _, .non => .non
 | _, _, .bl b => .bl b
 | _, _, .int i => .int i
 | _, _, .str x h => .str x h
 | _, _, .tup h r => .tup (h.lk e.tupz) (Reps.mono0 e r)
 | _, _, .lst f h r => .lst (e.sub _ f) (e.keep _ _ f h nofun) (Reps.mono0 e r)
 | _, _, .frl h r => .frl (by
   rcases h with ⟨f, o, h⟩ | h
   · exact .inl ⟨e.sub _ f, o, e.keep _ _ f h nofun⟩
   · exact .inr h) (Reps.mono0 e r)
 | _, _, .dic f h z r => .dic (e.sub _ f) (e.kext _ _ f h) z (RepK.mono0 e r)
 | _, _, .ins f g h h2 r => .ins (e.sub _ f) (e.sub _ g) (e.keep _ _ f h nofun) (e.keep _ _ g h2 nofun) (RepF.mono0 e r)
 | _, _, .cls c => .cls c
 | _, _, .ty n => .ty n
 | _, _, .exn f g h a b c h2 r => .exn (e.sub _ f) (e.sub _ g) (e.kext _ _ f h) a b c (e.keep _ _ g h2 nofun) (RepF.mono0 e r)
theorem Reps.mono0 (e : Ev0 F H F' H') : ∀ {v : List V} {d : List D}, Reps B F H v d → Reps B F' H' v d
 | _, _, .nil => .nil
 | _, _, .cons a b => .cons (Rep.mono0 e a) (Reps.mono0 e b)
theorem RepK.mono0 (e : Ev0 F H F' H') : ∀ {v : List Ent} {d : List (D × D)}, RepK B F H v d → RepK B F' H' v d
 | _, _, .nil => .nil
 | _, _, .cons a b c d f g => .cons a (Rep.mono0 e b) c d (Rep.mono0 e f) (RepK.mono0 e g)
theorem RepF.mono0 (e : Ev0 F H F' H') : ∀ {v : List (Str × V)} {d : List (Str × D)}, RepF B F H v d → RepF B F' H' v d
 | _, _, .nil => .nil
 | _, _, .cons a b => .cons (Rep.mono0 e a) (RepF.mono0 e b)
end
theorem Rep.mono (e : Evo ι F H ι' F' H') {v : V} {d : D} (h : Rep B F H v d) : Rep B F' H' v d := h.mono0 e.e0
theorem Reps.mono (e : Evo ι F H ι' F' H') {v : List V} {d : List D} (h : Reps B F H v d) : Reps B F' H' v d := h.mono0 e.e0
theorem RepU.mono (e : Evo ι F H ι' F' H') {v : V} {u : U} (h : RepU B ι F H v u) : RepU B ι' F' H' v u := by
 cases h with
 | v h => exact .v (h.mono e)
 | r h => exact .r (e.pre _ _ h)
theorem RepUs.mono (e : Evo ι F H ι' F' H') {v : List V} {u : List U} (h : RepUs B ι F H v u) : RepUs B ι' F' H' v u := Paired.mapP h fun _ _ x => x.mono e
theorem RepKU.mono (e : Evo ι F H ι' F' H') {v : List Ent} {u : List (D × U)} (h : RepKU B ι F H v u) : RepKU B ι' F' H' v u :=
 Paired.mapP h fun _ _ ⟨a, b, c, w, x, y⟩ => ⟨a, b.mono e, c, w, x, y.mono e⟩
theorem RepFU.mono (e : Evo ι F H ι' F' H') {v : List (Str × V)} {u : List (Str × U)} (h : RepFU B ι F H v u) : RepFU B ι' F' H' v u :=
 Paired.mapP h fun _ _ ⟨a, b⟩ => ⟨a, b.mono e⟩
end
end Pu
namespace Pu
open PySem L2
abbrev bx (X : Cx) (cl : Nat → Addr) : Bx := ⟨X.prog, X.w, X.K, cl⟩
inductive R (α : Type) where
 | ok (a : α) (S : Sto) | ex (c : Nat) (fs : List (Str × U)) (S : Sto) | er
def R.bind {α β : Type} (r : R α) (k : α → Sto → R β) : R β := match r with
 | .ok a S => k a S
 | .ex c fs S => .ex c fs S
 | .er => .er
@[simp] theorem R.bind_ok {α β : Type} (a : α) (S : Sto) (k : α → Sto → R β) : (R.ok a S).bind k = k a S := rfl
@[simp] theorem R.bind_ex {α β : Type} (c : Nat) (fs : List (Str × U)) (S : Sto) (k : α → Sto → R β) : (R.ex c fs S : R α).bind k = .ex c fs S := rfl
@[simp] theorem R.bind_er {α β : Type} (k : α → Sto → R β) : (R.er : R α).bind k = .er := rfl
abbrev ME := Env' → Sto → R U
abbrev MT := Env' → Sto → R Bool
abbrev MA := Env' → Sto → R (List U)
abbrev MG := U → Env' → Option Env'
inductive RS where
 | nx (ρ : Env') (S : Sto) | rt (u : U) (S : Sto) | bk (ρ : Env') (S : Sto) | ct (ρ : Env') (S : Sto) | ex (c : Nat) (fs : List (Str × U)) (ρ : Env') (S : Sto) | er
abbrev MS := Env' → Sto → RS
def RepO (B : Bx) (ι : List Addr) (F : Addr → Prop) (H : Hp) : Option V → Option U → Prop
 | _, none => True
 | some v, some u => RepU B ι F H v u
 | none, some _ => False
abbrev REnv (B : Bx) (ι : List Addr) (F : Addr → Prop) (H : Hp) : St → Env' → Prop := Paired (RepO B ι F H)
section
variable {B : Bx} {ι ι' : List Addr} {F F' : Addr → Prop} {H H' : Hp}
theorem RepO.mono (e : Evo ι F H ι' F' H') : ∀ {v : Option V} {u : Option U}, RepO B ι F H v u → RepO B ι' F' H' v u
 | _, none, _ => by unfold RepO; split <;> trivial
 | some v, some u, h => RepU.mono e (show RepU B ι F H v u from h)
 | none, some u, h => False.elim h
theorem REnv.mono (e : Evo ι F H ι' F' H') {σ : St} {ρ : Env'} (h : REnv B ι F H σ ρ) : REnv B ι' F' H' σ ρ := Paired.mapP h fun _ _ x => x.mono e
theorem paired_get {α β : Type} {P : α → β → Prop} : ∀ {xs : List α} {ys : List β} {i : Nat} {y : β}, Paired P xs ys → ys[i]? = some y → ∃ x, xs[i]? = some x ∧ P x y
 | _, _, _, _, .nil, h => by simp at h
 | _, _, 0, _, .cons r _, h => by simp at h; subst h; exact ⟨_, rfl, r⟩
 | _, _, i + 1, y, .cons _ t, h => by
   obtain ⟨x, h1, h2⟩ := paired_get (i := i) (y := y) t (by simpa using h)
   exact ⟨x, by simpa using h1, h2⟩
theorem paired_get' {α β : Type} {P : α → β → Prop} : ∀ {xs : List α} {ys : List β} {i : Nat} {x : α}, Paired P xs ys → xs[i]? = some x → ∃ y, ys[i]? = some y ∧ P x y
 | _, _, _, _, .nil, h => by simp at h
 | _, _, 0, _, .cons r _, h => by simp at h; subst h; exact ⟨_, rfl, r⟩
 | _, _, i + 1, y, .cons _ t, h => by
   obtain ⟨x, h1, h2⟩ := paired_get' (i := i) (x := y) t (by simpa using h)
   exact ⟨x, by simpa using h1, h2⟩
theorem paired_set {α β : Type} {P : α → β → Prop} {x : α} {y : β} (r : P x y) : ∀ {xs : List α} {ys : List β} (i : Nat), Paired P xs ys → Paired P (xs.set i x) (ys.set i y)
 | _, _, _, .nil => .nil
 | _, _, 0, .cons _ t => .cons r t
 | _, _, i + 1, .cons q t => .cons q (paired_set r i t)
theorem paired_append {α β : Type} {P : α → β → Prop} : ∀ {xs xs' : List α} {ys ys' : List β}, Paired P xs ys → Paired P xs' ys' → Paired P (xs ++ xs') (ys ++ ys')
 | _, _, _, _, .nil, h => h
 | _, _, _, _, .cons a b, h => .cons a (paired_append b h)
theorem paired_len {α β : Type} {P : α → β → Prop} : ∀ {xs : List α} {ys : List β}, Paired P xs ys → xs.length = ys.length
 | _, _, .nil => rfl
 | _, _, .cons _ b => by simp [paired_len b]
theorem paired_take {α β : Type} {P : α → β → Prop} : ∀ {xs : List α} {ys : List β} (n : Nat), Paired P xs ys → Paired P (xs.take n) (ys.take n)
 | _, _, 0, _ => by simp; exact .nil
 | _, _, _ + 1, .nil => by simp; exact .nil
 | _, _, n + 1, .cons a b => by simp; exact .cons a (paired_take n b)
theorem paired_drop {α β : Type} {P : α → β → Prop} : ∀ {xs : List α} {ys : List β} (n : Nat), Paired P xs ys → Paired P (xs.drop n) (ys.drop n)
 | _, _, 0, h => by simpa using h
 | _, _, _ + 1, .nil => by simp; exact .nil
 | _, _, n + 1, .cons a b => by simpa using paired_drop n b
theorem reps_iff : ∀ {vs : List V} {ds : List D}, Reps B F H vs ds ↔ Paired (Rep B F H) vs ds
 | [], [] => ⟨fun _ => .nil, fun _ => .nil⟩
 | [], _ :: _ => ⟨nofun, nofun⟩
 | _ :: _, [] => ⟨nofun, nofun⟩
 | v :: vs, d :: ds => ⟨fun | .cons a b => .cons a (reps_iff.mp b), fun | .cons a b => .cons a (reps_iff.mpr b)⟩
theorem reps_u {vs : List V} {ds : List D} (h : Reps B F H vs ds) : RepUs B ι F H vs (ds.map U.v) := by
 have := reps_iff.mp h
 clear h
 induction this with
 | nil => exact .nil
 | cons a b ih => exact .cons (.v a) ih
def allV : List U → Option (List D)
 | [] => some []
 | .v d :: us => (allV us).map (d :: ·)
 | .r _ :: _ => none
@[simp] theorem allV_map (ds : List D) : allV (ds.map U.v) = some ds := by
 induction ds with
 | nil => rfl
 | cons d ds ih => simp [allV, ih]
theorem allV_some : ∀ {us : List U} {ds : List D}, allV us = some ds → us = ds.map U.v
 | [], ds, h => by simp [allV] at h; subst h; rfl
 | .v d :: us, ds, h => by
   cases e : allV us with
   | none => simp [allV, e] at h
   | some es =>
     simp [allV, e] at h
     subst h
     simp [allV_some e]
 | .r _ :: _, ds, h => by simp [allV] at h
theorem repus_reps : ∀ {vs : List V} {ds : List D}, RepUs B ι F H vs (ds.map U.v) → Reps B F H vs ds
 | _, [], h => by cases h; exact .nil
 | _, d :: ds, h => by
   cases h with
   | cons a b =>
     cases a with
     | v a => exact .cons a (repus_reps b)
end
section
variable {B : Bx} {ι ι' : List Addr} {F F' : Addr → Prop} {H H' : Hp} {S : Sto} {p : Addr} {o : HO}
theorem Evo.kept (k : ∀ a o, H a = some o → H' a = some o) (hF : ∀ a, F a → F' a) : Evo ι F H ι F' H' :=
 ⟨fun _ _ h => h, hF, fun a o _ h _ => k a o h, fun a xs h => k a _ h, fun a h => by
   cases e : H a with
   | none => exact absurd e h
   | some o => rw [k a o e]; simp, fun a o u h => k a _ h, fun a φ _ h => h.elim (fun h => .inl (k a _ h)) fun ⟨o, h⟩ => .inr ⟨o, k a _ h⟩⟩
theorem kept_upd (h : H p = none) : ∀ a u, H a = some u → upd H p o a = some u := fun a u e => by
 rw [upd_ne (ne_of_none e h)]; exact e
theorem CellOk.kept {a : Addr} {c : Cell} (k : ∀ a o, H a = some o → H' a = some o) (hF : ∀ a, F a → F' a) (hF2 : ∀ a, F' a → ¬ F a → H a = none) (e : Evo ι F H ι' F' H') (x : CellOk B ι F H a c) : CellOk B ι' F' H' a c := by
 cases c with
 | lst xs => obtain ⟨vs, h, r⟩ := x; exact ⟨vs, k _ _ h, r.mono e⟩
 | tpc xs => obtain ⟨vs, h, r⟩ := x; exact ⟨vs, h.imp (k _), r.mono e⟩
 | dic kvs => obtain ⟨es, h, z, r⟩ := x; exact ⟨es, k _ _ h, z, r.mono e⟩
 | dicL kvs => obtain ⟨es, od, h, z, r⟩ := x; exact ⟨es, od, k _ _ h, z, r.mono e⟩
 | ins c fs =>
   obtain ⟨dx, vs, h, h2, nf, r⟩ := x
   refine ⟨dx, vs, k _ _ h, k _ _ h2, fun z => ?_, r.mono e⟩
   have := hF2 dx z nf
   rw [h2] at this; cases this
 | dead => trivial
theorem Rel.ext (r : Rel B ι F S H) (k : ∀ a o, H a = some o → H' a = some o) (hF : ∀ a, F a → F' a) (hF2 : ∀ a, F' a → ¬ F a → H a = none) (hF3 : ∀ a, F' a → H' a ≠ none) : Rel B ι F' S H' := by
 have e : Evo ι F H ι F' H' := Evo.kept k hF
 refine ⟨r.len, r.nd, fun n a c h1 h2 h3 z => ?_, fun n a c h1 h2 => (r.ok n a c h1 h2).kept k hF hF2 e, fun a h => e.alive a (r.there a h), hF3, fun a h x z => ?_⟩
 · have := hF2 a z (r.nf n a c h1 h2 h3)
   exact r.there a (List.mem_of_getElem? h1) this
 · cases q : H a with
   | none => exact r.there a h q
   | some o => rw [k a o q] at z; cases z; exact r.now a h x q
theorem Rel.new (r : Rel B ι F S H) (h : H p = none) : Rel B ι F S (upd H p o) :=
 r.ext (kept_upd h) (fun _ x => x) (fun _ x y => absurd x y) fun a f => (Evo.kept (ι := ι) (F' := F) (kept_upd (o := o) h) fun _ x => x).alive a (r.fthere a f)
theorem Evo.new (h : H p = none) : Evo ι F H ι F (upd H p o) := Evo.kept (kept_upd h) fun _ x => x
abbrev addF (F : Addr → Prop) (p : Addr) : Addr → Prop := fun a => F a ∨ a = p
theorem Rel.newF (r : Rel B ι F S H) (h : H p = none) : Rel B ι (addF F p) S (upd H p o) :=
 r.ext (kept_upd h) (fun _ x => .inl x) (fun a x y => by
   rcases x with x | x
   · exact absurd x y
   · rw [x]; exact h) fun a f => by
   rcases f with f | f
   · exact (Evo.kept (ι := ι) (F' := F) (kept_upd (o := o) h) fun _ x => x).alive a (r.fthere a f)
   · rw [f, upd_same]; simp
theorem Evo.newF (h : H p = none) : Evo ι F H ι (addF F p) (upd H p o) := Evo.kept (kept_upd h) fun _ x => .inl x
theorem Evo.newS (h : H p = none) : Evo ι F H (ι ++ [p]) F (upd H p o) := by
 refine ⟨fun n a e => ?_, fun _ h => h, fun a o _ e _ => kept_upd h a o e, fun a xs e => kept_upd h a _ e, (Evo.new (ι := ι) (F := F) h).alive, fun a o u e => kept_upd h a _ e, fun a φ _ z => z.elim (fun z => .inl (kept_upd h a _ z)) fun ⟨o, z⟩ => .inr ⟨o, kept_upd h a _ z⟩⟩
 rw [List.getElem?_append_left (List.getElem?_eq_some_iff.mp e).1]
 exact e
theorem Rel.newS {c : Cell} (r : Rel B ι F S H) (h : H p = none) (ho : ∀ x, o ≠ .own x) (new : CellOk B (ι ++ [p]) F (upd H p o) p c) : Rel B (ι ++ [p]) F (S ++ [c]) (upd H p o) := by
 have np : p ∉ ι := fun z => r.there p z h
 have e : Evo ι F H (ι ++ [p]) F (upd H p o) := Evo.newS h
 refine ⟨by simp [r.len], ?_, fun n a c' h1 h2 h3 z => ?_, fun n a c' h1 h2 => ?_, fun a ha => ?_, fun a f => e.alive a (r.fthere a f), fun a ha x z => ?_⟩
 · rw [List.nodup_append]
   exact ⟨r.nd, by simp, fun a ha b hb => by simp at hb; subst hb; rintro rfl; exact np ha⟩
 · by_cases hn : n < ι.length
   · rw [List.getElem?_append_left hn] at h1
     rw [List.getElem?_append_left (by rw [← r.len]; exact hn)] at h2
     exact r.nf n a c' h1 h2 h3 z
   · rw [List.getElem?_append_right (by omega)] at h1
     have hn0 : n - ι.length = 0 := by
       have := (List.getElem?_eq_some_iff.mp h1).1
       simp at this; omega
     rw [hn0] at h1
     simp at h1; subst h1
     exact r.fthere _ z h
 · by_cases hn : n < ι.length
   · rw [List.getElem?_append_left hn] at h1
     rw [List.getElem?_append_left (by rw [← r.len]; exact hn)] at h2
     exact (r.ok n a c' h1 h2).kept (kept_upd h) (fun _ x => x) (fun _ x y => absurd x y) e
   · rw [List.getElem?_append_right (by omega)] at h1
     rw [List.getElem?_append_right (by rw [← r.len]; omega)] at h2
     have hn0 : n - ι.length = 0 := by
       have := (List.getElem?_eq_some_iff.mp h1).1
       simp at this; omega
     rw [← r.len, hn0] at h2
     rw [hn0] at h1
     simp at h1 h2; subst h1; subst h2
     exact new
 · rcases List.mem_append.mp ha with ha | ha
   · exact e.alive a (r.there a ha)
   · simp at ha; subst ha; rw [upd_same]; simp
 · rcases List.mem_append.mp ha with ha | ha
   · rw [upd_ne (fun z' : a = p => np (by rw [← z']; exact ha))] at z
     exact r.now a ha x z
   · simp at ha; subst ha; rw [upd_same] at z; exact ho x (Option.some.inj z)
theorem Rel.write {n : Nat} {a : Addr} {c c' : Cell} (r : Rel B ι F S H) (h1 : ι[n]? = some a) (h2 : S[n]? = some c) (h3 : c.live = true) (ht : ∀ xs, H a ≠ some (.tup xs)) (ho : ∀ x, o ≠ .own x) (hz : ∀ p u, H a ≠ some (.frz p u))
   (new : CellOk B ι F (upd H a o) a c') : Rel B ι F (S.set n c') (upd H a o) ∧ Evo ι F H ι F (upd H a o) := by
 have nf := r.nf n a c h1 h2 h3
 have hw := r.now a (List.mem_of_getElem? h1)
 have e : Evo ι F H ι F (upd H a o) := by
   refine ⟨fun _ _ h => h, fun _ h => h, fun b u f h _ => ?_, fun b xs h => ?_, fun b h => ?_, fun b p u h => ?_, fun b φ f h => rd_ne (fun z : b = a => nf (by rw [← z]; exact f)) h⟩
   · rw [upd_ne (fun z : b = a => nf (by rw [← z]; exact f))]; exact h
   · rw [upd_ne (fun z : b = a => ht xs (by rw [← z]; exact h))]; exact h
   · by_cases hb : b = a
     · rw [hb, upd_same]; simp
     · rw [upd_ne hb]; exact h
   · rw [upd_ne (fun z : b = a => hz p u (by rw [← z]; exact h))]; exact h
 refine ⟨⟨by simp [r.len], r.nd, fun m b d g1 g2 g3 => ?_, fun m b d g1 g2 => ?_, fun b hb => e.alive b (r.there b hb), fun b hb => e.alive b (r.fthere b hb), fun b hb x z => ?_⟩, e⟩
 · by_cases hm : m = n
   · subst hm; rw [h1] at g1; cases g1; exact nf
   · rw [List.getElem?_set_ne (Ne.symm hm)] at g2
     exact r.nf m b d g1 g2 g3
 · by_cases hm : m = n
   · subst hm
     rw [h1] at g1; cases g1
     rw [List.getElem?_set_self (List.getElem?_eq_some_iff.mp h2).1] at g2
     cases g2
     exact new
   · rw [List.getElem?_set_ne (Ne.symm hm)] at g2
     have hba : b ≠ a := fun z => by
       subst z
       obtain ⟨q1, e1⟩ := List.getElem?_eq_some_iff.mp h1
       obtain ⟨q2, e2⟩ := List.getElem?_eq_some_iff.mp g1
       exact hm ((List.getElem_inj r.nd).mp (e2.trans e1.symm))
     have x := r.ok m b d g1 g2
     cases d with
     | lst xs => obtain ⟨vs, h, q⟩ := x; exact ⟨vs, by rw [upd_ne hba]; exact h, q.mono e⟩
     | tpc xs => obtain ⟨vs, h, q⟩ := x; exact ⟨vs, h.imp fun u z => by rw [upd_ne hba]; exact z, q.mono e⟩
     | dic kvs => obtain ⟨es, h, z, q⟩ := x; exact ⟨es, by rw [upd_ne hba]; exact h, z, q.mono e⟩
     | dicL kvs => obtain ⟨es, od, h, z, q⟩ := x; exact ⟨es, od, by rw [upd_ne hba]; exact h, z, q.mono e⟩
     | ins k fs =>
       obtain ⟨dx, vs, h, hd, nd, q⟩ := x
       have hda : dx ≠ a := fun z => by subst z; exact hw b hd
       exact ⟨dx, vs, by rw [upd_ne hba]; exact h, by rw [upd_ne hda]; exact hd, nd, q.mono e⟩
     | dead => trivial
 · by_cases hb' : b = a
   · rw [hb', upd_same] at z; exact ho x (Option.some.inj z)
   · rw [upd_ne hb'] at z; exact r.now b hb x z
end
def OutX (B : Bx) (W : WX) (σ : St) (ι : List Addr) (F : Addr → Prop) (H : Hp) (c : Nat) (fs : List (Str × U)) (S' : Sto) : Prop :=
 ∀ (dx : Addr) (vs : List (Str × V)) (ι' : List Addr) (F' : Addr → Prop) (H' : Hp), Evo ι F H ι' F' H' → Rel B ι' F' S' H' → H' dx = some (.xd vs) → RepFU B ι' F' H' vs fs → W (.ref (B.cl c)) (some dx) σ H'
def Out {α β : Type} (B : Bx) (W : WX) (σ : St) (ι : List Addr) (F : Addr → Prop) (H : Hp) (rep : List Addr → (Addr → Prop) → Hp → β → α → Prop) (Q : β → Hp → Prop) : R α → Prop
 | .ok a S' => ∀ (b : β) (ι' : List Addr) (F' : Addr → Prop) (H' : Hp), Evo ι F H ι' F' H' → Rel B ι' F' S' H' → rep ι' F' H' b a → Q b H'
 | .ex c fs S' => OutX B W σ ι F H c fs S'
 | .er => False
section
variable {α β γ δ : Type} {B : Bx} {W : WX} {σ : St} {ι ι1 : List Addr} {F F1 : Addr → Prop} {H H1 : Hp} {rep : List Addr → (Addr → Prop) → Hp → β → α → Prop} {rep1 : List Addr → (Addr → Prop) → Hp → δ → γ → Prop} {Q Q' : β → Hp → Prop}
theorem OutX.shift {c : Nat} {fs : List (Str × U)} {S' : Sto} (e : Evo ι F H ι1 F1 H1) (h : OutX B W σ ι F H c fs S') : OutX B W σ ι1 F1 H1 c fs S' := fun dx vs ι' F' H' e' => h dx vs ι' F' H' (e.trans e')
theorem Out.shift (e : Evo ι F H ι1 F1 H1) {r : R α} (h : Out B W σ ι F H rep Q r) : Out B W σ ι1 F1 H1 rep Q r := by
 cases r with
 | ok a S' => exact fun b ι' F' H' e' => h b ι' F' H' (e.trans e')
 | ex c fs S' => exact OutX.shift e h
 | er => exact h
theorem Out.mono {r : R α} (h : Out B W σ ι F H rep Q r) (k : ∀ b H', Q b H' → Q' b H') : Out B W σ ι F H rep Q' r := by
 cases r with
 | ok a S' => exact fun b ι' F' H' e' r' z => k b H' (h b ι' F' H' e' r' z)
 | ex c fs S' => exact h
 | er => exact h
theorem Out.bind {r : R γ} {k : γ → Sto → R α} (h : Out B W σ ι F H rep Q (r.bind k)) :
   Out B W σ ι F H rep1 (fun b H1 => ∃ ι1 F1 S1 a, Evo ι F H ι1 F1 H1 ∧ Rel B ι1 F1 S1 H1 ∧ rep1 ι1 F1 H1 b a ∧ Out B W σ ι1 F1 H1 rep Q (k a S1)) r := by
 cases r with
 | ok a S' => exact fun b ι' F' H' e' r' z => ⟨ι', F', S', a, e', r', z, Out.shift e' h⟩
 | ex c fs S' => exact h
 | er => exact h
end
def liftE (B : Bx) (W : WX) (m : ME) : TE := fun σ H Q => ∃ ι F S ρ, Rel B ι F S H ∧ REnv B ι F H σ ρ ∧ Out B W σ ι F H (RepU B) Q (m ρ S)
def liftT (B : Bx) (W : WX) (m : MT) : TT := fun σ H Q => ∃ ι F S ρ, Rel B ι F S H ∧ REnv B ι F H σ ρ ∧ Out B W σ ι F H (fun _ _ _ b c => b = c) Q (m ρ S)
def liftA (B : Bx) (W : WX) (m : MA) : TA := fun σ H Q => ∃ ι F S ρ, Rel B ι F S H ∧ REnv B ι F H σ ρ ∧ Out B W σ ι F H (fun ι F H => RepUs B ι F H) Q (m ρ S)
def liftG (B : Bx) (js : List Nat) (m : MG) : TG := fun v σ H Q => ∃ ι F S ρ u ρ', Rel B ι F S H ∧ REnv B ι F H σ ρ ∧ RepU B ι F H v u ∧ m u ρ = some ρ' ∧ ∀ σ', REnv B ι F H σ' ρ' → (∀ i, i ∉ js → σ'[i]? = σ[i]?) → σ'.length = σ.length → Q σ' H
def OutS (B : Bx) (W : WX) (ι : List Addr) (F : Addr → Prop) (H : Hp) (D : Ends) : RS → Prop
 | .nx ρ S' => ∀ (σ : St) (ι' : List Addr) (F' : Addr → Prop) (H' : Hp), Evo ι F H ι' F' H' → Rel B ι' F' S' H' → REnv B ι' F' H' σ ρ → D.nx σ H'
 | .bk ρ S' => ∀ (σ : St) (ι' : List Addr) (F' : Addr → Prop) (H' : Hp), Evo ι F H ι' F' H' → Rel B ι' F' S' H' → REnv B ι' F' H' σ ρ → D.bk σ H'
 | .ct ρ S' => ∀ (σ : St) (ι' : List Addr) (F' : Addr → Prop) (H' : Hp), Evo ι F H ι' F' H' → Rel B ι' F' S' H' → REnv B ι' F' H' σ ρ → D.ct σ H'
 | .rt u S' => ∀ (v : V) (ι' : List Addr) (F' : Addr → Prop) (H' : Hp), Evo ι F H ι' F' H' → Rel B ι' F' S' H' → RepU B ι' F' H' v u → D.rt v H'
 | .ex c fs ρ S' => ∀ (σ : St) (ι' : List Addr) (F' : Addr → Prop) (H' : Hp), Evo ι F H ι' F' H' → REnv B ι' F' H' σ ρ → OutX B W σ ι' F' H' c fs S'
 | .er => False
def liftS (B : Bx) (W : WX) (m : MS) : TS := fun D σ H => ∃ ι F S ρ, Rel B ι F S H ∧ REnv B ι F H σ ρ ∧ OutS B W ι F H D (m ρ S)
section
variable {B : Bx} {W : WX} {ι ι1 : List Addr} {F F1 : Addr → Prop} {H H1 : Hp} {D D' : Ends}
theorem OutS.shift (e : Evo ι F H ι1 F1 H1) {r : RS} (h : OutS B W ι F H D r) : OutS B W ι1 F1 H1 D r := by
 cases r with
 | nx ρ S' => exact fun σ ι' F' H' e' => h σ ι' F' H' (e.trans e')
 | bk ρ S' => exact fun σ ι' F' H' e' => h σ ι' F' H' (e.trans e')
 | ct ρ S' => exact fun σ ι' F' H' e' => h σ ι' F' H' (e.trans e')
 | rt u S' => exact fun v ι' F' H' e' => h v ι' F' H' (e.trans e')
 | ex c fs ρ S' => exact fun σ ι' F' H' e' => h σ ι' F' H' (e.trans e')
 | er => exact h
end
def QE (X : Cx) (cl : Nat → Addr) (W : WX) (e : Expr) (m : ME) : Prop := PE X e (liftE (bx X cl) W m)
def QT (X : Cx) (cl : Nat → Addr) (W : WX) (e : Expr) (m : MT) : Prop := PT X e (liftT (bx X cl) W m)
def QA (X : Cx) (cl : Nat → Addr) (W : WX) (es : List Expr) (m : MA) : Prop := PA X es (liftA (bx X cl) W m)
def QG (X : Cx) (cl : Nat → Addr) (e : Expr) (js : List Nat) (m : MG) : Prop := PG X e (liftG (bx X cl) js m)
def QS (X : Cx) (cl : Nat → Addr) (W : WX) (s : Stmt) (m : MS) : Prop := PS X s (liftS (bx X cl) W m)
def QSs (X : Cx) (cl : Nat → Addr) (W : WX) (ss : List Stmt) (m : MS) : Prop := PSs X ss (liftS (bx X cl) W m)
theorem PE.imp {X : Cx} {e : Expr} {t t' : TE} (h : PE X e t) (k : ∀ σ H Q, t' σ H Q → t σ H Q) : PE X e t' := ⟨fun pins s σ H Q I hq => h.run pins s σ H Q I (k σ H Q hq)⟩
theorem PT.imp {X : Cx} {e : Expr} {t t' : TT} (h : PT X e t) (k : ∀ σ H Q, t' σ H Q → t σ H Q) : PT X e t' := ⟨fun pins s σ H Q I hq => h.run pins s σ H Q I (k σ H Q hq)⟩
theorem PA.imp {X : Cx} {e : List Expr} {t t' : TA} (h : PA X e t) (k : ∀ σ H Q, t' σ H Q → t σ H Q) : PA X e t' := ⟨fun pos pins s σ H Q I hq => h.run pos pins s σ H Q I (k σ H Q hq)⟩
theorem PG.imp {X : Cx} {e : Expr} {t t' : TG} (h : PG X e t) (k : ∀ v σ H Q, t' v σ H Q → t v σ H Q) : PG X e t' := ⟨fun pins s σ H v u Q I r hq => h.run pins s σ H v u Q I r (k v σ H Q hq)⟩
theorem PS.imp {X : Cx} {e : Stmt} {t t' : TS} (h : PS X e t) (k : ∀ D σ H, t' D σ H → t D σ H) : PS X e t' := ⟨fun pins s σ H D I hq => h.run pins s σ H D I (k D σ H hq)⟩
theorem PSs.imp {X : Cx} {e : List Stmt} {t t' : TS} (h : PSs X e t) (k : ∀ D σ H, t' D σ H → t D σ H) : PSs X e t' := ⟨fun pins s σ H D I hq => h.run pins s σ H D I (k D σ H hq)⟩
end Pu
namespace Pu
open PySem L2
def eVar (i : Nat) : ME := fun ρ S => match ρ[i]? with
 | some (some u) => .ok u S
 | _ => .er
def eC (d : D) : ME := fun _ S => .ok (.v d) S
abbrev F1 := U → Sto → Option (U × Sto)
abbrev F2 := U → U → Sto → Option (U × Sto)
abbrev FA := List U → Sto → Option (U × Sto)
abbrev FM := U → List U → Sto → Option (U × Sto)
def ofO {α : Type} : Option (α × Sto) → R α
 | some (a, S) => .ok a S
 | none => .er
@[simp] theorem ofO_some {α : Type} (a : α) (S : Sto) : ofO (some (a, S)) = R.ok a S := rfl
@[simp] theorem ofO_none {α : Type} : (ofO none : R α) = R.er := rfl
def eOp (f : F2) (a b : ME) : ME := fun ρ S => (a ρ S).bind fun x S1 => (b ρ S1).bind fun y S2 => ofO (f x y S2)
def eUn (f : F1) (a : ME) : ME := fun ρ S => (a ρ S).bind fun x S1 => ofO (f x S1)
def aNil : MA := fun _ S => .ok [] S
def aCons (a : ME) (r : MA) : MA := fun ρ S => (a ρ S).bind fun x S1 => (r ρ S1).bind fun xs S2 => .ok (x :: xs) S2
def eCB (f : FA) (a : MA) : ME := fun ρ S => (a ρ S).bind fun xs S1 => ofO (f xs S1)
def eMt (f : FM) (o : ME) (a : MA) : ME := fun ρ S => (o ρ S).bind fun x S1 => (a ρ S1).bind fun xs S2 => ofO (f x xs S2)
def fTup : FA := fun us S => if us.length ≤ 100000 then (allV us).map fun ds => (.v (.tup ds), S) else none
def fLstV : FA := fun us S => if us.length ≤ 100000 then (allV us).map fun ds => (.v (.lst ds), S) else none
def fLstS : FA := fun us S => if us.length ≤ 100000 then some (.r S.length, S ++ [.lst us]) else none
def isB : U → Sto → Option (Bool × Sto)
 | .v (.bl b), S => some (b, S)
 | _, _ => none
def tB (m : ME) : MT := fun ρ S => (m ρ S).bind fun u S1 => ofO (isB u S1)
def tAnd (a b : MT) : MT := fun ρ S => (a ρ S).bind fun x S1 => if x = true then b ρ S1 else .ok false S1
def tOr (a b : MT) : MT := fun ρ S => (a ρ S).bind fun x S1 => if x = true then .ok true S1 else b ρ S1
def tNot (a : MT) : MT := fun ρ S => (a ρ S).bind fun x S1 => .ok (!x) S1
def eAnd (a b : ME) : ME := fun ρ S => (a ρ S).bind fun u S1 => (ofO (isB u S1)).bind fun x S2 => if x = true then b ρ S2 else .ok (.v (.bl false)) S2
def eOr (a b : ME) : ME := fun ρ S => (a ρ S).bind fun u S1 => (ofO (isB u S1)).bind fun x S2 => if x = true then .ok (.v (.bl true)) S2 else b ρ S2
def eNot (a : ME) : ME := fun ρ S => (a ρ S).bind fun u S1 => (ofO (isB u S1)).bind fun x S2 => .ok (.v (.bl (!x))) S2
def eIf (c : MT) (a b : ME) : ME := fun ρ S => (c ρ S).bind fun x S1 => if x = true then a ρ S1 else b ρ S1
def Fin (B : Bx) (ι : List Addr) (F : Addr → Prop) (H : Hp) (Q : VK) (o : Option (U × Sto)) : Prop :=
 ∃ u S', o = some (u, S') ∧ ∀ (v : V) (ι' : List Addr) (F' : Addr → Prop) (H' : Hp), Evo ι F H ι' F' H' → Rel B ι' F' S' H' → RepU B ι' F' H' v u → Q v H'
def liftOp (B : Bx) (f : F2) : R2 := fun x y H Q => ∃ ι F S a b, Rel B ι F S H ∧ RepU B ι F H x a ∧ RepU B ι F H y b ∧ Fin B ι F H Q (f a b S)
def liftUn (B : Bx) (f : F1) : V → Hp → VK → Prop := fun x H Q => ∃ ι F S a, Rel B ι F S H ∧ RepU B ι F H x a ∧ Fin B ι F H Q (f a S)
def liftC (B : Bx) (f : FA) : List V → Hp → VK → Prop := fun xs H Q => ∃ ι F S as, Rel B ι F S H ∧ RepUs B ι F H xs as ∧ Fin B ι F H Q (f as S)
def liftM (B : Bx) (f : FM) : V → List V → Hp → VK → Prop := fun x xs H Q => ∃ ι F S a as, Rel B ι F S H ∧ RepU B ι F H x a ∧ RepUs B ι F H xs as ∧ Fin B ι F H Q (f a as S)
section
variable {B : Bx} {W : WX} {σ : St} {ι : List Addr} {F : Addr → Prop} {H : Hp} {Q : VK}
theorem Out.fin {o : Option (U × Sto)} (h : Out B W σ ι F H (RepU B) Q (ofO o)) : Fin B ι F H Q o := by
 cases o with
 | none => exact h.elim
 | some p =>
   obtain ⟨u, S'⟩ := p
   exact ⟨u, S', rfl, fun v ι' F' H' e r z => h v ι' F' H' e r z⟩
theorem Fin.val {u : U} {S' : Sto} {v : V} (h : Fin B ι F H Q (some (u, S'))) (r : Rel B ι F S' H) (z : RepU B ι F H v u) : Q v H := by
 obtain ⟨u', S'', e, k⟩ := h
 cases e
 exact k v ι F H Evo.refl r z
theorem Fin.go {u : U} {S' : Sto} {v : V} {ι' : List Addr} {F' : Addr → Prop} {H' : Hp} (h : Fin B ι F H Q (some (u, S'))) (e : Evo ι F H ι' F' H') (r : Rel B ι' F' S' H') (z : RepU B ι' F' H' v u) : Q v H' := by
 obtain ⟨u', S'', e', k⟩ := h
 cases e'
 exact k v ι' F' H' e r z
theorem Fin.no {P : Prop} (h : Fin B ι F H Q none) : P := by
 obtain ⟨u', S'', e', k⟩ := h
 cases e'
end
section
variable {X : Cx} {cl : Nat → Addr} {W : WX} {a b c e : Expr} {es : List Expr} {ma mb mc : ME} {mA : MA} {ta tb : MT} {pos : Pos}
theorem qe_var {i : Nat} {x : Str} (hN : X.N[i]? = some x) (hv : Vis X.env.scope x) (hd : (x == ("__debug__" : Str)) = false := by decide) (hcd : (x == ("__classdict__" : Str)) = false := by decide) : QE X cl W (.Name x pos) (eVar i) :=
 PE.imp (pe_var hN hv hd hcd) fun σ H Q ⟨ι, F, S, ρ, r, en, o⟩ => by
   unfold eVar at o
   split at o
   · rename_i u e
     obtain ⟨v, h1, h2⟩ := paired_get en e
     cases v with
     | none => exact h2.elim
     | some v => exact ⟨v, h1, o v ι F H Evo.refl r h2⟩
   · exact o.elim
theorem qe_const {d : D} {v : V} (h : PE X e (tC v)) (r : ∀ F H, Rep (bx X cl) F H v d) : QE X cl W e (eC d) :=
 PE.imp h fun σ H Q ⟨ι, F, S, ρ, r', en, o⟩ => o v ι F H Evo.refl r' (.v (r F H))
theorem qe_int {i j} : QE X cl W (.Constant (.int i) j pos) (eC (.int i)) := qe_const pe_int fun _ _ => .int i
theorem qe_bl {i j} : QE X cl W (.Constant (.bool i) j pos) (eC (.bl i)) := qe_const pe_bl fun _ _ => .bl i
theorem qe_str {i j} (hs : PyData.strOk i = true := by decide +kernel) : QE X cl W (.Constant (.str i) j pos) (eC (.str i)) := qe_const pe_str fun _ _ => .str i hs
theorem qe_gInt {x : Str} {i : Int} {t : Tok} (hg : Gl X x) (hm : X.mg x = some (.int i t)) (hd : (x == ("__debug__" : Str)) = false := by decide) : QE X cl W (.Name x pos) (eC (.int i)) := qe_const (pe_glob (v := .int i) hg hm ⟨t, rfl⟩ hd) fun _ _ => .int i
theorem qe_gStr {x : Str} {i : Str} {t : Tok} (hg : Gl X x) (hm : X.mg x = some (.str i t)) (hs : PyData.strOk i = true := by decide +kernel) (hd : (x == ("__debug__" : Str)) = false := by decide) : QE X cl W (.Name x pos) (eC (.str i)) := qe_const (pe_glob (v := .str i) hg hm ⟨t, rfl⟩ hd) fun _ _ => .str i hs
theorem qe_bTy {x : Str} {i : String} (hg : Gl X x) (hm : X.mg x = none) (hv : bootBuiltins x = some (.type i)) (hn : x ≠ "__name__" := by decide) (hd : (x == ("__debug__" : Str)) = false := by decide) : QE X cl W (.Name x pos) (eC (.ty i)) := qe_const (pe_bltn (v := .ty i) hg hm hv rfl hn hd) fun _ _ => .ty i
theorem lift_op {f : F2} {σ : St} {H : Hp} {Q : VK} (h : liftE (bx X cl) W (eOp f ma mb) σ H Q) : tOp (liftOp (bx X cl) f) (liftE (bx X cl) W ma) (liftE (bx X cl) W mb) σ H Q := by
 obtain ⟨ι, F, S, ρ, r, en, o⟩ := h
 refine ⟨ι, F, S, ρ, r, en, o.bind.mono fun x H1 ⟨ι1, F1, S1, x', e1, r1, z1, o1⟩ => ?_⟩
 refine ⟨ι1, F1, S1, ρ, r1, en.mono e1, o1.bind.mono fun y H2 ⟨ι2, F2, S2, y', e2, r2, z2, o2⟩ => ?_⟩
 exact ⟨ι2, F2, S2, x', y', r2, z1.mono e2, z2, o2.fin⟩
theorem qe_op {f : F2} {op : Operator} (ho : OpR X (binaryOp op) (liftOp (bx X cl) f)) (ha : QE X cl W a ma) (hb : QE X cl W b mb) : QE X cl W (.BinOp a op b pos) (eOp f ma mb) :=
 PE.imp (pe_op ho ha hb) fun _ _ _ => lift_op
theorem qe_cmp {f : F2} {op : CmpOp} (ho : OpR X (compareOp op) (liftOp (bx X cl) f)) (ha : QE X cl W a ma) (hb : QE X cl W b mb) (hm : behindInMarks op b = false) : QE X cl W (.Compare a [op] [b] pos) (eOp f ma mb) :=
 PE.imp (pe_cmpR ho ha hb hm) fun _ _ _ => lift_op
theorem qe_ix {f : F2} (ho : IxR X (liftOp (bx X cl) f)) (ha : QE X cl W a ma) (hb : QE X cl W b mb) (hs : PlainIx b) : QE X cl W (.Subscript a b pos) (eOp f ma mb) :=
 PE.imp (pe_ix ho ha hb hs) fun _ _ _ => lift_op
theorem lift_test {m : ME} {σ : St} {H : Hp} {Q : Bool → Hp → Prop} (h : liftT (bx X cl) W (tB m) σ H Q) : tTest (liftE (bx X cl) W m) σ H Q := by
 obtain ⟨ι, F, S, ρ, r, en, o⟩ := h
 refine ⟨ι, F, S, ρ, r, en, o.bind.mono fun x H1 ⟨ι1, F1, S1, x', e1, r1, z1, o1⟩ => ?_⟩
 unfold isB at o1
 split at o1
 · rename_i b
   cases z1 with
   | v z1 =>
     cases z1
     exact ⟨b, rfl, o1 b ι1 F1 H1 Evo.refl r1 rfl⟩
 · exact o1.elim
theorem qt_cmp {f : F2} {op : CmpOp} (ho : OpR X (compareOp op) (liftOp (bx X cl) f)) (ha : QE X cl W a ma) (hb : QE X cl W b mb) (hm : behindInMarks op b = false) : QT X cl W (.Compare a [op] [b] pos) (tB (eOp f ma mb)) := by
 refine ⟨fun pins s σ H Q I h => ?_⟩
 refine (pt_cmpR ho ha hb hm).run pins s σ H Q I ?_
 obtain ⟨ι, F, S, ρ, r, en, o⟩ := lift_test h
 exact lift_op (X := X) (W := W) ⟨ι, F, S, ρ, r, en, o⟩
theorem qt_val {e : Expr} (h : QE X cl W e ma) (he : ∀ whole, isTrue e X.env whole = (do let v ← whole; standAt e.pos; holding [v] (truthy v)) := by intro _; rfl) : QT X cl W e (tB ma) :=
 PT.imp (pt_val h he) fun σ H Q h => lift_test h
theorem qt_not (ha : QT X cl W a ta) : QT X cl W (.UnaryOp .Not a pos) (tNot ta) :=
 PT.imp (pt_not ha) fun σ H Q ⟨ι, F, S, ρ, r, en, o⟩ => ⟨ι, F, S, ρ, r, en, o.bind.mono fun x H1 ⟨ι1, F1, S1, x', e1, r1, z1, o1⟩ => by
   subst z1; exact o1 _ ι1 F1 H1 Evo.refl r1 rfl⟩
def QW (X : Cx) (cl : Nat → Addr) (W : WX) (e : Expr) (m : MT) : Prop := PW X e (liftT (bx X cl) W m)
theorem PW.imp {X : Cx} {e : Expr} {t t' : TT} (h : PW X e t) (k : ∀ σ H Q, t' σ H Q → t σ H Q) : PW X e t' := ⟨fun wh pins s σ H Q I hq => h.run wh pins s σ H Q I (k σ H Q hq)⟩
theorem qt_w (h : QW X cl W e ta) : QT X cl W e ta := PW.pt h
variable {rest : List Expr}
theorem qw_and1 (ha : QT X cl W a ta) : QW X cl W (.BoolOp .And [a] pos) ta := pw_and1 ha
theorem qw_or1 (ha : QT X cl W a ta) : QW X cl W (.BoolOp .Or [a] pos) ta := pw_or1 ha
theorem qw_and (ha : QT X cl W a ta) (hb : QW X cl W (.BoolOp .And (b :: rest) pos) tb) : QW X cl W (.BoolOp .And (a :: b :: rest) pos) (tAnd ta tb) :=
 PW.imp (pw_and ha hb) fun σ H Q ⟨ι, F, S, ρ, r, en, o⟩ => ⟨ι, F, S, ρ, r, en, o.bind.mono fun x H1 ⟨ι1, F1, S1, x', e1, r1, z1, o1⟩ => by
   subst z1
   cases x with
   | true => exact ⟨ι1, F1, S1, ρ, r1, en.mono e1, o1⟩
   | false => exact o1 _ ι1 F1 H1 Evo.refl r1 rfl⟩
theorem qw_or (ha : QT X cl W a ta) (hb : QW X cl W (.BoolOp .Or (b :: rest) pos) tb) : QW X cl W (.BoolOp .Or (a :: b :: rest) pos) (tOr ta tb) :=
 PW.imp (pw_or ha hb) fun σ H Q ⟨ι, F, S, ρ, r, en, o⟩ => ⟨ι, F, S, ρ, r, en, o.bind.mono fun x H1 ⟨ι1, F1, S1, x', e1, r1, z1, o1⟩ => by
   subst z1
   cases x with
   | true => exact o1 _ ι1 F1 H1 Evo.refl r1 rfl
   | false => exact ⟨ι1, F1, S1, ρ, r1, en.mono e1, o1⟩⟩
theorem qe_one {op} (h : QE X cl W a ma) : QE X cl W (.BoolOp op [a] pos) ma := pe_one h
theorem qe_and (ha : QE X cl W a ma) (hb : QE X cl W (.BoolOp .And (b :: rest) pos) mb) : QE X cl W (.BoolOp .And (a :: b :: rest) pos) (eAnd ma mb) :=
 PE.imp (pe_and ha hb) fun σ H Q ⟨ι, F, S, ρ, r, en, o⟩ => ⟨ι, F, S, ρ, r, en, o.bind.mono fun x H1 ⟨ι1, F1, S1, x', e1, r1, z1, o1⟩ => by
   unfold isB at o1
   split at o1
   · rename_i b
     cases z1 with
     | v z1 =>
       cases z1
       refine ⟨b, rfl, ?_⟩
       cases b with
       | true => exact ⟨ι1, F1, S1, ρ, r1, en.mono e1, o1⟩
       | false => exact o1 _ ι1 F1 H1 Evo.refl r1 (.v (.bl false))
   · exact o1.elim⟩
theorem qe_not (ha : QE X cl W a ma) : QE X cl W (.UnaryOp .Not a pos) (eNot ma) :=
 PE.imp (pe_not ha) fun σ H Q ⟨ι, F, S, ρ, r, en, o⟩ => ⟨ι, F, S, ρ, r, en, o.bind.mono fun x H1 ⟨ι1, F1, S1, x', e1, r1, z1, o1⟩ => by
   unfold isB at o1
   split at o1
   · rename_i b
     cases z1 with
     | v z1 =>
       cases z1
       exact ⟨b, rfl, o1 _ ι1 F1 H1 Evo.refl r1 (.v (.bl _))⟩
   · exact o1.elim⟩
theorem qe_un {f : F1} {op : UnaryOp} (ho : UnR X (unaryOp op) (liftUn (bx X cl) f)) (ha : QE X cl W a ma) : QE X cl W (.UnaryOp op a pos) (eUn f ma) :=
 PE.imp (pe_un ho ha) fun σ H Q ⟨ι, F, S, ρ, r, en, o⟩ => ⟨ι, F, S, ρ, r, en, o.bind.mono fun x H1 ⟨ι1, F1, S1, x', e1, r1, z1, o1⟩ => ⟨ι1, F1, S1, x', r1, z1, o1.fin⟩⟩
theorem qa_nil : QA X cl W [] aNil := PA.imp pa_nil fun σ H Q ⟨ι, F, S, ρ, r, en, o⟩ => o [] ι F H Evo.refl r .nil
theorem qa_cons (ha : QE X cl W e ma) (hr : QA X cl W es mA) (hs : starEach (e :: es) X.env = (false, eval e X.env) :: starEach es X.env := by rfl) : QA X cl W (e :: es) (aCons ma mA) :=
 PA.imp (pa_cons ha hr hs) fun σ H Q ⟨ι, F, S, ρ, r, en, o⟩ => ⟨ι, F, S, ρ, r, en, o.bind.mono fun x H1 ⟨ι1, F1, S1, x', e1, r1, z1, o1⟩ =>
   ⟨ι1, F1, S1, ρ, r1, en.mono e1, o1.bind.mono fun y H2 ⟨ι2, F2, S2, y', e2, r2, z2, o2⟩ => o2 _ ι2 F2 H2 Evo.refl r2 (.cons (z1.mono e2) z2)⟩⟩
theorem sz {n : Nat} (h : n ≤ 100000) : n ≤ sizeLine := Nat.le_trans h (by decide)
theorem qe_tup {k : Nat} (h : QA X cl W es mA) : QE X cl W (.Tuple es k pos) (eCB fTup mA) :=
 PE.imp (pe_tupZ h) fun σ H Q ⟨ι, F, S, ρ, r, en, o⟩ => ⟨ι, F, S, ρ, r, en, o.bind.mono fun x H1 ⟨ι1, F1, S1, x', e1, r1, z1, o1⟩ => by
   have o2 := o1.fin
   unfold fTup at o2
   split at o2
   · rename_i hl
     cases ea : allV x' with
     | none => rw [ea] at o2; exact o2.no
     | some ds =>
       rw [ea] at o2
       rw [allV_some ea] at z1 hl
       refine ⟨sz (by rw [paired_len z1]; exact hl), fun p ob hob hp => ?_⟩
       exact o2.go (Evo.new hp) (r1.new hp) (.v (.tup ⟨ob, hob, upd_same⟩ ((repus_reps z1).mono (ι := ι1) (ι' := ι1) (Evo.new hp))))
   · exact o2.no⟩
theorem qe_lstV (h : QA X cl W es mA) : QE X cl W (.List es pos) (eCB fLstV mA) :=
 PE.imp (pe_lst h) fun σ H Q ⟨ι, F, S, ρ, r, en, o⟩ => ⟨ι, F, S, ρ, r, en, o.bind.mono fun x H1 ⟨ι1, F1, S1, x', e1, r1, z1, o1⟩ => by
   have o2 := o1.fin
   unfold fLstV at o2
   split at o2
   · rename_i hl
     cases ea : allV x' with
     | none => rw [ea] at o2; exact o2.no
     | some ds =>
       rw [ea] at o2
       rw [allV_some ea] at z1 hl
       refine ⟨sz (by rw [paired_len z1]; exact hl), fun p hp => ?_⟩
       exact o2.go (Evo.newF hp) (r1.newF hp) (.v (.lst (.inr rfl) upd_same ((repus_reps z1).mono (ι := ι1) (ι' := ι1) (Evo.newF hp))))
   · exact o2.no⟩
theorem qe_lstS (h : QA X cl W es mA) : QE X cl W (.List es pos) (eCB fLstS mA) :=
 PE.imp (pe_lst h) fun σ H Q ⟨ι, F, S, ρ, r, en, o⟩ => ⟨ι, F, S, ρ, r, en, o.bind.mono fun x H1 ⟨ι1, F1, S1, x', e1, r1, z1, o1⟩ => by
   have o2 := o1.fin
   unfold fLstS at o2
   split at o2
   · rename_i hl
     refine ⟨sz (by rw [paired_len z1]; exact hl), fun p hp => ?_⟩
     have e2 : Evo ι1 F1 H1 (ι1 ++ [p]) F1 (upd H1 p (.lst x)) := Evo.newS hp
     exact o2.go e2 (r1.newS hp nofun ⟨x, upd_same, z1.mono e2⟩) (.r (by rw [← r1.len]; simp))
   · exact o2.no⟩
theorem qe_callB {f : FA} {x : Str} {id : String} {p : Pos} (hc : CallR X (.builtin id) (liftC (bx X cl) f)) (hg : Gl X x) (hm : X.mg x = none) (hv : bootBuiltins x = some (.builtin id)) (ha : QA X cl W (e :: es) mA) (hn : x ≠ "__name__" := by decide) (hdb : (x == ("__debug__" : Str)) = false := by decide)
   (he : starEach (e :: es) X.env = (false, eval e X.env) :: starEach es X.env := by rfl) (hpl : (backTo pos (starEach es X.env)).any (·.1) = false := by rfl) : QE X cl W (.Call (.Name x p) (e :: es) [] pos) (eCB f mA) :=
 PE.imp (pe_callB hc hg hm hv ha hn hdb he hpl) fun σ H Q ⟨ι, F, S, ρ, r, en, o⟩ => ⟨ι, F, S, ρ, r, en, o.bind.mono fun x H1 ⟨ι1, F1, S1, x', e1, r1, z1, o1⟩ => ⟨ι1, F1, S1, x', r1, z1, o1.fin⟩⟩
theorem qe_callTy {f : FA} {x : Str} {T : String} {p : Pos} (hc : CallR X (.type T) (liftC (bx X cl) f)) (hg : Gl X x) (hm : X.mg x = none) (hv : bootBuiltins x = some (.type T)) (ha : QA X cl W (e :: es) mA) (hn : x ≠ "__name__" := by decide) (hdb : (x == ("__debug__" : Str)) = false := by decide)
   (he : starEach (e :: es) X.env = (false, eval e X.env) :: starEach es X.env := by rfl) (hpl : (backTo pos (starEach es X.env)).any (·.1) = false := by rfl) : QE X cl W (.Call (.Name x p) (e :: es) [] pos) (eCB f mA) :=
 PE.imp (pe_callTy hc hg hm hv ha hn hdb he hpl) fun σ H Q ⟨ι, F, S, ρ, r, en, o⟩ => ⟨ι, F, S, ρ, r, en, o.bind.mono fun x H1 ⟨ι1, F1, S1, x', e1, r1, z1, o1⟩ => ⟨ι1, F1, S1, x', r1, z1, o1.fin⟩⟩
end
end Pu
namespace Pu
open PySem L2
def R.st {α : Type} (r : R α) (ρ : Env') (k : α → Sto → RS) : RS := match r with
 | .ok a S => k a S
 | .ex c fs S => .ex c fs ρ S
 | .er => .er
@[simp] theorem R.st_ok {α : Type} (a : α) (S : Sto) (ρ : Env') (k : α → Sto → RS) : (R.ok a S).st ρ k = k a S := rfl
@[simp] theorem R.st_ex {α : Type} (c : Nat) (fs : List (Str × U)) (S : Sto) (ρ : Env') (k : α → Sto → RS) : (R.ex c fs S : R α).st ρ k = .ex c fs ρ S := rfl
@[simp] theorem R.st_er {α : Type} (ρ : Env') (k : α → Sto → RS) : (R.er : R α).st ρ k = .er := rfl
def sNext : MS := fun ρ S => .nx ρ S
def sSeq (a b : MS) : MS := fun ρ S => match a ρ S with
 | .nx ρ1 S1 => b ρ1 S1
 | r => r
def sAsg (m : ME) (g : MG) : MS := fun ρ S => (m ρ S).st ρ fun u S1 => match g u ρ with
 | some ρ' => .nx ρ' S1
 | none => .er
def sExpr (m : ME) : MS := fun ρ S => (m ρ S).st ρ fun _ S1 => .nx ρ S1
def sRet (m : ME) : MS := fun ρ S => (m ρ S).st ρ fun u S1 => .rt u S1
def sRetN : MS := fun ρ S => .rt (.v .non) S
def sIf (c : MT) (a b : MS) : MS := fun ρ S => (c ρ S).st ρ fun x S1 => if x = true then a ρ S1 else b ρ S1
def sBrk : MS := fun ρ S => .bk ρ S
def sCont : MS := fun ρ S => .ct ρ S
def sNever : MS := fun _ _ => .er
def gName (i : Nat) : MG := fun u ρ => some (ρ.set i (some u))
abbrev MGs := List U → Env' → Option Env'
def gNil : MGs := fun us ρ => match us with
 | [] => some ρ
 | _ => none
def gCons (g : MG) (gs : MGs) : MGs := fun us ρ => match us with
 | u :: us => (g u ρ).bind fun ρ1 => gs us ρ1
 | [] => none
def gTup (n : Nat) (gs : MGs) : MG := fun u ρ => match u with
 | .v (.tup ds) => if ds.length = n then gs (ds.map U.v) ρ else none
 | _ => none
section
variable {B : Bx} {W : WX} {ι : List Addr} {F : Addr → Prop} {H : Hp} {D : Ends}
theorem OutS.st {α β : Type} {rep : List Addr → (Addr → Prop) → Hp → β → α → Prop} {σ : St} {ρ : Env'} {r : R α} {k : α → Sto → RS} (en : REnv B ι F H σ ρ) (h : OutS B W ι F H D (r.st ρ k)) :
   Out B W σ ι F H rep (fun b H1 => ∃ ι1 F1 S1 a, Evo ι F H ι1 F1 H1 ∧ Rel B ι1 F1 S1 H1 ∧ rep ι1 F1 H1 b a ∧ OutS B W ι1 F1 H1 D (k a S1)) r := by
 cases r with
 | ok a S' => exact fun b ι' F' H' e' r' z => ⟨ι', F', S', a, e', r', z, OutS.shift e' h⟩
 | ex c fs S' => exact h σ ι F H Evo.refl en
 | er => exact h
end
section
variable {X : Cx} {cl : Nat → Addr} {W : WX} {a b c e tg : Expr} {es : List Expr} {ma mb : ME} {tc : MT} {st : Stmt} {rest body : List Stmt} {s1 s2 : MS} {g : MG} {gs : MGs} {pos : Pos}
theorem qss_nil : QSs X cl W [] sNext := PSs.imp pss_nil fun D σ H ⟨ι, F, S, ρ, r, en, o⟩ => o σ ι F H Evo.refl r en
theorem qss_cons (h1 : QS X cl W st s1) (h2 : QSs X cl W rest s2) : QSs X cl W (st :: rest) (sSeq s1 s2) :=
 PSs.imp (pss_cons h1 h2) fun D σ H ⟨ι, F, S, ρ, r, en, o⟩ => by
   refine ⟨ι, F, S, ρ, r, en, ?_⟩
   unfold sSeq at o
   cases q : s1 ρ S with
   | nx ρ1 S1 => rw [q] at o; exact fun σ' ι' F' H' e r' en' => ⟨ι', F', S1, ρ1, r', en', OutS.shift e o⟩
   | rt u S1 => rw [q] at o; exact o
   | bk ρ1 S1 => rw [q] at o; exact o
   | ct ρ1 S1 => rw [q] at o; exact o
   | ex c fs ρ1 S1 => rw [q] at o; exact o
   | er => rw [q] at o; exact o
theorem qss_one (h1 : QS X cl W st s1) : QSs X cl W [st] s1 := pss_one h1
theorem qs_expr (he : QE X cl W e ma) (hs : swapsWith e none pos.line X.env = pure false := by rfl) : QS X cl W (.Expr e pos) (sExpr ma) :=
 PS.imp (ps_expr he hs) fun D σ H ⟨ι, F, S, ρ, r, en, o⟩ => ⟨ι, F, S, ρ, r, en, (o.st en).mono fun v H1 ⟨ι1, F1, S1, u, e1, r1, z1, o1⟩ => o1 σ ι1 F1 H1 Evo.refl r1 (en.mono e1)⟩
theorem qs_ret (he : QE X cl W e ma) : QS X cl W (.Return (some e) pos) (sRet ma) :=
 PS.imp (ps_ret he) fun D σ H ⟨ι, F, S, ρ, r, en, o⟩ => ⟨ι, F, S, ρ, r, en, (o.st en).mono fun v H1 ⟨ι1, F1, S1, u, e1, r1, z1, o1⟩ => o1 v ι1 F1 H1 Evo.refl r1 z1⟩
theorem qs_if (hc : QT X cl W c tc) (ha : QSs X cl W body s1) (hb : QSs X cl W rest s2) : QS X cl W (.If c body rest pos) (sIf tc s1 s2) :=
 PS.imp (ps_if hc ha hb) fun D σ H ⟨ι, F, S, ρ, r, en, o⟩ => ⟨ι, F, S, ρ, r, en, (o.st en).mono fun x H1 ⟨ι1, F1, S1, x', e1, r1, z1, o1⟩ => by
   subst z1
   cases x with
   | true => exact ⟨ι1, F1, S1, ρ, r1, en.mono e1, o1⟩
   | false => exact ⟨ι1, F1, S1, ρ, r1, en.mono e1, o1⟩⟩
theorem qg_name {i : Nat} {x : Str} (hN : X.N.Nodup) (hi : X.N[i]? = some x) (hx : Loc X.env.scope x) (hf : X.fn x = true ∨ X.env.scope.names.lookup x = some .local := by first | exact .inl rfl | exact .inr rfl | assumption) : QG X cl (.Name x pos) [i] (gName i) :=
 PG.imp (pg_name hN hi hx hf) fun v σ H Q ⟨ι, F, S, ρ, u, ρ', r, en, z, e, o⟩ => by
   unfold gName at e
   cases e
   exact o _ (paired_set (P := RepO (bx X cl) ι F H) (x := some v) (y := some u) z i en) (fun j hj => List.getElem?_set_ne (fun e => hj (by simp [e]))) (by simp)
def QGs (X : Cx) (cl : Nat → Addr) (ts : List Expr) (js : List Nat) (m : MGs) : Prop :=
 PGs X ts fun vs σ H Q => ∃ ι F S ρ us ρ', Rel (bx X cl) ι F S H ∧ REnv (bx X cl) ι F H σ ρ ∧ RepUs (bx X cl) ι F H vs us ∧ m us ρ = some ρ' ∧ ∀ σ', REnv (bx X cl) ι F H σ' ρ' → (∀ i, i ∉ js → σ'[i]? = σ[i]?) → σ'.length = σ.length → Q σ' H
theorem PGs.imp {X : Cx} {e : List Expr} {t t' : TGs} (h : PGs X e t) (k : ∀ v σ H Q, t' v σ H Q → t v σ H Q) : PGs X e t' := ⟨fun pins s σ H v u Q I r hq => h.run pins s σ H v u Q I r (k v σ H Q hq)⟩
theorem qgs_nil : QGs X cl [] [] gNil := PGs.imp pgs_nil fun vs σ H Q ⟨ι, F, S, ρ, us, ρ', r, en, z, e, o⟩ => by
 cases z with
 | nil => cases e; exact ⟨rfl, o σ en (fun _ _ => rfl) rfl⟩
 | cons _ _ => cases e
theorem qgs_cons {js ks : List Nat} (h1 : QG X cl e js g) (h2 : QGs X cl es ks gs) (hs : (assignEach (e :: es) X.env).map (·.2) = assign e X.env :: (assignEach es X.env).map (·.2) := by rfl) : QGs X cl (e :: es) (js ++ ks) (gCons g gs) :=
 PGs.imp (pgs_cons h1 h2 hs) fun vs σ H Q ⟨ι, F, S, ρ, us, ρ', r, en, z, e, o⟩ => by
   cases z with
   | nil => cases e
   | @cons v u vs us z1 zs =>
     unfold gCons at e
     cases q : g u ρ with
     | none => simp [q] at e
     | some ρ1 =>
       simp [q] at e
       exact ⟨v, vs, rfl, ι, F, S, ρ, u, ρ1, r, en, z1, q, fun σ1 en1 k1 l1 => ⟨ι, F, S, ρ1, us, ρ', r, en1, zs, e, fun σ2 en2 k2 l2 => o σ2 en2 (fun i hi => by
         simp only [List.mem_append, not_or] at hi
         rw [k2 i hi.2, k1 i hi.1]) (l2.trans l1)⟩⟩
theorem qg_tup {k n : Nat} {js : List Nat} (hc : X.calm = true) (h : QGs X cl es js gs) (hn : (assignEach es X.env).length = n := by rfl) (hst : (assignEach es X.env).findIdx? (·.1) = none := by rfl) : QG X cl (.Tuple es k pos) js (gTup n gs) :=
 PG.imp (pg_tup hc h hn hst) fun v σ H Q ⟨ι, F, S, ρ, u, ρ', r, en, z, e, o⟩ => by
   unfold gTup at e
   split at e
   · rename_i ds
     split at e
     · rename_i hl
       cases z with
       | v z =>
         cases z with
         | tup ha zs => exact ⟨_, _, rfl, ha.sq, by rw [paired_len (reps_iff.mp zs)]; exact hl, ι, F, S, ρ, ds.map U.v, ρ', r, en, reps_u zs, e, o⟩
     · cases e
   · cases e
theorem qs_asg {js : List Nat} (he : QE X cl W e ma) (hg : QG X cl tg js g) (hs : swapsWithSole [tg] e pos.line X.env = pure false := by rfl) (hw : swappedStores [tg] e X.env = pure none := by rfl)
   (h1 : (assignEach [tg] X.env).map (·.2) = [assign tg X.env] := by rfl) : QS X cl W (.Assign [tg] e pos) (sAsg ma g) :=
 PS.imp (ps_asg he hg hs hw h1) fun D σ H ⟨ι, F, S, ρ, r, en, o⟩ => ⟨ι, F, S, ρ, r, en, (o.st en).mono fun v H1 ⟨ι1, F1, S1, u, e1, r1, z1, o1⟩ => by
   cases q : g u ρ with
   | none => rw [q] at o1; exact o1.elim
   | some ρ' => rw [q] at o1; exact ⟨ι1, F1, S1, ρ, u, ρ', r1, en.mono e1, z1, q, fun σ' en' _ _ => o1 σ' ι1 F1 H1 Evo.refl r1 en'⟩⟩
theorem qs_set {i : Nat} {x : Str} {pos' : Pos} (hN : X.N.Nodup) (hi : X.N[i]? = some x) (hx : Loc X.env.scope x) (he : QE X cl W e ma) (hs : swapsWith e (some (.Name x pos')) pos.line X.env = pure false := by rfl) (hf : X.fn x = true ∨ X.env.scope.names.lookup x = some .local := by first | exact .inl rfl | exact .inr rfl | assumption) :
   QS X cl W (.Assign [.Name x pos'] e pos) (sAsg ma (gName i)) :=
 PS.imp (ps_set hN hi hx he hs hf) fun D σ H ⟨ι, F, S, ρ, r, en, o⟩ => ⟨ι, F, S, ρ, r, en, (o.st en).mono fun v H1 ⟨ι1, F1, S1, u, e1, r1, z1, o1⟩ =>
   o1 _ ι1 F1 H1 Evo.refl r1 (paired_set (P := RepO (bx X cl) ι1 F1 H1) (x := some v) (y := some u) z1 i (en.mono e1))⟩
end
structure IterV where
 items : List U
 src : Option Nat
abbrev MI := Env' → Sto → R IterV
def Walk (B : Bx) (J : It) (iv : IterV) (S0 : Sto) (ι0 : List Addr) (F0 : Addr → Prop) (H0 : Hp) : Prop :=
 ∀ (i : Nat) (ι : List Addr) (F : Addr → Prop) (S : Sto) (H : Hp), Evo ι0 F0 H0 ι F H → Rel B ι F S H → (∀ n, iv.src = some n → S[n]? = S0[n]?) →
   (i < iv.items.length → J.go i H ∧ ∀ x H', J.yld i H x H' → Evo ι F H ι F H' ∧ Rel B ι F S H' ∧ ∀ u, iv.items[i]? = some u → RepU B ι F H' x u) ∧ (iv.items.length ≤ i → J.stop i H)
def liftI (B : Bx) (W : WX) (m : MI) : TI := fun σ H Q => ∃ ι F S ρ, Rel B ι F S H ∧ REnv B ι F H σ ρ ∧ match m ρ S with
 | .ok iv S' => ∀ (J : It) (ι' : List Addr) (F' : Addr → Prop) (H' : Hp), Evo ι F H ι' F' H' → Rel B ι' F' S' H' → Walk B J iv S' ι' F' H' → Q J H'
 | .ex c fs S' => OutX B W σ ι F H c fs S'
 | .er => False
def QI (X : Cx) (cl : Nat → Addr) (W : WX) (tg iter : Expr) (m : MI) : Prop := PI X tg iter (liftI (bx X cl) W m)
theorem PI.imp {X : Cx} {tg e : Expr} {t t' : TI} (h : PI X tg e t) (k : ∀ σ H Q, t' σ H Q → t σ H Q) : PI X tg e t' := ⟨fun pins s σ H Q I hq => h.run pins s σ H Q I (k σ H Q hq)⟩
def srcOk (src : Option Nat) (c0 : Option Cell) (S : Sto) : Prop := match src with
 | none => True
 | some n => S[n]? = c0
noncomputable instance (src : Option Nat) (c0 : Option Cell) (S : Sto) : Decidable (srcOk src c0 S) := Classical.propDecidable _
noncomputable def forGo (src : Option Nat) (c0 : Option Cell) (g : MG) (body : MS) : List U → Env' → Sto → RS
 | [], ρ, S => .nx ρ S
 | u :: us, ρ, S => match g u ρ with
   | none => .er
   | some ρ1 => match body ρ1 S with
     | .nx ρ2 S2 => if srcOk src c0 S2 then forGo src c0 g body us ρ2 S2 else .er
     | .ct ρ2 S2 => if srcOk src c0 S2 then forGo src c0 g body us ρ2 S2 else .er
     | .bk ρ2 S2 => .nx ρ2 S2
     | r => r
noncomputable def sFor (it : MI) (g : MG) (body : MS) : MS := fun ρ S => (it ρ S).st ρ fun iv S1 => forGo iv.src (iv.src.bind fun n => S1[n]?) g body iv.items ρ S1
def whileN (c : MT) (body : MS) : Nat → Env' → Sto → RS
 | 0, _, _ => .er
 | n + 1, ρ, S => (c ρ S).st ρ fun x S1 => if x = true then (match body ρ S1 with
     | .nx ρ2 S2 => whileN c body n ρ2 S2
     | .ct ρ2 S2 => whileN c body n ρ2 S2
     | .bk ρ2 S2 => .nx ρ2 S2
     | r => r) else .nx ρ S1
open Classical in
noncomputable def sWhile (c : MT) (body : MS) : MS := fun ρ S => if h : ∃ n, whileN c body n ρ S ≠ .er then whileN c body h.choose ρ S else .er
theorem whileN_mono {c : MT} {body : MS} : ∀ {n m : Nat} {ρ : Env'} {S : Sto}, n ≤ m → whileN c body n ρ S ≠ .er → whileN c body m ρ S = whileN c body n ρ S
 | 0, _, _, _, _, h => absurd rfl h
 | n + 1, 0, _, _, h, _ => by omega
 | n + 1, m + 1, ρ, S, hl, h => by
   unfold whileN at h ⊢
   cases q : c ρ S with
   | er => rfl
   | ex c fs S1 => rfl
   | ok x S1 =>
     rw [q] at h
     simp only [R.st_ok] at h ⊢
     split
     · rename_i hx
       rw [if_pos hx] at h
       cases qb : body ρ S1 with
       | nx ρ2 S2 => rw [qb] at h; exact whileN_mono (by omega) h
       | ct ρ2 S2 => rw [qb] at h; exact whileN_mono (by omega) h
       | bk ρ2 S2 => rfl
       | rt u S2 => rfl
       | ex c fs ρ2 S2 => rfl
       | er => rfl
     · rfl
theorem sWhile_eq {c : MT} {body : MS} {n : Nat} {ρ : Env'} {S : Sto} (h : whileN c body n ρ S ≠ .er) : sWhile c body ρ S = whileN c body n ρ S := by
 have hx : ∃ n, whileN c body n ρ S ≠ .er := ⟨n, h⟩
 unfold sWhile
 rw [dif_pos hx]
 rcases Nat.le_total n hx.choose with l | l
 · exact whileN_mono l h
 · exact (whileN_mono l hx.choose_spec).symm
section
variable {X : Cx} {cl : Nat → Addr} {W : WX} {c tg iter : Expr} {body : List Stmt} {mi : MI} {tc : MT} {mb : MS} {g : MG} {pos : Pos}
theorem qs_for {js : List Nat} (hp : PassesOwn (model X.prog X.w) X.A X.env X.xe) (hc : X.calm = true) (hi : QI X cl W tg iter mi) (hg : QG X cl tg js g) (hb : QSs X cl W body mb)
   (hs : ∀ x, foldedSetIterable iter X.env x = pure x := by intro _; rfl) : QS X cl W (.For tg iter body [] pos) (sFor mi g mb) :=
 PS.imp (ps_for hp hc hi hg hb hs) fun D σ H ⟨ι, F, S, ρ, r, en, o⟩ => by
   refine ⟨ι, F, S, ρ, r, en, ?_⟩
   unfold sFor at o
   cases q : mi ρ S with
   | er => rw [q] at o; exact o
   | ex k fs S1 => rw [q] at o; exact o σ ι F H Evo.refl en
   | ok iv S1 =>
     rw [q] at o
     intro J ι1 F1 H1 e1 r1 wk
     have o1 : OutS (bx X cl) W ι1 F1 H1 D (forGo iv.src (iv.src.bind fun n => S1[n]?) g mb iv.items ρ S1) := OutS.shift e1 o
     refine ⟨fun i m σ' H' => m = iv.items.length - i ∧ i ≤ iv.items.length ∧ ∃ ι2 F2 S2 ρ2, Evo ι1 F1 H1 ι2 F2 H' ∧ Rel (bx X cl) ι2 F2 S2 H' ∧ REnv (bx X cl) ι2 F2 H' σ' ρ2 ∧ srcOk iv.src (iv.src.bind fun n => S1[n]?) S2 ∧
       OutS (bx X cl) W ι2 F2 H' D (forGo iv.src (iv.src.bind fun n => S1[n]?) g mb (iv.items.drop i) ρ2 S2), ⟨iv.items.length, by simp, by simp, ι1, F1, S1, ρ, Evo.refl, r1, en.mono e1, ?_, by simpa using o1⟩, ?_⟩
     · unfold srcOk; split
       · trivial
       · rename_i n hn; simp [hn]
     · rintro i m σ2 H2 ⟨rfl, hi, ι2, F2, S2, ρ2, e2, r2, en2, so, o2⟩
       have so' : ∀ n, iv.src = some n → S2[n]? = S1[n]? := fun n hn => by
         unfold srcOk at so
         rw [hn] at so
         simpa [hn] using so
       obtain ⟨w1, w2⟩ := wk i ι2 F2 S2 H2 e2 r2 so'
       by_cases hlt : i < iv.items.length
       · obtain ⟨go, yl⟩ := w1 hlt
         refine .inr ⟨go, fun σ' H' => i + 1 ≤ iv.items.length ∧ ∃ ι3 F3 S3 ρ3, Evo ι1 F1 H1 ι3 F3 H' ∧ Rel (bx X cl) ι3 F3 S3 H' ∧ REnv (bx X cl) ι3 F3 H' σ' ρ3 ∧ srcOk iv.src (iv.src.bind fun n => S1[n]?) S3 ∧
           OutS (bx X cl) W ι3 F3 H' D (forGo iv.src (iv.src.bind fun n => S1[n]?) g mb (iv.items.drop (i + 1)) ρ3 S3), fun σ' H' p => ⟨iv.items.length - (i + 1), by omega, rfl, p⟩, fun x H' y => ?_⟩
         obtain ⟨e3, r3, z3⟩ := yl x H' y
         have hd : iv.items.drop i = iv.items[i] :: iv.items.drop (i + 1) := List.drop_eq_getElem_cons hlt
         rw [hd] at o2
         unfold forGo at o2
         cases qg : g iv.items[i] ρ2 with
         | none => rw [qg] at o2; exact o2.elim
         | some ρ3 =>
           rw [qg] at o2
           have o3 := OutS.shift e3 o2
           refine ⟨ι2, F2, S2, ρ2, iv.items[i], ρ3, r3, en2.mono e3, z3 _ (by simp [hlt]), qg, fun σ3 en3 _ _ => ⟨ι2, F2, S2, ρ3, r3, en3, ?_⟩⟩
           simp only at o3
           cases qb : mb ρ3 S2 with
           | nx ρ4 S4 =>
             rw [qb] at o3
             simp only at o3
             split at o3
             · rename_i hs
               exact fun σ' ι' F' H'' e' r' en' => ⟨hlt, ι', F', S4, ρ4, (e2.trans e3).trans e', r', en', hs, OutS.shift e' o3⟩
             · exact o3.elim
           | ct ρ4 S4 =>
             rw [qb] at o3
             simp only at o3
             split at o3
             · rename_i hs
               exact fun σ' ι' F' H'' e' r' en' => ⟨hlt, ι', F', S4, ρ4, (e2.trans e3).trans e', r', en', hs, OutS.shift e' o3⟩
             · exact o3.elim
           | bk ρ4 S4 => rw [qb] at o3; exact o3
           | rt u S4 => rw [qb] at o3; exact o3
           | ex k fs ρ4 S4 => rw [qb] at o3; exact o3
           | er => rw [qb] at o3; exact o3
       · have hd : iv.items.drop i = [] := List.drop_eq_nil_of_le (by omega)
         rw [hd] at o2
         exact .inl ⟨w2 (by omega), o2 σ2 ι2 F2 H2 Evo.refl r2 en2⟩
theorem qs_while (hp : PassesOwn (model X.prog X.w) X.A X.env X.xe) (hc : QT X cl W c tc) (hb : QSs X cl W body mb) : QS X cl W (.While c body [] pos) (sWhile tc mb) :=
 PS.imp (ps_while hp hc hb) fun D σ H ⟨ι, F, S, ρ, r, en, o⟩ => by
   unfold sWhile at o
   split at o
   · rename_i hx
     refine ⟨fun m σ' H' => ∃ ι1 F1 S1 ρ1, Rel (bx X cl) ι1 F1 S1 H' ∧ REnv (bx X cl) ι1 F1 H' σ' ρ1 ∧ OutS (bx X cl) W ι1 F1 H' D (whileN tc mb m ρ1 S1), ⟨_, ι, F, S, ρ, r, en, o⟩, ?_⟩
     rintro m σ1 H1 ⟨ι1, F1, S1, ρ1, r1, en1, o1⟩
     cases m with
     | zero => exact o1.elim
     | succ m =>
       unfold whileN at o1
       refine ⟨ι1, F1, S1, ρ1, r1, en1, (o1.st en1).mono fun x H2 ⟨ι2, F2, S2, x', e2, r2, z2, o2⟩ => ?_⟩
       subst z2
       cases x with
       | false => exact o2 σ1 ι2 F2 H2 Evo.refl r2 (en1.mono e2)
       | true =>
         refine ⟨fun σ' H' => ∃ ι1 F1 S1 ρ1, Rel (bx X cl) ι1 F1 S1 H' ∧ REnv (bx X cl) ι1 F1 H' σ' ρ1 ∧ OutS (bx X cl) W ι1 F1 H' D (whileN tc mb m ρ1 S1), fun σ' H' p => ⟨m, Nat.lt_succ_self m, p⟩, ι2, F2, S2, ρ1, r2, en1.mono e2, ?_⟩
         simp only [if_true] at o2
         cases qb : mb ρ1 S2 with
         | nx ρ4 S4 => rw [qb] at o2; exact fun σ' ι' F' H'' e' r' en' => ⟨ι', F', S4, ρ4, r', en', OutS.shift e' o2⟩
         | ct ρ4 S4 => rw [qb] at o2; exact fun σ' ι' F' H'' e' r' en' => ⟨ι', F', S4, ρ4, r', en', OutS.shift e' o2⟩
         | bk ρ4 S4 => rw [qb] at o2; exact o2
         | rt u S4 => rw [qb] at o2; exact o2
         | ex k fs ρ4 S4 => rw [qb] at o2; exact o2
         | er => rw [qb] at o2; exact o2
   · exact o.elim
end
end Pu
namespace Pu
open PySem L2
def optAll {α β : Type} (f : α → Option β) : List α → Option (List β)
 | [] => some []
 | x :: xs => match f x with
   | some y => (optAll f xs).map (y :: ·)
   | none => none
def frz (n : Nat) : Nat → Sto → U → Option D
 | _, _, .v d => some d
 | 0, _, .r _ => none
 | k + 1, S, .r m => if m < n then none else match S[m]? with
   | some (.lst xs) => (optAll (frz n k S) xs).map D.lst
   | some (.tpc xs) => (optAll (frz n k S) xs).map D.tup
   | some (.dic kvs) => (optAll (fun p : D × U => (frz n k S p.2).map fun d => (p.1, d)) kvs).map D.dic
   | some (.ins c fs) => (optAll (fun p : Str × U => (frz n k S p.2).map fun d => (p.1, d)) fs).map (D.ins c)
   | _ => none
@[simp] theorem frz_v (n k : Nat) (S : Sto) (d : D) : frz n k S (.v d) = some d := by cases k <;> rfl
theorem optAll_vals {f : U → Option D} (h : ∀ d, f (.v d) = some d) : ∀ ds : List D, optAll f (ds.map U.v) = some ds
 | [] => rfl
 | d :: ds => by simp [optAll, h, optAll_vals h ds]
@[simp] theorem optAll_frz (n k : Nat) (S : Sto) (ds : List D) : optAll (frz n k S) (ds.map U.v) = some ds := optAll_vals (frz_v n k S) ds
def fixU (n k : Nat) (S : Sto) : U → Option U
 | .v d => some (.v d)
 | .r m => if m < n then some (.r m) else (frz n k S (.r m)).map U.v
def fixC (n k : Nat) (S : Sto) : Cell → Option Cell
 | .lst xs => (optAll (fixU n k S) xs).map Cell.lst
 | .tpc xs => (optAll (fixU n k S) xs).map Cell.tpc
 | .dic kvs => (optAll (fun p : D × U => (fixU n k S p.2).map fun d => (p.1, d)) kvs).map Cell.dic
 | .ins c fs => (optAll (fun p : Str × U => (fixU n k S p.2).map fun d => (p.1, d)) fs).map (Cell.ins c)
 | .dead => some .dead
 | .dicL _ => none
noncomputable def fixS (S S' : Sto) : Option Sto := optAll (fun p : Cell × Cell => if p.2 = p.1 then some p.1 else fixC S.length 4 S' p.2) (S.zip S')
noncomputable def fin (S : Sto) (u : U) (S' : Sto) : R U := match fixU S.length 4 S' u, fixS S S' with
 | some u', some S'' => .ok u' S''
 | _, _ => .er
noncomputable def finX (S : Sto) (c : Nat) (fs : List (Str × U)) (S' : Sto) : R U := match optAll (fun p : Str × U => (fixU S.length 4 S' p.2).map fun d => (p.1, d)) fs, fixS S S' with
 | some fs', some S'' => .ex c fs' S''
 | _, _ => .er
noncomputable def runF (N : Nat) (m : MS) (us : List U) (S : Sto) : R U := match m (us.map some ++ List.replicate (N - us.length) none) S with
 | .rt u S' => fin S u S'
 | .nx _ S' => fin S (.v .non) S'
 | .ex c fs _ S' => finX S c fs S'
 | _ => .er
noncomputable def runK (N : Nat) (m : MS) (us : List U) (S : Sto) : R U := match m (us.map some ++ List.replicate (N - us.length) none) S with
 | .rt u S' => .ok u S'
 | .nx _ S' => .ok (.v .non) S'
 | .ex c fs _ S' => .ex c fs S'
 | _ => .er
theorem optAll_paired {α β γ : Type} {P : γ → α → Prop} {Q : γ → β → Prop} {f : α → Option β} (h : ∀ g a b, P g a → f a = some b → Q g b) : ∀ {gs : List γ} {as : List α} {bs : List β}, Paired P gs as → optAll f as = some bs → Paired Q gs bs
 | _, _, _, .nil, e => by cases e; exact .nil
 | _, _, _, .cons (l₁ := gs) (l₂ := as) (b := a) p ps, e => by
   unfold optAll at e
   cases q : f a with
   | none => rw [q] at e; cases e
   | some y =>
     rw [q] at e
     cases q2 : optAll f as with
     | none => rw [q2] at e; cases e
     | some ys =>
       rw [q2] at e
       cases e
       exact .cons (h _ _ _ p q) (optAll_paired h ps q2)
section
variable {B : Bx} {ι : List Addr} {F : Addr → Prop} {H : Hp} {S : Sto} {n : Nat}
def frzF (n : Nat) (ι : List Addr) (F : Addr → Prop) (H : Hp) : Addr → Prop := fun a => F a ∨ (∃ m, n ≤ m ∧ ι[m]? = some a) ∨ ∃ m b, n ≤ m ∧ ι[m]? = some b ∧ H a = some (.own b)
theorem frz_evo : Evo ι F H ι (frzF n ι F H) H := ⟨fun _ _ h => h, fun _ h => .inl h, fun _ _ _ h _ => h, fun _ _ h => h, fun _ h => h, fun _ _ _ h => h, fun _ _ _ h => h⟩
theorem repK_of {F2 : Addr → Prop} : ∀ {es : List Ent} {kvs : List (D × D)}, Paired (fun (e : Ent) (p : D × D) => nkey p.1 = some e.1 ∧ Rep B F2 H (.ref e.2.1) p.1 ∧ e.1.depth ≤ 8 ∧ ∃ v, RelV v e.2.2 ∧ Rep B F2 H v p.2) es kvs → RepK B F2 H es kvs
 | _, _, .nil => .nil
 | _, _, .cons ⟨a, b, c, v, r, z⟩ t => .cons a b c r z (repK_of t)
theorem repF_of {F2 : Addr → Prop} : ∀ {es : List (Str × V)} {kvs : List (Str × D)}, Paired (fun (e : Str × V) (p : Str × D) => e.1 = p.1 ∧ Rep B F2 H e.2 p.2) es kvs → RepF B F2 H es kvs
 | _, _, .nil => .nil
 | _, _, .cons (a := (x, v)) (b := (y, d)) ⟨a, b⟩ t => by
   have a : x = y := a
   subst a
   exact .cons b (repF_of t)
theorem frz_ok (r : Rel B ι F S H) : ∀ (k : Nat) {v : V} {u : U} {d : D}, RepU B ι F H v u → frz n k S u = some d → Rep B (frzF n ι F H) H v d := by
 intro k
 induction k with
 | zero =>
   intro v u d h e
   cases h with
   | v h => simp at e; subst e; exact h.mono frz_evo
   | r h => simp [frz] at e
 | succ k ih =>
   intro v u d h e
   cases h with
   | v h => simp at e; subst e; exact h.mono frz_evo
   | @r m a h =>
     unfold frz at e
     split at e
     · cases e
     · rename_i hm
       have fa : frzF n ι F H a := .inr (.inl ⟨m, by omega, h⟩)
       cases q : S[m]? with
       | none => rw [q] at e; cases e
       | some c =>
         rw [q] at e
         have ok := r.ok m a c h q
         cases c with
         | dead => cases e
         | dicL kvs => cases e
         | lst xs =>
           obtain ⟨vs, ha, rs⟩ := ok
           obtain ⟨ds, e1, e2⟩ := Option.map_eq_some_iff.mp e
           subst e2
           exact .lst fa ha (reps_iff.mpr (optAll_paired (P := RepU B ι F H) (Q := Rep B (frzF n ι F H) H) (f := frz n k S) (fun g a b p q => ih p q) rs e1))
         | tpc xs =>
           obtain ⟨vs, ha, rs⟩ := ok
           obtain ⟨ds, e1, e2⟩ := Option.map_eq_some_iff.mp e
           subst e2
           exact .tup ha (reps_iff.mpr (optAll_paired (P := RepU B ι F H) (Q := Rep B (frzF n ι F H) H) (f := frz n k S) (fun g a b p q => ih p q) rs e1))
         | dic kvs =>
           obtain ⟨es, ha, z, rs⟩ := ok
           obtain ⟨ds, e1, e2⟩ := Option.map_eq_some_iff.mp e
           subst e2
           refine .dic fa (.inl ha) z (repK_of (optAll_paired (fun g a b p q => ?_) rs e1))
           obtain ⟨p1, p2, p3, w, p4, p5⟩ := p
           obtain ⟨d', q1, q2⟩ := Option.map_eq_some_iff.mp q
           subst q2
           exact ⟨p1, p2.mono (ι := ι) (ι' := ι) frz_evo, p3, w, p4, ih p5 q1⟩
         | ins c fs =>
           obtain ⟨dx, vs, ha, hd, nd, rs⟩ := ok
           obtain ⟨ds, e1, e2⟩ := Option.map_eq_some_iff.mp e
           subst e2
           refine .ins fa (.inr (.inr ⟨m, a, by omega, h, hd⟩)) ha hd (repF_of (optAll_paired (fun g a b p q => ?_) rs e1))
           obtain ⟨p1, p2⟩ := p
           obtain ⟨d', q1, q2⟩ := Option.map_eq_some_iff.mp q
           subst q2
           exact ⟨p1, ih p2 q1⟩
theorem take_get {α : Type} {l : List α} {n m : Nat} {x : α} (h : l[m]? = some x) (hm : m < n) : (l.take n)[m]? = some x := by
 rw [List.getElem?_take_of_lt hm]; exact h
theorem fixU_ok (r : Rel B ι F S H) {k : Nat} {v : V} {u u' : U} (h : RepU B ι F H v u) (e : fixU n k S u = some u') : RepU B (ι.take n) (frzF n ι F H) H v u' := by
 cases h with
 | v h => cases e; exact .v (h.mono (ι := ι) (ι' := ι) frz_evo)
 | @r m a h =>
   have e : (if m < n then some (U.r m) else (frz n k S (.r m)).map U.v) = some u' := e
   split at e
   · rename_i hm
     cases e
     exact .r (take_get h hm)
   · obtain ⟨d, e1, e2⟩ := Option.map_eq_some_iff.mp e
     subst e2
     exact .v (frz_ok r k (.r h) e1)
def refLt (n : Nat) : U → Prop
 | .v _ => True
 | .r m => m < n
def cellLt (n : Nat) : Cell → Prop
 | .lst xs => ∀ u ∈ xs, refLt n u
 | .tpc xs => ∀ u ∈ xs, refLt n u
 | .dic kvs => ∀ p ∈ kvs, refLt n p.2
 | .ins _ fs => ∀ p ∈ fs, refLt n p.2
 | .dead => True
 | .dicL kvs => ∀ p ∈ kvs, refLt n p.2
theorem RepU.lt {v : V} {u : U} (h : RepU B ι F H v u) : refLt ι.length u := by
 cases h with
 | v _ => trivial
 | r h => exact (List.getElem?_eq_some_iff.mp h).1
theorem paired_mem {α β : Type} {P : α → β → Prop} {Q : β → Prop} (h : ∀ a b, P a b → Q b) : ∀ {xs : List α} {ys : List β}, Paired P xs ys → ∀ y ∈ ys, Q y
 | _, _, .nil, _, hy => by cases hy
 | _, _, .cons p t, y, hy => by
   rcases List.mem_cons.mp hy with e | e
   · subst e; exact h _ _ p
   · exact paired_mem h t y e
theorem Rel.lt (r : Rel B ι F S H) {c : Cell} (hc : c ∈ S) : cellLt S.length c := by
 obtain ⟨m, hm⟩ := List.getElem?_of_mem hc
 have hlt := (List.getElem?_eq_some_iff.mp hm).1
 rw [← r.len] at hlt
 have ok := r.ok m ι[m] c (by simp [hlt]) hm
 rw [← r.len]
 cases c with
 | lst xs => obtain ⟨vs, _, q⟩ := ok; exact paired_mem (fun _ _ z => z.lt) q
 | tpc xs => obtain ⟨vs, _, q⟩ := ok; exact paired_mem (fun _ _ z => z.lt) q
 | dic kvs => obtain ⟨vs, _, _, q⟩ := ok; exact paired_mem (fun _ _ ⟨_, _, _, _, _, z⟩ => z.lt) q
 | dicL kvs => obtain ⟨vs, _, _, _, q⟩ := ok; exact paired_mem (fun _ _ ⟨_, _, _, _, _, z⟩ => z.lt) q
 | ins c fs => obtain ⟨_, vs, _, _, _, q⟩ := ok; exact paired_mem (fun _ _ ⟨_, z⟩ => z.lt) q
 | dead => trivial
theorem RepU.take {v : V} {u : U} (h : RepU B ι F H v u) (l : refLt n u) : RepU B (ι.take n) (frzF n ι F H) H v u := by
 cases h with
 | v h => exact .v (h.mono (ι := ι) (ι' := ι) frz_evo)
 | r h => exact .r (take_get h l)
theorem paired_memP {α β : Type} {P P' : α → β → Prop} {Q : β → Prop} (h : ∀ a b, P a b → Q b → P' a b) : ∀ {xs : List α} {ys : List β}, Paired P xs ys → (∀ y ∈ ys, Q y) → Paired P' xs ys
 | _, _, .nil, _ => .nil
 | _, _, .cons p t, hy => .cons (h _ _ p (hy _ (by simp))) (paired_memP h t fun y m => hy y (by simp [m]))
theorem CellOk.own_ne (r : Rel B ι F S H) {j : Nat} {a dx : Addr} (hj : j < n) (h1 : ι[j]? = some a) (hd : H dx = some (.own a)) (nd : ¬ F dx) : ¬ frzF n ι F H dx := by
 rintro (z | ⟨m, hm, z⟩ | ⟨m, b, hm, z, zb⟩)
 · exact nd z
 · exact r.now dx (List.mem_of_getElem? z) _ hd
 · rw [hd] at zb
   have zb : a = b := by injection zb with zb; injection zb
   subst zb
   obtain ⟨q1, e1⟩ := List.getElem?_eq_some_iff.mp h1
   obtain ⟨q2, e2⟩ := List.getElem?_eq_some_iff.mp z
   have := (List.getElem_inj r.nd).mp (e1.trans e2.symm)
   omega
theorem CellOk.take (r : Rel B ι F S H) {j : Nat} {a : Addr} {c : Cell} (hj : j < n) (h1 : ι[j]? = some a) (x : CellOk B ι F H a c) (l : cellLt n c) : CellOk B (ι.take n) (frzF n ι F H) H a c := by
 cases c with
 | lst xs => obtain ⟨vs, h, q⟩ := x; exact ⟨vs, h, paired_memP (fun _ _ z l => z.take l) q l⟩
 | tpc xs => obtain ⟨vs, h, q⟩ := x; exact ⟨vs, h, paired_memP (fun _ _ z l => z.take l) q l⟩
 | dic kvs => obtain ⟨vs, h, z, q⟩ := x; exact ⟨vs, h, z, paired_memP (Q := fun p : D × U => refLt n p.2) (fun _ _ ⟨a, b, c, w, d, e⟩ l => ⟨a, b.mono (ι := ι) (ι' := ι) frz_evo, c, w, d, e.take l⟩) q l⟩
 | dicL kvs => obtain ⟨vs, od, h, z, q⟩ := x; exact ⟨vs, od, h, z, paired_memP (Q := fun p : D × U => refLt n p.2) (fun _ _ ⟨a, b, c, w, d, e⟩ l => ⟨a, b.mono (ι := ι) (ι' := ι) frz_evo, c, w, d, e.take l⟩) q l⟩
 | ins c fs => obtain ⟨dx, vs, h, hd, nd, q⟩ := x; exact ⟨dx, vs, h, hd, CellOk.own_ne r hj h1 hd nd, paired_memP (Q := fun p : Str × U => refLt n p.2) (fun _ _ ⟨a, e⟩ l => ⟨a, e.take l⟩) q l⟩
 | dead => trivial
theorem CellOk.fixed (r : Rel B ι F S H) {j k : Nat} {a : Addr} {c c' : Cell} (hj : j < n) (h1 : ι[j]? = some a) (x : CellOk B ι F H a c) (e : fixC n k S c = some c') : CellOk B (ι.take n) (frzF n ι F H) H a c' := by
 cases c with
 | lst xs =>
   obtain ⟨vs, h, q⟩ := x
   obtain ⟨ys, e1, rfl⟩ := Option.map_eq_some_iff.mp e
   exact ⟨vs, h, optAll_paired (P := RepU B ι F H) (Q := RepU B (ι.take n) (frzF n ι F H) H) (f := fixU n k S) (fun _ _ _ p e => fixU_ok r p e) q e1⟩
 | tpc xs =>
   obtain ⟨vs, h, q⟩ := x
   obtain ⟨ys, e1, rfl⟩ := Option.map_eq_some_iff.mp e
   exact ⟨vs, h, optAll_paired (P := RepU B ι F H) (Q := RepU B (ι.take n) (frzF n ι F H) H) (f := fixU n k S) (fun _ _ _ p e => fixU_ok r p e) q e1⟩
 | dic kvs =>
   obtain ⟨vs, h, z, q⟩ := x
   obtain ⟨ys, e1, rfl⟩ := Option.map_eq_some_iff.mp e
   refine ⟨vs, h, z, optAll_paired (fun _ _ _ p e => ?_) q e1⟩
   obtain ⟨p1, p2, p3, w, p4, p5⟩ := p
   obtain ⟨u, q1, rfl⟩ := Option.map_eq_some_iff.mp e
   exact ⟨p1, p2.mono (ι := ι) (ι' := ι) frz_evo, p3, w, p4, fixU_ok r p5 q1⟩
 | ins c fs =>
   obtain ⟨dx, vs, h, hd, nd, q⟩ := x
   obtain ⟨ys, e1, rfl⟩ := Option.map_eq_some_iff.mp e
   refine ⟨dx, vs, h, hd, CellOk.own_ne r hj h1 hd nd, optAll_paired (fun _ _ _ p e => ?_) q e1⟩
   obtain ⟨p1, p5⟩ := p
   obtain ⟨u, q1, rfl⟩ := Option.map_eq_some_iff.mp e
   exact ⟨p1, fixU_ok r p5 q1⟩
 | dicL kvs => cases e
 | dead => cases e; trivial
theorem optAll_get {α β : Type} {f : α → Option β} : ∀ {as : List α} {bs : List β}, optAll f as = some bs → as.length = bs.length ∧ ∀ (i : Nat) b, bs[i]? = some b → ∃ a, as[i]? = some a ∧ f a = some b
 | [], bs, e => by cases e; exact ⟨rfl, fun i b h => by simp at h⟩
 | x :: xs, bs, e => by
   unfold optAll at e
   cases q : f x with
   | none => rw [q] at e; cases e
   | some y =>
     rw [q] at e
     obtain ⟨ys, e1, rfl⟩ := Option.map_eq_some_iff.mp e
     obtain ⟨l, g⟩ := optAll_get e1
     refine ⟨by simp [l], fun i b h => ?_⟩
     cases i with
     | zero => simp at h; subst h; exact ⟨x, rfl, q⟩
     | succ i => simpa using g i b (by simpa using h)
theorem fixC_live {n k : Nat} {S : Sto} {c c' : Cell} (e : fixC n k S c = some c') (h : c'.live = true) : c.live = true := by
 cases c <;> first | rfl | (cases e; cases h)
theorem Rel.exit {S0 S'' : Sto} {ι0 : List Addr} {F0 : Addr → Prop} {H0 : Hp} (r0 : Rel B ι0 F0 S0 H0) (e : Evo ι0 F0 H0 ι F H) (r : Rel B ι F S H) (hs : fixS S0 S = some S'') : Rel B (ι.take S0.length) (frzF S0.length ι F H) S'' H ∧ ι.take S0.length = ι0 := by
 have hle : S0.length ≤ S.length := by
   rw [← r0.len, ← r.len]
   cases q : ι0.length with
   | zero => omega
   | succ k =>
     have h1 : ι0[k]? = some ι0[k] := by simp
     have := (List.getElem?_eq_some_iff.mp (e.pre k _ h1)).1
     omega
 have et : ι.take S0.length = ι0 := by
   apply List.ext_getElem?
   intro m
   by_cases hm : m < S0.length
   · rw [List.getElem?_take_of_lt hm]
     have h1 : ι0[m]? = some (ι0[m]'(by rw [r0.len]; exact hm)) := by simp
     rw [h1]; exact e.pre m _ h1
   · rw [List.getElem?_eq_none (by simp; omega), List.getElem?_eq_none (by rw [r0.len]; omega)]
 refine ⟨?_, et⟩
 have key : S''.length = S0.length ∧ ∀ (j : Nat) (c : Cell), S''[j]? = some c → ∃ c0, S[j]? = some c0 ∧ (c.live = true → c0.live = true) ∧ ∀ a, ι[j]? = some a → j < S0.length → CellOk B ι F H a c0 → CellOk B (ι.take S0.length) (frzF S0.length ι F H) H a c := by
   unfold fixS at hs
   obtain ⟨l, g⟩ := optAll_get hs
   refine ⟨by rw [← l]; simp [hle], fun j c hj => ?_⟩
   obtain ⟨p, h1, h2⟩ := g j c hj
   obtain ⟨e0, e1⟩ := List.getElem?_zip_eq_some.mp h1
   split at h2
   · rename_i hx
     cases h2
     exact ⟨p.1, by rw [← hx]; exact e1, fun z => z, fun a ha hl x => x.take r hl ha (r0.lt (List.mem_of_getElem? e0))⟩
   · exact ⟨p.2, e1, fixC_live h2, fun a ha hl x => x.fixed r hl ha h2⟩
 obtain ⟨kl, kc⟩ := key
 have lt_of : ∀ {j a}, (ι.take S0.length)[j]? = some a → j < S0.length ∧ ι[j]? = some a := fun {j a} h => by
   have hl := (List.getElem?_eq_some_iff.mp h).1
   simp at hl
   rw [List.getElem?_take_of_lt (by omega)] at h
   exact ⟨by omega, h⟩
 refine ⟨by simp [kl, r.len]; omega, r.nd.sublist (List.take_sublist _ _), fun j a c h1 h2 h3 => ?_, fun j a c h1 h2 => ?_, fun a h => r.there a (List.mem_of_mem_take h), fun a h => ?_, fun a h => r.now a (List.mem_of_mem_take h)⟩
 · obtain ⟨hl, h1⟩ := lt_of h1
   obtain ⟨c0, g1, g2, _⟩ := kc j c h2
   rintro (z | ⟨m, hm, z⟩ | ⟨m, b, hm, z, zb⟩)
   · exact r.nf j a c0 h1 g1 (g2 h3) z
   · obtain ⟨q1, e1⟩ := List.getElem?_eq_some_iff.mp h1
     obtain ⟨q2, e2⟩ := List.getElem?_eq_some_iff.mp z
     have := (List.getElem_inj r.nd).mp (e1.trans e2.symm)
     omega
   · exact r.now a (List.mem_of_getElem? h1) b zb
 · obtain ⟨hl, h1⟩ := lt_of h1
   obtain ⟨c0, g1, _, g3⟩ := kc j c h2
   exact g3 a h1 hl (r.ok j a c0 h1 g1)
 · rcases h with z | ⟨m, hm, z⟩ | ⟨m, b, hm, z, zb⟩
   · exact r.fthere a z
   · exact r.there a (List.mem_of_getElem? z)
   · rw [zb]; simp
end
def SpM (B : Bx) (n : Nat) (mf : List U → Sto → R U) : Sp := fun vs H Q E => vs.length = n ∧ ∃ ι F S us, Rel B ι F S H ∧ RepUs B ι F H vs us ∧ Out B (fun cls d _ H' => E cls d H') [] ι F H (RepU B) Q (mf us S)
theorem start_env {B : Bx} {ι : List Addr} {F : Addr → Prop} {H : Hp} {vs : List V} {us : List U} (h : RepUs B ι F H vs us) (N : Nat) : REnv B ι F H (vs.map some ++ List.replicate (N - vs.length) none) (us.map some ++ List.replicate (N - us.length) none) := by
 rw [paired_len h]
 refine paired_append ?_ ?_
 · induction h with
   | nil => exact .nil
   | cons a b ih => exact .cons a ih
 · induction N - us.length with
   | zero => exact .nil
   | succ k ih => exact .cons trivial ih
theorem spM_body {B : Bx} {n N : Nat} {m : MS} {vs : List V} {H : Hp} {Q : VK} {E : XK} (h : SpM B n (runF N m) vs H Q E) :
   liftS B (fun cls d _ H' => E cls d H') m { nx := fun _ H' => Q .non H', rt := Q } (vs.map some ++ List.replicate (N - vs.length) none) H := by
 obtain ⟨_, ι, F, S, us, r, z, o⟩ := h
 refine ⟨ι, F, S, _, r, start_env z N, ?_⟩
 unfold runF at o
 have val : ∀ {u : U} {S' : Sto}, Out B (fun cls d _ H' => E cls d H') [] ι F H (RepU B) Q (fin S u S') → ∀ (v : V) (ι' : List Addr) (F' : Addr → Prop) (H' : Hp), Evo ι F H ι' F' H' → Rel B ι' F' S' H' → RepU B ι' F' H' v u → Q v H' := by
   intro u S' o v ι' F' H' e r' z'
   unfold fin at o
   split at o
   · rename_i u' S'' e1 e2
     obtain ⟨r2, et⟩ := r.exit e r' e2
     refine o v _ _ H' (?_ : Evo ι F H (ι'.take S.length) (frzF S.length ι' F' H') H') r2 (fixU_ok r' z' e1)
     rw [et]
     exact ⟨fun _ _ h => h, fun a h => .inl (e.sub a h), e.keep, e.tups, e.alive, e.lkd, e.kext⟩
   · exact o.elim
 cases q : m (us.map some ++ List.replicate (N - us.length) none) S with
 | rt u S' => rw [q] at o; exact val o
 | nx ρ S' => rw [q] at o; exact fun σ ι' F' H' e r' en => val o .non ι' F' H' e r' (.v .non)
 | bk ρ S' => rw [q] at o; exact o.elim
 | ct ρ S' => rw [q] at o; exact o.elim
 | er => rw [q] at o; exact o.elim
 | ex c fs ρ S' =>
   rw [q] at o
   intro σ ι1 F1 H1 e1 en dx ws ι' F' H' e r' hx zx
   simp only at o
   unfold finX at o
   split at o
   · rename_i fs' S'' g1 g2
     have e' := e1.trans e
     obtain ⟨r2, et⟩ := r.exit e' r' g2
     refine o dx ws _ _ H' (?_ : Evo ι F H (ι'.take S.length) (frzF S.length ι' F' H') H') r2 hx ?_
     · rw [et]
       exact ⟨fun _ _ h => h, fun a h => .inl (e'.sub a h), e'.keep, e'.tups, e'.alive, e'.lkd, e'.kext⟩
     · refine optAll_paired (fun g a b p q => ?_) zx g1
       obtain ⟨p1, p5⟩ := p
       obtain ⟨u, q1, rfl⟩ := Option.map_eq_some_iff.mp q
       exact ⟨p1, fixU_ok r' p5 q1⟩
   · exact o.elim
end Pu
namespace Pu
open PySem PySem.Spec L2
open PyProof.Rows hiding St
abbrev Xd (P : Program) (w : World) (K : PySem.W.Frag) (mg : Str → Option Value) (base : Heap) (N : List Str) (qual : Str) (scope : Scope) (f : Addr) (cdv : Value) (A : Around) (outer : List Env) (s : Shared) (H : Hp) (E : XK) : Cx :=
 cxOf (L2.CX P w) P w K mg base N qual scope f cdv A outer s H E
abbrev Wd (E : XK) : WX := fun cls d _ H' => E cls d H'
section
variable {P : Program} {w : World} {K : PySem.W.Frag} {mg : Str → Option Value} {base : Heap} {cl : Nat → Addr} {x qual : Str} {params : Arguments} {body : List Stmt} {scope : Scope} {dvs : List V} {kws : List (Str × V)} {f : Addr} {fd : FuncData} {N ps : List Str} {k : Nat} {m : MS}
theorem fn_q (Fd : FunD K x qual params body scope dvs kws f fd) (Sc : FnScope N ps scope)
   (hb : ∀ (cdv : Value) (A : Around) (outer : List Env) (s : Shared) (H : Hp) (E : XK), Room k (A.deeper (envOfC qual scope s.heap.objs.size f cdv)) → QSs (Xd P w K mg base N qual scope f cdv A outer s H E) cl (Wd E) body m) :
   FnOk P w K mg base (L2.CX P w) (k + 1) f fd ps (SpM ⟨P, w, K, cl⟩ ps.length (runF N.length m)) :=
 Fd.ok Sc (fun _ _ _ _ h => h.1) fun cdv A outer s H vs Q E hr h => ⟨_, hb cdv A outer s H E hr, spM_body h⟩
end
def eCall (n : Nat) (mf : List U → Sto → R U) (dds : List U) (a : MA) : ME := fun ρ S => (a ρ S).bind fun us S1 => if us.length + dds.length = n then mf (us ++ dds) S1 else .er
section
variable {B : Bx} {W : WX} {σ : St} {ι : List Addr} {F : Addr → Prop} {H : Hp} {Q : VK}
theorem out_w {r : R U} (h : Out B W σ ι F H (RepU B) Q r) : Out B (fun cls d _ H' => WE W σ cls d H') [] ι F H (RepU B) Q r := by
 cases r with
 | ok a S' => exact h
 | ex c fs S' => exact h
 | er => exact h
end
section
variable {X : Cx} {cl : Nat → Addr} {W : WX} {k n : Nat} {f C : Addr} {fd : FuncData} {ps : List Str} {mf : List U → Sto → R U} {dvs : List V} {ds : List Value} {dds : List D} {x m : Str} {p pos apos : Pos} {e o : Expr} {es : List Expr} {mo : ME} {mA : MA}
def Dfl (cl : Nat → Addr) (dvs : List V) (dds : List D) : Prop := ∀ (B : Bx) (F : Addr → Prop) (H : Hp), B.cl = cl → Reps B F H dvs dds
theorem Dfl.nil : Dfl cl [] [] := fun _ _ _ _ => .nil
theorem sp_of {σ : St} {ι : List Addr} {F : Addr → Prop} {H : Hp} {S : Sto} {Q : VK} {vs : List V} {us : List U} (hD : Dfl cl dvs dds) (r : Rel (bx X cl) ι F S H) (z : RepUs (bx X cl) ι F H vs us)
   (o : Out (bx X cl) W σ ι F H (RepU (bx X cl)) Q (if us.length + (dds.map U.v).length = n then mf (us ++ dds.map U.v) S else .er)) : SpM (bx X cl) n mf (vs ++ dvs) H Q (WE W σ) := by
 have zz : RepUs (bx X cl) ι F H (vs ++ dvs) (us ++ dds.map U.v) := paired_append z (reps_u (hD _ F H rfl))
 split at o
 · rename_i hl
   refine ⟨?_, ι, F, S, _, r, zz, out_w o⟩
   rw [paired_len zz]
   simpa using hl
 · exact o.elim
theorem qe_call (Fn : FnOk X.prog X.w X.K X.mg X.base (L2.CX X.prog X.w) k f fd ps (SpM (bx X cl) n mf)) (tk : Takes X W) (hr : Room k X.A) (hg : Gl X x) (hm : X.mg x = some (.ref f)) (hk : PySem.W.keepIn X.K (.ref f) = true) (hb : Binds X.K fd ps ds) (hd : Vals dvs ds) (hD : Dfl cl dvs dds)
   (ha : QA X cl W (e :: es) mA) (hdb : (x == ("__debug__" : Str)) = false := by decide) (he : starEach (e :: es) X.env = (false, eval e X.env) :: starEach es X.env := by rfl) (hpl : (backTo pos (starEach es X.env)).any (·.1) = false := by rfl) :
   QE X cl W (.Call (.Name x p) (e :: es) [] pos) (eCall n mf (dds.map U.v) mA) :=
 PE.imp (pe_callSD Fn hr hg hm hk hb hd (fun σ => passAt tk σ) ha hdb he hpl) fun σ H Q ⟨ι, F, S, ρ, r, en, o⟩ => ⟨ι, F, S, ρ, r, en, o.bind.mono fun x H1 ⟨ι1, F1, S1, x', e1, r1, z1, o1⟩ => sp_of hD r1 z1 o1⟩
def asIns (S : Sto) : U → Option (Nat × List (Str × U))
 | .v (.ins c fs) => some (c, fs.map fun p => (p.1, .v p.2))
 | .r n => match S[n]? with
   | some (.ins c fs) => some (c, fs)
   | _ => none
 | _ => none
theorem repF_paired {B : Bx} {ι : List Addr} {F : Addr → Prop} {H : Hp} : ∀ {vs : List (Str × V)} {fs : List (Str × D)}, RepF B F H vs fs → RepFU B ι F H vs (fs.map fun p => (p.1, U.v p.2))
 | _, _, .nil => .nil
 | _, _, .cons a b => .cons ⟨rfl, .v a⟩ (repF_paired b)
theorem asIns_ok {B : Bx} {ι : List Addr} {F : Addr → Prop} {H : Hp} {S : Sto} {v : V} {u : U} {c : Nat} {fs : List (Str × U)} (r : Rel B ι F S H) (z : RepU B ι F H v u) (e : asIns S u = some (c, fs)) :
   ∃ a dx vs, v = .ref a ∧ H a = some (.ins (B.cl c) dx vs) ∧ RepFU B ι F H vs fs := by
 cases z with
 | v z =>
   cases z with
   | ins f g h h2 rr => cases e; exact ⟨_, _, _, rfl, h, repF_paired rr⟩
   | _ => cases e
 | @r n a h =>
   unfold asIns at e
   simp only at e
   cases q : S[n]? with
   | none => rw [q] at e; cases e
   | some cc =>
     rw [q] at e
     have ok := r.ok n a cc h q
     cases cc with
     | ins c' fs' =>
       cases e
       obtain ⟨dx, vs, h1, _, _, rr⟩ := ok
       exact ⟨a, dx, vs, rfl, h1, rr⟩
     | _ => cases e
theorem lookup_paired {B : Bx} {ι : List Addr} {F : Addr → Prop} {H : Hp} {f : Str} : ∀ {vs : List (Str × V)} {fs : List (Str × U)}, RepFU B ι F H vs fs → (∀ u, fs.lookup f = some u → ∃ v, vs.lookup f = some v ∧ RepU B ι F H v u) ∧ (fs.lookup f = none → vs.lookup f = none)
 | _, _, .nil => ⟨fun u h => by simp at h, fun _ => rfl⟩
 | _, _, .cons (a := (x, v)) (b := (y, w)) ⟨a, b⟩ t => by
   have a : x = y := a
   subst a
   obtain ⟨i1, i2⟩ := lookup_paired t (f := f)
   refine ⟨fun u h => ?_, fun h => ?_⟩
   · rw [List.lookup_cons] at h ⊢
     split at h
     · cases h; exact ⟨v, rfl, b⟩
     · exact i1 u h
   · rw [List.lookup_cons] at h ⊢
     split at h
     · cases h
     · exact i2 h
def fFld (cs : List Nat) (f : Str) : F1 := fun u S => match asIns S u with
 | some (c', fs) => if c' ∈ cs then (fs.lookup f).map fun z => (z, S) else none
 | none => none
def ClsF (K : PySem.W.Frag) (cl : Nat → Addr) (cs : List Nat) (f : Str) : Prop := ∀ c ∈ cs, Cls K (cl c) ∧ NoAttr K (cl c) f
theorem qe_fld {f : Str} {cs : List Nat} (he : QE X cl W e mo) (hc : ClsF X.K cl cs f) (hab : attributeBase e f X.env (eval e X.env) = eval e X.env := by rfl) : QE X cl W (.Attribute e f pos) (eUn (fFld cs f) mo) :=
 PE.imp (pe_fld he hab) fun σ H Q ⟨ι, F, S, ρ, r, en, o⟩ => ⟨ι, F, S, ρ, r, en, o.bind.mono fun x H1 ⟨ι1, F1, S1, x', e1, r1, z1, o1⟩ => by
   have o2 := o1.fin
   unfold fFld at o2
   cases q : asIns S1 x' with
   | none => rw [q] at o2; exact o2.no
   | some p =>
     obtain ⟨c', fs⟩ := p
     rw [q] at o2
     simp only at o2
     split at o2
     · rename_i hcc
       obtain ⟨a, dx, vs, ex, ha, rr⟩ := asIns_ok r1 z1 q
       cases ql : fs.lookup f with
       | none => rw [ql] at o2; exact o2.no
       | some u =>
         rw [ql] at o2
         obtain ⟨v, lv, zv⟩ := (lookup_paired rr (f := f)).1 u ql
         exact ⟨a, _, dx, vs, v, ex, ha, (hc c' hcc).1, (hc c' hcc).2, lv, o2.val r1 zv⟩
     · exact o2.no⟩
def putU (f : Str) (v : U) : List (Str × U) → List (Str × U)
 | [] => [(f, v)]
 | (g, x) :: r => if g = f then (g, v) :: r else (g, x) :: putU f v r
theorem putU_ok {B : Bx} {ι : List Addr} {F : Addr → Prop} {H : Hp} {f : Str} {v : V} {u : U} (z : RepU B ι F H v u) : ∀ {vs : List (Str × V)} {fs : List (Str × U)}, RepFU B ι F H vs fs → RepFU B ι F H (putF f v vs) (putU f u fs)
 | _, _, .nil => .cons ⟨rfl, z⟩ .nil
 | _, _, .cons (a := (x, v')) (b := (y, w)) ⟨a, b⟩ t => by
   have a : x = y := a
   subst a
   unfold putF putU
   split
   · exact .cons ⟨rfl, z⟩ t
   · exact .cons ⟨rfl, b⟩ (putU_ok z t)
def sFld (cs : List Nat) (f : Str) (mo mv : ME) : MS := fun ρ S => (mv ρ S).st ρ fun u S1 => (mo ρ S1).st ρ fun x S2 => match x with
 | .r n => match S2[n]? with
   | some (.ins c fs) => if c ∈ cs ∧ fs.length < 900 then .nx ρ (S2.set n (.ins c (putU f u fs))) else .er
   | _ => .er
 | _ => .er
theorem qs_fld {f : Str} {cs : List Nat} {mv : ME} {value : Expr} {pos' : Pos} (ha : QE X cl W o mo) (hv : QE X cl W value mv) (hc : ClsF X.K cl cs f) (hs : swapsWith value (some (.Attribute o f pos')) pos.line X.env = pure false := by rfl) :
   QS X cl W (.Assign [.Attribute o f pos'] value pos) (sFld cs f mo mv) :=
 PS.imp (ps_fld ha hv hs) fun D σ H ⟨ι, F, S, ρ, r, en, ot⟩ => ⟨ι, F, S, ρ, r, en, (ot.st en).mono fun v H1 ⟨ι1, F1, S1, u, e1, r1, z1, o1⟩ => by
   refine ⟨ι1, F1, S1, ρ, r1, en.mono e1, (o1.st (en.mono e1)).mono fun y H2 ⟨ι2, F2, S2, y', e2, r2, z2, o2⟩ => ?_⟩
   cases z2 with
   | v _ => exact o2.elim
   | @r n a h =>
     simp only at o2
     cases q : S2[n]? with
     | none => rw [q] at o2; exact o2.elim
     | some c =>
       rw [q] at o2
       cases c with
       | ins c fs =>
         simp only at o2
         split at o2
         · rename_i hcc
           obtain ⟨dx, vs, h1, h2, h3, rr⟩ := r2.ok n a _ h q
           have hlen : vs.length < 1000 := by rw [paired_len rr]; omega
           refine ⟨a, _, dx, vs, rfl, h1, (hc c hcc.1).1, (hc c hcc.1).2, hlen, ?_⟩
           have hda : dx ≠ a := fun z => by rw [z, h1] at h2; cases h2
           have e0 : Evo ι2 F2 H2 ι2 F2 (upd H2 a (.ins (cl c) dx (putF f v vs))) := by
             have nf := r2.nf n a _ h q rfl
             refine ⟨fun _ _ h => h, fun _ h => h, fun b u f h _ => ?_, fun b xs h => ?_, fun b h => ?_, fun b p u h => by rw [upd_ne (fun z : b = a => by rw [z, h1] at h; cases h)]; exact h, fun b φ f h => rd_ne (fun z : b = a => nf (by rw [← z]; exact f)) h⟩
             · rw [upd_ne (fun z : b = a => nf (by rw [← z]; exact f))]; exact h
             · rw [upd_ne (fun z : b = a => by rw [z, h1] at h; cases h)]; exact h
             · by_cases hb : b = a
               · rw [hb, upd_same]; simp
               · rw [upd_ne hb]; exact h
           obtain ⟨r3, e3⟩ := r2.write (o := .ins (cl c) dx (putF f v vs)) (c' := .ins c (putU f u fs)) h q rfl (fun xs z => by rw [h1] at z; cases z) nofun (fun p u z => by rw [h1] at z; cases z)
             ⟨dx, putF f v vs, upd_same, by rw [upd_ne hda]; exact h2, h3, putU_ok ((z1.mono e2).mono e0) (rr.mono e0)⟩
           exact o2 σ ι2 F2 _ e3 r3 (((en.mono e1).mono e2).mono e3)
         · exact o2.elim
       | _ => exact o2.elim⟩
end
end Pu
namespace Pu
open PySem L2
mutual
theorem nkey_inj : ∀ {a b : D} {k : NestedKey}, nkey a = some k → nkey b = some k → a = b
 | .non, b, k, h, h' => by
   simp [nkey] at h; subst h
   cases b <;> simp [nkey] at h' <;> rfl
 | .int i, b, k, h, h' => by
   simp [nkey] at h; subst h
   cases b <;> simp [nkey] at h'
   rw [h']
 | .str i, b, k, h, h' => by
   simp [nkey] at h; subst h
   cases b <;> simp [nkey] at h'
   rw [h']
 | .tup xs, b, k, h, h' => by
   simp only [nkey, Option.map_eq_some_iff] at h
   obtain ⟨ks, h1, rfl⟩ := h
   cases b with
   | tup ys =>
     simp only [nkey, Option.map_eq_some_iff] at h'
     obtain ⟨ks', h2, h3⟩ := h'
     cases h3
     rw [nkeys_inj h1 h2]
   | _ => simp [nkey] at h'
 | .bl _, _, _, h, _ => by simp [nkey] at h
 | .lst _, _, _, h, _ => by simp [nkey] at h
 | .dic _, _, _, h, _ => by simp [nkey] at h
 | .ins _ _, _, _, h, _ => by simp [nkey] at h
 | .cls _, _, _, h, _ => by simp [nkey] at h
 | .ty _, _, _, h, _ => by simp [nkey] at h
 | .frl _, _, _, h, _ => by simp [nkey] at h
theorem nkeys_inj : ∀ {a b : List D} {k : List NestedKey}, nkey.nkeys a = some k → nkey.nkeys b = some k → a = b
 | [], b, k, h, h' => by
   simp [nkey.nkeys] at h; subst h
   cases b with
   | nil => rfl
   | cons y ys =>
     unfold nkey.nkeys at h'
     split at h' <;> cases h'
 | x :: xs, b, k, h, h' => by
   unfold nkey.nkeys at h
   split at h
   · rename_i k1 ks1 e1 e2
     cases h
     cases b with
     | nil => simp [nkey.nkeys] at h'
     | cons y ys =>
       unfold nkey.nkeys at h'
       split at h'
       · rename_i k2 ks2 f1 f2
         cases h'
         rw [nkey_inj e1 f1, nkeys_inj e2 f2]
       · cases h'
   · cases h
end
def keyAt : Nat → D → Bool
 | _, .non => true
 | _, .int _ => true
 | _, .str _ => true
 | n + 1, .tup xs => xs.all (keyAt n)
 | _, _ => false
abbrev isKey (d : D) : Bool := keyAt 8 d
@[simp] theorem keyAt_int (n : Nat) (i : Int) : keyAt n (.int i) = true := by cases n <;> rfl
@[simp] theorem keyAt_str (n : Nat) (i : Str) : keyAt n (.str i) = true := by cases n <;> rfl
@[simp] theorem keyAt_tup (n : Nat) (xs : List D) : keyAt (n + 1) (.tup xs) = xs.all (keyAt n) := rfl
theorem nkeys_of {n : Nat} {f : D → Bool} (h : ∀ d, f d = true → ∃ k, nkey d = some k ∧ k.depth ≤ n) : ∀ {xs : List D}, xs.all f = true → ∃ ks, nkey.nkeys xs = some ks ∧ NestedKey.depthAll ks ≤ n
 | [], _ => ⟨[], rfl, by simp [NestedKey.depthAll]⟩
 | x :: xs, hx => by
   simp only [List.all_cons, Bool.and_eq_true] at hx
   obtain ⟨k, e, d⟩ := h x hx.1
   obtain ⟨ks, e2, d2⟩ := nkeys_of h hx.2
   refine ⟨k :: ks, by simp [nkey.nkeys, e, e2], ?_⟩
   simp only [NestedKey.depthAll]
   omega
theorem nkey_of : ∀ {n : Nat} {d : D}, keyAt n d = true → ∃ k, nkey d = some k ∧ k.depth ≤ n
 | n, .non, _ => ⟨.none, rfl, by simp [NestedKey.depth]⟩
 | n, .int i, _ => ⟨.num i, rfl, by simp [NestedKey.depth]⟩
 | n, .str i, _ => ⟨.text i, rfl, by simp [NestedKey.depth]⟩
 | n + 1, .tup xs, h => by
   obtain ⟨ks, e, d⟩ := nkeys_of (n := n) (fun d h => nkey_of h) h
   exact ⟨.tup ks, by simp [nkey, e], by simp only [NestedKey.depth]; omega⟩
 | 0, .tup _, h => by simp [keyAt] at h
 | 0, .bl _, h => by simp [keyAt] at h
 | 0, .lst _, h => by simp [keyAt] at h
 | 0, .dic _, h => by simp [keyAt] at h
 | 0, .ins _ _, h => by simp [keyAt] at h
 | 0, .cls _, h => by simp [keyAt] at h
 | 0, .ty _, h => by simp [keyAt] at h
 | 0, .frl _, h => by simp [keyAt] at h
 | 0, .exn _ _, h => by simp [keyAt] at h
 | _ + 1, .bl _, h => by simp [keyAt] at h
 | _ + 1, .lst _, h => by simp [keyAt] at h
 | _ + 1, .dic _, h => by simp [keyAt] at h
 | _ + 1, .ins _ _, h => by simp [keyAt] at h
 | _ + 1, .cls _, h => by simp [keyAt] at h
 | _ + 1, .ty _, h => by simp [keyAt] at h
 | _ + 1, .frl _, h => by simp [keyAt] at h
 | _ + 1, .exn _ _, h => by simp [keyAt] at h
section
variable {X : Cx} {cl : Nat → Addr} {pins : List (Addr × Obj)} {σ : L2.St} {F : Addr → Prop} {H : Hp} {s : Shared}
mutual
theorem rep_key (I : Inv X pins σ H s) : ∀ {v : V} {d : D} {u : Value} {k : NestedKey}, Rep (bx X cl) F H v d → RelV v u → nkey d = some k → NestedIs s.heap k u
 | _, _, u, k, .non, r, e => by simp [nkey] at e; subst e; cases r; exact .none
 | _, _, u, k, .int i, r, e => by simp [nkey] at e; subst e; obtain ⟨t, rfl⟩ := r; exact .int i t
 | _, _, u, k, .str i _, r, e => by simp [nkey] at e; subst e; obtain ⟨t, rfl⟩ := r; exact .text i t
 | _, _, u, k, .tup h rs, r, e => by
   simp only [nkey, Option.map_eq_some_iff] at e
   obtain ⟨ks, e1, rfl⟩ := e
   cases r
   obtain ⟨its, rv, ⟨o, ho, hc, n, hd⟩, hz⟩ := I.tuple (h.sq)
   exact .tup ho hc hd (by simpa using rep_keys I rs rv e1)
 | _, _, _, _, .bl _, _, e => by simp [nkey] at e
 | _, _, _, _, .lst _ _ _, _, e => by simp [nkey] at e
 | _, _, _, _, .frl _ _, _, e => by simp [nkey] at e
 | _, _, _, _, .dic _ _ _ _, _, e => by simp [nkey] at e
 | _, _, _, _, .ins _ _ _ _ _, _, e => by simp [nkey] at e
 | _, _, _, _, .cls _, _, e => by simp [nkey] at e
 | _, _, _, _, .ty _, _, e => by simp [nkey] at e
 | _, _, _, _, .exn _ _ _ _ _ _ _ _, _, e => by simp [nkey] at e
theorem rep_keys (I : Inv X pins σ H s) : ∀ {vs : List V} {ds : List D} {us : List Value} {ks : List NestedKey}, Reps (bx X cl) F H vs ds → Vals vs us → nkey.nkeys ds = some ks → NestedAll s.heap ks us
 | _, _, us, ks, .nil, r, e => by simp [nkey.nkeys] at e; subst e; cases r; exact .nil
 | _, _, us, ks, .cons a b, r, e => by
   cases r with
   | cons r1 r2 =>
     unfold nkey.nkeys at e
     split at e
     · rename_i k1 ks1 e1 e2
       cases e
       exact .cons (rep_key I a r1 e1) (rep_keys I b r2 e2)
     · cases e
end
end
def asList (S : Sto) : U → Option (List U)
 | .v (.lst xs) => some (xs.map U.v)
 | .v (.frl xs) => some (xs.map U.v)
 | .r n => match S[n]? with
   | some (.lst xs) => some xs
   | _ => none
 | _ => none
def asSeq (S : Sto) : U → Option (List U)
 | .v (.lst xs) => some (xs.map U.v)
 | .v (.frl xs) => some (xs.map U.v)
 | .v (.tup xs) => some (xs.map U.v)
 | .r n => match S[n]? with
   | some (.lst xs) => some xs
   | some (.tpc xs) => some xs
   | _ => none
 | _ => none
section
variable {B : Bx} {ι : List Addr} {F : Addr → Prop} {H : Hp} {S : Sto} {v : V} {u : U}
theorem asList_ok {xs : List U} (r : Rel B ι F S H) (z : RepU B ι F H v u) (e : asList S u = some xs) : ∃ a vs, v = .ref a ∧ SqL B.K H a vs ∧ RepUs B ι F H vs xs := by
 cases z with
 | v z =>
   cases z with
   | lst f h rs => cases e; exact ⟨_, _, rfl, SqL.of h, reps_u rs⟩
   | frl h rs => cases e; exact ⟨_, _, rfl, h.sq, reps_u rs⟩
   | _ => cases e
 | @r n a h =>
   unfold asList at e
   simp only at e
   cases q : S[n]? with
   | none => rw [q] at e; cases e
   | some c =>
     rw [q] at e
     have ok := r.ok n a c h q
     cases c with
     | lst ys =>
       cases e
       obtain ⟨vs, h1, h2⟩ := ok
       exact ⟨a, vs, rfl, SqL.of h1, h2⟩
     | _ => cases e
theorem asSeq_ok {xs : List U} (r : Rel B ι F S H) (z : RepU B ι F H v u) (e : asSeq S u = some xs) : ∃ a vs, v = .ref a ∧ (SqL B.K H a vs ∨ SqT B.K H a vs) ∧ RepUs B ι F H vs xs := by
 cases z with
 | v z =>
   cases z with
   | lst f h rs => cases e; exact ⟨_, _, rfl, .inl (SqL.of h), reps_u rs⟩
   | frl h rs => cases e; exact ⟨_, _, rfl, .inl h.sq, reps_u rs⟩
   | tup h rs => cases e; exact ⟨_, _, rfl, .inr (h.sq), reps_u rs⟩
   | _ => cases e
 | @r n a h =>
   unfold asSeq at e
   simp only at e
   cases q : S[n]? with
   | none => rw [q] at e; cases e
   | some c =>
     rw [q] at e
     have ok := r.ok n a c h q
     cases c with
     | lst ys =>
       cases e
       obtain ⟨vs, h1, h2⟩ := ok
       exact ⟨a, vs, rfl, .inl (SqL.of h1), h2⟩
     | tpc ys =>
       cases e
       obtain ⟨vs, h1, h2⟩ := ok
       exact ⟨a, vs, rfl, .inr (h1.sq), h2⟩
     | _ => cases e
end
def asLst (S : Sto) : U → Option (List U)
 | .v (.lst xs) => some (xs.map U.v)
 | .r n => match S[n]? with
   | some (.lst xs) => some xs
   | _ => none
 | _ => none
theorem asLst_ok {B : Bx} {ι : List Addr} {F : Addr → Prop} {H : Hp} {S : Sto} {v : V} {u : U} {xs : List U} (r : Rel B ι F S H) (z : RepU B ι F H v u) (e : asLst S u = some xs) : ∃ a vs, v = .ref a ∧ H a = some (.lst vs) ∧ RepUs B ι F H vs xs := by
 cases z with
 | v z =>
   cases z with
   | lst f h rs => cases e; exact ⟨_, _, rfl, h, reps_u rs⟩
   | _ => cases e
 | @r n a h =>
   unfold asLst at e
   simp only at e
   cases q : S[n]? with
   | none => rw [q] at e; cases e
   | some c =>
     rw [q] at e
     have ok := r.ok n a c h q
     cases c with
     | lst ys =>
       cases e
       obtain ⟨vs, h1, h2⟩ := ok
       exact ⟨a, vs, rfl, h1, h2⟩
     | _ => cases e
def fI (g : Int → Int → Option D) : F2 := fun x y S => match x, y with
 | .v (.int i), .v (.int j) => (g i j).map fun d => (.v d, S)
 | _, _ => none
section
variable {X : Cx} {cl : Nat → Addr}
theorem opI_ok {f : Value → Value → Sem Value} {r : R2} {g : Int → Int → Option D} (h : OpR X f r) (hg : ∀ i j d, g i j = some d → ∃ v : V, (∀ F H, Rep (bx X cl) F H v d) ∧ ∀ (H : Hp) (Q : VK), Q v H → r (.int i) (.int j) H Q) : OpR X f (liftOp (bx X cl) (fI g)) := by
 intro pins s σ H x y v u Q I rx ry ⟨ι, F, S, a, b, rl, za, zb, fi⟩
 refine h pins s σ H x y v u Q I rx ry ?_
 unfold fI at fi
 split at fi
 · rename_i i j
   cases za with
   | v za =>
     cases za
     cases zb with
     | v zb =>
       cases zb
       cases q : g i j with
       | none => rw [q] at fi; exact fi.no
       | some d =>
         rw [q] at fi
         obtain ⟨w, hw, hq⟩ := hg i j d q
         exact hq H Q (fi.val rl (.v (hw F H)))
 · exact fi.no
def gSub (i j : Int) : Option D := some (.int (i - j))
def okMul (i j : Int) : Prop := i.natAbs < 2 ^ 64 ∨ j.natAbs < 2 ^ 64
def okDiv (j : Int) : Prop := 0 < j ∧ j < 1073741824
def okPow (i j : Int) : Prop := 0 ≤ j ∧ j ≤ 1000 ∧ i.natAbs < 2 ^ 64
noncomputable instance (i j : Int) : Decidable (okMul i j) := Classical.propDecidable _
noncomputable instance (j : Int) : Decidable (okDiv j) := Classical.propDecidable _
noncomputable instance (i j : Int) : Decidable (okPow i j) := Classical.propDecidable _
noncomputable def gMul (i j : Int) : Option D := if okMul i j then some (.int (i * j)) else none
def gMod (i j : Int) : Option D := if 0 < j then some (.int (i % j)) else none
noncomputable def gDiv (i j : Int) : Option D := if okDiv j then some (.int (i / j)) else none
noncomputable def gPow (i j : Int) : Option D := if okPow i j then some (.int (i ^ j.toNat)) else none
theorem oq_sub : OpR X (binaryOp .Sub) (liftOp (bx X cl) (fI gSub)) := opI_ok op_sub fun i j d e => by
 cases e; exact ⟨_, fun _ _ => .int _, fun H Q q => ⟨i, j, rfl, rfl, q⟩⟩
theorem oq_mod : OpR X (binaryOp .Mod) (liftOp (bx X cl) (fI gMod)) := opI_ok op_mod fun i j d e => by
 unfold gMod at e
 split at e
 · rename_i h; cases e; exact ⟨_, fun _ _ => .int _, fun H Q q => ⟨i, j, rfl, rfl, h, q⟩⟩
 · cases e
theorem oq_div : OpR X (binaryOp .FloorDiv) (liftOp (bx X cl) (fI gDiv)) := opI_ok op_fdiv fun i j d e => by
 unfold gDiv at e
 split at e
 · rename_i h; cases e; exact ⟨_, fun _ _ => .int _, fun H Q q => ⟨i, j, rfl, rfl, h, q⟩⟩
 · cases e
theorem oq_mulI : OpR X (binaryOp .Mult) (liftOp (bx X cl) (fI gMul)) := opI_ok op_mul fun i j d e => by
 unfold gMul at e
 split at e
 · rename_i h
   cases e
   refine ⟨_, fun _ _ => .int _, fun H Q q => ⟨i, j, rfl, rfl, ?_, q⟩⟩
   rcases h with h | h
   · exact .inl ⟨by omega, by omega⟩
   · exact .inr ⟨by omega, by omega⟩
 · cases e
theorem oq_pow : OpR X (binaryOp .Pow) (liftOp (bx X cl) (fI gPow)) := opI_ok op_pow fun i j d e => by
 unfold gPow at e
 split at e
 · rename_i h; unfold okPow at h; cases e; exact ⟨_, fun _ _ => .int _, fun H Q q => ⟨i, j, rfl, rfl, ⟨h.1, by omega, h.2.2⟩, q⟩⟩
 · cases e
def gCmp (p : Int → Int → Bool) (i j : Int) : Option D := some (.bl (p i j))
theorem oq_gtI : OpR X (compareOp .Gt) (liftOp (bx X cl) (fI (gCmp fun i j => decide (j < i)))) := opI_ok op_gt fun i j d e => by
 cases e; exact ⟨_, fun _ _ => .bl _, fun H Q q => ⟨i, j, rfl, rfl, q⟩⟩
theorem oq_geI : OpR X (compareOp .GtE) (liftOp (bx X cl) (fI (gCmp fun i j => decide (j ≤ i)))) := opI_ok op_ge fun i j d e => by
 cases e; exact ⟨_, fun _ _ => .bl _, fun H Q q => ⟨i, j, rfl, rfl, q⟩⟩
theorem oq_ltI : OpR X (compareOp .Lt) (liftOp (bx X cl) (fI (gCmp fun i j => decide (i < j)))) := opI_ok op_lt fun i j d e => by
 cases e; exact ⟨_, fun _ _ => .bl _, fun H Q q => ⟨i, j, rfl, rfl, q⟩⟩
def fAdd : F2 := fun x y S => match x, y with
 | .v (.int i), .v (.int j) => some (.v (.int (i + j)), S)
 | .v (.str i), .v (.str j) => if i.length + j.length ≤ 100000 then some (.v (.str (i ++ j)), S) else none
 | .v (.tup xs), .v (.tup ys) => if xs.length + ys.length ≤ 100000 then some (.v (.tup (xs ++ ys)), S) else none
 | _, _ => match asLst S x, asLst S y with
   | some xs, some ys => if xs.length + ys.length ≤ 100000 then (allV (xs ++ ys)).map fun ds => (.v (.lst ds), S) else none
   | _, _ => none
theorem reps_append {B : Bx} {F : Addr → Prop} {H : Hp} {xs ys : List V} {as bs : List D} (h1 : Reps B F H xs as) (h2 : Reps B F H ys bs) : Reps B F H (xs ++ ys) (as ++ bs) := reps_iff.mpr (paired_append (reps_iff.mp h1) (reps_iff.mp h2))
theorem strOk_iff {x : Str} : PyData.strOk x = true ↔ ∀ c ∈ x.cps.toList, c < 0x110000 := by
 unfold PyData.strOk
 rw [Array.all_eq_true_iff_forall_mem]
 constructor
 · intro h c hc; exact of_decide_eq_true (h c (by simpa using hc))
 · intro h c hc; exact decide_eq_true (h c (by simpa using hc))
theorem strOk_app {x y : Str} (h1 : PyData.strOk x = true) (h2 : PyData.strOk y = true) : PyData.strOk (x ++ y) = true := by
 rw [strOk_iff] at *
 intro c hc
 have e : (x ++ y).cps.toList = x.cps.toList ++ y.cps.toList := by
   show (x.cps ++ y.cps).toList = _
   simp
 rw [e] at hc
 rcases List.mem_append.mp hc with h | h
 · exact h1 c h
 · exact h2 c h
theorem oq_add : OpR X (binaryOp .Add) (liftOp (bx X cl) fAdd) := by
 intro pins s σ H x y v u Q I rx ry ⟨ι, F, S, a, b, rl, za, zb, fi⟩
 unfold fAdd at fi
 split at fi
 · rename_i i j
   cases za with
   | v za =>
     cases za
     cases zb with
     | v zb =>
       cases zb
       exact op_add pins s σ H _ _ v u Q I rx ry ⟨i, j, rfl, rfl, fi.val rl (.v (.int _))⟩
 · rename_i i j
   split at fi
   · rename_i hl
     cases za with
     | v za =>
       cases za with
       | str _ h1 =>
       cases zb with
       | v zb =>
         cases zb with
         | str _ h2 =>
         exact op_add_str pins s σ H _ _ v u Q I rx ry ⟨i, j, rfl, rfl, sz hl, fi.val rl (.v (.str _ (strOk_app h1 h2)))⟩
   · exact fi.no
 · rename_i xs ys
   split at fi
   · rename_i hl
     cases za with
     | v za =>
       cases za with
       | tup ha ra =>
         cases zb with
         | v zb =>
           cases zb with
           | tup hb rb =>
             have la := paired_len (reps_iff.mp ra)
             have lb := paired_len (reps_iff.mp rb)
             refine op_catZ pins s σ H _ _ v u Q I rx ry ⟨_, _, _, _, rfl, rfl, ha.sq, hb.sq, sz (by omega), fun e => ?_, fun _ e => ?_, fun _ _ p ob hob hp => ?_⟩
             · subst e
               cases ra
               exact fi.val rl (.v (.tup hb (by simpa using rb)))
             · subst e
               cases rb
               exact fi.val rl (.v (.tup ha (by simpa using ra)))
             · exact fi.go (Evo.new hp) (rl.new hp) (.v (.tup ⟨ob, hob, upd_same⟩ ((reps_append ra rb).mono (ι := ι) (ι' := ι) (Evo.new hp))))
   · exact fi.no
 · cases qa : asLst S a with
   | none => rw [qa] at fi; exact fi.no
   | some xs =>
     cases qb : asLst S b with
     | none => rw [qa, qb] at fi; exact fi.no
     | some ys =>
       rw [qa, qb] at fi
       simp only at fi
       split at fi
       · rename_i hl
         obtain ⟨p, vs, rfl, hp, rp⟩ := asLst_ok rl za qa
         obtain ⟨q, ws, rfl, hq, rq⟩ := asLst_ok rl zb qb
         have la := paired_len rp
         have lb := paired_len rq
         cases qv : allV (xs ++ ys) with
         | none => rw [qv] at fi; exact fi.no
         | some ds =>
           rw [qv] at fi
           have rr : RepUs (bx X cl) ι F H (vs ++ ws) (xs ++ ys) := paired_append rp rq
           rw [allV_some qv] at rr
           exact op_cat pins s σ H _ _ v u Q I rx ry ⟨p, q, vs, ws, rfl, rfl, hp, hq, sz (by omega), fun z hz => fi.go (Evo.newF hz) (rl.newF hz) (.v (.lst (.inr rfl) upd_same ((repus_reps rr).mono (ι := ι) (ι' := ι) (Evo.newF hz))))⟩
       · exact fi.no
end
end Pu
namespace Pu
open PySem L2
mutual
def pyOf : D → Option PyData
 | .non => some .none
 | .int i => some (.int i)
 | .str x => some (.str x)
 | .tup xs => (pysOf xs).map .tuple
 | .lst xs => (pysOf xs).map .list
 | .bl _ => none
 | .dic _ => none
 | .ins _ _ => none
 | .cls _ => none
 | .ty _ => none
 | .frl _ => none
 | .exn _ _ => none
def pysOf : List D → Option (List PyData)
 | [] => some []
 | x :: xs => match pyOf x, pysOf xs with
   | some p, some ps => some (p :: ps)
   | _, _ => none
end
theorem pys_cons {x : D} {xs : List D} {ps : List PyData} (h : pysOf (x :: xs) = some ps) : ∃ p qs, ps = p :: qs ∧ pyOf x = some p ∧ pysOf xs = some qs := by
 unfold pysOf at h
 split at h
 · rename_i p qs h1 h2
   cases h
   exact ⟨p, qs, rfl, h1, h2⟩
 · cases h
mutual
theorem py_inj : ∀ {a b : D} {p : PyData}, pyOf a = some p → pyOf b = some p → a = b
 | .non, b, p, h, h' => by simp [pyOf] at h; subst h; cases b <;> simp [pyOf] at h' <;> rfl
 | .int i, b, p, h, h' => by simp [pyOf] at h; subst h; cases b <;> simp [pyOf] at h'; rw [h']
 | .str i, b, p, h, h' => by simp [pyOf] at h; subst h; cases b <;> simp [pyOf] at h'; rw [h']
 | .tup xs, b, p, h, h' => by
   simp only [pyOf, Option.map_eq_some_iff] at h
   obtain ⟨ps, h1, rfl⟩ := h
   cases b <;> simp [pyOf] at h'
   rw [pys_inj h1 h']
 | .lst xs, b, p, h, h' => by
   simp only [pyOf, Option.map_eq_some_iff] at h
   obtain ⟨ps, h1, rfl⟩ := h
   cases b <;> simp [pyOf] at h'
   rw [pys_inj h1 h']
 | .bl _, _, _, h, _ => by simp [pyOf] at h
 | .dic _, _, _, h, _ => by simp [pyOf] at h
 | .ins _ _, _, _, h, _ => by simp [pyOf] at h
 | .cls _, _, _, h, _ => by simp [pyOf] at h
 | .ty _, _, _, h, _ => by simp [pyOf] at h
 | .frl _, _, _, h, _ => by simp [pyOf] at h
 | .exn _ _, _, _, h, _ => by simp [pyOf] at h
theorem pys_inj : ∀ {a b : List D} {p : List PyData}, pysOf a = some p → pysOf b = some p → a = b
 | [], b, p, h, h' => by
   simp [pysOf] at h; subst h
   cases b with
   | nil => rfl
   | cons y ys => obtain ⟨_, _, e, _⟩ := pys_cons h'; cases e
 | x :: xs, b, p, h, h' => by
   obtain ⟨q, qs, rfl, h1, h2⟩ := pys_cons h
   cases b with
   | nil => simp [pysOf] at h'
   | cons y ys =>
     obtain ⟨q', qs', e, h3, h4⟩ := pys_cons h'
     cases e
     rw [py_inj h1 h3, pys_inj h2 h4]
end
theorem py_form {b : D} {q : PyData} (h : pyOf b = some q) : q = .none ∨ (∃ i, q = .int i) ∨ (∃ x, q = .str x) ∨ (∃ ys qs, pysOf ys = some qs ∧ q = .tuple qs ∧ b = .tup ys) ∨ ∃ ys qs, pysOf ys = some qs ∧ q = .list qs ∧ b = .lst ys := by
 cases b with
 | non => cases h; exact .inl rfl
 | int i => cases h; exact .inr (.inl ⟨i, rfl⟩)
 | str i => cases h; exact .inr (.inr (.inl ⟨i, rfl⟩))
 | tup ys =>
   obtain ⟨qs, h1, h2⟩ := Option.map_eq_some_iff.mp h
   exact .inr (.inr (.inr (.inl ⟨ys, qs, h1, h2.symm, rfl⟩)))
 | lst ys =>
   obtain ⟨qs, h1, h2⟩ := Option.map_eq_some_iff.mp h
   exact .inr (.inr (.inr (.inr ⟨ys, qs, h1, h2.symm, rfl⟩)))
 | _ => cases h
mutual
theorem py_eqv : ∀ {a b : D} {p q : PyData}, pyOf a = some p → pyOf b = some q → (PyData.eqv p q = true ↔ p = q)
 | .non, b, p, q, h, h' => by
   simp [pyOf] at h; subst h
   rcases py_form h' with rfl | ⟨i, rfl⟩ | ⟨i, rfl⟩ | ⟨ys, qs, h2, rfl, rfl⟩ | ⟨ys, qs, h2, rfl, rfl⟩ <;> simp [PyData.eqv]
 | .int i, b, p, q, h, h' => by
   simp [pyOf] at h; subst h
   rcases py_form h' with rfl | ⟨i, rfl⟩ | ⟨i, rfl⟩ | ⟨ys, qs, h2, rfl, rfl⟩ | ⟨ys, qs, h2, rfl, rfl⟩ <;> simp [PyData.eqv]
 | .str i, b, p, q, h, h' => by
   simp [pyOf] at h; subst h
   rcases py_form h' with rfl | ⟨i, rfl⟩ | ⟨i, rfl⟩ | ⟨ys, qs, h2, rfl, rfl⟩ | ⟨ys, qs, h2, rfl, rfl⟩ <;> simp [PyData.eqv]
 | .tup xs, b, p, q, h, h' => by
   simp only [pyOf, Option.map_eq_some_iff] at h
   obtain ⟨ps, h1, rfl⟩ := h
   rcases py_form h' with rfl | ⟨i, rfl⟩ | ⟨i, rfl⟩ | ⟨ys, qs, h2, rfl, rfl⟩ | ⟨ys, qs, h2, rfl, rfl⟩ <;> simp [PyData.eqv]
   exact pys_eqv h1 h2
 | .lst xs, b, p, q, h, h' => by
   simp only [pyOf, Option.map_eq_some_iff] at h
   obtain ⟨ps, h1, rfl⟩ := h
   rcases py_form h' with rfl | ⟨i, rfl⟩ | ⟨i, rfl⟩ | ⟨ys, qs, h2, rfl, rfl⟩ | ⟨ys, qs, h2, rfl, rfl⟩ <;> simp [PyData.eqv]
   exact pys_eqv h1 h2
 | .bl _, _, _, _, h, _ => by simp [pyOf] at h
 | .dic _, _, _, _, h, _ => by simp [pyOf] at h
 | .ins _ _, _, _, _, h, _ => by simp [pyOf] at h
 | .cls _, _, _, _, h, _ => by simp [pyOf] at h
 | .ty _, _, _, _, h, _ => by simp [pyOf] at h
 | .frl _, _, _, _, h, _ => by simp [pyOf] at h
 | .exn _ _, _, _, _, h, _ => by simp [pyOf] at h
theorem pys_eqv : ∀ {a b : List D} {p q : List PyData}, pysOf a = some p → pysOf b = some q → (PyData.eqvAll p q = true ↔ p = q)
 | [], b, p, q, h, h' => by
   simp [pysOf] at h; subst h
   cases b with
   | nil => simp [pysOf] at h'; subst h'; simp [PyData.eqvAll]
   | cons y ys => obtain ⟨_, _, rfl, _⟩ := pys_cons h'; simp [PyData.eqvAll]
 | x :: xs, b, p, q, h, h' => by
   obtain ⟨r, rs, rfl, h1, h2⟩ := pys_cons h
   cases b with
   | nil => simp [pysOf] at h'; subst h'; simp [PyData.eqvAll]
   | cons y ys =>
     obtain ⟨q', qs', rfl, h3, h4⟩ := pys_cons h'
     simp [PyData.eqvAll, py_eqv h1 h3, pys_eqv h2 h4]
end
def datAt : Nat → D → Bool
 | _, .non => true
 | _, .int _ => true
 | _, .str _ => true
 | n + 1, .tup xs => xs.all (datAt n)
 | n + 1, .lst xs => xs.all (datAt n)
 | _, _ => false
abbrev isDat (d : D) : Bool := datAt 20 d
@[simp] theorem datAt_int (n : Nat) (i : Int) : datAt n (.int i) = true := by cases n <;> rfl
@[simp] theorem datAt_str (n : Nat) (i : Str) : datAt n (.str i) = true := by cases n <;> rfl
@[simp] theorem datAt_tup (n : Nat) (xs : List D) : datAt (n + 1) (.tup xs) = xs.all (datAt n) := rfl
@[simp] theorem datAt_lst (n : Nat) (xs : List D) : datAt (n + 1) (.lst xs) = xs.all (datAt n) := rfl
theorem pys_of {n : Nat} {f : D → Bool} (h : ∀ d, f d = true → ∃ k, pyOf d = some k ∧ k.depth ≤ n) : ∀ {xs : List D}, xs.all f = true → ∃ ks, pysOf xs = some ks ∧ PyData.depthAll ks ≤ n
 | [], _ => ⟨[], rfl, by simp [PyData.depthAll]⟩
 | x :: xs, hx => by
   simp only [List.all_cons, Bool.and_eq_true] at hx
   obtain ⟨k, e, d⟩ := h x hx.1
   obtain ⟨ks, e2, d2⟩ := pys_of h hx.2
   refine ⟨k :: ks, by simp [pysOf, e, e2], ?_⟩
   simp only [PyData.depthAll]
   omega
theorem py_of : ∀ {n : Nat} {d : D}, datAt n d = true → ∃ k, pyOf d = some k ∧ k.depth ≤ n
 | n, .non, _ => ⟨.none, rfl, by simp [PyData.depth]⟩
 | n, .int i, _ => ⟨.int i, rfl, by simp [PyData.depth]⟩
 | n, .str i, _ => ⟨.str i, rfl, by simp [PyData.depth]⟩
 | n + 1, .tup xs, h => by
   obtain ⟨ks, e, d⟩ := pys_of (n := n) (fun d h => py_of h) h
   exact ⟨.tuple ks, by simp [pyOf, e], by simp only [PyData.depth]; omega⟩
 | n + 1, .lst xs, h => by
   obtain ⟨ks, e, d⟩ := pys_of (n := n) (fun d h => py_of h) h
   exact ⟨.list ks, by simp [pyOf, e], by simp only [PyData.depth]; omega⟩
 | 0, .tup _, h => by simp [datAt] at h
 | 0, .lst _, h => by simp [datAt] at h
 | n, .bl _, h => by cases n <;> simp [datAt] at h
 | n, .dic _, h => by cases n <;> simp [datAt] at h
 | n, .ins _ _, h => by cases n <;> simp [datAt] at h
 | n, .cls _, h => by cases n <;> simp [datAt] at h
 | n, .ty _, h => by cases n <;> simp [datAt] at h
 | n, .frl _, h => by cases n <;> simp [datAt] at h
 | n, .exn _ _, h => by cases n <;> simp [datAt] at h
section
variable {B : Bx} {F : Addr → Prop} {H : Hp}
mutual
theorem rep_dp : ∀ {v : V} {d : D} {p : PyData}, Rep B F H v d → pyOf d = some p → Dp B.K H v p ∧ p.canLay0 = true
 | _, _, p, .non, e => by simp [pyOf] at e; subst e; exact ⟨.non, rfl⟩
 | _, _, p, .int i, e => by simp [pyOf] at e; subst e; exact ⟨.int i, rfl⟩
 | _, _, p, .str i h, e => by simp [pyOf] at e; subst e; exact ⟨.str i, h⟩
 | _, _, p, .tup h rs, e => by
   simp only [pyOf, Option.map_eq_some_iff] at e
   obtain ⟨ps, e1, rfl⟩ := e
   obtain ⟨h1, h2⟩ := reps_dp rs e1
   exact ⟨.tup (h.sq) h1, h2⟩
 | _, _, p, .lst _ h rs, e => by
   simp only [pyOf, Option.map_eq_some_iff] at e
   obtain ⟨ps, e1, rfl⟩ := e
   obtain ⟨h1, h2⟩ := reps_dp rs e1
   exact ⟨.lst (SqL.of h) h1, h2⟩
 | _, _, _, .bl _, e => by simp [pyOf] at e
 | _, _, _, .frl _ _, e => by simp [pyOf] at e
 | _, _, _, .exn _ _ _ _ _ _ _ _, e => by simp [pyOf] at e
 | _, _, _, .dic _ _ _ _, e => by simp [pyOf] at e
 | _, _, _, .ins _ _ _ _ _, e => by simp [pyOf] at e
 | _, _, _, .cls _, e => by simp [pyOf] at e
 | _, _, _, .ty _, e => by simp [pyOf] at e
theorem reps_dp : ∀ {vs : List V} {ds : List D} {ps : List PyData}, Reps B F H vs ds → pysOf ds = some ps → DpAll B.K H vs ps ∧ PyData.canLayAll0 ps = true
 | _, _, p, .nil, e => by simp [pysOf] at e; subst e; exact ⟨.nil, rfl⟩
 | _, _, p, .cons a b, e => by
   obtain ⟨q, qs, rfl, e1, e2⟩ := pys_cons e
   obtain ⟨h1, h2⟩ := rep_dp a e1
   obtain ⟨h3, h4⟩ := reps_dp b e2
   exact ⟨.cons h1 h3, by simp [PyData.canLayAll0, h2, h4]⟩
end
end
noncomputable def eqD (a b : D) : Option Bool :=
 if isDat a = true ∧ isDat b = true then some (decide (a = b)) else
 match a, b with
 | .bl x, .bl y => some (decide (x = y))
 | _, _ => none
def deL (S : Sto) : U → Option D
 | .v d => some d
 | .r n => match S[n]? with
   | some (.lst xs) => (allV xs).map D.lst
   | _ => none
noncomputable def fEq : F2 := fun x y S => match deL S x, deL S y with
 | some a, some b => (eqD a b).map fun k => (.v (.bl k), S)
 | _, _ => none
noncomputable def fNe : F2 := fun x y S => match deL S x, deL S y with
 | some a, some b => (eqD a b).map fun k => (.v (.bl (!k)), S)
 | _, _ => none
section
variable {X : Cx} {cl : Nat → Addr}
theorem deL_dp {B : Bx} {ι : List Addr} {F : Addr → Prop} {H : Hp} {S : Sto} {v : V} {u : U} {d : D} {p : PyData} (r : Rel B ι F S H) (z : RepU B ι F H v u) (e : deL S u = some d) (ep : pyOf d = some p) : Dp B.K H v p ∧ p.canLay0 = true := by
 cases z with
 | v z => cases e; exact rep_dp z ep
 | @r n a h =>
   unfold deL at e
   simp only at e
   cases q : S[n]? with
   | none => rw [q] at e; cases e
   | some c =>
     rw [q] at e
     have ok := r.ok n a c h q
     cases c with
     | lst ys =>
       obtain ⟨ds, e1, rfl⟩ := Option.map_eq_some_iff.mp e
       obtain ⟨vs, h1, h2⟩ := ok
       simp only [pyOf, Option.map_eq_some_iff] at ep
       obtain ⟨ps, e2, rfl⟩ := ep
       rw [allV_some e1] at h2
       obtain ⟨g1, g2⟩ := reps_dp (repus_reps h2) e2
       exact ⟨.lst (SqL.of h1) g1, g2⟩
     | _ => cases e
theorem eqD_ok {a b : D} {k : Bool} (h : eqD a b = some k) : (∃ p q, pyOf a = some p ∧ pyOf b = some q ∧ p.depth ≤ 64 ∧ q.depth ≤ 64 ∧ PyData.eqv p q = k) ∨ ∃ x y, a = .bl x ∧ b = .bl y ∧ k = decide (x = y) := by
 unfold eqD at h
 split at h
 · rename_i hx
   cases h
   obtain ⟨p, e1, d1⟩ := py_of hx.1
   obtain ⟨q, e2, d2⟩ := py_of hx.2
   refine .inl ⟨p, q, e1, e2, by omega, by omega, ?_⟩
   have hv := py_eqv e1 e2
   by_cases hab : a = b
   · subst hab
     rw [e1] at e2; cases e2
     simp only [decide_true]
     exact hv.mpr rfl
   · simp only [hab, decide_false]
     cases qv : PyData.eqv p q with
     | false => rfl
     | true => exact absurd (py_inj e1 (by rw [e2, hv.mp qv])) hab
 · split at h
   · rename_i x y _
     cases h
     exact .inr ⟨x, y, rfl, rfl, rfl⟩
   · cases h
theorem oq_eq (hu : X.A.units + 64 < cLine) : OpR X (compareOp .Eq) (liftOp (bx X cl) fEq) := by
 intro pins s σ H x y v u Q I rx ry ⟨ι, F, S, a, b, rl, za, zb, fi⟩
 unfold fEq at fi
 split at fi
 · rename_i d e q1 q2
   cases qe : eqD d e with
   | none => rw [qe] at fi; exact fi.no
   | some k =>
     rw [qe] at fi
     rcases eqD_ok qe with ⟨p, q, e1, e2, d1, d2, ek⟩ | ⟨p, q, rfl, rfl, rfl⟩
     · obtain ⟨h1, c1⟩ := deL_dp rl za q1 e1
       obtain ⟨h2, c2⟩ := deL_dp rl zb q2 e2
       exact op_eqD hu pins s σ H x y v u Q I rx ry ⟨p, q, h1, h2, by simp [SeqAt.shaped, c1, d1], by simp [SeqAt.shaped, c2, d2], by rw [ek]; exact fi.val rl (.v (.bl _))⟩
     · have e1 : a = .v (.bl p) := by
         cases a with
         | v _ => cases q1; rfl
         | r n =>
           unfold deL at q1; simp only at q1
           split at q1
           · obtain ⟨_, _, z⟩ := Option.map_eq_some_iff.mp q1; cases z
           · cases q1
       have e2 : b = .v (.bl q) := by
         cases b with
         | v _ => cases q2; rfl
         | r n =>
           unfold deL at q2; simp only at q2
           split at q2
           · obtain ⟨_, _, z⟩ := Option.map_eq_some_iff.mp q2; cases z
           · cases q2
       subst e1 e2
       cases za with
       | v za =>
         cases za
         cases zb with
         | v zb =>
           cases zb
           refine op_eq pins s σ H _ _ v u Q I rx ry ⟨rfl, ?_⟩
           have : decide ((V.bl p) = V.bl q) = decide (p = q) := by simp
           rw [this]
           exact fi.val rl (.v (.bl _))
 · exact fi.no
theorem oq_ne (hu : X.A.units + 64 < cLine) : OpR X (compareOp .NotEq) (liftOp (bx X cl) fNe) := by
 intro pins s σ H x y v u Q I rx ry ⟨ι, F, S, a, b, rl, za, zb, fi⟩
 unfold fNe at fi
 split at fi
 · rename_i d e q1 q2
   cases qe : eqD d e with
   | none => rw [qe] at fi; exact fi.no
   | some k =>
     rw [qe] at fi
     rcases eqD_ok qe with ⟨p, q, e1, e2, d1, d2, ek⟩ | ⟨p, q, rfl, rfl, rfl⟩
     · obtain ⟨h1, c1⟩ := deL_dp rl za q1 e1
       obtain ⟨h2, c2⟩ := deL_dp rl zb q2 e2
       exact op_neD hu pins s σ H x y v u Q I rx ry ⟨p, q, h1, h2, by simp [SeqAt.shaped, c1, d1], by simp [SeqAt.shaped, c2, d2], by rw [ek]; exact fi.val rl (.v (.bl _))⟩
     · have e1 : a = .v (.bl p) := by
         cases a with
         | v _ => cases q1; rfl
         | r n =>
           unfold deL at q1; simp only at q1
           split at q1
           · obtain ⟨_, _, z⟩ := Option.map_eq_some_iff.mp q1; cases z
           · cases q1
       have e2 : b = .v (.bl q) := by
         cases b with
         | v _ => cases q2; rfl
         | r n =>
           unfold deL at q2; simp only at q2
           split at q2
           · obtain ⟨_, _, z⟩ := Option.map_eq_some_iff.mp q2; cases z
           · cases q2
       subst e1 e2
       cases za with
       | v za =>
         cases za
         cases zb with
         | v zb =>
           cases zb
           refine op_ne pins s σ H _ _ v u Q I rx ry ⟨rfl, ?_⟩
           have : decide ((V.bl p) = V.bl q) = decide (p = q) := by simp
           rw [this]
           exact fi.val rl (.v (.bl _))
 · exact fi.no
end
end Pu
namespace Pu
open PySem L2
noncomputable def inSeq (d : D) (xs : List U) : Option Bool := if isKey d = true then match allV xs with
 | some ds => if ds.all isKey = true then some (decide (d ∈ ds)) else none
 | none => none else none
section
variable {X : Cx} {cl : Nat → Addr}
open SeqAt
theorem in_ok {pins : List (Addr × Obj)} {σ : L2.St} {F : Addr → Prop} {H : Hp} {s : Shared} {x : V} {u : Value} {d : D} {ds : List D} {vs : List V} {its : List Value} (I : Inv X pins σ H s) (hu : X.A.units + 20 < cLine) (zx : Rep (bx X cl) F H x d) (rx : RelV x u) (kd : isKey d = true)
   (zs : Reps (bx X cl) F H vs ds) (rv : Vals vs its) (ks : ds.all isKey = true) : ∃ e : Value → Bool, (∀ y, y ∈ its.toArray → EqAt X.A.in1 s y u (e y)) ∧ (its.toArray.any e = true ↔ d ∈ ds) := by
 obtain ⟨k, ek, dk⟩ := nkey_of kd
 have hx := rep_key I zx rx ek
 classical
 refine ⟨fun y => decide (∃ k', NestedIs s.heap k' y ∧ k' = k), fun y hy => ?_, ?_⟩
 · have hy' : y ∈ its := by simpa using hy
   obtain ⟨j, hj⟩ := List.getElem?_of_mem hy'
   obtain ⟨v, hv, rvy⟩ := paired_get rv hj
   obtain ⟨dy, hdy, zy⟩ := paired_get' (reps_iff.mp zs) hv
   obtain ⟨ky, eky, dky⟩ := nkey_of (List.all_eq_true.mp ks dy (List.mem_of_getElem? hdy))
   have hyk := rep_key I zy rvy eky
   have hq := eqAt_key ky k X.A.in1 s y u hyk hx (by show X.A.units + 1 + min ky.depth k.depth < cLine; omega)
   have eb : NestedKey.beq ky k = decide (∃ k', NestedIs s.heap k' y ∧ k' = k) := by
     rw [← NestedKey.decide_eq]
     by_cases hkk : ky = k
     · rw [decide_eq_true hkk, decide_eq_true ⟨ky, hyk, hkk⟩]
     · rw [decide_eq_false hkk, decide_eq_false]
       rintro ⟨k', h1, h2⟩
       exact hkk ((NestedIs.inj _ _ _ hyk h1).trans h2)
   show EqAt _ _ _ _ (decide (∃ k', NestedIs s.heap k' y ∧ k' = k))
   rw [← eb]
   exact hq
 · simp only [List.any_toArray, List.any_eq_true, decide_eq_true_eq]
   constructor
   · rintro ⟨y, hy, k', h1, rfl⟩
     obtain ⟨j, hj⟩ := List.getElem?_of_mem hy
     obtain ⟨v, hv, rvy⟩ := paired_get rv hj
     obtain ⟨dy, hdy, zy⟩ := paired_get' (reps_iff.mp zs) hv
     have hm := List.mem_of_getElem? hdy
     obtain ⟨ky, eky, dky⟩ := nkey_of (List.all_eq_true.mp ks dy hm)
     have hyk := rep_key I zy rvy eky
     have := NestedIs.inj _ _ _ hyk h1
     subst this
     rw [nkey_inj ek eky]
     exact hm
   · intro hm
     obtain ⟨j, hj⟩ := List.getElem?_of_mem hm
     obtain ⟨v, hv, zy⟩ := paired_get (reps_iff.mp zs) hj
     obtain ⟨y, hy, rvy⟩ := paired_get' rv hv
     exact ⟨y, List.mem_of_getElem? hy, k, rep_key I zy rvy ek, rfl⟩
noncomputable def fIn (neg : Bool) : F2 := fun x y S => match x, y with
 | .v (.str ⟨⟨[c]⟩⟩), .v (.str z) => some (.v (.bl (cond neg (!decide (c ∈ z.cps.toList)) (decide (c ∈ z.cps.toList)))), S)
 | .v d, _ => match asSeq S y with
   | some xs => (inSeq d xs).map fun b => (.v (.bl (cond neg (!b) b)), S)
   | none => none
 | _, _ => none
theorem oq_in (hu : X.A.units + 20 < cLine) : OpR X (compareOp .In) (liftOp (bx X cl) (fIn false)) := by
 intro pins s σ H x y v u Q I rx ry ⟨ι, F, S, a, b, rl, za, zb, fi⟩
 unfold fIn at fi
 split at fi
 · rename_i c z
   cases za with
   | v za =>
     cases za with
     | str _ h1 =>
       cases zb with
       | v zb =>
         cases zb with
         | str _ h2 => exact op_in_sign pins s σ H _ _ v u Q I rx ry ⟨c, z, rfl, rfl, fi.val rl (.v (.bl _))⟩
 · rename_i d _
   cases qs : asSeq S b with
   | none => rw [qs] at fi; exact fi.no
   | some xs =>
     rw [qs] at fi
     simp only at fi
     cases qi : inSeq d xs with
     | none => rw [qi] at fi; exact fi.no
     | some k =>
       rw [qi] at fi
       unfold inSeq at qi
       split at qi
       · rename_i kd
         cases qa : allV xs with
         | none => rw [qa] at qi; cases qi
         | some ds =>
           rw [qa] at qi
           simp only at qi
           split at qi
           · rename_i ks
             cases qi
             cases za with
             | v za =>
               obtain ⟨p, vs, rfl, hp, zs⟩ := asSeq_ok rl zb qs
               rw [allV_some qa] at zs
               have zs' := repus_reps zs
               cases ry
               rcases hp with hp | hp
               · obtain ⟨its, rv, pl, _⟩ := I.list hp
                 obtain ⟨e, he, hb⟩ := in_ok I hu za rx kd zs' rv ks
                 refine in_listAt e pl.isList he ⟨.bl _, H, I, rfl, ?_⟩
                 have : its.toArray.any e = decide (d ∈ ds) := by
                   by_cases hm : d ∈ ds
                   · rw [hb.mpr hm, decide_eq_true hm]
                   · rw [decide_eq_false hm]
                     cases qq : its.toArray.any e with
                     | false => rfl
                     | true => exact absurd (hb.mp qq) hm
                 rw [this]
                 have z := fi.val rl (v := .bl (decide (d ∈ ds))) (.v (.bl _))
                 exact z
               · obtain ⟨its, rv, pl, _⟩ := I.tuple hp
                 obtain ⟨e, he, hb⟩ := in_ok I hu za rx kd zs' rv ks
                 refine in_tupleAt e (show s.heap.IsTuple _ _ from pl) he ⟨.bl _, H, I, rfl, ?_⟩
                 have : its.toArray.any e = decide (d ∈ ds) := by
                   by_cases hm : d ∈ ds
                   · rw [hb.mpr hm, decide_eq_true hm]
                   · rw [decide_eq_false hm]
                     cases qq : its.toArray.any e with
                     | false => rfl
                     | true => exact absurd (hb.mp qq) hm
                 rw [this]
                 have z := fi.val rl (v := .bl (decide (d ∈ ds))) (.v (.bl _))
                 exact z
           · cases qi
       · cases qi
 · exact fi.no
def fIsN (neg : Bool) : F2 := fun x y S => match y with
 | .v .non => (match x with
   | .v .non => some (.v (.bl (!neg)), S)
   | _ => some (.v (.bl neg), S))
 | _ => none
theorem repu_non {B : Bx} {ι : List Addr} {F : Addr → Prop} {H : Hp} {v : V} {u : U} (z : RepU B ι F H v u) : v = .non ↔ u = .v .non := by
 cases z with
 | v z => cases z <;> simp
 | r _ => simp
def fLen : FA := fun us S => match us with
 | [.v (.str z)] => if z.length ≤ 100000 then some (.v (.int z.length), S) else none
 | [u] => (asSeq S u).map fun xs => (.v (.int xs.length), S)
 | _ => none
theorem cq_len : CallR X (.builtin "len") (liftC (bx X cl) fLen) := by
 intro pins s σ H xs us Q I rv ⟨ι, F, S, as, rl, zs, fi⟩
 unfold fLen at fi
 split at fi
 · rename_i z
   split at fi
   · rename_i hl
     cases zs with
     | cons z1 z2 =>
       cases z2
       cases z1 with
       | v z1 =>
         cases z1 with
         | str _ h1 => exact call_len_str pins s σ H _ us Q I rv ⟨z, rfl, sz hl, fi.val rl (.v (.int _))⟩
   · exact fi.no
 · rename_i u _
   cases q : asSeq S u with
   | none => rw [q] at fi; exact fi.no
   | some ys =>
     rw [q] at fi
     cases zs with
     | cons z1 z2 =>
       cases z2
       obtain ⟨p, vs, rfl, hp, zz⟩ := asSeq_ok rl z1 q
       refine call_len_seq pins s σ H _ us Q I rv ⟨p, vs, rfl, hp, ?_⟩
       rw [paired_len zz]
       exact fi.val rl (.v (.int _))
 · exact fi.no
def fInt : FA := fun us S => match us with
 | [.v (.int i)] => some (.v (.int i), S)
 | [.v (.bl k)] => some (.v (.int (if k then 1 else 0)), S)
 | _ => none
theorem cq_int : CallR X (.type "int") (liftC (bx X cl) fInt) := by
 intro pins s σ H xs us Q I rv ⟨ι, F, S, as, rl, zs, fi⟩
 unfold fInt at fi
 split at fi
 · rename_i i
   cases zs with
   | cons z1 z2 =>
     cases z2
     cases z1 with
     | v z1 => cases z1; exact call_int1 pins s σ H _ us Q I rv (.inl ⟨i, rfl, fi.val rl (.v (.int _))⟩)
 · rename_i k
   cases zs with
   | cons z1 z2 =>
     cases z2
     cases z1 with
     | v z1 => cases z1; exact call_int1 pins s σ H _ us Q I rv (.inr ⟨k, rfl, fi.val rl (.v (.int _))⟩)
 · exact fi.no
def fStr : FA := fun us S => match us with
 | [.v (.str i)] => some (.v (.str i), S)
 | _ => none
theorem cq_str : CallR X (.type "str") (liftC (bx X cl) fStr) := by
 intro pins s σ H xs us Q I rv ⟨ι, F, S, as, rl, zs, fi⟩
 unfold fStr at fi
 split at fi
 · rename_i i
   cases zs with
   | cons z1 z2 =>
     cases z2
     cases z1 with
     | v z1 =>
       cases z1 with
       | str _ h => exact SkE.call_str_str pins s σ H _ us Q I rv ⟨i, rfl, fi.val rl (.v (.str _ h))⟩
 · exact fi.no
def fListV : FA := fun us S => match us with
 | [u] => match asSeq S u with
   | some xs => (allV xs).map fun ds => (.v (.lst ds), S)
   | none => none
 | _ => none
def fListS : FA := fun us S => match us with
 | [u] => (asSeq S u).map fun xs => (.r S.length, S ++ [.lst xs])
 | _ => none
theorem cq_listV : CallR X (.type "list") (liftC (bx X cl) fListV) := by
 intro pins s σ H xs us Q I rv ⟨ι, F, S, as, rl, zs, fi⟩
 unfold fListV at fi
 split at fi
 · rename_i u
   cases q : asSeq S u with
   | none => rw [q] at fi; exact fi.no
   | some ys =>
     rw [q] at fi
     simp only at fi
     cases qa : allV ys with
     | none => rw [qa] at fi; exact fi.no
     | some ds =>
       rw [qa] at fi
       cases zs with
       | cons z1 z2 =>
         cases z2
         obtain ⟨p, vs, rfl, hp, zz⟩ := asSeq_ok rl z1 q
         rw [allV_some qa] at zz
         exact call_list_of pins s σ H _ us Q I rv ⟨p, vs, rfl, hp, fun l hl => fi.go (Evo.newF hl) (rl.newF hl) (.v (.lst (.inr rfl) upd_same ((repus_reps zz).mono (ι := ι) (ι' := ι) (Evo.newF hl))))⟩
 · exact fi.no
def fTuple : FA := fun us S => match us with
 | [u] => match asSeq S u with
   | some xs => (allV xs).map fun ds => (.v (.tup ds), S)
   | none => none
 | _ => none
theorem cq_tuple : CallR X (.type "tuple") (liftC (bx X cl) fTuple) := by
 intro pins s σ H xs us Q I rv ⟨ι, F, S, as, rl, zs, fi⟩
 unfold fTuple at fi
 split at fi
 · rename_i u
   cases q : asSeq S u with
   | none => rw [q] at fi; exact fi.no
   | some ys =>
     rw [q] at fi
     simp only at fi
     cases qa : allV ys with
     | none => rw [qa] at fi; exact fi.no
     | some ds =>
       rw [qa] at fi
       cases zs with
       | cons z1 z2 =>
         cases z2
         have key : ∃ p vs, ‹V› = .ref p ∧ (SqL X.K H p vs ∨ TupAt H p vs) ∧ RepUs (bx X cl) ι F H vs ys := by
           cases z1 with
           | v z =>
             cases z with
             | lst f h rs => cases q; exact ⟨_, _, rfl, .inl (SqL.of h), reps_u rs⟩
             | frl h rs => cases q; exact ⟨_, _, rfl, .inl h.sq, reps_u rs⟩
             | tup h rs => cases q; exact ⟨_, _, rfl, .inr h, reps_u rs⟩
             | _ => cases q
           | @r n a h =>
             unfold asSeq at q
             simp only at q
             cases qq : S[n]? with
             | none => rw [qq] at q; cases q
             | some c =>
               rw [qq] at q
               have ok := rl.ok n a c h qq
               cases c with
               | lst ys =>
                 cases q
                 obtain ⟨vs, h1, h2⟩ := ok
                 exact ⟨a, vs, rfl, .inl (SqL.of h1), h2⟩
               | tpc ys =>
                 cases q
                 obtain ⟨vs, h1, h2⟩ := ok
                 exact ⟨a, vs, rfl, .inr h1, h2⟩
               | _ => cases q
         obtain ⟨p, vs, rfl, hp, zz⟩ := key
         rw [allV_some qa] at zz
         refine call_tupleZ pins s σ H _ us Q I rv ⟨p, vs, rfl, ?_⟩
         rcases hp with hp | hp
         · exact .inl ⟨hp, fun l ob hob hl => fi.go (Evo.new hl) (rl.new hl) (.v (.tup ⟨ob, hob, upd_same⟩ ((repus_reps zz).mono (ι := ι) (ι' := ι) (Evo.new hl))))⟩
         · exact .inr ⟨hp.sq, fi.val rl (.v (.tup hp (repus_reps zz)))⟩
 · exact fi.no
end
end Pu
namespace Pu
open PySem L2
def fIx : F2 := fun x y S => match x, y with
 | .v (.str z), .v (.int i) => if z.length ≤ 100000 then (atI z.cps.toList i).map fun c => (.v (.str ⟨#[c]⟩), S) else none
 | _, .v (.int i) => match asSeq S x with
   | some xs => (atI xs i).map fun u => (u, S)
   | none => none
 | _, _ => none
theorem atI_paired {α β : Type} {P : α → β → Prop} {xs : List α} {ys : List β} {i : Int} {y : β} (h : Paired P xs ys) (e : atI ys i = some y) : ∃ x, atI xs i = some x ∧ P x y := by
 unfold atI at e ⊢
 rw [paired_len h]
 cases q : ixN ys.length i with
 | none => rw [q] at e; cases e
 | some j =>
   rw [q] at e
   obtain ⟨x, h1, h2⟩ := paired_get h (show ys[j]? = some y from e)
   exact ⟨x, h1, h2⟩
theorem atI_mem {α : Type} {xs : List α} {i : Int} {x : α} (e : atI xs i = some x) : x ∈ xs := by
 unfold atI at e
 cases q : ixN xs.length i with
 | none => rw [q] at e; cases e
 | some j => rw [q] at e; exact List.mem_of_getElem? (show xs[j]? = some x from e)
section
variable {X : Cx} {cl : Nat → Addr} {W : WX}
theorem strOk_one {z : Str} {c : Nat} (h : PyData.strOk z = true) (hc : c ∈ z.cps.toList) : PyData.strOk ⟨#[c]⟩ = true := by
 rw [strOk_iff] at *
 intro d hd
 have : d = c := by simpa using hd
 subst this
 exact h d hc
theorem xq_ix : IxR X (liftOp (bx X cl) fIx) := by
 intro value slice pins s σ H x y v u Q I rx ry ⟨ι, F, S, a, b, rl, za, zb, fi⟩ hs
 unfold fIx at fi
 split at fi
 · rename_i z i
   split at fi
   · rename_i hl
     cases za with
     | v za =>
       cases za with
       | str _ h1 =>
         cases zb with
         | v zb =>
           cases zb
           cases q : atI z.cps.toList i with
           | none => rw [q] at fi; exact fi.no
           | some c =>
             rw [q] at fi
             exact ix_str value slice pins s σ H _ _ v u Q I rx ry ⟨z, i, c, rfl, rfl, sz hl, q, fi.val rl (.v (.str _ (strOk_one h1 (atI_mem q))))⟩ hs
   · exact fi.no
 · rename_i i _
   cases zb with
   | v zb =>
     cases zb
     cases q : asSeq S a with
     | none => rw [q] at fi; exact fi.no
     | some xs =>
       rw [q] at fi
       simp only at fi
       cases qi : atI xs i with
       | none => rw [qi] at fi; exact fi.no
       | some w =>
         rw [qi] at fi
         obtain ⟨p, vs, rfl, hp, zz⟩ := asSeq_ok rl za q
         obtain ⟨xv, h1, h2⟩ := atI_paired zz qi
         rcases hp with hp | hp
         · exact ix_list value slice pins s σ H _ _ v u Q I rx ry ⟨p, vs, i, xv, rfl, rfl, hp, h1, fi.val rl h2⟩ hs
         · exact ix_tup value slice pins s σ H _ _ v u Q I rx ry ⟨p, vs, i, xv, rfl, rfl, hp, h1, fi.val rl h2⟩ hs
 · exact fi.no
end
abbrev MO := Env' → Sto → R (Option Int)
def oNone : MO := fun _ S => .ok none S
def oSome (m : ME) : MO := fun ρ S => (m ρ S).bind fun u S1 => match u with
 | .v (.int i) => .ok (some i) S1
 | _ => .er
def cutU {α : Type} (xs : List α) (lo hi : Option Int) : List α := (xs.drop (HT.sIx xs.length 0 lo)).take (HT.sIx xs.length xs.length hi - HT.sIx xs.length 0 lo)
theorem cut_paired {α β : Type} {P : α → β → Prop} {xs : List α} {ys : List β} (lo hi : Option Int) (h : Paired P xs ys) : Paired P (cutU xs lo hi) (cutU ys lo hi) := by
 unfold cutU
 rw [paired_len h]
 exact paired_take _ (paired_drop _ h)
def fSl : U → Option Int → Option Int → Sto → Option (U × Sto) := fun x lo hi S => match x with
 | .v (.str z) => if z.length ≤ 100000 then some (.v (.str (cutS z lo hi)), S) else none
 | .v (.tup xs) => some (.v (.tup (cutU xs lo hi)), S)
 | _ => match asList S x with
   | some xs => (allV (cutU xs lo hi)).map fun ds => (.v (.lst ds), S)
   | none => none
def eSl (f : U → Option Int → Option Int → Sto → Option (U × Sto)) (m : ME) (lo hi : MO) : ME := fun ρ S => (m ρ S).bind fun x S1 => (lo ρ S1).bind fun l S2 => (hi ρ S2).bind fun h S3 => ofO (f x l h S3)
def liftO (B : Bx) (W : WX) (m : MO) : TO := fun σ H Q => ∃ ι F S ρ, Rel B ι F S H ∧ REnv B ι F H σ ρ ∧ Out B W σ ι F H (fun _ _ _ b c => b = c) Q (m ρ S)
def QO (X : Cx) (cl : Nat → Addr) (W : WX) (e : Option Expr) (m : MO) : Prop := PO X e (liftO (bx X cl) W m)
theorem PO.imp {X : Cx} {e : Option Expr} {t t' : TO} (h : PO X e t) (k : ∀ σ H Q, t' σ H Q → t σ H Q) : PO X e t' := ⟨fun pins s σ H Q I hq => h.run pins s σ H Q I (k σ H Q hq)⟩
section
variable {X : Cx} {cl : Nat → Addr} {W : WX} {e : Expr} {lo hi : Option Expr} {m : ME} {mlo mhi : MO} {pos p2 : Pos}
theorem qo_none : QO X cl W none oNone := PO.imp po_none fun σ H Q ⟨ι, F, S, ρ, r, en, o⟩ => o none ι F H Evo.refl r rfl
theorem qo_some (h : QE X cl W e m) : QO X cl W (some e) (oSome m) := PO.imp (po_some h) fun σ H Q ⟨ι, F, S, ρ, r, en, o⟩ => ⟨ι, F, S, ρ, r, en, o.bind.mono fun x H1 ⟨ι1, F1, S1, x', e1, r1, z1, o1⟩ => by
 split at o1
 · rename_i i
   cases z1 with
   | v z1 => cases z1; exact ⟨i, rfl, o1 _ ι1 F1 H1 Evo.refl r1 rfl⟩
 · exact o1.elim⟩
theorem strOk_cut {z : Str} {l h : Option Int} (hz : PyData.strOk z = true) : PyData.strOk (cutS z l h) = true := by
 rw [strOk_iff] at *
 intro c hc
 unfold cutS at hc
 exact hz c (List.mem_of_mem_drop (List.mem_of_mem_take (by simpa using hc)))
def rSlQ (B : Bx) (f : U → Option Int → Option Int → Sto → Option (U × Sto)) : V → Option Int → Option Int → Hp → VK → Prop := fun x l h H Q => ∃ ι F S a, Rel B ι F S H ∧ RepU B ι F H x a ∧ Fin B ι F H Q (f a l h S)
theorem sq_sl : SlR X (rSlQ (bx X cl) fSl) := by
 intro pins s σ H x v vl vu l h sl Q I rx hs pl pu ⟨ι, F, S, a, rl, za, fi⟩
 unfold fSl at fi
 split at fi
 · rename_i z
   split at fi
   · rename_i hl
     cases za with
     | v za =>
       cases za with
       | str _ h1 => exact sl_str pins s σ H _ v vl vu l h sl Q I rx hs pl pu ⟨z, rfl, sz hl, fi.val rl (.v (.str _ (strOk_cut h1)))⟩
   · exact fi.no
 · rename_i xs
   cases za with
   | v za =>
     cases za with
     | tup ha ra =>
       have hc := cut_paired l h (reps_iff.mp ra)
       have ll := paired_len (reps_iff.mp ra)
       refine sl_tupZ pins s σ H _ v vl vu l h sl Q I rx hs pl pu ⟨_, _, rfl, ha.sq, fun hw => ?_, fun hw p ob hob hp => ?_⟩
       · have e : cutU xs l h = xs := by
           unfold cutU
           rw [← ll, hw.1, hw.2]
           simp [ll]
         rw [e] at fi
         exact fi.val rl (.v (.tup ha ra))
       · exact fi.go (Evo.new hp) (rl.new hp) (.v (.tup ⟨ob, hob, upd_same⟩ ((reps_iff.mpr hc).mono (ι := ι) (ι' := ι) (Evo.new hp))))
 · cases q : asList S a with
   | none => rw [q] at fi; exact fi.no
   | some xs =>
     rw [q] at fi
     simp only at fi
     cases qa : allV (cutU xs l h) with
     | none => rw [qa] at fi; exact fi.no
     | some ds =>
       rw [qa] at fi
       obtain ⟨p, vs, rfl, hp, zz⟩ := asList_ok rl za q
       have hc := cut_paired l h zz
       rw [allV_some qa] at hc
       exact sl_list pins s σ H _ v vl vu l h sl Q I rx hs pl pu ⟨p, vs, rfl, hp, fun z hz => fi.go (Evo.newF hz) (rl.newF hz) (.v (.lst (.inr rfl) upd_same ((repus_reps hc).mono (ι := ι) (ι' := ι) (Evo.newF hz))))⟩
theorem qe_slice {f : U → Option Int → Option Int → Sto → Option (U × Sto)} (hr : SlR X (rSlQ (bx X cl) f)) (he : QE X cl W e m) (hl : QO X cl W lo mlo) (hu : QO X cl W hi mhi) : QE X cl W (.Subscript e (.Slice lo hi none p2) pos) (eSl f m mlo mhi) :=
 PE.imp (pe_slice hr he hl hu) fun σ H Q ⟨ι, F, S, ρ, r, en, o⟩ => ⟨ι, F, S, ρ, r, en, o.bind.mono fun x H1 ⟨ι1, F1, S1, x', e1, r1, z1, o1⟩ =>
   ⟨ι1, F1, S1, ρ, r1, en.mono e1, o1.bind.mono fun l H2 ⟨ι2, F2, S2, l', e2, r2, z2, o2⟩ => by
     subst z2
     exact ⟨ι2, F2, S2, ρ, r2, (en.mono e1).mono e2, o2.bind.mono fun h H3 ⟨ι3, F3, S3, h', e3, r3, z3, o3⟩ => by
       subst z3
       exact ⟨ι3, F3, S3, x', r3, (z1.mono e2).mono e3, o3.fin⟩⟩⟩⟩
def fRev : F1 := fun x S => match asList S x with
 | some xs => (allV xs.reverse).map fun ds => (.v (.lst ds), S)
 | none => none
end
def isL (S : Sto) (x : U) : Bool := (asList S x).isSome
def isS (S : Sto) : U → Bool
 | .v (.str _) => true
 | _ => false
def eMtT (chk : Sto → U → Bool) (f : FM) (o : ME) (a : MA) : ME := fun ρ S => (o ρ S).bind fun x S1 => if chk S1 x = true then (a ρ S1).bind fun xs S2 => ofO (f x xs S2) else .er
section
variable {X : Cx} {cl : Nat → Addr} {W : WX} {o e : Expr} {es : List Expr} {mo : ME} {mA : MA} {f : FM} {name : Str} {apos cpos : Pos} {T id : String} {chk : Sto → U → Bool}
def ChkTy (B : Bx) (T : String) (chk : Sto → U → Bool) : Prop := ∀ (ι : List Addr) (F : Addr → Prop) (S : Sto) (H : Hp) (v : V) (u : U), Rel B ι F S H → RepU B ι F H v u → chk S u = true → tyV B.K T v H
theorem chk_list {B : Bx} : ChkTy B "list" isL := fun ι F S H v u r z h => by
 unfold isL at h
 cases q : asList S u with
 | none => rw [q] at h; cases h
 | some xs =>
   obtain ⟨a, vs, rfl, hp, _⟩ := asList_ok r z q
   exact .inl ⟨rfl, vs, hp⟩
theorem chk_str {B : Bx} : ChkTy B "str" isS := fun ι F S H v u r z h => by
 unfold isS at h
 split at h
 · cases z with
   | v z => cases z; rfl
 · cases h
theorem qe_bm (ct : ChkTy (bx X cl) T chk) (pa : PlainAttrs T) (slot : Slot T name id) (hty : typeOf (.builtin id) = pure (.type "method_descriptor")) (hm : MtR X id (liftM (bx X cl) f)) (ho : QE X cl W o mo) (ha : QA X cl W (e :: es) mA)
   (hbase : attributeBase o name X.env (eval o X.env) = eval o X.env := by rfl)
   (hfew : ((backTo cpos (starEach (e :: es) X.env)).all (fun x => !x.1) && (backToKw cpos (keywordEach [] X.env)).all (fun x => x.1.isSome)
     && decide ((e :: es).length + ([] : List Keyword).length + (if ([] : List Keyword).isEmpty then 0 else 1) < 30)) = true := by rfl)
   (hline : (apos.endLine == cpos.line) = true := by rfl) (hs : starEach (e :: es) X.env = (false, eval e X.env) :: starEach es X.env := by rfl) (hplain : (backTo cpos (starEach es X.env)).any (·.1) = false := by rfl) :
   QE X cl W (.Call (.Attribute o name apos) (e :: es) [] cpos) (eMtT chk f mo mA) :=
 PE.imp (pe_bm pa slot hty hm ho ha hbase hfew hline hs hplain) fun σ H Q ⟨ι, F, S, ρ, r, en, ot⟩ => ⟨ι, F, S, ρ, r, en, ot.bind.mono fun x H1 ⟨ι1, F1, S1, x', e1, r1, z1, o1⟩ => by
   split at o1
   · rename_i hc
     exact ⟨ct ι1 F1 S1 H1 x x' r1 z1 hc, ι1, F1, S1, ρ, r1, en.mono e1, o1.bind.mono fun y H2 ⟨ι2, F2, S2, y', e2, r2, z2, o2⟩ => ⟨ι2, F2, S2, x', y', r2, z1.mono e2, z2, o2.fin⟩⟩
   · exact o1.elim⟩
theorem Rel.setL {B : Bx} {ι : List Addr} {F : Addr → Prop} {S : Sto} {H : Hp} {n : Nat} {a : Addr} {xs ys : List U} {vs ws : List V} (r : Rel B ι F S H) (h : ι[n]? = some a) (hs : S[n]? = some (.lst xs)) (ha : H a = some (.lst vs)) (z : RepUs B ι F H ws ys) :
   Rel B ι F (S.set n (.lst ys)) (upd H a (.lst ws)) ∧ Evo ι F H ι F (upd H a (.lst ws)) := by
 have nf := r.nf n a _ h hs rfl
 have e0 : Evo ι F H ι F (upd H a (.lst ws)) := by
   refine ⟨fun _ _ h => h, fun _ h => h, fun b u f h _ => ?_, fun b xs h => ?_, fun b h => ?_, fun b p u h => by rw [upd_ne (fun z : b = a => by rw [z, ha] at h; cases h)]; exact h, fun b φ f h => rd_ne (fun z : b = a => nf (by rw [← z]; exact f)) h⟩
   · rw [upd_ne (fun z : b = a => nf (by rw [← z]; exact f))]; exact h
   · rw [upd_ne (fun z : b = a => by rw [z, ha] at h; cases h)]; exact h
   · by_cases hb : b = a
     · rw [hb, upd_same]; simp
     · rw [upd_ne hb]; exact h
 exact r.write h hs rfl (fun xs z => by rw [ha] at z; cases z) nofun (fun p u z => by rw [ha] at z; cases z) ⟨ws, upd_same, z.mono e0⟩
def fAppend : FM := fun x us S => match x, us with
 | .r n, [u] => match S[n]? with
   | some (.lst xs) => if xs.length < 100000 then some (.v .non, S.set n (.lst (xs ++ [u]))) else none
   | _ => none
 | _, _ => none
theorem szl {n : Nat} (h : n < 100000) : n < sizeLine := Nat.lt_of_lt_of_le h (by decide)
theorem mq_append : MtR X "list.append" (liftM (bx X cl) fAppend) := by
 intro pins s σ H x xs v us Q I rx rxs ⟨ι, F, S, a, as, rl, za, zs, fi⟩
 unfold fAppend at fi
 split at fi
 · rename_i n u
   cases q : S[n]? with
   | none => rw [q] at fi; exact fi.no
   | some c =>
     rw [q] at fi
     cases c with
     | lst ys =>
       simp only at fi
       split at fi
       · rename_i hl
         cases za with
         | @r _ a h =>
           cases zs with
           | cons z1 z2 =>
             cases z2
             obtain ⟨vs, ha, zz⟩ := rl.ok n a _ h q
             obtain ⟨r2, e2⟩ := rl.setL h q ha (paired_append zz (.cons z1 .nil))
             exact mt_append pins s σ H _ _ v us Q I rx rxs ⟨a, vs, _, rfl, rfl, ha, szl (by rw [paired_len zz]; exact hl), fi.go e2 r2 (.v .non)⟩
       · exact fi.no
     | _ => exact fi.no
 · exact fi.no
def fReverse : FM := fun x us S => match x, us with
 | .r n, [] => match S[n]? with
   | some (.lst xs) => some (.v .non, S.set n (.lst xs.reverse))
   | _ => none
 | _, _ => none
def allS : List U → Option (List Str)
 | [] => some []
 | .v (.str x) :: us => (allS us).map (x :: ·)
 | _ :: _ => none
def fJoin : FM := fun x us S => match x, us with
 | .v (.str a), [u] => match asSeq S u with
   | some xs => match allS xs with
     | some ys => if (ys.map (·.length)).sum + ys.length * a.length ≤ 100000 then some (.v (.str (Txt.join a ys)), S) else none
     | none => none
   | none => none
 | _, _ => none
theorem allS_ok {B : Bx} {ι : List Addr} {F : Addr → Prop} {H : Hp} : ∀ {us : List U} {ys : List Str} {vs : List V}, RepUs B ι F H vs us → allS us = some ys → vs = ys.map V.str ∧ ∀ y ∈ ys, PyData.strOk y = true
 | _, ys, _, .nil, e => by simp [allS] at e; subst e; exact ⟨rfl, nofun⟩
 | _, ys, _, .cons (b := u) (l₂ := us) z zs, e => by
   unfold allS at e
   split at e
   · rename_i he; cases he
   · rename_i x us' he
     cases he
     obtain ⟨ys', e1, rfl⟩ := Option.map_eq_some_iff.mp e
     obtain ⟨h1, h2⟩ := allS_ok zs e1
     cases z with
     | v z =>
       cases z with
       | str _ h =>
         refine ⟨by rw [h1]; rfl, fun y hy => ?_⟩
         rcases List.mem_cons.mp hy with e | e
         · subst e; exact h
         · exact h2 y e
   · cases e
theorem join_ok {P : Nat → Prop} {a : List Nat} (ha : ∀ c ∈ a, P c) : ∀ {ps : List (List Nat)}, (∀ p ∈ ps, ∀ c ∈ p, P c) → ∀ c ∈ TL.joinL a ps, P c
 | [], _, c, hc => by simp [TL.joinL] at hc
 | [p], h, c, hc => h p (by simp) c hc
 | p :: q :: r, h, c, hc => by
   simp only [TL.joinL, List.mem_append] at hc
   rcases hc with hc | hc | hc
   · exact h p (by simp) c hc
   · exact ha c hc
   · exact join_ok ha (fun p' hp' => h p' (List.mem_cons_of_mem _ hp')) c hc
theorem strOk_join {a : Str} {ys : List Str} (h1 : PyData.strOk a = true) (h2 : ∀ y ∈ ys, PyData.strOk y = true) : PyData.strOk (Txt.join a ys) = true := by
 rw [strOk_iff]
 intro c hc
 rw [TL.join_eq] at hc
 have e := TL.tl_join a ys
 have hc' : c ∈ TL.tl (Str.join a ys) := hc
 rw [e] at hc'
 refine join_ok (P := fun c => c < 0x110000) (fun c hc => strOk_iff.mp h1 c hc) (fun p hp c hc => ?_) c hc'
 obtain ⟨y, hy, rfl⟩ := List.mem_map.mp hp
 exact strOk_iff.mp (h2 y hy) c hc
theorem mq_join : MtR X "str.join" (liftM (bx X cl) fJoin) := by
 intro pins s σ H x xs v us Q I rx rxs ⟨ι, F, S, a, as, rl, za, zs, fi⟩
 unfold fJoin at fi
 split at fi
 · rename_i z u
   cases q : asSeq S u with
   | none => rw [q] at fi; exact fi.no
   | some ws =>
     rw [q] at fi
     simp only at fi
     cases qs : allS ws with
     | none => rw [qs] at fi; exact fi.no
     | some ys =>
       rw [qs] at fi
       simp only at fi
       split at fi
       · rename_i hl
         cases za with
         | v za =>
           cases za with
           | str _ h1 =>
             cases zs with
             | cons z1 z2 =>
               cases z2
               obtain ⟨p, vs, rfl, hp, zz⟩ := asSeq_ok rl z1 q
               obtain ⟨rfl, h2⟩ := allS_ok zz qs
               exact mt_join pins s σ H _ _ v us Q I rx rxs ⟨z, p, ys, rfl, rfl, hp, Nat.le_trans hl (by decide), fi.val rl (.v (.str _ (strOk_join h1 h2)))⟩
       · exact fi.no
 · exact fi.no
end
end Pu
namespace Pu
open PySem L2
def srcOf : U → Option Nat
 | .r n => some n
 | _ => none
def iVal (m : ME) : MI := fun ρ S => (m ρ S).bind fun u S1 => match asSeq S1 u with
 | some xs => .ok ⟨xs, srcOf u⟩ S1
 | none => .er
def rngU (lo : Int) (n : Nat) : List U := (List.range n).map fun (i : Nat) => .v (.int (lo + (i : Nat)))
def okR1 (j : Int) : Prop := -1000000000 < j ∧ j < 1000000000
def okR2 (i j : Int) : Prop := -1000000000 < j ∧ j < 1000000000 ∧ -1000000000 < i ∧ i < 1000000000
noncomputable instance (j : Int) : Decidable (okR1 j) := Classical.propDecidable _
noncomputable instance (i j : Int) : Decidable (okR2 i j) := Classical.propDecidable _
noncomputable def iRng1 (a : MA) : MI := fun ρ S => (a ρ S).bind fun us S1 => match us with
 | [.v (.int j)] => if okR1 j then .ok ⟨rngU 0 j.toNat, none⟩ S1 else .er
 | _ => .er
noncomputable def iRng2 (a : MA) : MI := fun ρ S => (a ρ S).bind fun us S1 => match us with
 | [.v (.int i), .v (.int j)] => if okR2 i j then .ok ⟨rngU i (j - i).toNat, none⟩ S1 else .er
 | _ => .er
theorem asSeq_same {S S' : Sto} {u : U} {xs : List U} (h : asSeq S u = some xs) (hs : ∀ n, srcOf u = some n → S'[n]? = S[n]?) : asSeq S' u = some xs := by
 cases u with
 | v d => cases d <;> exact h
 | r n =>
   unfold asSeq at h ⊢
   simp only at h ⊢
   rw [hs n rfl]
   exact h
def isTp (S : Sto) (u : U) : Prop := (∃ ds, u = .v (.tup ds)) ∨ ∃ n xs, u = .r n ∧ S[n]? = some (.tpc xs)
theorem asSeq_kind {B : Bx} {ι : List Addr} {F : Addr → Prop} {H : Hp} {S : Sto} {v : V} {u : U} {xs : List U} (r : Rel B ι F S H) (z : RepU B ι F H v u) (e : asSeq S u = some xs) :
   (∃ a vs, v = .ref a ∧ SqL B.K H a vs ∧ RepUs B ι F H vs xs ∧ ¬ isTp S u) ∨ (∃ a vs, isTp S u ∧ v = .ref a ∧ TupAt H a vs ∧ RepUs B ι F H vs xs) := by
 cases z with
 | v z =>
   cases z with
   | lst f h rs => cases e; exact .inl ⟨_, _, rfl, SqL.of h, reps_u rs, by rintro (⟨_, z⟩ | ⟨_, _, z, _⟩) <;> cases z⟩
   | frl h rs => cases e; exact .inl ⟨_, _, rfl, h.sq, reps_u rs, by rintro (⟨_, z⟩ | ⟨_, _, z, _⟩) <;> cases z⟩
   | tup h rs => cases e; exact .inr ⟨_, _, .inl ⟨_, rfl⟩, rfl, h, reps_u rs⟩
   | _ => cases e
 | @r n a h =>
   unfold asSeq at e
   simp only at e
   cases q : S[n]? with
   | none => rw [q] at e; cases e
   | some c =>
     rw [q] at e
     have ok := r.ok n a c h q
     cases c with
     | lst ys =>
       cases e
       obtain ⟨vs, h1, h2⟩ := ok
       refine .inl ⟨a, vs, rfl, SqL.of h1, h2, ?_⟩
       rintro (⟨_, z⟩ | ⟨_, _, z, z2⟩)
       · cases z
       · cases z; rw [q] at z2; cases z2
     | tpc ys =>
       cases e
       obtain ⟨vs, h1, h2⟩ := ok
       exact .inr ⟨a, vs, .inr ⟨n, _, rfl, q⟩, rfl, h1, h2⟩
     | _ => cases e
theorem paired_ix {α β : Type} {P : α → β → Prop} {xs : List α} {ys : List β} {i : Nat} (h : Paired P xs ys) (hi : i < ys.length) : ∃ x y, xs[i]? = some x ∧ ys[i]? = some y ∧ P x y := by
 obtain ⟨x, h1, h2⟩ := paired_get h (List.getElem?_eq_getElem hi)
 exact ⟨x, _, h1, List.getElem?_eq_getElem hi, h2⟩
section
variable {X : Cx} {cl : Nat → Addr} {W : WX} {tg e : Expr} {m : ME} {mA : MA} {p pos : Pos}
theorem walk_l {ι : List Addr} {F : Addr → Prop} {S : Sto} {H : Hp} {u : U} {xs : List U} {a : Addr} (z : RepU (bx X cl) ι F H (.ref a) u) (q : asSeq S u = some xs) (nt : ¬ isTp S u) : Walk (bx X cl) (Itl X.K a) ⟨xs, srcOf u⟩ S ι F H := by
 intro i ι1 F1 S1 H1 e1 r1 so
 have z1 := z.mono e1
 have q1 := asSeq_same q so
 rcases asSeq_kind r1 z1 q1 with ⟨a', vs, ea, hs, zz, _⟩ | ⟨a', vs, hu, _⟩
 · cases ea
   refine ⟨fun hi => ?_, fun hi => ⟨vs, hs, by rw [paired_len zz]; exact hi⟩⟩
   obtain ⟨x, y, hx, hy, zy⟩ := paired_ix zz hi
   refine ⟨⟨vs, x, hs, hx⟩, fun x' H' hyld => ?_⟩
   obtain ⟨rfl, hx'⟩ := hyld
   have := hx' vs hs
   rw [hx] at this
   cases this
   exact ⟨Evo.refl, r1, fun u' hu' => by
     have : xs[i]? = some u' := hu'
     rw [hy] at this; cases this; exact zy⟩
 · refine absurd ?_ nt
   rcases hu with ⟨ds, rfl⟩ | ⟨n, us, rfl, hn⟩
   · exact .inl ⟨ds, rfl⟩
   · exact .inr ⟨n, us, rfl, by rw [← so n rfl]; exact hn⟩
theorem walk_t {ι : List Addr} {F : Addr → Prop} {S : Sto} {H : Hp} {ds : Option Nat} {vs : List V} {xs : List U} {a : Addr} (h : TupAt H a vs) (zz : RepUs (bx X cl) ι F H vs xs) : Walk (bx X cl) (Itt X.K a) ⟨xs, ds⟩ S ι F H := by
 intro i ι1 F1 S1 H1 e1 r1 so
 have h1 := h.lk fun b o xs q => e1.lkd b o _ q
 have zz1 := zz.mono e1
 refine ⟨fun hi => ?_, fun hi => ⟨vs, h1.sq, by rw [paired_len zz1]; exact hi⟩⟩
 obtain ⟨x, y, hx, hy, zy⟩ := paired_ix zz1 hi
 refine ⟨⟨vs, x, h1.sq, hx⟩, fun x' H' hyld => ?_⟩
 obtain ⟨rfl, hx'⟩ := hyld
 have := hx' vs (h1.sq)
 rw [hx] at this
 cases this
 exact ⟨Evo.refl, r1, fun u' hu' => by
   have : xs[i]? = some u' := hu'
   rw [hy] at this; cases this; exact zy⟩
theorem qi_val (h : QE X cl W e m) : QI X cl W tg e (iVal m) := by
 refine ⟨fun pins s σ H Rr I ⟨ι, F, S, ρ, r, en, o⟩ => ?_⟩
 unfold iVal at o
 cases q : m ρ S with
 | er => rw [q] at o; exact o.elim
 | ex c fs S1 =>
   rw [q] at o
   exact (pi_list h).run pins s σ H Rr I ⟨ι, F, S, ρ, r, en, by rw [q]; exact o⟩
 | ok u S1 =>
   rw [q] at o
   simp only [R.bind_ok] at o
   cases qs : asSeq S1 u with
   | none => rw [qs] at o; exact o.elim
   | some xs =>
     rw [qs] at o
     simp only at o
     by_cases hu : isTp S1 u
     · refine (pi_tup h).run pins s σ H Rr I ⟨ι, F, S, ρ, r, en, ?_⟩
       rw [q]
       intro v ι1 F1 H1 e1 r1 z1
       rcases asSeq_kind r1 z1 qs with ⟨a, vs, ea, hs, zz, nt⟩ | ⟨a, vs, _, ea, ha, zz⟩
       · exact absurd hu nt
       · subst ea
         exact ⟨a, rfl, ⟨vs, ha.sq⟩, o _ ι1 F1 H1 e1 r1 (walk_t ha zz)⟩
     · refine (pi_list h).run pins s σ H Rr I ⟨ι, F, S, ρ, r, en, ?_⟩
       rw [q]
       intro v ι1 F1 H1 e1 r1 z1
       have nt : ¬ isTp S1 u := hu
       rcases asSeq_kind r1 z1 qs with ⟨a, vs, ea, hs, zz, _⟩ | ⟨a, vs, hd, _⟩
       · subst ea
         exact ⟨a, rfl, ⟨vs, hs⟩, o _ ι1 F1 H1 e1 r1 (walk_l z1 qs nt)⟩
       · exact absurd hd nt
theorem walk_r {ι : List Addr} {F : Addr → Prop} {S : Sto} {H : Hp} (lo : Int) (n : Nat) : Walk (bx X cl) (Itr lo n) ⟨rngU lo n, none⟩ S ι F H := by
 intro i ι1 F1 S1 H1 e1 r1 so
 refine ⟨fun hi => ⟨show i < n by simpa [rngU] using hi, fun x' H' hyld => ?_⟩, fun hi => show n ≤ i by simpa [rngU] using hi⟩
 obtain ⟨rfl, rfl⟩ := hyld
 refine ⟨Evo.refl, r1, fun u' hu' => ?_⟩
 have hi' : i < n := by simpa [rngU] using hi
 have : u' = .v (.int (lo + (i : Nat))) := by
   simp [rngU, List.getElem?_map, List.getElem?_range hi'] at hu'
   exact hu'.symm
 subst this
 exact .v (.int _)
theorem qi_range1 {a : Expr} (hg : Gl X "range") (hm : X.mg "range" = none) (ha : QA X cl W [a] mA) (hs : starEach [a] X.env = [(false, eval a X.env)] := by rfl) : QI X cl W tg (.Call (.Name "range" p) [a] [] pos) (iRng1 mA) :=
 PI.imp (pi_range1 hg hm ha hs) fun σ H Rr ⟨ι, F, S, ρ, r, en, o⟩ => ⟨ι, F, S, ρ, r, en, by
   unfold iRng1 at o
   cases q : mA ρ S with
   | er => rw [q] at o; exact o.elim
   | ex c fs S1 => rw [q] at o; exact o
   | ok us S1 =>
     rw [q] at o
     intro vs ι1 F1 H1 e1 r1 z1
     simp only [R.bind_ok] at o
     split at o
     · rename_i j he
       split at he
       · rename_i j'
         split at he
         · rename_i hb
           unfold okR1 at hb
           cases he
           cases z1 with
           | cons z1 z2 =>
             cases z2
             cases z1 with
             | v z1 => cases z1; exact ⟨j', rfl, by omega, by omega, o _ ι1 F1 H1 e1 r1 (walk_r 0 j'.toNat)⟩
         · cases he
       · cases he
     · rename_i he
       split at he
       · split at he <;> cases he
       · cases he
     · exact False.elim o⟩
end
def wipeE (ρ : Env') : List Nat → Env'
 | [] => ρ
 | v :: vs => (wipeE ρ vs).set v none
theorem wipe_env {B : Bx} {ι : List Addr} {F : Addr → Prop} {H : Hp} {σ : L2.St} {ρ : Env'} (h : REnv B ι F H σ ρ) : ∀ vs, REnv B ι F H (wipe σ vs) (wipeE ρ vs)
 | [] => h
 | v :: vs => paired_set (P := RepO B ι F H) (x := none) (y := none) trivial v (wipe_env h vs)
theorem wipe_get {σ : L2.St} {i : Nat} : ∀ {vs : List Nat}, i ∉ vs → (wipe σ vs)[i]? = σ[i]?
 | [], _ => rfl
 | v :: vs, h => by
   simp only [List.mem_cons, not_or] at h
   unfold wipe
   rw [List.getElem?_set_ne (fun e => h.1 e.symm), wipe_get h.2]
theorem wipe_in {σ : L2.St} {i : Nat} : ∀ {vs : List Nat}, i ∈ vs → i < σ.length → (wipe σ vs)[i]? = some none
 | [], h, _ => by cases h
 | v :: vs, h, hl => by
   unfold wipe
   by_cases e : v = i
   · subst e
     rw [List.getElem?_set_self (by rw [wipe_length]; exact hl)]
   · rw [List.getElem?_set_ne e]
     exact wipe_in ((List.mem_cons.mp h).resolve_left (fun q => e q.symm)) hl
theorem wipe_eq {σ σ' : L2.St} {vs js : List Nat} (hl : σ'.length = σ.length) (hj : ∀ j ∈ js, j ∈ vs) (h : ∀ i, i ∉ js → σ'[i]? = (wipe σ vs)[i]?) : wipe σ' vs = wipe σ vs := by
 apply List.ext_getElem?
 intro i
 by_cases hi : i ∈ vs
 · by_cases hb : i < σ.length
   · rw [wipe_in hi hb, wipe_in hi (by omega)]
   · rw [List.getElem?_eq_none (by rw [wipe_length]; omega), List.getElem?_eq_none (by rw [wipe_length]; omega)]
 · rw [wipe_get hi, h i (fun z => hi (hj i z)), wipe_get hi]
def noEx {α : Type} : R α → R α
 | .ok a S => .ok a S
 | _ => .er
@[simp] theorem noEx_ok {α : Type} (a : α) (S : Sto) : noEx (R.ok a S) = .ok a S := rfl
noncomputable def lcGo (src : Option Nat) (c0 : Option Cell) (g : MG) (t : MT) (e : ME) (n : Nat) : List U → Env' → Sto → R Unit
 | [], _, S => .ok () S
 | u :: us, ρ, S => match g u ρ with
   | none => .er
   | some ρ1 => (noEx (t ρ1 S)).bind fun b S1 => if b = true then (noEx (e ρ1 S1)).bind fun y S2 => match S2[n]? with
       | some (.lst acc) => if acc.length < 100000 ∧ srcOk src c0 S2 then lcGo src c0 g t e n us ρ (S2.set n (.lst (acc ++ [y]))) else .er
       | _ => .er
     else if srcOk src c0 S1 then lcGo src c0 g t e n us ρ S1 else .er
noncomputable def lcRun (vs : List Nat) (it : MI) (g : MG) (t : MT) (e : ME) (kf : Sto → Unit → Sto → R U) : ME := fun ρ S => (it ρ S).bind fun iv S1 =>
 if srcOk iv.src (iv.src.bind fun n => S1[n]?) (S1 ++ [.lst []]) then
   (lcGo iv.src (iv.src.bind fun n => S1[n]?) g t e S1.length iv.items (wipeE ρ vs) (S1 ++ [.lst []])).bind (kf S1)
 else .er
noncomputable def eLcS (vs : List Nat) (it : MI) (g : MG) (t : MT) (e : ME) : ME := lcRun vs it g t e fun S1 _ S2 => .ok (.r S1.length) S2
noncomputable def kfV (S1 : Sto) (_ : Unit) (S2 : Sto) : R U := match S2[S1.length]? with
 | some (.lst xs) => match allV xs with
   | some ds => if S2 = S1 ++ [.lst xs] then .ok (.v (.lst ds)) S1 else .er
   | none => .er
 | _ => .er
noncomputable def eLcV (vs : List Nat) (it : MI) (g : MG) (t : MT) (e : ME) : ME := lcRun vs it g t e kfV
def tYesM : MT := fun _ S => .ok true S
abbrev W0 : WX := fun _ _ _ _ => False
def QTs (X : Cx) (cl : Nat → Addr) (W : WX) (ifs : List Expr) (m : MT) : Prop := PTs X ifs (liftT (bx X cl) W m)
theorem PTs.imp {X : Cx} {e : List Expr} {t t' : TT} (h : PTs X e t) (k : ∀ σ H Q, t' σ H Q → t σ H Q) : PTs X e t' := ⟨fun pins s σ H Q I hq => h.run pins s σ H Q I (k σ H Q hq)⟩
section
variable {X : Cx} {cl : Nat → Addr} {W : WX}
theorem qts_nil : QTs X cl W [] tYesM := PTs.imp pts_nil fun σ H Q ⟨ι, F, S, ρ, r, en, o⟩ => o true ι F H Evo.refl r rfl
theorem qts_one {c : Expr} {t : MT} (h : QT X cl W c t) : QTs X cl W [c] t := pts_one h
theorem Rel.pop {B : Bx} {ι : List Addr} {F : Addr → Prop} {S : Sto} {H : Hp} {c : Cell} (r : Rel B ι F (S ++ [c]) H) (hlt : ∀ c ∈ S, cellLt S.length c) : ∃ ι0 a, ι = ι0 ++ [a] ∧ Rel B ι0 (addF F a) S H := by
 have hl := r.len
 simp only [List.length_append, List.length_singleton] at hl
 obtain ⟨ι0, a, rfl⟩ : ∃ ι0 a, ι = ι0 ++ [a] := by
   rcases List.eq_nil_or_concat ι with h | ⟨l, x, h⟩
   · subst h; simp at hl
   · exact ⟨l, x, by simpa using h⟩
 refine ⟨ι0, a, rfl, ?_⟩
 have hl0 : ι0.length = S.length := by simpa using hl
 have old : ∀ {n : Nat} {b : Addr} {d : Cell}, ι0[n]? = some b → S[n]? = some d → (ι0 ++ [a])[n]? = some b ∧ (S ++ [c])[n]? = some d := fun {n b d} h1 h2 =>
   ⟨by rw [List.getElem?_append_left (List.getElem?_eq_some_iff.mp h1).1]; exact h1, by rw [List.getElem?_append_left (List.getElem?_eq_some_iff.mp h2).1]; exact h2⟩
 have hla : (ι0 ++ [a])[ι0.length]? = some a := by simp
 have ne : ∀ {n : Nat} {b : Addr}, ι0[n]? = some b → b ≠ a := fun {n b} h1 e => by
   subst e
   have h1' : (ι0 ++ [b])[n]? = some b := by rw [List.getElem?_append_left (List.getElem?_eq_some_iff.mp h1).1]; exact h1
   obtain ⟨q1, e1⟩ := List.getElem?_eq_some_iff.mp h1'
   obtain ⟨q2, e2⟩ := List.getElem?_eq_some_iff.mp hla
   have := (List.getElem_inj r.nd).mp (e1.trans e2.symm)
   have := (List.getElem?_eq_some_iff.mp h1).1
   omega
 have e0 : Evo (ι0 ++ [a]) F H (ι0 ++ [a]) (addF F a) H := ⟨fun _ _ h => h, fun _ h => .inl h, fun _ _ _ h _ => h, fun _ _ h => h, fun _ h => h, fun _ _ _ h => h, fun _ _ _ h => h⟩
 have ru : ∀ {v : V} {u : U}, RepU B (ι0 ++ [a]) F H v u → refLt S.length u → RepU B ι0 (addF F a) H v u := fun {v u} z hz => by
   cases z with
   | v z => exact .v (z.mono e0)
   | @r m b h =>
     have hm : m < ι0.length := by rw [hl0]; exact hz
     rw [List.getElem?_append_left hm] at h
     exact .r h
 refine ⟨hl0, (List.nodup_append.mp r.nd).1, fun n b d h1 h2 h3 => ?_, fun n b d h1 h2 => ?_, fun b hb => r.there b (by simp [hb]), fun b hb => ?_, fun b hb => r.now b (by simp [hb])⟩
 · rintro (z | z)
   · exact r.nf n b d (old h1 h2).1 (old h1 h2).2 h3 z
   · exact ne h1 z
 · have ok := r.ok n b d (old h1 h2).1 (old h1 h2).2
   have lt := hlt d (List.mem_of_getElem? h2)
   cases d with
   | lst xs => obtain ⟨vs, h, q⟩ := ok; exact ⟨vs, h, paired_memP (P := RepU B (ι0 ++ [a]) F H) (P' := RepU B ι0 (addF F a) H) (Q := refLt S.length) (fun _ _ z l => ru z l) q lt⟩
   | tpc xs => obtain ⟨vs, h, q⟩ := ok; exact ⟨vs, h, paired_memP (P := RepU B (ι0 ++ [a]) F H) (P' := RepU B ι0 (addF F a) H) (Q := refLt S.length) (fun _ _ z l => ru z l) q lt⟩
   | dic kvs => obtain ⟨vs, h, z, q⟩ := ok; exact ⟨vs, h, z, paired_memP (Q := fun p : D × U => refLt S.length p.2) (fun _ _ ⟨a, b, c, w, d, e⟩ l => ⟨a, b.mono e0, c, w, d, ru e l⟩) q lt⟩
   | dicL kvs => obtain ⟨vs, od, h, z, q⟩ := ok; exact ⟨vs, od, h, z, paired_memP (Q := fun p : D × U => refLt S.length p.2) (fun _ _ ⟨a, b, c, w, d, e⟩ l => ⟨a, b.mono e0, c, w, d, ru e l⟩) q lt⟩
   | ins k fs =>
     obtain ⟨dx, vs, h, hd, nd, q⟩ := ok
     refine ⟨dx, vs, h, hd, ?_, paired_memP (Q := fun p : Str × U => refLt S.length p.2) (fun _ _ ⟨a, e⟩ l => ⟨a, ru e l⟩) q lt⟩
     rintro (z | z)
     · exact nd z
     · subst z; exact r.now dx (by simp) _ hd
   | dead => trivial
 · rcases hb with z | z
   · exact r.fthere b z
   · subst z; exact r.there b (by simp)
end
end Pu
namespace Pu
open PySem L2
open PyProof.Rows hiding St
theorem Out.bindN {α β γ δ : Type} {B : Bx} {W : WX} {σ σ' : L2.St} {ι ι2 : List Addr} {F F2 : Addr → Prop} {H H2 : Hp} {rep : List Addr → (Addr → Prop) → Hp → β → α → Prop} {rep1 : List Addr → (Addr → Prop) → Hp → δ → γ → Prop} {Q : β → Hp → Prop} {r : R γ} {k : γ → Sto → R α}
   (h : Out B W σ ι F H rep Q ((noEx r).bind k)) : Out B W0 σ' ι2 F2 H2 rep1 (fun b H1 => ∃ ι1 F1 S1 a, Evo ι2 F2 H2 ι1 F1 H1 ∧ Rel B ι1 F1 S1 H1 ∧ rep1 ι1 F1 H1 b a ∧ Out B W σ ι F H rep Q (k a S1)) r := by
 cases r with
 | ok a S' => exact fun b ι' F' H' e' r' z => ⟨ι', F', S', a, e', r', z, h⟩
 | ex c fs S' => exact h.elim
 | er => exact h.elim
section
variable {X : Cx} {cl : Nat → Addr} {W : WX}
theorem lc_read {σ : L2.St} {H : Hp} {Q : VK} {mi : MI} {g : MG} {js vs : List Nat} {t : MT} {e : ME} {kf : Sto → Unit → Sto → R U} (hj : ∀ j ∈ js, j ∈ vs) (h : liftE (bx X cl) W (lcRun vs mi g t e kf) σ H Q)
   (hk : ∀ (S1 S' : Sto) (ι1 : List Addr) (F1 : Addr → Prop) (H1 : Hp) (ι' : List Addr) (F' : Addr → Prop) (H' : Hp) (D : Addr), Rel (bx X cl) ι1 F1 S1 H1 → H1 D = none → Evo (ι1 ++ [D]) F1 (upd H1 D (.lst [])) ι' F' H' → Rel (bx X cl) ι' F' S' H' →
     Out (bx X cl) W σ ι1 F1 H1 (RepU (bx X cl)) Q (kf S1 () S') → Q (.ref D) H') :
   tLc (liftI (bx X cl) W mi) (liftG (bx X cl) js g) (liftT (bx X cl) W0 t) (liftE (bx X cl) W0 e) vs σ H Q := by
 obtain ⟨ι, F, S, ρ, r, en, o⟩ := h
 refine ⟨ι, F, S, ρ, r, en, ?_⟩
 unfold lcRun at o
 cases q : mi ρ S with
 | er => rw [q] at o; exact o
 | ex k fs S1 => rw [q] at o; exact o
 | ok iv S1 =>
   rw [q] at o
   intro J ι1 F1 H1 e1 r1 wk D hD
   have e2 : Evo ι1 F1 H1 (ι1 ++ [D]) F1 (upd H1 D (.lst [])) := Evo.newS hD
   have r2 : Rel (bx X cl) (ι1 ++ [D]) F1 (S1 ++ [.lst []]) (upd H1 D (.lst [])) := r1.newS hD nofun ⟨[], upd_same, .nil⟩
   have hDn : (ι1 ++ [D])[S1.length]? = some D := by rw [← r1.len]; simp
   simp only [R.bind_ok] at o
   split at o
   · rename_i so0
     have o2 := Out.shift e1 o
     refine ⟨fun i m H' => m = iv.items.length - i ∧ i ≤ iv.items.length ∧ ∃ ι3 F3 S3, Evo (ι1 ++ [D]) F1 (upd H1 D (.lst [])) ι3 F3 H' ∧ Rel (bx X cl) ι3 F3 S3 H' ∧ srcOk iv.src (iv.src.bind fun n => S1[n]?) S3 ∧
       Out (bx X cl) W σ ι1 F1 H1 (RepU (bx X cl)) Q ((lcGo iv.src (iv.src.bind fun n => S1[n]?) g t e S1.length (iv.items.drop i) (wipeE ρ vs) S3).bind (kf S1)), ⟨iv.items.length, by simp, by simp, _, _, _, Evo.refl, r2, so0, by simpa using o2⟩, ?_⟩
     rintro i m H3 ⟨rfl, hi, ι3, F3, S3, e3, r3, so, o3⟩
     have so' : ∀ n, iv.src = some n → S3[n]? = S1[n]? := fun n hn => by
       unfold srcOk at so
       rw [hn] at so
       simpa [hn] using so
     obtain ⟨w1, w2⟩ := wk i ι3 F3 S3 H3 (e2.trans e3) r3 so'
     by_cases hlt : i < iv.items.length
     · obtain ⟨go, yl⟩ := w1 hlt
       refine .inr ⟨go, fun H' => i + 1 ≤ iv.items.length ∧ ∃ ι3 F3 S3, Evo (ι1 ++ [D]) F1 (upd H1 D (.lst [])) ι3 F3 H' ∧ Rel (bx X cl) ι3 F3 S3 H' ∧ srcOk iv.src (iv.src.bind fun n => S1[n]?) S3 ∧
         Out (bx X cl) W σ ι1 F1 H1 (RepU (bx X cl)) Q ((lcGo iv.src (iv.src.bind fun n => S1[n]?) g t e S1.length (iv.items.drop (i + 1)) (wipeE ρ vs) S3).bind (kf S1)), fun H' p => ⟨iv.items.length - (i + 1), by omega, rfl, p⟩, fun x H' y => ?_⟩
       obtain ⟨e4, r4, z4⟩ := yl x H' y
       have hd : iv.items.drop i = iv.items[i] :: iv.items.drop (i + 1) := List.drop_eq_getElem_cons hlt
       rw [hd] at o3
       unfold lcGo at o3
       cases qg : g iv.items[i] (wipeE ρ vs) with
       | none => rw [qg] at o3; exact o3.elim
       | some ρ1 =>
         rw [qg] at o3
         have eall := ((e1.trans e2).trans e3).trans e4
         have o4 := o3
         refine ⟨ι3, F3, S3, wipeE ρ vs, iv.items[i], ρ1, r4, wipe_env (en.mono eall) vs, z4 _ (by simp [hlt]), qg, fun σ2 en2 k2 l2 => ⟨wipe_eq (by rw [l2, wipe_length]) hj k2, ι3, F3, S3, ρ1, r4, en2, ?_⟩⟩
         simp only at o4
         have o5 : Out (bx X cl) W σ ι1 F1 H1 (RepU (bx X cl)) Q ((noEx (t ρ1 S3)).bind fun b S4 => (if b = true then (noEx (e ρ1 S4)).bind fun y S5 => match S5[S1.length]? with
             | some (.lst acc) => if acc.length < 100000 ∧ srcOk iv.src (iv.src.bind fun n => S1[n]?) S5 then lcGo iv.src (iv.src.bind fun n => S1[n]?) g t e S1.length (iv.items.drop (i + 1)) (wipeE ρ vs) (S5.set S1.length (.lst (acc ++ [y]))) else .er
             | _ => .er
           else if srcOk iv.src (iv.src.bind fun n => S1[n]?) S4 then lcGo iv.src (iv.src.bind fun n => S1[n]?) g t e S1.length (iv.items.drop (i + 1)) (wipeE ρ vs) S4 else .er).bind (kf S1)) := by
           cases qt : noEx (t ρ1 S3) with
           | ok b S4 => rw [qt] at o4; exact o4
           | ex _ _ _ => rw [qt] at o4; exact o4
           | er => rw [qt] at o4; exact o4
         refine (Out.bindN o5).mono fun b H5 ⟨ι5, F5, S5, b', e5, r5, z5, o6⟩ => ?_
         subst z5
         cases b with
         | false =>
           simp only [Bool.false_eq_true, if_false] at o6
           split at o6
           · rename_i hs
             exact ⟨hlt, ι5, F5, S5, (e3.trans e4).trans e5, r5, hs, o6⟩
           · exact o6.elim
         | true =>
           simp only [if_true] at o6
           refine ⟨ι5, F5, S5, ρ1, r5, en2.mono e5, ?_⟩
           have o7 : Out (bx X cl) W σ ι1 F1 H1 (RepU (bx X cl)) Q ((noEx (e ρ1 S5)).bind fun y S6 => (match S6[S1.length]? with
             | some (.lst acc) => if acc.length < 100000 ∧ srcOk iv.src (iv.src.bind fun n => S1[n]?) S6 then lcGo iv.src (iv.src.bind fun n => S1[n]?) g t e S1.length (iv.items.drop (i + 1)) (wipeE ρ vs) (S6.set S1.length (.lst (acc ++ [y]))) else .er
             | _ => .er).bind (kf S1)) := by
             cases qe : noEx (e ρ1 S5) with
             | ok b S4 => rw [qe] at o6; exact o6
             | ex _ _ _ => rw [qe] at o6; exact o6
             | er => rw [qe] at o6; exact o6
           refine (Out.bindN o7).mono fun y H6 ⟨ι6, F6, S6, y', e6, r6, z6, o8⟩ => ?_
           cases qc : S6[S1.length]? with
           | none => rw [qc] at o8; exact o8.elim
           | some c =>
             rw [qc] at o8
             cases c with
             | lst acc =>
               simp only at o8
               split at o8
               · rename_i hs
                 have hDn6 : ι6[S1.length]? = some D := e6.pre _ _ (e5.pre _ _ (e4.pre _ _ (e3.pre _ _ hDn)))
                 obtain ⟨vs6, ha, zz⟩ := r6.ok _ _ _ hDn6 qc
                 obtain ⟨r7, e7⟩ := r6.setL hDn6 qc ha (paired_append zz (.cons z6 .nil))
                 refine ⟨vs6, ha, szl (by rw [paired_len zz]; exact hs.1), hlt, ι6, F6, _, (((e3.trans e4).trans e5).trans e6).trans e7, r7, ?_, o8⟩
                 have hs2 := hs.2
                 unfold srcOk at hs2 ⊢
                 split
                 · trivial
                 · rename_i n hn
                   rw [hn] at hs2
                   by_cases hnn : n = S1.length
                   · subst hnn
                     simp only [hn, Option.bind_some] at hs2
                     rw [qc, List.getElem?_eq_none (Nat.le_refl _)] at hs2
                     cases hs2
                   · rw [List.getElem?_set_ne (Ne.symm hnn), hn]
                     exact hs2
               · exact o8.elim
             | _ => exact o8.elim
     · have hd : iv.items.drop i = [] := List.drop_eq_nil_of_le (by omega)
       rw [hd] at o3
       exact .inl ⟨w2 (by omega), hk S1 S3 ι1 F1 H1 ι3 F3 H3 D r1 hD e3 r3 o3⟩
   · exact o.elim
theorem lc_endS {σ : L2.St} {Q : VK} (S1 S' : Sto) (ι1 : List Addr) (F1 : Addr → Prop) (H1 : Hp) (ι' : List Addr) (F' : Addr → Prop) (H' : Hp) (D : Addr) (r1 : Rel (bx X cl) ι1 F1 S1 H1) (hD : H1 D = none) (e : Evo (ι1 ++ [D]) F1 (upd H1 D (.lst [])) ι' F' H') (r : Rel (bx X cl) ι' F' S' H')
   (o : Out (bx X cl) W σ ι1 F1 H1 (RepU (bx X cl)) Q (.ok (.r S1.length) S')) : Q (.ref D) H' :=
 o (.ref D) ι' F' H' ((Evo.newS hD).trans e) r (.r (e.pre _ _ (by rw [← r1.len]; simp)))
theorem lc_endV {σ : L2.St} {Q : VK} (S1 S' : Sto) (ι1 : List Addr) (F1 : Addr → Prop) (H1 : Hp) (ι' : List Addr) (F' : Addr → Prop) (H' : Hp) (D : Addr) (r1 : Rel (bx X cl) ι1 F1 S1 H1) (hD : H1 D = none) (e : Evo (ι1 ++ [D]) F1 (upd H1 D (.lst [])) ι' F' H') (r : Rel (bx X cl) ι' F' S' H')
   (o : Out (bx X cl) W σ ι1 F1 H1 (RepU (bx X cl)) Q (kfV S1 () S')) : Q (.ref D) H' := by
 unfold kfV at o
 split at o
 · rename_i xs qx
   split at o
   · rename_i ds qa
     split at o
     · rename_i hS
       have hDn : ι'[S1.length]? = some D := e.pre _ _ (by rw [← r1.len]; simp)
       obtain ⟨vs, ha, zz⟩ := r.ok _ _ _ hDn qx
       subst hS
       obtain ⟨ι0, a, rfl, r0⟩ := r.pop fun c hc => r1.lt hc
       have hl0 := r0.len
       have ea : a = D := by
         rw [← hl0] at hDn
         simpa using hDn
       subst ea
       rw [allV_some qa] at zz
       have e0 : Evo (ι0 ++ [a]) F' H' (ι0 ++ [a]) (addF F' a) H' := ⟨fun _ _ h => h, fun _ h => .inl h, fun _ _ _ h _ => h, fun _ _ h => h, fun _ h => h, fun _ _ _ h => h, fun _ _ _ h => h⟩
       have hz : Rep (bx X cl) (addF F' a) H' (.ref a) (.lst ds) := .lst (.inr rfl) ha ((repus_reps zz).mono e0)
       have eb := (Evo.newS (ι := ι1) (F := F1) (o := .lst []) hD).trans e
       refine o (.ref a) ι0 (addF F' a) H' ⟨fun n b h => ?_, fun b h => .inl (eb.sub b h), eb.keep, eb.tups, eb.alive, eb.lkd, eb.kext⟩ r0 (.v hz)
       have h2 := eb.pre n b h
       rw [List.getElem?_append_left (by rw [hl0, ← r1.len]; exact (List.getElem?_eq_some_iff.mp h).1)] at h2
       exact h2
     · exact o.elim
   · exact o.elim
 · exact o.elim
variable {elt tg iter : Expr} {ifs : List Expr} {scope : Scope} {own : List (Str × Nat)} {pos spos py : Pos} {mi : MI} {g : MG} {js : List Nat} {t : MT} {me : ME} {i : Nat} {y : Str}
abbrev Blk (X : Cx) (scope : Scope) (Pr : Cx → Prop) : Prop := ∀ (s : Shared) (H : Hp) (C : Addr) (cz : List (Str × Addr)) (fp : List Addr), Pr (X.blk s H scope (compEnvC scope cz C X.env) fp)
theorem qe_lcV (hc : X.calm = true) (hN : X.N.Nodup) (hi : QI X cl W tg iter mi) (ok : BlkOk X.N X.env.scope scope own) (hg : Blk X scope fun Y => QG Y cl tg js g) (ht : Blk X scope fun Y => QTs Y cl W0 ifs t) (he : Blk X scope fun Y => QE Y cl W0 elt me) (hj : ∀ j ∈ js, j ∈ own.map (·.2))
   (hs : ∀ x, foldedSetIterable iter X.env x = pure x := by intro _; rfl) : QE X cl W (.ListComp elt [⟨tg, iter, ifs, 0⟩] scope pos) (eLcV (own.map (·.2)) mi g t me) :=
 PE.imp (pe_lc (own := own) (g := liftG (bx X cl) js g) (tt := liftT (bx X cl) W0 t) (te := liftE (bx X cl) W0 me) hc hN hi ok (fun a b c d e => hg a b c d e) (fun a b c d e => ht a b c d e) (fun a b c d e => he a b c d e) hs) fun σ H Q h => lc_read hj h lc_endV
theorem asg_lift {m : ME} {D : Ends} {σ : L2.St} {H : Hp} (h : liftS (bx X cl) W (sAsg m (gName i)) D σ H) : liftE (bx X cl) W m σ H (fun x H1 => L2.gName i x σ H1 D.nx) := by
 obtain ⟨ι, F, S, ρ, r, en, o⟩ := h
 exact ⟨ι, F, S, ρ, r, en, (o.st en).mono fun v H1 ⟨ι1, F1, S1, u, e1, r1, z1, o1⟩ =>
   o1 _ ι1 F1 H1 Evo.refl r1 (paired_set (P := RepO (bx X cl) ι1 F1 H1) (x := some v) (y := some u) z1 i (en.mono e1))⟩
theorem qs_setLcS (hc : X.calm = true) (hN : X.N.Nodup) (hy : X.N[i]? = some y) (hyl : X.env.scope.names.lookup y = some .local) (hsw : swapsWith (.ListComp elt [⟨tg, iter, ifs, 0⟩] scope pos) (some (.Name y py)) spos.line X.env = pure true)
   (hi : QI X cl W tg iter mi) (ok : BlkOk X.N X.env.scope scope own) (hg : Blk X scope fun Y => QG Y cl tg js g) (ht : Blk X scope fun Y => QTs Y cl W0 ifs t) (he : Blk X scope fun Y => QE Y cl W0 elt me) (hj : ∀ j ∈ js, j ∈ own.map (·.2))
   (hs : ∀ x, foldedSetIterable iter X.env x = pure x := by intro _; rfl) : QS X cl W (.Assign [.Name y py] (.ListComp elt [⟨tg, iter, ifs, 0⟩] scope pos) spos) (sAsg (eLcS (own.map (·.2)) mi g t me) (gName i)) :=
 PS.imp (ps_setLc (own := own) (g := liftG (bx X cl) js g) (tt := liftT (bx X cl) W0 t) (te := liftE (bx X cl) W0 me) hc hN hy hyl hsw hi ok (fun a b c d e => hg a b c d e) (fun a b c d e => ht a b c d e) (fun a b c d e => he a b c d e) hs) fun D σ H h => lc_read hj (asg_lift h) lc_endS
end
end Pu
namespace Pu
open PySem L2
def asDic (S : Sto) : U → Option (List (D × U))
 | .v (.dic kvs) => some (kvs.map fun p => (p.1, .v p.2))
 | .r n => match S[n]? with
   | some (.dic kvs) => some kvs
   | some (.dicL kvs) => some kvs
   | _ => none
 | _ => none
noncomputable def dget (kvs : List (D × U)) (k : D) : Option U := (kvs.find? fun p => decide (p.1 = k)).map (·.2)
noncomputable def dhas (kvs : List (D × U)) (k : D) : Bool := (dget kvs k).isSome
noncomputable def dput (kvs : List (D × U)) (k : D) (w : U) : List (D × U) := if dhas kvs k = true then kvs.map fun p => if p.1 = k then (p.1, w) else p else kvs ++ [(k, w)]
theorem repK_paired {B : Bx} {ι : List Addr} {F : Addr → Prop} {H : Hp} : ∀ {es : List Ent} {kvs : List (D × D)}, RepK B F H es kvs → RepKU B ι F H es (kvs.map fun p => (p.1, U.v p.2))
 | _, _, .nil => .nil
 | _, _, .cons a b c d e f => .cons ⟨a, b, c, _, d, .v e⟩ (repK_paired f)
theorem asDic_ok {B : Bx} {ι : List Addr} {F : Addr → Prop} {H : Hp} {S : Sto} {v : V} {u : U} {kvs : List (D × U)} (r : Rel B ι F S H) (z : RepU B ι F H v u) (e : asDic S u = some kvs) :
   ∃ a es, v = .ref a ∧ Rd H a (dicO B.prog B.w a es) ∧ es.length ≤ sizeLine ∧ RepKU B ι F H es kvs := by
 cases z with
 | v z =>
   cases z with
   | dic f h hz rs => cases e; exact ⟨_, _, rfl, h, hz, repK_paired rs⟩
   | _ => cases e
 | @r n a h =>
   unfold asDic at e
   simp only at e
   cases q : S[n]? with
   | none => rw [q] at e; cases e
   | some c =>
     rw [q] at e
     have ok := r.ok n a c h q
     cases c with
     | dic ys =>
       cases e
       obtain ⟨es, h1, h2, h3⟩ := ok
       exact ⟨a, es, rfl, .inl h1, h2, h3⟩
     | dicL ys =>
       cases e
       obtain ⟨es, od, h1, h2, h3⟩ := ok
       exact ⟨a, es, rfl, .inr ⟨od, h1⟩, h2, h3⟩
     | _ => cases e
section
variable {X : Cx} {cl : Nat → Addr} {W : WX} {pins : List (Addr × Obj)} {σ : L2.St} {ι : List Addr} {F : Addr → Prop} {H : Hp} {s : Shared} {a b : Addr} {es : List Ent} {kvs : List (D × U)} {k : D} {nk : NestedKey} {w : U}
theorem keys_is (I : Inv X pins σ H s) : ∀ {es : List Ent} {kvs : List (D × U)}, RepKU (bx X cl) ι F H es kvs → ∀ x ∈ es, (nestedKind X.prog X.w).is s.heap x.1 x.2.1
 | _, _, .nil, x, hx => by cases hx
 | _, _, .cons ⟨h1, h2, h3, _⟩ t, x, hx => by
   rcases List.mem_cons.mp hx with e | e
   · subst e
     exact ⟨rep_key (u := .ref _) I h2 rfl h1, h3⟩
   · exact keys_is I t x e
theorem dic_h (I : Inv X pins σ H s) (h : Rd H a (dicO X.prog X.w a es)) (rk : RepKU (bx X cl) ι F H es kvs) : s.heap.DictOfH (nestedKind X.prog X.w) a es ∧ (a == sysModules) = false := by
 have hk : ObjOk X.prog X.w H s.heap a (dicO X.prog X.w a es) := by
   rcases h with h | ⟨od, h⟩
   · exact I.hok a _ h
   · exact (I.hok a _ h).2
 obtain ⟨⟨o, es', ep, h1, h2, h3, h4, h5, h6⟩, _, _⟩ := hk
 exact ⟨⟨o, es', ep, h1, h2, h3, h4, keys_is I rk, h5⟩, h6⟩
theorem atKey_cons (x : Ent) (xs : List Ent) (nk : NestedKey) : atKey (x :: xs) nk = if x.1 = nk then some x.2 else atKey xs nk := by
 unfold atKey
 rw [List.find?_cons]
 by_cases h : x.1 = nk
 · rw [decide_eq_true h, if_pos h]; rfl
 · rw [decide_eq_false h, if_neg h]
theorem dget_cons (p : D × U) (kvs : List (D × U)) (k : D) : dget (p :: kvs) k = if p.1 = k then some p.2 else dget kvs k := by
 unfold dget
 rw [List.find?_cons]
 by_cases h : p.1 = k
 · rw [decide_eq_true h, if_pos h]; rfl
 · rw [decide_eq_false h, if_neg h]
@[simp] theorem dget_nil (k : D) : dget [] k = none := rfl
theorem key_iff {p k : D} {x nk : NestedKey} (h1 : nkey p = some x) (h2 : nkey k = some nk) : x = nk ↔ p = k := ⟨fun e => nkey_inj h1 (by rw [h2, e]), fun e => by subst e; rw [h1] at h2; cases h2; rfl⟩
theorem at_get (hk : nkey k = some nk) : ∀ {es : List Ent} {kvs : List (D × U)}, RepKU (bx X cl) ι F H es kvs → (∃ b u v w, atKey es nk = some (b, u) ∧ dget kvs k = some w ∧ RelV v u ∧ RepU (bx X cl) ι F H v w) ∨ (atKey es nk = none ∧ dget kvs k = none)
 | _, _, .nil => .inr ⟨rfl, rfl⟩
 | _, _, .cons (a := x) (b := p) ⟨h1, h2, h3, v, h4, h5⟩ t => by
   rw [atKey_cons, dget_cons]
   by_cases e : p.1 = k
   · rw [if_pos e, if_pos ((key_iff h1 hk).mpr e)]
     exact .inl ⟨_, _, v, _, rfl, rfl, h4, h5⟩
   · rw [if_neg e, if_neg (fun z => e ((key_iff h1 hk).mp z))]
     exact at_get hk t
theorem put_map (hk : nkey k = some nk) {v : V} {u : Value} (hv : RelV v u) (zv : RepU (bx X cl) ι F H v w) : ∀ {es : List Ent} {kvs : List (D × U)}, RepKU (bx X cl) ι F H es kvs → RepKU (bx X cl) ι F H (es.map (putAt nk u)) (kvs.map fun p => if p.1 = k then (p.1, w) else p)
 | _, _, .nil => .nil
 | _, _, .cons (a := x) (b := p) ⟨h1, h2, h3, v', h4, h5⟩ t => by
   refine .cons ?_ (put_map hk hv zv t)
   unfold putAt
   dsimp only
   by_cases e : p.1 = k
   · rw [if_pos e, if_pos ((key_iff h1 hk).mpr e)]
     exact ⟨h1, h2, h3, v, hv, zv⟩
   · rw [if_neg e, if_neg (fun z => e ((key_iff h1 hk).mp z))]
     exact ⟨h1, h2, h3, v', h4, h5⟩
theorem put_ok (hk : nkey k = some nk) (hd : nk.depth ≤ 8) {v : V} {u : Value} (hv : RelV v u) (zv : RepU (bx X cl) ι F H v w) (zk : Rep (bx X cl) F H (.ref b) k) (rk : RepKU (bx X cl) ι F H es kvs) : RepKU (bx X cl) ι F H (storedH es nk b u) (dput kvs k w) := by
 unfold storedH dput dhas
 rcases at_get hk rk with ⟨b', u', v', w', h1, h2, _⟩ | ⟨h1, h2⟩
 · rw [h1, h2]
   exact put_map hk hv zv rk
 · rw [h1, h2]
   exact paired_append rk (.cons ⟨hk, zk, hd, v, hv, zv⟩ .nil)
theorem stored_len (es : List Ent) (nk : NestedKey) (b : Addr) (u : Value) : (storedH es nk b u).length ≤ es.length + 1 := by
 unfold storedH
 split
 · simp
 · simp
theorem kroom {A : Around} (hu : A.units + 20 < cLine) (P : Program) (w : World) : (nestedKind P w).room A.in1 := by
 show A.units + 1 + 8 < cLine
 omega
def fDicS : FA := fun us S => match us with
 | [] => some (.r S.length, S ++ [.dic []])
 | _ => none
theorem raw_keep {P : Program} {w : World} {a : Addr} {es : List Ent} : ∀ h1 h2 : Heap, DRaw P w a es h1 → (∀ o, h1.get? a = some o → h2.get? a = some o) → DRaw P w a es h2 := fun h1 h2 ⟨o, es', ep, e1, r⟩ k => ⟨o, es', ep, k o e1, r⟩
theorem qe_dict {pos : Pos} : QE X cl W (.Dict [] [] pos) (eCB fDicS aNil) := by
 refine ⟨fun pins s σ H Q I ⟨ι, F, S, ρ, r, en, o⟩ => ?_⟩
 have hf : H s.heap.objs.size = none := I.hok.fresh (Nat.le_refl _)
 have raw : DRaw X.prog X.w s.heap.objs.size [] (s.heap.push { cls := .type "dict", data := .dict #[] }) :=
   ⟨_, #[], 0, Heap.get?_push_size _ rfl, ⟨rfl, rfl, rfl⟩, rfl, rfl, List.nodup_nil, beq_eq_false_iff_ne.mpr (Ne.symm (Nat.ne_of_lt I.big))⟩
 refine wpAny_Dict_empty ⟨.ref s.heap.objs.size, upd H s.heap.objs.size (dicO X.prog X.w s.heap.objs.size []), I.laid (t' := s.toks) (fun _ _ q => Heap.get?_push_of_some _ q) (Nat.le_refl _) ?_, rfl, ?_⟩
 · exact ⟨raw, ⟨_, Heap.get?_push_size _ rfl⟩, raw_keep⟩
 · have e2 : Evo ι F H (ι ++ [s.heap.objs.size]) F (upd H s.heap.objs.size (dicO X.prog X.w s.heap.objs.size [])) := Evo.newS hf
   have o2 := Out.fin (show Out (bx X cl) W σ ι F H (RepU (bx X cl)) Q (ofO (fDicS [] S)) from o)
   exact o2.go e2 (r.newS hf nofun ⟨[], upd_same, Nat.zero_le _, .nil⟩) (.r (by rw [← r.len]; simp))
noncomputable def fInX (neg : Bool) : F2 := fun x y S => match asDic S y with
 | some kvs => match x with
   | .v (.tup ks) => if isKey (.tup ks) = true then some (.v (.bl (cond neg (!dhas kvs (.tup ks)) (dhas kvs (.tup ks)))), S) else none
   | _ => none
 | none => fIn neg x y S
theorem repu_tup {B : Bx} {v : V} {ks : List D} (z : RepU B ι F H v (.v (.tup ks))) : ∃ b, v = .ref b ∧ Rep B F H (.ref b) (.tup ks) := by
 cases z with
 | v z => cases z with
   | tup h r => exact ⟨_, rfl, .tup h r⟩
theorem Inv.toks {X : Cx} {pins : List (Addr × Obj)} {σ : L2.St} {H : Hp} {s : Shared} (I : Inv X pins σ H s) (t : Nat) : Inv X pins σ H { s with toks := t } := I.tok t
theorem oq_inX (hu : X.A.units + 20 < cLine) : OpR X (compareOp .In) (liftOp (bx X cl) (fInX false)) := by
 intro pins s σ H x y v u Q I rx ry ⟨ι, F, S, a, b, rl, za, zb, fi⟩
 unfold fInX at fi
 cases q : asDic S b with
 | none => rw [q] at fi; exact oq_in hu pins s σ H x y v u Q I rx ry ⟨ι, F, S, a, b, rl, za, zb, fi⟩
 | some kvs =>
   rw [q] at fi
   simp only at fi
   split at fi
   · rename_i ks
     split at fi
     · rename_i hk
       obtain ⟨nk, e, d⟩ := nkey_of hk
       obtain ⟨kb, rfl, zk⟩ := repu_tup za
       obtain ⟨p, es, rfl, hp, hz, rk⟩ := asDic_ok rl zb q
       obtain ⟨hd, hs⟩ := dic_h I hp rk
       cases rx
       cases ry
       refine in_keyed (kroom hu _ _) ⟨rep_key (u := .ref kb) I zk rfl e, d⟩ hs ⟨es, hd, rfl⟩ ⟨.bl _, H, I.tok _, rfl, ?_⟩
       rw [valueAt_pairsH, Option.isSome_map]
       have : (atKey es nk).isSome = dhas kvs (.tup ks) := by
         unfold dhas
         rcases at_get e rk with ⟨_, _, _, _, h1, h2, _⟩ | ⟨h1, h2⟩ <;> rw [h1, h2] <;> rfl
       rw [this]
       exact fi.val rl (.v (.bl _))
     · exact fi.no
   · exact fi.no
noncomputable def fIxX : F2 := fun x y S => match asDic S x with
 | some kvs => match y with
   | .v (.tup ks) => if isKey (.tup ks) = true then (dget kvs (.tup ks)).map fun w => (w, S) else none
   | _ => none
 | none => fIx x y S
theorem xq_ixX (hu : X.A.units + 20 < cLine) : IxR X (liftOp (bx X cl) fIxX) := by
 intro value slice pins s σ H x y v u Q I rx ry ⟨ι, F, S, a, b, rl, za, zb, fi⟩ hsl
 unfold fIxX at fi
 cases q : asDic S a with
 | none => rw [q] at fi; exact xq_ix value slice pins s σ H x y v u Q I rx ry ⟨ι, F, S, a, b, rl, za, zb, fi⟩ hsl
 | some kvs =>
   rw [q] at fi
   simp only at fi
   split at fi
   · rename_i ks
     split at fi
     · rename_i hk
       obtain ⟨nk, e, d⟩ := nkey_of hk
       obtain ⟨kb, rfl, zk⟩ := repu_tup zb
       obtain ⟨p, es, rfl, hp, hz, rk⟩ := asDic_ok rl za q
       obtain ⟨hd, hs⟩ := dic_h I hp rk
       cases rx
       cases ry
       rcases at_get e rk with ⟨b', u', v', w', h1, h2, h3, h4⟩ | ⟨h1, h2⟩
       · rw [h2] at fi
         refine PyProof.Rows.tail_any hd.typeIs PySem.F.slot_dict_getitem.lookup (getItem_keyed (kroom hu _ _) ⟨rep_key (u := .ref kb) I zk rfl e, d⟩ ⟨es, hd, rfl⟩ (v := u') (by rw [valueAt_pairsH, h1]; rfl) ⟨v', H, I.tok _, h3, fi.val rl h4⟩) hsl
       · rw [h2] at fi; exact fi.no
     · exact fi.no
   · exact fi.no
noncomputable def fSet : U → U → U → Sto → Option Sto := fun o i v S => match o with
 | .r n => match S[n]? with
   | some (.dic kvs) => (match i with
     | .v (.tup ks) => if isKey (.tup ks) = true ∧ kvs.length < 100000 then some (S.set n (.dic (dput kvs (.tup ks) v))) else none
     | _ => none)
   | some (.lst xs) => (match i with
     | .v (.int j) => (ixN xs.length j).map fun j => S.set n (.lst (xs.set j v))
     | _ => none)
   | _ => none
 | _ => none
noncomputable def sSet (mo mi mv : ME) : MS := fun ρ S => (mv ρ S).st ρ fun v S1 => (mo ρ S1).st ρ fun o S2 => (mi ρ S2).st ρ fun i S3 => match fSet o i v S3 with
 | some S4 => .nx ρ S4
 | none => .er
def liftSet (B : Bx) (f : U → U → U → Sto → Option Sto) : TSet := fun o i v H Q => ∃ ι F S a b c S', Rel B ι F S H ∧ RepU B ι F H o a ∧ RepU B ι F H i b ∧ RepU B ι F H v c ∧ f a b c S = some S' ∧ ∀ H', Evo ι F H ι F H' → Rel B ι F S' H' → Q H'
theorem pq_set (hu : X.A.units + 20 < cLine) : PSet X (liftSet (bx X cl) fSet) := by
 intro pins s σ H ov iv vv ou iu vu Q I ro ri rv ⟨ι, F, S, o, i, v, S', rl, zo, zi, zv, e, h⟩
 unfold fSet at e
 cases zo with
 | v _ => cases e
 | @r n a hn =>
   simp only at e
   cases q : S[n]? with
   | none => rw [q] at e; cases e
   | some c =>
     rw [q] at e
     cases c with
     | dic kvs =>
       simp only at e
       split at e
       · rename_i ks
         split at e
         · rename_i hk
           cases e
           cases ro
           obtain ⟨nk, ek, d⟩ := nkey_of hk.1
           obtain ⟨kb, rfl, zk⟩ := repu_tup zi
           cases ri
           obtain ⟨es, ha, hz, rk⟩ := rl.ok n a _ hn q
           obtain ⟨hd, hs⟩ := dic_h I (.inl ha) rk
           have hl : es.length < 100000 := by rw [paired_len rk]; exact hk.2
           refine wpAny_setItem_heap (hsz := sz (by omega)) (kroom hu _ _) ⟨rep_key (u := .ref kb) I zk rfl ek, d⟩ hd fun h' hm' sb => ?_
           have nf := rl.nf n a _ hn q rfl
           have e0 : Evo ι F H ι F (upd H a (dicO X.prog X.w a (storedH es nk kb vu))) := by
             refine ⟨fun _ _ h => h, fun _ h => h, fun b u f h _ => ?_, fun b xs h => ?_, fun b h => ?_, fun b p u h => by rw [upd_ne (fun z : b = a => by rw [z, ha] at h; cases h)]; exact h, fun b φ f h => rd_ne (fun z : b = a => nf (by rw [← z]; exact f)) h⟩
             · rw [upd_ne (fun z : b = a => nf (by rw [← z]; exact f))]; exact h
             · rw [upd_ne (fun z : b = a => by rw [z, ha] at h; cases h)]; exact h
             · by_cases hb : b = a
               · rw [hb, upd_same]; simp
               · rw [upd_ne hb]; exact h
           have rk' := put_ok (b := kb) ek d rv zv zk rk
           obtain ⟨r2, e2⟩ := rl.write (o := dicO X.prog X.w a (storedH es nk kb vu)) (c' := .dic (dput kvs (.tup ks) v)) hn q rfl (fun xs z => by rw [ha] at z; cases z) nofun (fun p u z => by rw [ha] at z; cases z)
             ⟨storedH es nk kb vu, upd_same, Nat.le_trans (stored_len _ _ _ _) (sz (by omega)), rk'.mono e0⟩
           obtain ⟨o', es', ep', g1, g2, g3, g4, g5, g6⟩ := hm'
           refine ⟨_, I.write (x := a) (e := a) (o := dicO X.prog X.w a (storedH es nk kb vu)) (by rw [ha]; trivial) (.inl rfl) (fun b u hb eb => (sb.2 b hb).trans eb) ⟨o', g1⟩ ?_, h _ e2 r2⟩
           exact ⟨⟨o', es', ep', g1, g2, g3, g4, g6, hs⟩, ⟨o', g1⟩, raw_keep⟩
         · cases e
       · cases e
     | lst xs =>
       simp only at e
       split at e
       · rename_i j
         obtain ⟨j', ej, rfl⟩ := Option.map_eq_some_iff.mp e
         obtain ⟨vs, ha, zz⟩ := rl.ok n a _ hn q
         obtain ⟨r2, e2⟩ := rl.setL hn q ha (paired_set zv j' zz)
         cases zi with
         | v zi =>
           cases zi
           exact set_list pins s σ H _ _ vv ou iu vu Q I ro ri rv ⟨a, vs, j, j', rfl, rfl, ha, by rw [paired_len zz]; exact ej, h _ e2 r2⟩
       · cases e
     | _ => cases e
theorem qs_sub {o i value : Expr} {mo mi mv : ME} {pos' pos : Pos} (hu : X.A.units + 20 < cLine) (ho : QE X cl W o mo) (hi : QE X cl W i mi) (hv : QE X cl W value mv) (hs : swapsWith value (some (.Subscript o i pos')) pos.line X.env = pure false := by rfl) :
   QS X cl W (.Assign [.Subscript o i pos'] value pos) (sSet mo mi mv) := by
 refine ⟨fun pins s σ H D I ⟨ι, F, S, ρ, r, en, ot⟩ => ?_⟩
 refine wpAny_Assign_Subscript (thn (hv.run pins s σ H _ I ⟨ι, F, S, ρ, r, en, ot.st en⟩) fun vu s1 ⟨v, H1, I1, rv, ι1, F1, S1, v', e1, r1, z1, o1⟩ => ?_) hs
 refine thn (ho.run pins s1 σ H1 _ I1 ⟨ι1, F1, S1, ρ, r1, en.mono e1, o1.st (en.mono e1)⟩) fun ou s2 ⟨ov, H2, I2, ro, ι2, F2, S2, o', e2, r2, z2, o2⟩ => ?_
 refine thn (hi.run pins s2 σ H2 _ I2 ⟨ι2, F2, S2, ρ, r2, (en.mono e1).mono e2, o2.st ((en.mono e1).mono e2)⟩) fun iu s3 ⟨iv, H3, I3, ri, ι3, F3, S3, i', e3, r3, z3, o3⟩ => ?_
 cases q : fSet o' i' v' S3 with
 | none => rw [q] at o3; exact o3.elim
 | some S4 =>
   rw [q] at o3
   refine thn (pq_set hu pins s3 σ H3 ov iv v ou iu vu (fun H' => D.nx σ H') I3 ro ri rv ⟨ι3, F3, S3, o', i', v', S4, r3, z2.mono e3, z3, (z1.mono e2).mono e3, q, fun H' e4 r4 => o3 σ ι3 F3 H' e4 r4 ((((en.mono e1).mono e2).mono e3).mono e4)⟩) fun _ s4 ⟨H4, I4, q4⟩ => ?_
   exact ⟨σ, H4, I4, q4⟩
def isDc (S : Sto) (x : U) : Bool := (asDic S x).isSome
noncomputable def fGet : FM := fun o us S => match asDic S o, us with
 | some kvs, [.v (.tup ks), w] => if isKey (.tup ks) = true then some ((dget kvs (.tup ks)).getD w, S) else none
 | some kvs, [.v (.tup ks)] => if isKey (.tup ks) = true then some ((dget kvs (.tup ks)).getD (.v .non), S) else none
 | _, _ => none
theorem mq_get (hu : X.A.units + 20 < cLine) : MtR X "dict.get" (liftM (bx X cl) fGet) := by
 intro pins s σ H x xs v us Q I rx rxs ⟨ι, F, S, a, as, rl, za, zs, fi⟩
 unfold fGet at fi
 split at fi
 · rename_i kvs ks w q
   split at fi
   · rename_i hk
     obtain ⟨nk, ek, d⟩ := nkey_of hk
     obtain ⟨p, es, rfl, hp, hz, rk⟩ := asDic_ok rl za q
     obtain ⟨hd, hs⟩ := dic_h I hp rk
     cases rx
     cases zs with
     | cons z1 zs =>
       cases zs with
       | cons z2 zs =>
         cases zs
         cases rxs with
         | cons r1 rxs =>
           cases rxs with
           | cons r2 rxs =>
             cases rxs
             obtain ⟨kb, rfl, zk⟩ := repu_tup z1
             cases r1
             rcases at_get ek rk with ⟨b', u', v', w', h1, h2, h3, h4⟩ | ⟨h1, h2⟩
             · rw [h2] at fi
               exact getOr_keyed (kroom hu _ _) ⟨rep_key (u := .ref kb) I zk rfl ek, d⟩ hs ⟨es, hd, rfl⟩ ⟨v', H, I.tok _, by rw [valueAt_pairsH, h1]; exact h3, fi.val rl h4⟩
             · rw [h2] at fi
               exact getOr_keyed (kroom hu _ _) ⟨rep_key (u := .ref kb) I zk rfl ek, d⟩ hs ⟨es, hd, rfl⟩ ⟨_, H, I.tok _, by rw [valueAt_pairsH, h1]; exact r2, fi.val rl z2⟩
   · exact fi.no
 · rename_i kvs ks q
   split at fi
   · rename_i hk
     obtain ⟨nk, ek, d⟩ := nkey_of hk
     obtain ⟨p, es, rfl, hp, hz, rk⟩ := asDic_ok rl za q
     obtain ⟨hd, hs⟩ := dic_h I hp rk
     cases rx
     cases zs with
     | cons z1 zs =>
       cases zs
       cases rxs with
       | cons r1 rxs =>
         cases rxs
         obtain ⟨kb, rfl, zk⟩ := repu_tup z1
         cases r1
         rcases at_get ek rk with ⟨b', u', v', w', h1, h2, h3, h4⟩ | ⟨h1, h2⟩
         · rw [h2] at fi
           exact get_keyed (kroom hu _ _) ⟨rep_key (u := .ref kb) I zk rfl ek, d⟩ hs ⟨es, hd, rfl⟩ ⟨v', H, I.tok _, by rw [valueAt_pairsH, h1]; exact h3, fi.val rl h4⟩
         · rw [h2] at fi
           exact get_keyed (kroom hu _ _) ⟨rep_key (u := .ref kb) I zk rfl ek, d⟩ hs ⟨es, hd, rfl⟩ ⟨.non, H, I.tok _, by rw [valueAt_pairsH, h1]; rfl, fi.val rl (.v .non)⟩
   · exact fi.no
 · exact fi.no
theorem qe_dm {o e : Expr} {es : List Expr} {mo : ME} {mA : MA} {f : FM} {name : Str} {id : String} {apos cpos : Pos} (slot : Slot "dict" name id) (hty : typeOf (.builtin id) = pure (.type "method_descriptor")) (hm : MtR X id (liftM (bx X cl) f)) (ho : QE X cl W o mo) (ha : QA X cl W (e :: es) mA)
   (hbase : attributeBase o name X.env (eval o X.env) = eval o X.env := by rfl)
   (hfew : ((backTo cpos (starEach (e :: es) X.env)).all (fun x => !x.1) && (backToKw cpos (keywordEach [] X.env)).all (fun x => x.1.isSome)
     && decide ((e :: es).length + ([] : List Keyword).length + (if ([] : List Keyword).isEmpty then 0 else 1) < 30)) = true := by rfl)
   (hline : (apos.endLine == cpos.line) = true := by rfl) (hs : starEach (e :: es) X.env = (false, eval e X.env) :: starEach es X.env := by rfl) (hplain : (backTo cpos (starEach es X.env)).any (·.1) = false := by rfl) :
   QE X cl W (.Call (.Attribute o name apos) (e :: es) [] cpos) (eMtT isDc f mo mA) := by
 refine ⟨fun pins s σ H Q I ⟨ι, F, S, ρ, r, en, ot⟩ => ?_⟩
 refine wpAny_Call_method hbase hfew hline PySem.F.plainAttrs_dict slot hty (thn (ho.run pins s σ H _ I ⟨ι, F, S, ρ, r, en, ot.bind⟩) fun u s1 ⟨x, H1, I1, rx, ι1, F1, S1, x', e1, r1, z1, o1⟩ => ?_)
 split at o1
 · rename_i hc
   unfold isDc at hc
   cases q : asDic S1 x' with
   | none => rw [q] at hc; cases hc
   | some kvs =>
     obtain ⟨p, ens, rfl, hp, hz, rk⟩ := asDic_ok r1 z1 q
     obtain ⟨hd, hsm⟩ := dic_h I1 hp rk
     obtain rfl : u = Value.ref p := rx
     refine ⟨hd.typeIs, fun b eb => ?_, ?_⟩
     · cases eb
       obtain ⟨ob, _, _, g1, g2, _⟩ := hd
       exact ⟨ob, g1, g2.2.1⟩
     · have hA := PA.run ha cpos pins s1 σ H1 _ I1 ⟨ι1, F1, S1, ρ, r1, en.mono e1, o1.bind⟩
       rw [hs] at hA ⊢
       refine Calls.callWith_builtin (by show (false || (backTo cpos (starEach es X.env)).any (·.1)) = false; rw [hplain] <;> rfl) (Calls.evalArgs_plain ?_)
       exact thn hA fun us s2 ⟨vs, H2, I2, r2, ι2, F2, S2, y', e2, rr2, z2, o2⟩ => hm pins s2 σ H2 (.ref p) vs (.ref p) us Q I2 rfl r2 ⟨ι2, F2, S2, x', y', rr2, z1.mono e2, z2, o2.fin⟩
 · exact o1.elim
end
end Pu
namespace Pu
open PySem L2
open PyProof.Rows hiding St
def WI (W : WX) : Prop := ∀ cls d σ σ' H, W cls d σ H → W cls d σ' H
theorem wi_d (E : XK) : WI (Wd E) := fun _ _ _ _ _ h => h
abbrev E1 (W : WX) : XK := fun cls d H => W cls d [] H
theorem passW {X : Cx} {W : WX} (tk : Takes X W) (wi : WI W) : Passes (L2.CX X.prog X.w) X (E1 W) := fun pins σ H s e s' I c => passes_call tk (fun cls d σ H h => wi _ _ _ _ _ h) pins σ H s e s' I c
section
variable {B : Bx} {W : WX} {σ : L2.St} {ι : List Addr} {F : Addr → Prop} {H : Hp}
theorem out_e {β α : Type} {rep : List Addr → (Addr → Prop) → Hp → β → α → Prop} {Q : β → Hp → Prop} {r : R α} (wi : WI W) (h : Out B W σ ι F H rep Q r) : Out B (fun cls d _ H' => E1 W cls d H') [] ι F H rep Q r := by
 cases r with
 | ok a S' => exact h
 | ex c fs S' => exact fun dx vs ι' F' H' e r hx z => wi _ _ _ _ _ (h dx vs ι' F' H' e r hx z)
 | er => exact h
end
def eMake (c n : Nat) (mf : List U → Sto → R U) (args : List U) (S : Sto) : R U :=
 if args.length + 1 = n then (mf (.r S.length :: args) (S ++ [.ins c []])).bind fun u S1 => match u with
   | .v .non => .ok (.r S.length) S1
   | _ => .er
 else .er
section
variable {X : Cx} {cl : Nat → Addr} {W : WX} {k n : Nat} {f C : Addr} {fd : FuncData} {ps ks : List Str} {mf : List U → Sto → R U} {x m : Str} {p pos apos : Pos} {e o : Expr} {es : List Expr} {mo : ME} {mA mK : MA} {kws : List Keyword}
theorem make_sp {c : Nat} {σ : L2.St} {ι : List Addr} {F : Addr → Prop} {H : Hp} {S : Sto} {Q : VK} {vs : List V} {us : List U} (wi : WI W) (r : Rel (bx X cl) ι F S H) (z : RepUs (bx X cl) ι F H vs us)
   (o : Out (bx X cl) W σ ι F H (RepU (bx X cl)) Q (eMake c n mf us S)) : ∀ x dx, H x = none → H dx = none → dx ≠ x → SpM (bx X cl) n mf (.ref x :: vs) (upd (upd H dx (.own x)) x (.ins (cl c) dx [])) (fun v H2 => v = .non ∧ Q (.ref x) H2) (E1 W) := by
 intro x dx hx hdx ne
 unfold eMake at o
 split at o
 · rename_i hl
   have hx' : (upd H dx (.own x)) x = none := by rw [upd_ne (Ne.symm ne)]; exact hx
   have e1 : Evo ι F H ι F (upd H dx (.own x)) := Evo.new hdx
   have e2 : Evo ι F (upd H dx (.own x)) (ι ++ [x]) F (upd (upd H dx (.own x)) x (.ins (cl c) dx [])) := Evo.newS hx'
   have r2 : Rel (bx X cl) (ι ++ [x]) F (S ++ [.ins c []]) (upd (upd H dx (.own x)) x (.ins (cl c) dx [])) :=
     (r.new hdx).newS hx' nofun ⟨dx, [], upd_same, by rw [upd_ne ne, upd_same], fun z => r.fthere dx z hdx, .nil⟩
   refine ⟨by rw [List.length_cons, paired_len z]; exact hl, ι ++ [x], F, S ++ [.ins c []], .r S.length :: us, r2, .cons (.r (by rw [← r.len]; simp)) ((z.mono e1).mono e2), ?_⟩
   have o2 := Out.shift (e1.trans e2) (out_e wi o)
   refine (o2.bind).mono fun v H3 ⟨ι3, F3, S3, u, e3, r3, z3, o3⟩ => ?_
   split at o3
   · have hv : v = .non := (repu_non z3).mpr rfl
     exact ⟨hv, o3 _ ι3 F3 H3 Evo.refl r3 (.r (e3.pre _ _ (by rw [← r.len]; simp)))⟩
   · exact o3.elim
 · exact o.elim
def eMk (c n : Nat) (mf : List U → Sto → R U) (dds : List U) (a : MA) : ME := fun ρ S => (a ρ S).bind fun us S1 => eMake c n mf (us ++ dds) S1
theorem qe_make {c : Nat} {dvs : List V} {ds : List Value} {dds : List D} (M : Mk X.K (cl c) f) (Fn : FnOk X.prog X.w X.K X.mg X.base (L2.CX X.prog X.w) k f fd ps (SpM (bx X cl) n mf)) (tk : Takes X W) (wi : WI W) (hr : Room (k + 1) X.A) (hg : Gl X x) (hm : X.mg x = some (.ref (cl c))) (hb : Binds X.K fd ps ds) (hd : Vals dvs ds) (hD : Dfl cl dvs dds)
   (ha : QA X cl W (e :: es) mA) (hdb : (x == ("__debug__" : Str)) = false := by decide) (he : starEach (e :: es) X.env = (false, eval e X.env) :: starEach es X.env := by rfl) (hpl : (backTo pos (starEach es X.env)).any (·.1) = false := by rfl) :
   QE X cl W (.Call (.Name x p) (e :: es) [] pos) (eMk c n mf (dds.map U.v) mA) :=
 PE.imp (pe_make M Fn hr hg hm hb hd (passW tk wi) ha hdb he hpl) fun σ H Q ⟨ι, F, S, ρ, r, en, o⟩ => ⟨ι, F, S, ρ, r, en, o.bind.mono fun vs H1 ⟨ι1, F1, S1, us, e1, r1, z1, o1⟩ =>
   fun x dx hx hdx ne => make_sp wi r1 (paired_append z1 (reps_u (hD _ F1 H1 rfl))) o1 x dx hx hdx ne⟩
def QK (X : Cx) (cl : Nat → Addr) (W : WX) (kws : List Keyword) (m : MA) : Prop := PK X kws (liftA (bx X cl) W m)
def GRel (gV : List V → List V → List V) (gU : List U → List U → List U) : Prop := ∀ (B : Bx) (ι : List Addr) (F : Addr → Prop) (H : Hp) (vs zs : List V) (us ws : List U), RepUs B ι F H vs us → RepUs B ι F H zs ws → RepUs B ι F H (gV vs zs) (gU us ws)
def eMkK (c n np nk : Nat) (mf : List U → Sto → R U) (gU : List U → List U → List U) (a b : MA) : ME := fun ρ S => (a ρ S).bind fun us S1 => (b ρ S1).bind fun ws S2 => if us.length = np ∧ ws.length = nk then eMake c n mf (gU us ws) S2 else .er
def eMeth (c n : Nat) (m : Str) (mf : List U → Sto → R U) (dds : List U) (mo : ME) (a : MA) : ME := fun ρ S => (mo ρ S).bind fun x S1 => match asIns S1 x with
 | some (c', fs) => if c' = c ∧ fs.lookup m = none then (a ρ S1).bind fun us S2 => if us.length + dds.length + 1 = n then mf (x :: (us ++ dds)) S2 else .er else .er
 | none => .er
def eCallO (c n : Nat) (mf : List U → Sto → R U) (mo : ME) (a : MA) : ME := fun ρ S => (mo ρ S).bind fun x S1 => (match asIns S1 x with
 | some _ => .ok () S1
 | none => .er : R Unit).bind fun _ S1 => (a ρ S1).bind fun us S2 => match asIns S2 x with
 | some (c', _) => if c' = c ∧ us.length + 1 = n then mf (x :: us) S2 else .er
 | none => .er
def tyNm (S : Sto) : U → Option String
 | .v .non => some "NoneType"
 | .v (.bl _) => some "bool"
 | .v (.int _) => some "int"
 | .v (.str _) => some "str"
 | .v (.tup _) => some "tuple"
 | .v (.lst _) => some "list"
 | .v (.frl _) => some "list"
 | .r n => match S[n]? with
   | some (.lst _) => some "list"
   | _ => none
 | _ => none
theorem tyNm_ok {ι : List Addr} {F : Addr → Prop} {H : Hp} {S : Sto} {v : V} {u : U} {t : String} (r : Rel (bx X cl) ι F S H) (z : RepU (bx X cl) ι F H v u) (h : tyNm S u = some t) : TyX X.K H v (.type t) := by
 cases z with
 | v z =>
   cases z with
   | non => cases h; exact .base .non
   | bl b => cases h; exact .base (.bl b)
   | int i => cases h; exact .base (.int i)
   | str y _ => cases h; exact .base (.str y)
   | tup e _ => cases h; obtain ⟨o, _, e⟩ := e; exact .fTuple e
   | lst _ e _ => cases h; exact .base (.lst e)
   | frl e _ =>
     cases h
     rcases e with ⟨_, o, e⟩ | ⟨o, its, n, e1, e2, _⟩
     · exact .base (.frz e)
     · exact .kList e1 e2
   | _ => cases h
 | @r n a e =>
   unfold tyNm at h
   simp only at h
   cases q : S[n]? with
   | none => rw [q] at h; cases h
   | some c =>
     rw [q] at h
     have ok := r.ok n a c e q
     cases c with
     | lst ys =>
       cases h
       obtain ⟨vs, h1, h2⟩ := ok
       exact .base (.lst h1)
     | _ => cases h
def fIsi : FA := fun us S => match us with
 | [u, .v (.ty T)] => (tyNm S u).bind fun t => (kitB t T).map fun b => (.v (.bl b), S)
 | _ => none
theorem cq_isi : CallR X (.builtin "isinstance") (liftC (bx X cl) fIsi) := by
 intro pins s σ H xs us Q I rv ⟨ι, F, S, as, rl, zs, fi⟩
 unfold fIsi at fi
 split at fi
 · rename_i u T
   cases zs with
   | cons z1 z2 =>
     cases z2 with
     | cons z2 z3 =>
       cases z3
       cases z2 with
       | v z2 =>
         cases z2 with
         | ty _ =>
           cases q : tyNm S u with
           | none => rw [q] at fi; exact fi.no
           | some t =>
             rw [q] at fi
             simp only [Option.bind_some] at fi
             cases q2 : kitB t T with
             | none => rw [q2] at fi; exact fi.no
             | some b =>
               rw [q2] at fi
               exact call_isi pins s σ H _ us Q I rv ⟨_, _, _, _, b, rfl, .ty T, tyNm_ok rl z1 q, kit_ty q2, fi.val rl (.v (.bl b))⟩
 · exact fi.no
@[simp] theorem kB_ii : kitB "int" "int" = some true := by decide +kernel
@[simp] theorem kB_ib : kitB "int" "bool" = some false := by decide +kernel
@[simp] theorem kB_tt : kitB "tuple" "tuple" = some true := by decide +kernel
@[simp] theorem kB_ss : kitB "str" "str" = some true := by decide +kernel
end
end Pu
namespace Pu
open PySem L2
open PyProof.Rows hiding St
theorem reps_ints {B : Bx} {F : Addr → Prop} {H : Hp} : ∀ ns : List Int, Reps B F H (ns.map V.int) (ns.map D.int)
 | [] => .nil
 | n :: ns => .cons (.int n) (reps_ints ns)
theorem law_start {P : Program} {w : World} {K : PySem.W.Frag} {cl : Nat → Addr} {H : Hp} {a : Addr} {ns : List Int} {mf : List U → Sto → R U} (hO : Only H) (hS : SqL K H a (ns.map V.int)) (h : ∃ S', mf [.v (.frl (ns.map D.int))] [] = .ok (.v (.bl true)) S') :
   SpM ⟨P, w, K, cl⟩ 1 mf [.ref a] H (fun v _ => v = .bl true) fun _ _ _ => False := by
 obtain ⟨S', h⟩ := h
 have lk : Lk K (fun b => H b ≠ none) H a (ns.map V.int) := by
   rcases hS with (h1 | ⟨o, h1⟩) | h1
   · rcases hO a with h2 | ⟨o, xs, h2⟩
     · rw [h2] at h1; cases h1
     · rw [h2] at h1; cases h1
   · exact .inl ⟨by show H a ≠ none; rw [h1]; simp, o, h1⟩
   · exact .inr h1
 refine ⟨rfl, [], fun b => H b ≠ none, [], [.v (.frl (ns.map D.int))], ⟨rfl, List.nodup_nil, by simp, by simp, by simp, fun _ h => h, by simp⟩, .cons (.v (.frl lk (reps_ints ns))) .nil, ?_⟩
 rw [h]
 intro v ι' F' H' _ _ z
 cases z with
 | v z => cases z; rfl
theorem cx_no {P : Program} {w : World} (H : Hp) (s : Shared) (e : Value) (s' : Shared) (h : L2.CX P w [] H s (fun _ _ _ => False) e s') : False := by
 obtain ⟨_, _, _, _, _, _, _, _, _, _, _, _, h⟩ := h
 exact h
theorem law_end {l : PySem.W.OpenLaw} {n k : Nat} {q : Program} {loose : List Str} {XP : (Str → Option Value) → Heap → Prop} {YP : World → Heap → Prop} {d : DefRec} {x : Str} {mf : List U → Sto → R U} {cl : PySem.W.Frag → Nat → Addr}
   (hn : l.most = some n) (hn2 : n ≤ sizeLine) (hdf : d.params.defaults = []) (hr : Room k callerA) (pu : ∀ ns : List Int, ns.length ≤ n → ∃ S', mf [.v (.frl (ns.map D.int))] [] = .ok (.v (.bl true)) S')
   (hF : ∀ (w : World) (mg : Str → Option Value) (fa : Addr) (h : Heap), YP w h → h.Ns mainGlobals mg → mg d.name = some (.ref fa) →
     ∃ (K : PySem.W.Frag) (fd : FuncData), K.In h ∧ (∀ (s : Shared) (u : Value), BindsTo s fd ⟨[u], []⟩ [(x, u)]) ∧ ∀ base : Heap, FnOk l.prog w K mg base (L2.CX l.prog w) k fa fd [x] (SpM ⟨l.prog, w, K, cl K⟩ 1 mf)) :
   PySem.W.WalkO q loose XP YP l.row.toRowW d [] (fun f vs => PySem.call f vs) := by
 refine Att.attach_call hn hdf fun w s₀ s₁ mg mb fa o pm cd doc a vs ns G Y ho hd hcd hmg hobj hints hlen hg => ?_
 obtain ⟨K, fd, KX, hb, hf⟩ := hF w mg fa _ Y G.T.g hmg
 exact law_call KX G.T.g G.T.b G.T.builtins G.T.nolimit hg hobj hints (Nat.le_trans hlen hn2) hr (fun base _ _ => hf base) hb (fun H hO hS => law_start hO hS (pu ns hlen)) fun H e s' => cx_no H s₁ e s'
theorem funD_same {K : PySem.W.Frag} {x qual x2 q2 : Str} {params p2 : Arguments} {body b2 : List Stmt} {scope sc2 : Scope} {dvs dvs2 : List V} {kws kws2 : List (Str × V)} {f : Addr} {fd fd2 : FuncData} (F : FunD K x qual params body scope dvs kws f fd) (G : FunD K x2 q2 p2 b2 sc2 dvs2 kws2 f fd2) : fd = fd2 := by
 obtain ⟨oc, od, dV, kV, doc, pm, an, cdv, ct, osl, _, lk, _⟩ := F.ex
 obtain ⟨oc', od', dV', kV', doc', pm', an', cdv', ct', osl', _, lk', _⟩ := G.ex
 rw [lk] at lk'
 cases lk'
 rfl
end Pu
namespace Pu
open PySem
structure Post where
 nx : Env' → Sto → Prop := fun _ _ => False
 rt : U → Sto → Prop := fun _ _ => False
 bk : Env' → Sto → Prop := fun _ _ => False
 ct : Env' → Sto → Prop := fun _ _ => False
 ex : Nat → List (Str × U) → Env' → Sto → Prop := fun _ _ _ _ => False
def wps (r : RS) (Q : Post) : Prop := match r with
 | .nx ρ S => Q.nx ρ S
 | .rt u S => Q.rt u S
 | .bk ρ S => Q.bk ρ S
 | .ct ρ S => Q.ct ρ S
 | .ex c fs ρ S => Q.ex c fs ρ S
 | .er => False
abbrev XP := Nat → List (Str × U) → Sto → Prop
def wpr {α : Type} (r : R α) (Q : α → Sto → Prop) (X : XP) : Prop := match r with
 | .ok a S => Q a S
 | .ex c fs S => X c fs S
 | .er => False
def wpo {α : Type} (o : Option α) (Q : α → Prop) : Prop := match o with
 | some a => Q a
 | none => False
def wpO (o : Option (U × Sto)) (Q : U → Sto → Prop) : Prop := match o with
 | some p => Q p.1 p.2
 | none => False
def getv (ρ : Env') (i : Nat) (k : U → Prop) : Prop := match ρ[i]? with
 | some (some u) => k u
 | _ => False
section
variable {α β : Type} {Q : Post} {q : U → Sto → Prop} {X : XP} {ρ : Env'} {S : Sto} {k : U → Prop}
@[simp ↓] theorem getv_0 (u : U) : getv (some u :: ρ) 0 k = k u := id rfl
@[simp ↓] theorem getv_s (x : Option U) (i : Nat) : getv (x :: ρ) (i + 1) k = getv ρ i k := id rfl
@[simp ↓] theorem wpo_some (a : α) (q : α → Prop) : wpo (some a) q = q a := id rfl
@[simp ↓] theorem wpo_none (q : α → Prop) : wpo none q = False := id rfl
@[simp ↓] theorem wpO_some (u : U) : wpO (some (u, S)) q = q u S := id rfl
@[simp ↓] theorem wpO_none : wpO none q = False := id rfl
@[simp ↓] theorem wpr_ok (a : α) (q : α → Sto → Prop) : wpr (.ok a S) q X = q a S := id rfl
@[simp ↓] theorem wpr_er (q : α → Sto → Prop) : wpr .er q X = False := id rfl
@[simp ↓] theorem wpr_ofO (o : Option (U × Sto)) : wpr (ofO o) q X = wpO o q := by cases o <;> rfl
theorem wpr_bind (r : R α) (f : α → Sto → R β) (q : β → Sto → Prop) : wpr (r.bind f) q X = wpr r (fun a S => wpr (f a S) q X) X := by cases r <;> rfl
theorem wps_st (r : R α) (f : α → Sto → RS) : wps (r.st ρ f) Q = wpr r (fun a S => wps (f a S) Q) (fun c fs S => Q.ex c fs ρ S) := by cases r <;> rfl
theorem wpr_iff {r : R α} {q : α → Sto → Prop} : wpr r q (fun _ _ _ => False) ↔ ∃ a S, r = .ok a S ∧ q a S := by
 cases r with
 | ok a S => exact ⟨fun h => ⟨a, S, rfl, h⟩, fun ⟨_, _, e, h⟩ => by cases e; exact h⟩
 | ex c fs S => exact ⟨fun h => h.elim, fun ⟨_, _, e, h⟩ => by cases e⟩
 | er => exact ⟨fun h => h.elim, fun ⟨_, _, e, h⟩ => by cases e⟩
@[simp ↓] theorem w_var (i : Nat) : wpr (eVar i ρ S) q X = getv ρ i (fun u => q u S) := by
 unfold eVar getv
 split <;> rename_i h <;> simp_all [wpr]
@[simp ↓] theorem w_c (d : D) : wpr (eC d ρ S) q X = q (.v d) S := id rfl
@[simp ↓] theorem w_op (f : F2) (a b : ME) : wpr (eOp f a b ρ S) q X = wpr (a ρ S) (fun x S1 => wpr (b ρ S1) (fun y S2 => wpO (f x y S2) q) X) X := by
 simp only [eOp, wpr_bind, wpr_ofO]
@[simp ↓] theorem w_un (f : F1) (a : ME) : wpr (eUn f a ρ S) q X = wpr (a ρ S) (fun x S1 => wpO (f x S1) q) X := by simp only [eUn, wpr_bind, wpr_ofO]
@[simp ↓] theorem w_nil (q : List U → Sto → Prop) : wpr (aNil ρ S) q X = q [] S := id rfl
@[simp ↓] theorem w_cons (a : ME) (r : MA) (q : List U → Sto → Prop) : wpr (aCons a r ρ S) q X = wpr (a ρ S) (fun x S1 => wpr (r ρ S1) (fun xs S2 => q (x :: xs) S2) X) X := by simp only [aCons, wpr_bind, wpr_ok]
@[simp ↓] theorem w_cb (f : FA) (a : MA) : wpr (eCB f a ρ S) q X = wpr (a ρ S) (fun xs S1 => wpO (f xs S1) q) X := by simp only [eCB, wpr_bind, wpr_ofO]
@[simp ↓] theorem w_mtT (chk : Sto → U → Bool) (f : FM) (o : ME) (a : MA) : wpr (eMtT chk f o a ρ S) q X = wpr (o ρ S) (fun x S1 => chk S1 x = true ∧ wpr (a ρ S1) (fun xs S2 => wpO (f x xs S2) q) X) X := by
 simp only [eMtT, wpr_bind]
 congr 1; funext x S1
 by_cases h : chk S1 x = true
 · simp only [h, if_true, wpr_bind, wpr_ofO, true_and]
 · rw [if_neg h]; simp [h]
@[simp ↓] theorem w_sl (f : U → Option Int → Option Int → Sto → Option (U × Sto)) (m : ME) (lo hi : MO) : wpr (eSl f m lo hi ρ S) q X = wpr (m ρ S) (fun x S1 => wpr (lo ρ S1) (fun l S2 => wpr (hi ρ S2) (fun h S3 => wpO (f x l h S3) q) X) X) X := by
 simp only [eSl, wpr_bind, wpr_ofO]
@[simp ↓] theorem w_oNone (q : Option Int → Sto → Prop) : wpr (oNone ρ S) q X = q none S := id rfl
def isInt (u : U) (k : Int → Prop) : Prop := match u with
 | .v (.int i) => k i
 | _ => False
@[simp ↓] theorem isInt_i (i : Int) (k : Int → Prop) : isInt (.v (.int i)) k = k i := id rfl
@[simp ↓] theorem w_oSome (m : ME) (q : Option Int → Sto → Prop) : wpr (oSome m ρ S) q X = wpr (m ρ S) (fun u S1 => isInt u fun i => q (some i) S1) X := by
 simp only [oSome, wpr_bind]
 congr 1; funext u S1
 unfold isInt
 split
 · rfl
 · first
     | rfl
     | (split <;> first | rfl | simp_all)
def isBl (u : U) (k : Bool → Prop) : Prop := match u with
 | .v (.bl b) => k b
 | _ => False
@[simp ↓] theorem isBl_b (b : Bool) (k : Bool → Prop) : isBl (.v (.bl b)) k = k b := id rfl
theorem wpr_isB (u : U) (q : Bool → Sto → Prop) : wpr (ofO (isB u S)) q X = isBl u fun b => q b S := by
 unfold isB isBl
 split
 · rfl
 · first
     | rfl
     | (split <;> first | rfl | simp_all)
@[simp ↓] theorem w_tB (m : ME) (q : Bool → Sto → Prop) : wpr (tB m ρ S) q X = wpr (m ρ S) (fun u S1 => isBl u fun b => q b S1) X := by simp only [tB, wpr_bind, wpr_isB]
@[simp ↓] theorem w_tYes (q : Bool → Sto → Prop) : wpr (tYesM ρ S) q X = q true S := id rfl
theorem wpr_ite (c : Prop) [Decidable c] (a b : R α) (q : α → Sto → Prop) : wpr (if c then a else b) q X = if c then wpr a q X else wpr b q X := by split <;> rfl
theorem wps_ite (c : Prop) [Decidable c] (a b : RS) : wps (if c then a else b) Q = if c then wps a Q else wps b Q := by split <;> rfl
@[simp ↓] theorem w_tAnd (a b : MT) (q : Bool → Sto → Prop) : wpr (tAnd a b ρ S) q X = wpr (a ρ S) (fun x S1 => if x = true then wpr (b ρ S1) q X else q false S1) X := by simp only [tAnd, wpr_bind, wpr_ite, wpr_ok]
@[simp ↓] theorem w_tOr (a b : MT) (q : Bool → Sto → Prop) : wpr (tOr a b ρ S) q X = wpr (a ρ S) (fun x S1 => if x = true then q true S1 else wpr (b ρ S1) q X) X := by simp only [tOr, wpr_bind, wpr_ite, wpr_ok]
@[simp ↓] theorem w_tNot (a : MT) (q : Bool → Sto → Prop) : wpr (tNot a ρ S) q X = wpr (a ρ S) (fun x S1 => q (!x) S1) X := by simp only [tNot, wpr_bind, wpr_ok]
@[simp ↓] theorem w_eAnd (a b : ME) : wpr (eAnd a b ρ S) q X = wpr (a ρ S) (fun u S1 => isBl u fun x => if x = true then wpr (b ρ S1) q X else q (.v (.bl false)) S1) X := by simp only [eAnd, wpr_bind, wpr_isB, wpr_ite, wpr_ok]
@[simp ↓] theorem w_eOr (a b : ME) : wpr (eOr a b ρ S) q X = wpr (a ρ S) (fun u S1 => isBl u fun x => if x = true then q (.v (.bl true)) S1 else wpr (b ρ S1) q X) X := by simp only [eOr, wpr_bind, wpr_isB, wpr_ite, wpr_ok]
@[simp ↓] theorem w_eNot (a : ME) : wpr (eNot a ρ S) q X = wpr (a ρ S) (fun u S1 => isBl u fun x => q (.v (.bl (!x))) S1) X := by simp only [eNot, wpr_bind, wpr_isB, wpr_ok]
@[simp ↓] theorem w_eIf (c : MT) (a b : ME) : wpr (eIf c a b ρ S) q X = wpr (c ρ S) (fun x S1 => if x = true then wpr (a ρ S1) q X else wpr (b ρ S1) q X) X := by simp only [eIf, wpr_bind, wpr_ite]
@[simp ↓] theorem w_call (n : Nat) (mf : List U → Sto → R U) (dds : List U) (a : MA) : wpr (eCall n mf dds a ρ S) q X = wpr (a ρ S) (fun us S1 => us.length + dds.length = n ∧ wpr (mf (us ++ dds) S1) q X) X := by
 simp only [eCall, wpr_bind, wpr_ite, wpr_er]
 congr 1; funext us S1
 by_cases h : us.length + dds.length = n <;> simp [h]
def isIns (S : Sto) (u : U) (k : Nat → List (Str × U) → Prop) : Prop := match asIns S u with
 | some p => k p.1 p.2
 | none => False
@[simp ↓] theorem w_make (c n : Nat) (mf : List U → Sto → R U) (us : List U) : wpr (eMake c n mf us S) q X = (us.length + 1 = n ∧ wpr (mf (.r S.length :: us) (S ++ [.ins c []])) (fun u S1 => u = .v .non ∧ q (.r S.length) S1) X) := by
 unfold eMake
 by_cases h : us.length + 1 = n
 · simp only [h, if_true, wpr_bind, true_and]
   congr 1; funext u S1
   split <;> simp_all
 · simp [h]
@[simp ↓] theorem w_mk (c n : Nat) (mf : List U → Sto → R U) (dds : List U) (a : MA) : wpr (eMk c n mf dds a ρ S) q X = wpr (a ρ S) (fun us S1 => wpr (eMake c n mf (us ++ dds) S1) q X) X := by simp only [eMk, wpr_bind]
@[simp ↓] theorem s_next : wps (sNext ρ S) Q = Q.nx ρ S := id rfl
@[simp ↓] theorem s_seq (a b : MS) : wps (sSeq a b ρ S) Q = wps (a ρ S) { Q with nx := fun ρ S => wps (b ρ S) Q } := by unfold sSeq; cases a ρ S <;> rfl
@[simp ↓] theorem s_asg (m : ME) (g : MG) : wps (sAsg m g ρ S) Q = wpr (m ρ S) (fun u S1 => wpo (g u ρ) fun ρ' => Q.nx ρ' S1) (fun c fs S => Q.ex c fs ρ S) := by
 simp only [sAsg, wps_st]
 congr 1; funext u S1
 cases g u ρ <;> rfl
@[simp ↓] theorem s_expr (m : ME) : wps (sExpr m ρ S) Q = wpr (m ρ S) (fun _ S1 => Q.nx ρ S1) (fun c fs S => Q.ex c fs ρ S) := by simp only [sExpr, wps_st]; rfl
@[simp ↓] theorem s_ret (m : ME) : wps (sRet m ρ S) Q = wpr (m ρ S) (fun u S1 => Q.rt u S1) (fun c fs S => Q.ex c fs ρ S) := by simp only [sRet, wps_st]; rfl
@[simp ↓] theorem s_if (c : MT) (a b : MS) : wps (sIf c a b ρ S) Q = wpr (c ρ S) (fun x S1 => if x = true then wps (a ρ S1) Q else wps (b ρ S1) Q) (fun c fs S => Q.ex c fs ρ S) := by simp only [sIf, wps_st, wps_ite]
@[simp ↓] theorem w_gName (i : Nat) (u : U) (q : Env' → Prop) : wpo (gName i u ρ) q = q (ρ.set i (some u)) := id rfl
@[simp ↓] theorem w_gTup (n : Nat) (gs : MGs) (ds : List D) (q : Env' → Prop) : wpo (gTup n gs (.v (.tup ds)) ρ) q = (ds.length = n ∧ wpo (gs (ds.map U.v) ρ) q) := by
 unfold gTup; by_cases h : ds.length = n <;> simp [h]
@[simp ↓] theorem w_gNil (q : Env' → Prop) : wpo (gNil [] ρ) q = q ρ := id rfl
@[simp ↓] theorem w_gCons (g : MG) (gs : MGs) (u : U) (us : List U) (q : Env' → Prop) : wpo (gCons g gs (u :: us) ρ) q = wpo (g u ρ) fun ρ1 => wpo (gs us ρ1) q := by
 show wpo ((g u ρ).bind _) q = _
 cases g u ρ <;> rfl
def wpS (o : Option Sto) (q : Sto → Prop) : Prop := match o with
 | some S => q S
 | none => False
@[simp ↓] theorem wpS_some (q : Sto → Prop) : wpS (some S) q = q S := id rfl
@[simp ↓] theorem wpS_none (q : Sto → Prop) : wpS none q = False := id rfl
@[simp ↓] theorem s_set (mo mi mv : ME) : wps (sSet mo mi mv ρ S) Q = wpr (mv ρ S) (fun v S1 => wpr (mo ρ S1) (fun o S2 => wpr (mi ρ S2) (fun i S3 => wpS (fSet o i v S3) fun S4 => Q.nx ρ S4) (fun c fs S => Q.ex c fs ρ S)) (fun c fs S => Q.ex c fs ρ S)) (fun c fs S => Q.ex c fs ρ S) := by
 simp only [sSet, wps_st]
 congr 1; funext v S1; congr 1; funext o S2; congr 1; funext i S3
 cases fSet o i v S3 <;> rfl
def putFld (cs : List Nat) (f : Str) (u x : U) (S : Sto) (k : Sto → Prop) : Prop := match x with
 | .r n => match S[n]? with
   | some (.ins c fs) => (c ∈ cs ∧ fs.length < 900) ∧ k (S.set n (.ins c (putU f u fs)))
   | _ => False
 | _ => False
@[simp ↓] theorem s_fld (cs : List Nat) (f : Str) (mo mv : ME) : wps (sFld cs f mo mv ρ S) Q = wpr (mv ρ S) (fun u S1 => wpr (mo ρ S1) (fun x S2 => putFld cs f u x S2 fun S3 => Q.nx ρ S3) (fun c fs S => Q.ex c fs ρ S)) (fun c fs S => Q.ex c fs ρ S) := by
 simp only [sFld, wps_st]
 congr 1; funext u S1; congr 1; funext x S2
 unfold putFld
 cases x with
 | v d => rfl
 | r n =>
   simp only
   cases S2[n]? with
   | none => rfl
   | some c =>
     cases c with
     | ins c fs => by_cases h : c ∈ cs ∧ fs.length < 900 <;> simp [h, wps]
     | _ => rfl
@[simp ↓] theorem s_for (it : MI) (g : MG) (body : MS) : wps (sFor it g body ρ S) Q = wpr (it ρ S) (fun iv S1 => wps (forGo iv.src (iv.src.bind fun n => S1[n]?) g body iv.items ρ S1) Q) (fun c fs S => Q.ex c fs ρ S) := by simp only [sFor, wps_st]
theorem for_go (src : Option Nat) (c0 : Option Cell) (g : MG) (body : MS) (items : List U) (I : Nat → Env' → Sto → Prop) : ∀ (n i : Nat) (ρ : Env') (S : Sto), i + n = items.length → I i ρ S →
   (∀ (i : Nat) (u : U) (ρ : Env') (S : Sto), items[i]? = some u → I i ρ S → wpo (g u ρ) fun ρ1 => wps (body ρ1 S) { nx := fun ρ2 S2 => srcOk src c0 S2 ∧ I (i + 1) ρ2 S2, ct := fun ρ2 S2 => srcOk src c0 S2 ∧ I (i + 1) ρ2 S2, bk := Q.nx, rt := Q.rt, ex := Q.ex }) →
   (∀ ρ S, I items.length ρ S → Q.nx ρ S) → wps (forGo src c0 g body (items.drop i) ρ S) Q
 | 0, i, ρ, S, hl, h0, hs, hn => by
   rw [List.drop_eq_nil_of_le (by omega)]
   exact hn ρ S (by have : i = items.length := by omega
                    rw [← this]; exact h0)
 | n + 1, i, ρ, S, hl, h0, hs, hn => by
   have hi : i < items.length := by omega
   rw [List.drop_eq_getElem_cons hi]
   have h1 := hs i items[i] ρ S (List.getElem?_eq_getElem hi) h0
   have ih := fun ρ S h => for_go src c0 g body items I n (i + 1) ρ S (by omega) h hs hn
   unfold forGo
   cases q : g items[i] ρ with
   | none => rw [q] at h1; exact h1.elim
   | some ρ1 =>
     rw [q] at h1
     simp only [wpo_some] at h1 ⊢
     cases qb : body ρ1 S with
     | nx ρ2 S2 =>
       rw [qb] at h1
       simp only
       have h2 : srcOk src c0 S2 ∧ I (i + 1) ρ2 S2 := h1
       rw [if_pos h2.1]
       exact ih ρ2 S2 h2.2
     | ct ρ2 S2 =>
       rw [qb] at h1
       simp only
       have h2 : srcOk src c0 S2 ∧ I (i + 1) ρ2 S2 := h1
       rw [if_pos h2.1]
       exact ih ρ2 S2 h2.2
     | bk ρ2 S2 => rw [qb] at h1; exact h1
     | rt u S2 => rw [qb] at h1; exact h1
     | ex c fs ρ2 S2 => rw [qb] at h1; exact h1
     | er => rw [qb] at h1; exact h1.elim
theorem for_inv {src : Option Nat} {c0 : Option Cell} {g : MG} {body : MS} {items : List U} (I : Nat → Env' → Sto → Prop) (h0 : I 0 ρ S)
   (hs : ∀ (i : Nat) (u : U) (ρ : Env') (S : Sto), items[i]? = some u → I i ρ S → wpo (g u ρ) fun ρ1 => wps (body ρ1 S) { nx := fun ρ2 S2 => srcOk src c0 S2 ∧ I (i + 1) ρ2 S2, ct := fun ρ2 S2 => srcOk src c0 S2 ∧ I (i + 1) ρ2 S2, bk := Q.nx, rt := Q.rt, ex := Q.ex })
   (hn : ∀ ρ S, I items.length ρ S → Q.nx ρ S) : wps (forGo src c0 g body items ρ S) Q := by
 have h := for_go (Q := Q) src c0 g body items I items.length 0 ρ S (by omega) h0 hs hn
 simpa using h
@[simp] theorem srcOk_none (c0 : Option Cell) : srcOk none c0 S = True := id rfl
def seqV (S : Sto) (u : U) (k : List U → Prop) : Prop := match asSeq S u with
 | some xs => k xs
 | none => False
@[simp ↓] theorem w_iVal (m : ME) (q : IterV → Sto → Prop) : wpr (iVal m ρ S) q X = wpr (m ρ S) (fun u S1 => seqV S1 u fun xs => q ⟨xs, srcOf u⟩ S1) X := by
 simp only [iVal, wpr_bind]
 congr 1; funext u S1
 unfold seqV
 cases asSeq S1 u <;> rfl
def int1 (us : List U) (k : Int → Prop) : Prop := match us with
 | [.v (.int j)] => k j
 | _ => False
@[simp ↓] theorem int1_i (j : Int) (k : Int → Prop) : int1 [.v (.int j)] k = k j := id rfl
@[simp ↓] theorem w_rng1 (a : MA) (q : IterV → Sto → Prop) : wpr (iRng1 a ρ S) q X = wpr (a ρ S) (fun us S1 => int1 us fun j => (-1000000000 < j ∧ j < 1000000000) ∧ q ⟨rngU 0 j.toNat, none⟩ S1) X := by
 simp only [iRng1, wpr_bind]
 congr 1; funext us S1
 unfold int1
 split
 · rename_i j
   change wpr (if okR1 j then _ else _) q X = (okR1 j ∧ _)
   by_cases h : okR1 j <;> simp [h]
 · first
     | rfl
     | (split <;> first | rfl | simp_all)
def int2 (us : List U) (k : Int → Int → Prop) : Prop := match us with
 | [.v (.int i), .v (.int j)] => k i j
 | _ => False
@[simp] theorem rngU_len (lo : Int) (n : Nat) : (rngU lo n).length = n := by simp [rngU]
theorem rngU_get {lo : Int} {n i : Nat} {u : U} (h : (rngU lo n)[i]? = some u) : i < n ∧ u = .v (.int (lo + i)) := by
 unfold rngU at h
 rw [List.getElem?_map, Option.map_eq_some_iff] at h
 obtain ⟨a, h1, rfl⟩ := h
 have h2 := List.getElem?_eq_some_iff.mp h1
 obtain ⟨h3, h4⟩ := h2
 simp at h3 h4
 subst h4
 exact ⟨h3, rfl⟩
def start0 (N : Nat) (us : List U) : Env' := us.map some ++ List.replicate (N - us.length) none
theorem wp_runF {N : Nat} {m : MS} {us : List U} : wpr (runF N m us S) q X = wps (m (start0 N us) S) { rt := fun u S2 => wpr (fin S u S2) q X, nx := fun _ S2 => wpr (fin S (.v .non) S2) q X, ex := fun c fs _ S2 => wpr (finX S c fs S2) q X } := by
 unfold runF start0
 cases m (us.map some ++ List.replicate (N - us.length) none) S <;> rfl
theorem runF_eq {N : Nat} {m : MS} {us : List U} {u : U} {S' : Sto} (h : wps (m (start0 N us) S) { rt := fun v S2 => fin S v S2 = .ok u S', nx := fun _ S2 => fin S (.v .non) S2 = .ok u S' }) : runF N m us S = .ok u S' := by
 unfold runF
 unfold start0 at h
 cases q : m (us.map some ++ List.replicate (N - us.length) none) S <;> rw [q] at h <;> first | exact h | exact h.elim
theorem wp_runK {N : Nat} {m : MS} {us : List U} : wpr (runK N m us S) q X = wps (m (start0 N us) S) { rt := q, nx := fun _ S2 => q (.v .non) S2, ex := fun c fs _ S2 => X c fs S2 } := by
 unfold runK start0
 cases m (us.map some ++ List.replicate (N - us.length) none) S <;> rfl
end
end Pu
namespace Pu
open PySem L2
section
variable {q : U → Sto → Prop} {S : Sto} {X : XP}
@[simp ↓] theorem v_sub (i j : Int) : wpO (fI gSub (.v (.int i)) (.v (.int j)) S) q = q (.v (.int (i - j))) S := id rfl
@[simp ↓] theorem v_mul (i j : Int) : wpO (fI gMul (.v (.int i)) (.v (.int j)) S) q = ((i.natAbs < 2 ^ 64 ∨ j.natAbs < 2 ^ 64) ∧ q (.v (.int (i * j))) S) := by
 unfold fI gMul; change _ = (okMul i j ∧ _); by_cases h : okMul i j <;> simp [h]
@[simp ↓] theorem v_mod (i j : Int) : wpO (fI gMod (.v (.int i)) (.v (.int j)) S) q = (0 < j ∧ q (.v (.int (i % j))) S) := by
 unfold fI gMod; by_cases h : 0 < j <;> simp [h]
@[simp ↓] theorem v_div (i j : Int) : wpO (fI gDiv (.v (.int i)) (.v (.int j)) S) q = ((0 < j ∧ j < 1073741824) ∧ q (.v (.int (i / j))) S) := by
 unfold fI gDiv; change _ = (okDiv j ∧ _); by_cases h : okDiv j <;> simp [h]
@[simp ↓] theorem v_pow (i j : Int) : wpO (fI gPow (.v (.int i)) (.v (.int j)) S) q = ((0 ≤ j ∧ j ≤ 1000 ∧ i.natAbs < 2 ^ 64) ∧ q (.v (.int (i ^ j.toNat))) S) := by
 unfold fI gPow; change _ = (okPow i j ∧ _); by_cases h : okPow i j <;> simp [h]
@[simp ↓] theorem v_cmp (p : Int → Int → Bool) (i j : Int) : wpO (fI (gCmp p) (.v (.int i)) (.v (.int j)) S) q = q (.v (.bl (p i j))) S := id rfl
@[simp ↓] theorem v_addI (i j : Int) : wpO (fAdd (.v (.int i)) (.v (.int j)) S) q = q (.v (.int (i + j))) S := id rfl
@[simp ↓] theorem v_addS (i j : Str) : wpO (fAdd (.v (.str i)) (.v (.str j)) S) q = (i.length + j.length ≤ 100000 ∧ q (.v (.str (i ++ j))) S) := by
 unfold fAdd; by_cases h : i.length + j.length ≤ 100000 <;> simp [h]
@[simp ↓] theorem v_addT (i j : List D) : wpO (fAdd (.v (.tup i)) (.v (.tup j)) S) q = (i.length + j.length ≤ 100000 ∧ q (.v (.tup (i ++ j))) S) := by
 unfold fAdd; by_cases h : i.length + j.length ≤ 100000 <;> simp [h]
@[simp ↓] theorem v_addL (i j : List D) : wpO (fAdd (.v (.lst i)) (.v (.lst j)) S) q = (i.length + j.length ≤ 100000 ∧ q (.v (.lst (i ++ j))) S) := by
 unfold fAdd asLst
 simp only [List.length_map, ← List.map_append, allV_map]
 by_cases h : i.length + j.length ≤ 100000 <;> simp [h]
@[simp ↓] theorem v_int (i : Int) : wpO (fInt [.v (.int i)] S) q = q (.v (.int i)) S := id rfl
@[simp ↓] theorem v_isN (n : Bool) : wpO (fIsN n (.v .non) (.v .non) S) q = q (.v (.bl (!n))) S := id rfl
@[simp ↓] theorem v_isNt (n : Bool) (d : List D) : wpO (fIsN n (.v (.tup d)) (.v .non) S) q = q (.v (.bl n)) S := id rfl
@[simp ↓] theorem v_isNl (n : Bool) (d : List D) : wpO (fIsN n (.v (.lst d)) (.v .non) S) q = q (.v (.bl n)) S := id rfl
@[simp ↓] theorem v_tup (us : List U) : wpO (fTup us S) q = (us.length ≤ 100000 ∧ wpo (allV us) fun ds => q (.v (.tup ds)) S) := by
 unfold fTup; by_cases h : us.length ≤ 100000
 · simp only [h, if_true, true_and]; cases allV us <;> rfl
 · simp [h]
@[simp ↓] theorem v_lstV (us : List U) : wpO (fLstV us S) q = (us.length ≤ 100000 ∧ wpo (allV us) fun ds => q (.v (.lst ds)) S) := by
 unfold fLstV; by_cases h : us.length ≤ 100000
 · simp only [h, if_true, true_and]; cases allV us <;> rfl
 · simp [h]
@[simp ↓] theorem v_lstS (us : List U) : wpO (fLstS us S) q = (us.length ≤ 100000 ∧ q (.r S.length) (S ++ [.lst us])) := by
 unfold fLstS; by_cases h : us.length ≤ 100000 <;> simp [h]
@[simp ↓] theorem allV_consV (d : D) (us : List U) (k : List D → Prop) : wpo (allV (.v d :: us)) k = wpo (allV us) fun ds => k (d :: ds) := by
 show wpo ((allV us).map _) k = _
 cases allV us <;> rfl
@[simp ↓] theorem wpo_allV_nil (k : List D → Prop) : wpo (allV []) k = k [] := id rfl
@[simp ↓] theorem wpo_allV_map (ds : List D) (k : List D → Prop) : wpo (allV (ds.map U.v)) k = k ds := by rw [allV_map]; rfl
@[simp ↓] theorem v_dicS : wpO (fDicS [] S) q = q (.r S.length) (S ++ [.dic []]) := id rfl
@[simp ↓] theorem seqV_l (ds : List D) (k : List U → Prop) : seqV S (.v (.lst ds)) k = k (ds.map U.v) := id rfl
@[simp ↓] theorem seqV_f (ds : List D) (k : List U → Prop) : seqV S (.v (.frl ds)) k = k (ds.map U.v) := id rfl
@[simp ↓] theorem seqV_t (ds : List D) (k : List U → Prop) : seqV S (.v (.tup ds)) k = k (ds.map U.v) := id rfl
def cellL (c : Option Cell) (k : List U → Prop) : Prop := match c with
 | some (.lst xs) => k xs
 | _ => False
@[simp ↓] theorem cellL_l (xs : List U) (k : List U → Prop) : cellL (some (.lst xs)) k = k xs := id rfl
def cellQ (c : Option Cell) (k : List U → Prop) : Prop := match c with
 | some (.lst xs) => k xs
 | some (.tpc xs) => k xs
 | _ => False
@[simp ↓] theorem cellQ_l (xs : List U) (k : List U → Prop) : cellQ (some (.lst xs)) k = k xs := id rfl
@[simp ↓] theorem seqV_r (n : Nat) (k : List U → Prop) : seqV S (.r n) k = cellQ S[n]? k := by
 unfold seqV asSeq cellQ
 simp only
 cases S[n]? with
 | none => rfl
 | some c => cases c <;> rfl
@[simp] theorem srcOf_v (d : D) : srcOf (.v d) = none := id rfl
@[simp] theorem srcOf_r (n : Nat) : srcOf (.r n) = some n := id rfl
@[simp ↓] theorem v_listV (u : U) : wpO (fListV [u] S) q = seqV S u fun xs => wpo (allV xs) fun ds => q (.v (.lst ds)) S := by
 unfold fListV seqV; simp only
 cases asSeq S u with
 | none => rfl
 | some xs => simp only; cases allV xs <;> rfl
@[simp ↓] theorem v_tuple (u : U) : wpO (fTuple [u] S) q = seqV S u fun xs => wpo (allV xs) fun ds => q (.v (.tup ds)) S := by
 unfold fTuple seqV; simp only
 cases asSeq S u with
 | none => rfl
 | some xs => simp only; cases allV xs <;> rfl
@[simp ↓] theorem v_lenS (z : Str) : wpO (fLen [.v (.str z)] S) q = (z.length ≤ 100000 ∧ q (.v (.int z.length)) S) := by
 unfold fLen; by_cases h : z.length ≤ 100000 <;> simp [h]
theorem v_lenQ (u : U) (h : ∀ z, u ≠ .v (.str z)) : wpO (fLen [u] S) q = seqV S u fun xs => q (.v (.int xs.length)) S := by
 unfold fLen seqV
 split
 · rename_i z e; cases e; exact absurd rfl (h z)
 · rename_i e; cases e; cases asSeq S _ <;> rfl
 · rename_i h1 h2; exact absurd rfl (h2 u)
@[simp ↓] theorem v_lenL (ds : List D) : wpO (fLen [.v (.lst ds)] S) q = q (.v (.int ds.length)) S := by rw [v_lenQ _ (by simp)]; simp
@[simp ↓] theorem v_lenF (ds : List D) : wpO (fLen [.v (.frl ds)] S) q = q (.v (.int ds.length)) S := by rw [v_lenQ _ (by simp)]; simp
@[simp ↓] theorem v_lenT (ds : List D) : wpO (fLen [.v (.tup ds)] S) q = q (.v (.int ds.length)) S := by rw [v_lenQ _ (by simp)]; simp
@[simp ↓] theorem v_lenR (n : Nat) : wpO (fLen [.r n] S) q = cellQ S[n]? fun xs => q (.v (.int xs.length)) S := by rw [v_lenQ _ (by simp)]; simp
@[simp] theorem atI_map {α β : Type} (f : α → β) (xs : List α) (i : Int) : atI (xs.map f) i = (atI xs i).map f := by
 unfold atI; rw [List.length_map]; cases ixN xs.length i <;> simp
theorem ixX_q (u : U) (i : Int) (h : ∀ z, u ≠ .v (.str z)) (hd : asDic S u = none) : wpO (fIxX u (.v (.int i)) S) q = seqV S u fun xs => wpo (atI xs i) fun w => q w S := by
 unfold fIxX
 rw [hd]
 have e : fIx u (.v (.int i)) S = (match asSeq S u with
   | some xs => (atI xs i).map fun u => (u, S)
   | none => none) := by
   cases u with
   | v d =>
     cases d with
     | str z => exact absurd rfl (h z)
     | _ => rfl
   | r n => rfl
 simp only [e]
 unfold seqV
 cases asSeq S u with
 | none => rfl
 | some xs => simp only; cases atI xs i <;> rfl
@[simp ↓] theorem v_ixL (ds : List D) (i : Int) : wpO (fIxX (.v (.lst ds)) (.v (.int i)) S) q = wpo (atI ds i) fun d => q (.v d) S := by
 rw [ixX_q _ _ (by simp) rfl]; simp only [seqV_l, atI_map]; cases atI ds i <;> rfl
@[simp ↓] theorem v_ixF (ds : List D) (i : Int) : wpO (fIxX (.v (.frl ds)) (.v (.int i)) S) q = wpo (atI ds i) fun d => q (.v d) S := by
 rw [ixX_q _ _ (by simp) rfl]; simp only [seqV_f, atI_map]; cases atI ds i <;> rfl
@[simp ↓] theorem v_ixT (ds : List D) (i : Int) : wpO (fIxX (.v (.tup ds)) (.v (.int i)) S) q = wpo (atI ds i) fun d => q (.v d) S := by
 rw [ixX_q _ _ (by simp) rfl]; simp only [seqV_t, atI_map]; cases atI ds i <;> rfl
@[simp ↓] theorem v_ixS (z : Str) (i : Int) : wpO (fIxX (.v (.str z)) (.v (.int i)) S) q = (z.length ≤ 100000 ∧ wpo (atI z.cps.toList i) fun c => q (.v (.str ⟨#[c]⟩)) S) := by
 unfold fIxX asDic fIx
 simp only
 by_cases h : z.length ≤ 100000
 · simp only [h, if_true, true_and]; cases atI z.cps.toList i <;> rfl
 · simp [h]
def cellX (c : Option Cell) (i : Int) (k : U → Prop) : Prop := match c with
 | some (.lst xs) => wpo (atI xs i) k
 | _ => False
theorem atI_nat {α : Type} (xs : List α) (n : Nat) : atI xs (n : Int) = xs[n]? := by
 unfold atI ixN
 rw [if_pos (by omega)]
 by_cases h : (n : Int) < xs.length
 · rw [if_pos h]; simp
 · rw [if_neg h, List.getElem?_eq_none (by omega)]; rfl
@[simp ↓] theorem atI_c0 {α : Type} (x : α) (xs : List α) (k : α → Prop) : wpo (atI (x :: xs) 0) k = k x := by rw [show (0 : Int) = ((0 : Nat) : Int) from rfl, atI_nat]; rfl
@[simp ↓] theorem atI_c1 {α : Type} (x y : α) (xs : List α) (k : α → Prop) : wpo (atI (x :: y :: xs) 1) k = k y := by rw [show (1 : Int) = ((1 : Nat) : Int) from rfl, atI_nat]; rfl
@[simp ↓] theorem atI_c2 {α : Type} (x y z : α) (xs : List α) (k : α → Prop) : wpo (atI (x :: y :: z :: xs) 2) k = k z := by rw [show (2 : Int) = ((2 : Nat) : Int) from rfl, atI_nat]; rfl
@[simp ↓] theorem wpo_map {α β : Type} (f : α → β) (o : Option α) (k : β → Prop) : wpo (o.map f) k = wpo o fun x => k (f x) := by cases o <;> rfl
theorem atI_get {α : Type} {xs : List α} {i : Int} {k : α → Prop} (x0 : α) (h0 : 0 ≤ i) (h1 : i < xs.length) : wpo (atI xs i) k = k (xs.getD i.toNat x0) := by
 obtain ⟨n, rfl⟩ := Int.eq_ofNat_of_zero_le h0
 have h2 : n < xs.length := by omega
 simp only [Int.toNat_natCast]
 rw [atI_nat, List.getElem?_eq_getElem h2]
 simp [List.getD, List.getElem?_eq_getElem h2]
@[simp] theorem isS_s (z : Str) : isS S (.v (.str z)) = true := id rfl
theorem isL_r (n : Nat) (k : Prop) : (isL S (.r n) = true ∧ k) = cellL S[n]? fun _ => k := by
 unfold isL asList cellL
 simp only
 cases S[n]? with
 | none => simp
 | some c => cases c <;> simp
@[simp ↓] theorem v_append (n : Nat) (u : U) : wpO (fAppend (.r n) [u] S) q = cellL S[n]? fun xs => xs.length < 100000 ∧ q (.v .non) (S.set n (.lst (xs ++ [u]))) := by
 unfold fAppend cellL
 simp only
 cases S[n]? with
 | none => rfl
 | some c =>
   cases c with
   | lst xs => by_cases h : xs.length < 100000 <;> simp [h]
   | _ => rfl
@[simp] theorem sto_0 (S l : Sto) : (S ++ l)[S.length]? = l[0]? := by rw [List.getElem?_append_right (Nat.le_refl _)]; simp
@[simp] theorem sto_k (S l : Sto) (k : Nat) : (S ++ l)[S.length + k]? = l[k]? := by rw [List.getElem?_append_right (by omega)]; simp
@[simp] theorem set_0 (S l : Sto) (c : Cell) : (S ++ l).set S.length c = S ++ l.set 0 c := by rw [List.set_append_right _ _ (Nat.le_refl _)]; simp
theorem optAll_same {n : Nat} {T : Sto} : ∀ (S l : Sto), optAll (fun p : Cell × Cell => if p.2 = p.1 then some p.1 else fixC n 4 T p.2) (S.zip (S ++ l)) = some S
 | [], l => by simp [optAll]
 | c :: S, l => by simp [optAll, optAll_same S l]
@[simp] theorem fixS_same (S l : Sto) : fixS S (S ++ l) = some S := optAll_same S l
@[simp] theorem fixS_id (S : Sto) : fixS S S = some S := by have := fixS_same S []; simpa using this
@[simp] theorem fin_v (S : Sto) (d : D) (l : Sto) : fin S (.v d) (S ++ l) = .ok (.v d) S := by unfold fin; simp [fixU]
@[simp] theorem fin_v0 (S : Sto) (d : D) : fin S (.v d) S = .ok (.v d) S := by unfold fin; simp [fixU]
theorem fin_l {S l : Sto} {k : Nat} {ds : List D} (h : l[k]? = some (.lst (ds.map U.v))) : fin S (.r (S.length + k)) (S ++ l) = .ok (.v (.lst ds)) S := by
 unfold fin
 simp only [fixU, fixS_same]
 rw [if_neg (by omega)]
 have e : frz S.length 4 (S ++ l) (.r (S.length + k)) = some (.lst ds) := by
   show (if S.length + k < S.length then none else _) = _
   rw [if_neg (by omega), sto_k, h]
   simp
 rw [e]; rfl
theorem fin_l0 {S l : Sto} {ds : List D} : fin S (.r S.length) (S ++ .lst (ds.map U.v) :: l) = .ok (.v (.lst ds)) S := fin_l (k := 0) rfl
end
theorem lc_go {src : Option Nat} {c0 : Option Cell} {g : MG} {t : MT} {e : ME} {ρ : Env'} {S : Sto} (p : D → Bool) (f : D → D) : ∀ (ds acc : List D), acc.length + ds.length < 100000 → (∀ acc : List D, srcOk src c0 (S ++ [.lst (acc.map U.v)])) →
   (∀ d ∈ ds, ∀ acc : List D, ∃ ρ1, g (.v d) ρ = some ρ1 ∧ t ρ1 (S ++ [.lst (acc.map U.v)]) = .ok (p d) (S ++ [.lst (acc.map U.v)]) ∧ (p d = true → e ρ1 (S ++ [.lst (acc.map U.v)]) = .ok (.v (f d)) (S ++ [.lst (acc.map U.v)]))) →
   lcGo src c0 g t e S.length (ds.map U.v) ρ (S ++ [.lst (acc.map U.v)]) = .ok () (S ++ [.lst ((acc ++ (ds.filter p).map f).map U.v)])
 | [], acc, hl, hs, h => by simp [lcGo]
 | d :: ds, acc, hl, hs, h => by
   obtain ⟨ρ1, h1, h2, h3⟩ := h d (by simp) acc
   simp only [List.map_cons, lcGo, h1, h2, noEx_ok, R.bind_ok]
   cases hp : p d with
   | false =>
     simp only [Bool.false_eq_true, if_false]
     rw [if_pos (hs acc), lc_go p f ds acc (by simp at hl; omega) hs (fun d hd => h d (by simp [hd]))]
     simp [hp]
   | true =>
     simp only [if_true, h3 hp, noEx_ok, R.bind_ok, sto_0, List.getElem?_cons_zero, set_0, List.set_cons_zero]
     rw [if_pos ⟨by simp at hl ⊢; omega, hs acc⟩]
     have := lc_go p f ds (acc ++ [f d]) (by simp at hl ⊢; omega) hs (fun d hd => h d (by simp [hd]))
     simp only [List.map_append, List.map_cons, List.map_nil] at this
     rw [this]
     simp [hp]
theorem lcV_eq {vs : List Nat} {it : MI} {g : MG} {t : MT} {e : ME} {ρ : Env'} {S S1 : Sto} {src : Option Nat} {ds : List D} (p : D → Bool) (f : D → D) (hi : it ρ S = .ok ⟨ds.map U.v, src⟩ S1) (hl : ds.length < 100000) (hs : ∀ n, src = some n → n < S1.length)
   (h : ∀ d ∈ ds, ∀ acc : List D, ∃ ρ1, g (.v d) (wipeE ρ vs) = some ρ1 ∧ t ρ1 (S1 ++ [.lst (acc.map U.v)]) = .ok (p d) (S1 ++ [.lst (acc.map U.v)]) ∧ (p d = true → e ρ1 (S1 ++ [.lst (acc.map U.v)]) = .ok (.v (f d)) (S1 ++ [.lst (acc.map U.v)]))) :
   eLcV vs it g t e ρ S = .ok (.v (.lst ((ds.filter p).map f))) S1 := by
 have so : ∀ l : Sto, srcOk src (src.bind fun n => S1[n]?) (S1 ++ l) := fun l => by
   unfold srcOk
   cases src with
   | none => trivial
   | some n => simp only [Option.bind_some]; rw [List.getElem?_append_left (hs n rfl)]
 have hg := lc_go (src := src) (c0 := src.bind fun n => S1[n]?) (S := S1) p f ds [] (by simpa using hl) (fun acc => so _) h
 simp only [List.map_nil, List.nil_append] at hg
 unfold eLcV lcRun
 simp only [hi, R.bind_ok]
 rw [if_pos (so _), hg]
 simp only [R.bind_ok, kfV, sto_0, List.getElem?_cons_zero, allV_map, if_true]
end Pu
namespace Pu
open PySem L2
section
variable {q : U → Sto → Prop} {S : Sto} {X : XP}
@[simp] theorem datAt_bl (n : Nat) (b : Bool) : datAt n (.bl b) = false := by cases n <;> rfl
theorem v_eq {a b : D} (ha : isDat a = true) (hb : isDat b = true) : wpO (fEq (.v a) (.v b) S) q = q (.v (.bl (decide (a = b)))) S := by
 unfold fEq deL eqD
 simp only [ha, hb, and_self, if_true]
 rfl
theorem v_ne {a b : D} (ha : isDat a = true) (hb : isDat b = true) : wpO (fNe (.v a) (.v b) S) q = q (.v (.bl (!decide (a = b)))) S := by
 unfold fNe deL eqD
 simp only [ha, hb, and_self, if_true]
 rfl
@[simp ↓] theorem v_eqI (i j : Int) : wpO (fEq (.v (.int i)) (.v (.int j)) S) q = q (.v (.bl (decide (i = j)))) S := by rw [v_eq (by simp) (by simp)]; simp
@[simp ↓] theorem v_neI (i j : Int) : wpO (fNe (.v (.int i)) (.v (.int j)) S) q = q (.v (.bl (!decide (i = j)))) S := by rw [v_ne (by simp) (by simp)]; simp
@[simp ↓] theorem v_neB (i j : Bool) : wpO (fNe (.v (.bl i)) (.v (.bl j)) S) q = q (.v (.bl (!decide (i = j)))) S := by
 unfold fNe deL eqD; simp only [datAt_bl, isDat, Bool.false_eq_true, and_self, if_false]; rfl
def cellI (c : Option Cell) (k : Nat → List (Str × U) → Prop) : Prop := match c with
 | some (.ins c fs) => k c fs
 | _ => False
@[simp ↓] theorem cellI_i (c : Nat) (fs : List (Str × U)) (k : Nat → List (Str × U) → Prop) : cellI (some (.ins c fs)) k = k c fs := id rfl
@[simp ↓] theorem isIns_r (n : Nat) (k : Nat → List (Str × U) → Prop) : isIns S (.r n) k = cellI S[n]? k := by
 unfold isIns asIns cellI
 simp only
 cases S[n]? with
 | none => rfl
 | some c => cases c <;> rfl
@[simp ↓] theorem isIns_v (c : Nat) (fs : List (Str × D)) (k : Nat → List (Str × U) → Prop) : isIns S (.v (.ins c fs)) k = k c (fs.map fun p => (p.1, .v p.2)) := id rfl
@[simp ↓] theorem putFld_r (cs : List Nat) (f : Str) (u : U) (n : Nat) (k : Sto → Prop) : putFld cs f u (.r n) S k = cellI S[n]? fun c fs => (c ∈ cs ∧ fs.length < 900) ∧ k (S.set n (.ins c (putU f u fs))) := by
 cases h : S[n]? with
 | none => simp [putFld, cellI, h]
 | some c => cases c <;> simp [putFld, cellI, h]
@[simp ↓] theorem v_fld (cs : List Nat) (f : Str) (u : U) : wpO (fFld cs f u S) q = isIns S u fun c fs => c ∈ cs ∧ wpo (fs.lookup f) fun z => q z S := by
 unfold fFld isIns
 cases asIns S u with
 | none => rfl
 | some p =>
   by_cases h : p.1 ∈ cs
   · simp only [h, if_true, true_and]; cases p.2.lookup f <;> rfl
   · simp [h]
@[simp ↓] theorem v_slS (z : Str) (lo hi : Option Int) : wpO (fSl (.v (.str z)) lo hi S) q = (z.length ≤ 100000 ∧ q (.v (.str (cutS z lo hi))) S) := by
 unfold fSl; by_cases h : z.length ≤ 100000 <;> simp [h]
theorem cutU_map {α β : Type} (f : α → β) (xs : List α) (lo hi : Option Int) : cutU (xs.map f) lo hi = (cutU xs lo hi).map f := by unfold cutU; simp
@[simp ↓] theorem v_slL (ds : List D) (lo hi : Option Int) : wpO (fSl (.v (.lst ds)) lo hi S) q = q (.v (.lst (cutU ds lo hi))) S := by
 unfold fSl asList
 simp only [cutU_map, allV_map, Option.map_some]
 rfl
@[simp ↓] theorem v_revL (ds : List D) : wpO (fRev (.v (.lst ds)) S) q = q (.v (.lst ds.reverse)) S := by
 unfold fRev asList
 simp only [← List.map_reverse, allV_map, Option.map_some]
 rfl
@[simp] theorem allS_map (xs : List Str) : allS (xs.map fun x => U.v (.str x)) = some xs := by
 induction xs with
 | nil => rfl
 | cons x xs ih => simp [allS, ih]
theorem v_join (a : Str) (xs : List Str) (h : (xs.map (·.length)).sum + xs.length * a.length ≤ 100000) : wpO (fJoin (.v (.str a)) [.v (.lst (xs.map D.str))] S) q = q (.v (.str (Txt.join a xs))) S := by
 unfold fJoin asSeq
 simp only [List.map_map]
 rw [show (U.v ∘ D.str) = fun x => U.v (.str x) from rfl, allS_map]
 simp [h]
def dicV (S : Sto) (u : U) (k : List (D × U) → Prop) : Prop := match asDic S u with
 | some kvs => k kvs
 | none => False
def cellD (c : Option Cell) (k : List (D × U) → Prop) : Prop := match c with
 | some (.dic kvs) => k kvs
 | some (.dicL kvs) => k kvs
 | _ => False
theorem v_inD {neg : Bool} {u : U} {ks : List D} {kvs : List (D × U)} (h : asDic S u = some kvs) : wpO (fInX neg (.v (.tup ks)) u S) q = (isKey (.tup ks) = true ∧ q (.v (.bl (cond neg (!dhas kvs (.tup ks)) (dhas kvs (.tup ks))))) S) := by
 unfold fInX
 rw [h]
 by_cases hk : isKey (.tup ks) = true <;> simp [hk]
theorem v_setD {n : Nat} {ks : List D} {v : U} {kvs : List (D × U)} {k : Sto → Prop} (h : S[n]? = some (.dic kvs)) : wpS (fSet (.r n) (.v (.tup ks)) v S) k = ((isKey (.tup ks) = true ∧ kvs.length < 100000) ∧ k (S.set n (.dic (dput kvs (.tup ks) v)))) := by
 unfold fSet
 simp only [h]
 by_cases hk : isKey (.tup ks) = true ∧ kvs.length < 100000
 · rw [if_pos hk, wpS_some, eq_iff_iff]; exact ⟨fun z => ⟨hk, z⟩, fun z => z.2⟩
 · rw [if_neg hk, wpS_none, eq_iff_iff]; exact ⟨False.elim, fun z => hk z.1⟩
@[simp] theorem isDc_v (kvs : List (D × D)) : isDc S (.v (.dic kvs)) = true := rfl
theorem v_get2 {u w : U} {ks : List D} {kvs : List (D × U)} (h : asDic S u = some kvs) : wpO (fGet u [.v (.tup ks), w] S) q = (isKey (.tup ks) = true ∧ q ((dget kvs (.tup ks)).getD w) S) := by
 unfold fGet
 rw [h]
 by_cases hk : isKey (.tup ks) = true <;> simp [hk]
@[simp ↓] theorem v_isi (u : U) (T : String) : wpO (fIsi [u, .v (.ty T)] S) q = wpo (tyNm S u) fun t => wpo (kitB t T) fun b => q (.v (.bl b)) S := by
 unfold fIsi
 simp only
 cases tyNm S u with
 | none => rfl
 | some t => simp only [Option.bind_some, wpo_some]; cases kitB t T <;> rfl
@[simp] theorem tyNm_i (i : Int) : tyNm S (.v (.int i)) = some "int" := id rfl
@[simp] theorem tyNm_s (i : Str) : tyNm S (.v (.str i)) = some "str" := id rfl
@[simp] theorem tyNm_t (i : List D) : tyNm S (.v (.tup i)) = some "tuple" := id rfl
end
def uOk (n : Nat) : U → Bool
 | .v _ => true
 | .r m => decide (m < n)
def cOk (n : Nat) : Cell → Bool
 | .lst xs => xs.all (uOk n)
 | .tpc xs => xs.all (uOk n)
 | .dic kvs => kvs.all fun p => uOk n p.2
 | .ins _ fs => fs.all fun p => uOk n p.2
 | .dead => true
 | .dicL _ => false
def Wf (S : Sto) : Prop := ∀ c ∈ S, cOk S.length c = true
theorem fixU_id {n k : Nat} {S : Sto} {u : U} (h : uOk n u = true) : fixU n k S u = some u := by
 cases u with
 | v d => rfl
 | r m => unfold fixU; simp only [uOk, decide_eq_true_eq] at h; simp [h]
theorem optAll_id {α : Type} {f : α → Option α} : ∀ {xs : List α}, (∀ x ∈ xs, f x = some x) → optAll f xs = some xs
 | [], _ => rfl
 | x :: xs, h => by
   have ih := optAll_id (xs := xs) fun y hy => h y (List.mem_cons_of_mem _ hy)
   simp [optAll, h x (by simp), ih]
theorem fixC_ok {n k : Nat} {S : Sto} {c : Cell} (h : cOk n c = true) : fixC n k S c = some c := by
 cases c with
 | lst xs => show (optAll _ xs).map _ = _; rw [optAll_id fun x hx => fixU_id (List.all_eq_true.mp h x hx)]; rfl
 | tpc xs => show (optAll _ xs).map _ = _; rw [optAll_id fun x hx => fixU_id (List.all_eq_true.mp h x hx)]; rfl
 | dic xs => show (optAll _ xs).map _ = _; rw [optAll_id fun x hx => by rw [fixU_id (List.all_eq_true.mp h x hx)]; rfl]; rfl
 | ins c xs => show (optAll _ xs).map _ = _; rw [optAll_id fun x hx => by rw [fixU_id (List.all_eq_true.mp h x hx)]; rfl]; rfl
 | dead => rfl
 | dicL xs => cases h
theorem optAll_app {α β : Type} {f : α → Option β} {xs ys : List α} {as bs : List β} (h1 : optAll f xs = some as) (h2 : optAll f ys = some bs) : optAll f (xs ++ ys) = some (as ++ bs) := by
 induction xs generalizing as with
 | nil => simp [optAll] at h1; subst h1; exact h2
 | cons x xs ih =>
   unfold optAll at h1
   cases q : f x with
   | none => rw [q] at h1; cases h1
   | some y =>
     rw [q] at h1
     simp only [Option.map_eq_some_iff] at h1
     obtain ⟨bs', e1, rfl⟩ := h1
     simp [optAll, q, ih e1]
theorem fixS_last (S : Sto) (c0 c1 : Cell) (l : Sto) : fixS (S ++ [c0]) (S ++ c1 :: l) = (if c1 = c0 then some c0 else fixC (S.length + 1) 4 (S ++ c1 :: l) c1).map fun c => S ++ [c] := by
 unfold fixS
 have e : (S ++ [c0]).zip (S ++ c1 :: l) = S.zip S ++ [(c0, c1)] := by rw [List.zip_append rfl]; simp
 rw [e]
 have h1 := optAll_same (n := (S ++ [c0]).length) (T := S ++ c1 :: l) S []
 simp only [List.append_nil] at h1
 cases q : (if c1 = c0 then some c0 else fixC (S.length + 1) 4 (S ++ c1 :: l) c1) with
 | none =>
   have : ∀ (xs : List (Cell × Cell)) (f : Cell × Cell → Option Cell) (y : Cell × Cell), f y = none → optAll f (xs ++ [y]) = none := by
     intro xs f y hy
     induction xs with
     | nil => simp [optAll, hy]
     | cons x xs ih => simp only [List.cons_append, optAll, ih]; cases f x <;> rfl
   rw [this _ _ _ (by simpa using q)]; rfl
 | some c => rw [optAll_app h1 (bs := [c]) (by simp only [optAll]; simp only [List.length_append, List.length_cons, List.length_nil]; rw [q]; rfl)]; rfl
theorem fin_last {S : Sto} {c0 c1 : Cell} {l : Sto} {d : D} (h : fixC (S.length + 1) 4 (S ++ c1 :: l) c1 = some c1) : fin (S ++ [c0]) (.v d) (S ++ c1 :: l) = .ok (.v d) (S ++ [c1]) := by
 unfold fin
 rw [fixS_last, h]
 by_cases e : c1 = c0
 · subst e; simp [fixU]
 · simp [fixU, e]
theorem eq_of_wpr {α : Type} {r : R α} {a : α} {S : Sto} (h : wpr r (fun x T => x = a ∧ T = S) (fun _ _ _ => False)) : r = .ok a S := by
 cases r with
 | ok x T => obtain ⟨rfl, rfl⟩ := (show x = a ∧ T = S from h); rfl
 | ex c fs T => exact (show False from h).elim
 | er => exact (show False from h).elim
theorem w_lcV {vs : List Nat} {it : MI} {g : MG} {t : MT} {e : ME} {ρ : Env'} {S S1 : Sto} {src : Option Nat} {ds : List D} {q : U → Sto → Prop} {X : XP} (p : D → Bool) (f : D → D)
   (hi : wpr (it ρ S) (fun iv T => iv = ⟨ds.map U.v, src⟩ ∧ T = S1) (fun _ _ _ => False)) (hl : ds.length < 100000) (hs : ∀ n, src = some n → n < S1.length)
   (h : ∀ d ∈ ds, ∀ acc : List D, wpo (g (.v d) (wipeE ρ vs)) fun ρ1 => wpr (t ρ1 (S1 ++ [.lst (acc.map U.v)])) (fun b T => b = p d ∧ T = S1 ++ [.lst (acc.map U.v)]) (fun _ _ _ => False) ∧
     (p d = true → wpr (e ρ1 (S1 ++ [.lst (acc.map U.v)])) (fun u T => u = .v (f d) ∧ T = S1 ++ [.lst (acc.map U.v)]) (fun _ _ _ => False)))
   (k : q (.v (.lst ((ds.filter p).map f))) S1) : wpr (eLcV vs it g t e ρ S) q X := by
 rw [lcV_eq p f (eq_of_wpr hi) hl hs fun d hd acc => ?_]
 · exact k
 · have h1 := h d hd acc
   cases q : g (.v d) (wipeE ρ vs) with
   | none => rw [q] at h1; exact h1.elim
   | some ρ1 =>
     rw [q] at h1
     exact ⟨ρ1, rfl, eq_of_wpr h1.1, fun z => eq_of_wpr (h1.2 z)⟩
theorem sum_ones {α : Type} {g : α → Nat} : ∀ {xs : List α}, (∀ x ∈ xs, g x = 1) → (xs.map g).sum = xs.length
 | [], _ => rfl
 | x :: xs, h => by simp [h x (by simp), sum_ones (xs := xs) fun y hy => h y (List.mem_cons_of_mem _ hy)]; omega
theorem optAll_dic {n k : Nat} {S : Sto} : ∀ kvs : List (D × D), optAll (fun p : D × U => (frz n k S p.2).map fun d => (p.1, d)) (kvs.map fun p => (p.1, U.v p.2)) = some kvs
 | [] => rfl
 | p :: r => by simp [optAll, optAll_dic r]
theorem asSeq_app {S : Sto} {u : U} {xs : List U} (l : Sto) (h : asSeq S u = some xs) : asSeq (S ++ l) u = some xs :=
 asSeq_same h fun n hn => by
   cases u with
   | v d => cases hn
   | r m =>
     obtain rfl : m = n := by cases hn; rfl
     unfold asSeq at h
     simp only at h
     rw [List.getElem?_append_left]
     by_cases hm : m < S.length
     · exact hm
     · rw [List.getElem?_eq_none (by omega)] at h; cases h
theorem src_app {S : Sto} {u : U} {xs : List U} (l l' : Sto) (h : asSeq S u = some xs) : srcOk (srcOf u) ((srcOf u).bind fun n => (S ++ l)[n]?) (S ++ l') := by
 cases u with
 | v d => trivial
 | r m =>
   have hm : m < S.length := by
     by_cases hm : m < S.length
     · exact hm
     · unfold asSeq at h
       simp only at h
       rw [List.getElem?_eq_none (by omega)] at h; cases h
   show (S ++ l')[m]? = (S ++ l)[m]?
   rw [List.getElem?_append_left hm, List.getElem?_append_left hm]
theorem data_get {α : Type} {f : α → D} {rows : List α} {i : Nat} {w : U} (hw : ((rows.map f).map U.v)[i]? = some w) : ∃ r, rows[i]? = some r ∧ w = .v (f r) ∧ rows.drop i = r :: rows.drop (i + 1) := by
 rw [List.getElem?_map, List.getElem?_map, Option.map_eq_some_iff] at hw
 obtain ⟨d, hd, rfl⟩ := hw
 obtain ⟨r, hr1, rfl⟩ := Option.map_eq_some_iff.mp hd
 obtain ⟨hl, e⟩ := List.getElem?_eq_some_iff.mp hr1
 exact ⟨r, hr1, rfl, by rw [List.drop_eq_getElem_cons hl, e]⟩
theorem ofStr_inj {a b : String} (h : Str.ofString a = Str.ofString b) : a = b := by
 rw [Str.ofString_eq_toList, Str.ofString_eq_toList] at h
 have h1 : (a.toList.map Char.toNat).toArray = (b.toList.map Char.toNat).toArray := congrArg Str.cps h
 have h2 : a.toList.map Char.toNat = b.toList.map Char.toNat := by simpa using congrArg Array.toList h1
 have h3 : a.toList = b.toList := List.map_inj_right (fun x y e => by exact Char.toNat_inj.mp e) |>.mp h2
 exact String.toList_inj.mp h3
@[simp] theorem ofStr_eq (a b : String) : (Str.ofString a = Str.ofString b) = (a = b) := by
 rw [eq_iff_iff]; exact ⟨ofStr_inj, fun h => by rw [h]⟩
@[simp] theorem ofStr_beq (a b : String) : (Str.ofString a == Str.ofString b) = (a == b) := by
 by_cases h : a = b
 · subst h; simp
 · have h2 : Str.ofString a ≠ Str.ofString b := fun z => h (ofStr_inj z)
   rw [beq_eq_false_iff_ne.mpr h, beq_eq_false_iff_ne.mpr h2]
@[simp ↓] theorem lookup_hit {α : Type} (a : String) (v : α) (r : List (Str × α)) (k : α → Prop) : wpo (((Str.ofString a, v) :: r).lookup (Str.ofString a)) k = k v := by
 simp
@[simp ↓] theorem lookup_cons' {α : Type} (a b : String) (v : α) (r : List (Str × α)) (k : α → Prop) : wpo (((Str.ofString a, v) :: r).lookup (Str.ofString b)) k = if b = a then k v else wpo (r.lookup (Str.ofString b)) k := by
 rw [List.lookup_cons]
 by_cases h : b = a
 · subst h; simp
 · have h2 : (Str.ofString b == Str.ofString a) = false := by rw [ofStr_beq]; simpa using h
   rw [h2, if_neg h]
end Pu
namespace Pu
open PySem PySem.Spec L2
open PyProof.Rows hiding St
open PySem.W (ksEnv ksFn)
def cxS (CX : CXT) (P : Program) (w : World) (K : PySem.W.Frag) (mg : Str → Option Value) (base : Heap) (N : List Str) (qual : Str) (scope : Scope) (f : Addr) (cd : Value) (cc : Addr) (A : Around) (outer : List Env) (s : Shared) (H : Hp) (E : XK) : Cx where
 prog := P
 w := w
 K := K
 mg := mg
 base := base
 A := A.deeper (ksEnv qual scope s.heap.objs.size f cd cc)
 N := N
 s_0 := s
 H_0 := H
 env := ksEnv qual scope s.heap.objs.size f cd cc
 outer := outer
 stack := ksEnv qual scope s.heap.objs.size f cd cc :: outer
 ex := []
 calm := true
 fn := fun x => !(x == ("__class__" : Str))
 pn := []
 xe := fun e s' => wpAny (model P w) (A.deeper (ksEnv qual scope s.heap.objs.size f cd cc)) (leaving (ksEnv qual scope s.heap.objs.size f cd cc) e) (fun _ s'' => CX outer H s E e s'') (fun e' s'' => CX outer H s E e' s'') s'
structure SupScope (ps : List Str) (sc : Scope) : Prop where
 kind : sc.kind = .function
 co : sc.isCoroutine = false
 gen : sc.isGenerator = false
 nd : ps.Nodup
 par : ∀ x ∈ ps, sc.names.lookup x = some .local
 nocell : ∀ y ∈ sc.names, y.2 ≠ .cell
 free : ∀ y ∈ sc.names, y.2 = .free → y.1 = ("__class__" : Str)
 cls : sc.names.lookup ("__class__" : Str) = some .free
 sup : sc.names.lookup ("super" : Str) = some .globalImplicit
theorem zip_fst : ∀ (ps : List Str) (us : List Value), ((ps.zip us).map (·.1)).Sublist ps
 | [], _ => by simp
 | _ :: _, [] => by simp
 | p :: ps, u :: us => by simpa using zip_fst ps us
theorem zip_lookup : ∀ {ps : List Str} {us : List Value} {i : Nat} {x : Str} {u : Value}, ps.Nodup → ps[i]? = some x → us[i]? = some u → (ps.zip us).reverse.lookup x = some u := by
 intro ps us i x u nd hp hu
 have mem : (x, u) ∈ (ps.zip us).reverse := by
   rw [List.mem_reverse]
   refine List.mem_of_getElem? (i := i) ?_
   rw [List.getElem?_zip_eq_some]
   exact ⟨hp, hu⟩
 have ndk : ((ps.zip us).reverse.map (·.1)).Nodup := by
   rw [List.map_reverse]
   unfold List.Nodup
   rw [List.pairwise_reverse]
   exact (nd.sublist (zip_fst ps us)).imp fun h => Ne.symm h
 generalize (ps.zip us).reverse = l at mem ndk
 induction l with
 | nil => cases mem
 | cons q l ih =>
   obtain ⟨y, v⟩ := q
   rw [List.lookup_cons]
   simp only [List.map_cons, List.nodup_cons] at ndk
   by_cases h : x = y
   · subst h
     rcases List.mem_cons.mp mem with e | e
     · cases e; simp
     · exact absurd (List.mem_map.mpr ⟨_, e, rfl⟩) ndk.1
   · have h2 : (x == y) = false := by simpa using h
     rw [h2]
     rcases List.mem_cons.mp mem with e | e
     · cases e; exact absurd rfl h
     · exact ih e ndk.2
theorem inv_startS {CX : CXT} {P : Program} {w : World} {K : PySem.W.Frag} {mg : Str → Option Value} {base : Heap} {ps : List Str} {qual : Str} {scope : Scope} {f cc D : Addr} {cd : Value} {A : Around} {outer : List Env} {s : Shared} {H : Hp} {E : XK} {us : List Value} {vs : List V} {h1 : Heap} {tk : Nat} {cl : Value} {cld : Option Addr} {csl : Array (Option Value)}
   (S : SupScope ps scope) (hd : A.handled = none) (e0 : Env0 P w K mg base A outer s H) (hl : vs.length = ps.length) (r : Vals vs us) (hcell : K.lookup cc = some ⟨cl, cld, .cell (some (.ref D)), csl⟩)
   (hns : h1.Ns s.heap.objs.size (fun x => (ps.zip us).reverse.lookup x)) (hk : ∀ b o, s.heap.get? b = some o → h1.get? b = some o) :
   Inv (cxS CX P w K mg base ps qual scope f cd cc A outer s H E) [] (L2.start ps vs) H { s with heap := h1, toks := tk } := by
 have noA : ∀ b : Addr, b ∉ (cxS CX P w K mg base ps qual scope f cd cc A outer s H E).ex := fun b z => absurd (show b ∈ ([] : List Addr) from z) (by simp)
 have lk : ∀ y c, [(("__class__" : Str), cc)].lookup y = some c → y = "__class__" ∧ c = cc := fun y c h => by
   rw [List.lookup_cons] at h
   split at h
   · rename_i e; cases h; exact ⟨by simpa using e, rfl⟩
   · cases h
 have hb : base.get? cc = some ⟨cl, cld, .cell (some (.ref D)), csl⟩ := e0.mod.kin _ _ hcell
 refine ⟨⟨e0.mod, S.kind, rfl, rfl, Nat.le_refl _, fun y z c h1 h2 => ?_, fun y hy => ?_, fun y c hf h => ?_, fun _ => hd, Around.frames_deeper e0.frames, .inr ⟨rfl, rfl⟩, fun b z => absurd z (noA b), e0.bs, e0.bsz, fun b _ _ => noA b, fun b z => absurd z (noA b), e0.funs, e0.frf⟩,
   rfl, e0.bare, Un.kept hk, ⟨_, hns, fun i y v h1 h2 h3 => ?_⟩, fun y c h => ?_, e0.hok.fresh (Nat.le_refl _), fun y c h => ?_, fun p hp => absurd (show p ∈ ([] : List (Addr × Obj)) from hp) (by simp), e0.hok.kept hk, ?_⟩
 · rw [(lk y c h1).1, (lk z c h2).1]
 · have hy : scope.names.lookup y = some .cell ∨ scope.names.lookup y = some .free := hy
   rcases hy with hy | hy
   · exact absurd rfl (S.nocell _ (PySem.mem_of_lookup hy))
   · have e := S.free _ (PySem.mem_of_lookup hy) rfl
     simp only at e
     subst e
     exact ⟨cc, by show [(("__class__" : Str), cc)].lookup _ = _; simp⟩
 · have e := (lk y c h).1
   subst e
   exact absurd (show (!(("__class__" : Str) == ("__class__" : Str))) = true from hf) (by simp)
 · have hi : i < vs.length := by
     unfold L2.start at h2
     by_cases hi : i < vs.length
     · exact hi
     · rw [List.getElem?_append_right (by simpa using hi)] at h2
       rw [List.getElem?_replicate] at h2
       split at h2 <;> cases h2
   have ha : vs[i]? = some v := by
     unfold L2.start at h2
     rw [List.getElem?_append_left (by simpa using hi), List.getElem?_map] at h2
     cases e : vs[i]? with
     | none => rw [e] at h2; cases h2
     | some a => rw [e] at h2; cases h2; rfl
   obtain ⟨u, hu, rv⟩ := r.get ha
   exact ⟨u, rv, .inl ⟨S.par y (List.mem_of_getElem? h1), zip_lookup S.nd h1 hu⟩⟩
 · obtain ⟨rfl, rfl⟩ := lk y c h
   exact ⟨_, _, hk _ _ (e0.bs _ _ hb).1, rfl⟩
 · obtain ⟨rfl, rfl⟩ := lk y c h
   exact (e0.bs _ _ hb).2
 · unfold L2.start
   show _ = ps.length
   rw [List.length_append, List.length_map, List.length_replicate]
   omega
structure SupD (P : Program) (K : PySem.W.Frag) (name qual : Str) (params : Arguments) (body : List Stmt) (scope : Scope) (dvs : List V) (C f2 f : Addr) (fd : FuncData) : Prop where
 ex : ∃ (oc : Value) (od : Option Addr) (dV kV doc pm : Value) (an : Option Addr) (cda : Addr) (ct : Value) (osl : Array (Option Value)) (cc : Addr) (cl : Value) (cld : Option Addr) (csl : Array (Option Value)) (ccl : Value) (cdd : Option Addr) (vs : Array Value) (ccs : Array (Option Value)) (file : Str) (tf : Tok),
   fd = ksFn name qual params body scope dV kV doc pm an (.ref cda) ct cc ∧ K.lookup f = some ⟨oc, od, .func fd, osl⟩ ∧ PySem.W.codeIn K (.ref cda) qual = true ∧ K.lookup cc = some ⟨cl, cld, .cell (some (.ref C)), csl⟩ ∧
   K.lookup cda = some ⟨ccl, cdd, .fields vs, ccs⟩ ∧ vs[2]? = some (.str file tf) ∧ ((P.main.file : Str) == file) = true ∧ DflV K dV dvs
 cls : ∃ cd, PySem.W.clsIn K C = some cd
 sub : PySem.W.mroIn K C (.ref C) = some true
 sn : PySem.W.nsIn K mainGlobals "super" = some none
 op : PySem.W.nsIn K cStatics "thirdparty.any" = some none
 si : PySem.W.ks_superIn K C C "__init__" = some (some (.ref f2))
 ty : PySem.W.typeIn K (.ref f2) = some (.type "function")
 fi : PySem.W.fnIn K f2 = true
 kp : PySem.W.keepIn K (.ref f) = true
theorem SupD.ok {P : Program} {w : World} {K : PySem.W.Frag} {mg : Str → Option Value} {base : Heap} {name qual : Str} {params : Arguments} {scope : Scope} {dvs : List V} {C f2 f : Addr} {fd fd2 : FuncData} {ps ps2 qs : List Str} {ar : Arg} {k : Nat} {sp2 : Sp} {p0 p1 apos cpos epos : Pos} {e : Expr} {es : List Expr} {t : TA} {pl : Sem Bool}
   (Sd : SupD P K name qual params [.Expr (.Call (.Attribute (.Call (.Name "super" p0) [] [] p1) "__init__" apos) (e :: es) [] cpos) epos] scope dvs C f2 f fd) (S : SupScope ps scope) (hpar : (params.posonlyargs ++ params.args).head? = some ar) (har : ps = ar.arg :: qs)
   (htop : (P.main.scope.names.lookup ("super" : Str)).isSome = false) (hmg : mg ("super" : Str) = none) (F2 : FnOk P w K mg base (L2.CX P w) k f2 fd2 ps2 sp2) (B2 : Binds K fd2 ps2 [])
   (ha : ∀ (cd : Value) (cc : Addr) (A : Around) (outer : List Env) (s : Shared) (H : Hp) (E : XK), PA (cxS (L2.CX P w) P w K mg base ps qual scope f cd cc A outer s H E) (e :: es) t)
   (ht : ∀ (v : V) (ws : List V) (H : Hp) (Q : List V → Hp → Prop), (v :: ws).length = ps.length → Q ws H → t (L2.start ps (v :: ws)) H Q)
   (he : ∀ env : Env, starEach (e :: es) env = (false, eval e env) :: starEach es env) (hpl : ∀ env : Env, (backTo cpos (starEach es env)).any (·.1) = false)
   (hev : ∀ env : Env, eval (.Call (.Attribute (.Call (.Name "super" p0) [] [] p1) "__init__" apos) (e :: es) [] cpos) env = (do
     let ov ← attributeBase (.Call (.Name "super" p0) [] [] p1) "__init__" env (eval (.Call (.Name "super" p0) [] [] p1) env)
     standAt apos.atName
     let (f, first) ← holding [ov] (getMethod ov "__init__" pl)
     callWith cpos f first (backTo cpos (starEach (e :: es) env)) []))
   (hsw : ∀ env : Env, swapsWith (.Call (.Attribute (.Call (.Name "super" p0) [] [] p1) "__init__" apos) (e :: es) [] cpos) none epos.line env = pure false) (hin : ∀ (L : Addr) (cd : Value) (cc : Addr), interactive (ksEnv qual scope L f cd cc) = false) :
   FnOk P w K mg base (L2.CX P w) (k + 1) f fd ps (fun vs H Q E => vs.length = ps.length ∧ (∃ x dx fs ws, vs = .ref x :: ws ∧ H x = some (.ins C dx fs)) ∧ sp2 vs H (fun _ H' => Q .non H') E) := by
 obtain ⟨oc, od, dV, kV, doc, pm, an, cda, ct, osl, cc, cl, cld, csl, ccl, cdd, vsc, ccs, file, tf, rfl, lk, hcd, hcell, hcode, hvs, hfile, _⟩ := Sd.ex
 refine ⟨fun vs H Q E h => h.1, fun A outer s H args us vs Q E hr e0 hb r hsp => ?_⟩
 obtain ⟨hl, ⟨x, dx, fs, ws, rfl, hx⟩, hsp⟩ := hsp
 have KX : K.In s.heap := e0.mod.kin.keeps fun b o e => (e0.bs b o e).1
 have lim : s.heap.NoLimit := e0.mod.nolimit.keeps fun b o e => (e0.bs b o e).1
 refine ks_codeAny_call_defAt hr.depth (KX _ _ lk) rfl lim (PySem.W.codeRec_of KX hcd) rfl hb S.nocell (fun y hy => S.par _ (List.of_mem_zip hy).1) (fun h₀ hns hk => ?_) S.co S.gen S.kind
 have I := inv_startS (CX := L2.CX P w) (qual := qual) (f := f) (cd := .ref cda) (E := E) (tk := s.toks + (ps.zip us).length) S hr.hd e0 hl r hcell hns hk
 change _root_.PySem.wpAt (model P w) (A.deeper (ksEnv qual scope s.heap.objs.size f (.ref cda) cc)) (.func _ (ksEnv qual scope s.heap.objs.size f (.ref cda) cc)) (execs _ (ksEnv qual scope s.heap.objs.size f (.ref cda) cc)) _ _ _
 have tk : Takes (cxS (L2.CX P w) P w K mg base ps qual scope f (.ref cda) cc A outer s H E) (Wd E) := takes_of rfl rfl rfl rfl
 obtain ⟨cdD, hD⟩ := Sd.cls
 obtain ⟨u0, us', rfl, ru, rus⟩ : ∃ u0 us', us = u0 :: us' ∧ RelV (.ref x) u0 ∧ Vals ws us' := by
   cases r with
   | cons a b => exact ⟨_, _, rfl, a, b⟩
 obtain rfl : u0 = .ref x := ru
 have hself : (ps.zip (Value.ref x :: us')).reverse.lookup ar.arg = some (.ref x) := zip_lookup (i := 0) S.nd (by rw [har]; rfl) rfl
 have hr2 : Room k (A.deeper (ksEnv qual scope s.heap.objs.size f (.ref cda) cc)) := hr.deeper _
 have hev2 := hev (ksEnv qual scope s.heap.objs.size f (.ref cda) cc)
 have hsw2 := hsw (ksEnv qual scope s.heap.objs.size f (.ref cda) cc)
 refine ks_wpAt_execs_cons (ks_wpAt_Expr_any (ks_wpAt_MethodCall (pl := pl) ?_ hev2) (hin _ _ _) hsw2)
 obtain ⟨oD, hD1, hD2⟩ : ∃ oD, K.lookup C = some oD ∧ oD.data = .cls cdD := by
   unfold PySem.W.clsIn at hD
   split at hD
   · rename_i c d cd' sl ho
     cases hD
     exact ⟨_, ho, rfl⟩
   · cases hD
 obtain ⟨mA, O, _⟩ := ins_get I.hok hx
 obtain ⟨odx, J, _⟩ := O.look
 obtain ⟨mb, b1, b2⟩ := I.mod.blt
 refine ks_wpAt_super_base (env := ksEnv qual scope s.heap.objs.size f (.ref cda) cc) S.sup S.cls (by decide) rfl (I.kIn _ _ lk) rfl hpar rfl (I.kIn _ _ hcode) rfl hvs hfile htop ?_
 refine PySem.W.ks_loadName_global S.kind S.sup (Calls.loadGlobal_builtin (env := ksEnv qual scope s.heap.objs.size f (.ref cda) cc) (I.mod.glob.keeps I.bk) hmg (b1.keeps I.bk) ((b2 _ (by decide +kernel)).trans (by first | rfl | kernel_rfl)) ⟨rfl, ?_⟩)
 refine wpAny_loadName_free S.kind S.cls (c := cc) (by show [(("__class__" : Str), cc)].lookup _ = _; simp) ⟨_, I.kIn _ _ hcell, rfl⟩ ?_
 refine wpAny_loadName_local S.kind (S.par _ (by rw [har]; simp)) hns hself ?_
 refine ks_wpAny_isType_cls (I.kIn _ _ hD1) hD2 ⟨rfl, ?_⟩
 refine ks_wpAny_call_super (I.kIn _ _ hD1) hD2 J.at_ J.cls (fun c e => ?_) (PySem.W.looks_mroIn I.kIn Sd.sub) (fun h' e kp => ?_)
 · have := J.no
   unfold PySem.W.notCls at this
   rw [e] at this
   exact Bool.noConfusion this
 have I2 := ClX.pin_new (t' := s.toks + (ps.zip (Value.ref x :: us')).length) I kp (Nat.le_refl _) e (fun v z => nomatch z)
 have X2 : K.In h' := I2.kIn
 have hxC : x ≠ C := PySem.W.ks_ne I.kIn J hD
 obtain ⟨of, hof, hofc⟩ : ∃ of, K.lookup f2 = some of ∧ of.cls = .type "function" := by
   have ht' : (K.lookup f2).map (·.cls) = some (.type "function") := Sd.ty
   cases z : K.lookup f2 with
   | none => rw [z] at ht'; cases ht'
   | some of => rw [z] at ht'; exact ⟨of, rfl, Option.some.inj ht'⟩
 have hm := Sd.si
 unfold PySem.W.ks_superIn at hm
 rw [hD] at hm
 refine ks_wpAny_getMethod_super (so := h₀.objs.size) (D := C) (x := x) (C := C) (l₀ := cdD.mro) e (PySem.W.looks_opaque X2 Sd.op) ?_ rfl X2 hm (X2 _ _ hof) hofc hxC (by decide) ?_
 · exact fun A Q E s k q => wpAny_bind ((PySem.W.looks_clsIn X2 hD) A _ E s k (wpAny_pure q))
 have I3 := ClX.met_new (g := f2) (C := x) I2
 refine ClX.callwith_cm I3 (ClX.base_none I2 (Nat.le_refl _)) Sd.fi (thn ((ha _ _ _ _ _ _ _).run cpos _ _ _ _ (fun vs' H2 => vs' = ws ∧ H2 = H) I3 (ht _ _ _ _ hl ⟨rfl, rfl⟩)) fun us2 s3 ⟨vs', H2, I4, rv, q1, q2⟩ => ⟨⟨ClX.pin_at I4, I4.kIn⟩, ?_⟩) (he _) (hpl _)
 subst q1 q2
 have FR : FnR P w K mg base (L2.CX P w) k f2 sp2 := (FnOk.raw F2 B2 .nil).imp fun vs H Q E h => by rw [List.append_nil]; exact h
 refine thn (ClX.run_cm (X := cxS (L2.CX P w) P w K mg base ps qual scope f (.ref cda) cc A outer s H2 E) FR hr2 (passW tk (wi_d E)) I4 rv hsp) fun u s4 ⟨v, H4, I5, rv4, q4⟩ => ?_
 exact wpAt_of_wpAny (wpAny_execs_nil ⟨.non, H4, I5.os, I5.bare, I5.base, I5.hok, rfl, q4⟩)
end Pu
namespace Pu
open PySem PySem.Spec L2
open PyProof.Rows hiding St
noncomputable def fLtD : F2 := fun x y S => match x, y with
 | .v a, .v b => match pyOf a, pyOf b with
   | some p, some q => if (isDat a = true ∧ isDat b = true) ∧ PySem.W.alike p q = true ∧ a ≠ .non then some (.v (.bl (PySem.W.dataLt p q)), S) else none
   | _, _ => none
 | _, _ => none
section
variable {X : Cx} {cl : Nat → Addr} {W : WX}
theorem oq_ltD (hu : X.A.units + 64 < cLine) : OpR X (compareOp .Lt) (liftOp (bx X cl) fLtD) := by
 intro pins s σ H x y v u Q I rx ry ⟨ι, F, S, a, b, rl, za, zb, fi⟩
 unfold fLtD at fi
 split at fi
 · rename_i a b
   cases q1 : pyOf a with
   | none => rw [q1] at fi; exact fi.no
   | some p =>
     cases q2 : pyOf b with
     | none => rw [q1, q2] at fi; exact fi.no
     | some r =>
       rw [q1, q2] at fi
       simp only at fi
       split at fi
       · rename_i hc
         obtain ⟨⟨h1, h2⟩, h3, h4⟩ := hc
         cases za with
         | v za =>
           cases zb with
           | v zb =>
             obtain ⟨p', e1, d1⟩ := py_of h1
             obtain ⟨r', e2, d2⟩ := py_of h2
             rw [q1] at e1; cases e1
             rw [q2] at e2; cases e2
             obtain ⟨as, r1⟩ := Dp.reads I p x v (rep_dp za q1).1 rx
             obtain ⟨bs, r2⟩ := Dp.reads I r y u (rep_dp zb q2).1 ry
             refine PySem.W.lt_data r1 r2 h3 (fun z => h4 ?_) (by omega) ⟨.bl _, H, I, rfl, fi.val rl (.v (.bl _))⟩
             subst z
             cases a <;> simp [pyOf] at q1 <;> rfl
       · exact fi.no
 · exact fi.no
def allB : List U → Option (List Bool)
 | [] => some []
 | .v (.bl b) :: us => (allB us).map (b :: ·)
 | _ :: _ => none
def fAll : FA := fun us S => match us with
 | [u] => match asList S u with
   | some xs => (allB xs).map fun bs => (.v (.bl (bs.all id)), S)
   | none => none
 | _ => none
def fAny : FA := fun us S => match us with
 | [u] => match asList S u with
   | some xs => (allB xs).map fun bs => (.v (.bl (bs.any id)), S)
   | none => none
 | _ => none
theorem allB_ok {B : Bx} {ι : List Addr} {F : Addr → Prop} {H : Hp} : ∀ {us : List U} {bs : List Bool} {vs : List V}, RepUs B ι F H vs us → allB us = some bs → vs = bs.map V.bl
 | _, bs, _, .nil, e => by simp [allB] at e; subst e; rfl
 | _, bs, _, .cons (b := u) (l₂ := us) z zs, e => by
   unfold allB at e
   split at e
   · rename_i he; cases he
   · rename_i x us' he
     cases he
     obtain ⟨ys', e1, rfl⟩ := Option.map_eq_some_iff.mp e
     have h1 := allB_ok zs e1
     cases z with
     | v z => cases z; rw [h1]; rfl
   · cases e
theorem vals_bl : ∀ {bs : List Bool} {us : List Value}, Vals (bs.map V.bl) us → us = bs.map Value.bool
 | [], _, .nil => rfl
 | b :: bs, _, .cons h t => by rw [show _ = Value.bool b from h, vals_bl t]; rfl
theorem reads_bl (h : Heap) : ∀ bs : List Bool, ReadsAll h (bs.map Value.bool) (bs.map PyData.bool) []
 | [] => .nil
 | b :: bs => .cons (.bool b) (reads_bl h bs)
theorem plain_bl : ∀ bs : List Bool, PyData.plainAll (bs.map PyData.bool) = true
 | [] => rfl
 | b :: bs => by
   show (PyData.plain (.bool b) && PyData.plainAll (bs.map PyData.bool)) = true
   rw [plain_bl bs]; rfl
theorem cq_all (hcalm : X.calm = true) : CallR X (.builtin "all") (liftC (bx X cl) fAll) := by
 intro pins s σ H xs us Q I rv ⟨ι, F, S, as, rl, zs, fi⟩
 unfold fAll at fi
 split at fi
 · rename_i u
   cases q : asList S u with
   | none => rw [q] at fi; exact fi.no
   | some ys =>
     rw [q] at fi
     simp only at fi
     cases qb : allB ys with
     | none => rw [qb] at fi; exact fi.no
     | some bs =>
       rw [qb] at fi
       cases zs with
       | cons z1 z2 =>
         cases z2
         obtain ⟨p, vs, rfl, hp, zz⟩ := asList_ok rl z1 q
         have e := allB_ok zz qb
         subst e
         cases rv with
         | cons r1 r2 =>
           cases r2
           obtain rfl : _ = Value.ref p := r1
           obtain ⟨its, ri, hpl, _⟩ := I.list hp
           rw [vals_bl ri] at hpl
           refine PySem.W.all_list_data (I.ok.hd hcalm) (by obtain ⟨o, n, h1, h2, h3, h4⟩ := hpl; exact ⟨o, h1, h2, n, h4⟩) (by simpa using reads_bl s.heap bs) (plain_bl bs) (fun x hx => by obtain ⟨b, _, rfl⟩ := List.mem_map.mp hx; trivial) fun h' tk hk => ?_
           have e2 : (bs.map PyData.bool).all PyData.truthy = bs.all id := by
             rw [List.all_map]; congr 1
           rw [e2]
           exact ⟨.bl _, H, I.kept (t' := tk) hk, rfl, fi.val rl (.v (.bl _))⟩
 · exact fi.no
def fInsert : FM := fun x us S => match x, us with
 | .r n, [.v (.int i), u] => match S[n]? with
   | some (.lst xs) => if xs.length < 100000 ∧ 0 ≤ i ∧ i < 1000000 then some (.v .non, S.set n (.lst (xs.take i.toNat ++ [u] ++ xs.drop i.toNat))) else none
   | _ => none
 | _, _ => none
theorem mq_insert : MtR X "list.insert" (liftM (bx X cl) fInsert) := by
 intro pins s σ H x xs v us Q I rx rxs ⟨ι, F, S, a, as, rl, za, zs, fi⟩
 unfold fInsert at fi
 split at fi
 · rename_i n i u
   cases q : S[n]? with
   | none => rw [q] at fi; exact fi.no
   | some c =>
     rw [q] at fi
     cases c with
     | lst ys =>
       simp only at fi
       split at fi
       · rename_i hc
         cases za with
         | @r _ a h =>
           cases zs with
           | cons z1 z2 =>
             cases z2 with
             | cons z2 z3 =>
               cases z3
               cases z1 with
               | v z1 =>
                 cases z1
                 obtain ⟨vs, ha, zz⟩ := rl.ok n a _ h q
                 obtain ⟨r2, e2⟩ := rl.setL h q ha (paired_append (paired_append (paired_take i.toNat zz) (.cons z2 .nil)) (paired_drop i.toNat zz))
                 exact mt_insert pins s σ H _ _ v us Q I rx rxs ⟨a, vs, i, _, rfl, rfl, ha, szl (by rw [paired_len zz]; exact hc.1), hc.2.1, by omega, fi.go e2 r2 (.v .non)⟩
       · exact fi.no
     | _ => exact fi.no
 · exact fi.no
end
def noX (r : R U) : R U := match r with
 | .ok a S => .ok a S
 | _ => .er
def eProp (cs : List Nat) (mf : List U → Sto → R U) (mo : ME) : ME := fun ρ S => (mo ρ S).bind fun x S1 => match asIns S1 x with
 | some (c', _) => if c' ∈ cs then noX (mf [x] S1) else .er
 | none => .er
section
variable {X : Cx} {cl : Nat → Addr} {W : WX} {k : Nat} {fd : FuncData} {ps : List Str} {mf : List U → Sto → R U} {e : Expr} {mo : ME} {f : Str} {g : Addr} {pos : Pos} {cs : List Nat}
theorem qe_prop (he : QE X cl W e mo) (hc : ∀ c ∈ cs, Cls X.K (cl c) ∧ ∃ p, PropOf X.K (cl c) f p g) (Fn : FnOk X.prog X.w X.K X.mg X.base (L2.CX X.prog X.w) k g fd ps (SpM (bx X cl) 1 mf)) (hr : Room (k + 1) X.A) (hb : Binds X.K fd ps [])
   (hab : attributeBase e f X.env (eval e X.env) = eval e X.env := by rfl) : QE X cl W (.Attribute e f pos) (eProp cs mf mo) := by
 refine ⟨fun pins s σ H Q I h => ?_⟩
 obtain ⟨ι, F, S, ρ, r, en, o⟩ := h
 refine attr_of hab (thn (he.run pins s σ H _ I ⟨ι, F, S, ρ, r, en, o.bind⟩) fun u s1 ⟨x, H1, I1, rx, ι1, F1, S1, x', e1, r1, z1, o1⟩ => ?_)
 cases q : asIns S1 x' with
 | none => rw [q] at o1; exact o1.elim
 | some pr =>
   obtain ⟨c', fs⟩ := pr
   rw [q] at o1
   simp only at o1
   split at o1
   · rename_i hcc
     obtain ⟨a, dx, vs, rfl, hx, zf⟩ := asIns_ok r1 z1 q
     obtain rfl : u = Value.ref a := rx
     obtain ⟨c1, p, hp⟩ := hc c' hcc
     have hx0 : Passes (L2.CX X.prog X.w) X.nox (fun _ _ _ => False) := fun pins σ H s e s' I c => by
       obtain ⟨_, _, _, _, _, _, _, _, _, _, _, _, h⟩ := c
       exact h.elim
     refine getprop_ok I1 hx c1 hp Fn hr hb .nil hx0 ⟨rfl, ι1, F1, S1, [x'], r1, .cons z1 .nil, ?_⟩
     cases qr : mf [x'] S1 with
     | ok a' S2 => rw [qr] at o1; exact o1
     | ex c fs S2 => rw [qr] at o1; exact o1.elim
     | er => rw [qr] at o1; exact o1.elim
   · exact o1.elim
end
def supN (c : Nat) (mf : List U → Sto → R U) (us : List U) (S : Sto) : R U := match us with
 | x :: _ => match asIns S x with
   | some (c', _) => if c' = c then (mf us S).bind fun _ S1 => .ok (.v .non) S1 else .er
   | none => .er
 | [] => .er
theorem sup_sp {B : Bx} {n c : Nat} {mf : List U → Sto → R U} {vs : List V} {H : Hp} {Q : VK} {E : XK} (h : SpM B n (supN c mf) vs H Q E) : vs.length = n ∧ (∃ x dx fs ws, vs = .ref x :: ws ∧ H x = some (.ins (B.cl c) dx fs)) ∧ SpM B n mf vs H (fun _ H' => Q .non H') E := by
 obtain ⟨hl, ι, F, S, us, r, z, o⟩ := h
 unfold supN at o
 cases z with
 | nil => exact o.elim
 | cons z1 z2 =>
   rename_i v u vs us
   simp only at o
   cases q : asIns S u with
   | none => rw [q] at o; exact o.elim
   | some pr =>
     obtain ⟨c', fs⟩ := pr
     rw [q] at o
     simp only at o
     split at o
     · rename_i hc
       subst hc
       obtain ⟨a, dx, fs', rfl, hx, zf⟩ := asIns_ok r z1 q
       refine ⟨hl, ⟨a, dx, fs', vs, rfl, hx⟩, hl, ι, F, S, u :: us, r, .cons z1 z2, ?_⟩
       cases qr : mf (u :: us) S with
       | ok a' S2 =>
         rw [qr] at o
         intro w ι' F' H' e' r' _
         exact o .non ι' F' H' e' r' (.v .non)
       | ex c fs S2 => rw [qr] at o; exact o
       | er => rw [qr] at o; exact o.elim
     · exact o.elim
end Pu
namespace Pu
open PySem PySem.Spec L2
open PyProof.Rows hiding St
section
variable {X : Cx} {cl : Nat → Addr} {W : WX} {k n : Nat} {f : Addr} {fd : FuncData} {ps : List Str} {mf : List U → Sto → R U} {pins : List (Addr × Obj)} {σ : L2.St} {H : Hp} {s : Shared} {Q : VK} {us : List Value} {vs : List V}
end
structure OwnM (K : PySem.W.Frag) (C : Addr) (m : Str) (f : Addr) : Prop where
 at_ : PySem.W.findIn K (.ref C) m = some (some (.ref f))
 fn : PySem.W.isFn K (.ref f) = true
 fi : PySem.W.fnIn K f = true
 ns : PySem.W.noSeq K C = true
def eIxO (cs : List Nat) (mf : List U → Sto → R U) (mo mi : ME) : ME := fun ρ S => (mo ρ S).bind fun x S1 => (mi ρ S1).bind fun i S2 => match asIns S2 x with
 | some (c', _) => if c' ∈ cs then mf [x, i] S2 else .er
 | none => .er
section
variable {X : Cx} {cl : Nat → Addr} {W : WX} {k : Nat} {f : Addr} {fd : FuncData} {ps : List Str} {mf : List U → Sto → R U} {o i value : Expr} {mo mi mv : ME} {cs : List Nat} {pos pos' : Pos}
def sSetO (cs : List Nat) (mf : List U → Sto → R U) (mo mi mv : ME) : MS := fun ρ S => (mv ρ S).st ρ fun v S1 => (mo ρ S1).st ρ fun x S2 => (mi ρ S2).st ρ fun i S3 => match asIns S3 x with
 | some (c', _) => if c' ∈ cs then (mf [x, i, v] S3).st ρ fun _ S4 => .nx ρ S4 else .er
 | none => .er
def tOwn (cs : List Nat) (mf : List U → Sto → R U) (mo : ME) : MT := fun ρ S => (mo ρ S).bind fun x S1 => match asIns S1 x with
 | some (c', _) => if c' ∈ cs then (mf [x] S1).bind fun u S2 => ofO (isB u S2) else .er
 | none => .er
end
end Pu
namespace Pu
open PySem PySem.Spec L2
open PyProof.Rows hiding St
def TtO (t it : Addr) : HO := .ext fun h => h.IsTupleIter it t 0
def rIterT (K : PySem.W.Frag) (n : Nat) : List V → Hp → VK → Prop := fun xs H Q => ∃ (t : Addr) (zs : List V), xs = [.ref t] ∧ SqT K H t zs ∧ ∀ it, H it = none → n ≤ it → Q (.ref it) (upd H it (TtO t it))
section
variable {P : Program} {w : World} {K : PySem.W.Frag} {mg : Str → Option Value} {base : Heap} {x qual : Str} {params : Arguments} {body : List Stmt} {scope : Scope} {dvs : List V} {kws : List (Str × V)} {f : Addr} {fd : FuncData} {N ps : List Str} {k : Nat} {CX : CXT}
end
def iOwn (cs : List Nat) (fld : Str) (mo : ME) : MI := fun ρ S => (mo ρ S).bind fun x S1 => match asIns S1 x with
 | some (c', fs) => if c' ∈ cs then (match fs.lookup fld with
   | some (.v (.tup ds)) => .ok ⟨ds.map U.v, none⟩ S1
   | _ => .er) else .er
 | none => .er
section
variable {X : Cx} {cl : Nat → Addr} {W : WX} {tg o : Expr} {mo : ME} {cs : List Nat} {fld qual : Str} {params : Arguments} {scope : Scope} {f : Addr} {fd : FuncData} {p1 p2 p3 p4 p5 : Pos}
end
end Pu
namespace Pu
open PySem PySem.Spec L2
open PyProof.Rows hiding St
def encD (d : D) : PyData := (pyOf d).getD .none
noncomputable def sortD (ds : List D) : List D := ds.mergeSort (PySem.W.dataLe false encD)
def okSort (ds : List D) : Prop := (∀ d ∈ ds, isDat d = true) ∧ PySem.W.AllAlike (ds.map encD) ∧ PySem.W.Sortable (ds.map encD) ∧ ds.length ≤ 100000
noncomputable instance (ds : List D) : Decidable (okSort ds) := Classical.propDecidable _
noncomputable def fSorted : FA := fun us S => match us with
 | [u] => match asList S u with
   | some xs => match allV xs with
     | some ds => if okSort ds then some (.v (.lst (sortD ds)), S) else none
     | none => none
   | none => none
 | _ => none
section
variable {X : Cx} {cl : Nat → Addr} {W : WX}
theorem each_of {B : Bx} {F : Addr → Prop} {H : Hp} : ∀ {vs : List V} {ds : List D} {us : List Value}, Reps B F H vs ds → Vals vs us → PySem.W.EachIs (fun u d => ∃ x : V, RelV x u ∧ Rep B F H x d) us ds
 | _, _, _, .nil, .nil => .nil
 | _, _, _, .cons a b, .cons c d => .cons ⟨_, c, a⟩ (each_of b d)
theorem of_each {B : Bx} {F : Addr → Prop} {H : Hp} : ∀ {us : List Value} {ds : List D}, PySem.W.EachIs (fun u d => ∃ x : V, RelV x u ∧ Rep B F H x d) us ds → ∃ xs : List V, Vals xs us ∧ Reps B F H xs ds
 | _, _, .nil => ⟨[], .nil, .nil⟩
 | _, _, .cons ⟨x, h1, h2⟩ t => by
   obtain ⟨xs, h3, h4⟩ := of_each t
   exact ⟨x :: xs, .cons h1 h3, .cons h2 h4⟩
theorem cq_sorted (hu : X.A.units + 64 < cLine) : CallR X (.builtin "sorted") (liftC (bx X cl) fSorted) := by
 intro pins s σ H xs us Q I rv ⟨ι, F, S, as, rl, zs, fi⟩
 unfold fSorted at fi
 split at fi
 · rename_i u
   cases q : asList S u with
   | none => rw [q] at fi; exact fi.no
   | some ys =>
     rw [q] at fi
     simp only at fi
     cases qv : allV ys with
     | none => rw [qv] at fi; exact fi.no
     | some ds =>
       rw [qv] at fi
       simp only at fi
       split at fi
       · rename_i hok
         obtain ⟨h1, h2, h3, h4⟩ := hok
         cases zs with
         | cons z1 z2 =>
           cases z2
           obtain ⟨p, vs, rfl, hp, zz⟩ := asList_ok rl z1 q
           rw [allV_some qv] at zz
           have rs := repus_reps zz
           cases rv with
           | cons r1 r2 =>
             cases r2
             obtain rfl : _ = Value.ref p := r1
             obtain ⟨its, ri, hpl, hz⟩ := I.list hp
             have hE := each_of rs ri
             have hen : ∀ d ∈ ds, ∃ k, pyOf d = some k ∧ encD d = k ∧ k.depth ≤ 20 := fun d hd => by
               obtain ⟨k, e1, e3⟩ := py_of (h1 d hd)
               exact ⟨k, e1, by simp [encD, e1], e3⟩
             have er : PySem.W.EachIs (fun v d => ∃ as, Reads s.heap v (encD d) as) its ds := (PySem.W.each_mem hE).mono fun v d z => by
               obtain ⟨⟨x, hx, zx⟩, hd⟩ := z
               obtain ⟨k, e1, e2, _⟩ := hen d hd
               rw [e2]
               exact Dp.reads I k x v (rep_dp zx e1).1 hx
             refine PySem.W.sorted_data (enc := encD) hpl.isList hE er h2 h3 (Nat.le_trans h4 (by decide)) (fun d hd => ?_) (fun out ho hO => ?_)
             · obtain ⟨k, _, e2, e3⟩ := hen d hd
               rw [e2]; omega
             · obtain ⟨xs, hx1, hx2⟩ := of_each hO
               have hfr : H (s.heap.objs.size + 1) = none := I.hok.fresh (Nat.le_succ _)
               refine ⟨.ref (s.heap.objs.size + 1), upd H (s.heap.objs.size + 1) (.lst xs), I.laid (t' := s.toks) (o := .lst xs) (fun b u e => sortedAll_old e) (Nat.le_succ _) ?_, rfl, fi.go (Evo.newF hfr) (rl.newF hfr) (.v (.lst (.inr rfl) upd_same (hx2.mono (ι := ι) (ι' := ι) (Evo.newF hfr))))⟩
               obtain ⟨c, hc⟩ := sortedAll_at s.heap its out.toArray
               refine ⟨by have := hx1.length; have := hE.length; have := ri.length; omega, out, c, hx1, hc⟩
       · exact fi.no
 · exact fi.no
structure OkTy (K : PySem.W.Frag) (C : Addr) : Prop where
 cl : Cls K C
 ha : PySem.W.findIn K (.ref C) "__class__" = some (some (.builtin "object.__class__"))
 hn : PySem.W.specialIn K (.builtin "object.__class__") "__get__" = some (some (.builtin "getset_descriptor.__get__"))
 tk : PySem.W.takesIn K (.builtin "object.__class__") = some true
 hm : PySem.W.mroIn K C (.type "object") = some true
def IsTab (K : PySem.W.Frag) (cl : Nat → Addr) (tab : Nat → Nat → Option Bool) : Prop := ∀ c' c b, tab c' c = some b → OkTy K (cl c') ∧ PySem.W.kitOne K (.ref (cl c')) (.ref (cl c)) = some b
def fIsX (tab : Nat → Nat → Option Bool) : FA := fun us S => match us with
 | [u, .v (.cls c)] => match asIns S u with
   | some (c', _) => (tab c' c).map fun b => (.v (.bl b), S)
   | none => none
 | us => fIsi us S
def chrs (z : Str) : List U := z.cps.toList.map fun c => .v (.str ⟨#[c]⟩)
def iChr (m : ME) : MI := fun ρ S => (m ρ S).bind fun u S1 => match u with
 | .v (.str z) => .ok ⟨chrs z, none⟩ S1
 | _ => .er
theorem walk_s {ι : List Addr} {F : Addr → Prop} {S : Sto} {H : Hp} {z : Str} (hz : PyData.strOk z = true) : Walk (bx X cl) (Its z) ⟨chrs z, none⟩ S ι F H := by
 intro i ι1 F1 S1 H1 e1 r1 so
 have hl : (chrs z).length = z.cps.size := by simp [chrs]
 refine ⟨fun hi => ⟨show i < z.cps.size by rw [← hl]; exact hi, fun x' H' hyld => ?_⟩, fun hi => show z.cps.size ≤ i by rw [← hl]; exact hi⟩
 obtain ⟨rfl, c, hc, rfl⟩ := hyld
 refine ⟨Evo.refl, r1, fun u' hu' => ?_⟩
 have hcl : z.cps.toList[i]? = some c := by simpa using hc
 have : u' = .v (.str ⟨#[c]⟩) := by
   have h2 : (chrs z)[i]? = some u' := hu'
   simp only [chrs, List.getElem?_map, hcl, Option.map_some, Option.some.injEq] at h2
   exact h2.symm
 subst this
 exact .v (.str _ (strOk_one hz (List.mem_of_getElem? hcl)))
theorem qi_chr {tg e : Expr} {m : ME} (h : QE X cl W e m) : QI X cl W tg e (iChr m) := by
 refine ⟨fun pins s σ H Rr I ⟨ι, F, S, ρ, r, en, o⟩ => ?_⟩
 unfold iChr at o
 cases q : m ρ S with
 | er => rw [q] at o; exact o.elim
 | ex c fs S1 => rw [q] at o; exact (pi_str h).run pins s σ H Rr I ⟨ι, F, S, ρ, r, en, by rw [q]; exact o⟩
 | ok u S1 =>
   rw [q] at o
   simp only [R.bind_ok] at o
   cases u with
   | r n => exact o.elim
   | v d =>
     cases d with
     | str z =>
       refine (pi_str h).run pins s σ H Rr I ⟨ι, F, S, ρ, r, en, ?_⟩
       rw [q]
       intro v ι1 F1 H1 e1 r1 z1
       cases z1 with
       | v z1 =>
         cases z1 with
         | str _ hz => exact ⟨z, rfl, o _ ι1 F1 H1 e1 r1 (walk_s hz)⟩
     | _ => exact o.elim
end
end Pu
namespace Pu
open PySem PySem.Spec L2
open PyProof.Rows hiding St
namespace Hx
abbrev FnY : Type := Option (Str × Str × Arguments × FuncBody × Scope × Addr × List Str × Addr)
structure DefX where
 ad : PySem.W.Frag → Addr
 name : Str
 qual : Str
 params : Arguments
 body : List Stmt
 scope : Scope
 dfl : List He.Dv := []
 clo : List Str := []
def DefX.obs (K : PySem.W.Frag) (d : DefX) : FnY := match K.lookup (d.ad K) with
 | some ⟨_, _, .func fd, _⟩ => some (fd.name, fd.qualname, fd.params, fd.body, fd.scope, fd.globals, fd.closure.map (·.1), fd.builtins)
 | _ => none
def DefX.val (d : DefX) : FnY := some (d.name, d.qual, d.params, .stmts d.body, d.scope, mainGlobals, d.clo, builtinsNs)
def DefX.dvs (K : PySem.W.Frag) (d : DefX) : List V := d.dfl.map (He.Dv.v K)
def DefX.ok (K : PySem.W.Frag) (d : DefX) : Bool := PySem.W.keepIn K (.ref (d.ad K)) && (match K.lookup (d.ad K) with
 | some ⟨_, _, .func fd, _⟩ => PySem.W.codeIn K fd.code d.qual && He.dflB K fd.defaults (d.dvs K)
 | _ => false)
theorem DefX.get {K : PySem.W.Frag} {d : DefX} (e : d.obs K = d.val) (c : d.ok K = true) : PySem.W.keepIn K (.ref (d.ad K)) = true ∧ ∃ oc od osl cl dV kV doc pm an cdv ct, cl.map (·.1) = d.clo ∧
   K.lookup (d.ad K) = some ⟨oc, od, .func (PySem.W.fnX d.name d.qual d.params d.body d.scope cl dV kV doc pm an cdv ct), osl⟩ ∧ PySem.W.codeIn K cdv d.qual = true ∧ DflV K dV (d.dvs K) := by
 obtain ⟨kp, c2⟩ := He.ba c
 unfold DefX.obs at e
 cases q : K.lookup (d.ad K) with
 | none => rw [q] at c2; cases c2
 | some o =>
   obtain ⟨oc, od, dt, osl⟩ := o
   rw [q] at c2 e
   cases dt with
   | func fd =>
     obtain ⟨n1, n2, n3, n4, n5, n6, n7, n8, n9, n10, n11, n12, n13, n14, n15⟩ := fd
     have e2 : (some (n1, n2, n3, n4, n5, n6, n7.map (·.1), n15) : FnY) = some (d.name, d.qual, d.params, .stmts d.body, d.scope, mainGlobals, d.clo, builtinsNs) := e
     simp only [Option.some.injEq, Prod.mk.injEq] at e2
     obtain ⟨h1, h2, h3, h4, h5, h6, h7, h8⟩ := e2
     subst h1 h2 h3 h4 h5 h6 h8
     obtain ⟨k1, k2⟩ := He.ba (show (PySem.W.codeIn K n13 d.qual && He.dflB K n8 (d.dvs K)) = true from c2)
     exact ⟨kp, oc, od, osl, n7, n8, n9, n10, n11, n12, n13, n14, h7, rfl, k1, He.dflB_ok k2⟩
   | _ => cases c2
theorem DefX.funD {K : PySem.W.Frag} {d : DefX} (e : d.obs K = d.val) (c : d.ok K = true) (hc : d.clo = []) : ∃ fd, FunD K d.name d.qual d.params d.body d.scope (d.dvs K) [] (d.ad K) fd := by
 obtain ⟨kp, oc, od, osl, cl, dV, kV, doc, pm, an, cdv, ct, h7, lk, k1, k2⟩ := DefX.get e c
 rw [hc] at h7
 obtain rfl : cl = [] := List.map_eq_nil_iff.mp h7
 exact ⟨_, ⟨oc, od, dV, kV, doc, pm, an, cdv, ct, osl, rfl, lk, k1, k2, .inl rfl⟩, kp⟩
def supB (P : Program) (K : PySem.W.Frag) (f C f2 : Addr) : Bool := (match K.lookup f with
 | some ⟨_, _, .func fd, _⟩ => (match fd.closure with
   | [(_, cc)] => (match K.lookup cc with
     | some ⟨_, _, .cell (some (.ref D)), _⟩ => decide (D = C)
     | _ => false)
   | _ => false) && (match fd.code with
   | .ref cda => (match K.lookup cda with
     | some ⟨_, _, .fields vs, _⟩ => (match (vs[2]? : Option Value) with
       | some (.str file _) => ((P.main.file : Str) == file)
       | _ => false)
     | _ => false)
   | _ => false)
 | _ => false) && ((PySem.W.clsIn K C).isSome && (decide (PySem.W.mroIn K C (.ref C) = some true) && (He.eqO (PySem.W.nsIn K mainGlobals "super") (some none) && (He.eqO (PySem.W.nsIn K cStatics "thirdparty.any") (some none) &&
   (He.eqO (PySem.W.ks_superIn K C C "__init__") (some (some (.ref f2))) && (decide (PySem.W.typeIn K (.ref f2) = some (.type "function")) && PySem.W.fnIn K f2))))))
theorem DefX.supD {P : Program} {K : PySem.W.Frag} {d : DefX} {C f2 : Addr} (e : d.obs K = d.val) (c : d.ok K = true) (hc : d.clo = [("__class__" : Str)]) (b : supB P K (d.ad K) C f2 = true) : ∃ fd, SupD P K d.name d.qual d.params d.body d.scope (d.dvs K) C f2 (d.ad K) fd := by
 obtain ⟨kp, oc, od, osl, cl, dV, kV, doc, pm, an, cdv, ct, h7, lk, k1, k2⟩ := DefX.get e c
 rw [hc] at h7
 obtain ⟨⟨nm, cc⟩, rfl⟩ : ∃ p, cl = [p] := by
   cases cl with
   | nil => simp at h7
   | cons p r => cases r with
     | nil => exact ⟨p, rfl⟩
     | cons _ _ => simp at h7
 obtain rfl : nm = ("__class__" : Str) := by simpa using h7
 unfold supB at b
 rw [lk] at b
 obtain ⟨b1, b⟩ := He.ba b
 obtain ⟨b2, b⟩ := He.ba b
 obtain ⟨b3, b⟩ := He.ba b
 obtain ⟨b4, b⟩ := He.ba b
 obtain ⟨b5, b⟩ := He.ba b
 obtain ⟨b6, b⟩ := He.ba b
 obtain ⟨b7, b8⟩ := He.ba b
 obtain ⟨a1, a2⟩ := He.ba b1
 have a1' : (match K.lookup cc with
     | some ⟨_, _, .cell (some (.ref D)), _⟩ => decide (D = C)
     | _ => false) = true := a1
 split at a1'
 · rename_i cl cld D csl hcc
   obtain rfl : D = C := of_decide_eq_true a1'
   cases cdv with
   | ref cda =>
     have a2' : (match K.lookup cda with
       | some ⟨_, _, .fields vs, _⟩ => (match (vs[2]? : Option Value) with
         | some (.str file _) => ((P.main.file : Str) == file)
         | _ => false)
       | _ => false) = true := a2
     split at a2'
     · rename_i ccl cdd vs ccs hcode
       split at a2'
       · rename_i file tf hvs
         exact ⟨_, ⟨oc, od, dV, kV, doc, pm, an, cda, ct, osl, cc, cl, cld, csl, ccl, cdd, vs, ccs, file, tf, rfl, lk, k1, hcc, hcode, hvs, a2', k2⟩, Option.isSome_iff_exists.mp b2, of_decide_eq_true b3, He.eqO_ok b4, He.eqO_ok b5, He.eqO_ok b6, of_decide_eq_true b7, b8, kp⟩
       · cases a2'
     · cases a2'
   | _ => cases (show false = true from a2)
 · cases a1'
def gp (K : PySem.W.Frag) (B f : Str) : Addr := match PySem.W.recIn K (He.ma K (He.ga K B) f) "property" with
 | some (.ref g :: _) => g
 | _ => 0
inductive Fx where
 | own (C B m : Str)
 | prop (C B f : Str)
 | okty (C : Str)
 | isi (C D : Str) (b : Bool)
 | sup (C B : Str)
 | gen (b : Program → PySem.W.Frag → Bool)
def Fx.ok (P : Program) (K : PySem.W.Frag) : Fx → Bool
 | .own C B m => He.eqO (PySem.W.findIn K (.ref (He.ga K C)) m) (some (some (.ref (He.ma K (He.ga K B) m)))) && (PySem.W.isFn K (.ref (He.ma K (He.ga K B) m)) && (PySem.W.fnIn K (He.ma K (He.ga K B) m) && PySem.W.noSeq K (He.ga K C)))
 | .prop C B f => He.eqO (PySem.W.findIn K (.ref (He.ga K C)) f) (some (some (.ref (He.ma K (He.ga K B) f)))) && (He.eqO (PySem.W.specialIn K (.ref (He.ma K (He.ga K B) f)) "__get__") (some (some (.builtin "property.__get__"))) &&
     (decide (PySem.W.takesIn K (.ref (He.ma K (He.ga K B) f)) = some true) && (match PySem.W.recIn K (He.ma K (He.ga K B) f) "property" with
       | some (.ref _ :: _) => true
       | _ => false)))
 | .okty C => He.eqO (PySem.W.findIn K (.ref (He.ga K C)) "__class__") (some (some (.builtin "object.__class__"))) && (He.eqO (PySem.W.specialIn K (.builtin "object.__class__") "__get__") (some (some (.builtin "getset_descriptor.__get__"))) &&
     (decide (PySem.W.takesIn K (.builtin "object.__class__") = some true) && decide (PySem.W.mroIn K (He.ga K C) (.type "object") = some true)))
 | .isi C D b => decide (PySem.W.kitOne K (.ref (He.ga K C)) (.ref (He.ga K D)) = some b)
 | .sup C B => supB P K (He.ma K (He.ga K C) "__init__") (He.ga K C) (He.ma K (He.ga K B) "__init__")
 | .gen b => b P K
section
variable {P : Program} {K : PySem.W.Frag}
theorem prop_ok {C B f : Str} (h : (Fx.prop C B f).ok P K = true) : PropOf K (He.ga K C) f (He.ma K (He.ga K B) f) (gp K B f) := by
 obtain ⟨h1, h⟩ := He.ba h
 obtain ⟨h2, h⟩ := He.ba h
 obtain ⟨h3, h4⟩ := He.ba h
 refine ⟨He.eqO_ok h1, He.eqO_ok h2, of_decide_eq_true h3, ?_⟩
 unfold gp
 split at h4
 · rename_i g r e
   exact ⟨r, by rw [e]⟩
 · cases h4
end
abbrev AlX : Type := He.AlD × Bool × List FnY
def obsX (P : Program) (fa : List He.Fa) (fn : List He.DefD) (fx : List Fx) (dx : List DefX) (K : PySem.W.Frag) : AlX := (He.obsD fa fn K, (fx.all fun f => f.ok P K) && dx.all fun d => d.ok K, dx.map fun d => d.obs K)
def valX (fn : List He.DefD) (dx : List DefX) : AlX := (He.valD fn, true, dx.map DefX.val)
def SaysX (P : Program) (fa : List He.Fa) (fn : List He.DefD) (fx : List Fx) (dx : List DefX) (K : PySem.W.Frag) : Prop := obsX P fa fn fx dx K = valX fn dx
def obsXG (P : Program) (n : Nat) (fa : List He.Fa) (fn : List He.DefD) (fx : List Fx) (dx : List DefX) (g : Addr → Option Obj) : AlX := obsX P fa fn fx dx (He.frG g (cStatics :: He.asD g n))
def hookX (P : Program) (n : Nat) (fa : List He.Fa) (fn : List He.DefD) (fx : List Fx) (dx : List DefX) : PySem.W.Hook where
 α := AlX
 obs := fun s => obsXG P n fa fn fx dx s.heap.get?
 val := fun _ => valX fn dx
 says := fun _ h => ∃ K : PySem.W.Frag, K.In h ∧ SaysX P fa fn fx dx K
 of := fun _ _ e => ⟨_, He.frG_in, e⟩
 keeps := fun _ _ _ ⟨K, hK, c⟩ k => ⟨K, PySem.W.Frag.In.keeps hK k, c⟩
section
variable {P : Program} {fa : List He.Fa} {fn : List He.DefD} {fx : List Fx} {dx : List DefX} {K : PySem.W.Frag}
theorem SaysX.d (c : SaysX P fa fn fx dx K) : He.SaysD fa fn K := congrArg (fun z : AlX => z.1) c
theorem SaysX.more (c : SaysX P fa fn fx dx K) : (fx.all fun f => f.ok P K) = true ∧ (dx.all fun d => d.ok K) = true := He.ba (congrArg (fun z : AlX => z.2.1) c)
theorem SaysX.fact (c : SaysX P fa fn fx dx K) (i : Nat) {f : Fx} (h : fx[i]? = some f := by rfl) : f.ok P K = true := List.all_eq_true.mp c.more.1 f (List.mem_of_getElem? h)
theorem SaysX.def_ (c : SaysX P fa fn fx dx K) (i : Nat) {d : DefX} (h : dx[i]? = some d := by rfl) : d.obs K = d.val ∧ d.ok K = true := by
 refine ⟨?_, List.all_eq_true.mp c.more.2 d (List.mem_of_getElem? h)⟩
 have e : dx.map (fun d => d.obs K) = dx.map DefX.val := congrArg (fun z : AlX => z.2.2) c
 have e2 : (dx.map fun d => d.obs K)[i]? = (dx.map DefX.val)[i]? := by rw [e]
 rw [List.getElem?_map, List.getElem?_map, h] at e2
 exact Option.some.inj e2
end
end Hx
end Pu
namespace Pu
open PySem PySem.Spec L2
open PyProof.Rows hiding St
def pickU {α : Type} (xs : List α) (lo hi st : Option Int) : List α :=
 (sliceRange (sliceBounds lo hi st xs.length).1 (sliceBounds lo hi st xs.length).2.1 (sliceBounds lo hi st xs.length).2.2).filterMap fun i => xs[i]?
noncomputable def fSlK (k : Int) : U → Option Int → Option Int → Sto → Option (U × Sto) := fun x lo hi S => match asList S x with
 | some xs => if (pickU xs lo hi (some k)).length ≤ 100000 then (allV (pickU xs lo hi (some k))).map fun ds => (.v (.lst ds), S) else none
 | none => none
section
variable {X : Cx} {cl : Nat → Addr} {W : WX} {e : Expr} {m : ME} {lo hi : Option Expr} {mlo mhi : MO} {pos p2 p3 : Pos} {k : Int} {j : Nat}
end
end Pu
namespace Pu
open PySem PySem.Spec L2
open PyProof.Rows hiding St
open PySem.W (ksFn)
section
variable {P : Program} {K : PySem.W.Frag} {x qual : Str} {params : Arguments} {body : List Stmt} {scope : Scope} {dvs : List V} {kws : List (Str × V)} {C f2 f : Addr} {fd : FuncData} {ps : List Str}
theorem SupD.binds1 (Sd : SupD P K x qual params body scope dvs C f2 f fd) (n j : Nat) (hd : dvs ≠ []) (hn : n + (dvs.length - j) = ps.length)
   (h : ∀ (T cda cc : Addr) (kV doc pm : Value) (an : Option Addr) (ct : Value) (us its : List Value), us.length = n → its.length = dvs.length →
     ∃ k, bindArgs (ksFn x qual params body scope (.ref T) kV doc pm an (.ref cda) ct cc) ⟨us, []⟩ = seqItems? (.ref T) >>= k ∧ k (some its.toArray) = pure (ps.zip (us ++ its.drop j))) : ∃ ds, Vals (dvs.drop j) ds ∧ Binds K fd ps ds := by
 obtain ⟨oc, od, dV, kV, doc, pm, an, cda, ct, osl, cc, cl, cld, csl, ccl, cdd, vs, ccs, file, tf, rfl, lk, k1, hcc, hcode, hvs, hf, hD⟩ := Sd.ex
 rcases hD with ⟨e, _⟩ | ⟨_, T, o, its, m, rfl, lT, oT, rT⟩
 · exact absurd e hd
 · have l1 : its.length = dvs.length := rT.length.symm
   refine ⟨its.drop j, rT.drop j, fun s us X hlen => BindsTo.of_looks fun M => ?_⟩
   obtain ⟨k, e1, e2⟩ := h T cda cc kV doc pm an ct us its (by rw [List.length_append, List.length_drop, l1] at hlen; omega) l1
   rw [e1]; exact looks_items X lT oT (.of_pure e2)
theorem SupD.kb (Sd : SupD P K x qual params body scope dvs C f2 f fd) (n : Nat) (ks : List Str) (hd : dvs ≠ [])
   (h : ∀ (T cda cc : Addr) (kV doc pm : Value) (an : Option Addr) (ct : Value) (us its ws : List Value), us.length = n → its.length = dvs.length → ws.length = ks.length →
     ∃ k, bindArgs (ksFn x qual params body scope (.ref T) kV doc pm an (.ref cda) ct cc) ⟨us, ks.zip ws⟩ = seqItems? (.ref T) >>= k ∧ k (some its.toArray) = pure (ps.zip (us ++ ws))) : KBn K fd ps n ks (fun us ws => us ++ ws) (fun vs zs => vs ++ zs) := by
 obtain ⟨oc, od, dV, kV, doc, pm, an, cda, ct, osl, cc, cl, cld, csl, ccl, cdd, vs, ccs, file, tf, rfl, lk, k1, hcc, hcode, hvs, hf, hD⟩ := Sd.ex
 rcases hD with ⟨e, _⟩ | ⟨_, T, o, its, m, rfl, lT, oT, rT⟩
 · exact absurd e hd
 · refine ⟨fun s us ws X h1 h2 => BindsTo.of_looks fun M => ?_, fun a b => a.append b⟩
   obtain ⟨k, e1, e2⟩ := h T cda cc kV doc pm an ct us its ws h1 rT.length.symm h2
   rw [e1]; exact looks_items X lT oT (.of_pure e2)
theorem funD_kb (F : FunD K x qual params body scope dvs kws f fd) (n : Nat) (ks : List Str) (hd : dvs ≠ [])
   (h : ∀ (T : Addr) (kV doc pm : Value) (an : Option Addr) (cdv ct : Value) (us its ws : List Value), us.length = n → its.length = dvs.length → ws.length = ks.length →
     ∃ k, bindArgs (PySem.W.fnOf x qual params body scope (.ref T) kV doc pm an cdv ct) ⟨us, ks.zip ws⟩ = seqItems? (.ref T) >>= k ∧ k (some its.toArray) = pure (ps.zip (us ++ ws))) : KBn K fd ps n ks (fun us ws => us ++ ws) (fun vs zs => vs ++ zs) := by
 obtain ⟨oc, od, dV, kV, doc, pm, an, cdv, ct, osl, rfl, lk, hcd, hD, hK⟩ := F.ex
 rcases hD with ⟨e, _⟩ | ⟨_, T, o, its, m, rfl, lT, oT, rT⟩
 · exact absurd e hd
 · refine ⟨fun s us ws X h1 h2 => BindsTo.of_looks fun M => ?_, fun a b => a.append b⟩
   obtain ⟨k, e1, e2⟩ := h T kV doc pm an cdv ct us its ws h1 rT.length.symm h2
   rw [e1]; exact looks_items X lT oT (.of_pure e2)
end
theorem sup_q {P : Program} {w : World} {K : PySem.W.Frag} {mg : Str → Option Value} {base : Heap} {cl : Nat → Addr} {c n k : Nat} {f : Addr} {fd : FuncData} {ps : List Str} {mf : List U → Sto → R U} (hn : ps.length = n)
   (h : FnOk P w K mg base (L2.CX P w) k f fd ps (fun vs H Q E => vs.length = ps.length ∧ (∃ x dx fs ws, vs = .ref x :: ws ∧ H x = some (.ins (cl c) dx fs)) ∧ SpM ⟨P, w, K, cl⟩ n mf vs H (fun _ H' => Q .non H') E)) :
   FnOk P w K mg base (L2.CX P w) k f fd ps (SpM ⟨P, w, K, cl⟩ n (supN c mf)) :=
 h.imp fun vs H Q E z => by
   obtain ⟨h1, h2, h3⟩ := sup_sp z
   exact ⟨h1.trans hn.symm, h2, h3⟩
end Pu
namespace Pu
open PySem PySem.Spec L2
open PyProof.Rows hiding St
theorem tk0 {Y : Cx} : Takes Y W0 := fun u s' ⟨_, _, _, _, _, _, _, _, _, _, _, _, _, _, _, _, z⟩ => z.elim
theorem nil_vals {ds : List Value} (h : Vals [] ds) : ds = [] := by cases h; rfl
def fNeg : F1 := fun u S => match u with
 | .v (.int i) => some (.v (.int (-i)), S)
 | _ => none
theorem uq_neg {X : Cx} {cl : Nat → Addr} : UnR X (unaryOp .USub) (liftUn (bx X cl) fNeg) := by
 intro pins s σ H x v Q I rx ⟨ι, F, S, a, rl, za, fi⟩
 unfold fNeg at fi
 split at fi
 · rename_i i
   cases za with
   | v za =>
     cases za
     exact un_neg pins s σ H _ v Q I rx ⟨i, rfl, fi.val rl (.v (.int _))⟩
 · exact fi.no
def fAddS : F2 := fun x y S => match asLst S x, asLst S y with
 | some xs, some ys => if xs.length + ys.length ≤ 100000 then some (.r S.length, S ++ [.lst (xs ++ ys)]) else none
 | _, _ => none
end Pu
namespace Pu
open PySem L2
section
variable {q : U → Sto → Prop} {S : Sto} {X : XP} {ρ : Env'} {Q : Post}
@[simp ↓] theorem wpr_noX (r : R U) : wpr (noX r) q X = wpr r q (fun _ _ _ => False) := by cases r <;> rfl
@[simp ↓] theorem w_prop (cs : List Nat) (mf : List U → Sto → R U) (mo : ME) : wpr (eProp cs mf mo ρ S) q X = wpr (mo ρ S) (fun x S1 => isIns S1 x fun c _ => c ∈ cs ∧ wpr (mf [x] S1) q (fun _ _ _ => False)) X := by
 simp only [eProp, wpr_bind]
 congr 1; funext x S1
 unfold isIns
 cases asIns S1 x with
 | none => rfl
 | some p => by_cases h : p.1 ∈ cs <;> simp [h]
@[simp ↓] theorem w_sup (c : Nat) (mf : List U → Sto → R U) (x : U) (us : List U) : wpr (supN c mf (x :: us) S) q X = isIns S x fun c' _ => c' = c ∧ wpr (mf (x :: us) S) (fun _ S1 => q (.v .non) S1) X := by
 unfold supN isIns
 cases hx : asIns S x with
 | none => simp [hx]
 | some p =>
   by_cases h : p.1 = c
   · simp only [hx, h, if_true, wpr_bind, wpr_ok, true_and]
   · simp [hx, h]
@[simp ↓] theorem w_iChr (m : ME) (k : IterV → Sto → Prop) : wpr (iChr m ρ S) k X = wpr (m ρ S) (fun u S1 => match u with
   | .v (.str z) => k ⟨chrs z, none⟩ S1
   | _ => False) X := by
 simp only [iChr, wpr_bind]
 congr 1; funext u S1
 cases u with
 | r n => rfl
 | v d => cases d <;> rfl
@[simp ↓] theorem v_neg (i : Int) : wpO (fNeg (.v (.int i)) S) q = q (.v (.int (-i))) S := id rfl
@[simp ↓] theorem v_insert (n : Nat) (i : Int) (u : U) : wpO (fInsert (.r n) [.v (.int i), u] S) q = cellL S[n]? fun xs => (xs.length < 100000 ∧ 0 ≤ i ∧ i < 1000000) ∧ q (.v .non) (S.set n (.lst (xs.take i.toNat ++ [u] ++ xs.drop i.toNat))) := by
 cases h : S[n]? with
 | none => simp [fInsert, cellL, h]
 | some c =>
   cases c with
   | lst xs => by_cases hh : xs.length < 100000 ∧ 0 ≤ i ∧ i < 1000000 <;> simp [fInsert, cellL, h, hh]
   | _ => simp [fInsert, cellL, h]
theorem while_inv {c : MT} {body : MS} (I : Nat → Env' → Sto → Prop) (hs : ∀ (n : Nat) (ρ : Env') (S : Sto), I n ρ S → wpr (c ρ S) (fun b S1 => if b = true then wps (body ρ S1) { nx := fun ρ2 S2 => ∃ m, m < n ∧ I m ρ2 S2, ct := fun ρ2 S2 => ∃ m, m < n ∧ I m ρ2 S2, bk := Q.nx, rt := Q.rt, ex := Q.ex } else Q.nx ρ S1) (fun k fs S => Q.ex k fs ρ S)) :
   ∀ (n : Nat) (ρ : Env') (S : Sto), I n ρ S → ∃ k, wps (whileN c body k ρ S) Q := by
 intro n
 induction n using Nat.strongRecOn with
 | ind n ih =>
   intro ρ S h
   have h1 := hs n ρ S h
   cases qc : c ρ S with
   | er => rw [qc] at h1; exact h1.elim
   | ex k fs S1 => exact ⟨1, by rw [qc] at h1; simp only [whileN, qc, R.st_ex]; exact h1⟩
   | ok b S1 =>
     rw [qc] at h1
     simp only [wpr_ok] at h1
     cases b with
     | false => exact ⟨1, by simp only [whileN, qc, R.st_ok, Bool.false_eq_true, if_false] at h1 ⊢; exact h1⟩
     | true =>
       simp only [if_true] at h1
       cases qb : body ρ S1 with
       | nx ρ2 S2 =>
         rw [qb] at h1
         obtain ⟨m, hm, hI⟩ := (show ∃ m, m < n ∧ I m ρ2 S2 from h1)
         obtain ⟨k, hk⟩ := ih m hm ρ2 S2 hI
         exact ⟨k + 1, by simp only [whileN, qc, R.st_ok, if_true, qb]; exact hk⟩
       | ct ρ2 S2 =>
         rw [qb] at h1
         obtain ⟨m, hm, hI⟩ := (show ∃ m, m < n ∧ I m ρ2 S2 from h1)
         obtain ⟨k, hk⟩ := ih m hm ρ2 S2 hI
         exact ⟨k + 1, by simp only [whileN, qc, R.st_ok, if_true, qb]; exact hk⟩
       | bk ρ2 S2 => exact ⟨1, by rw [qb] at h1; simp only [whileN, qc, R.st_ok, if_true, qb]; exact h1⟩
       | rt u S2 => exact ⟨1, by rw [qb] at h1; simp only [whileN, qc, R.st_ok, if_true, qb]; exact h1⟩
       | ex k fs ρ2 S2 => exact ⟨1, by rw [qb] at h1; simp only [whileN, qc, R.st_ok, if_true, qb]; exact h1⟩
       | er => rw [qb] at h1; exact h1.elim
theorem s_while (c : MT) (body : MS) (I : Nat → Env' → Sto → Prop) (n : Nat) (h0 : I n ρ S) (hs : ∀ (n : Nat) (ρ : Env') (S : Sto), I n ρ S → wpr (c ρ S) (fun b S1 => if b = true then wps (body ρ S1) { nx := fun ρ2 S2 => ∃ m, m < n ∧ I m ρ2 S2, ct := fun ρ2 S2 => ∃ m, m < n ∧ I m ρ2 S2, bk := Q.nx, rt := Q.rt, ex := Q.ex } else Q.nx ρ S1) (fun k fs S => Q.ex k fs ρ S)) :
   wps (sWhile c body ρ S) Q := by
 obtain ⟨k, hk⟩ := while_inv I hs n ρ S h0
 have hne : whileN c body k ρ S ≠ .er := fun z => by rw [z] at hk; exact hk
 rw [sWhile_eq hne]
 exact hk
end
end Pu
namespace Pu
open PySem L2
section
variable {q : U → Sto → Prop} {S : Sto} {X : XP} {ρ : Env'} {Q : Post}
@[simp] theorem allB_map (bs : List Bool) : allB (bs.map fun b => U.v (.bl b)) = some bs := by
 induction bs with
 | nil => rfl
 | cons b bs ih => simp [allB, ih]
theorem v_all (bs : List Bool) : wpO (fAll [.v (.lst (bs.map D.bl))] S) q = q (.v (.bl (bs.all id))) S := by
 unfold fAll asList
 simp only [List.map_map]
 rw [show (U.v ∘ D.bl) = fun b => U.v (.bl b) from rfl, allB_map]
 rfl
theorem v_sorted (ds : List D) (h : okSort ds) : wpO (fSorted [.v (.lst ds)] S) q = q (.v (.lst (sortD ds))) S := by
 unfold fSorted asList
 simp only [allV_map, if_pos h]
 rfl
theorem v_isX (tab : Nat → Nat → Option Bool) (u : U) (c : Nat) : wpO (fIsX tab [u, .v (.cls c)] S) q = isIns S u fun c' _ => wpo (tab c' c) fun b => q (.v (.bl b)) S := by
 unfold fIsX isIns
 simp only
 cases asIns S u with
 | none => rfl
 | some p => simp only; cases tab p.1 c <;> rfl
theorem v_ltD {a b : D} {p r : PyData} (h1 : pyOf a = some p) (h2 : pyOf b = some r) (ha : isDat a = true) (hb : isDat b = true) (hal : PySem.W.alike p r = true) (hn : a ≠ .non) : wpO (fLtD (.v a) (.v b) S) q = q (.v (.bl (PySem.W.dataLt p r))) S := by
 unfold fLtD
 simp only [h1, h2, ha, hb, hal, and_self, true_and, ne_eq, hn, not_false_eq_true, if_true]
 rfl
theorem v_ixR {n : Nat} {xs : List U} (i : Int) (h : S[n]? = some (.lst xs)) : wpO (fIxX (.r n) (.v (.int i)) S) q = wpo (atI xs i) fun w => q w S := by
 rw [ixX_q _ _ (by simp) (by unfold asDic; simp only [h])]
 simp [h]
@[simp ↓] theorem v_ixR0 (S : Sto) (xs : List U) (l : Sto) (i : Int) : wpO (fIxX (.r S.length) (.v (.int i)) (S ++ .lst xs :: l)) q = wpo (atI xs i) fun w => q w (S ++ .lst xs :: l) := v_ixR i (by simp)
end
end Pu
namespace Pu
theorem asc_ext {α : Type} {lt : α → α → Prop} (irr : ∀ a, ¬ lt a a) (tr : ∀ a b c, lt a b → lt b c → lt a c) : ∀ {xs ys : List α}, xs.Pairwise lt → ys.Pairwise lt → (∀ a, a ∈ xs ↔ a ∈ ys) → xs = ys
 | [], [], _, _, _ => rfl
 | [], y :: ys, _, _, h => by have := (h y).mpr (by simp); simp at this
 | x :: xs, [], _, _, h => by have := (h x).mp (by simp); simp at this
 | x :: xs, y :: ys, hx, hy, h => by
   rw [List.pairwise_cons] at hx hy
   have exy : x = y := by
     rcases List.mem_cons.mp ((h x).mp (by simp)) with e | e
     · exact e
     · rcases List.mem_cons.mp ((h y).mpr (by simp)) with e2 | e2
       · exact e2.symm
       · exact absurd (tr _ _ _ (hx.1 y e2) (hy.1 x e)) (irr x)
   subst exy
   congr 1
   refine asc_ext irr tr hx.2 hy.2 fun a => ⟨fun ha => ?_, fun ha => ?_⟩
   · rcases List.mem_cons.mp ((h a).mp (List.mem_cons_of_mem _ ha)) with e | e
     · subst e; exact absurd (hx.1 a ha) (irr a)
     · exact e
   · rcases List.mem_cons.mp ((h a).mpr (List.mem_cons_of_mem _ ha)) with e | e
     · subst e; exact absurd (hy.1 a ha) (irr a)
     · exact e
end Pu
namespace Pu
open PySem L2
def gApp (us ws : List U) : List U := us ++ ws
end Pu
namespace Pu
open PySem L2
section
variable {q : U → Sto → Prop} {S : Sto} {X : XP} {ρ : Env'} {Q : Post}
def tupV (o : Option U) (k : List D → Prop) : Prop := match o with
 | some (.v (.tup ds)) => k ds
 | _ => False
@[simp ↓] theorem w_ixO (cs : List Nat) (mf : List U → Sto → R U) (mo mi : ME) : wpr (eIxO cs mf mo mi ρ S) q X = wpr (mo ρ S) (fun x S1 => wpr (mi ρ S1) (fun i S2 => isIns S2 x fun c _ => c ∈ cs ∧ wpr (mf [x, i] S2) q X) X) X := by
 simp only [eIxO, wpr_bind]
 congr 1; funext x S1; congr 1; funext i S2
 unfold isIns
 cases asIns S2 x with
 | none => rfl
 | some p => obtain ⟨c, fs⟩ := p; simp only; by_cases h : c ∈ cs <;> simp [h]
@[simp ↓] theorem s_setO (cs : List Nat) (mf : List U → Sto → R U) (mo mi mv : ME) : wps (sSetO cs mf mo mi mv ρ S) Q = wpr (mv ρ S) (fun v S1 => wpr (mo ρ S1) (fun x S2 => wpr (mi ρ S2) (fun i S3 => isIns S3 x fun c _ => c ∈ cs ∧ wpr (mf [x, i, v] S3) (fun _ S4 => Q.nx ρ S4) (fun k fs S => Q.ex k fs ρ S)) (fun k fs S => Q.ex k fs ρ S)) (fun k fs S => Q.ex k fs ρ S)) (fun k fs S => Q.ex k fs ρ S) := by
 simp only [sSetO, wps_st]
 congr 1; funext v S1; congr 1; funext x S2; congr 1; funext i S3
 unfold isIns
 cases asIns S3 x with
 | none => rfl
 | some p =>
   obtain ⟨c, fs⟩ := p
   simp only
   by_cases h : c ∈ cs
   · simp only [h, if_true, true_and, wps_st]; rfl
   · simp [h, wps]
end
end Pu
namespace Pu
open PySem PySem.Spec L2
open PyProof.Rows hiding St
section
variable {prog : Program} {w : World} {A : Around} {E : Value → Shared → Prop} {s : Shared}
end
def fBoolO (cs : List Nat) (mf : List U → Sto → R U) : FA := fun us S => match us with
 | [x] => (match asIns S x with
   | some (c', _) => if c' ∈ cs then (match mf [x] S with
     | .ok (.v (.bl b)) S' => some (.v (.bl b), S')
     | _ => none) else none
   | none => none)
 | _ => none
def fBoolV : FA := fun us S => match us with
 | [.v (.bl b)] => some (.v (.bl b), S)
 | _ => none
section
variable {X : Cx} {cl : Nat → Addr} {k : Nat} {f : Addr} {fd : FuncData} {ps : List Str} {mf : List U → Sto → R U} {cs : List Nat}
end
section
variable {q : U → Sto → Prop} {S : Sto}
@[simp ↓] theorem v_boolV (b : Bool) : wpO (fBoolV [.v (.bl b)] S) q = q (.v (.bl b)) S := id rfl
theorem v_boolO (cs : List Nat) (mf : List U → Sto → R U) (x : U) {b : Bool} (h : mf [x] S = .ok (.v (.bl b)) S) : wpO (fBoolO cs mf [x] S) q = isIns S x fun c _ => c ∈ cs ∧ q (.v (.bl b)) S := by
 unfold fBoolO isIns
 simp only
 cases asIns S x with
 | none => rfl
 | some p => obtain ⟨c, fs⟩ := p; simp only; by_cases hc : c ∈ cs <;> simp [hc, h]
end
end Pu
namespace Pu
open PySem PySem.Spec L2
open PyProof.Rows hiding St
abbrev BW := Program → World → Around → (Value → Shared → Prop) → Value → Env → (Shared → Prop) → Shared → Prop
structure CompAt (e : Expr) (d : Nat) (t i : Expr) (ifs : List Expr) (bw : BW) : Prop where
 qt : ∀ it acc env, (Code.compLoop e d it acc env).quiet = true
 uL : ∀ (A : Around) it acc env, A.under (.compLoop e d it acc env) = A
 uS : ∀ (A : Around) it acc env, A.under (.compStart e d it acc env) = A
 dL : ∀ (P : Program) (w : World) it acc env, (model P w).den (.compLoop e d it acc env) = (compTurn e d it acc env).onRaise (fun x => do noteFrame x env; theTreesLotGoes x)
 dS : ∀ (P : Program) (w : World) it acc env, (model P w).den (.compStart e d it acc env) = (compStart e d it acc env).onRaise (fun x => do noteFrame x env; standAt theWindowsPlace)
 cl : (clausesOf e)[d]? = some ⟨t, i, ifs, 0⟩
 turn : ∀ {P : Program} {w : World} {A : Around} {E : Value → Shared → Prop} {s : Shared} {it acc : Value} {env : Env} {Q : PySem.Fin → Shared → Prop},
   wpAny (model P w) A (pyNext it) (fun r s1 => match r with
     | none => Q (.done .next) s1
     | some v => wpAny (model P w) A (letOwnedTupleGo t it v) (fun _ s2 => wpAny (model P w) A (assign t env v) (fun _ s3 =>
       wpAny (model P w) A (forIn ifs true fun c r => if r = true then do let ok ← isTrue c env (eval c env); pure (ForInStep.yield ok) else pure (ForInStep.yield r)) (fun ok s4 =>
         if ok = true then bw P w A E acc env (fun s5 => Q (.again (.compLoop e d it acc env)) s5) s4 else Q (.again (.compLoop e d it acc env)) s4) E s3) E s2) E s1) E s →
   wpAny (model P w) A (compTurn e d it acc env) Q E s
def bwNext (e : Expr) (d : Nat) (i : Expr) : BW := fun P w A E acc env Q s => (∀ x, foldedSetIterable i env x = pure x) ∧ wpAny (model P w) A (eval i env) (fun x s1 => wpAny (model P w) A (pyIter x) (fun it s2 =>
 codeAny (model P w) A (.compStart e d it acc env) (fun r s3 => match r with
   | .ok _ => Q s3
   | .error _ => False) s2) E s1) E s
def bwL (elt : Expr) : BW := fun P w A E acc env Q s => wpAny (model P w) A (eval elt env) (fun x s1 => wpAny (model P w) A (call (.builtin "list.append") [acc, x]) (fun _ s2 => Q s2) E s1) E s
def bwD (k v : Expr) : BW := fun P w A E acc env Q s => ∃ D, acc = .ref D ∧ wpAny (model P w) A (eval k env) (fun x s1 => wpAny (model P w) A (eval v env) (fun y s2 => wpAny (model P w) A (dictSet D x y) (fun _ s3 => Q s3) E s2) E s1) E s
section
variable {elt kx vx t0 i0 t1 i1 t2 i2 : Expr} {f0 f1 f2 : List Expr} {sc : Scope} {pos : Pos}
theorem turn_of {e : Expr} {d : Nat} {t i : Expr} {ifs : List Expr} {bd : Value → Value → Env → Sem PySem.Fin} {bw : BW} (hE : ∀ it acc env, compTurn e d it acc env = (standAt i.pos >>= fun _ => pyNext it >>= fun r => match r with
     | none => pure (.done .next)
     | some v => letOwnedTupleGo t it v >>= fun _ => assign t env v >>= fun _ =>
       (forIn ifs true fun c r => if r = true then do let ok ← isTrue c env (eval c env); pure (ForInStep.yield ok) else pure (ForInStep.yield r)) >>= fun ok =>
         if ok = true then bd it acc env else again (.compLoop e d it acc env)))
   {P : Program} {w : World} {A : Around} {E : Value → Shared → Prop} {s : Shared} {it acc : Value} {env : Env} {Q : PySem.Fin → Shared → Prop}
   (hb : ∀ s4, bw P w A E acc env (fun s5 => Q (.again (.compLoop e d it acc env)) s5) s4 → wpAny (model P w) A (bd it acc env) Q E s4)
   (h : wpAny (model P w) A (pyNext it) (fun r s1 => match r with
     | none => Q (.done .next) s1
     | some v => wpAny (model P w) A (letOwnedTupleGo t it v) (fun _ s2 => wpAny (model P w) A (assign t env v) (fun _ s3 =>
       wpAny (model P w) A (forIn ifs true fun c r => if r = true then do let ok ← isTrue c env (eval c env); pure (ForInStep.yield ok) else pure (ForInStep.yield r)) (fun ok s4 =>
         if ok = true then bw P w A E acc env (fun s5 => Q (.again (.compLoop e d it acc env)) s5) s4 else Q (.again (.compLoop e d it acc env)) s4) E s3) E s2) E s1) E s) :
   wpAny (model P w) A (compTurn e d it acc env) Q E s := by
 rw [hE]
 refine wpAny_bind (wpAny_standAt (wpAny_bind (wpAny_mono h (fun r s1 h1 => ?_) fun _ _ z => z)))
 cases r with
 | none => exact wpAny_pure h1
 | some v =>
   refine wpAny_bind (wpAny_mono h1 (fun _ s2 h2 => wpAny_bind (wpAny_mono h2 (fun _ s3 h3 => wpAny_bind (wpAny_mono h3 (fun ok s4 h4 => ?_) fun _ _ z => z)) fun _ _ z => z)) fun _ _ z => z)
   cases ok with
   | false => exact wpAny_pure h4
   | true => exact hb s4 h4
def bdNext (e : Expr) (d : Nat) (i : Expr) (d0 : Nat) (it acc : Value) (env : Env) : Sem PySem.Fin := do
 let x ← eval i env
 standAt i.pos
 let y ← foldedSetIterable i env x
 let _ ← runOwn (.compStart e d (← holding [y] (pyIter y)) acc env) env
 again (.compLoop e d0 it acc env)
def bdL (elt e : Expr) (d0 : Nat) (it acc : Value) (env : Env) : Sem PySem.Fin := (do let _ ← call (.builtin "list.append") [acc, ← eval elt env]) >>= fun _ => again (.compLoop e d0 it acc env)
theorem next_ok {e : Expr} {d d0 : Nat} {i : Expr} {P : Program} {w : World} {A : Around} {E : Value → Shared → Prop} {s : Shared} {it acc : Value} {env : Env} {Q : PySem.Fin → Shared → Prop}
   (h : bwNext e d i P w A E acc env (fun s5 => Q (.again (.compLoop e d0 it acc env)) s5) s) : wpAny (model P w) A (bdNext e d i d0 it acc env) Q E s := by
 unfold bdNext
 obtain ⟨hs, h⟩ := h
 refine wpAny_bind (wpAny_mono h (fun x s1 h1 => ?_) fun _ _ z => z)
 refine wpAny_bind (wpAny_standAt (wpAny_bind (wpAny_of_eq (hs x) (wpAny_bind (wpAny_holding (wpAny_mono h1 (fun it1 s2 h2 => ?_) fun _ _ z => z))))))
 refine wpAny_bind (wpAny_runOwn ?_)
 rw [Around.mark_none]
 refine codeAny_mono h2 fun r s3 hr => ?_
 cases r with
 | ok f => exact wpAny_pure hr
 | error e => exact hr.elim
theorem l_ok {elt e : Expr} {d0 : Nat} {P : Program} {w : World} {A : Around} {E : Value → Shared → Prop} {s : Shared} {it acc : Value} {env : Env} {Q : PySem.Fin → Shared → Prop}
   (h : bwL elt P w A E acc env (fun s5 => Q (.again (.compLoop e d0 it acc env)) s5) s) : wpAny (model P w) A (bdL elt e d0 it acc env) Q E s := by
 unfold bdL
 exact wpAny_bind (wpAny_bind (wpAny_mono h (fun x s1 h1 => wpAny_bind (wpAny_mono h1 (fun _ s2 h2 => wpAny_pure (wpAny_pure h2)) fun _ _ z => z)) fun _ _ z => z))
abbrev L2' (elt t0 i0 t1 i1 : Expr) (f0 f1 : List Expr) (sc : Scope) (pos : Pos) : Expr := .ListComp elt [⟨t0, i0, f0, 0⟩, ⟨t1, i1, f1, 0⟩] sc pos
abbrev L3 (elt t0 i0 t1 i1 t2 i2 : Expr) (f0 f1 f2 : List Expr) (sc : Scope) (pos : Pos) : Expr := .ListComp elt [⟨t0, i0, f0, 0⟩, ⟨t1, i1, f1, 0⟩, ⟨t2, i2, f2, 0⟩] sc pos
theorem at_l2_0 : CompAt (L2' elt t0 i0 t1 i1 f0 f1 sc pos) 0 t0 i0 f0 (bwNext (L2' elt t0 i0 t1 i1 f0 f1 sc pos) 1 i1) := ⟨fun _ _ _ => rfl, fun _ _ _ _ => rfl, fun _ _ _ _ => rfl, fun _ _ _ _ _ => rfl, fun _ _ _ _ _ => rfl, rfl,
 fun h => turn_of (i := i0) (bd := bdNext (L2' elt t0 i0 t1 i1 f0 f1 sc pos) 1 i1 0) (fun _ _ _ => rfl) (fun _ => next_ok) h⟩
theorem at_l2_1 : CompAt (L2' elt t0 i0 t1 i1 f0 f1 sc pos) 1 t1 i1 f1 (bwL elt) := ⟨fun _ _ _ => rfl, fun _ _ _ _ => rfl, fun _ _ _ _ => rfl, fun _ _ _ _ _ => rfl, fun _ _ _ _ _ => rfl, rfl,
 fun h => turn_of (i := i1) (bd := bdL elt (L2' elt t0 i0 t1 i1 f0 f1 sc pos) 1) (fun _ _ _ => rfl) (fun _ => l_ok) h⟩
def bdD (k v e : Expr) (d0 : Nat) (it acc : Value) (env : Env) : Sem PySem.Fin := (do
 let kv ← eval k env
 let vv ← holding [kv] (eval v env)
 match acc with
 | .ref d => do
   standAt { k.pos with endLine := v.pos.endLine, endCol := v.pos.endCol }
   holding [kv, vv] (dictSet d kv vv)
 | _ => unsupported "internal:dictcomp") >>= fun _ => again (.compLoop e d0 it acc env)
abbrev C1 (kx vx t0 i0 : Expr) (f0 : List Expr) (sc : Scope) (pos : Pos) : Expr := .DictComp kx vx [⟨t0, i0, f0, 0⟩] sc pos
abbrev C3 (kx vx t0 i0 t1 i1 t2 i2 : Expr) (f0 f1 f2 : List Expr) (sc : Scope) (pos : Pos) : Expr := .DictComp kx vx [⟨t0, i0, f0, 0⟩, ⟨t1, i1, f1, 0⟩, ⟨t2, i2, f2, 0⟩] sc pos
end
noncomputable def lcL (src : Option Nat) (c0 : Option Cell) (g : MG) (t : MT) (mb : Env' → Sto → R Unit) : List U → Env' → Sto → R Unit
 | [], _, S => .ok () S
 | u :: us, ρ, S => match g u ρ with
   | none => .er
   | some ρ1 => (noEx (t ρ1 S)).bind fun b S1 => if b = true then (noEx (mb ρ1 S1)).bind fun _ S2 => if srcOk src c0 S2 then lcL src c0 g t mb us ρ S2 else .er
     else if srcOk src c0 S1 then lcL src c0 g t mb us ρ S1 else .er
noncomputable def cNext (ws : List Nat) (mi : MI) (g : MG) (t : MT) (mb : Env' → Sto → R Unit) : Env' → Sto → R Unit := fun ρ S => (noEx (mi ρ S)).bind fun iv S1 => lcL iv.src (iv.src.bind fun n => S1[n]?) g t mb iv.items (wipeE ρ ws) S1
def cItem (n : Nat) (e : ME) : Env' → Sto → R Unit := fun ρ S => (noEx (e ρ S)).bind fun y S1 => match S1[n]? with
 | some (.lst acc) => if acc.length < 100000 then .ok () (S1.set n (.lst (acc ++ [y]))) else .er
 | _ => .er
def BodyOk (Y : Cx) (cl : Nat → Addr) (bw : BW) (ws : List Nat) (n : Nat) (D : Addr) (m : Env' → Sto → R Unit) : Prop :=
 ∀ (pins : List (Addr × Obj)) (s : Shared) (σ : L2.St) (H : Hp) (ι : List Addr) (F : Addr → Prop) (S S' : Sto) (ρ : Env') (K : Shared → Prop) (E : Value → Shared → Prop), Inv Y pins σ H s → Rel (bx Y cl) ι F S H → REnv (bx Y cl) ι F H σ ρ → ι[n]? = some D → m ρ S = .ok () S' →
   (∀ s' ι' F' H', Inv Y pins (wipe σ ws) H' s' → Evo ι F H ι' F' H' → Rel (bx Y cl) ι' F' S' H' → K s') → bw Y.prog Y.w Y.A E (.ref D) Y.env K s
theorem noEx_eq {α : Type} {r : R α} {a : α} {S : Sto} (h : noEx r = .ok a S) : r = .ok a S := by
 cases r <;> first | exact h | cases h
theorem bind_okE {α β : Type} {r : R α} {k : α → Sto → R β} {b : β} {S' : Sto} (h : (noEx r).bind k = .ok b S') : ∃ a S, r = .ok a S ∧ k a S = .ok b S' := by
 cases r with
 | ok a S => exact ⟨a, S, rfl, h⟩
 | ex c fs S => cases h
 | er => cases h
section
variable {Y : Cx} {cl : Nat → Addr} {e t i : Expr} {ifs : List Expr} {bw : BW} {d n : Nat} {D : Addr} {ws ws1 js : List Nat} {g : MG} {tm : MT} {mb : Env' → Sto → R Unit}
theorem body_item {elt : Expr} {me : ME} (he : QE Y cl W0 elt me) (hx : ∀ a s, ¬ Y.xe a s) : BodyOk Y cl (bwL elt) [] n D (cItem n me) := by
 intro pins s σ H ι F S S' ρ K E I r en hD hm hK
 obtain ⟨y, S1, q1, q2⟩ := bind_okE hm
 refine wpAny_mono (he.run pins s σ H (fun v H1 => ∃ ι1 F1, Evo ι F H ι1 F1 H1 ∧ Rel (bx Y cl) ι1 F1 S1 H1 ∧ RepU (bx Y cl) ι1 F1 H1 v y) I ⟨ι, F, S, ρ, r, en, ?_⟩) (fun v s1 ⟨x, H1, I1, rx, ι1, F1, e1, r1, z1⟩ => ?_) fun _ _ z => (hx _ _ z).elim
 · rw [q1]
   exact fun v ι' F' H' e' r' z' => ⟨ι', F', e', r', z'⟩
 · have hD1 := e1.pre _ _ hD
   cases qc : S1[n]? with
   | none => rw [qc] at q2; cases q2
   | some c =>
     rw [qc] at q2
     cases c with
     | lst acc =>
       simp only at q2
       split at q2
       · rename_i hl
         cases q2
         obtain ⟨vs, ha, zz⟩ := r1.ok _ _ _ hD1 qc
         obtain ⟨r2, e2⟩ := r1.setL hD1 qc ha (paired_append zz (.cons z1 .nil))
         exact app_ok I1 ha (szl (by rw [paired_len zz]; exact hl)) rx fun s2 I2 => hK s2 _ _ _ I2 (e1.trans e2) r2
       · cases q2
     | _ => cases q2
theorem loop_ok {it : Addr} {fp : List Addr} {tn : Nat → Heap → Prop} {J : It} {iv : IterV} {pins : List (Addr × Obj)} {s : Shared} {σ : L2.St} {H : Hp} {ι ι0 : List Addr} {F F0 : Addr → Prop} {S S0 S' : Sto} {H0 : Hp} {ρ : Env'} {Q : Hp → Prop}
   (C : CompAt e d t i ifs bw) (hc : Y.calm = true) (hx : ∀ a s, ¬ Y.xe a s) (pg : QG Y cl t js g) (pt : QTs Y cl W0 ifs tm) (hb : BodyOk Y cl bw ws1 n D mb) (hj : ∀ j ∈ js, j ∈ ws) (hw : ∀ j ∈ ws1, j ∈ ws)
   (T : Turn Y.prog Y.w Y.K t J fp it tn) (I : Inv Y pins (wipe σ ws) H s) (st : tn 0 s.heap) (hfp : ∀ b ∈ fp, FpOk Y pins H b) (r : Rel (bx Y cl) ι F S H) (en : REnv (bx Y cl) ι F H σ ρ) (hD : ι[n]? = some D)
   (e0 : Evo ι0 F0 H0 ι F H) (wk : Walk (bx Y cl) J iv S0 ι0 F0 H0) (so : srcOk iv.src (iv.src.bind fun n => S0[n]?) S) (hm : lcL iv.src (iv.src.bind fun n => S0[n]?) g tm mb iv.items (wipeE ρ ws) S = .ok () S')
   (hQ : ∀ ι' F' H', Evo ι F H ι' F' H' → Rel (bx Y cl) ι' F' S' H' → Q H') :
   codeAny (model Y.prog Y.w) Y.A (.compLoop e d (.ref it) (.ref D) Y.env) (fun r s' => match r with
     | .ok f => f = .next ∧ ∃ H', Inv Y pins (wipe σ ws) H' s' ∧ Q H'
     | .error _ => False) s := by
 have fpk : ∀ {H' : Hp}, (∀ b ∈ fp, H' b = none) → ∀ b ∈ fp, FpOk Y pins H' b := fun hn b hb => ⟨hn b hb, (hfp b hb).2⟩
 refine codeAny_loop (C.qt _ _ _) (fun k s' => ∃ (i : Nat) (H' : Hp) (ι1 : List Addr) (F1 : Addr → Prop) (S1 : Sto), k = iv.items.length - i ∧ i ≤ iv.items.length ∧ Inv Y pins (wipe σ ws) H' s' ∧ tn i s'.heap ∧ (∀ b ∈ fp, H' b = none) ∧ Evo ι F H ι1 F1 H' ∧ Rel (bx Y cl) ι1 F1 S1 H' ∧
   srcOk iv.src (iv.src.bind fun n => S0[n]?) S1 ∧ lcL iv.src (iv.src.bind fun n => S0[n]?) g tm mb (iv.items.drop i) (wipeE ρ ws) S1 = .ok () S') (fun k s1 hk => ?_) iv.items.length ⟨0, H, ι, F, S, by simp, by simp, I, st, fun b hb => (hfp b hb).1, Evo.refl, r, so, by simpa using hm⟩
 rw [C.uL, C.dL]
 refine wpAny_noted (C.turn ?_)
 obtain ⟨i, H1, ι1, F1, S1, rfl, hi, I1, st1, n1, e1, r1, so1, hm1⟩ := hk
 have so' : ∀ n, iv.src = some n → S1[n]? = S0[n]? := fun n hn => by
   unfold srcOk at so1
   rw [hn] at so1
   simpa [hn] using so1
 obtain ⟨w1, w2⟩ := wk i ι1 F1 S1 H1 (e0.trans e1) r1 so'
 by_cases hlt : i < iv.items.length
 · obtain ⟨go, yl⟩ := w1 hlt
   refine thnF (T.item Y rfl rfl rfl hc i pins s1 _ H1 (fun _ _ => False) I1 (fpk n1) st1 go) fun r s2 ⟨u, hr, h2⟩ => ?_
   subst hr
   refine thnF h2 fun _ s3 ⟨x, H3, I3, r3, y3, st3, n3⟩ => ?_
   obtain ⟨e4, r4, z4⟩ := yl x H3 y3
   have hd : iv.items.drop i = iv.items[i] :: iv.items.drop (i + 1) := List.drop_eq_getElem_cons hlt
   rw [hd] at hm1
   unfold lcL at hm1
   cases qg : g iv.items[i] (wipeE ρ ws) with
   | none => rw [qg] at hm1; cases hm1
   | some ρ1 =>
     rw [qg] at hm1
     simp only at hm1
     have I3' := I3.pinned (fpk n3) (T.obj _ _ st3)
     have en3 : REnv (bx Y cl) ι1 F1 H3 (wipe σ ws) (wipeE ρ ws) := wipe_env ((en.mono e1).mono e4) ws
     refine wpAny_mono (pg.run _ s3 _ H3 x u (fun σ' H' => H' = H3 ∧ REnv (bx Y cl) ι1 F1 H3 σ' ρ1 ∧ wipe σ' ws = wipe σ ws) I3' r3 ⟨ι1, F1, S1, wipeE ρ ws, iv.items[i], ρ1, r4, en3, z4 _ (by simp [hlt]), qg, fun σ' en' k' l' => ⟨rfl, en', wipe_eq (by rw [l', wipe_length]) hj k'⟩⟩) (fun _ s5 ⟨σ5, H5, I5, hH, en5, hw5⟩ => ?_) fun _ _ z => (hx _ _ z).elim
     subst hH
     obtain ⟨b, S6, q6, hm2⟩ := bind_okE hm1
     refine wpAny_mono (pt.run _ s5 σ5 H5 (fun b' H' => b' = b ∧ ∃ ι6 F6, Evo ι1 F1 H5 ι6 F6 H' ∧ Rel (bx Y cl) ι6 F6 S6 H') I5 ⟨ι1, F1, S1, ρ1, r4, en5, ?_⟩) (fun b' s6 ⟨H6, I6, hb', ι6, F6, e6, r6⟩ => ?_) fun _ _ z => (hx _ _ z).elim
     · rw [q6]
       exact fun b' ι' F' H' e' r' z' => ⟨z', ι', F', e', r'⟩
     subst hb'
     have hl5 : (wipe σ ws).length = σ5.length := by rw [← hw5, wipe_length]
     have fin : ∀ {σ7 : L2.St} {s' : Shared} {H' : Hp} {ι' : List Addr} {F' : Addr → Prop} {S2 : Sto}, Inv Y (pins ++ pinsAt fp s3.heap) σ7 H' s' → (wipe σ ws).length = σ7.length → (∀ (j : Nat) v, (wipe σ ws)[j]? = some (some v) → σ7[j]? = some (some v)) → Evo ι1 F1 H5 ι' F' H' → Rel (bx Y cl) ι' F' S2 H' → srcOk iv.src (iv.src.bind fun n => S0[n]?) S2 →
         lcL iv.src (iv.src.bind fun n => S0[n]?) g tm mb (iv.items.drop (i + 1)) (wipeE ρ ws) S2 = .ok () S' → ∃ m, m < iv.items.length - i ∧ ∃ (i : Nat) (H' : Hp) (ι1 : List Addr) (F1 : Addr → Prop) (S1 : Sto), m = iv.items.length - i ∧ i ≤ iv.items.length ∧ Inv Y pins (wipe σ ws) H' s' ∧ tn i s'.heap ∧ (∀ b ∈ fp, H' b = none) ∧ Evo ι F H ι1 F1 H' ∧ Rel (bx Y cl) ι1 F1 S1 H' ∧
           srcOk iv.src (iv.src.bind fun n => S0[n]?) S1 ∧ lcL iv.src (iv.src.bind fun n => S0[n]?) g tm mb (iv.items.drop i) (wipeE ρ ws) S1 = .ok () S' := fun {σ7 s' H' ι' F' S2} I' hl hk e' r' so2 hm' => by
       have pin' : ∀ b ∈ fp, ∀ o, s3.heap.get? b = some o → s'.heap.get? b = some o ∧ H' b = none := fun b hb o eo =>
         let z := I'.pin (b, o) (List.mem_append_right _ (List.mem_append_right _ (mem_pinsAt hb eo)))
         ⟨z.1, z.2.1⟩
       refine ⟨iv.items.length - (i + 1), by omega, i + 1, H', ι', F', S2, rfl, hlt, I'.unpinned.weak hl hk, T.keep _ _ _ st3 fun b hb o eo => (pin' b hb o eo).1, fun b hb => ?_, (e1.trans e4).trans e', r', so2, hm'⟩
       obtain ⟨o, eo, _⟩ := T.obj _ _ st3 b hb
       exact (pin' b hb o eo).2
     have hk5 : ∀ (j : Nat) v, (wipe σ ws)[j]? = some (some v) → σ5[j]? = some (some v) := fun j v ev => by
       rw [← hw5] at ev
       exact (wipe_some ev).1
     cases b' with
     | false =>
       simp only [Bool.false_eq_true, if_false] at hm2 ⊢
       split at hm2
       · rename_i hs
         exact ⟨trivial, fin I6 hl5 hk5 e6 r6 hs hm2⟩
       · cases hm2
     | true =>
       simp only [if_true] at hm2 ⊢
       obtain ⟨_, S7, q7, hm3⟩ := bind_okE hm2
       split at hm3
       · rename_i hs
         have hD6 : ι6[n]? = some D := e6.pre _ _ (e4.pre _ _ (e1.pre _ _ hD))
         refine hb _ s6 σ5 H6 ι6 F6 S6 S7 ρ1 _ _ I6 r6 (en5.mono e6) hD6 q7 fun s8 ι8 F8 H8 I8 e8 r8 => ⟨trivial, fin I8 (hl5.trans (wipe_length _ _).symm) (fun j v ev => ?_) (e6.trans e8) r8 hs hm3⟩
         rw [← hw5] at ev
         obtain ⟨a1, a2⟩ := wipe_some ev
         rw [wipe_get fun z => a2 (hw j z)]
         exact a1
       · cases hm3
 · have hd : iv.items.drop i = [] := List.drop_eq_nil_of_le (by omega)
   rw [hd] at hm1
   cases hm1
   refine thnF (T.done Y rfl rfl rfl hc i pins s1 _ H1 (fun _ _ => False) I1 (fpk n1) st1 (w2 (by omega))) fun r s2 ⟨hr, I2⟩ => ?_
   subst hr
   exact ⟨rfl, H1, I2, hQ _ _ _ e1 r1⟩
end
end Pu
namespace Pu
open PySem PySem.Spec L2
open PyProof.Rows hiding St
noncomputable def cKey (n : Nat) (k e : ME) : Env' → Sto → R Unit := fun ρ S => (noEx (k ρ S)).bind fun x S1 => (noEx (e ρ S1)).bind fun y S2 => match x with
 | .v (.tup ks) => (match S2[n]? with
   | some (.dic kvs) => if isKey (.tup ks) = true ∧ kvs.length < 100000 then .ok () (S2.set n (.dic (dput kvs (.tup ks) y))) else .er
   | _ => .er)
 | _ => .er
section
variable {Y : Cx} {cl : Nat → Addr} {e t i : Expr} {ifs : List Expr} {bw : BW} {d n : Nat} {D : Addr} {ws ws1 js : List Nat} {g : MG} {tm : MT} {mb : Env' → Sto → R Unit}
theorem start_ok {P : Program} {w : World} {A : Around} {R : Result → Shared → Prop} {s : Shared} {it acc : Value} {env : Env} (C : CompAt e d t i ifs bw) (h0 : codeAny (model P w) A (.compLoop e d it acc env) R s)
   (h : wpAny (model P w) A (pyIter it) (fun it' s' => codeAny (model P w) A (.compLoop e d it' acc env) R s') (fun _ _ => False) s) : codeAny (model P w) A (.compStart e d it acc env) R s := by
 refine codeAny_of_tree ?_
 rw [C.uS, C.dS]
 refine wpAny_notedAt ?_
 unfold compStart
 rw [C.cl]
 show wpAny _ _ (ask >>= _) _ _ s
 refine wpAny_bind (wpAny_askSetting (wpAny_ite ?_))
 have hq := C.qt
 split
 · first
     | exact wpAny_bind (wpAny_pure (wpAny_pure ⟨hq _ _ _, h0⟩))
     | exact wpAny_pure ⟨hq _ _ _, h0⟩
 · first
     | exact wpAny_bind (wpAny_rule (wpAny_bind (wpAny_standAt (wpAny_bind (thnF h fun it' s' h' => wpAny_pure ⟨hq _ _ _, h'⟩)))))
     | (refine wpAny_bind (wpAny_rule ?_); show wpAny _ _ (standAt i.pos >>= _) _ _ s; exact wpAny_bind (wpAny_standAt (wpAny_bind (thnF h fun it' s' h' => wpAny_pure ⟨hq _ _ _, h'⟩))))
theorem body_next {mi : MI} (C : CompAt e d t i ifs bw) (hi : QI Y cl W0 t i mi) (hs : ∀ x, foldedSetIterable i Y.env x = pure x) (hc : Y.calm = true) (hx : ∀ a s, ¬ Y.xe a s) (pg : QG Y cl t js g) (pt : QTs Y cl W0 ifs tm) (hb : BodyOk Y cl bw ws1 n D mb) (hj : ∀ j ∈ js, j ∈ ws) (hw : ∀ j ∈ ws1, j ∈ ws) :
   BodyOk Y cl (bwNext e d i) ws n D (cNext ws mi g tm mb) := by
 intro pins s σ H ι F S S' ρ K E I r en hD hm hK
 obtain ⟨iv, S1, q1, q2⟩ := bind_okE hm
 refine ⟨hs, wpAny_mono (hi.run pins s σ H (fun J H1 => ∃ ι1 F1, Evo ι F H ι1 F1 H1 ∧ Rel (bx Y cl) ι1 F1 S1 H1 ∧ Walk (bx Y cl) J iv S1 ι1 F1 H1) I ⟨ι, F, S, ρ, r, en, ?_⟩) (fun v s1 h1 => ?_) fun _ _ z => (hx _ _ z).elim⟩
 · rw [q1]
   exact fun J ι' F' H' e' r' w' => ⟨ι', F', e', r', w'⟩
 refine wpAny_mono h1 (fun itv s2 h2 => ?_) fun _ _ z => (hx _ _ z).elim
 obtain ⟨it, fp, tn, J, H2, rfl, I2, T, st2, f2, ι1, F1, e1, r1, wk⟩ := h2
 have I2' : Inv Y pins (wipe σ ws) H2 s2 := I2.weak (wipe_length _ _) fun j v ev => (wipe_some ev).1
 have so : srcOk iv.src (iv.src.bind fun n => S1[n]?) S1 := by
   unfold srcOk; split
   · trivial
   · rename_i k hk; simp [hk]
 have lp := loop_ok (Q := fun H' => ∃ ι' F', Evo ι F H ι' F' H' ∧ Rel (bx Y cl) ι' F' S' H') C hc hx pg pt hb hj hw T I2' st2 f2 r1 (en.mono e1) (e1.pre _ _ hD) Evo.refl wk so q2 (fun ι' F' H' e' r' => ⟨ι', F', e1.trans e', r'⟩)
 refine start_ok C (codeAny_mono lp fun r s3 hr => ?_) (T.self Y.A 0 _ _ _ st2 (codeAny_mono lp fun r s3 hr => ?_))
 all_goals
   cases r with
   | error _ => exact hr
   | ok f =>
     obtain ⟨_, H', I', ι', F', e', r'⟩ := hr
     exact hK s3 ι' F' H' I' e' r'
end
end Pu
namespace Pu
open PySem PySem.Spec L2
open PyProof.Rows hiding St
structure NewC (X : Cx) (cl : Nat → Addr) (mk : Sem Value) (o0 : Obj) (ho : Addr → HO) (c0 : Cell) : Prop where
 run : ∀ {A : Around} {E : Value → Shared → Prop} {s : Shared} {Q : Value → Shared → Prop}, Q (.ref s.heap.objs.size) { s with heap := s.heap.push o0 } → wpAny (model X.prog X.w) A mk Q E s
 laid : ∀ {pins : List (Addr × Obj)} {σ : L2.St} {H : Hp} {s : Shared}, Inv X pins σ H s → Inv X pins σ (upd H s.heap.objs.size (ho s.heap.objs.size)) { s with heap := s.heap.push o0 }
 own : ∀ D x, ho D ≠ .own x
 cell : ∀ (ι : List Addr) (F : Addr → Prop) (H : Hp) (D : Addr), H D = some (ho D) → CellOk (bx X cl) ι F H D c0
theorem new_list {X : Cx} {cl : Nat → Addr} : NewC X cl (newList []) { cls := .type "list", data := .seq ([] : List Value).toArray } (fun _ => .lst []) (.lst []) where
 run := fun {A E s Q} h => wpAny_newObj_type h (by show 0 ≤ sizeLine; decide)
 laid := fun {pins σ H s} I => I.laid (t' := s.toks) (fun b o e => Heap.get?_push_of_some _ e) (Nat.le_refl _) ⟨Nat.zero_le _, [], 0, .nil, Heap.get?_push_size _ rfl⟩
 own := fun _ _ => nofun
 cell := fun ι F H D h => ⟨[], h, .nil⟩
noncomputable def cRun (c0 : Cell) (ws : List Nat) (mi : MI) (g : MG) (t : MT) (mb : Nat → Env' → Sto → R Unit) (kf : Sto → Unit → Sto → R U) : ME := fun ρ S => (mi ρ S).bind fun iv S1 =>
 if srcOk iv.src (iv.src.bind fun n => S1[n]?) (S1 ++ [c0]) then (noEx (lcL iv.src (iv.src.bind fun n => S1[n]?) g t (mb S1.length) iv.items (wipeE ρ ws) (S1 ++ [c0]))).bind (kf S1) else .er
section
variable {X : Cx} {cl : Nat → Addr} {W : WX} {e t i : Expr} {ifs : List Expr} {gs : List Comprehension} {bw : BW} {ws1 js : List Nat} {g : MG} {tm : MT} {mb : Nat → Env' → Sto → R Unit} {kf : Sto → Unit → Sto → R U} {mi : MI} {scope : Scope} {own : List (Str × Nat)} {mk : Sem Value} {o0 : Obj} {ho : Addr → HO} {c0 : Cell}
theorem cmp_core {pins : List (Addr × Obj)} {s : Shared} {σ : L2.St} {H : Hp} {Q : VK} {pos' : Pos} {use : Option (Value → Sem Unit)} {Qf : Value → Shared → Prop}
   (hc : X.calm = true) (hN : X.N.Nodup) (I : Inv X pins σ H s) (C : CompAt e 0 t i ifs bw) (hcl : clausesOf e = ⟨t, i, ifs, 0⟩ :: gs) (nw : NewC X cl mk o0 ho c0) (hi : QI X cl W t i mi) (ok : BlkOk X.N X.env.scope scope own) (hg : Blk X scope fun Y => QG Y cl t js g) (ht : Blk X scope fun Y => QTs Y cl W0 ifs tm)
   (hb : ∀ (n : Nat) (D : Addr), Blk X scope fun Y => BodyOk Y cl bw ws1 n D (mb n)) (hj : ∀ j ∈ js, j ∈ own.map (·.2)) (hw : ∀ j ∈ ws1, j ∈ own.map (·.2)) (hs : ∀ x, foldedSetIterable i X.env x = pure x)
   (h : liftE (bx X cl) W (cRun c0 (own.map (·.2)) mi g tm mb kf) σ H Q)
   (hk : ∀ (S1 S' : Sto) (ι1 : List Addr) (F1 : Addr → Prop) (H1 : Hp) (ι' : List Addr) (F' : Addr → Prop) (H' : Hp) (D : Addr), Rel (bx X cl) ι1 F1 S1 H1 → H1 D = none → Evo (ι1 ++ [D]) F1 (upd H1 D (ho D)) ι' F' H' → Rel (bx X cl) ι' F' S' H' →
     Out (bx X cl) W σ ι1 F1 H1 (RepU (bx X cl)) Q (kf S1 () S') → Q (.ref D) H')
   (hRR : ∀ D C s' m H', Inv X pins σ H' s' → Q (.ref D) H' → s'.heap.Ns C m → FpOk X pins H' C → compPost (model X.prog X.w) X.A X.xe use Qf (.ref D) C (.ok .next) s') :
   wpAny (model X.prog X.w) X.A (comprehension e scope X.env pos' mk false (eval i X.env) use) Qf X.xe s := by
 obtain ⟨ι, F, S, ρ, r, en, o⟩ := h
 unfold cRun at o
 have hfree : ∀ y ∈ scope.names, y.2 = .free → ∃ c, X.env.cells.lookup y.1 = some c := fun y hy ev => (ok.free y hy ev).elim (fun k => I.ok.has _ (.inl k)) fun k => I.ok.has _ (.inr k)
 have hq : liftI (bx X cl) W mi σ H (fun J H1 => ∃ iv S1 ι1 F1, Evo ι F H ι1 F1 H1 ∧ Rel (bx X cl) ι1 F1 S1 H1 ∧ Walk (bx X cl) J iv S1 ι1 F1 H1 ∧ Out (bx X cl) W σ ι F H (RepU (bx X cl)) Q (if srcOk iv.src (iv.src.bind fun n => S1[n]?) (S1 ++ [c0]) then (noEx (lcL iv.src (iv.src.bind fun n => S1[n]?) g tm (mb S1.length) iv.items (wipeE ρ (own.map (·.2))) (S1 ++ [c0]))).bind (kf S1) else .er)) := by
   refine ⟨ι, F, S, ρ, r, en, ?_⟩
   cases q : mi ρ S with
   | er => rw [q] at o; exact o
   | ex k fs S1 => rw [q] at o; exact o
   | ok iv S1 =>
     rw [q] at o
     exact fun J ι1 F1 H1 e1 r1 wk => ⟨iv, S1, ι1, F1, e1, r1, wk, o⟩
 refine wpAny_comprehension_free (use := use) hcl hs (closure_ok hfree) ok.kind (fun y hy ev => by rw [ok.uniq y hy, ev]) (thn (hi.run pins s σ H _ I hq) fun xv s1 hx => thn hx fun itv s2 h2 => ?_)
 obtain ⟨it, fp, tn, J, H2, rfl, I2, T, st2, f2, iv, S1, ι1, F1, e1, r1, wk, o1⟩ := h2
 split at o1
 case isFalse => exact o1.elim
 rename_i so0
 refine nw.run (newEnv_comp ?_)
 have hDn : H2 s2.heap.objs.size = none := I2.hok.fresh (Nat.le_refl _)
 have I3 := nw.laid I2
 have sz2 : ∀ b ∈ fp, b < s2.heap.objs.size := fun b hb => by
   obtain ⟨ob, eb, _⟩ := T.obj _ _ st2 b hb
   exact Heap.lt_size eb
 generalize hs3 : ({ s2 with heap := s2.heap.push o0 } : Shared) = s3 at I3
 have h3 : s3.heap = s2.heap.push o0 := by rw [← hs3]
 have e2 : Evo ι1 F1 H2 (ι1 ++ [s2.heap.objs.size]) F1 (upd H2 s2.heap.objs.size (ho s2.heap.objs.size)) := Evo.newS hDn
 have r2 : Rel (bx X cl) (ι1 ++ [s2.heap.objs.size]) F1 (S1 ++ [c0]) (upd H2 s2.heap.objs.size (ho s2.heap.objs.size)) := r1.newS hDn (nw.own _) (nw.cell _ _ _ _ upd_same)
 have f3 : ∀ b ∈ fp, FpOk X pins (upd H2 s2.heap.objs.size (ho s2.heap.objs.size)) b ∧ b < s3.heap.objs.size := fun b hb => by
   have hlt := sz2 b hb
   refine ⟨⟨?_, (f2 b hb).2⟩, by rw [h3, Heap.size_push]; exact Nat.lt_succ_of_lt hlt⟩
   rw [upd_ne (Nat.ne_of_lt hlt)]
   exact (f2 b hb).1
 have st3 : tn 0 s3.heap := T.keep _ _ _ st2 fun b _ ob eb => by rw [h3]; exact Heap.get?_push_of_some _ eb
 have I4 := block_start I3 ok hN f3
 generalize hD : s2.heap.objs.size = D at *
 generalize hcz : cellsFrom (s3.heap.objs.size + 1) scope.names (cloFrom X.env.cells scope.names []) = cz at I4
 have pg := hg s3 (upd H2 D (ho D)) s3.heap.objs.size cz fp
 have pt := ht s3 (upd H2 D (ho D)) s3.heap.objs.size cz fp
 have pb := hb S1.length D s3 (upd H2 D (ho D)) s3.heap.objs.size cz fp
 change codeAny _ _ (.compStart e 0 (.ref it) (.ref D) (compEnvC scope cz s3.heap.objs.size X.env)) (compPost (model X.prog X.w) X.A X.xe use Qf (.ref D) s3.heap.objs.size) { s3 with heap := pushCells (s3.heap.push { cls := .type "dict", data := .dict #[] }) scope.names }
 have nfp : ∀ b ∈ fp, (upd H2 D (ho D)) b = none := fun b hb => (f3 b hb).1.1
 generalize hce : compEnvC scope cz s3.heap.objs.size X.env = ce at I4 pg pt pb ⊢
 have cL : ce.locals = s3.heap.objs.size := by subst hce; rfl
 generalize hH3 : upd H2 D (ho D) = H3 at *
 generalize hs4 : ({ s3 with heap := pushCells (s3.heap.push { cls := .type "dict", data := .dict #[] }) scope.names } : Shared) = s4 at I4 ⊢
 have st4 : tn 0 s4.heap := T.keep _ _ _ st3 fun b _ ob eb => by rw [← hs4]; exact pushCells_keeps _ _ _ _ (Heap.get?_push_of_some _ eb)
 have fpb : ∀ b ∈ fp, FpOk (X.blk s3 H3 scope ce fp) [] H3 b := fun b hb => ⟨nfp b hb, (I4.ok.exf b hb).1, I4.ok.exfs b hb, .inl hb, fun x c ev => (I4.ok.exf b hb).2 x c ev, fun p hp => absurd (show p ∈ ([] : List (Addr × Obj)) ++ [] from hp) (by simp)⟩
 have hDn1 : (ι1 ++ [D])[S1.length]? = some D := by rw [← r1.len]; simp
 cases qm : noEx (lcL iv.src (iv.src.bind fun n => S1[n]?) g tm (mb S1.length) iv.items (wipeE ρ (own.map (·.2))) (S1 ++ [c0])) with
 | er => rw [qm] at o1; exact o1.elim
 | ex k fs S2 => cases hz : lcL iv.src (iv.src.bind fun n => S1[n]?) g tm (mb S1.length) iv.items (wipeE ρ (own.map (·.2))) (S1 ++ [c0]) <;> rw [hz] at qm <;> cases qm
 | ok un S2 =>
   rw [qm] at o1
   have o2 := Out.shift e1 (show Out (bx X cl) W σ ι F H (RepU (bx X cl)) Q (kf S1 () S2) from o1)
   have lp := loop_ok (Y := X.blk s3 H3 scope ce fp) (Q := fun H' => ∃ ι' F', Evo (ι1 ++ [D]) F1 H3 ι' F' H' ∧ Rel (bx X cl) ι' F' S2 H') C hc (fun _ _ z => z) pg pt pb hj hw T I4 st4 fpb r2 (en.mono (e1.trans e2)) hDn1 e2 wk so0 (noEx_eq qm) (fun ι' F' H' e' r' => ⟨ι', F', e', r'⟩)
   have lp2 : codeAny (model X.prog X.w) X.A (.compLoop e 0 (.ref it) (.ref D) ce) (compPost (model X.prog X.w) X.A X.xe use Qf (.ref D) s3.heap.objs.size) s4 := by
     refine codeAny_mono lp fun rr s5 hr => ?_
     cases rr with
     | error _ => exact hr.elim
     | ok f =>
       obtain ⟨rfl, H5, I5, ι5, F5, e5, r5⟩ := hr
       have I7 : Inv X pins σ H5 s5 := I3.call' (ch := fp) I5.os I5.base I5.hok I5.bare fun b hb => ⟨(f3 b hb).1.2.2.2.1, (f3 b hb).1.2.1, (f3 b hb).1.2.2.2.2.1, (f3 b hb).1.2.2.2.2.2⟩
       have nC : H5 s3.heap.objs.size = none := by
         have z : H5 ce.locals = none := I5.free
         rw [cL] at z
         exact z
       obtain ⟨m, hn, _⟩ := I5.loc
       have hn : s5.heap.Ns ce.locals m := hn
       rw [cL] at hn
       refine hRR D s3.heap.objs.size s5 m H5 I7 (hk S1 S2 ι1 F1 H2 ι5 F5 H5 D r1 hDn ?_ r5 o2) hn (I3.fpOk (Nat.le_refl _) nC)
       rw [hH3]; exact e5
   exact start_ok C lp2 (T.self X.A 0 _ _ _ st4 lp2)
end
end Pu
namespace Pu
open PySem PySem.Spec L2
open PyProof.Rows hiding St
def kS (S1 : Sto) (_ : Unit) (S2 : Sto) : R U := .ok (.r S1.length) S2
noncomputable def eL2 (kf : Sto → Unit → Sto → R U) (ws ws1 : List Nat) (mi : MI) (g : MG) (t : MT) (mi1 : MI) (g1 : MG) (t1 : MT) (e : ME) : ME := cRun (.lst []) ws mi g t (fun n => cNext ws1 mi1 g1 t1 (cItem n e)) kf
noncomputable def eL3 (kf : Sto → Unit → Sto → R U) (ws ws1 ws2 : List Nat) (mi : MI) (g : MG) (t : MT) (mi1 : MI) (g1 : MG) (t1 : MT) (mi2 : MI) (g2 : MG) (t2 : MT) (e : ME) : ME := cRun (.lst []) ws mi g t (fun n => cNext ws1 mi1 g1 t1 (cNext ws2 mi2 g2 t2 (cItem n e))) kf
noncomputable def eD1 (ws : List Nat) (mi : MI) (g : MG) (t : MT) (k e : ME) : ME := cRun (.dic []) ws mi g t (fun n => cKey n k e) kS
noncomputable def eD3 (ws ws1 ws2 : List Nat) (mi : MI) (g : MG) (t : MT) (mi1 : MI) (g1 : MG) (t1 : MT) (mi2 : MI) (g2 : MG) (t2 : MT) (k e : ME) : ME := cRun (.dic []) ws mi g t (fun n => cNext ws1 mi1 g1 t1 (cNext ws2 mi2 g2 t2 (cKey n k e))) kS
section
variable {X : Cx} {cl : Nat → Addr} {W : WX}
def KfOk (X : Cx) (cl : Nat → Addr) (W : WX) (ho : Addr → HO) (kf : Sto → Unit → Sto → R U) : Prop := ∀ (σ : L2.St) (Q : VK) (S1 S' : Sto) (ι1 : List Addr) (F1 : Addr → Prop) (H1 : Hp) (ι' : List Addr) (F' : Addr → Prop) (H' : Hp) (D : Addr), Rel (bx X cl) ι1 F1 S1 H1 → H1 D = none → Evo (ι1 ++ [D]) F1 (upd H1 D (ho D)) ι' F' H' → Rel (bx X cl) ι' F' S' H' →
     Out (bx X cl) W σ ι1 F1 H1 (RepU (bx X cl)) Q (kf S1 () S') → Q (.ref D) H'
theorem kf_V : KfOk X cl W (fun _ => .lst []) kfV := fun σ Q S1 S' ι1 F1 H1 ι' F' H' D r1 hD e r o => lc_endV S1 S' ι1 F1 H1 ι' F' H' D r1 hD e r o
variable {e t i : Expr} {ifs : List Expr} {gs : List Comprehension} {bw : BW} {ws1 js : List Nat} {g : MG} {tm : MT} {mb : Nat → Env' → Sto → R Unit} {kf : Sto → Unit → Sto → R U} {mi : MI} {scope : Scope} {own : List (Str × Nat)} {mk : Sem Value} {o0 : Obj} {ho : Addr → HO} {c0 : Cell} {pos' py spos : Pos} {k : Nat} {y : Str}
theorem qe_cmpN (hc : X.calm = true) (hN : X.N.Nodup) (C : CompAt e 0 t i ifs bw) (hcl : clausesOf e = ⟨t, i, ifs, 0⟩ :: gs) (nw : NewC X cl mk o0 ho c0) (hev : eval e X.env = comprehension e scope X.env pos' mk false (eval i X.env) none) (hi : QI X cl W t i mi) (ok : BlkOk X.N X.env.scope scope own) (hg : Blk X scope fun Y => QG Y cl t js g) (ht : Blk X scope fun Y => QTs Y cl W0 ifs tm)
   (hb : ∀ (n : Nat) (D : Addr), Blk X scope fun Y => BodyOk Y cl bw ws1 n D (mb n)) (hj : ∀ j ∈ js, j ∈ own.map (·.2)) (hw : ∀ j ∈ ws1, j ∈ own.map (·.2)) (hs : ∀ x, foldedSetIterable i X.env x = pure x) (hk : KfOk X cl W ho kf) : QE X cl W e (cRun c0 (own.map (·.2)) mi g tm mb kf) := by
 refine ⟨fun pins s σ H Q I h => ?_⟩
 rw [hev]
 refine cmp_core hc hN I C hcl nw hi ok hg ht hb hj hw hs h (hk σ Q) fun D C s' m H' I' q hn f => ⟨m, hn, fun h'' sb => ?_⟩
 obtain ⟨f0, f1, f2, f3, f4, f5⟩ := f
 exact ⟨.ref D, H', I'.turned (t' := s'.toks) (fun b ob hb eb => (sb.2 b hb).trans eb) f0 f1 f3 f4 f5, rfl, q⟩
theorem qs_setCmp (hc : X.calm = true) (hN : X.N.Nodup) (hy : X.N[k]? = some y) (hyl : X.env.scope.names.lookup y = some .local) (hsw : swapsWith e (some (.Name y py)) spos.line X.env = pure true) (C : CompAt e 0 t i ifs bw) (hcl : clausesOf e = ⟨t, i, ifs, 0⟩ :: gs) (nw : NewC X cl mk o0 ho c0)
   (hex : ∀ u : Value → Sem Unit, evalThenUse e X.env u = (do let _ ← comprehension e scope X.env pos' mk false (eval i X.env) (some u))) (hi : QI X cl W t i mi) (ok : BlkOk X.N X.env.scope scope own) (hg : Blk X scope fun Y => QG Y cl t js g) (ht : Blk X scope fun Y => QTs Y cl W0 ifs tm)
   (hb : ∀ (n : Nat) (D : Addr), Blk X scope fun Y => BodyOk Y cl bw ws1 n D (mb n)) (hj : ∀ j ∈ js, j ∈ own.map (·.2)) (hw : ∀ j ∈ ws1, j ∈ own.map (·.2)) (hs : ∀ x, foldedSetIterable i X.env x = pure x) (hk : KfOk X cl W ho kf) : QS X cl W (.Assign [.Name y py] e spos) (sAsg (cRun c0 (own.map (·.2)) mi g tm mb kf) (gName k)) := by
 refine ⟨fun pins s σ H D I h => ?_⟩
 rw [exec_Assign_Name_used _ _ _ _ hsw]
 refine wpAny_bind (wpAny_standAt (wpAny_bind ?_))
 rw [hex]
 have h2 := asg_lift h
 refine wpAny_bind (thn (cmp_core (Qf := fun _ s' => SP X pins D .next s') hc hN I C hcl nw hi ok hg ht hb hj hw hs h2 (hk σ _) fun L C s' m H' I' q hn f => ?_) fun _ s' hq => wpAny_pure (wpAny_pure hq))
 change wpAny _ _ (assign (.Name y py) X.env (.ref L)) _ _ _
 refine wpAny_assign_Name (store_ok2 (v := V.ref L) I' hN hy (.inl hyl) rfl (fun s2 I2 ⟨a, sb, ha⟩ => ?_) (.inr hyl))
 obtain ⟨f0, f1, f2, f3, f4, f5⟩ := f
 have haC : C ≠ a := ha.elim (fun z => by rw [z]; exact f1) fun z ee => f4 y a z ee.symm
 exact ⟨m, hn.sameBut sb haC, fun h3 sb3 => ⟨_, H', I2.turned (t' := s2.toks) (fun b ob hb eb => (sb3.2 b hb).trans eb) f0 f1 f3 f4 f5, q⟩⟩
variable {elt kx vx t0 i0 t1 i1 t2 i2 : Expr} {f0 f1 f2 : List Expr} {pos : Pos} {ws2 js1 js2 : List Nat} {g1 g2 : MG} {tm1 tm2 : MT} {mi1 mi2 : MI} {me mk0 : ME}
theorem blk_xe (X : Cx) (s : Shared) (H : Hp) (sc : Scope) (ce : Env) (fp : List Addr) : ∀ a z, ¬ (X.blk s H sc ce fp).xe a z := fun _ _ z => z
theorem qe_l2 (kf : Sto → Unit → Sto → R U) (hk : KfOk X cl W (fun _ => .lst []) kf) (hc : X.calm = true) (hN : X.N.Nodup) (ws1 : List Nat) (hi : QI X cl W t0 i0 mi) (ok : BlkOk X.N X.env.scope scope own) (hg : Blk X scope fun Y => QG Y cl t0 js g) (ht : Blk X scope fun Y => QTs Y cl W0 f0 tm)
   (hi1 : Blk X scope fun Y => QI Y cl W0 t1 i1 mi1) (hg1 : Blk X scope fun Y => QG Y cl t1 js1 g1) (ht1 : Blk X scope fun Y => QTs Y cl W0 f1 tm1) (he : Blk X scope fun Y => QE Y cl W0 elt me) (hj : (∀ j ∈ js, j ∈ own.map (·.2)) ∧ (∀ j ∈ ws1, j ∈ own.map (·.2)) ∧ ∀ j ∈ js1, j ∈ ws1)
   (hs : ∀ x, foldedSetIterable i0 X.env x = pure x := by intro _; rfl) (hs1 : ∀ env x, foldedSetIterable i1 env x = pure x := by intro _ _; rfl) : QE X cl W (L2' elt t0 i0 t1 i1 f0 f1 scope pos) (eL2 kf (own.map (·.2)) ws1 mi g tm mi1 g1 tm1 me) :=
 qe_cmpN hc hN at_l2_0 rfl new_list rfl hi ok hg ht (fun n D s H C cz fp => body_next at_l2_1 (hi1 s H C cz fp) (hs1 _) hc (blk_xe _ _ _ _ _ _) (hg1 s H C cz fp) (ht1 s H C cz fp) (body_item (he s H C cz fp) (blk_xe _ _ _ _ _ _)) hj.2.2 nofun) hj.1 hj.2.1 hs hk
theorem qs_l2 (kf : Sto → Unit → Sto → R U) (hk : KfOk X cl W (fun _ => .lst []) kf) (hc : X.calm = true) (hN : X.N.Nodup) (hy : X.N[k]? = some y) (hyl : X.env.scope.names.lookup y = some .local) (hsw : swapsWith (L2' elt t0 i0 t1 i1 f0 f1 scope pos) (some (.Name y py)) spos.line X.env = pure true) (ws1 : List Nat) (hi : QI X cl W t0 i0 mi) (ok : BlkOk X.N X.env.scope scope own) (hg : Blk X scope fun Y => QG Y cl t0 js g) (ht : Blk X scope fun Y => QTs Y cl W0 f0 tm)
   (hi1 : Blk X scope fun Y => QI Y cl W0 t1 i1 mi1) (hg1 : Blk X scope fun Y => QG Y cl t1 js1 g1) (ht1 : Blk X scope fun Y => QTs Y cl W0 f1 tm1) (he : Blk X scope fun Y => QE Y cl W0 elt me) (hj : (∀ j ∈ js, j ∈ own.map (·.2)) ∧ (∀ j ∈ ws1, j ∈ own.map (·.2)) ∧ ∀ j ∈ js1, j ∈ ws1)
   (hs : ∀ x, foldedSetIterable i0 X.env x = pure x := by intro _; rfl) (hs1 : ∀ env x, foldedSetIterable i1 env x = pure x := by intro _ _; rfl) : QS X cl W (.Assign [.Name y py] (L2' elt t0 i0 t1 i1 f0 f1 scope pos) spos) (sAsg (eL2 kf (own.map (·.2)) ws1 mi g tm mi1 g1 tm1 me) (gName k)) :=
 qs_setCmp hc hN hy hyl hsw at_l2_0 rfl new_list (fun _ => rfl) hi ok hg ht (fun n D s H C cz fp => body_next at_l2_1 (hi1 s H C cz fp) (hs1 _) hc (blk_xe _ _ _ _ _ _) (hg1 s H C cz fp) (ht1 s H C cz fp) (body_item (he s H C cz fp) (blk_xe _ _ _ _ _ _)) hj.2.2 nofun) hj.1 hj.2.1 hs hk
end
end Pu
namespace Pu
open PySem PySem.Spec L2
open PyProof.Rows hiding St
section
variable {X : Cx} {pins : List (Addr × Obj)} {σ : L2.St} {H : Hp} {s : Shared} {d : Addr} {o : Obj} {es : List Ent}
end
def ItN (d : Addr) (o : Obj) (u : HO) (ks : List V) : It := ⟨fun i H => H d = some (.frz o u) ∧ i < ks.length, fun i H x H' => H' = H ∧ ks[i]? = some x, fun i H => H d = some (.frz o u) ∧ ks.length ≤ i⟩
section
variable {B : Bx} {ι : List Addr} {F : Addr → Prop} {H : Hp} {S : Sto} {a : Addr} {φ : Heap → Prop} {od : Obj}
end
def iDic (m : ME) : MI := fun ρ S => (m ρ S).bind fun u S1 => match u with
 | .v (.dic kvs) => .ok ⟨kvs.map fun p => .v p.1, none⟩ S1
 | .r n => (match S1[n]? with
   | some (.dicL kvs) => .ok ⟨kvs.map fun p => .v p.1, none⟩ S1
   | _ => .er)
 | _ => .er
section
variable {X : Cx} {cl : Nat → Addr} {W : WX} {tg e : Expr} {me : ME}
noncomputable def eLk (pick : Env' → Sto → Option Nat) (m : ME) : ME := fun ρ S => match pick ρ S with
 | none => m ρ S
 | some n => match S[n]? with
   | some (.dic kvs) => (noEx (m ρ (S.set n (.dicL kvs)))).bind fun u S2 => (match S2[n]? with
     | some (.dicL kvs') => .ok u (S2.set n (.dic kvs'))
     | _ => .er)
   | _ => m ρ S
def unlS (n : Nat) (S : Sto) (k : Sto → RS) : RS := match S[n]? with
 | some (.dicL kvs) => k (S.set n (.dic kvs))
 | _ => .er
noncomputable def sLk (pick : Env' → Sto → Option Nat) (m : MS) : MS := fun ρ S => match pick ρ S with
 | none => m ρ S
 | some n => match S[n]? with
   | some (.dic kvs) => (match m ρ (S.set n (.dicL kvs)) with
     | .nx ρ2 S2 => unlS n S2 (.nx ρ2)
     | .rt u S2 => unlS n S2 (.rt u)
     | .bk ρ2 S2 => unlS n S2 (.bk ρ2)
     | .ct ρ2 S2 => unlS n S2 (.ct ρ2)
     | _ => .er)
   | _ => m ρ S
end
end Pu
namespace Pu
open PySem PySem.Spec L2
open PyProof.Rows hiding St
section
variable {prog : Program} {w : World} {A : Around} {d : Addr} {od : Obj} {ar : Array DictEntry} {ep : Nat}
theorem walks_raw (hh : A.handled = none) (I : Addr) (hne : d ≠ I) (hx : od.ExactDict) (hdt : od.data = .dict ar ep) :
   Walks prog w A I [I, d] [I] ar.size (fun i v => ∃ en, ar[i]? = some en ∧ v = en.key) (fun i h => h.IsKeyIter I d i ar.size ep ∧ h.get? d = some od) where
 sub := fun b hb => by simp at hb; simp [hb]
 frame := fun _ _ _ st hk => ⟨st.1.at fun o e => hk I (by simp) o e, hk d (by simp) _ st.2⟩
 item := fun i s Q E hi st hQ => by
   obtain ⟨en, he⟩ : ∃ en, ar[i]? = some en := ⟨ar[i], by simp [hi]⟩
   refine next_key_item st.1 st.2 hdt rfl he fun h' st' sb => ?_
   exact hQ en.key h' s.toks ⟨en, he, rfl⟩ ⟨st', (sb.2 d hne).trans st.2⟩ fun b o hb e => (sb.2 b (fun z => hb (by simp [z]))).trans e
 done := fun s Q E st hQ => next_key_end hh st.1 st.2 hdt rfl (Nat.le_refl _) fun h' eb => hQ h' s.toks fun b o hb e => eb b o (fun z => hb (by simp [z])) e
 self := fun _ _ _ _ st hQ => wpAny_pyIter_keyiter st.1 hQ
theorem src_raw (lo : (d == sysModules) = false) (hx : od.ExactDict) (hdt : od.data = .dict ar ep) : PySem.W.KdlSrc prog w "dict" d d ar.size (fun i v => ∃ en, ar[i]? = some en ∧ v = en.key) (fun h => h.get? d = some od) where
 type := fun _ h => ⟨od, h, hx.1⟩
 there := fun _ h => ⟨Heap.lt_size h, Heap.lt_size h⟩
 keep := fun _ _ h hk => hk d (.inl rfl) _ h
 notList := by decide
 notTuple := by decide
 hint := fun _ _ _ _ h hq => PySem.W.kdl_hint_dict ⟨od, h, hx.1⟩ hq
 iter := fun A s hh h => ⟨_, _, (fun _ _ hq => iter_keys lo h hx hdt hq), walks_raw hh _ (Nat.ne_of_lt (Heap.lt_size h)) hx hdt, ⟨⟨_, Heap.get?_push_size _ rfl, rfl, rfl⟩, Heap.get?_push_of_some _ h⟩⟩
end
def keysD (kvs : List (D × U)) : List D := kvs.map (·.1)
noncomputable def fListX : FA := fun us S => match us with
 | [u] => (match asDic S u with
   | some kvs => some (.v (.lst (keysD kvs)), S)
   | none => fListV [u] S)
 | _ => none
theorem vals_map {α : Type} {f : α → V} : ∀ {as : List α} {us : List Value}, as.length = us.length → (∀ (i : Nat) a u, as[i]? = some a → us[i]? = some u → RelV (f a) u) → Vals (as.map f) us
 | [], [], _, _ => .nil
 | [], _ :: _, h, _ => by simp at h
 | _ :: _, [], h, _ => by simp at h
 | a :: as, u :: us, h, hr => .cons (hr 0 a u rfl rfl) (vals_map (by simpa using h) fun i b v hb hv => hr (i + 1) b v (by simpa using hb) (by simpa using hv))
section
variable {X : Cx} {cl : Nat → Addr}
theorem repKU_keys {B : Bx} {ι : List Addr} {F : Addr → Prop} {H : Hp} : ∀ {es : List Ent} {kvs : List (D × U)}, RepKU B ι F H es kvs → Reps B F H (es.map fun e => V.ref e.2.1) (keysD kvs)
 | _, _, .nil => .nil
 | _, _, .cons ⟨_, b, _, _⟩ t => .cons b (repKU_keys t)
theorem cq_listX (hcalm : X.calm = true) : CallR X (.type "list") (liftC (bx X cl) fListX) := by
 intro pins s σ H xs us Q I r ⟨ι, F, S, as, rl, z, fi⟩
 unfold fListX at fi
 split at fi
 · rename_i u'
   cases qd : asDic S u' with
   | none => rw [qd] at fi; exact cq_listV pins s σ H xs us Q I r ⟨ι, F, S, [u'], rl, z, fi⟩
   | some kvs =>
     rw [qd] at fi
     cases z with
     | @cons x _ xs' _ z1 z2 =>
       cases z2
       obtain ⟨u, rfl, rx⟩ := vals1 r
       obtain ⟨a, es, rfl, ha, hz, rk⟩ := asDic_ok rl z1 qd
       obtain rfl : u = Value.ref a := rx
       have hk : ObjOk X.prog X.w H s.heap a (dicO X.prog X.w a es) := by
         rcases ha with h | ⟨od, h⟩
         · exact I.hok a _ h
         · exact (I.hok a _ h).2
       obtain ⟨⟨o, ar, ep, h1, h2, h3, h4, h5, h6⟩, _, _⟩ := hk
       have hsz : ar.size = es.length := by have := congrArg List.length h4; simpa using this
       refine PySem.W.kdl_call (src_raw (prog := X.prog) (w := X.w) (ep := ep) h6 h2 h3) (I.ok.hd hcalm) h1 (by rw [hsz]; exact hz) fun h' tk acc c' hkp hD hacc => ?_
       have hv : Vals (es.map fun e => V.ref e.2.1) acc.toList := vals_map (by have := hacc.1; simp only [Array.length_toList]; omega) fun i e v he hv => by
         obtain ⟨en, hen, rfl⟩ := hacc.2 i v (by rw [← Array.getElem?_toList]; exact hv)
         have q : ar.toList[i]? = some (entryOfKey (nestedKind X.prog X.w) e) := by rw [h4, List.getElem?_map, he]; rfl
         rw [Array.getElem?_toList, hen] at q
         cases q
         rfl
       have hf : H s.heap.objs.size = none := I.hok.fresh (Nat.le_refl _)
       have e2 : Evo ι F H ι (addF F s.heap.objs.size) (upd H s.heap.objs.size (.lst (es.map fun e => V.ref e.2.1))) := Evo.newF hf
       refine ⟨.ref s.heap.objs.size, upd H s.heap.objs.size (.lst (es.map fun e => V.ref e.2.1)), I.laid (t' := tk) hkp (Nat.le_refl _)
         (show ObjOk X.prog X.w _ _ _ (.lst (es.map fun e => V.ref e.2.1)) from ⟨by rw [List.length_map]; exact hz, acc.toList, c', hv, by rw [Array.toArray_toList]; exact hD⟩), rfl, ?_⟩
       exact fi.go e2 (rl.newF hf) (.v (.lst (.inr rfl) upd_same ((repKU_keys rk).mono e2)))
 · exact fi.no
def fPop : FM := fun x us S => match x, us with
 | .r n, [] => (match S[n]? with
   | some (.lst xs) => (match xs[xs.length - 1]? with
     | some y => some (y, S.set n (.lst xs.dropLast))
     | none => none)
   | _ => none)
 | _, _ => none
def fExtend : FM := fun x us S => match x, us with
 | .r n, [w] => (match S[n]?, asLst S w with
   | some (.lst xs), some zs => if xs.length + zs.length ≤ 10000000 then some (.v .non, S.set n (.lst (xs ++ zs))) else none
   | _, _ => none)
 | _, _ => none
def fMax2 : FA := fun us S => match us with
 | [.v (.int i), .v (.int j)] => some (.v (.int (if j > i then j else i)), S)
 | _ => none
def fMin2 : FA := fun us S => match us with
 | [.v (.int i), .v (.int j)] => some (.v (.int (if j < i then j else i)), S)
 | _ => none
def okO : R U → Option (U × Sto)
 | .ok u S => some (u, S)
 | _ => none
def fCmpO (cs : List Nat) (mf : List U → Sto → R U) : F2 := fun x y S => match asIns S x, asIns S y with
 | some (c, _), some (c', _) => if c = c' ∧ c ∈ cs then okO (mf [x, y] S) else none
 | _, _ => none
variable {k : Nat} {f : Addr} {fd : FuncData} {ps : List Str} {mf : List U → Sto → R U} {cs : List Nat}
def fLenO (cs : List Nat) (mf : List U → Sto → R U) : FA := fun us S => match us with
 | [x] => (match asIns S x with
   | some (c, _) => if c ∈ cs then (match mf [x] S with
     | .ok (.v (.int i)) S' => if 0 ≤ i ∧ i < 1000000 then some (.v (.int i), S') else none
     | _ => none) else none
   | none => none)
 | _ => none
end
def sAug (i : Nat) (f : F2) (m : ME) : MS := fun ρ S => match ρ[i]? with
 | some (some x) => (m ρ S).st ρ fun y S1 => (match f x y S1 with
   | some (z, S2) => .nx (ρ.set i (some z)) S2
   | none => .er)
 | _ => .er
section
variable {X : Cx} {cl : Nat → Addr} {W : WX} {e : Expr} {m : ME} {i : Nat} {x : Str} {op : Operator} {f : F2} {pos pos' : Pos}
def fExt2 : F2 := fun x y S => match x with
 | .r n => (match S[n]?, asLst S y with
   | some (.lst xs), some zs => if xs.length + zs.length ≤ 10000000 then some (.r n, S.set n (.lst (xs ++ zs))) else none
   | _, _ => none)
 | _ => none
def eChain (f f' : F2) (a b c : ME) : ME := fun ρ S => (a ρ S).bind fun x S1 => (b ρ S1).bind fun y S2 => (ofO (f x y S2)).bind fun z S3 => (ofO (isB z S3)).bind fun k S4 => if k = true then (c ρ S4).bind fun w S5 => ofO (f' y w S5) else .ok (.v (.bl false)) S4
end
end Pu
namespace Pu
open PySem
def vv (p : D × D) : D × U := (p.1, .v p.2)
noncomputable def dgetD (kvs : List (D × D)) (k : D) : Option D := (kvs.find? fun p => decide (p.1 = k)).map (·.2)
noncomputable def dhasD (kvs : List (D × D)) (k : D) : Bool := (dgetD kvs k).isSome
noncomputable def dputD (kvs : List (D × D)) (k : D) (w : D) : List (D × D) := if dhasD kvs k = true then kvs.map fun p => if p.1 = k then (p.1, w) else p else kvs ++ [(k, w)]
theorem dget_vv (kvs : List (D × D)) (k : D) : dget (kvs.map vv) k = (dgetD kvs k).map U.v := by
 unfold dget dgetD
 rw [List.find?_map]
 simp only [Option.map_map]
 rfl
theorem dhas_vv (kvs : List (D × D)) (k : D) : dhas (kvs.map vv) k = dhasD kvs k := by
 unfold dhas dhasD
 rw [dget_vv]; cases dgetD kvs k <;> rfl
theorem dput_vv (kvs : List (D × D)) (k d : D) : dput (kvs.map vv) k (.v d) = (dputD kvs k d).map vv := by
 unfold dput dputD
 rw [dhas_vv]
 split
 · simp only [List.map_map]
   congr 1
   funext p
   simp only [Function.comp]
   by_cases h : p.1 = k <;> simp [vv, h]
 · simp [vv]
theorem dgetD_nil (k : D) : dgetD [] k = none := rfl
theorem dgetD_cons (p : D × D) (kvs : List (D × D)) (k : D) : dgetD (p :: kvs) k = if p.1 = k then some p.2 else dgetD kvs k := by
 unfold dgetD
 rw [List.find?_cons]
 by_cases h : p.1 = k <;> simp [h]
theorem dgetD_app (acc : List (D × D)) (k' w k : D) : dgetD (acc ++ [(k', w)]) k = (dgetD acc k).or (if k' = k then some w else none) := by
 induction acc with
 | nil => simp [dgetD_cons, dgetD_nil]
 | cons p r ih => simp only [List.cons_append, dgetD_cons, ih]; split <;> rfl
theorem dgetD_map (kvs : List (D × D)) (k w k' : D) : dgetD (kvs.map fun p => if p.1 = k then (p.1, w) else p) k' = if k' = k then (dgetD kvs k).map (fun _ => w) else dgetD kvs k' := by
 induction kvs with
 | nil => simp [dgetD_nil]
 | cons p r ih =>
   simp only [List.map_cons, dgetD_cons, ih]
   by_cases h1 : p.1 = k
   · by_cases h2 : k' = k
     · simp [h1, h2]
     · have h3 : ¬ k = k' := fun z => h2 z.symm
       simp [h1, h2, h3]
   · by_cases h2 : k' = k
     · simp [h1, h2]
     · simp [h1, h2]
theorem dgetD_put (kvs : List (D × D)) (k w k' : D) : dgetD (dputD kvs k w) k' = if k' = k then some w else dgetD kvs k' := by
 unfold dputD
 by_cases h : dhasD kvs k = true
 · rw [if_pos h, dgetD_map]
   unfold dhasD at h
   obtain ⟨x, hx⟩ := Option.isSome_iff_exists.mp h
   rw [hx]; rfl
 · rw [if_neg h, dgetD_app]
   unfold dhasD at h
   have hn : dgetD kvs k = none := by simpa using h
   by_cases h2 : k' = k
   · subst h2; rw [hn]; simp
   · have h3 : ¬ k = k' := fun z => h2 z.symm
     simp [h2, h3]
theorem dputD_len (kvs : List (D × D)) (k w : D) : (dputD kvs k w).length ≤ kvs.length + 1 := by
 unfold dputD; split <;> simp
theorem dputD_keys (kvs : List (D × D)) (k w : D) : (dputD kvs k w).map (·.1) = if dhasD kvs k = true then kvs.map (·.1) else kvs.map (·.1) ++ [k] := by
 unfold dputD
 split
 · rw [List.map_map]; congr 1; funext p; simp only [Function.comp]; split <;> rfl
 · simp
theorem dhasD_iff (kvs : List (D × D)) (k : D) : dhasD kvs k = true ↔ k ∈ kvs.map (·.1) := by
 unfold dhasD
 induction kvs with
 | nil => simp [dgetD_nil]
 | cons p r ih =>
   rw [dgetD_cons, List.map_cons, List.mem_cons]
   by_cases h : p.1 = k
   · simp [h]
   · have h2 : ¬ k = p.1 := fun z => h z.symm
     simp [h, h2, ih]
theorem dputD_nd {kvs : List (D × D)} {k w : D} (h : (kvs.map (·.1)).Nodup) : ((dputD kvs k w).map (·.1)).Nodup := by
 rw [dputD_keys]
 split
 · exact h
 · rename_i hk
   rw [dhasD_iff] at hk
   rw [List.nodup_append]
   exact ⟨h, by simp, fun a ha b hb => by simp at hb; subst hb; rintro rfl; exact hk ha⟩
theorem dgetD_mem {kvs : List (D × D)} {k v : D} (nd : (kvs.map (·.1)).Nodup) (h : (k, v) ∈ kvs) : dgetD kvs k = some v := by
 induction kvs with
 | nil => cases h
 | cons p r ih =>
   rw [dgetD_cons]
   rw [List.map_cons, List.nodup_cons] at nd
   rcases List.mem_cons.mp h with e | e
   · subst e; simp
   · have : p.1 ≠ k := fun z => nd.1 (by rw [z]; exact List.mem_map_of_mem (f := (·.1)) e)
     rw [if_neg this]; exact ih nd.2 e
section
variable {q : U → Sto → Prop} {S : Sto}
theorem v_inC {n : Nat} {k : List D} {kvs : List (D × D)} (neg : Bool) (h : S[n]? = some (.dic (kvs.map vv))) : wpO (fInX neg (.v (.tup k)) (.r n) S) q = (isKey (.tup k) = true ∧ q (.v (.bl (cond neg (!dhasD kvs (.tup k)) (dhasD kvs (.tup k))))) S) := by
 rw [v_inD (kvs := kvs.map vv) (by unfold asDic; simp only [h]), dhas_vv]
theorem v_getC {n : Nat} {k : List D} {w : D} {kvs : List (D × D)} (h : S[n]? = some (.dic (kvs.map vv))) : wpO (fGet (.r n) [.v (.tup k), .v w] S) q = (isKey (.tup k) = true ∧ q (.v ((dgetD kvs (.tup k)).getD w)) S) := by
 rw [v_get2 (kvs := kvs.map vv) (by unfold asDic; simp only [h]), dget_vv]
 cases dgetD kvs (.tup k) <;> rfl
theorem v_getV {k : List D} {w : D} {kvs : List (D × D)} : wpO (fGet (.v (.dic kvs)) [.v (.tup k), .v w] S) q = (isKey (.tup k) = true ∧ q (.v ((dgetD kvs (.tup k)).getD w)) S) := by
 rw [v_get2 (kvs := kvs.map vv) rfl, dget_vv]
 cases dgetD kvs (.tup k) <;> rfl
theorem v_setC {n : Nat} {k : List D} {d : D} {kvs : List (D × D)} {p : Sto → Prop} (h : S[n]? = some (.dic (kvs.map vv))) : wpS (fSet (.r n) (.v (.tup k)) (.v d) S) p = ((isKey (.tup k) = true ∧ kvs.length < 100000) ∧ p (S.set n (.dic ((dputD kvs (.tup k) d).map vv)))) := by
 rw [v_setD h, dput_vv, List.length_map]
theorem isDc_c {n : Nat} {kvs : List (D × U)} (h : S[n]? = some (.dic kvs)) : isDc S (.r n) = true := by
 unfold isDc asDic; simp [h]
theorem fin_d {l : Sto} {k : Nat} {kvs : List (D × D)} (h : l[k]? = some (.dic (kvs.map vv))) : fin S (.r (S.length + k)) (S ++ l) = .ok (.v (.dic kvs)) S := by
 unfold fin
 simp only [fixU, fixS_same]
 rw [if_neg (by omega)]
 have e : frz S.length 4 (S ++ l) (.r (S.length + k)) = some (.dic kvs) := by
   show (if S.length + k < S.length then none else _) = _
   rw [if_neg (by omega), sto_k, h]
   show (optAll _ (kvs.map vv)).map D.dic = _
   rw [show vv = fun p : D × D => (p.1, U.v p.2) from rfl, optAll_dic]
   rfl
 rw [e]; rfl
theorem fin_d0 {l : Sto} {kvs : List (D × D)} : fin S (.r S.length) (S ++ .dic (kvs.map vv) :: l) = .ok (.v (.dic kvs)) S := fin_d (k := 0) rfl
theorem seqV_at {u : U} {xs : List U} {k : List U → Prop} (l : Sto) (h : asSeq S u = some xs) : seqV (S ++ l) u k = k xs := by
 unfold seqV; rw [asSeq_app l h]
theorem seqV_at0 {u : U} {xs : List U} {k : List U → Prop} (h : asSeq S u = some xs) : seqV S u k = k xs := by
 unfold seqV; rw [h]
theorem data_get2 {α : Type} {f : α → D} {rows : List α} {i : Nat} {w : U} (hw : (rows.map (U.v ∘ f))[i]? = some w) : ∃ r, rows[i]? = some r ∧ w = .v (f r) ∧ rows.drop i = r :: rows.drop (i + 1) :=
 data_get (by rw [List.map_map]; exact hw)
def uFs (fs : List (Str × D)) : List (Str × U) := fs.map fun p => (p.1, .v p.2)
theorem fixC_ins (n k : Nat) (c : Nat) (fs : List (Str × D)) (T : Sto) : fixC n k T (.ins c (uFs fs)) = some (.ins c (uFs fs)) := by
 show (optAll _ (uFs fs)).map _ = _
 rw [optAll_id fun x hx => ?_]
 · rfl
 · obtain ⟨p, _, rfl⟩ := List.mem_map.mp hx
   rfl
theorem fin_i {l : Sto} {k c : Nat} {fs : List (Str × D)} (h : l[k]? = some (.ins c (uFs fs))) : fin S (.r (S.length + k)) (S ++ l) = .ok (.v (.ins c fs)) S := by
 unfold fin
 simp only [fixU, fixS_same]
 rw [if_neg (by omega)]
 have e : frz S.length 4 (S ++ l) (.r (S.length + k)) = some (.ins c fs) := by
   show (if S.length + k < S.length then none else _) = _
   rw [if_neg (by omega), sto_k, h]
   show (optAll _ (uFs fs)).map (D.ins c) = _
   have : ∀ fs : List (Str × D), optAll (fun p : Str × U => (frz S.length 3 (S ++ l) p.2).map fun d => (p.1, d)) (uFs fs) = some fs := by
     intro fs
     induction fs with
     | nil => rfl
     | cons p r ih => unfold uFs at ih ⊢; simp [optAll, ih]
   rw [this]; rfl
 rw [e]; rfl
theorem fin_i0 {l : Sto} {c : Nat} {fs : List (Str × D)} : fin S (.r S.length) (S ++ .ins c (uFs fs) :: l) = .ok (.v (.ins c fs)) S := fin_i (k := 0) rfl
end
end Pu
namespace Pu
open PySem L2
section
variable {q : U → Sto → Prop} {S : Sto} {X : XP} {ρ : Env'} {Q : Post}
def dicW (S : Sto) (u : U) (k : List D → Prop) : Prop := match u with
 | .v (.dic kvs) => k (kvs.map (·.1))
 | .r n => (match S[n]? with
   | some (.dicL kvs) => k (kvs.map (·.1))
   | _ => False)
 | _ => False
def unl (n : Nat) (S : Sto) (k : Sto → Prop) : Prop := match S[n]? with
 | some (.dicL kvs) => k (S.set n (.dic kvs))
 | _ => False
theorem asDic_seq {u : U} {xs : List U} (h : asSeq S u = some xs) : asDic S u = none := by
 cases u with
 | v d => cases d <;> first | rfl | cases h
 | r n =>
   unfold asSeq at h; unfold asDic
   simp only at h ⊢
   cases hc : S[n]? with
   | none => rfl
   | some c => rw [hc] at h; cases c <;> first | rfl | cases h
theorem v_listX_s {u : U} {ds : List D} (h : asSeq S u = some (ds.map U.v)) : wpO (fListX [u] S) q = q (.v (.lst ds)) S := by
 unfold fListX
 simp only [asDic_seq h]
 rw [v_listV, seqV_at0 h, wpo_allV_map]
@[simp ↓] theorem v_listX_t (ds : List D) : wpO (fListX [.v (.tup ds)] S) q = q (.v (.lst ds)) S := v_listX_s rfl
@[simp ↓] theorem v_listX_l (ds : List D) : wpO (fListX [.v (.lst ds)] S) q = q (.v (.lst ds)) S := v_listX_s rfl
theorem v_lenO {cs : List Nat} {mf : List U → Sto → R U} {x : U} {c : Nat} {fs : List (Str × U)} (hx : asIns S x = some (c, fs)) (hc : c ∈ cs) {i : Int} {S' : Sto} (hm : mf [x] S = .ok (.v (.int i)) S') (h0 : 0 ≤ i) (h1 : i < 1000000) : wpO (fLenO cs mf [x] S) q = q (.v (.int i)) S' := by
 unfold fLenO
 simp only [hx, hc, if_true, hm, h0, h1, and_self]
 rfl
end
section
variable {α : Type} {S : Sto} {src : Option Nat} {c0 : Option Cell} {g : MG} {t : MT} {mb : Env' → Sto → R Unit} {ρ : Env'}
def cL (acc : List D) : Cell := .lst (acc.map U.v)
noncomputable def cD (kvs : List (D × D)) : Cell := .dic (kvs.map vv)
theorem w_item {e : ME} {q : Unit → Sto → Prop} {X : XP} {acc : List D} (y : D) (hl : acc.length < 100000) (he : wpr (e ρ (S ++ [cL acc])) (fun u T => u = .v y ∧ T = S ++ [cL acc]) (fun _ _ _ => False)) (k : q () (S ++ [cL (acc ++ [y])])) : wpr (cItem S.length e ρ (S ++ [cL acc])) q X := by
 unfold cItem
 rw [eq_of_wpr he]
 simp only [noEx_ok, R.bind_ok, sto_0, List.getElem?_cons_zero, cL, List.length_map]
 rw [if_pos hl]
 simp only [set_0, List.set_cons_zero, wpr_ok]
 simpa [cL] using k
theorem kfV_at {S1 : Sto} {acc : List D} {q : U → Sto → Prop} {X : XP} : wpr (kfV S1 () (S1 ++ [cL acc])) q X = q (.v (.lst acc)) S1 := by
 unfold kfV
 simp only [sto_0, List.getElem?_cons_zero, cL, allV_map, if_true, wpr_ok]
end
end Pu
namespace Pu
def pickV (i : Nat) : Env' → Sto → Option Nat := fun ρ _ => match ρ[i]? with
 | some (some (.r n)) => some n
 | _ => none
end Pu
namespace Pu
open PySem L2
section
variable {B : Bx} {ι : List Addr} {F F' : Addr → Prop} {H : Hp} {S : Sto} {n : Nat} {a : Addr}
theorem Evo.same (hF : ∀ a, F a → F' a) : Evo ι F H ι F' H := Evo.kept (fun _ _ h => h) hF
theorem Rel.kill (r : Rel B ι F S H) (h1 : ι[n]? = some a) (hF : ∀ x, F x → F' x) (hF2 : ∀ x, F' x → F x ∨ x = a ∨ H x = some (.own a)) : Rel B ι F' (S.set n .dead) H := by
 have e : Evo ι F H ι F' H := Evo.same hF
 have ne : ∀ (m : Nat) (b : Addr), ι[m]? = some b → m ≠ n → b ≠ a := fun m b g1 hm z => by
   subst z
   obtain ⟨q1, e1⟩ := List.getElem?_eq_some_iff.mp h1
   obtain ⟨q2, e2⟩ := List.getElem?_eq_some_iff.mp g1
   exact hm ((List.getElem_inj r.nd).mp (e2.trans e1.symm))
 refine ⟨by simp [r.len], r.nd, fun m b d g1 g2 g3 z => ?_, fun m b d g1 g2 => ?_, r.there, fun x z => ?_, r.now⟩
 · by_cases hm : m = n
   · subst hm
     rw [List.getElem?_set] at g2
     simp only [if_true] at g2
     split at g2
     · cases g2; cases g3
     · cases g2
   · rw [List.getElem?_set_ne (Ne.symm hm)] at g2
     rcases hF2 b z with z | z | z
     · exact r.nf m b d g1 g2 g3 z
     · exact ne m b g1 hm z
     · exact r.now b (List.mem_of_getElem? g1) _ z
 · by_cases hm : m = n
   · subst hm
     rw [List.getElem?_set] at g2
     simp only [if_true] at g2
     split at g2
     · cases g2; trivial
     · cases g2
   · rw [List.getElem?_set_ne (Ne.symm hm)] at g2
     have x := r.ok m b d g1 g2
     cases d with
     | lst xs => obtain ⟨vs, h, q⟩ := x; exact ⟨vs, h, q.mono e⟩
     | tpc xs => obtain ⟨vs, h, q⟩ := x; exact ⟨vs, h, q.mono e⟩
     | dic kvs => obtain ⟨es, h, z, q⟩ := x; exact ⟨es, h, z, q.mono e⟩
     | dicL kvs => obtain ⟨es, od, h, z, q⟩ := x; exact ⟨es, od, h, z, q.mono e⟩
     | ins k fs =>
       obtain ⟨dx, vs, h, hd, nd, q⟩ := x
       refine ⟨dx, vs, h, hd, fun z => ?_, q.mono e⟩
       rcases hF2 dx z with z | z | z
       · exact nd z
       · subst z; exact r.now dx (List.mem_of_getElem? h1) _ hd
       · rw [hd] at z
         have : b = a := by injection z with z; injection z
         exact ne m b g1 hm this
     | dead => trivial
 · rcases hF2 x z with z | z | z
   · exact r.fthere x z
   · subst z; exact r.there x (List.mem_of_getElem? h1)
   · rw [z]; simp
end
def plainU : U → Option D
 | .v d => some d
 | .r _ => none
noncomputable def fFz : F1 := fun u S => match u with
 | .v d => some (.v d, S)
 | .r n => match S[n]? with
   | some (.lst xs) => (allV xs).map fun ds => (.v (.lst ds), S.set n .dead)
   | some (.dic kvs) => (optAll (fun p : D × U => (plainU p.2).map fun d => (p.1, d)) kvs).map fun ds => (.v (.dic ds), S.set n .dead)
   | some (.ins c fs) => (optAll (fun p : Str × U => (plainU p.2).map fun d => (p.1, d)) fs).map fun ds => (.v (.ins c ds), S.set n .dead)
   | _ => none
noncomputable def eFz (m : ME) : ME := fun ρ S => (m ρ S).bind fun u S1 => ofO (fFz u S1)
theorem plainU_some {u : U} {d : D} (h : plainU u = some d) : u = .v d := by cases u <;> cases h; rfl
section
variable {X : Cx} {cl : Nat → Addr} {W : WX}
theorem RepU.plain {B : Bx} {ι : List Addr} {F : Addr → Prop} {H : Hp} {v : V} {d : D} (h : RepU B ι F H v (.v d)) : Rep B F H v d := by cases h; assumption
theorem Fin.fz {B : Bx} {ι : List Addr} {F : Addr → Prop} {H : Hp} {S : Sto} {Q : VK} {v : V} {u : U} (h : Fin B ι F H Q (fFz u S)) (r : Rel B ι F S H) (z : RepU B ι F H v u) : Q v H := by
 cases z with
 | v z => exact h.val r (.v z)
 | @r n a hn =>
   unfold fFz at h
   simp only at h
   cases q : S[n]? with
   | none => rw [q] at h; obtain ⟨_, _, e, _⟩ := h; cases e
   | some c =>
     rw [q] at h
     have ok := r.ok n a c hn q
     cases c with
     | dead => obtain ⟨_, _, e, _⟩ := h; cases e
     | dicL kvs => obtain ⟨_, _, e, _⟩ := h; cases e
     | tpc xs => obtain ⟨_, _, e, _⟩ := h; cases e
     | lst xs =>
       simp only at h
       cases qa : allV xs with
       | none => rw [qa] at h; obtain ⟨_, _, e, _⟩ := h; cases e
       | some ds =>
         rw [qa] at h
         obtain ⟨vs, ha, rs⟩ := ok
         have e : Evo ι F H ι (addF F a) H := Evo.same fun _ z => .inl z
         have rk : Rel B ι (addF F a) (S.set n .dead) H := r.kill hn (fun _ z => .inl z) fun x z => z.elim .inl fun z => .inr (.inl z)
         refine h.go e rk (.v (.lst (.inr rfl) ha ?_))
         rw [allV_some qa] at rs
         exact repus_reps (rs.mono e)
     | dic kvs =>
       simp only at h
       cases qa : optAll (fun p : D × U => (plainU p.2).map fun d => (p.1, d)) kvs with
       | none => rw [qa] at h; obtain ⟨_, _, e, _⟩ := h; cases e
       | some ds =>
         rw [qa] at h
         obtain ⟨es, ha, hl, rs⟩ := ok
         have e : Evo ι F H ι (addF F a) H := Evo.same fun _ z => .inl z
         have rk : Rel B ι (addF F a) (S.set n .dead) H := r.kill hn (fun _ z => .inl z) fun x z => z.elim .inl fun z => .inr (.inl z)
         refine h.go e rk (.v (.dic (.inr rfl) (.inl ha) hl (repK_of (optAll_paired (fun g p b pz qz => ?_) rs qa))))
         obtain ⟨p1, p2, p3, w, p4, p5⟩ := pz
         obtain ⟨d, q1, q2⟩ := Option.map_eq_some_iff.mp qz
         subst q2
         rw [plainU_some q1] at p5
         cases p5 with
         | v p5 => exact ⟨p1, p2.mono (ι := ι) (ι' := ι) e, p3, w, p4, p5.mono (ι := ι) (ι' := ι) e⟩
     | ins c fs =>
       simp only at h
       cases qa : optAll (fun p : Str × U => (plainU p.2).map fun d => (p.1, d)) fs with
       | none => rw [qa] at h; obtain ⟨_, _, e, _⟩ := h; cases e
       | some ds =>
         rw [qa] at h
         obtain ⟨dx, vs, ha, hd, nd, rs⟩ := ok
         have e : Evo ι F H ι (addF (addF F a) dx) H := Evo.same fun _ z => .inl (.inl z)
         have rk : Rel B ι (addF (addF F a) dx) (S.set n .dead) H := r.kill hn (fun _ z => .inl (.inl z)) fun x z => by
           rcases z with (z | z) | z
           · exact .inl z
           · exact .inr (.inl z)
           · subst z; exact .inr (.inr hd)
         refine h.go e rk (.v (.ins (.inl (.inr rfl)) (.inr rfl) ha hd (repF_of (optAll_paired (fun g p b pz qz => ?_) rs qa))))
         obtain ⟨p1, p5⟩ := pz
         obtain ⟨d, q1, q2⟩ := Option.map_eq_some_iff.mp qz
         subst q2
         rw [plainU_some q1] at p5
         exact ⟨p1, p5.plain.mono (ι := ι) (ι' := ι) e⟩
theorem qe_fz {e : Expr} {m : ME} (h : QE X cl W e m) : QE X cl W e (eFz m) :=
 PE.imp h fun σ H Q ⟨ι, F, S, ρ, r, en, o⟩ => ⟨ι, F, S, ρ, r, en, o.bind.mono fun x H1 ⟨ι1, F1, S1, x', e1, r1, z1, o1⟩ => o1.fin.fz r1 z1⟩
end
section
variable {q : U → Sto → Prop} {S : Sto} {X : XP} {ρ : Env'}
@[simp ↓] theorem w_fz (m : ME) : wpr (eFz m ρ S) q X = wpr (m ρ S) (fun u S1 => wpO (fFz u S1) q) X := by
 simp only [eFz, wpr_bind, wpr_ofO]
theorem v_fzL {n : Nat} {ds : List D} (h : S[n]? = some (.lst (ds.map U.v))) : wpO (fFz (.r n) S) q = q (.v (.lst ds)) (S.set n .dead) := by
 unfold fFz
 simp only [h, allV_map, Option.map_some]
 rfl
end
end Pu
namespace Pu
open PySem PySem.Spec L2
open PyProof.Rows hiding St
open PySem.W (ksEnv ksFn)
structure ErrD (P : Program) (K : PySem.W.Frag) (name qual : Str) (params : Arguments) (body : List Stmt) (scope : Scope) (C f : Addr) (fd : FuncData) : Prop where
 ex : ∃ (oc : Value) (od : Option Addr) (dV kV doc pm : Value) (an : Option Addr) (cda : Addr) (ct : Value) (osl : Array (Option Value)) (cc : Addr) (cl : Value) (cld : Option Addr) (csl : Array (Option Value)) (ccl : Value) (cdd : Option Addr) (vs : Array Value) (ccs : Array (Option Value)) (file : Str) (tf : Tok),
   fd = ksFn name qual params body scope dV kV doc pm an (.ref cda) ct cc ∧ K.lookup f = some ⟨oc, od, .func fd, osl⟩ ∧ PySem.W.codeIn K (.ref cda) qual = true ∧ K.lookup cc = some ⟨cl, cld, .cell (some (.ref C)), csl⟩ ∧
   K.lookup cda = some ⟨ccl, cdd, .fields vs, ccs⟩ ∧ vs[2]? = some (.str file tf) ∧ ((P.main.file : Str) == file) = true ∧ DflV K dV []
 cls : ∃ cd, PySem.W.clsIn K C = some cd
 sub : PySem.W.mroIn K C (.ref C) = some true
 op : PySem.W.nsIn K cStatics "thirdparty.any" = some none
 si : PySem.W.ks_superIn K C C "__init__" = some (some (.builtin "ValueError.__init__"))
 sv : PySem.W.subIn K (.ref C) (.type "ValueError") = some true
 oex : OexC K C
 kp : PySem.W.keepIn K (.ref f) = true
theorem bw_ok {X : Cx} {pins : List (Addr × Obj)} {σ : L2.St} {H : Hp} {s : Shared} {A : Around} {E : Value → Shared → Prop} {u a C : Addr} {us : List Value} {Q : Value → Shared → Prop} (T : OexC X.K C) (I : Inv X pins σ H s) (e : H a = some (exo a C none))
   (hu : s.heap.get? u = some (PySem.W.kxs_mw "ValueError.__init__" a)) (hl : us.length ≤ sizeLine) (h : ∀ s', Inv X pins σ H s' → Q .none s') : wpAny (model X.prog X.w) A (call (.ref u) us) Q E s := by
 obtain ⟨nm, q, N, bs, bm, sn, sub, ab, col, dd, k0, k1, k2, k3, k5, hC, hbm⟩ := T.cls
 obtain ⟨t1, ho⟩ := exo_at I.hok e
 obtain ⟨hp, g, d, t, os⟩ := s
 refine wpAny_call (codeAny_of_tree ?_)
 show wpAny _ A.in1 (callAny (.ref u) ⟨us, []⟩) _ _ _
 unfold callAny
 refine wpAny_bind (wpAny_load hu ?_)
 refine PySem.W.KFB.if_so (by show (Value.type "method-wrapper" == Value.type "method" || Value.type "method-wrapper" == Value.type "builtin_function_or_method" || Value.type "method-wrapper" == Value.type "method-wrapper") = true; decide) ?_
 refine wpAny_bind (PySem.W.check_bound_init F.excBase_ValueError.toExcCallFacts (I.kIn _ _ hC) ho rfl ?_)
 refine wpAny_bind (wpAny_pure (wpAny_pure ?_))
 refine ⟨plainId_quiet F.excBase_ValueError.init.plain _, codeAny_builtin F.excBase_ValueError.initEntry ?_⟩
 refine PySem.W.exc_init_tree (cls := .ref C) (t0 := t1) (dv := none) (c2 := .none) (c3 := .none) (b4 := .bool false) ho hl fun h' k hx _ => ?_
 have J := I.write (t' := t) (x := a) (e := a) (o := exo a C none) (by rw [e]; exact True.intro) (.inl rfl) k ⟨_, hx⟩ (exo_ok hx)
 have eu : upd H a (exo a C none) = H := funext fun b => by
   by_cases hb : b = a
   · subst hb; rw [upd_same]; exact e.symm
   · exact upd_ne hb
 exact h _ (eu ▸ J)
def errSp (C : Addr) (ps : List Str) (tr : TS) : Sp := fun vs H Q _ => vs.length = ps.length ∧ (∃ a ws, vs = .ref a :: ws ∧ H a = some (exo a C none)) ∧ tr { nx := fun _ H' => Q .non H', rt := fun _ _ => False, bk := fun _ _ => False, ct := fun _ _ => False } (L2.start ps vs) H
theorem ErrD.ok {P : Program} {w : World} {K : PySem.W.Frag} {mg : Str → Option Value} {base : Heap} {name qual : Str} {params : Arguments} {scope : Scope} {C f : Addr} {fd : FuncData} {ps qs : List Str} {ar : Arg} {p0 p1 apos cpos epos : Pos} {e : Expr} {es : List Expr} {rest : List Stmt} {t : TA} {tr : TS} {pl : Sem Bool}
   (Sd : ErrD P K name qual params (.Expr (.Call (.Attribute (.Call (.Name "super" p0) [] [] p1) "__init__" apos) (e :: es) [] cpos) epos :: rest) scope C f fd) (S : SupScope ps scope) (hpar : (params.posonlyargs ++ params.args).head? = some ar) (har : ps = ar.arg :: qs)
   (htop : (P.main.scope.names.lookup ("super" : Str)).isSome = false) (hmg : mg ("super" : Str) = none)
   (ha : ∀ (cd : Value) (cc : Addr) (A : Around) (outer : List Env) (s : Shared) (H : Hp) (E : XK), PA (cxS (L2.CX P w) P w K mg base ps qual scope f cd cc A outer s H E) (e :: es) t)
   (ht : ∀ (σ : L2.St) (H : Hp) (Q : List V → Hp → Prop), (∀ us : List V, us.length ≤ 1000 → Q us H) → t σ H Q)
   (hrest : ∀ (cd : Value) (cc : Addr) (A : Around) (outer : List Env) (s : Shared) (H : Hp) (E : XK), PSs (cxS (L2.CX P w) P w K mg base ps qual scope f cd cc A outer s H E) rest tr)
   (he : ∀ env : Env, starEach (e :: es) env = (false, eval e env) :: starEach es env) (hpl : ∀ env : Env, (backTo cpos (starEach es env)).any (·.1) = false)
   (hev : ∀ env : Env, eval (.Call (.Attribute (.Call (.Name "super" p0) [] [] p1) "__init__" apos) (e :: es) [] cpos) env = (do
     let ov ← attributeBase (.Call (.Name "super" p0) [] [] p1) "__init__" env (eval (.Call (.Name "super" p0) [] [] p1) env)
     standAt apos.atName
     let (f, first) ← holding [ov] (getMethod ov "__init__" pl)
     callWith cpos f first (backTo cpos (starEach (e :: es) env)) []))
   (hsw : ∀ env : Env, swapsWith (.Call (.Attribute (.Call (.Name "super" p0) [] [] p1) "__init__" apos) (e :: es) [] cpos) none epos.line env = pure false) (hin : ∀ (L : Addr) (cd : Value) (cc : Addr), interactive (ksEnv qual scope L f cd cc) = false) :
   FnOk P w K mg base (L2.CX P w) 1 f fd ps (errSp C ps tr) := by
 obtain ⟨oc, od, dV, kV, doc, pm, an, cda, ct, osl, cc, cl, cld, csl, ccl, cdd, vsc, ccs, file, tf, rfl, lk, hcd, hcell, hcode, hvs, hfile, _⟩ := Sd.ex
 refine ⟨fun vs H Q E h => h.1, fun A outer s H args us vs Q E hr e0 hb r hsp => ?_⟩
 obtain ⟨hl, ⟨x, ws, rfl, hx⟩, hsp⟩ := hsp
 have KX : K.In s.heap := e0.mod.kin.keeps fun b o e => (e0.bs b o e).1
 have lim : s.heap.NoLimit := e0.mod.nolimit.keeps fun b o e => (e0.bs b o e).1
 refine ks_codeAny_call_defAt hr.depth (KX _ _ lk) rfl lim (PySem.W.codeRec_of KX hcd) rfl hb S.nocell (fun y hy => S.par _ (List.of_mem_zip hy).1) (fun h₀ hns hk => ?_) S.co S.gen S.kind
 have I := inv_startS (CX := L2.CX P w) (qual := qual) (f := f) (cd := .ref cda) (E := E) (tk := s.toks + (ps.zip us).length) S hr.hd e0 hl r hcell hns hk
 change _root_.PySem.wpAt (model P w) (A.deeper (ksEnv qual scope s.heap.objs.size f (.ref cda) cc)) (.func _ (ksEnv qual scope s.heap.objs.size f (.ref cda) cc)) (execs _ (ksEnv qual scope s.heap.objs.size f (.ref cda) cc)) _ _ _
 obtain ⟨cdD, hD⟩ := Sd.cls
 obtain ⟨u0, us', rfl, ru, rus⟩ : ∃ u0 us', us = u0 :: us' ∧ RelV (.ref x) u0 ∧ Vals ws us' := by
   cases r with
   | cons a b => exact ⟨_, _, rfl, a, b⟩
 obtain rfl : u0 = .ref x := ru
 have hself : (ps.zip (Value.ref x :: us')).reverse.lookup ar.arg = some (.ref x) := zip_lookup (i := 0) S.nd (by rw [har]; rfl) rfl
 have hev2 := hev (ksEnv qual scope s.heap.objs.size f (.ref cda) cc)
 have hsw2 := hsw (ksEnv qual scope s.heap.objs.size f (.ref cda) cc)
 refine ks_wpAt_execs_cons (ks_wpAt_Expr_any (ks_wpAt_MethodCall (pl := pl) ?_ hev2) (hin _ _ _) hsw2)
 obtain ⟨oD, hD1, hD2⟩ : ∃ oD, K.lookup C = some oD ∧ oD.data = .cls cdD := by
   unfold PySem.W.clsIn at hD
   split at hD
   · rename_i c d cd' sl ho
     cases hD
     exact ⟨_, ho, rfl⟩
   · cases hD
 obtain ⟨tx, hxo⟩ := exo_at I.hok hx
 obtain ⟨mb, b1, b2⟩ := I.mod.blt
 refine ks_wpAt_super_base (env := ksEnv qual scope s.heap.objs.size f (.ref cda) cc) S.sup S.cls (by decide) rfl (I.kIn _ _ lk) rfl hpar rfl (I.kIn _ _ hcode) rfl hvs hfile htop ?_
 refine PySem.W.ks_loadName_global S.kind S.sup (Calls.loadGlobal_builtin (env := ksEnv qual scope s.heap.objs.size f (.ref cda) cc) (I.mod.glob.keeps I.bk) hmg (b1.keeps I.bk) ((b2 _ (by decide +kernel)).trans (by first | rfl | kernel_rfl)) ⟨rfl, ?_⟩)
 refine wpAny_loadName_free S.kind S.cls (c := cc) (by show [(("__class__" : Str), cc)].lookup _ = _; simp) ⟨_, I.kIn _ _ hcell, rfl⟩ ?_
 refine wpAny_loadName_local S.kind (S.par _ (by rw [har]; simp)) hns hself ?_
 refine ks_wpAny_isType_cls (I.kIn _ _ hD1) hD2 ⟨rfl, ?_⟩
 refine ks_wpAny_call_super (I.kIn _ _ hD1) hD2 hxo rfl (fun c e => nomatch e) (PySem.W.looks_mroIn I.kIn Sd.sub) (fun h' hso kp => ?_)
 have I2 := ClX.pin_new (t' := s.toks + (ps.zip (Value.ref x :: us')).length) I kp (Nat.le_refl _) hso (fun v z => nomatch z)
 have X2 : K.In h' := I2.kIn
 have J : PySem.W.InstAt h' x _ C none := ⟨kp _ _ hxo, rfl, rfl, trivial⟩
 have hxC : x ≠ C := PySem.W.ks_ne X2 J hD
 have hm := Sd.si
 unfold PySem.W.ks_superIn at hm
 rw [hD] at hm
 have hI : PySem.W.Looks (model P w) h' (isInstance (.ref x) (.type "ValueError")) true := J.type.andThen (PySem.W.looks_subIn X2 Sd.sv)
 refine PySem.W.kxs_getMethod PySem.W.kxs_ValueError (so := h₀.objs.size) (D := C) (x := x) (C := C) (l₀ := cdD.mro) hso (PySem.W.looks_opaque X2 Sd.op) ?_ rfl X2 hm hI hxC (by decide) ?_
 · exact fun A Q E s k q => wpAny_bind ((PySem.W.looks_clsIn X2 hD) A _ E s k (wpAny_pure q))
 have I3 := ClX.pin_new (t' := s.toks + (ps.zip (Value.ref x :: us')).length + 1) (o := PySem.W.kxs_mw "ValueError.__init__" x) I2 (fun _ _ z => Heap.get?_push_of_some _ z) (Nat.le_refl _) (Heap.get?_push_size h' rfl) (fun v z => nomatch z)
 have pl2 : (backTo cpos (starEach (e :: es) (ksEnv qual scope s.heap.objs.size f (.ref cda) cc))).any (·.1) = false := by
   rw [he]
   show (false || (backTo cpos (starEach es _)).any (·.1)) = false
   rw [hpl]; rfl
 refine PySem.W.kxs_callWith (i := "ValueError.__init__") (x := x) pl2 ?_
 have run := (ha (.ref cda) cc A outer s H E).run cpos _ _ _ _ (fun us' H2 => us'.length ≤ 1000 ∧ H2 = H) I3 (ht _ _ _ fun us hus => ⟨hus, rfl⟩)
 have he2 := he (ksEnv qual scope s.heap.objs.size f (.ref cda) cc)
 refine (congrArg (fun z => wpAny _ _ (evalArgs _ true (backTo cpos z) []) _ _ _) he2).mpr ?_
 refine PySem.Calls.evalArgs_plain ((congrArg (fun z => wpAny _ _ (spliced (backTo cpos z)) _ _ _) he2).mp (thn run fun us2 s3 ⟨vs', H2, I4, rv, q1, q2⟩ => ?_))
 subst q2
 refine ⟨ClX.pin_at I4, bw_ok Sd.oex I4 hx (ClX.pin_at I4) (by show us2.length ≤ sizeLine; rw [← Paired.length rv, sizeLine_eq]; omega) fun s5 I5 => ?_⟩
 refine wpAt_of_wpAny (thn ((hrest (.ref cda) cc A outer s H2 E).run _ _ _ _ _ I5 hsp) fun fl s6 hfl => ?_)
 cases fl with
 | next =>
   obtain ⟨σ6, H6, I6, q6⟩ := hfl
   exact ⟨.non, H6, I6.os, I6.bare, I6.base, I6.hok, rfl, q6⟩
 | brk => obtain ⟨_, _, _, q6⟩ := hfl; exact q6.elim
 | cont => obtain ⟨_, _, _, q6⟩ := hfl; exact q6.elim
 | ret u => obtain ⟨_, _, _, _, _, q6⟩ := hfl; exact q6.elim
end Pu
namespace Pu
open PySem PySem.Spec L2
open PyProof.Rows hiding St
def tErr (K : PySem.W.Frag) : List Str → Nat → TS
 | [], _ => tNext
 | [f], i => tOst K f (tVar 0) (tVar i)
 | f :: g :: r, i => tSeq (tOst K f (tVar 0) (tVar i)) (tErr K (g :: r) (i + 1))
def sRaise (c : Nat) (fns : List Str) (mA : MA) : MS := fun ρ S => (mA ρ S).st ρ fun us S1 => if us.length = fns.length then .ex c (fns.zip us).reverse ρ S1 else .er
section
variable {K : PySem.W.Frag} {C a : Addr} {H1 : Hp} {Q : XK} {f g : Str} {y z : V}
theorem end_eq {fs : List (Str × V)} {H2 : Hp} {d : Addr} (ha : H1 a = none) (h : ∀ b, b ≠ a → b ≠ d → H2 b = H1 b) : upd (del H2 a) d (.xd fs) = upd H1 d (.xd fs) := by
 funext b
 by_cases hb : b = d
 · subst hb; rw [upd_same, upd_same]
 · rw [upd_ne hb, upd_ne hb]
   by_cases hba : b = a
   · subst hba; rw [del_same]; exact ha.symm
   · rw [del_ne hba]; exact h b hba hb
theorem err1 {p0 p1 : Str} (T : OexC K C) (hf : PySem.W.findIn K (.ref C) f = some none) (ha : H1 a = none) (h : ∀ d, H1 d = none → Q (.ref C) (some d) (upd H1 d (.xd [(f, y)]))) :
   errSp C [p0, p1] (tErr K [f] 1) [.ref a, y] (upd H1 a (exo a C none)) (fun v H2 => v = .non ∧ ∃ (d : Addr) (fs : List (Str × V)), H2 a = some (exo a C (some d)) ∧ H2 d = some (exd d fs) ∧ H1 d = none ∧ Q (.ref C) (some d) (upd (del H2 a) d (.xd fs))) (fun _ _ _ => False) := by
 refine ⟨rfl, ⟨a, _, rfl, upd_same⟩, y, rfl, .ref a, rfl, a, C, rfl, T, hf, .inl ⟨upd_same, fun dx h1 h2 => ⟨rfl, dx, [(f, y)], upd_same, ?_, ?_, ?_⟩⟩⟩
 · rw [upd_ne h2, upd_same]
 · rw [upd_ne h2] at h1; exact h1
 · rw [end_eq ha fun b h3 h4 => by rw [upd_ne h3, upd_ne h4, upd_ne h3]]
   exact h dx (by rw [upd_ne h2] at h1; exact h1)
end
section
variable {X : Cx} {cl : Nat → Addr} {W : WX} {c : Nat} {fI : Addr} {fd : FuncData} {x f g : Str} {p pos pos' : Pos} {e : Expr} {es : List Expr} {mA : MA} {p0 p1 p2 : Str}
theorem qs_raise1 (hc : X.calm = true) (tk : Takes X W) (T : OexC X.K (cl c)) (hf : PySem.W.findIn X.K (.ref (cl c)) f = some none) (iC : PySem.W.findIn X.K (.ref (cl c)) "__init__" = some (some (.ref fI))) (tI : PySem.W.typeIn X.K (.ref fI) = some (.type "function"))
   (F1 : FnOk X.prog X.w X.K X.mg X.base (L2.CX X.prog X.w) 1 fI fd [p0, p1] (errSp (cl c) [p0, p1] (tErr X.K [f] 1))) (hr : Room 2 X.A) (hb : Binds X.K fd [p0, p1] []) (hg : Gl X x) (hm : X.mg x = some (.ref (cl c))) (hA : QA X cl W (e :: es) mA)
   (hdb : (x == ("__debug__" : Str)) = false := by decide) (he : starEach (e :: es) X.env = (false, eval e X.env) :: starEach es X.env := by rfl) (hpl : (backTo pos (starEach es X.env)).any (·.1) = false := by rfl) :
   QS X cl W (.Raise (some (.Call (.Name x p) (e :: es) [] pos)) none pos') (sRaise c [f] mA) := by
 refine PS.imp (ps_raise hc tk (pmk_oex (dvs := []) T iC tI F1 hr hb .nil (passes_call tk fun _ _ _ _ h => h.elim) hg hm hA hdb he hpl)) fun D σ H ⟨ι, F, S, ρ, r, en, o⟩ => ?_
 refine ⟨ι, F, S, ρ, r, en, (o.st en).mono fun vs H1 ⟨ι1, F1, S1, us, e1, r1, z1, o1⟩ => ?_⟩
 split at o1
 · rename_i hl
   cases z1 with
   | nil => cases hl
   | cons za zr =>
     cases zr with
     | cons _ _ => simp at hl
     | nil =>
       refine ⟨by simp, fun a ha => err1 (Q := fun cls d H' => W cls d σ H') T hf ha fun d hd => ?_⟩
       exact o1 σ ι1 F1 H1 Evo.refl (en.mono e1) d _ ι1 F1 _ (Evo.new hd) (r1.new hd) upd_same (.cons ⟨rfl, za.mono (Evo.new (ι := ι1) (F := F1) hd)⟩ .nil)
 · exact o1.elim
end
end Pu
namespace Pu
open PySem PySem.Spec L2
open PyProof.Rows hiding St
structure Hd where
 c : Value
 i : Option Nat
 ts : TS
def offN (i : Option Nat) (σ : L2.St) : L2.St := match i with
 | none => σ
 | some i => σ.set i none
def onN (i : Option Nat) (a : Addr) (σ : L2.St) : L2.St := match i with
 | none => σ
 | some i => σ.set i (some (.ref a))
def endN (i : Option Nat) (D : Ends) : Ends := { nx := fun σ H => D.nx (offN i σ) H, rt := D.rt, bk := fun σ H => D.bk (offN i σ) H, ct := fun σ H => D.ct (offN i σ) H }
def wHds (K : PySem.W.Frag) (Wout : WX) (D : Ends) : List Hd → WX
 | [] => Wout
 | h :: r => fun cls d σ H => ∃ b, PySem.W.exmOne K cls h.c = some b ∧
     (b = true → ∀ (a : Addr) (oe : Obj) (vs : Array Value), H a = none → Zc cls d oe → oe.data = .fields vs → h.ts (endN h.i D) (onN h.i a σ) (upd H a (xO a oe))) ∧ (b = false → wHds K Wout D r cls d σ H)
def NmOk (X : Cx) : Option Str → Option Nat → Prop
 | none, none => True
 | some n, some i => X.N[i]? = some n ∧ X.env.kindOf n = some .local
 | _, _ => False
inductive HdOk (X : Cx) : List ExceptHandler → List Hd → Prop
 | nil : HdOk X [] []
 | cons {x : Str} {c : Value} {n : Option Str} {i : Option Nat} {ts : TS} {b₀ : Stmt} {suite : List Stmt} {np pos' : Pos} {hds : List ExceptHandler} {l : List Hd} (hc : Names X x c) (hn : NmOk X n i)
     (hsu : ∀ (a : Addr) (pn : List (Addr × Obj)), PSs (X.suite a pn) (b₀ :: suite) ts) (r : HdOk X hds l) : HdOk X (.ExceptHandler (some (.Name x np)) n (b₀ :: suite) pos' :: hds) (⟨c, i, ts⟩ :: l)
section
variable {X : Cx} {pins : List (Addr × Obj)} {σ : L2.St} {H : Hp} {s : Shared} {D : Ends}
end
structure Air (X : Cx) (pins : List (Addr × Obj)) (σ : L2.St) (H : Hp) (a : Addr) (B : Heap) (cls : Value) (d : Option Addr) (sI s : Shared) : Prop where
 inv : Inv X pins σ H sI
 gr : ∀ b o, sI.heap.get? b = some o → b ∉ frs X.stack → B.get? b = some o
 up : sI.heap.UpToSlots s.heap
 fl : HandSPX.FlyingZ B (X.env :: X.outer) a (Zc cls d) s.heap
 na : H a = none
 os : s.os = sI.os
 ag : AllBare s.gens
section
variable {X : Cx} {pins : List (Addr × Obj)} {σ : L2.St} {H : Hp} {a : Addr} {B : Heap} {cls : Value} {d : Option Addr} {sI s : Shared}
theorem Air.now (A : Air X pins σ H a B cls d sI s) : Inv X pins σ H s := A.inv.landed A.gr A.fl.1 A.up A.os A.ag
theorem Air.nfr (A : Air X pins σ H a B cls d sI s) : a ∉ frs (X.env :: X.outer) := fun hm => by
 obtain ⟨oe, vs, h1, _, h3⟩ := A.fl.there
 obtain ⟨_, o, e, nf⟩ := A.fl.2.2.1.mem hm
 cases h1.symm.trans e
 exact nf vs h3
theorem Air.gone (A : Air X pins σ H a B cls d sI s) (hs : X.stack = X.env :: X.outer) : sI.heap.get? a = none := by
 cases e : sI.heap.get? a with
 | none => rfl
 | some o =>
   have z := A.gr a o e (by rw [hs]; exact A.nfr)
   rw [A.fl.2.1] at z; cases z
theorem Air.h0 (A : Air X pins σ H a B cls d sI s) (hs : X.stack = X.env :: X.outer) (hx : X.ex = []) : X.s_0.heap.get? a = none := by
 cases e : X.s_0.heap.get? a with
 | none => rfl
 | some o =>
   obtain ⟨o', z⟩ := A.inv.base.there a o e (by rw [hx]; simp)
   rw [A.gone hs] at z; cases z
theorem Air.np (A : Air X pins σ H a B cls d sI s) (hs : X.stack = X.env :: X.outer) : ∀ p ∈ X.pn ++ pins, p.1 ≠ a := fun p hp z => by
 have e := (A.inv.pin p hp).1
 rw [z, A.gone hs] at e; cases e
theorem Air.again {s4 : Shared} (A : Air X pins σ H a B cls d sI s) (h4 : Heap) (fl : HandSPX.FlyingZ B (X.env :: X.outer) a (Zc cls d) h4) (up : s.heap.UpToSlots h4) : Air X pins σ H a B cls d sI { s with heap := h4 } :=
 ⟨A.inv, A.gr, A.up.trans up, fl, A.na, A.os, A.ag⟩
end
section
variable {X : Cx} {pins : List (Addr × Obj)} {Wout : WX} {D : Ends}
end
end Pu
namespace Pu
open PySem PySem.Spec L2
open PyProof.Rows hiding St
structure RoomL (k : Nat) (A : Around) : Prop where
 dp : A.depth + 3 * k + 5 < recursionLimit
 un : A.units + 16 * k + 200 < cLine
theorem Room.l {k : Nat} {A : Around} (r : Room k A) : RoomL k A := ⟨r.dp, r.un⟩
theorem Room.mark {k : Nat} {A : Around} (r : Room k A) (v : Option Value) : RoomL k (A.mark v) := ⟨r.dp, r.un⟩
structure FnL (P : Program) (w : World) (K : PySem.W.Frag) (mg : Str → Option Value) (base : Heap) (k : Nat) (f : Addr) (fd : FuncData) (ps : List Str) (sp : Sp) : Prop where
 len : ∀ vs H Q E, sp vs H Q E → vs.length = ps.length
 run : ∀ (A : Around) (outer : List Env) (s : Shared) (H : Hp) (args : Args) (us : List Value) (vs : List V) (Q : VK), RoomL k A → Env0 P w K mg base A outer s H → BindsTo s fd args (ps.zip us) → Vals vs us → sp vs H Q (fun _ _ _ => False) →
   codeAny (model P w) A (.call (.ref f) args) (fun r s' => ∃ u, r = .ok (.ret u) ∧ CE outer P w H s Q u s') s
abbrev cx0 : CXT := fun _ _ _ _ _ _ => False
abbrev XdL (P : Program) (w : World) (K : PySem.W.Frag) (mg : Str → Option Value) (base : Heap) (N : List Str) (qual : Str) (scope : Scope) (f : Addr) (cdv : Value) (A : Around) (outer : List Env) (s : Shared) (H : Hp) : Cx :=
 { cxOf cx0 P w K mg base N qual scope f cdv A outer s H (fun _ _ _ => False) with calm := false, xe := fun _ _ => False }
section
variable {P : Program} {w : World} {K : PySem.W.Frag} {mg : Str → Option Value} {base : Heap} {x qual : Str} {params : Arguments} {body : List Stmt} {scope : Scope} {dvs : List V} {kws : List (Str × V)} {f : Addr} {fd : FuncData} {N ps : List Str} {cl : Nat → Addr} {m : MS} {k : Nat}
end
def eCallL (n : Nat) (mf : List U → Sto → R U) (a : MA) : ME := fun ρ S => (a ρ S).bind fun us S1 => if us.length = n then noX (mf us S1) else .er
section
variable {X : Cx} {cl : Nat → Addr} {W : WX} {k n : Nat} {f : Addr} {fd : FuncData} {ps : List Str} {mf : List U → Sto → R U} {x : Str} {p pos : Pos} {e : Expr} {es : List Expr} {mA : MA}
end
end Pu
namespace Pu
open PySem PySem.Spec L2
open PyProof.Rows hiding St
structure XC (K : PySem.W.Frag) (C : Addr) : Prop where
 cl : (PySem.W.clsIn K C).isSome = true
 ga : PySem.W.findIn K (.ref C) "__getattribute__" = some (some (.builtin "BaseException.__getattribute__"))
 gg : PySem.W.findIn K (.ref C) "__getattr__" = some none
 sb : PySem.W.subIn K (.ref C) (.type "BaseException") = some true
 hd : PySem.W.hasDictIn K C = true
 ca : PySem.W.findIn K (.ref C) "__class__" = some (some (.builtin "object.__class__"))
 cg : PySem.W.specialIn K (.builtin "object.__class__") "__get__" = some (some (.builtin "getset_descriptor.__get__"))
 ct : PySem.W.takesIn K (.builtin "object.__class__") = some true
 mo : PySem.W.mroIn K C (.type "object") = some true
 ve : PySem.W.kitOne K (.ref C) (.type "ValueError") = some true
def xcB (K : PySem.W.Frag) (C : Addr) : Bool := (PySem.W.clsIn K C).isSome && (He.eqO (PySem.W.findIn K (.ref C) "__getattribute__") (some (some (.builtin "BaseException.__getattribute__"))) && (He.eqO (PySem.W.findIn K (.ref C) "__getattr__") (some none) &&
 (decide (PySem.W.subIn K (.ref C) (.type "BaseException") = some true) && (PySem.W.hasDictIn K C && (He.eqO (PySem.W.findIn K (.ref C) "__class__") (some (some (.builtin "object.__class__"))) && (He.eqO (PySem.W.specialIn K (.builtin "object.__class__") "__get__") (some (some (.builtin "getset_descriptor.__get__"))) &&
 (decide (PySem.W.takesIn K (.builtin "object.__class__") = some true) && (decide (PySem.W.mroIn K C (.type "object") = some true) && decide (PySem.W.kitOne K (.ref C) (.type "ValueError") = some true)))))))))
def XTab (K : PySem.W.Frag) (cl : Nat → Addr) (tab : Nat → Nat → Option Bool) : Prop := ∀ c c' b, tab c c' = some b → XC K (cl c) ∧ PySem.W.kitOne K (.ref (cl c)) (.ref (cl c')) = some b
def fIsE (tab : Nat → Nat → Option Bool) : FA := fun us S => match us with
 | [.v (.exn c _), .v (.cls c')] => (tab c c').map fun b => (.v (.bl b), S)
 | [.v (.exn c _), .v (.ty n)] => if n = "ValueError" ∧ (tab c c).isSome = true then some (.v (.bl true), S) else none
 | us => fIsi us S
section
variable {X : Cx} {cl : Nat → Addr} {W : WX}
def fXf (cs : List Nat) (f : Str) : F1 := fun u S => match u with
 | .v (.exn c fs) => if c ∈ cs then (fs.lookup f).map fun d => (.v d, S) else none
 | _ => none
end
end Pu
namespace Pu
open PySem PySem.Spec L2
open PyProof.Rows hiding St
def fldV : List (Str × U) → Option (List (Str × D)) := optAll fun p => match p.2 with
 | .v d => some (p.1, d)
 | .r _ => none
structure MH where
 c : Nat
 i : Option Nat
 m : MS
def offR (i : Option Nat) (ρ : Env') : Env' := match i with
 | none => ρ
 | some i => ρ.set i none
def endR (i : Option Nat) : RS → RS
 | .nx ρ S => .nx (offR i ρ) S
 | .bk ρ S => .bk (offR i ρ) S
 | .ct ρ S => .ct (offR i ρ) S
 | .rt u S => .rt u S
 | _ => .er
def catchM (tab : Nat → Nat → Option Bool) (c : Nat) (fs : List (Str × U)) (ρ : Env') (S : Sto) : List MH → RS
 | [] => .ex c fs ρ S
 | h :: r => match tab c h.c with
   | some true => match h.i with
     | none => endR none (h.m ρ S)
     | some i => match fldV fs with
       | some ds => endR (some i) (h.m (ρ.set i (some (.v (.exn c ds)))) S)
       | none => .er
   | some false => catchM tab c fs ρ S r
   | none => .er
def sTry (tab : Nat → Nat → Option Bool) (b : MS) (hs : List MH) : MS := fun ρ S => match b ρ S with
 | .ex c fs ρ1 S1 => catchM tab c fs ρ1 S1 hs
 | r => r
def ETab (K : PySem.W.Frag) (cl : Nat → Addr) (tab : Nat → Nat → Option Bool) : Prop := ∀ c c' b, tab c c' = some b → PySem.W.exmOne K (.ref (cl c)) (.ref (cl c')) = some b
section
variable {B : Bx} {ι : List Addr} {F : Addr → Prop} {H : Hp} {S : Sto}
end
section
variable {X : Cx} {cl : Nat → Addr} {W : WX}
inductive MHs (X : Cx) (cl : Nat → Addr) : List ExceptHandler → List MH → Prop
 | nil : MHs X cl [] []
 | cons {x : Str} {c : Nat} {n : Option Str} {i : Option Nat} {m : MS} {b₀ : Stmt} {suite : List Stmt} {np pos' : Pos} {hds : List ExceptHandler} {l : List MH} (hc : Names X x (.ref (cl c))) (hn : NmOk X n i)
     (hsu : ∀ (a : Addr) (pn : List (Addr × Obj)), QSs (X.suite a pn) cl W0 (b₀ :: suite) m) (r : MHs X cl hds l) : MHs X cl (.ExceptHandler (some (.Name x np)) n (b₀ :: suite) pos' :: hds) (⟨c, i, m⟩ :: l)
def hdOf (X : Cx) (cl : Nat → Addr) (h : MH) : Hd := ⟨.ref (cl h.c), h.i, liftS (bx X cl) W0 h.m⟩
end
end Pu
namespace Pu
open PySem PySem.Spec L2
open PyProof.Rows hiding St
abbrev Es (W : WX) (σ : L2.St) : XK := fun cls d H => W cls d σ H
section
variable {B : Bx} {W : WX} {σ : L2.St} {ι : List Addr} {F : Addr → Prop} {H : Hp}
end
section
variable {X : Cx} {cl : Nat → Addr} {W : WX} {k n : Nat} {f C : Addr} {fd : FuncData} {ps ks : List Str} {mf : List U → Sto → R U} {pins : List (Addr × Obj)} {σ : L2.St} {H : Hp} {s : Shared} {Q : VK} {us ws : List Value} {vs zs : List V} {sp : Sp}
end
section
variable {X : Cx} {cl : Nat → Addr} {W : WX} {k n : Nat} {f C : Addr} {fd : FuncData} {ps ks : List Str} {mf : List U → Sto → R U} {x m : Str} {p pos apos : Pos} {e o : Expr} {es : List Expr} {mo : ME} {mA mK : MA} {kws : List Keyword}
end
section
variable {X : Cx} {cl : Nat → Addr} {W : WX} {k : Nat} {f : Addr} {fd : FuncData} {ps : List Str} {mf : List U → Sto → R U} {o i value : Expr} {mo mi mv : ME} {cs : List Nat} {pos pos' : Pos}
end
end Pu
namespace Pu
open PySem PySem.Spec L2
open PyProof.Rows hiding St
open PySem.W (ksFn)
namespace Hx
def oexB (K : PySem.W.Frag) (C : Addr) : Bool := (match K.lookup C with
 | some ⟨.type "type", _, .cls cd, sl⟩ => (match cd.mro, sl.toList with
   | .ref D :: bm, [_, _, _, _, some (.builtin n), _] => decide (D = C) && (decide (n = "ValueError.__new__") && (!cd.hasDel && (cd.hasDict && PySem.HandSPX.refsVE bm)))
   | _, _ => false)
 | _ => false) && (He.eqO (PySem.W.findIn K (.ref C) "__setattr__") (some (some (.builtin "object.__setattr__"))) && (decide (PySem.W.subIn K (.ref C) (.type "BaseException") = some true) && (decide (PySem.W.typeIn K (.ref C) = some (.type "type")) && PySem.W.keepIn K (.ref C))))
theorem oexB_ok {K : PySem.W.Frag} {C : Addr} (h : oexB K C = true) : OexC K C := by
 obtain ⟨h1, h⟩ := He.ba h
 obtain ⟨h2, h⟩ := He.ba h
 obtain ⟨h3, h⟩ := He.ba h
 obtain ⟨h4, h5⟩ := He.ba h
 refine ⟨?_, He.eqO_ok h2, of_decide_eq_true h3, of_decide_eq_true h4, h5⟩
 split at h1
 · rename_i dd cd sl ho
   split at h1
   · rename_i D bm k0 k1 k2 k3 n k5 hm hs
     obtain ⟨g1, h1⟩ := He.ba h1
     obtain ⟨g2, h1⟩ := He.ba h1
     obtain ⟨g3, h1⟩ := He.ba h1
     obtain ⟨g4, g5⟩ := He.ba h1
     obtain rfl := of_decide_eq_true g1
     obtain rfl := of_decide_eq_true g2
     obtain ⟨nm, bs, mro, ns, qn, hd, sn, sub, ab, col, del⟩ := cd
     simp only at hm g3 g4
     subst hm g4
     obtain rfl : del = false := by simpa using g3
     obtain rfl : sl = #[k0, k1, k2, k3, some (.builtin "ValueError.__new__"), k5] := by
       obtain ⟨l⟩ := sl
       simp only at hs
       rw [hs]
     exact ⟨nm, qn, ns, bs, bm, sn, sub, ab, col, dd, k0, k1, k2, k3, k5, ho, g5⟩
   · cases h1
 · cases h1
def errB (P : Program) (K : PySem.W.Frag) (f C : Addr) : Bool := (match K.lookup f with
 | some ⟨_, _, .func fd, _⟩ => (match fd.closure with
   | [(_, cc)] => (match K.lookup cc with
     | some ⟨_, _, .cell (some (.ref D)), _⟩ => decide (D = C)
     | _ => false)
   | _ => false) && (match fd.code with
   | .ref cda => (match K.lookup cda with
     | some ⟨_, _, .fields vs, _⟩ => (match (vs[2]? : Option Value) with
       | some (.str file _) => ((P.main.file : Str) == file)
       | _ => false)
     | _ => false)
   | _ => false)
 | _ => false) && ((PySem.W.clsIn K C).isSome && (decide (PySem.W.mroIn K C (.ref C) = some true) && (He.eqO (PySem.W.nsIn K cStatics "thirdparty.any") (some none) &&
   (He.eqO (PySem.W.ks_superIn K C C "__init__") (some (some (.builtin "ValueError.__init__"))) && (decide (PySem.W.subIn K (.ref C) (.type "ValueError") = some true) && oexB K C)))))
theorem DefX.errD {P : Program} {K : PySem.W.Frag} {d : DefX} {C : Addr} (e : d.obs K = d.val) (c : d.ok K = true) (hc : d.clo = [("__class__" : Str)]) (hz : d.dfl = []) (b : errB P K (d.ad K) C = true) : ∃ fd, ErrD P K d.name d.qual d.params d.body d.scope C (d.ad K) fd := by
 obtain ⟨kp, oc, od, osl, cl, dV, kV, doc, pm, an, cdv, ct, h7, lk, k1, k2⟩ := DefX.get e c
 have hdv : d.dvs K = [] := by unfold DefX.dvs; rw [hz]; rfl
 rw [hdv] at k2
 rw [hc] at h7
 obtain ⟨⟨nm, cc⟩, rfl⟩ : ∃ p, cl = [p] := by
   cases cl with
   | nil => simp at h7
   | cons p r => cases r with
     | nil => exact ⟨p, rfl⟩
     | cons _ _ => simp at h7
 obtain rfl : nm = ("__class__" : Str) := by simpa using h7
 unfold errB at b
 rw [lk] at b
 obtain ⟨b1, b⟩ := He.ba b
 obtain ⟨b2, b⟩ := He.ba b
 obtain ⟨b3, b⟩ := He.ba b
 obtain ⟨b5, b⟩ := He.ba b
 obtain ⟨b6, b⟩ := He.ba b
 obtain ⟨b7, b8⟩ := He.ba b
 obtain ⟨a1, a2⟩ := He.ba b1
 have a1' : (match K.lookup cc with
     | some ⟨_, _, .cell (some (.ref D)), _⟩ => decide (D = C)
     | _ => false) = true := a1
 split at a1'
 · rename_i cl cld D csl hcc
   obtain rfl : D = C := of_decide_eq_true a1'
   cases cdv with
   | ref cda =>
     have a2' : (match K.lookup cda with
       | some ⟨_, _, .fields vs, _⟩ => (match (vs[2]? : Option Value) with
         | some (.str file _) => ((P.main.file : Str) == file)
         | _ => false)
       | _ => false) = true := a2
     split at a2'
     · rename_i ccl cdd vs ccs hcode
       split at a2'
       · rename_i file tf hvs
         exact ⟨_, ⟨oc, od, dV, kV, doc, pm, an, cda, ct, osl, cc, cl, cld, csl, ccl, cdd, vs, ccs, file, tf, rfl, lk, k1, hcc, hcode, hvs, a2', k2⟩, Option.isSome_iff_exists.mp b2, of_decide_eq_true b3, He.eqO_ok b5, He.eqO_ok b6, of_decide_eq_true b7, oexB_ok b8, kp⟩
       · cases a2'
     · cases a2'
   | _ => cases (show false = true from a2)
 · cases a1'
def iniB (K : PySem.W.Frag) (C : Addr) : Bool := He.eqO (PySem.W.findIn K (.ref C) "__init__") (some (some (.ref (He.ma K C "__init__")))) && decide (PySem.W.typeIn K (.ref (He.ma K C "__init__")) = some (.type "function"))
theorem iniB_ok {K : PySem.W.Frag} {C : Addr} (h : iniB K C = true) : PySem.W.findIn K (.ref C) "__init__" = some (some (.ref (He.ma K C "__init__"))) ∧ PySem.W.typeIn K (.ref (He.ma K C "__init__")) = some (.type "function") := by
 obtain ⟨h1, h2⟩ := He.ba h
 exact ⟨He.eqO_ok h1, of_decide_eq_true h2⟩
end Hx
theorem ErrD.bindsN {P : Program} {K : PySem.W.Frag} {x qual : Str} {params : Arguments} {body : List Stmt} {scope : Scope} {C f : Addr} {fd : FuncData} {ps : List Str} (Sd : ErrD P K x qual params body scope C f fd)
   (h : ∀ (cda cc : Addr) (kV doc pm : Value) (an : Option Addr) (ct : Value) (us : List Value), us.length = ps.length → bindArgs (ksFn x qual params body scope .none kV doc pm an (.ref cda) ct cc) ⟨us, []⟩ = pure (ps.zip us)) : Binds K fd ps [] := by
 obtain ⟨oc, od, dV, kV, doc, pm, an, cda, ct, osl, cc, cl, cld, csl, ccl, cdd, vs, ccs, file, tf, rfl, lk, k1, hcc, hcode, hvs, hf, hD⟩ := Sd.ex
 rcases hD with ⟨_, rfl⟩ | ⟨e, _⟩
 · intro s us X hlen
   rw [List.append_nil] at hlen ⊢
   exact BindsTo.of_looks fun M => .of_pure (h cda cc kV doc pm an ct us hlen)
 · exact absurd rfl e
end Pu
namespace Pu
open PySem
section
variable {Q : Post} {q : U → Sto → Prop} {X : XP} {ρ : Env'} {S : Sto}
@[simp ↓] theorem s_raise (c : Nat) (fns : List Str) (mA : MA) : wps (sRaise c fns mA ρ S) Q = wpr (mA ρ S) (fun us S1 => us.length = fns.length ∧ Q.ex c (fns.zip us).reverse ρ S1) (fun c fs S => Q.ex c fs ρ S) := by
 simp only [sRaise, wps_st]
 congr 1; funext us S1
 by_cases h : us.length = fns.length <;> simp [h, wps]
def wCatch (tab : Nat → Nat → Option Bool) (c : Nat) (fs : List (Str × U)) (ρ : Env') (S : Sto) (Q : Post) (l : List MH) : Prop := wps (catchM tab c fs ρ S l) Q
def offP (i : Option Nat) (Q : Post) : Post := { nx := fun ρ S => Q.nx (offR i ρ) S, bk := fun ρ S => Q.bk (offR i ρ) S, ct := fun ρ S => Q.ct (offR i ρ) S, rt := Q.rt }
end
end Pu
namespace Pu
open PySem PySem.Spec L2
open PyProof.Rows hiding St
def KwV (kv : Option Value) (vk : V) : Prop := match kv with
 | some u => RelV vk u
 | none => vk = .non
def kwA (kn : Str) (kv : Option Value) : List (Str × Value) := match kv with
 | some u => [(kn, u)]
 | none => []
def FnV (P : Program) (w : World) (K : PySem.W.Frag) (mg : Str → Option Value) (base : Heap) (k : Nat) (f : Addr) (kn : Str) (sp : Sp) : Prop :=
 ∀ (A : Around) (outer : List Env) (s : Shared) (H : Hp) (x : Value) (rest : List Value) (kv : Option Value) (vx vk : V) (vr : List V) (Q : VK) (E : XK), Room k A → Env0 P w K mg base A outer s H → RelV vx x → Vals vr rest → KwV kv vk → vr.length ≤ sizeLine →
   (∀ (p : Addr) (ob : Obj), ob.dict = Option.none → H p = none → sp [vx, vk, .ref p] (upd H p (.frz ob (.tup vr))) Q E) → codeAny (model P w) A (.call (.ref f) ⟨x :: rest, kwA kn kv⟩) (CR (L2.CX P w) outer P w H s Q E) s
section
variable {P : Program} {w : World} {K : PySem.W.Frag} {mg : Str → Option Value} {base : Heap} {cl : Nat → Addr} {x qual kn : Str} {params : Arguments} {body : List Stmt} {scope : Scope} {f : Addr} {fd : FuncData} {N : List Str} {ps pv : Str} {k : Nat} {m : MS}
end
def eMakeT (c : Nat) (mf : List U → Sto → R U) (us : List U) (pl : U) (S : Sto) : R U :=
 if us.length ≤ 1000 then (match allV us with
   | some ds => mf [.r S.length, pl, .v (.tup ds)] (S ++ [Cell.ins c []])
   | none => mf [.r S.length, pl, .r (S.length + 1)] (S ++ [Cell.ins c [], Cell.tpc us])).bind fun u S1 => match u with
   | .v .non => .ok (.r S.length) S1
   | _ => .er
 else .er
section
variable {X : Cx} {cl : Nat → Addr} {W : WX} {k : Nat} {f C : Addr} {kn : Str} {mf : List U → Sto → R U} {x : Str} {p pos : Pos} {e : Expr} {es : List Expr} {mA mK : MA}
def eMkT (c : Nat) (mf : List U → Sto → R U) (a : MA) : ME := fun ρ S => (a ρ S).bind fun us S1 => eMakeT c mf us (.v .non) S1
end
end Pu
namespace Pu
namespace Zx
open PySem PySem.Spec L2
open PyProof.Rows hiding St
def ItAt (t : Bool) (h : Heap) (it l : Addr) (k : Nat) : Prop := match t with
 | true => h.IsTupleIter it l k
 | false => h.IsListIter it l k
def SqAt (t : Bool) (h : Heap) (l : Addr) (xs : Array Value) : Prop := match t with
 | true => h.IsTuple l xs
 | false => h.IsList l xs
theorem ItAt.mv {t : Bool} {h g : Heap} {it l : Addr} {k : Nat} (x : ItAt t h it l k) (e : ∀ o, h.get? it = some o → g.get? it = some o) : ItAt t g it l k := by
 cases t with
 | true => exact Heap.IsTupleIter.at (show h.IsTupleIter it l k from x) e
 | false => exact Heap.IsListIter.at (show h.IsListIter it l k from x) e
theorem ItAt.there {t : Bool} {h : Heap} {it l : Addr} {k : Nat} (x : ItAt t h it l k) : ∃ o vs, h.get? it = some o ∧ o.data = .fields vs := by
 cases t with
 | true => obtain ⟨o, e, _, d⟩ := (show h.IsTupleIter it l k from x); exact ⟨o, _, e, d⟩
 | false => obtain ⟨o, e, _, d⟩ := (show h.IsListIter it l k from x); exact ⟨o, _, e, d⟩
theorem SqAt.mv {t : Bool} {h g : Heap} {l : Addr} {xs : Array Value} (x : SqAt t h l xs) (e : ∀ o, h.get? l = some o → g.get? l = some o) : SqAt t g l xs := by
 cases t with
 | true => obtain ⟨o, a, b⟩ := (show h.IsTuple l xs from x); exact (⟨o, e o a, b⟩ : g.IsTuple l xs)
 | false => obtain ⟨o, a, b⟩ := (show h.IsList l xs from x); exact (⟨o, e o a, b⟩ : g.IsList l xs)
section
variable {prog : Program} {w : World} {A : Around} {E : Value → Shared → Prop} {s : Shared} {t t1 t2 : Bool}
end
end Zx
end Pu
namespace Pu
namespace Zx
open PySem PySem.Spec L2
open PyProof.Rows hiding St
def Sq (t : Bool) (K : PySem.W.Frag) (H : Hp) (a : Addr) (xs : List V) : Prop := match t with
 | true => SqT K H a xs
 | false => SqL K H a xs
section
variable {X : Cx} {pins : List (Addr × Obj)} {σ : L2.St} {H : Hp} {s : Shared} {t : Bool} {a : Addr} {xs ys : List V}
end
def ItZ (K : PySem.W.Frag) (t1 t2 : Bool) (a b : Addr) : It where
 go := fun i H => ∃ (xs ys : List V) (x y : V), Sq t1 K H a xs ∧ Sq t2 K H b ys ∧ xs[i]? = some x ∧ ys[i]? = some y
 yld := fun i H v G => ∃ T x y, v = .ref T ∧ H T = none ∧ (∃ ob : Obj, ob.dict = none ∧ G = upd H T (.frz ob (.tup [x, y]))) ∧ (∀ xs, Sq t1 K H a xs → xs[i]? = some x) ∧ ∀ ys, Sq t2 K H b ys → ys[i]? = some y
 stop := fun i H => ∃ xs ys : List V, Sq t1 K H a xs ∧ Sq t2 K H b ys ∧ (xs.length ≤ i ∨ ys.length ≤ i)
structure ZipSt (t1 t2 : Bool) (z TI TO i1 i2 a b : Addr) (i : Nat) (h : Heap) : Prop where
 z : IsZip h z TI TO .none
 ti : IsPair h TI (.ref i1) (.ref i2)
 to : ∃ x y, IsPair h TO x y
 m1 : ItAt t1 h i1 a i
 m2 : ItAt t2 h i2 b i
end Zx
end Pu
namespace Pu
namespace Zx
open PySem PySem.Spec L2
open PyProof.Rows hiding St
def itO (t : Bool) (l : Addr) : Obj := match t with
 | true => { cls := .type "tuple_iterator", data := .fields #[.ref l, .int 0 0] }
 | false => { cls := .type "list_iterator", data := .fields #[.ref l, .int 0 0] }
section
variable {prog : Program} {w : World} {A : Around} {E : Value → Shared → Prop} {s : Shared} {t t1 t2 : Bool}
end
abbrev hA (h : Heap) (t1 : Bool) (l1 : Addr) : Heap := h.push (itO t1 l1)
abbrev hB (h : Heap) (t1 t2 : Bool) (l1 l2 : Addr) : Heap := (hA h t1 l1).push (itO t2 l2)
abbrev hC (h : Heap) (t1 t2 : Bool) (l1 l2 : Addr) : Heap := (hB h t1 t2 l1 l2).push { cls := .type "tuple", data := .seq #[.ref h.objs.size, .ref (hA h t1 l1).objs.size] }
abbrev hD (h : Heap) (t1 t2 : Bool) (l1 l2 : Addr) : Heap := (hC h t1 t2 l1 l2).push { cls := .type "tuple", data := .seq #[.none, .none] }
abbrev hE (h : Heap) (t1 t2 : Bool) (l1 l2 : Addr) : Heap := (hD h t1 t2 l1 l2).push { cls := .type "zip", data := .fields #[.none, .bool false, .bool false, .ref (hB h t1 t2 l1 l2).objs.size, .ref (hC h t1 t2 l1 l2).objs.size] }
def iZipX (K : PySem.W.Frag) (ta : TA) : TI := fun σ H R => ta σ H fun vs H1 => ∃ a b t1 t2 xs ys, vs = [.ref a, .ref b] ∧ Sq t1 K H1 a xs ∧ Sq t2 K H1 b ys ∧ R (ItZ K t1 t2 a b) H1
end Zx
def seqD : U → Option (Bool × List D)
 | .v (.lst ds) => some (false, ds)
 | .v (.frl ds) => some (false, ds)
 | .v (.tup ds) => some (true, ds)
 | _ => none
def zipD : List D → List D → List U
 | x :: xs, y :: ys => .v (.tup [x, y]) :: zipD xs ys
 | _, _ => []
def iZip (a : MA) : MI := fun ρ S => (a ρ S).bind fun us S1 => match us with
 | [x, y] => match seqD x, seqD y with
   | some p, some q => .ok ⟨zipD p.2 q.2, none⟩ S1
   | _, _ => .er
 | _ => .er
section
open PySem PySem.Spec L2
variable {X : Cx} {cl : Nat → Addr} {W : WX}
end
end Pu
namespace Pu
open PySem PySem.Spec L2
open PyProof.Rows hiding St
section
variable {M : Model} {A : Around} {E : Value → Shared → Prop} {s : Shared}
end
def eMkTS (c : Nat) (mf : List U → Sto → R U) (mx my : ME) : ME := fun ρ S => (mx ρ S).bind fun x S1 => (my ρ S1).bind fun y S2 => match asSeq S2 x with
 | some us => eMakeT c mf us y S2
 | none => .er
section
variable {X : Cx} {cl : Nat → Addr} {W : WX} {k : Nat} {f : Addr} {kn : Str} {mf : List U → Sto → R U} {x : Str} {p pos sp kpos : Pos} {e e2 : Expr} {mx my : ME}
end
end Pu
namespace Pu
open PySem PySem.Spec L2
open PyProof.Rows hiding St
def noAddB (K : PySem.W.Frag) (C : Addr) : Bool := match PySem.W.clsIn K C with
 | some cd => cd.mro.all fun c => He.eqO (PySem.W.findIn K c (PySem.dunder "add")) (some none) && He.eqO (PySem.W.findIn K c (dunderR "add")) (some none)
 | none => false
theorem any_no {M : Model} {A : Around} {E : Value → Shared → Prop} {α : Type} {f : α → Sem Bool} {s : Shared} {Q : Bool → Shared → Prop} (q : Q false s) : ∀ l : List α, (∀ c ∈ l, PySem.W.Looks M s.heap (f c) false) → wpAny M A (l.anyM f) Q E s
 | [], _ => wpAny_pure q
 | c :: l, h => by
   rw [List.anyM_cons]
   refine wpAny_bind ((h c (by simp)).here ?_)
   simp only [Bool.false_eq_true, if_false]
   exact any_no q l fun c' hc => h c' (by simp [hc])
theorem fills_no {M : Model} {K : PySem.W.Frag} {C : Addr} {h : Heap} (X : K.In h) (b : noAddB K C = true) : PySem.W.Looks M h (fillsNumberSlot (.ref C) "add") false := by
 unfold noAddB at b
 cases hc : PySem.W.clsIn K C with
 | none => rw [hc] at b; cases b
 | some cd =>
   rw [hc] at b
   have hb : ∀ c ∈ cd.mro, PySem.W.findIn K c (PySem.dunder "add") = some none ∧ PySem.W.findIn K c (dunderR "add") = some none := fun c hm => by
     obtain ⟨b1, b2⟩ := He.ba (List.all_eq_true.mp b c hm)
     exact ⟨He.eqO_ok b1, He.eqO_ok b2⟩
   intro A Q E s k q
   unfold fillsNumberSlot
   refine wpAny_bind ((PySem.W.looks_clsIn X hc).andThen (f := fun cd => pure cd.mro) .now A _ E s k ?_)
   refine any_no q _ fun c hm => ?_
   obtain ⟨b1, b2⟩ := hb c hm
   have L1 : PySem.W.Looks M s.heap (typeLookup c (PySem.dunder "add")) none := PySem.W.looks_findIn (X.keeps k) b1
   have L2 : PySem.W.Looks M s.heap (typeLookup c (dunderR "add")) none := PySem.W.looks_findIn (X.keeps k) b2
   intro A' Q' E' s' k' q'
   have two : wpAny M A' (([PySem.dunder "add", dunderR "add"] : List Str).anyM fun name => do
       let some x ← typeLookup c name | return false
       if !ownNameWrapper x name then return true
       return !(← inheritsSeqSlot c name)) Q' E' s' := by
     refine any_no q' _ fun n hn => ?_
     have hn' : n = PySem.dunder "add" ∨ n = dunderR "add" := by simpa using hn
     rcases hn' with rfl | rfl
     · exact (L1.keeps k').andThen .now
     · exact (L2.keeps k').andThen .now
   cases c with
   | type T => exact wpAny_bind (L1 A' _ E' s' k' (wpAny_bind (L2 A' _ E' s' k' (wpAny_pure q'))))
   | _ => exact two
section
variable {prog : Program} {w : World} {A : Around} {E : Value → Shared → Prop} {s : Shared} {K : PySem.W.Frag} {x C f : Addr} {ox : Obj} {od : Option Obj}
end
def eAddO (cs bs : List Nat) (mf : List U → Sto → R U) (ma mb : ME) : ME := fun ρ S => (ma ρ S).bind fun a S1 => (mb ρ S1).bind fun b S2 => match asIns S2 a, asIns S2 b with
 | some (c, _), some (d, _) => if c ∈ cs ∧ d ∈ bs then mf [a, b] S2 else .er
 | _, _ => .er
def sAugO (i : Nat) (cs : List Nat) (mf : List U → Sto → R U) (mb : ME) : MS := fun ρ S => match ρ[i]? with
 | some (some a) => (mb ρ S).st ρ fun b S1 => match asIns S1 a with
   | some (c, _) => if c ∈ cs then (mf [a, b] S1).st ρ fun u S2 => .nx (ρ.set i (some u)) S2 else .er
   | none => .er
 | _ => .er
section
variable {X : Cx} {cl : Nat → Addr} {W : WX} {k : Nat} {f : Addr} {fd : FuncData} {ps : List Str} {mf : List U → Sto → R U} {a b : Expr} {ma mb : ME} {cs bs : List Nat} {pos pos' : Pos}
structure AddM (K : PySem.W.Frag) (C f : Addr) : Prop where
 m : OwnM K C "__add__" f
 sf : PySem.W.selfFirst K C = true
structure IAddM (K : PySem.W.Frag) (C f : Addr) : Prop where
 m : OwnM K C "__iadd__" f
 sf : PySem.W.selfFirst K C = true
end
def aStar (m : ME) (mA : MA) : MA := fun ρ S => (m ρ S).bind fun u S1 => (match asSeq S1 u with
 | some xs => .ok xs S1
 | none => .er : R (List U)).bind fun xs S1 => (mA ρ S1).bind fun ys S2 => .ok (xs ++ ys) S2
section
variable {X : Cx} {cl : Nat → Addr} {W : WX} {e : Expr} {es : List Expr} {m : ME} {mA : MA} {p : Pos}
end
end Pu
namespace Pu
open PySem L2
def rot {α : Type} (l : List α) : List α := match l with
 | [a, b] => [b, a]
 | l => l
def gSuf (i : Int) (us ws : List U) : List U := us ++ (ws ++ [.v (.int i)])
def gPre (i : Int) (us ws : List U) : List U := us ++ ([.v (.int i)] ++ ws)
def gRot (us ws : List U) : List U := us ++ rot ws
end Pu
namespace Pu
open PySem L2
mutual
def pyB : D → Option PyData
 | .non => some .none
 | .int i => some (.int i)
 | .str x => some (.str x)
 | .bl b => some (.bool b)
 | .tup xs => (pysB xs).map .tuple
 | .lst xs => (pysB xs).map .list
 | .dic _ => none
 | .ins _ _ => none
 | .cls _ => none
 | .ty _ => none
 | .frl _ => none
 | .exn _ _ => none
def pysB : List D → Option (List PyData)
 | [] => some []
 | x :: xs => match pyB x, pysB xs with
   | some p, some ps => some (p :: ps)
   | _, _ => none
end
mutual
def likeB : D → D → Bool
 | .bl _, .int _ => false
 | .int _, .bl _ => false
 | .tup xs, .tup ys => likesB xs ys
 | .lst xs, .lst ys => likesB xs ys
 | _, _ => true
def likesB : List D → List D → Bool
 | x :: xs, y :: ys => likeB x y && likesB xs ys
 | _, _ => true
end
def datB : Nat → D → Bool
 | _, .non => true
 | _, .int _ => true
 | _, .str _ => true
 | _, .bl _ => true
 | n + 1, .tup xs => xs.all (datB n)
 | n + 1, .lst xs => xs.all (datB n)
 | _, _ => false
abbrev isDatB (d : D) : Bool := datB 20 d
@[simp] theorem datB_tup (n : Nat) (xs : List D) : datB (n + 1) (.tup xs) = xs.all (datB n) := rfl
@[simp] theorem datB_lst (n : Nat) (xs : List D) : datB (n + 1) (.lst xs) = xs.all (datB n) := rfl
section
variable {B : Bx} {F : Addr → Prop} {H : Hp}
end
noncomputable def eqDB (a b : D) : Option Bool := if isDatB a = true ∧ isDatB b = true ∧ likeB a b = true then some (decide (a = b)) else none
noncomputable def fEqB : F2 := fun x y S => match deL S x, deL S y with
 | some a, some b => (eqDB a b).map fun k => (.v (.bl k), S)
 | _, _ => none
noncomputable def fNeB : F2 := fun x y S => match deL S x, deL S y with
 | some a, some b => (eqDB a b).map fun k => (.v (.bl (!k)), S)
 | _, _ => none
section
variable {X : Cx} {cl : Nat → Addr}
end
section
variable {q : U → Sto → Prop} {S : Sto}
end
end Pu
namespace Pu
namespace Hx
open PySem PySem.Spec L2
def obsXL (P : Program) (as : List Addr) (fa : List He.Fa) (fn : List He.DefD) (fx : List Fx) (dx : List DefX) (g : Addr → Option Obj) : AlX := obsX P fa fn fx dx (He.frG g as)
def hookL (P : Program) (as : List Addr) (fa : List He.Fa) (fn : List He.DefD) (fx : List Fx) (dx : List DefX) : PySem.W.Hook where
 α := AlX
 obs := fun s => obsXL P as fa fn fx dx s.heap.get?
 val := fun _ => valX fn dx
 says := fun _ h => ∃ K : PySem.W.Frag, K.In h ∧ SaysX P fa fn fx dx K
 of := fun _ _ e => ⟨_, He.frG_in, e⟩
 keeps := fun _ _ _ ⟨K, hK, c⟩ k => ⟨K, PySem.W.Frag.In.keeps hK k, c⟩
def obL (P : Program) (as : List Addr) (fa : List He.Fa) (fn : List He.DefD) (fx : List Fx) (dx : List DefX) (s : PySem.W.SharedT) : AlX := obsXL P as fa fn fx dx (HandSHeadRun.getT s)
theorem obL_eq {P : Program} {as : List Addr} {fa : List He.Fa} {fn : List He.DefD} {fx : List Fx} {dx : List DefX} (s : PySem.W.SharedT) : obL P as fa fn fx dx s = (hookL P as fa fn fx dx).obs s.abs := by
 have h := HandSHeadRun.getT_eq s
 have e : HandSHeadRun.getT s = s.abs.heap.get? := funext h
 show obsXL P as fa fn fx dx (HandSHeadRun.getT s) = obsXL P as fa fn fx dx s.abs.heap.get?
 rw [e]
end Hx
end Pu
namespace Mi
end Mi
namespace K04
open PySem L2 Pu Mi
open PyProof.Rows hiding St
abbrev P0 : Program := PySem.Challenge.rw_askshanded_k04_rows_of_asks.prog
def top (i : Nat) : Stmt := PySem.Challenge.pw_askshanded_k04_rows_of_asks.main.body.getD i (.Pass ⟨0, 0, 0, 0⟩)
def cBody : Stmt → List Stmt
 | .ClassDef _ _ _ b _ _ _ _ _ _ _ => b
 | _ => []
def inC (i j : Nat) : Stmt := (cBody (top i)).getD j (.Pass ⟨0, 0, 0, 0⟩)
def cl (K : PySem.W.Frag) : Nat → Addr
 | 0 => He.ga K "AsksError"
 | 1 => He.ga K "BadMachine"
 | 2 => He.ga K "BadState"
 | 3 => He.ga K "TooLarge"
 | 4 => He.ga K "NoStep"
 | 7 => He.ga K "BadCount"
 | 12 => He.ga K "Machine"
 | 13 => He.ga K "Machine"
 | 14 => He.ga K "Pattern"
 | 15 => He.ga K "Machine"
 | 16 => He.ga K "Machine"
 | 17 => He.ga K "Pattern"
 | 18 => He.ga K "Machine"
 | 19 => He.ga K "Machine"
 | _ => 0
abbrev q16 : Stmt := top 27
def q1t : He.DefD := ⟨("_law_cell", none), "_law_cell", "_law_cell", defArgs q16, defBody q16, defScope q16, [], []⟩
abbrev qh : Stmt := top 28
def q1u : He.DefD := ⟨("_law_draws", none), "_law_draws", "_law_draws", defArgs qh, defBody qh, defScope qh, [], []⟩
abbrev q8 : Stmt := top 29
def q1v : He.DefD := ⟨("_law_asks", none), "_law_asks", "_law_asks", defArgs q8, defBody q8, defScope q8, [], []⟩
abbrev q17 : Stmt := top 30
def q1w : He.DefD := ⟨("_law_marks", none), "_law_marks", "_law_marks", defArgs q17, defBody q17, defScope q17, [], []⟩
abbrev qf : Stmt := top 31
def q1x : He.DefD := ⟨("_law_random", none), "_law_random", "_law_random", defArgs qf, defBody qf, defScope qf, [], []⟩
abbrev qp : Stmt := top 32
def q1y : He.DefD := ⟨("_law_pairs", none), "_law_pairs", "_law_pairs", defArgs qp, defBody qp, defScope qp, [], []⟩
abbrev q9 : Stmt := top 36
def q1z : He.DefD := ⟨("_law_all_rows", none), "_law_all_rows", "_law_all_rows", defArgs q9, defBody q9, defScope q9, [], []⟩
abbrev q1b : Stmt := inC 2 0
def q20 : Hx.DefX := ⟨fun K => (He.ma K (He.ga K "BadMachine") "__init__"), "__init__", "BadMachine.__init__", defArgs q1b, defBody q1b, defScope q1b, [], [("__class__" : Str)]⟩
abbrev q1c : Stmt := inC 4 0
def q21 : Hx.DefX := ⟨fun K => (He.ma K (He.ga K "TooLarge") "__init__"), "__init__", "TooLarge.__init__", defArgs q1c, defBody q1c, defScope q1c, [], [("__class__" : Str)]⟩
abbrev q11 : Stmt := top 17
def q22 : He.DefD := ⟨("is_ask", none), "is_ask", "is_ask", defArgs q11, defBody q11, defScope q11, [], []⟩
abbrev qo : Stmt := top 19
def q23 : He.DefD := ⟨("check_parts", none), "check_parts", "check_parts", defArgs qo, defBody qo, defScope qo, [], []⟩
abbrev qu : Stmt := top 18
def q24 : He.DefD := ⟨("in_order", none), "in_order", "in_order", defArgs qu, defBody qu, defScope qu, [], []⟩
abbrev q1d : Stmt := inC 3 0
def q25 : Hx.DefX := ⟨fun K => (He.ma K (He.ga K "BadState") "__init__"), "__init__", "BadState.__init__", defArgs q1d, defBody q1d, defScope q1d, [], [("__class__" : Str)]⟩
abbrev qy : Stmt := top 20
def q26 : He.DefD := ⟨("ends_by_ask", none), "ends_by_ask", "ends_by_ask", defArgs qy, defBody qy, defScope qy, [], []⟩
abbrev qj : Stmt := inC 21 0
def q27 : He.DefD := ⟨("Machine", some "__init__"), "__init__", "Machine.__init__", defArgs qj, defBody qj, defScope qj, [.int (0)], []⟩
abbrev q1e : Stmt := inC 22 0
def q28 : Hx.DefX := ⟨fun K => (He.ma K (He.ga K "Pattern") "__init__"), "__init__", "Pattern.__init__", defArgs q1e, defBody q1e, defScope q1e, [.int (0)], [("__class__" : Str)]⟩
abbrev q18 : Stmt := top 33
def q29 : He.DefD := ⟨("_law_client", none), "_law_client", "_law_client", defArgs q18, defBody q18, defScope q18, [], []⟩
abbrev q1f : Stmt := inC 6 0
def q2a : Hx.DefX := ⟨fun K => (He.ma K (He.ga K "BadCount") "__init__"), "__init__", "BadCount.__init__", defArgs q1f, defBody q1f, defScope q1f, [], [("__class__" : Str)]⟩
abbrev qw : Stmt := top 23
def q2b : He.DefD := ⟨("pairs_by_state", none), "pairs_by_state", "pairs_by_state", defArgs qw, defBody qw, defScope qw, [], []⟩
abbrev q1a : Stmt := inC 21 1
def q2c : Hx.DefX := ⟨fun K => (Hx.gp K "Machine" "now"), "now", "Machine.now", defArgs q1a, defBody q1a, defScope q1a, [], []⟩
abbrev qk : Stmt := top 25
def q2d : He.DefD := ⟨("ask_rows", none), "ask_rows", "ask_rows", defArgs qk, defBody qk, defScope qk, [], []⟩
abbrev q15 : Stmt := top 34
def q2e : He.DefD := ⟨("_law_whole", none), "_law_whole", "_law_whole", defArgs q15, defBody q15, defScope q15, [], []⟩
abbrev q10 : Stmt := top 35
def q2f : He.DefD := ⟨("_law_is_pair", none), "_law_is_pair", "_law_is_pair", defArgs q10, defBody q10, defScope q10, [], []⟩
abbrev q12 : Stmt := top 37
def q2g : He.DefD := ⟨("_law_is_row", none), "_law_is_row", "_law_is_row", defArgs q12, defBody q12, defScope q12, [], []⟩
abbrev q5 : Stmt := top 38
def q1m : He.DefD := ⟨("law", none), "law", "law", defArgs q5, defBody q5, defScope q5, [], []⟩
abbrev dd_Machineu_initu : List D := [.int (0)]
abbrev dd_Patternu_initu : List D := [.int (0)]
def fa : List He.Fa := [.glo "_law_cell", .glo "_law_draws", .glo "_law_asks", .glo "_law_marks", .glo "_law_random", .glo "_law_pairs", .glo "_law_all_rows", .glo "is_ask", .glo "check_parts", .glo "in_order", .glo "ends_by_ask", .glo "_law_client", .glo "pairs_by_state", .glo "ask_rows", .glo "_law_whole", .glo "_law_is_pair", .glo "_law_is_row", .glo "law", .glo "Machine", .cls "Machine", .mkr "Machine", .glo "Pattern", .cls "Pattern", .mkr "Pattern", .free "all", .free "bool", .free "int", .free "isinstance", .free "len", .free "list", .free "range", .free "sorted", .free "str", .free "super", .free "tuple", .str "LETTERS" "abcdefghijklmnopqrstuvwxyz", .int "LONGEST_ROW" (8), .int "MOST_SIGNS" (8), .int "MOST_STATES" (200), .int "MOST_STEPS" (600), .noat "Machine" "ends", .noat "Pattern" "ends", .noat "Machine" "marks", .noat "Pattern" "marks", .noat "Machine" "place", .noat "Pattern" "place", .noat "Machine" "size", .noat "Pattern" "size", .noat "Machine" "steps", .noat "Pattern" "steps", .glo "BadCount", .glo "BadMachine", .glo "BadState", .glo "TooLarge"]
def fn : List He.DefD := [q1t, q1u, q1v, q1w, q1x, q1y, q1z, q22, q23, q24, q26, q27, q29, q2b, q2d, q2e, q2f, q2g, q1m]
def fx : List Hx.Fx := [.prop "Machine" "Machine" "now", .prop "Pattern" "Machine" "now", .gen fun _ K => Hx.oexB K (He.ga K "BadCount"), .gen fun _ K => Hx.iniB K (He.ga K "BadCount"), .gen fun _ K => Hx.oexB K (He.ga K "BadMachine"), .gen fun _ K => Hx.iniB K (He.ga K "BadMachine"), .gen fun _ K => Hx.oexB K (He.ga K "BadState"), .gen fun _ K => Hx.iniB K (He.ga K "BadState"), .gen fun _ K => Hx.oexB K (He.ga K "TooLarge"), .gen fun _ K => Hx.iniB K (He.ga K "TooLarge"), .gen fun _ K => He.eqO (PySem.W.findIn K (.ref (He.ga K "BadCount")) "count") (some none), .gen fun _ K => He.eqO (PySem.W.findIn K (.ref (He.ga K "BadMachine")) "part") (some none), .gen fun _ K => He.eqO (PySem.W.findIn K (.ref (He.ga K "BadState")) "state") (some none), .gen fun _ K => He.eqO (PySem.W.findIn K (.ref (He.ga K "TooLarge")) "size") (some none), .gen fun P K => Hx.errB P K (He.ma K (He.ga K "BadMachine") "__init__") (He.ga K "BadMachine"), .gen fun P K => Hx.errB P K (He.ma K (He.ga K "TooLarge") "__init__") (He.ga K "TooLarge"), .gen fun P K => Hx.errB P K (He.ma K (He.ga K "BadState") "__init__") (He.ga K "BadState"), .gen fun P K => Hx.errB P K (He.ma K (He.ga K "BadCount") "__init__") (He.ga K "BadCount"), .sup "Pattern" "Machine"]
def dx : List Hx.DefX := [q20, q21, q25, q28, q2a, q2c]
abbrev Rw : PySem.W.OpenRow := PySem.W.OpenLaw.row PySem.Challenge.rw_askshanded_k04_rows_of_asks
def asL : List Addr := [2, 3, 24, 23, 46, 45, 67, 66, 88, 87, 109, 108, 130, 129, 225, 224, 256, 255, 137, 142, 147, 152, 159, 166, 173, 263, 268, 273, 280, 287, 292, 297, 304, 309, 316, 323, 330, 335, 340, 345, 43, 64, 85, 106, 127, 135, 140, 145, 150, 157, 164, 171, 186, 201, 208, 215, 222, 246, 253, 261, 266, 271, 278, 285, 290, 295, 302, 307, 314, 321, 328, 333, 338, 343, 193, 41, 62, 83, 104, 125, 184, 199, 206, 213, 220, 244, 251, 136, 141, 146, 151, 158, 165, 172, 262, 267, 272, 279, 286, 291, 296, 303, 308, 315, 322, 329, 334, 339, 344, 42, 31, 63, 52, 84, 73, 105, 94, 126, 115, 185, 181, 200, 207, 214, 221, 245, 238, 233, 252, 192, 6, 4, 0, 22, 25, 44, 65, 86, 107, 128, 133, 134, 138, 139, 143, 144, 148, 149, 153, 154, 155, 156, 160, 161, 162, 163, 167, 168, 169, 170, 194, 223, 226, 227, 254, 259, 260, 264, 265, 269, 270, 274, 275, 276, 277, 281, 282, 283, 284, 288, 289, 293, 294, 298, 299, 300, 301, 305, 306, 310, 311, 312, 313, 317, 318, 319, 320, 324, 325, 326, 327, 331, 332, 336, 337, 341, 342, 37, 38, 39, 40, 58, 59, 60, 61, 79, 80, 81, 82, 100, 101, 102, 103, 121, 122, 123, 124, 182, 183, 195, 196, 197, 198, 202, 203, 204, 205, 209, 210, 211, 212, 216, 217, 218, 219, 240, 241, 242, 243, 247, 248, 249, 250]
abbrev hk : PySem.W.Hook := Pu.Hx.hookL P0 asL fa fn fx dx
def ob (s : PySem.W.SharedT) : Pu.Hx.AlX := Pu.Hx.obL P0 asL fa fn fx dx s
theorem ob_eq (s : PySem.W.SharedT) : ob s = hk.obs s.abs := Pu.Hx.obL_eq s
abbrev LS : List PySem.Str := (("AsksError" : PySem.Str) :: ("BadMachine" : PySem.Str) :: ("BadState" : PySem.Str) :: ("TooLarge" : PySem.Str) :: ("NoStep" : PySem.Str) :: ("BadCount" : PySem.Str) :: ("forced" : PySem.Str) :: ("nodes_before" : PySem.Str) :: ("find_rounds" : PySem.Str) :: ("MOST_STATES" : PySem.Str) :: ("MOST_STEPS" : PySem.Str) :: ("MOST_SIGNS" : PySem.Str) :: ("LONGEST_ROW" : PySem.Str) :: ("LETTERS" : PySem.Str) :: ("is_ask" : PySem.Str) :: ("in_order" : PySem.Str) :: ("check_parts" : PySem.Str) :: ("ends_by_ask" : PySem.Str) :: ("Machine" : PySem.Str) :: ("Pattern" : PySem.Str) :: ("pairs_by_state" : PySem.Str) :: ("is_narrower" : PySem.Str) :: ("ask_rows" : PySem.Str) :: ("_law_cell" : PySem.Str) :: ("_law_draws" : PySem.Str) :: ("_law_asks" : PySem.Str) :: ("_law_marks" : PySem.Str) :: ("_law_random" : PySem.Str) :: ("_law_pairs" : PySem.Str) :: ("_law_client" : PySem.Str) :: ("_law_whole" : PySem.Str) :: ("_law_is_pair" : PySem.Str) :: ("_law_all_rows" : PySem.Str) :: ("_law_is_row" : PySem.Str) :: [])
theorem run (w : World) : HandSHeadRun.RunEq Rw (PySem.W.view Rw.prog [38]) hk ob 20000 LS w := by
 intro os
 kernel_rfl
end K04
namespace Pu
open PySem L2
def fTupC : FA := fun us S => if us.length ≤ 100000 then some (.r S.length, S ++ [.tpc us]) else none
def fSlT : U → Option Int → Option Int → Sto → Option (U × Sto) := fun x lo hi S => match x with
 | .r n => match S[n]? with
   | some (.tpc xs) => (allV (cutU xs lo hi)).map fun ds => (.v (.tup ds), S)
   | _ => none
 | _ => none
section
variable {X : Cx} {cl : Nat → Addr} {W : WX} {es : List Expr} {mA : MA} {pos : Pos}
end
section
variable {q : U → Sto → Prop} {S : Sto}
end
end Pu
namespace Pu
open PySem L2
noncomputable def fSetdef : FM := fun o us S => match o, us with
 | .r n, [.v (.tup ks), w] => match S[n]? with
   | some (.dic kvs) => if isKey (.tup ks) = true ∧ kvs.length < 100000 then (match dget kvs (.tup ks) with
     | some u => some (u, S)
     | none => some (w, S.set n (.dic (dput kvs (.tup ks) w)))) else none
   | _ => none
 | _, _ => none
section
variable {X : Cx} {cl : Nat → Addr} {W : WX}
end
section
variable {q : U → Sto → Prop} {S : Sto}
end
end Pu
open PySem L2
namespace Pu
section
variable {X : Cx} {cl : Nat → Addr} {W : WX} {n : Nat} {mf : List U → Sto → R U} {mA : MA} {e : Expr}
end
end Pu
namespace Pu
open PySem L2
noncomputable def fInD (neg : Bool) : F2 := fun x y S => match deL S x, deL S y with
 | some a, some (.lst ds) => if isDat a = true ∧ isDat (.lst ds) = true then some (.v (.bl (cond neg (!decide (a ∈ ds)) (decide (a ∈ ds)))), S) else none
 | _, _ => none
noncomputable def idxD (a : D) (ds : List D) : Nat := ds.findIdx fun z => decide (z = a)
noncomputable def fIdxD : FM := fun o us S => match us with
 | [x] => match deL S x, deL S o with
   | some a, some (.lst ds) => if isDat a = true ∧ isDat (.lst ds) = true ∧ a ∈ ds then some (.v (.int (idxD a ds)), S) else none
   | _, _ => none
 | _ => none
section
variable {X : Cx} {cl : Nat → Addr} {W : WX}
end
section
variable {q : U → Sto → Prop} {S : Sto}
end
end Pu
namespace Pu
open PySem L2
noncomputable def dputs (kvs more : List (D × U)) : List (D × U) := more.foldl (fun acc p => dput acc p.1 p.2) kvs
def hashOk (more : List (D × U)) : Prop := ∀ w : World, (more.map fun p => (nkey p.1).map (NestedKey.hash w)).Nodup
open Classical in
noncomputable def fUpdD : FM := fun o us S => match o, us with
 | .r n, [.r m] => match S[n]?, asDic S (.r m) with
   | some (.dic kvs), some more => if (kvs ≠ [] ∨ hashOk more) ∧ m ≠ n ∧ kvs.length + more.length ≤ 100000 then some (.v .non, S.set n (.dic (dputs kvs more))) else none
   | _, _ => none
 | _, _ => none
section
variable {X : Cx} {cl : Nat → Addr} {W : WX} {ι : List Addr} {F : Addr → Prop} {H : Hp}
end
section
variable {q : U → Sto → Prop} {S : Sto}
end
end Pu
namespace Pu
open PySem L2
open PyProof.Rows hiding St
def fInO (neg : Bool) (cs : List Nat) (mf : List U → Sto → R U) : F2 := fun x y S => match asIns S y with
 | some (c, _) => if c ∈ cs then (match mf [y, x] S with
   | .ok (.v (.bl b)) S' => some (.v (.bl (cond neg (!b) b)), S')
   | _ => none) else none
 | none => none
section
variable {X : Cx} {cl : Nat → Addr} {W : WX} {k : Nat} {f : Addr} {fd : FuncData} {ps : List Str} {mf : List U → Sto → R U} {cs : List Nat}
end
section
variable {q : U → Sto → Prop} {S : Sto} {cs : List Nat} {mf : List U → Sto → R U}
end
end Pu
namespace Pu
open PySem L2
open PyProof.Rows hiding St
def isTt (S : Sto) : U → Bool
 | .v (.tup _) => true
 | .r n => match S[n]? with
   | some (.tpc _) => true
   | _ => false
 | _ => false
section
variable {X : Cx} {cl : Nat → Addr} {W : WX} {pins : List (Addr × Obj)} {σ : L2.St} {ι : List Addr} {F : Addr → Prop} {H : Hp} {S : Sto} {s : Shared}
theorem tup_h (I : Inv X pins σ H s) {a : Addr} {vs : List V} (h : TupAt H a vs) : ∃ ob its n, s.heap.get? a = some ob ∧ ob.cls = .type "tuple" ∧ ob.dict = none ∧ ob.data = .seq its n ∧ Vals vs its.toList := by
 obtain ⟨ob, hd, h⟩ := h
 obtain ⟨h1, hz, its, rv, ob2, g1, g2, n, g3⟩ := (show ObjOk X.prog X.w H s.heap a (.frz ob (.tup vs)) from I.hok a _ h)
 rw [h1] at g1
 cases g1
 exact ⟨ob, its.toArray, n, h1, g2, hd, g3, by simpa using rv⟩
end
noncomputable def cntD (a : D) (ds : List D) : Nat := ds.countP fun z => decide (z = a)
noncomputable def fCountT : FM := fun o us S => match o, us with
 | .v (.tup ds), [x] => match deL S x with
   | some a => if isDat a = true ∧ isDat (.tup ds) = true then some (.v (.int (cntD a ds : Nat)), S) else none
   | none => none
 | _, _ => none
section
variable {X : Cx} {cl : Nat → Addr} {W : WX}
end
section
variable {q : U → Sto → Prop} {S : Sto}
end
end Pu
namespace Pu
open PySem L2
open PyProof.Rows hiding St
def pairsD : List D → Option (List (D × D))
 | [] => some []
 | .tup [k, v] :: t => (pairsD t).map ((k, v) :: ·)
 | _ => none
def isTk (d : D) : Bool := match d with
 | .tup _ => isKey d
 | _ => false
noncomputable def fDictP : FA := fun us S => match us with
 | [.v (.tup ps)] => match pairsD ps with
   | some kvs => if (kvs.all fun p => isTk p.1) = true ∧ kvs.length ≤ 100000 then some (.r S.length, S ++ [.dic (dputs [] (kvs.map fun p => (p.1, U.v p.2)))]) else none
   | none => none
 | _ => none
section
variable {X : Cx} {cl : Nat → Addr} {W : WX} {pins : List (Addr × Obj)} {σ : L2.St} {ι : List Addr} {F : Addr → Prop} {H : Hp} {s : Shared}
theorem pairs_ok (I : Inv X pins σ H s) : ∀ {ds : List D} {vs : List V} {kvs : List (D × D)}, Reps (bx X cl) F H vs ds → pairsD ds = some kvs → (kvs.all fun p => isTk p.1) = true →
   ∃ (ts : List Addr) (es : List Ent), vs = ts.map V.ref ∧ RepKU (bx X cl) ι F H es (kvs.map fun p => (p.1, U.v p.2)) ∧ Paired (fun t (e : Ent) => PairAt s.heap t (.ref e.2.1) e.2.2) ts es
 | [], vs, kvs, h, e, _ => by
   cases h
   simp [pairsD] at e; subst e
   exact ⟨[], [], rfl, .nil, .nil⟩
 | d :: ds, vs, kvs, h, e, ka => by
   cases h with
   | @cons v vs' _ _ h1 h2 =>
     unfold pairsD at e
     split at e
     · rename_i q; cases q
     · rename_i k w t q
       cases q
       obtain ⟨kvs', e1, rfl⟩ := Option.map_eq_some_iff.mp e
       rw [List.all_cons, Bool.and_eq_true] at ka
       obtain ⟨ts, es, rfl, r2, p2⟩ := pairs_ok I h2 e1 ka.2
       have k1 := ka.1
       unfold isTk at k1
       dsimp only at k1
       split at k1
       · rename_i ks
         cases h1 with
         | @tup a vv _ ht rr =>
           obtain ⟨ob, its, n, g1, g2, g3, g4, rv⟩ := tup_h I ht
           cases rr with
           | cons ra rr =>
             cases rr with
             | cons rb rr =>
               cases rr
               cases hl : its.toList with
               | nil => rw [hl] at rv; cases rv
               | cons uk us =>
                 rw [hl] at rv
                 cases rv with
                 | cons rk rv =>
                   cases us with
                   | nil => cases rv
                   | cons ud us =>
                     cases rv with
                     | cons rd rv =>
                       cases rv
                       obtain ⟨nk, ek, dk⟩ := nkey_of k1
                       obtain ⟨b, rfl, zk⟩ := repu_tup (ι := ι) (.v ra)
                       cases rk
                       refine ⟨a :: ts, (nk, b, ud) :: es, rfl, .cons ⟨ek, zk, dk, _, rd, .v rb⟩ r2, .cons (.inl ⟨ob, g1, g2, n, ?_⟩) p2⟩
                       rw [g4]
                       have : its = #[Value.ref b, ud] := by
                         apply Array.ext'
                         rw [hl]
                       rw [this]
       · cases k1
     · cases e
end
section
variable {q : U → Sto → Prop} {S : Sto}
end
end Pu
namespace Pu
namespace Zx
open PySem PySem.Spec L2
open PyProof.Rows hiding St
def ItE (K : PySem.W.Frag) (t : Bool) (a : Addr) : It where
 go := fun i H => ∃ (xs : List V) (x : V), Sq t K H a xs ∧ xs[i]? = some x
 yld := fun i H v G => ∃ T x, v = .ref T ∧ H T = none ∧ (∃ ob : Obj, ob.dict = none ∧ G = upd H T (.frz ob (.tup [.int (i : Nat), x]))) ∧ ∀ xs, Sq t K H a xs → xs[i]? = some x
 stop := fun i H => ∃ xs : List V, Sq t K H a xs ∧ xs.length ≤ i
structure EnSt (t : Bool) (e it a : Addr) (i : Nat) (h : Heap) : Prop where
 en : ∃ old, IsEnum h e it ((i : Nat) : Int) old
 m : ItAt t h it a i
 ne : e ≠ it
 la : a ≠ it
 le : a ≠ e
def iEnX (K : PySem.W.Frag) (ta : TA) : TI := fun σ H R => ta σ H fun vs H1 => ∃ t a xs, vs = [.ref a] ∧ Sq t K H1 a xs ∧ R (ItE K t a) H1
end Zx
def enD : Nat → List D → List U
 | _, [] => []
 | k, d :: ds => .v (.tup [.int (k : Nat), d]) :: enD (k + 1) ds
def iEnu (a : MA) : MI := fun ρ S => (a ρ S).bind fun us S1 => match us with
 | [u] => match asSeq S1 u with
   | some xs => match allV xs with
     | some ds => .ok ⟨enD 0 ds, srcOf u⟩ S1
     | none => .er
   | none => .er
 | _ => .er
section
open PySem PySem.Spec L2
variable {X : Cx} {cl : Nat → Addr} {W : WX}
end
end Pu
namespace Pu
open PySem L2
variable {ρ : Env'} {S : Sto} {X : XP}
def enuW (S : Sto) (us : List U) (q : IterV → Prop) : Prop := match us with
 | [u] => seqV S u fun xs => wpo (allV xs) fun ds => q ⟨enD 0 ds, srcOf u⟩
 | _ => False
@[simp] theorem enuW_1 (u : U) (q : IterV → Prop) : enuW S [u] q = seqV S u fun xs => wpo (allV xs) fun ds => q ⟨enD 0 ds, srcOf u⟩ := rfl
end Pu
namespace Pu
open PySem PySem.Spec L2
open PyProof.Rows hiding St
open Classical in
noncomputable def iOwnL (cs : List Nat) (fld : Str) (mo : ME) : MI := fun ρ S => (mo ρ S).bind fun x S1 => match asIns S1 x with
 | some (c', fs) => if c' ∈ cs then (match fs.lookup fld with
   | some z => match asSeq S1 z with
     | some xs => if isTp S1 z then .er else .ok ⟨xs, srcOf z⟩ S1
     | none => .er
   | none => .er) else .er
 | none => .er
section
variable {X : Cx} {cl : Nat → Addr} {W : WX} {tg o : Expr} {mo : ME} {cs : List Nat} {fld qual : Str} {params : Arguments} {scope : Scope} {f : Addr} {fd : FuncData} {p1 p2 p3 p4 p5 : Pos}
end
section
variable {q : U → Sto → Prop} {S : Sto} {X : XP} {ρ : Env'}
end
end Pu
namespace Pu
open PySem PySem.Spec L2
open PyProof.Rows hiding St
noncomputable def fLenD : FA := fun us S => match us with
 | [u] => (asDic S u).map fun kvs => (.v (.int kvs.length), S)
 | _ => none
section
variable {X : Cx} {cl : Nat → Addr}
end
section
variable {q : U → Sto → Prop} {S : Sto}
end
end Pu
namespace Pu
open PySem PySem.Spec L2
open PyProof.Rows hiding St
def fIsX2 (tA tB : Nat → Nat → Option Bool) : FA := fun us S => match us with
 | [u, .v (.tup [.cls a, .cls b])] => match asIns S u with
   | some (c', _) => match tA c' a with
     | some true => some (.v (.bl true), S)
     | some false => (tB c' b).map fun r => (.v (.bl r), S)
     | none => none
   | none => none
 | _ => none
section
variable {X : Cx} {cl : Nat → Addr}
end
section
variable {S : Sto} {q : U → Sto → Prop}
end
end Pu
namespace Pu
open PySem L2
open PyProof.Rows hiding St
noncomputable def sFzV (i : Nat) (m : MS) : MS := fun ρ S => match ρ[i]? with
 | some (some (.r n)) => match S[n]? with
   | some (.lst xs) => match allV xs with
     | some ds => m (ρ.set i (some (.v (.lst ds)))) (S.set n .dead)
     | none => .er
   | _ => .er
 | _ => m ρ S
section
variable {S : Sto} {ρ : Env'} {Q : Post}
end
end Pu
namespace Pu
open PySem PySem.Spec L2
open PyProof.Rows hiding St
def starSp (sp : Sp) : Sp := fun vs H Q E => ∃ v rest, vs = v :: rest ∧ rest.length ≤ sizeLine ∧ ∀ (p : Addr) (ob : Obj), ob.dict = Option.none → H p = none → sp [v, .ref p] (upd H p (.frz ob (.tup rest))) Q E
section
variable {P : Program} {w : World} {K : PySem.W.Frag} {mg : Str → Option Value} {base : Heap} {cl : Nat → Addr} {x qual : Str} {params : Arguments} {body : List Stmt} {scope : Scope} {f : Addr} {fd : FuncData} {N : List Str} {ps pv : Str} {k : Nat} {m : MS}
end
section
variable {X : Cx} {o e : Expr} {ta : TE} {es : List Expr} {t : TA} {apos pos : Pos} {C f : Addr} {m : Str} {sp : Sp} {E : XK} {k : Nat} {CX : CXT}
end
def eMethV (c : Nat) (m : Str) (mf : List U → Sto → R U) (mo : ME) (a : MA) : ME := fun ρ S => (mo ρ S).bind fun x S1 => match asIns S1 x with
 | some (c', fs) => if c' = c ∧ fs.lookup m = none then (a ρ S1).bind fun us S2 => match allV us with
   | some ds => if us.length ≤ 1000 then mf [x, .v (.tup ds)] S2 else .er
   | none => .er else .er
 | none => .er
section
variable {X : Cx} {cl : Nat → Addr} {W : WX} {k : Nat} {f : Addr} {m : Str} {mf : List U → Sto → R U} {o e : Expr} {es : List Expr} {mo : ME} {mA : MA} {apos pos : Pos}
end
section
variable {ρ : Env'} {S : Sto} {q : U → Sto → Prop} {X : XP}
end
end Pu
namespace Pu
open PySem PySem.Spec L2
open PyProof.Rows hiding St
def eMkTS0 (c : Nat) (mf : List U → Sto → R U) (mx : ME) : ME := fun ρ S => (mx ρ S).bind fun x S1 => match asSeq S1 x with
 | some us => eMakeT c mf us (.v .non) S1
 | none => .er
section
variable {X : Cx} {cl : Nat → Addr} {W : WX} {k : Nat} {f : Addr} {kn : Str} {mf : List U → Sto → R U} {x : Str} {p pos sp : Pos} {e : Expr} {mx : ME}
end
section
variable {ρ : Env'} {S : Sto} {q : U → Sto → Prop} {X : XP}
end
end Pu
namespace Pu
open PySem PySem.Spec L2
open PyProof.Rows hiding St
def fIsiC : FA := fun us S => match us with
 | [.r n, .v (.ty T)] => match S[n]? with
   | some (.tpc _) => (kitB "tuple" T).map fun b => (.v (.bl b), S)
   | _ => fIsi us S
 | us => fIsi us S
section
variable {X : Cx} {cl : Nat → Addr} {W : WX}
end
section
variable {S : Sto} {q : U → Sto → Prop}
end
end Pu
namespace Pu
open PySem PySem.Spec L2
open PyProof.Rows hiding St
section
variable {X : Cx} {cl : Nat → Addr} {W : WX} {pos : Pos}
end
end Pu
namespace Pu
open PySem PySem.Spec L2
open PyProof.Rows hiding St
def eCallK (n np nk : Nat) (mf : List U → Sto → R U) (gU : List U → List U → List U) (a b : MA) : ME := fun ρ S => (a ρ S).bind fun us S1 => (b ρ S1).bind fun ws S2 => if us.length = np ∧ ws.length = nk ∧ (gU us ws).length = n then mf (gU us ws) S2 else .er
section
variable {K : PySem.W.Frag} {x qual : Str} {params : Arguments} {body : List Stmt} {scope : Scope} {kws : List (Str × V)} {f : Addr} {fd : FuncData} {ps : List Str}
end
section
variable {X : Cx} {cl : Nat → Addr} {W : WX} {k n : Nat} {f : Addr} {fd : FuncData} {ps ks : List Str} {mf : List U → Sto → R U} {x : Str} {p pos : Pos} {e : Expr} {es : List Expr} {mA mK : MA} {kws : List Keyword}
end
section
variable {ρ : Env'} {S : Sto} {q : U → Sto → Prop} {X : XP}
end
def fMulS : F2 := fun x y S => match asLst S x, y with
 | some xs, .v (.int k) => if 0 ≤ k ∧ k ≤ 100000 ∧ xs.length * k.toNat ≤ 100000 then some (.r S.length, S ++ [.lst (List.replicate k.toNat xs).flatten]) else none
 | _, _ => none
end Pu
namespace Pu
open PySem PySem.Spec L2
open PyProof.Rows hiding St
noncomputable def eDict1 (mk mv : ME) : ME := fun ρ S => (mk ρ (S ++ [.dic []])).bind fun x S1 => (mv ρ S1).bind fun y S2 => match x with
 | .v (.tup ks) => (match S2[S.length]? with
   | some (.dic []) => if isKey (.tup ks) = true then .ok (.r S.length) (S2.set S.length (.dic [(.tup ks, y)])) else .er
   | _ => .er)
 | _ => .er
section
variable {X : Cx} {cl : Nat → Addr} {W : WX} {k v : Expr} {mk mv : ME} {pos : Pos}
end
section
variable {ρ : Env'} {S : Sto} {q : U → Sto → Prop} {X : XP}
end
end Pu
namespace Pu
open PySem PySem.Spec L2
open PyProof.Rows hiding St
noncomputable def fValsX : F1 := fun u S => match asDic S u with
 | some kvs => (allV (kvs.map (·.2))).map fun ds => (.v (.lst ds), S)
 | none => none
section
variable {X : Cx} {cl : Nat → Addr} {W : WX} {e : Expr} {m : ME} {p apos cpos pos : Pos}
end
section
variable {q : U → Sto → Prop} {S : Sto}
end
def gSufN (us ws : List U) : List U := us ++ (ws ++ [.v .non])
end Pu
namespace Pu
open PySem PySem.Spec L2
open PyProof.Rows hiding St
section
variable {P : Program} {w : World} {K : PySem.W.Frag} {mg : Str → Option Value} {base : Heap} {cl : Nat → Addr} {qual : Str} {body : List Stmt} {scope : Scope} {f : Addr} {N : List Str} {k : Nat} {m : MS} {cdv : Value} {A : Around} {outer : List Env} {s : Shared} {H : Hp} {E : XK}
theorem xdk (hr : Room k (A.deeper (envOfC qual scope s.heap.objs.size f cdv)))
   (h : (Xd P w K mg base N qual scope f cdv A outer s H E).A.units + 65 < cLine → (Xd P w K mg base N qual scope f cdv A outer s H E).A.units + 64 < cLine → (Xd P w K mg base N qual scope f cdv A outer s H E).A.units + 20 < cLine → Takes (Xd P w K mg base N qual scope f cdv A outer s H E) (Wd E) → QSs (Xd P w K mg base N qual scope f cdv A outer s H E) cl (Wd E) body m) :
   QSs (Xd P w K mg base N qual scope f cdv A outer s H E) cl (Wd E) body m := by
 have hu3 : (Xd P w K mg base N qual scope f cdv A outer s H E).A.units + 65 < cLine := by
   have := hr.un
   show (A.deeper _).units + 65 < cLine
   omega
 exact h hu3 (by omega) (by omega) (takes_of rfl rfl rfl rfl)
end
end Pu
namespace Pu
open PySem PySem.Spec L2
open PyProof.Rows hiding St
def fRevS : F1 := fun x S => match asList S x with
 | some xs => some (.r S.length, S ++ [.lst xs.reverse])
 | none => none
section
variable {X : Cx} {cl : Nat → Addr} {W : WX} {e : Expr} {m : ME} {p2 pos : Pos}
end
section
variable {S : Sto} {q : U → Sto → Prop}
end
end Pu
namespace Pu
open PySem PySem.Spec GenW
section
variable {M : Model} {A : Around} {R : GenEnd} {Y : Protocol} {n : Nat} {s₀ : Shared} {c : Code} {fs : List Frame} {s : Shared} {env : Env}
 {K : Flow → Sem PySem.Fin} {J : Value → Sem PySem.Fin} {gd : Bool → Bool} {lv : List Value → List Value}
def loopRet (env : Env) (K : Flow → Sem PySem.Fin) (J : Value → Sem PySem.Fin) (gd : Bool → Bool) (lv : List Value → List Value) : Result → Sem PySem.Fin := fun r =>
 ((match r with | .ok f => (.pure f : Sem Flow) | .error e => .raise e).onRaise fun (x : Value) => do
       if (← field x 1) == Value.none then unsupported "frame.own-activation:exception-without-traceback"
       setFlight x env.frame).wrap K J gd lv
theorem seg_For {target iter : Expr} {body : List Stmt} {pos : Pos}
   (h : wpAny M (A.over c fs) (eval iter env) (fun x s1 => wpAny M (A.over c fs) (pyIter x) (fun it s2 => ∀ p, Seg M A R Y n s₀ (.forLoop target it body [] env) (M.den (.forLoop target it body [] env)) (.ret (loopRet env K J gd lv) none (gd false) (lv []) c p [] :: fs) s2) (fun _ _ => False) s1) (fun _ _ => False) s)
   (hs : ∀ x, foldedSetIterable iter env x = pure x) : Seg M A R Y n s₀ c ((exec (.For target iter body [] pos) env).wrap K J gd lv) fs s := by
 rw [exec_For]
 refine seg_bind_wrap (wpAny_standAt ?_)
 refine seg_bind_wrap (wpAny_mono h (fun x s1 h1 => ?_) fun _ _ z => z.elim)
 refine seg_bind_wrap (wpAny_of_eq (hs x) ?_)
 refine seg_bind_wrap (wpAny_standAt ?_)
 refine seg_bind_wrap (wpAny_holding (wpAny_mono h1 (fun it s2 h2 => ?_) fun _ _ z => z.elim))
 exact seg_call h2
end
section
variable {prog : Program} {w : World} {A : Around} {R : GenEnd} {Y : Protocol} {n : Nat} {s₀ : Shared} {fs : List Frame} {s : Shared} {env : Env}
def turnEnd (target : Expr) (it : Value) (body : List Stmt) (env : Env) : Flow → Sem PySem.Fin := fun f => match f with
 | .next | .cont => .pure (.again (.forLoop target it body [] env))
 | .brk => .pure (.done .next)
 | .ret v => .pure (.done (.ret v))
def turnRaise (env : Env) : Value → Sem PySem.Fin := fun e => (do noteFrame e env; theTreesLotGoes e : Sem Unit).wrap (fun _ => .raise e) .raise id id
theorem seg_forLoop {target : Expr} {it : Value} {body : List Stmt}
   (h : wpAny (model prog w) (A.over (.forLoop target it body [] env) fs) (pyNext it) (fun r s1 => match r with
     | none => Seg (model prog w) A R Y n s₀ (.block [] env) (.pure (.done .next)) fs s1
     | some v => wpAny (model prog w) (A.over (.forLoop target it body [] env) fs) (letOwnedTupleGo target it v) (fun _ s2 => wpAny (model prog w) (A.over (.forLoop target it body [] env) fs) (assign target env v) (fun _ s3 =>
         Seg (model prog w) A R Y n s₀ (.forLoop target it body [] env) ((execs body env).wrap (turnEnd target it body env) (turnRaise env) id id) fs s3) (fun _ _ => False) s2) (fun _ _ => False) s1) (fun _ _ => False) s) :
   Seg (model prog w) A R Y n s₀ (.forLoop target it body [] env) ((model prog w).den (.forLoop target it body [] env)) fs s := by
 show Seg _ A R Y n s₀ _ ((forTurn target it body [] env).onRaise (fun x => do noteFrame x env; theTreesLotGoes x)) fs s
 rw [Sem.onRaise_eq_wrap]
 unfold forTurn
 refine seg_bind_wrap (wpAny_standAt ?_)
 refine seg_bind_wrap (wpAny_onRaise (wpAny_mono h (fun r s1 h1 => ?_) fun _ _ z => z.elim))
 cases r with
 | none =>
   refine seg_again (by rfl) ?_
   first
     | exact h1
     | (show Seg _ A R Y n s₀ (.block [] env) (((execs [] env) >>= fun f => (.pure (.done f) : Sem PySem.Fin)).onRaise _) fs s1; exact h1)
     | trace_state
 | some v =>
   refine seg_bind_wrap (wpAny_mono h1 (fun _ s2 h2 => ?_) fun _ _ z => z.elim)
   refine seg_bind_wrap (wpAny_mono h2 (fun _ s3 h3 => ?_) fun _ _ z => z.elim)
   rw [Sem.bind_eq_wrap', Sem.wrap_wrap]
   rw [Sem.wrap_congr (execs body env) _ _ (K' := turnEnd target it body env) (H' := turnRaise env) (fun f => by cases f <;> rfl)
     (fun e => by first | exact Sem.bind_eq_wrap _ _ | (show (do noteFrame e env; theTreesLotGoes e : Sem Unit).bind (fun _ => .raise e) = _; rw [Sem.bind_eq_wrap]; rfl))]
   exact h3
end
end Pu
namespace Pu
open PySem PySem.Spec L2 GenW
open PyProof.Rows hiding St
def NsO (C : Addr) (o : Obj) : Prop := (∀ v, o.data ≠ .cell v) ∧ ∀ h : Heap, h.get? C = some o → ∃ m, h.Ns C m
structure Slp (D C : Addr) (v : Value) (s s' : Shared) : Prop where
 os : s'.os = s.os
 bare : AllBare s'.gens
 keep : ∀ b o, b ≠ D → b ≠ C → s.heap.get? b = some o → s'.heap.get? b = some o
 lst : ∀ acc c, s.heap.get? D = some (lstObj acc c) → ∃ c', s'.heap.get? D = some (lstObj (acc.push v) c')
 nms : ∀ o, s.heap.get? C = some o → ∃ o', s'.heap.get? C = some o' ∧ NsO C o'
def Far (X : Cx) (b : Addr) : Prop := X.s_0.heap.objs.size ≤ b ∧ b ≠ X.env.locals ∧ ∀ x c, X.env.cells.lookup x = some c → c ≠ b
def GIn (X : Cx) (D C : Addr) (ip : List (Addr × Obj)) (ys : List V) (σ : L2.St) (H : Hp) (s : Shared) : Prop :=
 ∃ (acc : Array Value) (c : Nat) (oC : Obj), Vals ys acc.toList ∧ NsO C oC ∧ Inv X ((D, lstObj acc c) :: (C, oC) :: ip) σ H s
theorem GIn.woken {X : Cx} {D C : Addr} {ip : List (Addr × Obj)} {ys : List V} {x : V} {v : Value} {σ : L2.St} {H : Hp} {s s' : Shared} (hDC : D ≠ C) (hp1 : ∀ p ∈ X.pn, p.1 ≠ D ∧ p.1 ≠ C) (hp2 : ∀ p ∈ ip, p.1 ≠ D ∧ p.1 ≠ C) (fD : Far X D) (fC : Far X C)
   (h : GIn X D C ip ys σ H s) (rv : RelV x v) (z : Slp D C v s s') : GIn X D C ip (ys ++ [x]) σ H s' := by
 obtain ⟨acc, c, oC, r, hC, I⟩ := h
 obtain ⟨d1, d2, d3, d4, _⟩ := I.pin (D, lstObj acc c) (List.mem_append_right _ (List.mem_cons_self))
 obtain ⟨c1, c2, c3, c4, _⟩ := I.pin (C, oC) (List.mem_append_right _ (List.mem_cons_of_mem _ List.mem_cons_self))
 have J0 : Inv X ip σ H s := I.pins_of fun p hp => I.pin p (List.mem_append_right _ (List.mem_cons_of_mem _ (List.mem_cons_of_mem _ hp)))
 obtain ⟨z1, z2, z3, z4, z5⟩ := z
 obtain ⟨c', eD⟩ := z4 acc c d1
 obtain ⟨oC', eC, hC'⟩ := z5 oC c1
 have tr : ∀ b u, H b = some u → b ≠ D ∧ b ≠ C := fun b u q => ⟨fun e => (by rw [e, d2] at q; cases q), fun e => (by rw [e, c2] at q; cases q)⟩
 have out : ∀ b, b ∉ [D, C] → b ≠ D ∧ b ≠ C := fun b hb => ⟨fun e => hb (by simp [e]), fun e => hb (by simp [e])⟩
 obtain ⟨hh, g, dr, t, o⟩ := s'
 obtain rfl : o = s.os := z1
 have J : Inv X ip σ H { s with heap := hh, gens := g, drawn := dr, toks := t } := by
   refine J0.step (g' := g) (t' := t) (d' := dr) (ch := [D, C]) (fun b hb => ?_) (fun b ob _ _ hc q _ => z3 b ob (out b hc).1 (out b hc).2 q) (fun b ob _ _ hc q _ => ⟨ob.slots, z3 b ob (out b hc).1 (out b hc).2 q⟩)
     (fun _ _ _ _ n => n) (fun b ob hc q => ⟨ob, z3 b ob (out b hc).1 (out b hc).2 q⟩) (fun _ _ q => q) (fun _ _ _ q => q) (fun b ps q => ⟨#[], by rw [q]; simp⟩) (fun m hm => ?_) (fun b u q => ?_) z2
   · have far : ∀ b, Far X b → (∀ p ∈ X.pn, p.1 ≠ b) → (∀ p ∈ ip, p.1 ≠ b) → (b ∈ X.ex ∨ X.s_0.heap.objs.size ≤ b) ∧ b ≠ X.env.locals ∧ (∀ x c, X.env.cells.lookup x = some c → c ≠ b) ∧ ∀ p ∈ X.pn ++ ip, p.1 ≠ b :=
       fun b fb h1 h2 => ⟨.inr fb.1, fb.2.1, fb.2.2, fun p hp => (List.mem_append.mp hp).elim (h1 p) (h2 p)⟩
     rcases List.mem_cons.mp hb with rfl | hb
     · exact far _ fD (fun p hp => (hp1 p hp).1) fun p hp => (hp2 p hp).1
     · obtain rfl : b = C := by simpa using hb
       exact far _ fC (fun p hp => (hp1 p hp).2) fun p hp => (hp2 p hp).2
   · obtain ⟨ob, es, ep, ho, r⟩ := hm
     exact ⟨ob, es, ep, z3 _ ob (Ne.symm d3) (Ne.symm c3) ho, r⟩
   · refine (J0.hok b u q).stay (fun k w hk y => ?_) (fun _ y => y) fun _ _ y => y
     have : k ≠ D ∧ k ≠ C := by
       rcases hk with e | e
       · rw [e]; exact tr b u q
       · exact tr k _ e
     exact z3 k w this.1 this.2 y
 refine ⟨acc.push v, c', oC', ?_, hC', J.pins_of fun p hp => ?_⟩
 · rw [Array.toList_push]
   exact r.append (.cons rv .nil)
 · rcases List.mem_cons.mp hp with rfl | hp
   · exact ⟨eD, d2, d3, d4, fun w q => by cases q⟩
   · rcases List.mem_cons.mp hp with rfl | hp
     · exact ⟨eC, c2, c3, c4, hC'.1⟩
     · exact J.pin p (List.mem_append_right _ hp)
def GPr (X : Cx) (D C : Addr) : Protocol := fun n _ v s kap =>
 ∃ ys x ip σ H, n + 1 + ys.length = sizeLine ∧ RelV x v ∧ GIn X D C ip ys σ H s ∧ ∀ s', Slp D C v s s' → kap (.send .none) s'
def GOut (X : Cx) (D C : Addr) (ip : List (Addr × Obj)) (E : GEnds) (ys : List V) (f : Flow) (s : Shared) : Prop :=
 match f with
 | .next => ∃ σ H, GIn X D C ip ys σ H s ∧ E.nx ys σ H
 | .brk => ∃ σ H, GIn X D C ip ys σ H s ∧ E.bk ys σ H
 | .cont => ∃ σ H, GIn X D C ip ys σ H s ∧ E.ct ys σ H
 | .ret u => ∃ v σ H, GIn X D C ip ys σ H s ∧ RelV v u ∧ E.rt ys v H
structure GAt (X : Cx) (D C : Addr) (ip : List (Addr × Obj)) (A : Around) (c : Code) (fs : List Frame) (gd : Bool → Bool) : Prop where
 ne : D ≠ C
 p1 : ∀ p ∈ X.pn, p.1 ≠ D ∧ p.1 ≠ C
 p2 : ∀ p ∈ ip, p.1 ≠ D ∧ p.1 ≠ C
 fD : Far X D
 fC : Far X C
 over : A.over c fs = X.A
 split : splitAtGen fs = none
 guard : fs.any Frame.guarded = false
 gd : gd false = false
 nx : X.xe = fun _ _ => False
def GNx (X : Cx) (D C : Addr) (ip : List (Addr × Obj)) (A : Around) (R : GenEnd) (c : Code) (fs : List Frame) (K : Flow → Sem PySem.Fin) (E : GEnds) : Prop :=
 ∀ (n : Nat) (ys : List V) (s₀ s : Shared) (f : Flow), n + ys.length = sizeLine → GOut X D C ip E ys f s → Seg (model X.prog X.w) A R (GPr X D C) n s₀ c (K f) fs s
def GTk (X : Cx) (sem : Sem Flow) (t : TGn) : Prop :=
 ∀ (A : Around) (D C : Addr) (ip : List (Addr × Obj)) (R : GenEnd) (n : Nat) (ys : List V) (s₀ : Shared) (c : Code) (fs : List Frame) (K : Flow → Sem PySem.Fin) (J : Value → Sem PySem.Fin) (gd : Bool → Bool) (lv : List Value → List Value) (s : Shared) (σ : L2.St) (H : Hp) (E : GEnds),
   GAt X D C ip A c fs gd → n + ys.length = sizeLine → GNx X D C ip A R c fs K E → GIn X D C ip ys σ H s → t E ys σ H → Seg (model X.prog X.w) A R (GPr X D C) n s₀ c (sem.wrap K J gd lv) fs s
abbrev GT (X : Cx) (st : Stmt) (t : TGn) : Prop := GTk X (exec st X.env) t
abbrev GTs (X : Cx) (st : List Stmt) (t : TGn) : Prop := GTk X (execs st X.env) t
section
variable {X : Cx} {st : Stmt} {rest : List Stmt}
theorem gout_sp {D C : Addr} {acc : Array Value} {c : Nat} {oC : Obj} {ip : List (Addr × Obj)} {s : Shared} {E : GEnds} {ys : List V} {f : Flow} (r : Vals ys acc.toList) (hC : NsO C oC) (h : SP X ((D, lstObj acc c) :: (C, oC) :: ip) (E.at ys) f s) : GOut X D C ip E ys f s := by
 cases f with
 | next => obtain ⟨σ, H, I, q⟩ := h; exact ⟨σ, H, ⟨acc, c, oC, r, hC, I⟩, q⟩
 | brk => obtain ⟨σ, H, I, q⟩ := h; exact ⟨σ, H, ⟨acc, c, oC, r, hC, I⟩, q⟩
 | cont => obtain ⟨σ, H, I, q⟩ := h; exact ⟨σ, H, ⟨acc, c, oC, r, hC, I⟩, q⟩
 | ret u => obtain ⟨v, σ, H, I, r1, q⟩ := h; exact ⟨v, σ, H, ⟨acc, c, oC, r, hC, I⟩, r1, q⟩
theorem gt_ps {t : TS} (h : PS X st t) : GT X st (tPlain t) := by
 intro A D C ip R n ys s₀ c fs K J gd lv s σ H E g hn k ⟨acc, cc, oC, r, hC, I⟩ ht
 refine seg_wrap ?_
 rw [g.over]
 exact wpAny_mono (h.run _ s σ H (E.at ys) I ht) (fun f s' hs => k n ys s₀ s' f hn (gout_sp r hC hs)) fun x s' hx => by rw [g.nx] at hx; exact hx.elim
theorem gts_nil : GTs X [] tG0 := by
 intro A D C ip R n ys s₀ c fs K J gd lv s σ H E g hn k hI ht
 exact seg_execs_nil (k n ys s₀ s .next hn ⟨σ, H, hI, ht⟩)
theorem gts_cons {t u : TGn} (a : GT X st t) (b : GTs X rest u) : GTs X (st :: rest) (tGThen t u) := by
 intro A D C ip R n ys s₀ c fs K J gd lv s σ H E g hn k hI ht
 refine seg_execs_cons (a A D C ip R n ys s₀ c fs _ J gd lv s σ H { E with nx := fun ys' σ' H' => u E ys' σ' H' } g hn (fun n' ys' s₀' s' f hn' hs => ?_) hI ht)
 cases f with
 | next =>
   obtain ⟨σ', H', I', q⟩ := hs
   exact b A D C ip R n' ys' s₀' c fs K J gd lv s' σ' H' E g hn' k I' q
 | brk => exact k n' ys' s₀' s' .brk hn' hs
 | cont => exact k n' ys' s₀' s' .cont hn' hs
 | ret u => exact k n' ys' s₀' s' (.ret u) hn' hs
theorem gt_yield {e : Expr} {yp pos : Pos} {te : TE} (he : PE X e te) (hco : X.env.scope.isCoroutine = false := by rfl) (hi : interactive X.env = false := by rfl) : GT X (.Expr (.Yield (some e) yp) pos) (tGYield te) := by
 intro A D C ip R n ys s₀ c fs K J gd lv s σ H E g hn k ⟨acc, cc, oC, r, hC, I⟩ ⟨hlt, ht⟩
 obtain ⟨n, rfl⟩ : ∃ m, n = m + 1 := ⟨n - 1, by omega⟩
 refine seg_Expr_Yield g.split g.gd g.guard ?_ hco hi
 rw [g.over]
 refine wpAny_mono (he.run _ s σ H _ I ht) (fun v s' ⟨x, H1, I1, rv, q⟩ => ?_) fun x s' hx => by rw [g.nx] at hx; exact hx.elim
 have G1 : GIn X D C ip ys σ H1 s' := ⟨acc, cc, oC, r, hC, I1⟩
 intro kap hk
 refine ⟨ys, x, ip, σ, H1, hn, rv, G1, fun s'' z => hk .none s'' (k n (ys ++ [x]) s'' s'' .next ?_ ⟨σ, H1, G1.woken g.ne g.p1 g.p2 g.fD g.fC rv z, q⟩)⟩
 simp; omega
end
end Pu
namespace Pu
open PySem PySem.Spec L2 GenW
open PyProof.Rows hiding St
def tGFor (wi : TI) (g : TG) (tb : TGn) : TGn := fun E ys σ H => wi σ H fun J H1 => ∃ W : Nat → Nat → List V → L2.St → Hp → Prop, (∃ m, W 0 m ys σ H1) ∧ ∀ i m ys σ H, W i m ys σ H →
 (J.stop i H ∧ E.nx ys σ H) ∨ (J.go i H ∧ ∃ N : List V → L2.St → Hp → Prop, (∀ ys' σ' H', N ys' σ' H' → ∃ m', m' < m ∧ W (i + 1) m' ys' σ' H') ∧ ∀ x H', J.yld i H x H' → g x σ H' fun σ2 H2 => tb { E with nx := N, ct := N, bk := E.nx } ys σ2 H2)
section
variable {X : Cx}
theorem gt_for {tg iter : Expr} {body : List Stmt} {pos : Pos} {wi : TI} {g : TG} {tb : TGn} (hc : X.calm = true) (hi : PI X tg iter wi) (hg : PG X tg g) (hb : GTs X body tb)
   (hs : ∀ x, foldedSetIterable iter X.env x = pure x := by intro _; rfl) : GT X (.For tg iter body [] pos) (tGFor wi g tb) := by
 intro A D C ip R n ys s₀ c fs K J gd lv s σ H E ga hn k ⟨acc, cc, oC, r, hC, I⟩ ht
 have noxe : ∀ e s', ¬ X.xe e s' := fun e s' h => by rw [ga.nx] at h; exact h
 have nox : ∀ {α : Type} {t : Sem α} {Q : α → Shared → Prop} {s : Shared}, wpAny (model X.prog X.w) X.A t Q X.xe s → wpAny (model X.prog X.w) X.A t Q (fun _ _ => False) s := fun h => wpAny_mono h (fun _ _ q => q) fun e s' q => noxe e s' q
 refine seg_For ?_ hs
 rw [ga.over]
 refine wpAny_mono (nox (hi.run _ s σ H _ I ht)) (fun v s1 h1 => wpAny_mono (nox h1) (fun itv s2 h2 => ?_) fun _ _ z => z.elim) fun _ _ z => z.elim
 obtain ⟨it, fp, tn, Jt, H2, rfl, I2, T, st2, f2, W, ⟨m0, w0⟩, turn⟩ := h2
 intro p
 have gl : ∀ (c' : Code), c'.weight = 0 → c'.cUnits = 0 → GAt X D C ip A c' (.ret (loopRet X.env K J gd lv) none (gd false) (lv []) c p [] :: fs) id := fun c' hw hu =>
   ⟨ga.ne, ga.p1, ga.p2, ga.fD, ga.fC, (over_loop hw hu).trans ga.over, by show (splitAtGen fs).map _ = none; rw [ga.split]; rfl, by show (gd false || fs.any Frame.guarded) = false; rw [ga.gd, ga.guard]; rfl, rfl, ga.nx⟩
 have far : ∀ b ∈ fp, b ≠ D ∧ b ≠ C ∧ ∀ q ∈ X.pn ++ ip, q.1 ≠ b := fun b hb => by
   obtain ⟨_, _, _, _, _, hp⟩ := f2 b hb
   exact ⟨fun e => hp (D, lstObj acc cc) (List.mem_append_right _ List.mem_cons_self) e.symm, fun e => hp (C, oC) (List.mem_append_right _ (List.mem_cons_of_mem _ List.mem_cons_self)) e.symm, fun q hq => (List.mem_append.mp hq).elim (fun z => hp q (List.mem_append_left _ z)) fun z => hp q (List.mem_append_right _ (List.mem_cons_of_mem _ (List.mem_cons_of_mem _ z)))⟩
 have stat : ∀ {a1 : Array Value} {k1 : Nat} {o1 : Obj} {H' : Hp}, (∀ b ∈ fp, H' b = none) → ∀ b ∈ fp, FpOk X ((D, lstObj a1 k1) :: (C, o1) :: ip) H' b := fun {a1 k1 o1 H'} hnn b hb => by
   obtain ⟨_, q1, q2, q3, q4, _⟩ := f2 b hb
   obtain ⟨z1, z2, z3⟩ := far b hb
   refine ⟨hnn b hb, q1, q2, q3, q4, fun q hq => ?_⟩
   rcases List.mem_append.mp hq with hq | hq
   · exact z3 q (List.mem_append_left _ hq)
   · rcases List.mem_cons.mp hq with rfl | hq
     · exact fun e => z1 e.symm
     · rcases List.mem_cons.mp hq with rfl | hq
       · exact fun e => z2 e.symm
       · exact z3 q (List.mem_append_right _ hq)
 have loop : ∀ (m i n : Nat) (ys : List V) (s₀ s : Shared) (σ : L2.St) (H : Hp), n + ys.length = sizeLine → W i m ys σ H → GIn X D C ip ys σ H s → tn i s.heap → (∀ b ∈ fp, H b = none) →
     Seg (model X.prog X.w) A R (GPr X D C) n s₀ (.forLoop tg (.ref it) body [] X.env) ((model X.prog X.w).den (.forLoop tg (.ref it) body [] X.env)) (.ret (loopRet X.env K J gd lv) none (gd false) (lv []) c p [] :: fs) s := by
   intro m
   induction m using Nat.strongRecOn with
   | ind m ih =>
     intro i n ys s₀ s σ H hn w ⟨a1, k1, o1, r1, hC1, I1⟩ st fr
     refine seg_forLoop ?_
     rw [(gl _ rfl rfl).over]
     rcases turn i m ys σ H w with ⟨stop, qn⟩ | ⟨go, N, hN, step⟩
     · refine wpAny_mono (T.done X rfl rfl rfl hc i _ s σ H (fun _ _ => False) I1 (stat fr) st stop) (fun r s3 ⟨hr, I3⟩ => ?_) fun _ _ z => z.elim
       subst hr
       exact seg_leaf (.ok .next) (k n ys s₀ s3 .next hn ⟨σ, H, ⟨a1, k1, o1, r1, hC1, I3⟩, qn⟩)
     · refine wpAny_mono (T.item X rfl rfl rfl hc i _ s σ H (fun _ _ => False) I1 (stat fr) st go) (fun r s3 ⟨u, hr, h4⟩ => ?_) fun _ _ z => z.elim
       subst hr
       refine wpAny_mono h4 (fun _ s5 ⟨x, H5, I5, r5, y5, st5, fr5⟩ => ?_) fun _ _ z => z.elim
       have I5' := I5.pinned (stat fr5) (T.obj _ _ st5)
       refine wpAny_mono (nox (hg.run _ s5 σ H5 x u _ I5' r5 (step x H5 y5))) (fun _ s6 ⟨σ6, H6, I6, q6⟩ => ?_) fun _ _ z => z.elim
       have g6 : GAt X D C (ip ++ pinsAt fp s5.heap) A (.forLoop tg (.ref it) body [] X.env) (.ret (loopRet X.env K J gd lv) none (gd false) (lv []) c p [] :: fs) id := by
         have z := gl (.forLoop tg (.ref it) body [] X.env) rfl rfl
         refine ⟨z.ne, z.p1, fun q hq => ?_, z.fD, z.fC, z.over, z.split, z.guard, z.gd, z.nx⟩
         rcases List.mem_append.mp hq with hq | hq
         · exact z.p2 q hq
         · obtain ⟨z1, z2, _⟩ := far _ (of_pinsAt hq).1
           exact ⟨z1, z2⟩
       refine hb A D C (ip ++ pinsAt fp s5.heap) R n ys s₀ _ _ _ _ id id s6 σ6 H6 { E with nx := N, ct := N, bk := E.nx } g6 hn (fun n' ys' s₀' s7 f hn' hs7 => ?_) ⟨a1, k1, o1, r1, hC1, I6⟩ q6
       have weak : ∀ {σ7 : L2.St} {H7 : Hp}, GIn X D C (ip ++ pinsAt fp s5.heap) ys' σ7 H7 s7 → GIn X D C ip ys' σ7 H7 s7 ∧ tn (i + 1) s7.heap ∧ ∀ b ∈ fp, H7 b = none := fun {σ7 H7} ⟨a7, k7, o7, r7, hC7, I7⟩ => by
         have pin' : ∀ b ∈ fp, ∀ o, s5.heap.get? b = some o → s7.heap.get? b = some o ∧ H7 b = none := fun b hb o e =>
           let z := I7.pin (b, o) (List.mem_append_right _ (List.mem_cons_of_mem _ (List.mem_cons_of_mem _ (List.mem_append_right _ (mem_pinsAt hb e)))))
           ⟨z.1, z.2.1⟩
         refine ⟨⟨a7, k7, o7, r7, hC7, I7.pins_of fun q hq => I7.pin q (List.mem_append_right _ ?_)⟩, T.keep _ _ _ st5 fun b hb o e => (pin' b hb o e).1, fun b hb => ?_⟩
         · rcases List.mem_cons.mp hq with rfl | hq
           · exact List.mem_cons_self
           · rcases List.mem_cons.mp hq with rfl | hq
             · exact List.mem_cons_of_mem _ List.mem_cons_self
             · exact List.mem_cons_of_mem _ (List.mem_cons_of_mem _ (List.mem_append_left _ hq))
         · obtain ⟨o, e, _⟩ := T.obj _ _ st5 b hb
           exact (pin' b hb o e).2
       have again : ∀ {σ7 : L2.St} {H7 : Hp}, GIn X D C (ip ++ pinsAt fp s5.heap) ys' σ7 H7 s7 → N ys' σ7 H7 → Seg (model X.prog X.w) A R (GPr X D C) n' s₀' (.forLoop tg (.ref it) body [] X.env) (.pure (.again (.forLoop tg (.ref it) body [] X.env))) (.ret (loopRet X.env K J gd lv) none (gd false) (lv []) c p [] :: fs) s7 := fun I7 n7 => by
         obtain ⟨m', hm, w7⟩ := hN _ _ _ n7
         obtain ⟨z1, z2, z3⟩ := weak I7
         exact seg_again rfl (ih m' hm (i + 1) n' ys' s₀' s7 _ _ hn' w7 z1 z2 z3)
       cases f with
       | next => obtain ⟨σ7, H7, I7, n7⟩ := hs7; exact again I7 n7
       | cont => obtain ⟨σ7, H7, I7, n7⟩ := hs7; exact again I7 n7
       | brk => obtain ⟨σ7, H7, I7, q7⟩ := hs7; exact seg_leaf (.ok .next) (k n' ys' s₀' s7 .next hn' ⟨σ7, H7, (weak I7).1, q7⟩)
       | ret v => obtain ⟨x7, σ7, H7, I7, r7, q7⟩ := hs7; exact seg_leaf (.ok (.ret v)) (k n' ys' s₀' s7 (.ret v) hn' ⟨x7, σ7, H7, (weak I7).1, r7, q7⟩)
 exact loop m0 0 n ys s₀ s2 σ H2 hn w0 ⟨acc, cc, oC, r, hC, I2⟩ st2 fun b hb => (f2 b hb).1
end
end Pu
namespace Pu
open PySem PySem.Spec L2 GenW
open PyProof.Rows hiding St
abbrev XgD (P : Program) (w : World) (K : PySem.W.Frag) (mg : Str → Option Value) (base : Heap) (N : List Str) (qual : Str) (scope : Scope) (f : Addr) (cd : Value) (A : Around) (outer : List Env) (s : Shared) (H : Hp) (pn : List (Addr × Obj)) : Cx :=
 { gcxOf P w K mg base N qual scope f cd A outer s H (fun _ _ _ => False) pn with xe := fun _ _ => False }
abbrev SpGn := List V → Hp → (List V → Hp → Prop) → Prop
def RFa (P : Program) (w : World) (outer : List Env) (H : Hp) (s : Shared) (D C a : Addr) (g : Nat) (Q : List V → Hp → Prop) : Nat → Shared → Shared → Prop := fun _ _ s1 =>
 s1.heap.IsGen a g ∧ ∃ H' ys acc c oC, s1.os = s.os ∧ AllBare s1.gens ∧ Un (frs outer) [] H H' s.heap s1.heap ∧ HOk P w H' s1.heap ∧ H' D = none ∧ H' C = none ∧ s1.heap.get? D = some (lstObj acc c) ∧ s1.heap.get? C = some oC ∧ NsO C oC ∧ Vals ys acc.toList ∧ ys.length ≤ sizeLine ∧ Q ys H'
def REn (P : Program) (w : World) (outer : List Env) (H : Hp) (s : Shared) (D C a : Addr) (g : Nat) (Q : List V → Hp → Prop) : GenEnd := fun n s₀ r s1 =>
 ((r = .ok (.ret .none) ∨ r = .ok .next) ∧ RFa P w outer H s D C a g Q n s₀ s1) ∨ ∃ e, r = .error e ∧ (fun (_ : Value) (_ : Shared) => False) e s1
def YIn (s : Shared) (D C a : Addr) (g : Nat) : Protocol := fun n _ v s1 kap =>
 s1.os = s.os ∧ AllBare s1.gens ∧ s1.heap.NoLimit ∧ s1.heap.IsGen a g ∧ (∃ (acc : Array Value) (c : Nat), s1.heap.get? D = some (lstObj acc c) ∧ n + 1 + acc.size = sizeLine) ∧ (∃ oC, s1.heap.get? C = some oC ∧ NsO C oC) ∧ ∀ s', Slp D C v s1 s' → kap (.send .none) s'
def GMd (P : Program) (w : World) (k : Nat) (outer : List Env) (H : Hp) (s : Shared) (Q : List V → Hp → Prop) (u : Value) (s' : Shared) : Prop :=
 ∃ (a : Addr) (g : Nat) (c : Code), u = .ref a ∧ s.heap.objs.size ≤ a ∧ a < s'.heap.objs.size ∧ s'.heap.IsGen a g ∧ s'.gens[g]? = some (.fresh c) ∧ s'.os = s.os ∧ AllBare s'.gens ∧ s'.heap.NoLimit ∧ (∀ b o, s.heap.get? b = some o → s'.heap.get? b = some o) ∧
   ∀ (A : Around) (D C : Addr) (s2 : Shared), Room k A → A.frames = some outer → D ≠ C → s'.heap.objs.size ≤ D → s'.heap.objs.size ≤ C → (∀ b o, s'.heap.get? b = some o → s2.heap.get? b = some o) → (∃ c, s2.heap.get? D = some (lstObj #[] c)) → (∃ oC, s2.heap.get? C = some oC ∧ NsO C oC) → s2.os = s.os → AllBare s2.gens →
     Seg (model P w) A (REn P w outer H s D C a g Q) (YIn s D C a g) sizeLine s2 c ((model P w).den c) [] s2
structure GFn1 (P : Program) (w : World) (K : PySem.W.Frag) (mg : Str → Option Value) (base : Heap) (k : Nat) (f : Addr) (fd : FuncData) (ps : List Str) (sp : SpGn) : Prop where
 len : ∀ vs H Q, sp vs H Q → vs.length = ps.length
 run : ∀ (A : Around) (outer : List Env) (s : Shared) (H : Hp) (args : Args) (us : List Value) (vs : List V) (Q : List V → Hp → Prop), Room k A → Env0 P w K mg base A outer s H → BindsTo s fd args (ps.zip us) → Vals vs us → sp vs H Q →
   codeAny (model P w) A (.call (.ref f) args) (fun r s' => ∃ u, r = .ok (.ret u) ∧ GMd P w k outer H s Q u s') s
theorem inv_xg {P : Program} {w : World} {K : PySem.W.Frag} {mg : Str → Option Value} {base : Heap} {N : List Str} {qual : Str} {scope : Scope} {f : Addr} {cd : Value} {A : Around} {outer : List Env} {s s1 : Shared} {H H' : Hp} {pn pins : List (Addr × Obj)} {σ : L2.St}
   (I : Inv (gcxOf P w K mg base N qual scope f cd A outer s H (fun _ _ _ => False) []) [] σ H' s1)
   (h : ∀ p ∈ pn ++ pins, s1.heap.get? p.1 = some p.2 ∧ H' p.1 = none ∧ p.1 ≠ (envOfC qual scope s.heap.objs.size f cd).locals ∧ p.1 ∉ frs outer ∧ ∀ v, p.2.data ≠ .cell v) :
   Inv (XgD P w K mg base N qual scope f cd A outer s H pn) pins σ H' s1 := by
 have o := I.ok
 exact { ok := ⟨o.mod, o.kind, o.glob, o.blt, o.above, o.inj, o.has, o.cab, o.hd, o.frames, o.stk, o.exf, o.bs, o.bsz, o.noex, o.exfs, o.funs, o.frf⟩, os := I.os, bare := I.bare, base := I.base, loc := I.loc, cell := I.cell, free := I.free, freeC := I.freeC, pin := h, hok := I.hok, len := I.len }
theorem gfn1 {P : Program} {w : World} {K : PySem.W.Frag} {mg : Str → Option Value} {base : Heap} {k : Nat} {f : Addr} {name qual : Str} {params : Arguments} {body : List Stmt} {scope : Scope} {dV kV doc pm cdv ct oc : Value} {an od : Option Addr}
   {osl : Array (Option Value)} {N ps : List Str} {sp : SpGn} {t : TGn} (lk : K.lookup f = some ⟨oc, od, .func (PySem.W.fnOf name qual params body scope dV kV doc pm an cdv ct), osl⟩) (hcd : PySem.W.codeIn K cdv qual = true) (S : GScope N ps scope)
   (len : ∀ vs H Q, sp vs H Q → vs.length = ps.length)
   (hbody : ∀ (A : Around) (outer : List Env) (s : Shared) (H : Hp) (pn : List (Addr × Obj)), Room k (A.deeper (envOfC qual scope s.heap.objs.size f cdv)) → GTs (XgD P w K mg base N qual scope f cdv A outer s H pn) body t)
   (hsp : ∀ vs H Q, sp vs H Q → t { nx := fun ys _ H' => Q ys H', rt := fun _ _ _ => False } [] (start N vs) H) :
   GFn1 P w K mg base (k + 1) f (PySem.W.fnOf name qual params body scope dV kV doc pm an cdv ct) ps sp := by
 refine ⟨len, fun A outer s H args us vs Q hr e0 hb r hs0 => ?_⟩
 have hl := len _ _ _ hs0
 have KX : K.In s.heap := e0.mod.kin.keeps fun b o e => (e0.bs b o e).1
 have lim : s.heap.NoLimit := e0.mod.nolimit.keeps fun b o e => (e0.bs b o e).1
 have hkind : ∀ y ∈ ps.zip us, scope.names.lookup y.1 = some .local ∨ (scope.names.lookup y.1 = some .cell ∧ ((cellsFrom (s.heap.objs.size + 1) scope.names []).lookup y.1).isSome = true) := fun ⟨n, v⟩ hy => by
   rcases S.par n (List.of_mem_zip hy).1 with q | q
   · exact .inl q
   · exact .inr ⟨q, PySem.W.cellsFrom_some _ _ _ (.inl q)⟩
 refine codeAny_call_generator hr.depth (KX _ _ lk) rfl S.co S.gen rfl (PySem.W.codeRec_of KX hcd) (hb _ _ _ _ (wpAny_newFunctionEnv_cells S.kind hkind fun env he s1 x => ?_))
 subst he
 have lim1 : s1.heap.NoLimit := lim.keeps x.toInCall.keep
 refine ⟨lim1, ?_⟩
 obtain ⟨h1, tk, es1, hk1⟩ := x.done
 have os1 : s1.os = s.os := by rw [es1]
 have gen1 : s1.gens = s.gens := by rw [es1]
 have lt1 : s.heap.objs.size < s1.heap.objs.size := x.toInCall.ns.lt
 have kp1 : ∀ b o, s.heap.get? b = some o → s1.heap.get? b = some o := x.toInCall.keep
 have main : ∀ (go : Obj) (nm qn : Value) (tk2 : Nat), go.cls = .type "generator" → go.data = .fields #[.int s1.gens.size 0, nm, qn] → go.slots = #[] → (∀ h : Heap, (h.push go).get? h.objs.size = some go) →
     GMd P w (k + 1) outer H s Q (.ref s1.heap.objs.size) { s1 with gens := s1.gens.push (.fresh (.func body (envOfC qual scope s.heap.objs.size f cdv))), toks := tk2, heap := s1.heap.push go } := by
   intro go nm qn tk2 g1 g2 g3 g4
   have isg : ∀ h : Heap, h.get? s1.heap.objs.size = some go → h.IsGen s1.heap.objs.size s1.gens.size := fun h e => ⟨go, nm, qn, e, g1, g2, g3⟩
   have put : (s1.heap.push go).get? s1.heap.objs.size = some go := g4 _
   refine ⟨s1.heap.objs.size, s1.gens.size, _, rfl, Nat.le_of_lt lt1, ?_, isg _ put, Array.getElem?_push_size .., os1, AllBare.push (by rw [gen1]; exact e0.bare) rfl, lim1.keeps fun b o e => Heap.get?_push_of_some _ e, fun b o e => Heap.get?_push_of_some _ (kp1 b o e), ?_⟩
   · show _ < (s1.heap.push _).objs.size
     rw [Heap.size_push]; exact Nat.lt_succ_self _
   intro Aw D C s2 hrw hfr hDC hD hC hk2 ⟨cS, heD⟩ ⟨oC, heC, hoC⟩ hos hba
   have e0w : Env0 P w K mg base Aw outer s H := ⟨hfr, e0.mod, e0.bs, e0.bsz, e0.funs, e0.frf, e0.hok, e0.bare⟩
   have I1 := inv_startG (E := fun _ _ _ => False) S hrw.hd e0w hl r x
   have kp2 : ∀ b o, s1.heap.get? b = some o → s2.heap.get? b = some o := fun b o e => hk2 b o (Heap.get?_push_of_some _ e)
   have I2 := I1.call' (ch := []) (hos.trans os1.symm) (Un.kept kp2) (I1.hok.kept kp2) hba fun b z => by simp at z
   have above : ∀ {b}, (s1.heap.push go).objs.size ≤ b → s1.heap.objs.size < b := fun {b} hb => by rw [Heap.size_push] at hb; exact hb
   have young : ∀ b, s1.heap.objs.size ≤ b → H b = none ∧ b ≠ s.heap.objs.size ∧ b ∉ frs outer ∧ s.heap.objs.size ≤ b ∧ ∀ y c, (cellsFrom (s.heap.objs.size + 1) scope.names []).lookup y = some c → c ≠ b := fun b hb => by
     refine ⟨I1.hok.fresh hb, Nat.ne_of_gt (Nat.lt_of_lt_of_le lt1 hb), I1.nofs hb, Nat.le_trans (Nat.le_of_lt lt1) hb, fun y c e z => ?_⟩
     obtain ⟨v, ob, ho, _⟩ := I1.cell y c e
     have := Heap.lt_size ho
     rw [z] at this
     exact absurd (Nat.lt_of_lt_of_le this hb) (Nat.lt_irrefl _)
   obtain ⟨a1, a2, a3, _, _⟩ := young s1.heap.objs.size (Nat.le_refl _)
   obtain ⟨d1, d2, d3, d4, d5⟩ := young D (Nat.le_of_lt (above hD))
   obtain ⟨c1, c2, c3, c4, c5⟩ := young C (Nat.le_of_lt (above hC))
   have gnc : ∀ v, go.data ≠ .cell v := fun v q => by rw [g2] at q; cases q
   have hG : GIn (XgD P w K mg base N qual scope f cdv Aw outer s H [(s1.heap.objs.size, go)]) D C [] [] (start N vs) H s2 := by
     refine ⟨#[], cS, oC, .nil, hoC, inv_xg I2 fun p hp => ?_⟩
     simp only [List.cons_append, List.nil_append, List.mem_cons, List.not_mem_nil, or_false] at hp
     rcases hp with rfl | rfl | rfl
     · exact ⟨hk2 _ _ put, a1, a2, a3, gnc⟩
     · exact ⟨heD, d1, d2, d3, fun v q => by cases q⟩
     · exact ⟨heC, c1, c2, c3, hoC.1⟩
   have pinned : ∀ {ip : List (Addr × Obj)} {ys : List V} {s' : Shared} {σ' : L2.St} {H' : Hp}, GIn (XgD P w K mg base N qual scope f cdv Aw outer s H [(s1.heap.objs.size, go)]) D C ip ys σ' H' s' → s'.heap.IsGen s1.heap.objs.size s1.gens.size := fun {ip ys s' σ' H'} hI => by
     obtain ⟨_, _, _, _, _, J⟩ := hI
     exact isg _ (J.pin (s1.heap.objs.size, go) (List.mem_append_left _ (List.mem_singleton.mpr rfl))).1
   refine seg_func (seg_imp (R := fun n _ r s' => r = .ok (.ret .none) ∧ ∃ ys ip σ H', n + ys.length = sizeLine ∧ GIn (XgD P w K mg base N qual scope f cdv Aw outer s H [(s1.heap.objs.size, go)]) D C ip ys σ H' s' ∧ Q ys H')
     (Y := GPr (XgD P w K mg base N qual scope f cdv Aw outer s H [(s1.heap.objs.size, go)]) D C) (fun n s₀ r s1' hR0 => ?_) (fun n s₀ v s1' kap kap' hkk hY => ?_) sizeLine ?_)
   · obtain ⟨hr1, ys, ip, σ', H', hn, hI, hQ⟩ := hR0
     have hg := pinned hI
     obtain ⟨acc, cc, oC', ra, hC', J⟩ := hI
     have pD := J.pin (D, lstObj acc cc) (List.mem_append_right _ List.mem_cons_self)
     have pC := J.pin (C, oC') (List.mem_append_right _ (List.mem_cons_of_mem _ List.mem_cons_self))
     exact .inl ⟨.inl hr1, hg, H', ys, acc, cc, oC', J.os, J.bare, J.base, J.hok, pD.2.1, pC.2.1, pD.1, pC.1, hC', ra, by omega, hQ⟩
   · obtain ⟨ys, xx, ip, σ', H', hn, h2, hI, h3⟩ := hY
     have hg := pinned hI
     obtain ⟨acc, cc, oC', ra, hC', J⟩ := hI
     have pD := J.pin (D, lstObj acc cc) (List.mem_append_right _ List.mem_cons_self)
     have pC := J.pin (C, oC') (List.mem_append_right _ (List.mem_cons_of_mem _ List.mem_cons_self))
     have hsz : acc.size = ys.length := by
       have e1 := ra.length
       have e2 : acc.toList.length = acc.size := by simp
       omega
     exact ⟨J.os, J.bare, J.nolimit, hg, ⟨acc, cc, pD.1, by rw [hsz]; exact hn⟩, ⟨oC', pC.1, hC'⟩, fun s' z => hkk _ _ (h3 s' z)⟩
   · refine hbody Aw outer s H [(s1.heap.objs.size, go)] (hrw.deeper _) Aw D C [] _ sizeLine [] s2 _ [] _ _ id id s2 (start N vs) H _ ⟨hDC, fun p hp => ?_, fun p hp => by simp at hp, ⟨d4, d2, d5⟩, ⟨c4, c2, c5⟩, over_func, rfl, rfl, rfl, rfl⟩ (Nat.add_zero _) (fun n ys s₀ s' fl hn hs => ?_) hG (hsp _ _ _ hs0)
     · obtain rfl : p = (s1.heap.objs.size, go) := List.mem_singleton.mp hp
       exact ⟨Nat.ne_of_lt (above hD), Nat.ne_of_lt (above hC)⟩
     · cases fl with
       | next =>
         obtain ⟨σ', H', hI, hQ⟩ := hs
         exact seg_end (.ok (.ret .none)) ⟨rfl, ys, [], σ', H', hn, hI, hQ⟩
       | brk => obtain ⟨_, _, _, q⟩ := hs; exact q.elim
       | cont => obtain ⟨_, _, _, q⟩ := hs; exact q.elim
       | ret u => obtain ⟨_, _, _, _, _, q⟩ := hs; exact q.elim
 exact ⟨_, rfl, main _ _ _ _ rfl rfl rfl fun h => Heap.get?_push_size _ rfl⟩
end Pu
namespace Pu
open PySem PySem.Spec L2 GenW
open PyProof.Rows hiding St
structure PGn (X : Cx) (k : Nat) (e : Expr) (tg : TGen) : Prop where
 run : ∀ (pins : List (Addr × Obj)) (s : Shared) (σ : L2.St) (H : Hp) (cont : List V → Hp → Prop), Inv X pins σ H s → tg σ H cont → wpAny (model X.prog X.w) X.A (eval e X.env)
   (fun u s' => ∃ H1 sc, Inv X pins σ H1 sc ∧ GMd X.prog X.w k X.stack H1 sc cont u s') X.xe s
theorem nso_ns {C : Addr} {h : Heap} {m : Str → Option Value} (hn : h.Ns C m) : ∃ o, h.get? C = some o ∧ NsO C o := by
 obtain ⟨o, es, ep, ho, hd, hs, hf⟩ := hn
 exact ⟨o, ho, And.intro (fun v q => by rw [hd] at q; cases q) fun h' e => ⟨m, o, es, ep, e, hd, hs, hf⟩⟩
section
variable {X : Cx}
theorem lcg_core {pins : List (Addr × Obj)} {s : Shared} {σ : L2.St} {H : Hp} {Q : VK} {iter : Expr} {x : Str} {p1 p2 pos pos' : Pos} {scope : Scope} {tg : TGen} {k : Nat} {use : Option (Value → Sem Unit)} {Qf : Value → Shared → Prop}
   (I : Inv X pins σ H s) (hi : PGn X k iter tg) (hr : Room (k + 1) X.A) (hkind : scope.kind = .function) (huniq : ∀ y ∈ scope.names, scope.names.lookup y.1 = some y.2) (hx : scope.names.lookup x = some .local) (hnf : ∀ y ∈ scope.names, y.2 ≠ .free)
   (hs : ∀ x, foldedSetIterable iter X.env x = pure x) (hdb : (x == ("__debug__" : Str)) = false)
   (h : tg σ H fun ys H' => ∀ D, H' D = none → Q (.ref D) (upd H' D (.lst ys)))
   (hRR : ∀ D C s' m H', Inv X pins σ H' s' → Q (.ref D) H' → s'.heap.Ns C m → FpOk X pins H' C → compPost (model X.prog X.w) X.A X.xe use Qf (.ref D) C (.ok .next) s') :
   wpAny (model X.prog X.w) X.A (comprehension (.ListComp (.Name x p1) [⟨.Name x p2, iter, [], 0⟩] scope pos) scope X.env pos' (newList []) false (eval iter X.env) use) Qf X.xe s := by
 refine wpAny_comprehension_free (use := use) rfl hs (closure_ok fun y hy e => absurd e (hnf y hy)) hkind (fun y hy e => by rw [huniq y hy, e])
   (thn (hi.run pins s σ H _ I h) fun u s1 ⟨H1, sc, I1, hG⟩ => ?_)
 obtain ⟨a, g, c, rfl, ha1, ha2, hg, hgs, hos, hb, hl, hkp, wake⟩ := hG
 refine wpAny_pyIter_gen hg ?_
 refine wpAny_newObj_type (newEnv_comp ?_) (by show 0 ≤ sizeLine; decide)
 generalize hD : s1.heap.objs.size = D
 generalize hs3 : ({ s1 with heap := s1.heap.push { cls := .type "list", data := .seq ([] : List Value).toArray } } : Shared) = s3
 have h3 : s3.heap = s1.heap.push { cls := .type "list", data := .seq ([] : List Value).toArray } := by rw [← hs3]
 have g3 : s3.gens = s1.gens := by rw [← hs3]
 have o3 : s3.os = s1.os := by rw [← hs3]
 have z3 : s3.heap.objs.size = D + 1 := by rw [h3, Heap.size_push, hD]
 show codeAny _ _ (.compStart (.ListComp (.Name x p1) [⟨.Name x p2, iter, [], 0⟩] scope pos) 0 (.ref a) (.ref D) (compEnvC scope (cellsFrom (s3.heap.objs.size + 1) scope.names (cloFrom X.env.cells scope.names [])) s3.heap.objs.size X.env)) (compPost (model X.prog X.w) X.A X.xe use Qf (.ref D) s3.heap.objs.size) { s3 with heap := pushCells (s3.heap.push { cls := .type "dict", data := .dict #[] }) scope.names }
 generalize hC : s3.heap.objs.size = C
 generalize hce : compEnvC scope (cellsFrom (C + 1) scope.names (cloFrom X.env.cells scope.names [])) C X.env = ce
 have cL : ce.locals = C := by subst hce; rfl
 have cK : ce.kindOf x = some .local := by subst hce; exact lookup_relabel_local hx
 have cF : ce.scope.kind = .function := by subst hce; simp [compEnvC, relabel, hkind]
 have cP : (ce.scope.kind == .class || (ce.scope.kind == .module && ce.locals != ce.globals)) = false := by rw [cF]; rfl
 have nD : @Eq Nat s1.heap.objs.size D := hD
 have nC : @Eq Nat s3.heap.objs.size C := hC
 have nz : @Eq Nat s3.heap.objs.size (D + 1) := z3
 have na1 : @LE.le Nat _ sc.heap.objs.size a := ha1
 have na2 : @LT.lt Nat _ a s1.heap.objs.size := ha2
 have hDC : D ≠ C := fun e => by have e : @Eq Nat D C := e; omega
 have hDa : D ≠ a := fun e => by have e : @Eq Nat D a := e; omega
 have hCa : C ≠ a := fun e => by have e : @Eq Nat C a := e; omega
 have hcl : cStatics < s1.heap.objs.size := let ⟨_, hn, _⟩ := hl; hn.lt
 have hDc : D ≠ cStatics := fun e => by have e : @Eq Nat D cStatics := e; have hcl : @LT.lt Nat _ cStatics s1.heap.objs.size := hcl; omega
 have hCc : C ≠ cStatics := fun e => by have e : @Eq Nat C cStatics := e; have hcl : @LT.lt Nat _ cStatics s1.heap.objs.size := hcl; omega
 have k3 : ∀ b o, s1.heap.get? b = some o → s3.heap.get? b = some o := fun b o e => by rw [h3]; exact Heap.get?_push_of_some _ e
 have szc : sc.heap.objs.size ≤ D := by show @LE.le Nat _ _ D; omega
 have szC : sc.heap.objs.size ≤ C := by show @LE.le Nat _ _ C; omega
 generalize hs4 : ({ s3 with heap := pushCells (s3.heap.push { cls := .type "dict", data := .dict #[] }) scope.names } : Shared) = s4
 have h4 : s4.heap = pushCells (s3.heap.push { cls := .type "dict", data := .dict #[] }) scope.names := by rw [← hs4]
 have g4 : s4.gens = s1.gens := by rw [← hs4]; exact g3
 have o4 : s4.os = s1.os := by rw [← hs4]; exact o3
 have k4 : ∀ b o, s1.heap.get? b = some o → s4.heap.get? b = some o := fun b o e => by rw [h4]; exact pushCells_keeps _ _ _ _ (Heap.get?_push_of_some _ (k3 b o e))
 have eD : s4.heap.get? D = some (lstObj #[] 0) := by
   rw [h4]
   refine pushCells_keeps _ _ _ _ (Heap.get?_push_of_some _ ?_)
   rw [h3, ← hD]
   exact Heap.get?_push_size _ rfl
 have eC : s4.heap.Ns C fun _ => none := by
   rw [h4, ← hC]
   exact Heap.Ns.keeps (Heap.Ns.new ..) fun b o e => pushCells_keeps _ _ _ _ e
 have loop : codeAny (model X.prog X.w) X.A (.compLoop (.ListComp (.Name x p1) [⟨.Name x p2, iter, [], 0⟩] scope pos) 0 (.ref a) (.ref D) ce) (compPost (model X.prog X.w) X.A X.xe use Qf (.ref D) C) s4 := by
   refine codeAny_compLoop_list (fun n s' => s'.heap.IsGen a g ∧ s'.heap.NoLimit ∧ ∃ gs, s'.gens[g]? = some gs ∧ gs.Goes (model X.prog X.w) X.A.in1 (REn X.prog X.w X.stack H1 sc D C a g fun ys H' => ∀ D, H' D = none → Q (.ref D) (upd H' D (.lst ys))) (YIn sc D C a g) n (.send .none) (s'.setGen g .running)) ?_ sizeLine
     ⟨hg.keeps k4, hl.keeps k4, .fresh c, by rw [g4]; exact hgs, rfl, ?_⟩ (fun v => rfl)
   · rintro n s5 ⟨hg5, hl5, gs, hgs5, hgo⟩
     have hgl : g < s5.gens.size := (Array.getElem?_eq_some_iff.mp hgs5).1
     refine wpAny_gsz (n := g + 1) hgl (next_genG (A := X.A) (F := RFa X.prog X.w X.stack H1 sc D C a g fun ys H' => ∀ D, H' D = none → Q (.ref D) (upd H' D (.lst ys))) (Er := fun _ _ => False) hr.hd hl5 hr.depth hg5 hgs5 hgo (fun v s6 gs' hbare hv => ?_) (fun s6 hp h' hk => ?_) fun e s6 he => he.elim)
     · intro hsz
       obtain ⟨os6, hb6, hl6, hg6, ⟨acc, cc, hD6, hasz⟩, ⟨oC, hC6, hCn⟩, hk⟩ := hv
       obtain ⟨m, hm⟩ := hCn.2 s6.heap hC6
       have hsz' : g < s6.gens.size := by
         have q : (s6.setGen g gs').gens.size = s6.gens.size := setGen_size _ _ _
         have hsz2 : g + 1 ≤ (s6.setGen g gs').gens.size := hsz
         omega
       refine wpAny_assign_Name (wpAny_storeName_local cK (m := m) (by rw [cL]; exact hm) (fun h7 hn7 sb7 => ?_) cP)
       rw [cL] at hn7 sb7
       refine wpAny_Name (wpAny_loadName_local cF cK (by rw [cL]; exact hn7) (v := v) (by simp) ?_) hdb
       have eD7 : h7.get? D = some (lstObj acc cc) := (sb7.2 D hDC).trans hD6
       refine append_at (hsz := by omega) eD7 fun h8 sb8 eD8 => ?_
       have keep : ∀ b o, b ≠ D → b ≠ C → s6.heap.get? b = some o → h8.get? b = some o := fun b o n1 n2 e => (sb8.2 b n1).trans ((sb7.2 b n2).trans e)
       have hn8 := hn7.sameBut sb8 (Ne.symm hDC)
       have slp : ∀ s9 : Shared, s9.os = s6.os → AllBare s9.gens → s9.heap = h8 → Slp D C v s6 s9 := fun s9 q1 q2 q3 => by
         refine ⟨q1, q2, fun b o n1 n2 e => by rw [q3]; exact keep b o n1 n2 e, fun acc' c' e => ?_, fun o e => ?_⟩
         · rw [hD6] at e
           cases e
           exact ⟨_, by rw [q3]; exact eD8⟩
         · obtain ⟨o', e', n'⟩ := nso_ns hn8
           exact ⟨o', by rw [q3]; exact e', n'⟩
       have bare' : AllBare ((s6.setGen g gs').setGen g .running).gens := allBare_setGen (s := s6.setGen g gs') (allBare_setGen hb6 hbare) rfl
       cases n with
       | zero => exact (hk _ (slp { (s6.setGen g gs').setGen g .running with heap := h8 } rfl bare' rfl)).elim
       | succ n =>
         refine ⟨n, Nat.lt_succ_self _, ?_, ?_, gs', setGen_at hsz', ?_⟩
         · obtain ⟨o, nm, qn, ho, r⟩ := hg6
           exact ⟨o, nm, qn, keep a o (Ne.symm hDa) (Ne.symm hCa) ho, r⟩
         · obtain ⟨mc, hns, hnn⟩ := hl6
           exact ⟨mc, hns.at' fun o e => keep _ o (Ne.symm hDc) (Ne.symm hCc) e, hnn⟩
         · exact hk _ (slp _ rfl bare' rfl)
     · intro hsz
       obtain ⟨hg6, H', ys, acc, cc, oC, os6, hb6, un, hok, hDn, hCn, hD6, hC6, hNs, hv, hle, hQ⟩ := hp
       obtain ⟨m, hm⟩ := hNs.2 h' (hk _ _ hC6)
       have J := I1.drained (s' := { s6.setGen g .finished with heap := h' }) (out := ys) szc hle (hk _ _ hD6) hv .nil os6 (allBare_setGen hb6 rfl) (un.trans (Un.kept hk)) (hok.kept hk) hDn
       exact hRR D C _ m _ J (hQ D hDn) hm (I1.fpOk szC (by rw [upd_ne (Ne.symm hDC)]; exact hCn))
   · obtain ⟨oC, hoC, hNs⟩ := nso_ns eC
     exact wake X.A.in1 D C (s4.setGen g .running) hr.in1 I1.ok.frames hDC (by show @LE.le Nat _ _ D; omega) (by show @LE.le Nat _ _ C; omega) k4 ⟨_, eD⟩ ⟨oC, hoC, hNs⟩ (o4.trans hos) (allBare_setGen (by rw [g4]; exact hb) rfl)
 exact codeAny_compStart_list loop (wpAny_pyIter_gen (hg.keeps k4) loop)
theorem ps_setLcG {i : Nat} {y : Str} {py : Pos} {iter : Expr} {x : Str} {p1 p2 pos spos : Pos} {scope : Scope} {tg : TGen} {k : Nat} (hN : X.N.Nodup) (hy : X.N[i]? = some y) (hyl : X.env.scope.names.lookup y = some .local)
   (hsw : swapsWith (.ListComp (.Name x p1) [⟨.Name x p2, iter, [], 0⟩] scope pos) (some (.Name y py)) spos.line X.env = pure true) (hi : PGn X k iter tg) (hr : Room (k + 1) X.A) (hkind : scope.kind = .function) (huniq : ∀ y ∈ scope.names, scope.names.lookup y.1 = some y.2) (hx : scope.names.lookup x = some .local) (hnf : ∀ y ∈ scope.names, y.2 ≠ .free)
   (hs : ∀ x, foldedSetIterable iter X.env x = pure x := by intro _; rfl) (hdb : (x == ("__debug__" : Str)) = false := by decide) :
   PS X (.Assign [.Name y py] (.ListComp (.Name x p1) [⟨.Name x p2, iter, [], 0⟩] scope pos) spos) (tAsg (tListG tg) (L2.gName i)) := by
 refine ⟨fun pins s σ H D I h => ?_⟩
 rw [exec_Assign_Name_used _ _ _ _ hsw]
 refine wpAny_bind (wpAny_standAt (wpAny_bind ?_))
 show wpAny _ X.A (do let _ ← comprehension (.ListComp (.Name x p1) [⟨.Name x p2, iter, [], 0⟩] scope pos) scope X.env (firstIterPos [⟨.Name x p2, iter, [], 0⟩] pos) (newList []) false (eval iter X.env) (some (assign (.Name y py) X.env))) _ _ s
 have h : tListG tg σ H (fun x H1 => L2.gName i x σ H1 D.nx) := h
 refine wpAny_bind (thn (lcg_core (Qf := fun _ s' => SP X pins D .next s') (Q := fun x H1 => L2.gName i x σ H1 D.nx) I hi hr hkind huniq hx hnf hs hdb h fun L C s' m H' I' q hn f => ?_) fun _ s' hq => wpAny_pure (wpAny_pure hq))
 show wpAny _ _ (assign (.Name y py) X.env (.ref L)) _ _ _
 refine wpAny_assign_Name (store_ok2 (v := V.ref L) I' hN hy (.inl hyl) rfl (fun s2 I2 ⟨a, sb, ha⟩ => ?_) (.inr hyl))
 obtain ⟨f0, f1, f2, f3, f4, f5⟩ := f
 have haC : C ≠ a := by
   rcases ha with z | z
   · rw [z]; exact f1
   · exact fun e => f4 y a z e.symm
 refine ⟨m, hn.sameBut sb haC, fun h3 sb3 => ?_⟩
 exact ⟨_, H', I2.turned (t' := s2.toks) (fun b o hb e => (sb3.2 b hb).trans e) f0 f1 f3 f4 f5, q⟩
end
end Pu
namespace Pu
open PySem PySem.Spec L2 GenW
open PyProof.Rows hiding St
abbrev MGn := List D → Env' → Sto → Option (List D × Env' × Sto)
def OutGn (B : Bx) (ι : List Addr) (F : Addr → Prop) (H : Hp) (E : GEnds) : Option (List D × Env' × Sto) → Prop
 | some (ds', ρ', S') => ∀ (ys' : List V) (σ' : L2.St) (ι' : List Addr) (F' : Addr → Prop) (H' : Hp), Evo ι F H ι' F' H' → Rel B ι' F' S' H' → REnv B ι' F' H' σ' ρ' → Reps B F' H' ys' ds' → E.nx ys' σ' H'
 | none => False
theorem OutGn.shift {B : Bx} {ι ι1 : List Addr} {F F1 : Addr → Prop} {H H1 : Hp} {E : GEnds} (e : Evo ι F H ι1 F1 H1) {r : Option (List D × Env' × Sto)} (h : OutGn B ι F H E r) : OutGn B ι1 F1 H1 E r := by
 cases r with
 | none => exact h
 | some p => obtain ⟨ds, ρ, S⟩ := p; exact fun ys σ ι' F' H' e' => h ys σ ι' F' H' (e.trans e')
def liftGn (B : Bx) (m : MGn) : TGn := fun E ys σ H => ∃ ι F S ρ ds, Rel B ι F S H ∧ REnv B ι F H σ ρ ∧ Reps B F H ys ds ∧ OutGn B ι F H E (m ds ρ S)
def gPl (m : MS) : MGn := fun ds ρ S => match m ρ S with
 | .nx ρ' S' => some (ds, ρ', S')
 | _ => none
def gYd (m : ME) : MGn := fun ds ρ S => match m ρ S with
 | .ok (.v d) S' => if ds.length < 100000 then some (ds ++ [d], ρ, S') else none
 | _ => none
def gNx : MGn := fun ds ρ S => some (ds, ρ, S)
def gSq (a b : MGn) : MGn := fun ds ρ S => match a ds ρ S with
 | some (ds1, ρ1, S1) => b ds1 ρ1 S1
 | none => none
noncomputable def gForGo (src : Option Nat) (c0 : Option Cell) (g : MG) (body : MGn) : List U → List D → Env' → Sto → Option (List D × Env' × Sto)
 | [], ds, ρ, S => some (ds, ρ, S)
 | u :: us, ds, ρ, S => match g u ρ with
   | none => none
   | some ρ1 => match body ds ρ1 S with
     | none => none
     | some (ds2, ρ2, S2) => if srcOk src c0 S2 then gForGo src c0 g body us ds2 ρ2 S2 else none
noncomputable def gFor (it : MI) (g : MG) (body : MGn) : MGn := fun ds ρ S => match it ρ S with
 | .ok iv S1 => gForGo iv.src (iv.src.bind fun n => S1[n]?) g body iv.items ds ρ S1
 | _ => none
theorem GTk.imp {X : Cx} {sem : Sem Flow} {t t' : TGn} (h : GTk X sem t) (k : ∀ E ys σ H, t' E ys σ H → t E ys σ H) : GTk X sem t' :=
 fun A D C ip R n ys s₀ c fs K J gd lv s σ H E g hn kk hI ht => h A D C ip R n ys s₀ c fs K J gd lv s σ H E g hn kk hI (k _ _ _ _ ht)
section
variable {X : Cx} {cl : Nat → Addr} {W : WX} {st : Stmt} {rest body : List Stmt} {tg iter e : Expr} {m : MS} {me : ME} {mi : MI} {g : MG} {a b mb : MGn} {pos yp : Pos}
theorem qg_pl (h : QS X cl W st m) : GT X st (liftGn (bx X cl) (gPl m)) := by
 refine GTk.imp (gt_ps h) fun E ys σ H ⟨ι, F, S, ρ, ds, r, en, rs, o⟩ => ⟨ι, F, S, ρ, r, en, ?_⟩
 unfold gPl at o
 cases q : m ρ S with
 | nx ρ' S' => rw [q] at o; exact fun σ' ι' F' H' e' r' en' => o ys σ' ι' F' H' e' r' en' (rs.mono e')
 | rt u S' => rw [q] at o; exact o.elim
 | bk ρ' S' => rw [q] at o; exact o.elim
 | ct ρ' S' => rw [q] at o; exact o.elim
 | ex c fs ρ' S' => rw [q] at o; exact o.elim
 | er => rw [q] at o; exact o.elim
theorem qgs_nx : GTs X [] (liftGn (bx X cl) gNx) := GTk.imp gts_nil fun E ys σ H ⟨ι, F, S, ρ, ds, r, en, rs, o⟩ => o ys σ ι F H Evo.refl r en rs
theorem qgs_sq (h1 : GT X st (liftGn (bx X cl) a)) (h2 : GTs X rest (liftGn (bx X cl) b)) : GTs X (st :: rest) (liftGn (bx X cl) (gSq a b)) := by
 refine GTk.imp (gts_cons h1 h2) fun E ys σ H ⟨ι, F, S, ρ, ds, r, en, rs, o⟩ => ⟨ι, F, S, ρ, ds, r, en, rs, ?_⟩
 unfold gSq at o
 cases q : a ds ρ S with
 | none => rw [q] at o; exact o
 | some p =>
   obtain ⟨ds1, ρ1, S1⟩ := p
   rw [q] at o
   exact fun ys' σ' ι' F' H' e' r' en' rs' => ⟨ι', F', S1, ρ1, ds1, r', en', rs', OutGn.shift e' o⟩
theorem qg_yd (he : QE X cl W e me) (hco : X.env.scope.isCoroutine = false := by rfl) (hi : interactive X.env = false := by rfl) : GT X (.Expr (.Yield (some e) yp) pos) (liftGn (bx X cl) (gYd me)) := by
 refine GTk.imp (gt_yield he hco hi) fun E ys σ H ⟨ι, F, S, ρ, ds, r, en, rs, o⟩ => ?_
 unfold gYd at o
 cases q : me ρ S with
 | er => rw [q] at o; exact o.elim
 | ex c fs S' => rw [q] at o; exact o.elim
 | ok u S' =>
   rw [q] at o
   cases u with
   | r n => exact o.elim
   | v d =>
     simp only at o
     split at o
     · rename_i hl
       refine ⟨szl (by rw [paired_len (reps_iff.mp rs)]; exact hl), ι, F, S, ρ, r, en, ?_⟩
       rw [q]
       intro v ι' F' H' e' r' z
       refine o _ σ ι' F' H' e' r' (en.mono e') (reps_iff.mpr (paired_append (reps_iff.mp (rs.mono e')) (.cons ?_ .nil)))
       cases z with
       | v z => exact z
     · exact o.elim
theorem qg_for {js : List Nat} (hc : X.calm = true) (hi : QI X cl W tg iter mi) (hg : QG X cl tg js g) (hb : GTs X body (liftGn (bx X cl) mb)) (hs : ∀ x, foldedSetIterable iter X.env x = pure x := by intro _; rfl) :
   GT X (.For tg iter body [] pos) (liftGn (bx X cl) (gFor mi g mb)) := by
 refine GTk.imp (gt_for hc hi hg hb hs) fun E ys σ H ⟨ι, F, S, ρ, ds, r, en, rs, o⟩ => ?_
 refine ⟨ι, F, S, ρ, r, en, ?_⟩
 unfold gFor at o
 cases q : mi ρ S with
 | er => rw [q] at o; exact o.elim
 | ex c fs S' => rw [q] at o; exact o.elim
 | ok iv S1 =>
   rw [q] at o
   intro J ι1 F1 H1 e1 r1 wk
   have o1 := OutGn.shift e1 o
   refine ⟨fun i m ys' σ' H' => m = iv.items.length - i ∧ i ≤ iv.items.length ∧ ∃ ι2 F2 S2 ρ2 ds2, Evo ι1 F1 H1 ι2 F2 H' ∧ Rel (bx X cl) ι2 F2 S2 H' ∧ REnv (bx X cl) ι2 F2 H' σ' ρ2 ∧ Reps (bx X cl) F2 H' ys' ds2 ∧ srcOk iv.src (iv.src.bind fun n => S1[n]?) S2 ∧
     OutGn (bx X cl) ι2 F2 H' E (gForGo iv.src (iv.src.bind fun n => S1[n]?) g mb (iv.items.drop i) ds2 ρ2 S2), ⟨iv.items.length, by simp, by simp, ι1, F1, S1, ρ, ds, Evo.refl, r1, en.mono e1, rs.mono e1, ?_, by simpa using o1⟩, ?_⟩
   · unfold srcOk; split
     · trivial
     · rename_i n hn; simp [hn]
   · rintro i m ys2 σ2 H2 ⟨rfl, hi, ι2, F2, S2, ρ2, ds2, e2, r2, en2, rs2, so, o2⟩
     have so' : ∀ n, iv.src = some n → S2[n]? = S1[n]? := fun n hn => by
       unfold srcOk at so
       rw [hn] at so
       simpa [hn] using so
     obtain ⟨w1, w2⟩ := wk i ι2 F2 S2 H2 e2 r2 so'
     by_cases hlt : i < iv.items.length
     · obtain ⟨go, yl⟩ := w1 hlt
       refine .inr ⟨go, fun ys' σ' H' => i + 1 ≤ iv.items.length ∧ ∃ ι3 F3 S3 ρ3 ds3, Evo ι1 F1 H1 ι3 F3 H' ∧ Rel (bx X cl) ι3 F3 S3 H' ∧ REnv (bx X cl) ι3 F3 H' σ' ρ3 ∧ Reps (bx X cl) F3 H' ys' ds3 ∧ srcOk iv.src (iv.src.bind fun n => S1[n]?) S3 ∧
         OutGn (bx X cl) ι3 F3 H' E (gForGo iv.src (iv.src.bind fun n => S1[n]?) g mb (iv.items.drop (i + 1)) ds3 ρ3 S3), fun ys' σ' H' p => ⟨iv.items.length - (i + 1), by omega, rfl, p⟩, fun x H' y => ?_⟩
       obtain ⟨e3, r3, z3⟩ := yl x H' y
       have hd : iv.items.drop i = iv.items[i] :: iv.items.drop (i + 1) := List.drop_eq_getElem_cons hlt
       rw [hd] at o2
       unfold gForGo at o2
       cases qg : g iv.items[i] ρ2 with
       | none => rw [qg] at o2; exact o2.elim
       | some ρ3 =>
         rw [qg] at o2
         have o3 := OutGn.shift e3 o2
         refine ⟨ι2, F2, S2, ρ2, iv.items[i], ρ3, r3, en2.mono e3, z3 _ (by simp [hlt]), qg, fun σ3 en3 _ _ => ⟨ι2, F2, S2, ρ3, ds2, r3, en3, rs2.mono e3, ?_⟩⟩
         simp only at o3
         cases qb : mb ds2 ρ3 S2 with
         | none => rw [qb] at o3; exact o3.elim
         | some p =>
           obtain ⟨ds4, ρ4, S4⟩ := p
           rw [qb] at o3
           simp only at o3
           split at o3
           · rename_i hs
             exact fun ys' σ' ι' F' H'' e' r' en' rs' => ⟨hlt, ι', F', S4, ρ4, ds4, (e2.trans e3).trans e', r', en', rs', hs, OutGn.shift e' o3⟩
           · exact o3.elim
     · have hd : iv.items.drop i = [] := List.drop_eq_nil_of_le (by omega)
       rw [hd] at o2
       exact .inl ⟨w2 (by omega), o2 ys2 σ2 ι2 F2 H2 Evo.refl r2 en2 rs2⟩
end
noncomputable def runG (N : Nat) (m : MGn) (us : List U) (S : Sto) : Option (List D × Sto) := match m [] (us.map some ++ List.replicate (N - us.length) none) S with
 | some (ds, _, S') => (fixS S S').map fun S'' => (ds, S'')
 | none => none
def OutL (B : Bx) (ι : List Addr) (F : Addr → Prop) (H : Hp) (Q : List V → Hp → Prop) : Option (List D × Sto) → Prop
 | some (ds, S') => ∀ (ys : List V) (ι' : List Addr) (F' : Addr → Prop) (H' : Hp), Evo ι F H ι' F' H' → Rel B ι' F' S' H' → Reps B F' H' ys ds → Q ys H'
 | none => False
def SpGM (B : Bx) (n : Nat) (mf : List U → Sto → Option (List D × Sto)) : SpGn := fun vs H Q => vs.length = n ∧ ∃ ι F S us, Rel B ι F S H ∧ RepUs B ι F H vs us ∧ OutL B ι F H Q (mf us S)
theorem gfn_q {P : Program} {w : World} {K : PySem.W.Frag} {mg : Str → Option Value} {base : Heap} {cl : Nat → Addr} {x qual : Str} {params : Arguments} {body : List Stmt} {scope : Scope} {f : Addr} {fd : FuncData} {N ps : List Str} {k : Nat} {m : MGn}
   (Fd : FunD K x qual params body scope [] [] f fd) (Sc : GScope N ps scope)
   (hb : ∀ (cdv : Value) (A : Around) (outer : List Env) (s : Shared) (H : Hp) (pn : List (Addr × Obj)), Room k (A.deeper (envOfC qual scope s.heap.objs.size f cdv)) → GTs (XgD P w K mg base N qual scope f cdv A outer s H pn) body (liftGn ⟨P, w, K, cl⟩ m)) :
   GFn1 P w K mg base (k + 1) f fd ps (SpGM ⟨P, w, K, cl⟩ ps.length (runG N.length m)) := by
 obtain ⟨oc, od, dV, kV, doc, pm, an, cdv, ct, osl, rfl, lk, hcd, _, _⟩ := Fd.ex
 refine gfn1 (t := liftGn ⟨P, w, K, cl⟩ m) lk hcd Sc (fun vs H Q h => h.1) (fun A outer s H pn hr => hb _ A outer s H pn hr) fun vs H Q h => ?_
 obtain ⟨_, ι, F, S, us, r, z, o⟩ := h
 refine ⟨ι, F, S, _, [], r, start_env z N.length, .nil, ?_⟩
 unfold runG at o
 cases q : m [] (us.map some ++ List.replicate (N.length - us.length) none) S with
 | none => rw [q] at o; exact o
 | some p =>
   obtain ⟨ds, ρ, S'⟩ := p
   rw [q] at o
   simp only at o
   cases q2 : fixS S S' with
   | none => rw [q2] at o; exact o.elim
   | some S'' =>
     rw [q2] at o
     intro ys σ ι' F' H' e' r' en' rs'
     obtain ⟨r2, et⟩ := r.exit e' r' q2
     refine o ys _ _ H' (?_ : Evo ι F H (ι'.take S.length) (frzF S.length ι' F' H') H') r2 (rs'.mono (ι := ι') (ι' := ι') frz_evo)
     rw [et]
     exact ⟨fun _ _ h => h, fun a h => .inl (e'.sub a h), e'.keep, e'.tups, e'.alive, e'.lkd, e'.kext⟩
theorem xgk {P : Program} {w : World} {K : PySem.W.Frag} {mg : Str → Option Value} {base : Heap} {cl : Nat → Addr} {qual : Str} {body : List Stmt} {scope : Scope} {f : Addr} {N : List Str} {k : Nat} {m : MGn} {cdv : Value} {A : Around} {outer : List Env} {s : Shared} {H : Hp} {pn : List (Addr × Obj)}
   (hr : Room k (A.deeper (envOfC qual scope s.heap.objs.size f cdv)))
   (h : (XgD P w K mg base N qual scope f cdv A outer s H pn).A.units + 65 < cLine → (XgD P w K mg base N qual scope f cdv A outer s H pn).A.units + 64 < cLine → (XgD P w K mg base N qual scope f cdv A outer s H pn).A.units + 20 < cLine → GTs (XgD P w K mg base N qual scope f cdv A outer s H pn) body (liftGn ⟨P, w, K, cl⟩ m)) :
   GTs (XgD P w K mg base N qual scope f cdv A outer s H pn) body (liftGn ⟨P, w, K, cl⟩ m) := by
 have hu3 : (XgD P w K mg base N qual scope f cdv A outer s H pn).A.units + 65 < cLine := by
   have := hr.un
   show (A.deeper _).units + 65 < cLine
   omega
 exact h hu3 (by omega) (by omega)
def eLcG (n : Nat) (mf : List U → Sto → Option (List D × Sto)) (a : MA) : ME := fun ρ S => (a ρ S).bind fun us S1 => if us.length = n then (match mf us S1 with
   | some (ds, S2) => .ok (.v (.lst ds)) S2
   | none => .er) else .er
section
variable {X : Cx} {cl : Nat → Addr} {W : WX} {k n : Nat} {f : Addr} {fd : FuncData} {ps : List Str} {mf : List U → Sto → Option (List D × Sto)} {x : Str} {p pos' : Pos} {e : Expr} {es : List Expr} {mA : MA}
def tCallG1 (sp : SpGn) (t : TA) : TGen := fun σ H cont => t σ H fun vs H1 => sp vs H1 cont
theorem pgn_call {sp : SpGn} {t : TA} (Fn : GFn1 X.prog X.w X.K X.mg X.base k f fd ps sp) (hr : Room k X.A) (hg : Gl X x) (hm : X.mg x = some (.ref f)) (hk : PySem.W.keepIn X.K (.ref f) = true) (hb : Binds X.K fd ps [])
   (ha : PA X (e :: es) t) (hdb : (x == ("__debug__" : Str)) = false := by decide) (he : starEach (e :: es) X.env = (false, eval e X.env) :: starEach es X.env := by rfl) (hpl : (backTo pos' (starEach es X.env)).any (·.1) = false := by rfl) :
   PGn X k (.Call (.Name x p) (e :: es) [] pos') (tCallG1 sp t) := by
 refine ⟨fun pins s σ H cont I h => ?_⟩
 refine wpAny_Call_Name_kw (ld_glob I hg hm ?_ hdb)
 refine PySem.W.callWith_K (h₀ := X.base) I.ok.mod.kin hk (thn (ha.run pos' pins s σ H _ I h) fun us s1 ⟨vs, H1, I1, r, q⟩ => ⟨I1.kIn, ?_⟩) he hpl
 have hl2 : (us ++ []).length = ps.length := by rw [List.append_nil, ← r.length]; exact Fn.len _ _ _ q
 refine wpAny_call (codeAny_mono (Fn.run X.A X.stack s1 H1 ⟨us, []⟩ us vs cont hr I1.env0 (by simpa using hb s1 us I1.kIn hl2) r q) fun r s' hq => ?_)
 obtain ⟨u, rfl, hq⟩ := hq
 exact ⟨H1, s1, I1, hq⟩
theorem lcg_read {i : Nat} {D : Ends} {σ : L2.St} {H : Hp} (h : liftS (bx X cl) W (sAsg (eLcG n mf mA) (gName i)) D σ H) : tAsg (tListG (tCallG1 (SpGM (bx X cl) n mf) (liftA (bx X cl) W mA))) (L2.gName i) D σ H := by
 obtain ⟨ι, F, S, ρ, r, en, o⟩ := h
 refine ⟨ι, F, S, ρ, r, en, ?_⟩
 unfold sAsg eLcG at o
 cases q : mA ρ S with
 | er => rw [q] at o; exact o.elim
 | ex c fs S1 => rw [q] at o; exact o σ ι F H Evo.refl en
 | ok us S1 =>
   rw [q] at o
   intro vs ι1 F1 H1 e1 r1 z1
   simp only [R.bind_ok] at o
   split at o
   · rename_i hl
     refine ⟨by rw [paired_len z1]; exact hl, ι1, F1, S1, us, r1, z1, ?_⟩
     cases q2 : mf us S1 with
     | none => rw [q2] at o; exact o.elim
     | some p =>
       obtain ⟨ds, S2⟩ := p
       rw [q2] at o
       intro ys ι2 F2 H2 e2 r2 rs a ha
       have e3 : Evo ι2 F2 H2 ι2 (addF F2 a) (upd H2 a (.lst ys)) := Evo.newF ha
       have zz : RepU (bx X cl) ι2 (addF F2 a) (upd H2 a (.lst ys)) (.ref a) (.v (.lst ds)) := .v (.lst (.inr rfl) upd_same (rs.mono e3))
       exact o _ ι2 _ _ ((e1.trans e2).trans e3) (r2.newF ha) (paired_set (P := RepO (bx X cl) ι2 (addF F2 a) (upd H2 a (.lst ys))) (x := some (V.ref a)) (y := some (U.v (.lst ds))) zz i (((en.mono e1).mono e2).mono e3))
   · exact o.elim
theorem qs_setLcG {i : Nat} {y nm : Str} {py p1 p2 pos spos : Pos} {scope : Scope} (hN : X.N.Nodup) (hy : X.N[i]? = some y) (hyl : X.env.scope.names.lookup y = some .local)
   (hsw : swapsWith (.ListComp (.Name nm p1) [⟨.Name nm p2, .Call (.Name x p) (e :: es) [] pos', [], 0⟩] scope pos) (some (.Name y py)) spos.line X.env = pure true)
   (Fn : GFn1 X.prog X.w X.K X.mg X.base k f fd ps (SpGM (bx X cl) n mf)) (hr : Room (k + 1) X.A) (hg : Gl X x) (hm : X.mg x = some (.ref f)) (hk : PySem.W.keepIn X.K (.ref f) = true) (hb : Binds X.K fd ps []) (ha : QA X cl W (e :: es) mA)
   (hkind : scope.kind = .function) (huniq : ∀ y ∈ scope.names, scope.names.lookup y.1 = some y.2) (hx : scope.names.lookup nm = some .local) (hnf : ∀ y ∈ scope.names, y.2 ≠ .free)
   (hdb : (x == ("__debug__" : Str)) = false := by decide) (hdb2 : (nm == ("__debug__" : Str)) = false := by decide) (he : starEach (e :: es) X.env = (false, eval e X.env) :: starEach es X.env := by rfl) (hpl : (backTo pos' (starEach es X.env)).any (·.1) = false := by rfl) :
   QS X cl W (.Assign [.Name y py] (.ListComp (.Name nm p1) [⟨.Name nm p2, .Call (.Name x p) (e :: es) [] pos', [], 0⟩] scope pos) spos) (sAsg (eLcG n mf mA) (gName i)) :=
 PS.imp (ps_setLcG hN hy hyl hsw (pgn_call Fn (hr.mono (by omega)) hg hm hk hb ha hdb he hpl) hr hkind huniq hx hnf (by intro _; rfl) hdb2) fun D σ H h => lcg_read h
end
end Pu
namespace Mi
open PySem
def isT_Lot : Nat → Nat → Option Bool
 | 15, 15 => some true
 | 13, 15 => some false
 | _, _ => none
def isT_Machine : Nat → Nat → Option Bool
 | 12, 12 => some true
 | 13, 12 => some true
 | 14, 12 => some true
 | 17, 12 => some true
 | _, _ => none
def isT_Pattern : Nat → Nat → Option Bool
 | 14, 14 => some true
 | 17, 14 => some true
 | _, _ => none
def isT_Service : Nat → Nat → Option Bool
 | 13, 13 => some true
 | 17, 13 => some true
 | _, _ => none
def isT_Table : Nat → Nat → Option Bool
 | 21, 21 => some true
 | 20, 21 => some false
 | _, _ => none
def isT_Tree : Nat → Nat → Option Bool
 | 21, 20 => some false
 | 20, 20 => some true
 | _, _ => none
end Mi
namespace Mi
open PySem
def isT_Game : Nat → Nat → Option Bool
 | 18, 18 => some true
 | _, _ => none
end Mi
namespace Mi
open PySem L2 Pu
noncomputable def m__law_cell : MS := (sSeq (sIf (tB (eOp (fI (gCmp fun i j => decide (i < j))) (eVar 1) (eCB fLen (aCons (eVar 0) aNil))))
 (sRet (eOp fIxX (eVar 0) (eVar 1)))
 sNext)
 (sRet (eC (.int 0))))
noncomputable def f__law_cell : List U → Sto → R U := runF 2 m__law_cell
noncomputable def m__law_draws : MS := (sSeq (sAsg (eCall 2 f__law_cell [] (aCons (eVar 0) (aCons (eVar 1) aNil))) (gName 3))
 (sSeq (sAsg (eCB fLstS aNil) (gName 4))
 (sSeq (sIf (tB (eOp (fI (gCmp fun i j => decide (j ≤ i))) (eVar 3) (eOp (fI gPow) (eC (.int 10)) (eC (.int 18)))))
 (sSeq (sAsg (eOp (fI gSub) (eVar 3) (eOp (fI gPow) (eC (.int 10)) (eC (.int 18)))) (gName 7))
 (sSeq (sFor (iRng1 (aCons (eVar 2) aNil)) (gName 6)
 (sSeq (sExpr (eMtT isL fAppend (eVar 4) (aCons (eOp (fI gMod) (eCB fInt (aCons (eVar 7) aNil)) (eC (.int 64))) aNil)))
 (sAsg (eOp (fI gDiv) (eVar 7) (eC (.int 64))) (gName 7))))
 (sRet (eVar 4))))
 sNext)
 (sSeq (sAsg (eOp (fI gMod) (eCB fInt (aCons (eOp fAdd (eOp fAdd (eOp (fI gMul) (eVar 3) (eC (.int 7919))) (eOp (fI gMul) (eVar 1) (eC (.int 104729)))) (eC (.int 12345))) aNil)) (eC (.int 2147483647))) (gName 5))
 (sSeq (sFor (iRng1 (aCons (eVar 2) aNil)) (gName 6)
 (sSeq (sAsg (eOp (fI gMod) (eCB fInt (aCons (eOp fAdd (eOp fAdd (eOp (fI gMul) (eVar 5) (eC (.int 48271))) (eVar 6)) (eC (.int 11))) aNil)) (eC (.int 2147483647))) (gName 5))
 (sExpr (eMtT isL fAppend (eVar 4) (aCons (eOp (fI gMod) (eCB fInt (aCons (eOp (fI gDiv) (eVar 5) (eC (.int 65536))) aNil)) (eC (.int 64))) aNil)))))
 (sRet (eVar 4)))))))
noncomputable def f__law_draws : List U → Sto → R U := runF 8 m__law_draws
noncomputable def m__law_asks : MS := (sSeq (sAsg (eC (.str "abcdefghijklmnopqrstuvwxyz")) (gName 2))
 (sSeq (sAsg (eMtT isS fJoin (eC (.str "")) (aCons (eLcV [10] (iVal (eSl fSl (eVar 0) oNone (oSome (eC (.int 8))))) (gName 10) tYesM (eOp fIxX (eVar 2) (eOp (fI gMod) (eCB fInt (aCons (eVar 10) aNil)) (eC (.int 26))))) aNil)) (gName 3))
 (sSeq (sAsg (eCB fLstS aNil) (gName 4))
 (sSeq (sFor (iRng1 (aCons (eVar 1) aNil)) (gName 5)
 (sSeq (sAsg (eOp fAdd (eOp (fI gMod) (eCB fInt (aCons (eOp fAdd (eOp fIxX (eVar 0) (eC (.int 9))) (eOp (fI gMul) (eC (.int 3)) (eVar 5))) aNil)) (eC (.int 8))) (eC (.int 1))) (gName 6))
 (sIf (tB (eOp fEq (eOp (fI gMod) (eCB fInt (aCons (eOp fIxX (eVar 0) (eC (.int 8))) aNil)) (eC (.int 2))) (eC (.int 0))))
 (sExpr (eMtT isL fAppend (eVar 4) (aCons (eSl fSl (eVar 3) oNone (oSome (eVar 6))) aNil)))
 (sSeq (sAsg (eOp fAdd (eOp (fI gMod) (eCB fInt (aCons (eOp fIxX (eVar 0) (eC (.int 9))) aNil)) (eC (.int 8))) (eC (.int 1))) (gName 6))
 (sSeq (sAsg (eOp (fI gMod) (eCB fInt (aCons (eOp fIxX (eVar 0) (eC (.int 10))) aNil)) (eVar 6)) (gName 7))
 (sSeq (sAsg (eOp fAdd (eOp (fI gMul) (eOp (fI gMod) (eCB fInt (aCons (eOp fIxX (eVar 0) (eC (.int 12))) aNil)) (eC (.int 6))) (eC (.int 2))) (eC (.int 1))) (gName 8))
 (sSeq (sAsg (eOp fIxX (eVar 2) (eOp (fI gMod) (eCB fInt (aCons (eOp fAdd (eOp fIxX (eVar 0) (eC (.int 11))) (eOp (fI gMul) (eVar 8) (eVar 5))) aNil)) (eC (.int 26)))) (gName 9))
 (sExpr (eMtT isL fAppend (eVar 4) (aCons (eOp fAdd (eOp fAdd (eSl fSl (eVar 3) oNone (oSome (eVar 7))) (eVar 9)) (eSl fSl (eVar 3) (oSome (eOp fAdd (eVar 7) (eC (.int 1)))) (oSome (eVar 6)))) aNil))))))))))
 (sRet (eVar 4))))))
noncomputable def f__law_asks : List U → Sto → R U := runF 11 m__law_asks
noncomputable def m_is_ask : MS := (sSeq (sIf (tOr (tB (eOp (fI (gCmp fun i j => decide (i < j))) (eCB fLen (aCons (eVar 0) aNil)) (eC (.int 1)))) (tB (eOp (fI (gCmp fun i j => decide (j < i))) (eCB fLen (aCons (eVar 0) aNil)) (eC (.int (8))))))
 (sRet (eC (.bl false)))
 sNext)
 (sRet (eCB fAll (aCons (eLcV [1] (iChr (eVar 0)) (gName 1) tYesM (eOp (fInX false) (eVar 1) (eC (.str "abcdefghijklmnopqrstuvwxyz")))) aNil))))
noncomputable def f_is_ask : List U → Sto → R U := runF 2 m_is_ask
noncomputable def m_check_parts : MS := (sSeq (sIf (tB (eOp (fI (gCmp fun i j => decide (i < j))) (eVar 0) (eC (.int 1))))
 (sRaise 1 ["part"] (aCons (eC (.str "size")) aNil))
 sNext)
 (sSeq (sIf (tB (eOp (fI (gCmp fun i j => decide (j < i))) (eVar 0) (eC (.int (200)))))
 (sRaise 3 ["size"] (aCons (eVar 0) aNil))
 sNext)
 (sSeq (sFor (iVal (eVar 1)) (gName 3)
 (sIf (tOr (tB (eOp (fI (gCmp fun i j => decide (i < j))) (eVar 3) (eC (.int 0)))) (tB (eOp (fI (gCmp fun i j => decide (j ≤ i))) (eVar 3) (eVar 0))))
 (sRaise 1 ["part"] (aCons (eC (.str "mark")) aNil))
 sNext))
 (sFor (iVal (eVar 2)) (gTup 3 (gCons (gName 4) (gCons (gName 5) (gCons (gName 6) gNil))))
 (sIf (tOr (tB (eOp (fI (gCmp fun i j => decide (i < j))) (eVar 4) (eC (.int 0)))) (tOr (tB (eOp (fI (gCmp fun i j => decide (j ≤ i))) (eVar 4) (eVar 0))) (tOr (tB (eOp (fI (gCmp fun i j => decide (i < j))) (eVar 6) (eC (.int 0)))) (tOr (tB (eOp (fI (gCmp fun i j => decide (j ≤ i))) (eVar 6) (eVar 0))) (tNot (tB (eCall 1 f_is_ask [] (aCons (eVar 5) aNil))))))))
 (sRaise 1 ["part"] (aCons (eC (.str "step")) aNil))
 sNext)))))
noncomputable def f_check_parts : List U → Sto → R U := runF 7 m_check_parts
noncomputable def m_in_order : MS := (sSeq (sAsg (eCB fLstS aNil) (gName 1))
 (sSeq (sFor (iVal (eVar 0)) (gName 2)
 (sSeq (sAsg (eC (.int 0)) (gName 3))
 (sSeq (sAsg (eCB fLen (aCons (eVar 1) aNil)) (gName 4))
 (sSeq (sWhile (tB (eOp fLtD (eVar 3) (eVar 4)))
 (sSeq (sAsg (eOp (fI gDiv) (eOp fAdd (eVar 3) (eVar 4)) (eC (.int 2))) (gName 5))
 (sIf (tB (eOp fLtD (eOp fIxX (eVar 1) (eVar 5)) (eVar 2)))
 (sAsg (eOp fAdd (eVar 5) (eC (.int 1))) (gName 3))
 (sAsg (eVar 5) (gName 4)))))
 (sIf (tOr (tB (eOp fEq (eVar 3) (eCB fLen (aCons (eVar 1) aNil)))) (tB (eOp fNe (eOp fIxX (eVar 1) (eVar 3)) (eVar 2))))
 (sExpr (eMtT isL fInsert (eVar 1) (aCons (eVar 3) (aCons (eVar 2) aNil))))
 sNext)))))
 (sRet (eVar 1))))
noncomputable def f_in_order : List U → Sto → R U := runF 6 m_in_order
noncomputable def m_ends_by_ask : MS := (sSeq (sAsg (eCB fDicS aNil) (gName 1))
 (sSeq (sFor (iVal (eVar 0)) (gTup 3 (gCons (gName 2) (gCons (gName 3) (gCons (gName 4) gNil))))
 (sSet (eVar 1) (eCB fTup (aCons (eVar 2) (aCons (eVar 3) aNil))) (eOp fAdd (eMtT isDc fGet (eVar 1) (aCons (eCB fTup (aCons (eVar 2) (aCons (eVar 3) aNil))) (aCons (eCB fTup aNil) aNil))) (eCB fTup (aCons (eVar 4) aNil)))))
 (sRet (eVar 1))))
noncomputable def f_ends_by_ask : List U → Sto → R U := runF 5 m_ends_by_ask
noncomputable def m_Machineu_initu : MS := (sSeq (sExpr (eCall 3 f_check_parts [] (aCons (eVar 1) (aCons (eVar 2) (aCons (eVar 3) aNil)))))
 (sSeq (sAsg (eCall 1 f_in_order [] (aCons (eLcV [6, 7, 8] (iVal (eVar 3)) (gTup 3 (gCons (gName 6) (gCons (gName 7) (gCons (gName 8) gNil)))) tYesM (eCB fTup (aCons (eVar 6) (aCons (eVar 7) (aCons (eVar 8) aNil))))) aNil)) (gName 5))
 (sSeq (sIf (tB (eOp (fI (gCmp fun i j => decide (j < i))) (eCB fLen (aCons (eVar 5) aNil)) (eC (.int (600)))))
 (sRaise 3 ["size"] (aCons (eCB fLen (aCons (eVar 5) aNil)) aNil))
 sNext)
 (sSeq (sIf (tOr (tB (eOp (fI (gCmp fun i j => decide (i < j))) (eVar 4) (eC (.int 0)))) (tB (eOp (fI (gCmp fun i j => decide (j ≤ i))) (eVar 4) (eVar 1))))
 (sRaise 2 ["state"] (aCons (eVar 4) aNil))
 sNext)
 (sSeq (sFld [12, 13, 14, 17, 18] "size" (eVar 0) (eVar 1))
 (sSeq (sFld [12, 13, 14, 17] "marks" (eVar 0) (eCB fTuple (aCons (eCall 1 f_in_order [] (aCons (eVar 2) aNil)) aNil)))
 (sSeq (sFld [12, 13, 14, 17] "steps" (eVar 0) (eCB fTuple (aCons (eVar 5) aNil)))
 (sSeq (sFld [12, 13, 14, 17] "ends" (eVar 0) (eCall 1 f_ends_by_ask [] (aCons (eVar 5) aNil)))
 (sFld [12, 13, 14, 17] "place" (eVar 0) (eVar 4))))))))))
noncomputable def f_Machineu_initu : List U → Sto → R U := runF 9 m_Machineu_initu
noncomputable def f_Serviceu_initu : List U → Sto → R U := supN 13 f_Machineu_initu
noncomputable def f_Patternu_initu : List U → Sto → R U := supN 14 f_Machineu_initu
noncomputable def m__law_whole : MS := (sRet (eAnd (eCB fIsi (aCons (eVar 0) (aCons (eC (.ty "int")) aNil))) (eNot (eCB fIsi (aCons (eVar 0) (aCons (eC (.ty "bool")) aNil))))))
noncomputable def f__law_whole : List U → Sto → R U := runF 1 m__law_whole
noncomputable def m_Machine_now : MS := (sRet (eUn (fFld [12, 13, 14, 17] "place") (eVar 0)))
noncomputable def f_Machine_now : List U → Sto → R U := runF 1 m_Machine_now
end Mi
namespace Mi
open PySem L2 Pu
noncomputable def m__law_steps : MS := (sSeq (sAsg (eCB fLstS aNil) (gName 4))
 (sSeq (sFor (iRng1 (aCons (eVar 1) aNil)) (gName 5)
 (sFor (iRng1 (aCons (eCB fLen (aCons (eVar 2) aNil)) aNil)) (gName 6)
 (sSeq (sAsg (eOp fIxX (eVar 0) (eOp (fI gMod) (eCB fInt (aCons (eOp fAdd (eOp (fI gMul) (eVar 5) (eCB fLen (aCons (eVar 2) aNil))) (eVar 6)) aNil)) (eCB fLen (aCons (eVar 0) aNil)))) (gName 7))
 (sFor (iRng1 (aCons (eVar 1) aNil)) (gName 8)
 (sSeq (sIf (tAnd (tB (eVar 3)) (tB (eOp fEq (eOp (fI gMod) (eCB fInt (aCons (eVar 7) aNil)) (eOp fAdd (eVar 1) (eC (.int 1)))) (eOp fAdd (eVar 8) (eC (.int 1))))))
 (sExpr (eMtT isL fAppend (eVar 4) (aCons (eCB fTup (aCons (eVar 5) (aCons (eOp fIxX (eVar 2) (eVar 6)) (aCons (eVar 8) aNil)))) aNil)))
 sNext)
 (sIf (tAnd (tNot (tB (eVar 3))) (tB (eOp fEq (eOp (fI gMod) (eCB fInt (aCons (eOp (fI gDiv) (eVar 7) (eOp fIxX (eCB fLstV (aCons (eC (.int 1)) (aCons (eC (.int 2)) (aCons (eC (.int 4)) (aCons (eC (.int 8)) aNil))))) (eVar 8))) aNil)) (eC (.int 2))) (eC (.int 1)))))
 (sExpr (eMtT isL fAppend (eVar 4) (aCons (eCB fTup (aCons (eVar 5) (aCons (eOp fIxX (eVar 2) (eVar 6)) (aCons (eVar 8) aNil)))) aNil)))
 sNext))))))
 (sRet (eVar 4))))
noncomputable def f__law_steps : List U → Sto → R U := runF 9 m__law_steps
noncomputable def m__law_marks : MS := (sRet (eLcV [2] (iRng1 (aCons (eVar 1) aNil)) (gName 2) (tOr (tB (eOp (fI (gCmp fun i j => decide (j ≤ i))) (eVar 0) (eC (.int 48)))) (tB (eOp fEq (eOp (fI gMod) (eCB fInt (aCons (eOp (fI gDiv) (eVar 0) (eOp fIxX (eCB fLstV (aCons (eC (.int 1)) (aCons (eC (.int 2)) (aCons (eC (.int 4)) (aCons (eC (.int 8)) aNil))))) (eVar 2))) aNil)) (eC (.int 2))) (eC (.int 1))))) (eVar 2)))
noncomputable def f__law_marks : List U → Sto → R U := runF 3 m__law_marks
noncomputable def m_Machineu_getitemu : MS := (sRet (eMtT isDc fGet (eUn (fFld [12, 13, 14, 17] "ends") (eVar 0)) (aCons (eCB fTup (aCons (eUn (fFld [12, 13, 14, 17] "place") (eVar 0)) (aCons (eVar 1) aNil))) (aCons (eCB fTup aNil) aNil))))
noncomputable def f_Machineu_getitemu : List U → Sto → R U := runF 2 m_Machineu_getitemu
noncomputable def m__law_item_holds : MS := (sSeq (sAsg (eIxO [12, 13, 14, 17] f_Machineu_getitemu (eVar 0) (eVar 1)) (gName 3))
 (sSeq (sIf (tOr (tNot (tB (eCB fIsi (aCons (eVar 3) (aCons (eC (.ty "tuple")) aNil))))) (tNot (tB (eCB fAll (aCons (eLcV [4] (iVal (eVar 3)) (gName 4) tYesM (eCall 1 f__law_whole [] (aCons (eVar 4) aNil))) aNil)))))
 (sRet (eC (.bl false)))
 sNext)
 (sRet (eOp fEq (eCB fListX (aCons (eVar 3) aNil)) (eVar 2)))))
noncomputable def f__law_item_holds : List U → Sto → R U := runF 5 m__law_item_holds
noncomputable def m_Machineu_boolu : MS := (sRet (eOp (fInX false) (eUn (fFld [12, 13, 14, 17] "place") (eVar 0)) (eUn (fFld [12, 13, 14, 17] "marks") (eVar 0))))
noncomputable def f_Machineu_boolu : List U → Sto → R U := runF 1 m_Machineu_boolu
noncomputable def m_law_2 : MS := (sSeq (sAsg (eCall 3 f__law_draws [] (aCons (eVar 0) (aCons (eC (.int 0)) (aCons (eC (.int 8)) aNil)))) (gName 1))
 (sSeq (sAsg (eOp fAdd (eC (.int 1)) (eOp (fI gMod) (eCB fInt (aCons (eOp fIxX (eVar 1) (eC (.int 0))) aNil)) (eC (.int 4)))) (gName 2))
 (sSeq (sAsg (eCall 2 f__law_asks [] (aCons (eCall 3 f__law_draws [] (aCons (eVar 0) (aCons (eC (.int 1)) (aCons (eC (.int 13)) aNil)))) (aCons (eOp fAdd (eC (.int 2)) (eOp (fI gMod) (eCB fInt (aCons (eOp fIxX (eVar 1) (eC (.int 1))) aNil)) (eC (.int 4)))) aNil))) (gName 3))
 (sSeq (sAsg (eSl fSl (eVar 3) (oSome (eC (.int 1))) oNone) (gName 4))
 (sSeq (sAsg (eCall 4 f__law_steps [] (aCons (eCall 3 f__law_draws [] (aCons (eVar 0) (aCons (eC (.int 2)) (aCons (eC (.int 16)) aNil)))) (aCons (eVar 2) (aCons (eVar 4) (aCons (eOp fEq (eOp (fI gMod) (eCB fInt (aCons (eOp fIxX (eVar 1) (eC (.int 2))) aNil)) (eC (.int 4))) (eC (.int 0))) aNil))))) (gName 5))
 (sSeq (sAsg (eCall 2 f__law_marks [] (aCons (eOp fIxX (eVar 1) (eC (.int 3))) (aCons (eVar 2) aNil))) (gName 6))
 (sSeq (sFor (iRng1 (aCons (eVar 2) aNil)) (gName 7)
 (sSeq (sAsg (eMk 13 5 f_Serviceu_initu [] (aCons (eVar 2) (aCons (eCB fListX (aCons (eVar 6) aNil)) (aCons (eUn fRev (eVar 5)) (aCons (eVar 7) aNil))))) (gName 8))
 (sSeq (sIf (tB (eOp fEq (eOp (fI gMod) (eCB fInt (aCons (eOp fAdd (eOp fIxX (eVar 1) (eC (.int 4))) (eVar 7)) aNil)) (eC (.int 2))) (eC (.int 0))))
 (sAsg (eMk 14 5 f_Patternu_initu [] (aCons (eVar 2) (aCons (eCB fListX (aCons (eVar 6) aNil)) (aCons (eUn fRev (eVar 5)) (aCons (eVar 7) aNil))))) (gName 8))
 sNext)
 (sFor (iRng1 (aCons (eC (.int 2)) aNil)) (gName 9)
 (sSeq (sFor (iVal (eVar 3)) (gName 10)
 (sSeq (sAsg (eLcV [12] (iRng1 (aCons (eVar 2) aNil)) (gName 12) (tB (eOp (fInX false) (eCB fTup (aCons (eVar 7) (aCons (eVar 10) (aCons (eVar 12) aNil)))) (eVar 5))) (eVar 12)) (gName 11))
 (sIf (tNot (tB (eCall 3 f__law_item_holds [] (aCons (eVar 8) (aCons (eVar 10) (aCons (eVar 11) aNil))))))
 (sRet (eC (.bl false)))
 sNext)))
 (sIf (tOr (tB (eOp fNe (eCB (fBoolO [12, 13, 14, 17] f_Machineu_boolu) (aCons (eVar 8) aNil)) (eOp (fInX false) (eVar 7) (eVar 6)))) (tOr (tB (eOp fNe (eProp [12, 13, 14, 17] f_Machine_now (eVar 8)) (eVar 7))) (tNot (tB (eCB (fIsX isT_Machine) (aCons (eVar 8) (aCons (eC (.cls 12)) aNil)))))))
 (sRet (eC (.bl false)))
 sNext))))))
 (sRet (eC (.bl true))))))))))
noncomputable def f_law_2 : List U → Sto → R U := runF 13 m_law_2
end Mi
namespace Mi
open PySem L2 Pu
noncomputable def m_Machineu_setitemu : MS := (sSeq (sIf (tB (eOp (fInX true) (eVar 2) (eMtT isDc fGet (eUn (fFld [12, 13, 14, 17] "ends") (eVar 0)) (aCons (eCB fTup (aCons (eUn (fFld [12, 13, 14, 17] "place") (eVar 0)) (aCons (eVar 1) aNil))) (aCons (eCB fTup aNil) aNil)))))
 (sRaise 4 ["ask", "end"] (aCons (eVar 1) (aCons (eVar 2) aNil)))
 sNext)
 (sFld [12, 13, 14, 17] "place" (eVar 0) (eVar 2)))
noncomputable def f_Machineu_setitemu : List U → Sto → R U := runF 3 m_Machineu_setitemu
end Mi
namespace Mi
open PySem L2 Pu
noncomputable def m__law_lot : MS := (sSeq (sAsg (eCB fLstS aNil) (gName 4))
 (sSeq (sFor (iRng1 (aCons (eVar 2) aNil)) (gName 5)
 (sSeq (sAsg (eCall 3 f__law_draws [] (aCons (eVar 0) (aCons (eOp fAdd (eC (.int 3)) (eVar 5)) (aCons (eC (.int 20)) aNil)))) (gName 6))
 (sSeq (sAsg (eOp fAdd (eC (.int 1)) (eOp (fI gMod) (eCB fInt (aCons (eOp fIxX (eVar 6) (eC (.int 0))) aNil)) (eIf (tB (eOp (fI (gCmp fun i j => decide (i ≤ j))) (eVar 2) (eC (.int 2)))) (eC (.int 3)) (eC (.int 2))))) (gName 7))
 (sSeq (sAsg (eCall 4 f__law_steps [] (aCons (eSl fSl (eVar 6) (oSome (eC (.int 4))) oNone) (aCons (eVar 7) (aCons (eVar 1) (aCons (eOr (eVar 3) (eOp fEq (eOp (fI gMod) (eCB fInt (aCons (eOp fIxX (eVar 6) (eC (.int 1))) aNil)) (eC (.int 3))) (eC (.int 0)))) aNil))))) (gName 8))
 (sExpr (eMtT isL fAppend (eVar 4) (aCons (eCB fTup (aCons (eVar 7) (aCons (eCall 2 f__law_marks [] (aCons (eOp fIxX (eVar 6) (eC (.int 2))) (aCons (eVar 7) aNil))) (aCons (eVar 8) (aCons (eOp (fI gMod) (eCB fInt (aCons (eOp fIxX (eVar 6) (eC (.int 3))) aNil)) (eVar 7)) aNil))))) aNil)))))))
 (sRet (eVar 4))))
noncomputable def f__law_lot : List U → Sto → R U := runF 9 m__law_lot
noncomputable def m__law_service : MS := (sRet (eMk 13 5 f_Serviceu_initu [] (aCons (eOp fIxX (eVar 0) (eC (.int 0))) (aCons (eCB fListX (aCons (eOp fIxX (eVar 0) (eC (.int 1))) aNil)) (aCons (eCB fListX (aCons (eOp fIxX (eVar 0) (eC (.int 2))) aNil)) (aCons (eOp fIxX (eVar 0) (eC (.int 3))) aNil))))))
noncomputable def f__law_service : List U → Sto → R U := runK 1 m__law_service
noncomputable def m_copy_service : MS := (sRet (eMk 13 5 f_Serviceu_initu [] (aCons (eUn (fFld [12, 13, 14, 17, 18] "size") (eVar 0)) (aCons (eUn (fFld [12, 13, 14, 17] "marks") (eVar 0)) (aCons (eUn (fFld [12, 13, 14, 17] "steps") (eVar 0)) (aCons (eVar 1) aNil))))))
noncomputable def f_copy_service : List U → Sto → R U := runF 2 m_copy_service
noncomputable def m_Lotu_initu : MS := (sSeq (sIf (tB (eOp (fI (gCmp fun i j => decide (j < i))) (eCB fLen (aCons (eVar 2) aNil)) (eC (.int (5)))))
 (sRaise 3 ["size"] (aCons (eCB fLen (aCons (eVar 2) aNil)) aNil))
 sNext)
 (sSeq (sFld [15, 16] "members" (eVar 0) (eLcV [3] (iVal (eVar 2)) (gName 3) tYesM (eCall 2 f_copy_service [] (aCons (eVar 3) (aCons (eProp [12, 13, 14, 17] f_Machine_now (eVar 3)) aNil)))))
 (sSeq (sFld [15, 16] "places" (eVar 0) (eLcV [3] (iVal (eVar 2)) (gName 3) tYesM (eProp [12, 13, 14, 17] f_Machine_now (eVar 3))))
 (sIf (tB (eOp (fIsN true) (eVar 1) (eC .non)))
 (sFld [15, 16] "places" (eVar 0) (eCB fListX (aCons (eVar 1) aNil)))
 sNext))))
noncomputable def f_Lotu_initu : List U → Sto → R U := runF 4 m_Lotu_initu
noncomputable def m__law_put : MS := (sSeq (sIf (tB (eOp fEq (eCB fLen (aCons (eVar 0) aNil)) (eC (.int 0))))
 (sRet (eMkT 15 f_Lotu_initu aNil))
 sNext)
 (sSeq (sIf (tB (eOp fEq (eCB fLen (aCons (eVar 0) aNil)) (eC (.int 1))))
 (sRet (eMkT 15 f_Lotu_initu (aCons (eOp fIxX (eVar 0) (eC (.int 0))) aNil)))
 sNext)
 (sSeq (sIf (tB (eOp fEq (eCB fLen (aCons (eVar 0) aNil)) (eC (.int 2))))
 (sRet (eMkT 15 f_Lotu_initu (aCons (eOp fIxX (eVar 0) (eC (.int 0))) (aCons (eOp fIxX (eVar 0) (eC (.int 1))) aNil))))
 sNext)
 (sSeq (sIf (tB (eOp fEq (eCB fLen (aCons (eVar 0) aNil)) (eC (.int 3))))
 (sRet (eMkT 15 f_Lotu_initu (aCons (eOp fIxX (eVar 0) (eC (.int 0))) (aCons (eOp fIxX (eVar 0) (eC (.int 1))) (aCons (eOp fIxX (eVar 0) (eC (.int 2))) aNil)))))
 sNext)
 (sSeq (sIf (tB (eOp fEq (eCB fLen (aCons (eVar 0) aNil)) (eC (.int 4))))
 (sRet (eMkT 15 f_Lotu_initu (aCons (eOp fIxX (eVar 0) (eC (.int 0))) (aCons (eOp fIxX (eVar 0) (eC (.int 1))) (aCons (eOp fIxX (eVar 0) (eC (.int 2))) (aCons (eOp fIxX (eVar 0) (eC (.int 3))) aNil))))))
 sNext)
 (sRet (eMkT 15 f_Lotu_initu (aCons (eOp fIxX (eVar 0) (eC (.int 0))) (aCons (eOp fIxX (eVar 0) (eC (.int 1))) (aCons (eOp fIxX (eVar 0) (eC (.int 2))) (aCons (eOp fIxX (eVar 0) (eC (.int 3))) (aCons (eOp fIxX (eVar 0) (eC (.int 4))) aNil))))))))))))
noncomputable def f__law_put : List U → Sto → R U := runF 1 m__law_put
noncomputable def m_Lot_states : MS := (sRet (eCB fTuple (aCons (eUn (fFld [15, 16] "places") (eVar 0)) aNil)))
noncomputable def f_Lot_states : List U → Sto → R U := runF 1 m_Lot_states
noncomputable def m_Lotu_lenu : MS := (sRet (eCB fLen (aCons (eUn (fFld [15, 16] "members") (eVar 0)) aNil)))
noncomputable def f_Lotu_lenu : List U → Sto → R U := runF 1 m_Lotu_lenu
noncomputable def m_all_rest : MS := (sRet (eCB fAll (aCons (eLcV [2, 3] (iZip (aCons (eVar 0) (aCons (eVar 1) aNil))) (gTup 2 (gCons (gName 2) (gCons (gName 3) gNil))) tYesM (eOr (eOp fEq (eVar 3) (eC (.int (-1)))) (eOp (fInX false) (eVar 3) (eUn (fFld [12, 13, 14, 17] "marks") (eVar 2))))) aNil)))
noncomputable def f_all_rest : List U → Sto → R U := runF 4 m_all_rest
noncomputable def m_Lotu_boolu : MS := (sRet (eCB fBoolV (aCons (eCall 2 f_all_rest [] (aCons (eUn (fFld [15, 16] "members") (eVar 0)) (aCons (eUn (fFld [15, 16] "places") (eVar 0)) aNil))) aNil)))
noncomputable def f_Lotu_boolu : List U → Sto → R U := runF 1 m_Lotu_boolu
noncomputable def m__law_rests : MS := (sSeq (sFor (iRng1 (aCons (eCB fLen (aCons (eVar 0) aNil)) aNil)) (gName 2)
 (sIf (tAnd (tB (eOp (fI (gCmp fun i j => decide (j ≤ i))) (eOp fIxX (eVar 1) (eVar 2)) (eC (.int 0)))) (tB (eOp (fInX true) (eOp fIxX (eVar 1) (eVar 2)) (eOp fIxX (eOp fIxX (eVar 0) (eVar 2)) (eC (.int 1))))))
 (sRet (eC (.bl false)))
 sNext))
 (sRet (eC (.bl true))))
noncomputable def f__law_rests : List U → Sto → R U := runF 3 m__law_rests
noncomputable def m_Lotu_getitemu : MS := (sSeq (sIf (tOr (tB (eOp (fI (gCmp fun i j => decide (i < j))) (eVar 1) (eC (.int 0)))) (tOr (tB (eOp (fI (gCmp fun i j => decide (j ≤ i))) (eVar 1) (eCB fLen (aCons (eUn (fFld [15, 16] "members") (eVar 0)) aNil)))) (tB (eOp fEq (eOp fIxX (eUn (fFld [15, 16] "places") (eVar 0)) (eVar 1)) (eC (.int (-1)))))))
 (sRaise 5 ["number"] (aCons (eVar 1) aNil))
 sNext)
 (sRet (eCall 2 f_copy_service [] (aCons (eOp fIxX (eUn (fFld [15, 16] "members") (eVar 0)) (eVar 1)) (aCons (eOp fIxX (eUn (fFld [15, 16] "places") (eVar 0)) (eVar 1)) aNil)))))
noncomputable def f_Lotu_getitemu : List U → Sto → R U := runF 2 m_Lotu_getitemu
noncomputable def m__law_same : MS := (sSeq (sIf (tOr (tNot (tB (eCB (fIsX isT_Service) (aCons (eVar 0) (aCons (eC (.cls 13)) aNil))))) (tOr (tB (eOp fNe (eUn (fFld [12, 13, 14, 17, 18] "size") (eVar 0)) (eOp fIxX (eVar 1) (eC (.int 0))))) (tB (eOp fNe (eProp [12, 13, 14, 17] f_Machine_now (eVar 0)) (eOp fIxX (eVar 1) (eC (.int 3)))))))
 (sRet (eC (.bl false)))
 sNext)
 (sRet (eAnd (eOp fEq (eCB fListX (aCons (eUn (fFld [12, 13, 14, 17] "marks") (eVar 0)) aNil)) (eOp fIxX (eVar 1) (eC (.int 1)))) (eOp fEq (eCB fListX (aCons (eUn (fFld [12, 13, 14, 17] "steps") (eVar 0)) aNil)) (eOp fIxX (eVar 1) (eC (.int 2)))))))
noncomputable def f__law_same : List U → Sto → R U := runF 2 m__law_same
noncomputable def m__law_lot_holds : MS := (sSeq (sAsg (eProp [15] f_Lot_states (eVar 0)) (gName 2))
 (sSeq (sIf (tOr (tB (eOp fNe (eCB (fLenO [15] f_Lotu_lenu) (aCons (eVar 0) aNil)) (eCB fLen (aCons (eVar 1) aNil)))) (tNot (tB (eCB fIsi (aCons (eVar 2) (aCons (eC (.ty "tuple")) aNil))))))
 (sRet (eC (.bl false)))
 sNext)
 (sSeq (sIf (tNot (tB (eCB fAll (aCons (eLcV [5] (iVal (eVar 2)) (gName 5) tYesM (eCall 1 f__law_whole [] (aCons (eVar 5) aNil))) aNil))))
 (sRet (eC (.bl false)))
 sNext)
 (sSeq (sIf (tB (eOp fNe (eCB fListX (aCons (eVar 2) aNil)) (eLcV [3] (iVal (eVar 1)) (gName 3) tYesM (eOp fIxX (eVar 3) (eC (.int 3))))))
 (sRet (eC (.bl false)))
 sNext)
 (sSeq (sIf (tB (eOp fNe (eCB (fBoolO [15] f_Lotu_boolu) (aCons (eVar 0) aNil)) (eCall 2 f__law_rests [] (aCons (eVar 1) (aCons (eVar 2) aNil)))))
 (sRet (eC (.bl false)))
 sNext)
 (sRet (eCB fAll (aCons (eLcV [4] (iRng1 (aCons (eCB fLen (aCons (eVar 1) aNil)) aNil)) (gName 4) tYesM (eCall 2 f__law_same [] (aCons (eIxO [15] f_Lotu_getitemu (eVar 0) (eVar 4)) (aCons (eOp fIxX (eVar 1) (eVar 4)) aNil)))) aNil))))))))
noncomputable def f__law_lot_holds : List U → Sto → R U := runF 6 m__law_lot_holds
noncomputable def m__law_move : MS := (sSeq (sFor (iVal (eVar 1)) (gTup 3 (gCons (gName 2) (gCons (gName 3) (gCons (gName 4) gNil))))
 (sIf (tB (eOp fEq (eProp [12, 13, 14, 17] f_Machine_now (eVar 0)) (eVar 2)))
 (sSeq (sSetO [12, 13, 14, 17] f_Machineu_setitemu (eVar 0) (eVar 3) (eVar 4))
 (sRet (eC (.bl true))))
 sNext))
 (sRet (eC (.bl false))))
noncomputable def f__law_move : List U → Sto → R U := runF 5 m__law_move
noncomputable def m_copy_service_K : MS := (sRet (eMk 13 5 f_Serviceu_initu [] (aCons (eUn (fFld [12, 13, 14, 17, 18] "size") (eVar 0)) (aCons (eUn (fFld [12, 13, 14, 17] "marks") (eVar 0)) (aCons (eUn (fFld [12, 13, 14, 17] "steps") (eVar 0)) (aCons (eVar 1) aNil))))))
noncomputable def f_copy_service_K : List U → Sto → R U := runK 2 m_copy_service_K
noncomputable def m_Lotu_getitemu_K : MS := (sSeq (sIf (tOr (tB (eOp (fI (gCmp fun i j => decide (i < j))) (eVar 1) (eC (.int 0)))) (tOr (tB (eOp (fI (gCmp fun i j => decide (j ≤ i))) (eVar 1) (eCB fLen (aCons (eUn (fFld [15, 16] "members") (eVar 0)) aNil)))) (tB (eOp fEq (eOp fIxX (eUn (fFld [15, 16] "places") (eVar 0)) (eVar 1)) (eC (.int (-1)))))))
 (sRaise 5 ["number"] (aCons (eVar 1) aNil))
 sNext)
 (sRet (eCall 2 f_copy_service_K [] (aCons (eOp fIxX (eUn (fFld [15, 16] "members") (eVar 0)) (eVar 1)) (aCons (eOp fIxX (eUn (fFld [15, 16] "places") (eVar 0)) (eVar 1)) aNil)))))
noncomputable def f_Lotu_getitemu_K : List U → Sto → R U := runK 2 m_Lotu_getitemu_K
noncomputable def m_law_5 : MS := (sSeq (sAsg (eCall 3 f__law_draws [] (aCons (eVar 0) (aCons (eC (.int 0)) (aCons (eC (.int 8)) aNil)))) (gName 1))
 (sSeq (sAsg (eCB fSorted (aCons (eLcV [10] (iVal (eCall 2 f__law_asks [] (aCons (eCall 3 f__law_draws [] (aCons (eVar 0) (aCons (eC (.int 1)) (aCons (eC (.int 13)) aNil)))) (aCons (eOp fAdd (eC (.int 1)) (eOp (fI gMod) (eCB fInt (aCons (eOp fIxX (eVar 1) (eC (.int 1))) aNil)) (eC (.int 3)))) aNil)))) (gName 10) tYesM (eCB fStr (aCons (eVar 10) aNil))) aNil)) (gName 2))
 (sSeq (sAsg (eCall 4 f__law_lot [] (aCons (eVar 0) (aCons (eVar 2) (aCons (eOp (fI gMod) (eCB fInt (aCons (eOp fIxX (eVar 1) (eC (.int 2))) aNil)) (eC (.int 6))) (aCons (eOp fEq (eOp (fI gMod) (eCB fInt (aCons (eOp fIxX (eVar 1) (eC (.int 3))) aNil)) (eC (.int 2))) (eC (.int 0))) aNil))))) (gName 3))
 (sSeq (sAsg (eLcS [9] (iVal (eVar 3)) (gName 9) tYesM (eCall 1 f__law_service [] (aCons (eVar 9) aNil))) (gName 4))
 (sSeq (sAsg (eCall 1 f__law_put [] (aCons (eVar 4) aNil)) (gName 5))
 (sSeq (sAsg (eCall 1 f__law_put [] (aCons (eVar 4) aNil)) (gName 6))
 (sSeq (sIf (tOr (tNot (tB (eCall 2 f__law_lot_holds [] (aCons (eVar 5) (aCons (eVar 3) aNil))))) (tNot (tB (eCall 2 f__law_lot_holds [] (aCons (eVar 6) (aCons (eVar 3) aNil))))))
 (sRet (eC (.bl false)))
 sNext)
 (sSeq (sFor (iRng1 (aCons (eCB fLen (aCons (eVar 3) aNil)) aNil)) (gName 7)
 (sSeq (sExpr (eCall 2 f__law_move [] (aCons (eOp fIxX (eVar 4) (eVar 7)) (aCons (eOp fIxX (eOp fIxX (eVar 3) (eVar 7)) (eC (.int 2))) aNil))))
 (sSeq (sAsg (eIxO [15] f_Lotu_getitemu_K (eVar 5) (eVar 7)) (gName 8))
 (sExpr (eCall 2 f__law_move [] (aCons (eVar 8) (aCons (eOp fIxX (eOp fIxX (eVar 3) (eVar 7)) (eC (.int 2))) aNil)))))))
 (sRet (eAnd (eCall 2 f__law_lot_holds [] (aCons (eVar 5) (aCons (eVar 3) aNil))) (eCall 2 f__law_lot_holds [] (aCons (eVar 6) (aCons (eVar 3) aNil)))))))))))))
noncomputable def f_law_5 : List U → Sto → R U := runF 11 m_law_5
end Mi
namespace Mi
open PySem L2 Pu
end Mi
namespace Mi
open PySem L2 Pu
noncomputable def m__law_random : MS := (sSeq (sAsg (eOp fAdd (eC (.int 1)) (eOp (fI gMod) (eCB fInt (aCons (eOp fIxX (eVar 0) (eC (.int 0))) aNil)) (eC (.int 4)))) (gName 2))
 (sSeq (sAsg (eCB fLstS aNil) (gName 3))
 (sSeq (sFor (iRng1 (aCons (eVar 2) aNil)) (gName 4)
 (sFor (iRng1 (aCons (eCB fLen (aCons (eVar 1) aNil)) aNil)) (gName 5)
 (sSeq (sAsg (eOp fIxX (eVar 0) (eOp (fI gMod) (eCB fInt (aCons (eOp fAdd (eOp fAdd (eC (.int 4)) (eOp (fI gMul) (eVar 4) (eCB fLen (aCons (eVar 1) aNil)))) (eVar 5)) aNil)) (eCB fLen (aCons (eVar 0) aNil)))) (gName 6))
 (sFor (iRng1 (aCons (eVar 2) aNil)) (gName 7)
 (sIf (tOr (tB (eOp fEq (eOp (fI gMod) (eCB fInt (aCons (eVar 6) aNil)) (eOp fAdd (eVar 2) (eC (.int 2)))) (eVar 7))) (tAnd (tB (eOp (fI (gCmp fun i j => decide (j ≤ i))) (eVar 6) (eC (.int 58)))) (tB (eOp fEq (eOp (fI gMod) (eCB fInt (aCons (eOp fAdd (eVar 6) (eVar 7)) aNil)) (eC (.int 2))) (eC (.int 0))))))
 (sExpr (eMtT isL fAppend (eVar 3) (aCons (eCB fTup (aCons (eVar 4) (aCons (eOp fIxX (eVar 1) (eVar 5)) (aCons (eVar 7) aNil)))) aNil)))
 sNext)))))
 (sRet (eCB fTup (aCons (eVar 2) (aCons (eCall 2 f__law_marks [] (aCons (eOp fIxX (eVar 0) (eC (.int 1))) (aCons (eVar 2) aNil))) (aCons (eFz (eVar 3)) (aCons (eOp (fI gMod) (eCB fInt (aCons (eOp fIxX (eVar 0) (eC (.int 2))) aNil)) (eVar 2)) aNil)))))))))
noncomputable def f__law_random : List U → Sto → R U := runF 8 m__law_random
noncomputable def m__law_client : MS := (sRet (eMk 14 5 f_Patternu_initu [] (aCons (eOp fIxX (eVar 0) (eC (.int 0))) (aCons (eCB fListX (aCons (eOp fIxX (eVar 0) (eC (.int 1))) aNil)) (aCons (eCB fListX (aCons (eOp fIxX (eVar 0) (eC (.int 2))) aNil)) (aCons (eOp fIxX (eVar 0) (eC (.int 3))) aNil))))))
noncomputable def f__law_client : List U → Sto → R U := runF 1 m__law_client
noncomputable def m__law_pairs : MS := (sSeq (sAsg (eCB fDicS aNil) (gName 2))
 (sSeq (sFor (iVal (eOp fIxX (eVar 0) (eC (.int 2)))) (gName 3)
 (sSet (eVar 2) (eVar 3) (eC (.bl true))))
 (sSeq (sAsg (eCB fLstS aNil) (gName 4))
 (sSeq (sFor (iRng1 (aCons (eOp fIxX (eVar 0) (eC (.int 0))) aNil)) (gName 5)
 (sSeq (sAsg (eCB fLstV aNil) (gName 6))
 (sSeq (sFor (iVal (eVar 1)) (gName 7)
 (sAsg (eOp fAdd (eVar 6) (eLcV [8] (iRng1 (aCons (eOp fIxX (eVar 0) (eC (.int 0))) aNil)) (gName 8) (tB (eOp (fInX false) (eCB fTup (aCons (eVar 5) (aCons (eVar 7) (aCons (eVar 8) aNil)))) (eVar 2))) (eCB fTup (aCons (eVar 7) (aCons (eVar 8) aNil))))) (gName 6)))
 (sExpr (eMtT isL fAppend (eVar 4) (aCons (eVar 6) aNil))))))
 (sRet (eVar 4))))))
noncomputable def f__law_pairs : List U → Sto → R U := runF 9 m__law_pairs
noncomputable def m_pairs_by_state : MS := (sSeq (sAsg (eLcS [2] (iRng1 (aCons (eUn (fFld [12, 13, 14, 17, 18] "size") (eVar 0)) aNil)) (gName 2) tYesM (eCB fTup aNil)) (gName 1))
 (sSeq (sFor (iVal (eUn (fFld [12, 13, 14, 17] "steps") (eVar 0))) (gTup 3 (gCons (gName 2) (gCons (gName 3) (gCons (gName 4) gNil))))
 (sSet (eVar 1) (eVar 2) (eOp fAdd (eOp fIxX (eVar 1) (eVar 2)) (eCB fTup (aCons (eCB fTup (aCons (eVar 3) (aCons (eVar 4) aNil))) aNil)))))
 (sRet (eVar 1))))
noncomputable def f_pairs_by_state : List U → Sto → R U := runF 5 m_pairs_by_state
end Mi
namespace Mi
open PySem L2 Pu
end Mi
namespace Mi
open PySem L2 Pu
noncomputable def m__law_is_pair : MS := (sRet (eAnd (eCB fIsi (aCons (eVar 0) (aCons (eC (.ty "tuple")) aNil))) (eAnd (eOp fEq (eCB fLen (aCons (eVar 0) aNil)) (eC (.int 2))) (eAnd (eCB fIsi (aCons (eOp fIxX (eVar 0) (eC (.int 0))) (aCons (eC (.ty "str")) aNil))) (eCall 1 f__law_whole [] (aCons (eOp fIxX (eVar 0) (eC (.int 1))) aNil))))))
noncomputable def f__law_is_pair : List U → Sto → R U := runF 1 m__law_is_pair
end Mi
namespace Mi
open PySem L2 Pu
noncomputable def m__law_all_rows : MS := (sSeq (sAsg (eCB fLstV (aCons (eCB fTup aNil) aNil)) (gName 3))
 (sSeq (sAsg (eCB fLstV (aCons (eCB fTup aNil) aNil)) (gName 4))
 (sSeq (sAsg (eC (.int 0)) (gName 5))
 (sSeq (sFor (iRng1 (aCons (eVar 2) aNil)) (gName 6)
 (sIf (tB (eOp (fI (gCmp fun i j => decide (i < j))) (eCB fLen (aCons (eVar 3) aNil)) (eC (.int 150))))
 (sSeq (sAsg (eCB fLstV aNil) (gName 7))
 (sSeq (sFor (iVal (eVar 4)) (gName 8)
 (sSeq (sAsg (eVar 1) (gName 9))
 (sSeq (sIf (tB (eOp (fI (gCmp fun i j => decide (j < i))) (eCB fLen (aCons (eVar 8) aNil)) (eC (.int 0))))
 (sAsg (eOp fIxX (eOp fIxX (eVar 8) (eUn fNeg (eC (.int 1)))) (eC (.int 1))) (gName 9))
 sNext)
 (sAsg (eOp fAdd (eVar 7) (eLcV [10] (iVal (eOp fIxX (eVar 0) (eVar 9))) (gName 10) tYesM (eOp fAdd (eVar 8) (eCB fTup (aCons (eVar 10) aNil))))) (gName 7)))))
 (sSeq (sAsg (eOp fAdd (eVar 3) (eVar 7)) (gName 3))
 (sSeq (sAsg (eVar 7) (gName 4))
 (sAsg (eOp fAdd (eVar 5) (eC (.int 1))) (gName 5))))))
 sNext))
 (sRet (eCB fTup (aCons (eVar 5) (aCons (eVar 3) aNil))))))))
noncomputable def f__law_all_rows : List U → Sto → R U := runF 11 m__law_all_rows
noncomputable def m_ask_rows : MGn := (gSq (gPl (sIf (tOr (tB (eOp (fI (gCmp fun i j => decide (i < j))) (eVar 1) (eC (.int 0)))) (tB (eOp (fI (gCmp fun i j => decide (j < i))) (eVar 1) (eC (.int (8))))))
 (sRaise 7 ["count"] (aCons (eVar 1) aNil))
 sNext))
 (gSq (gPl (sAsg (eCall 1 f_pairs_by_state [] (aCons (eVar 0) aNil)) (gName 2)))
 (gSq (gPl (sAsg (eCB fLstV (aCons (eCB fTup (aCons (eCB fTup aNil) (aCons (eProp [12, 13, 14, 17] f_Machine_now (eVar 0)) aNil))) aNil)) (gName 3)))
 (gSq (gFor (iRng1 (aCons (eOp fAdd (eVar 1) (eC (.int 1))) aNil)) (gName 4)
 (gSq (gFor (iVal (eVar 3)) (gTup 2 (gCons (gName 5) (gCons (gName 6) gNil)))
 (gSq (gYd (eVar 5))
 gNx))
 (gSq (gPl (sIf (tB (eOp (fI (gCmp fun i j => decide (i < j))) (eVar 4) (eVar 1)))
 (sAsg (eL2 kfV [5, 6, 7] [7] (iVal (eVar 3)) (gTup 2 (gCons (gName 5) (gCons (gName 6) gNil))) tYesM (iVal (eOp fIxX (eVar 2) (eVar 6))) (gName 7) tYesM (eCB fTup (aCons (eOp fAdd (eVar 5) (eCB fTup (aCons (eVar 7) aNil))) (aCons (eOp fIxX (eVar 7) (eC (.int 1))) aNil)))) (gName 3))
 sNext))
 gNx)))
 gNx))))
noncomputable def f_ask_rows : List U → Sto → Option (List D × Sto) := runG 8 m_ask_rows
noncomputable def m__law_is_row : MS := (sRet (eAnd (eCB fIsi (aCons (eVar 0) (aCons (eC (.ty "tuple")) aNil))) (eCB fAll (aCons (eLcV [1] (iVal (eVar 0)) (gName 1) tYesM (eCall 1 f__law_is_pair [] (aCons (eVar 1) aNil))) aNil))))
noncomputable def f__law_is_row : List U → Sto → R U := runF 2 m__law_is_row
noncomputable def m_law_38 : MS := (sSeq (sAsg (eCall 3 f__law_draws [] (aCons (eVar 0) (aCons (eC (.int 0)) (aCons (eC (.int 8)) aNil)))) (gName 1))
 (sSeq (sAsg (eCall 2 f__law_asks [] (aCons (eCall 3 f__law_draws [] (aCons (eVar 0) (aCons (eC (.int 1)) (aCons (eC (.int 13)) aNil)))) (aCons (eOp fAdd (eC (.int 1)) (eOp (fI gMod) (eCB fInt (aCons (eOp fIxX (eVar 1) (eC (.int 1))) aNil)) (eC (.int 3)))) aNil))) (gName 2))
 (sSeq (sAsg (eCB fSorted (aCons (eLcV [11] (iVal (eVar 2)) (gName 11) tYesM (eCB fStr (aCons (eVar 11) aNil))) aNil)) (gName 3))
 (sSeq (sAsg (eCall 2 f__law_random [] (aCons (eCall 3 f__law_draws [] (aCons (eVar 0) (aCons (eC (.int 2)) (aCons (eC (.int 24)) aNil)))) (aCons (eVar 3) aNil))) (gName 4))
 (sSeq (sAsg (eCall 2 f__law_pairs [] (aCons (eVar 4) (aCons (eVar 3) aNil))) (gName 5))
 (sSeq (sAsg (eCall 3 f__law_all_rows [] (aCons (eVar 5) (aCons (eOp fIxX (eVar 4) (eC (.int 3))) (aCons (eOp (fI gMod) (eCB fInt (aCons (eOp fIxX (eVar 1) (eC (.int 2))) aNil)) (eC (.int 9))) aNil)))) (gTup 2 (gCons (gName 8) (gCons (gName 9) gNil))))
 (sSeq (sAsg (eCall 1 f__law_client [] (aCons (eVar 4) aNil)) (gName 6))
 (sSeq (sFor (iRng1 (aCons (eC (.int 2)) aNil)) (gName 7)
 (sSeq (sAsg (eLcG 2 f_ask_rows (aCons (eVar 6) (aCons (eVar 8) aNil))) (gName 10))
 (sIf (tOr (tNot (tB (eCB fAll (aCons (eLcV [12] (iVal (eVar 10)) (gName 12) tYesM (eCall 1 f__law_is_row [] (aCons (eVar 12) aNil))) aNil)))) (tB (eOp fNe (eVar 10) (eVar 9))))
 (sRet (eC (.bl false)))
 sNext)))
 (sRet (eOp fEq (eProp [12, 13, 14, 17] f_Machine_now (eVar 6)) (eOp fIxX (eVar 4) (eC (.int 3)))))))))))))
noncomputable def f_law_38 : List U → Sto → R U := runF 13 m_law_38
end Mi
namespace K04
open PySem L2 Pu Mi
open PyProof.Rows hiding St
theorem q65 : FnScope ["_law_script", "_law_k"] ["_law_script", "_law_k"] (defScope q16) := ⟨rfl, rfl, rfl, by decide +kernel, rfl, by decide +kernel, by decide +kernel⟩
theorem q3u : Vis (defScope q16) "_law_k" := by unfold Vis; decide +kernel
theorem q3v : Vis (defScope q16) "_law_script" := by unfold Vis; decide +kernel
theorem q66 : (defScope q16).names.lookup ("len" : Str) = some .globalImplicit := by decide +kernel
theorem q1i : FnScope ["_law_script", "_law_k", "_law_many", "_law_cell_here", "_law_row", "_law_seed", "_law_turn", "_law_rest"] ["_law_script", "_law_k", "_law_many"] (defScope qh) := ⟨rfl, rfl, rfl, by decide +kernel, rfl, by decide +kernel, by decide +kernel⟩
theorem q67 : Vis (defScope qh) "_law_script" := by unfold Vis; decide +kernel
theorem q3w : Vis (defScope qh) "_law_k" := by unfold Vis; decide +kernel
theorem q2z : Vis (defScope qh) "_law_cell_here" := by unfold Vis; decide +kernel
theorem q3x : Vis (defScope qh) "_law_many" := by unfold Vis; decide +kernel
theorem q2q : Vis (defScope qh) "_law_row" := by unfold Vis; decide +kernel
theorem q3y : Vis (defScope qh) "_law_rest" := by unfold Vis; decide +kernel
theorem q3z : Vis (defScope qh) "_law_seed" := by unfold Vis; decide +kernel
theorem q68 : Vis (defScope qh) "_law_turn" := by unfold Vis; decide +kernel
theorem q69 : L2.Loc (defScope qh) "_law_cell_here" := by unfold L2.Loc; decide +kernel
theorem q6a : L2.Loc (defScope qh) "_law_row" := by unfold L2.Loc; decide +kernel
theorem q40 : L2.Loc (defScope qh) "_law_rest" := by unfold L2.Loc; decide +kernel
theorem q41 : L2.Loc (defScope qh) "_law_turn" := by unfold L2.Loc; decide +kernel
theorem q42 : L2.Loc (defScope qh) "_law_seed" := by unfold L2.Loc; decide +kernel
theorem q6b : (defScope qh).names.lookup ("_law_cell" : Str) = some .globalImplicit := by decide +kernel
theorem q43 : (defScope qh).names.lookup ("range" : Str) = some .globalImplicit := by decide +kernel
theorem q2r : (defScope qh).names.lookup ("int" : Str) = some .globalImplicit := by decide +kernel
theorem q19 : FnScope ["_law_row", "_law_many", "_law_letters", "_law_word", "_law_asks_here", "_law_at", "_law_size", "_law_place", "_law_jump", "_law_letter", "_law_digit"] ["_law_row", "_law_many"] (defScope q8) := ⟨rfl, rfl, rfl, by decide +kernel, rfl, by decide +kernel, by decide +kernel⟩
theorem q1k : Vis (defScope q8) "_law_row" := by unfold Vis; decide +kernel
theorem q6c : Vis (defScope q8) "_law_many" := by unfold Vis; decide +kernel
theorem q44 : Vis (defScope q8) "_law_at" := by unfold Vis; decide +kernel
theorem q30 : Vis (defScope q8) "_law_asks_here" := by unfold Vis; decide +kernel
theorem q31 : Vis (defScope q8) "_law_word" := by unfold Vis; decide +kernel
theorem q32 : Vis (defScope q8) "_law_size" := by unfold Vis; decide +kernel
theorem q6d : Vis (defScope q8) "_law_letters" := by unfold Vis; decide +kernel
theorem q6e : Vis (defScope q8) "_law_jump" := by unfold Vis; decide +kernel
theorem q45 : Vis (defScope q8) "_law_place" := by unfold Vis; decide +kernel
theorem q6f : Vis (defScope q8) "_law_letter" := by unfold Vis; decide +kernel
theorem q6g : L2.Loc (defScope q8) "_law_letters" := by unfold L2.Loc; decide +kernel
theorem q6h : L2.Loc (defScope q8) "_law_word" := by unfold L2.Loc; decide +kernel
theorem q6i : L2.Loc (defScope q8) "_law_asks_here" := by unfold L2.Loc; decide +kernel
theorem q6j : L2.Loc (defScope q8) "_law_at" := by unfold L2.Loc; decide +kernel
theorem q46 : L2.Loc (defScope q8) "_law_size" := by unfold L2.Loc; decide +kernel
theorem q6k : L2.Loc (defScope q8) "_law_place" := by unfold L2.Loc; decide +kernel
theorem q6l : L2.Loc (defScope q8) "_law_jump" := by unfold L2.Loc; decide +kernel
theorem q6m : L2.Loc (defScope q8) "_law_letter" := by unfold L2.Loc; decide +kernel
theorem q6n : (defScope q8).names.lookup ("range" : Str) = some .globalImplicit := by decide +kernel
theorem q1n : (defScope q8).names.lookup ("int" : Str) = some .globalImplicit := by decide +kernel
theorem q33 : FnScope ["_law_digit", "_law_size", "_law_state"] ["_law_digit", "_law_size"] (defScope q17) := ⟨rfl, rfl, rfl, by decide +kernel, rfl, by decide +kernel, by decide +kernel⟩
theorem q6o : Vis (defScope q17) "_law_size" := by unfold Vis; decide +kernel
theorem q6p : (defScope q17).names.lookup ("range" : Str) = some .globalImplicit := by decide +kernel
theorem q1l : FnScope ["_law_row", "_law_asks_here", "_law_size", "_law_steps", "_law_state", "_law_j", "_law_digit", "_law_way"] ["_law_row", "_law_asks_here"] (defScope qf) := ⟨rfl, rfl, rfl, by decide +kernel, rfl, by decide +kernel, by decide +kernel⟩
theorem q2h : Vis (defScope qf) "_law_row" := by unfold Vis; decide +kernel
theorem q1o : Vis (defScope qf) "_law_size" := by unfold Vis; decide +kernel
theorem q34 : Vis (defScope qf) "_law_asks_here" := by unfold Vis; decide +kernel
theorem q47 : Vis (defScope qf) "_law_state" := by unfold Vis; decide +kernel
theorem q48 : Vis (defScope qf) "_law_j" := by unfold Vis; decide +kernel
theorem q35 : Vis (defScope qf) "_law_digit" := by unfold Vis; decide +kernel
theorem q36 : Vis (defScope qf) "_law_way" := by unfold Vis; decide +kernel
theorem q49 : Vis (defScope qf) "_law_steps" := by unfold Vis; decide +kernel
theorem q6q : L2.Loc (defScope qf) "_law_size" := by unfold L2.Loc; decide +kernel
theorem q6r : L2.Loc (defScope qf) "_law_steps" := by unfold L2.Loc; decide +kernel
theorem q6s : L2.Loc (defScope qf) "_law_state" := by unfold L2.Loc; decide +kernel
theorem q6t : L2.Loc (defScope qf) "_law_j" := by unfold L2.Loc; decide +kernel
theorem q6u : L2.Loc (defScope qf) "_law_digit" := by unfold L2.Loc; decide +kernel
theorem q6v : L2.Loc (defScope qf) "_law_way" := by unfold L2.Loc; decide +kernel
theorem q2i : (defScope qf).names.lookup ("int" : Str) = some .globalImplicit := by decide +kernel
theorem q37 : (defScope qf).names.lookup ("range" : Str) = some .globalImplicit := by decide +kernel
theorem q38 : (defScope qf).names.lookup ("len" : Str) = some .globalImplicit := by decide +kernel
theorem q6w : (defScope qf).names.lookup ("_law_marks" : Str) = some .globalImplicit := by decide +kernel
theorem q1g : FnScope ["_law_plain", "_law_asks_here", "_law_there", "_law_step", "_law_pairs_here", "_law_state", "_law_row", "_law_ask", "_law_way"] ["_law_plain", "_law_asks_here"] (defScope qp) := ⟨rfl, rfl, rfl, by decide +kernel, rfl, by decide +kernel, by decide +kernel⟩
theorem q39 : Vis (defScope qp) "_law_plain" := by unfold Vis; decide +kernel
theorem q6x : Vis (defScope qp) "_law_there" := by unfold Vis; decide +kernel
theorem q6y : Vis (defScope qp) "_law_step" := by unfold Vis; decide +kernel
theorem q6z : Vis (defScope qp) "_law_asks_here" := by unfold Vis; decide +kernel
theorem q4a : Vis (defScope qp) "_law_row" := by unfold Vis; decide +kernel
theorem q4b : Vis (defScope qp) "_law_pairs_here" := by unfold Vis; decide +kernel
theorem q70 : L2.Loc (defScope qp) "_law_there" := by unfold L2.Loc; decide +kernel
theorem q71 : L2.Loc (defScope qp) "_law_step" := by unfold L2.Loc; decide +kernel
theorem q72 : L2.Loc (defScope qp) "_law_pairs_here" := by unfold L2.Loc; decide +kernel
theorem q73 : L2.Loc (defScope qp) "_law_state" := by unfold L2.Loc; decide +kernel
theorem q4c : L2.Loc (defScope qp) "_law_row" := by unfold L2.Loc; decide +kernel
theorem q74 : L2.Loc (defScope qp) "_law_ask" := by unfold L2.Loc; decide +kernel
theorem q4d : (defScope qp).names.lookup ("range" : Str) = some .globalImplicit := by decide +kernel
theorem q13 : FnScope ["_law_pairs_here", "_law_here", "_law_top", "_law_rows", "_law_level", "_law_size", "_law_turn", "_law_longer", "_law_row", "_law_state", "_law_pair"] ["_law_pairs_here", "_law_here", "_law_top"] (defScope q9) := ⟨rfl, rfl, rfl, by decide +kernel, rfl, by decide +kernel, by decide +kernel⟩
theorem q75 : Vis (defScope q9) "_law_top" := by unfold Vis; decide +kernel
theorem q3a : Vis (defScope q9) "_law_rows" := by unfold Vis; decide +kernel
theorem q76 : Vis (defScope q9) "_law_level" := by unfold Vis; decide +kernel
theorem q77 : Vis (defScope q9) "_law_here" := by unfold Vis; decide +kernel
theorem q4e : Vis (defScope q9) "_law_row" := by unfold Vis; decide +kernel
theorem q3b : Vis (defScope q9) "_law_longer" := by unfold Vis; decide +kernel
theorem q78 : Vis (defScope q9) "_law_pairs_here" := by unfold Vis; decide +kernel
theorem q79 : Vis (defScope q9) "_law_state" := by unfold Vis; decide +kernel
theorem q4f : Vis (defScope q9) "_law_size" := by unfold Vis; decide +kernel
theorem q4g : L2.Loc (defScope q9) "_law_rows" := by unfold L2.Loc; decide +kernel
theorem q4h : L2.Loc (defScope q9) "_law_level" := by unfold L2.Loc; decide +kernel
theorem q4i : L2.Loc (defScope q9) "_law_size" := by unfold L2.Loc; decide +kernel
theorem q7a : L2.Loc (defScope q9) "_law_turn" := by unfold L2.Loc; decide +kernel
theorem q4j : L2.Loc (defScope q9) "_law_longer" := by unfold L2.Loc; decide +kernel
theorem q7b : L2.Loc (defScope q9) "_law_row" := by unfold L2.Loc; decide +kernel
theorem q4k : L2.Loc (defScope q9) "_law_state" := by unfold L2.Loc; decide +kernel
theorem q7c : (defScope q9).names.lookup ("range" : Str) = some .globalImplicit := by decide +kernel
theorem q4l : (defScope q9).names.lookup ("len" : Str) = some .globalImplicit := by decide +kernel
theorem q7d : SupScope ["self", "part"] (defScope q1b) := ⟨rfl, rfl, rfl, by decide +kernel, by decide +kernel, by decide +kernel, by decide +kernel, by decide +kernel, by decide +kernel⟩
theorem q7e : SupScope ["self", "size"] (defScope q1c) := ⟨rfl, rfl, rfl, by decide +kernel, by decide +kernel, by decide +kernel, by decide +kernel, by decide +kernel, by decide +kernel⟩
theorem q3c : FnScope ["ask", "sign"] ["ask"] (defScope q11) := ⟨rfl, rfl, rfl, by decide +kernel, rfl, by decide +kernel, by decide +kernel⟩
theorem q3d : Vis (defScope q11) "ask" := by unfold Vis; decide +kernel
theorem q4m : (defScope q11).names.lookup ("len" : Str) = some .globalImplicit := by decide +kernel
theorem q7f : (defScope q11).names.lookup ("MOST_SIGNS" : Str) = some .globalImplicit := by decide +kernel
theorem q7g : (defScope q11).names.lookup ("all" : Str) = some .globalImplicit := by decide +kernel
theorem q2j : FnScope ["size", "marks", "steps", "mark", "state", "ask", "end"] ["size", "marks", "steps"] (defScope qo) := ⟨rfl, rfl, rfl, by decide +kernel, rfl, by decide +kernel, by decide +kernel⟩
theorem q1p : Vis (defScope qo) "size" := by unfold Vis; decide +kernel
theorem q7h : Vis (defScope qo) "marks" := by unfold Vis; decide +kernel
theorem q4n : Vis (defScope qo) "mark" := by unfold Vis; decide +kernel
theorem q7i : Vis (defScope qo) "steps" := by unfold Vis; decide +kernel
theorem q4o : Vis (defScope qo) "state" := by unfold Vis; decide +kernel
theorem q4p : Vis (defScope qo) "end" := by unfold Vis; decide +kernel
theorem q7j : Vis (defScope qo) "ask" := by unfold Vis; decide +kernel
theorem q7k : L2.Loc (defScope qo) "mark" := by unfold L2.Loc; decide +kernel
theorem q7l : L2.Loc (defScope qo) "state" := by unfold L2.Loc; decide +kernel
theorem q7m : L2.Loc (defScope qo) "ask" := by unfold L2.Loc; decide +kernel
theorem q7n : L2.Loc (defScope qo) "end" := by unfold L2.Loc; decide +kernel
theorem q3e : (defScope qo).names.lookup ("BadMachine" : Str) = some .globalImplicit := by decide +kernel
theorem q7o : (defScope qo).names.lookup ("MOST_STATES" : Str) = some .globalImplicit := by decide +kernel
theorem q7p : (defScope qo).names.lookup ("TooLarge" : Str) = some .globalImplicit := by decide +kernel
theorem q7q : (defScope qo).names.lookup ("is_ask" : Str) = some .globalImplicit := by decide +kernel
theorem q1j : FnScope ["rows", "ordered", "row", "low", "high", "middle"] ["rows"] (defScope qu) := ⟨rfl, rfl, rfl, by decide +kernel, rfl, by decide +kernel, by decide +kernel⟩
theorem q7r : Vis (defScope qu) "rows" := by unfold Vis; decide +kernel
theorem q1q : Vis (defScope qu) "ordered" := by unfold Vis; decide +kernel
theorem q2k : Vis (defScope qu) "low" := by unfold Vis; decide +kernel
theorem q4q : Vis (defScope qu) "high" := by unfold Vis; decide +kernel
theorem q3f : Vis (defScope qu) "middle" := by unfold Vis; decide +kernel
theorem q3g : Vis (defScope qu) "row" := by unfold Vis; decide +kernel
theorem q7s : L2.Loc (defScope qu) "ordered" := by unfold L2.Loc; decide +kernel
theorem q7t : L2.Loc (defScope qu) "row" := by unfold L2.Loc; decide +kernel
theorem q4r : L2.Loc (defScope qu) "low" := by unfold L2.Loc; decide +kernel
theorem q4s : L2.Loc (defScope qu) "high" := by unfold L2.Loc; decide +kernel
theorem q7u : L2.Loc (defScope qu) "middle" := by unfold L2.Loc; decide +kernel
theorem q4t : (defScope qu).names.lookup ("len" : Str) = some .globalImplicit := by decide +kernel
theorem q7v : SupScope ["self", "state"] (defScope q1d) := ⟨rfl, rfl, rfl, by decide +kernel, by decide +kernel, by decide +kernel, by decide +kernel, by decide +kernel, by decide +kernel⟩
theorem q2l : FnScope ["steps", "found", "state", "ask", "end"] ["steps"] (defScope qy) := ⟨rfl, rfl, rfl, by decide +kernel, rfl, by decide +kernel, by decide +kernel⟩
theorem q7w : Vis (defScope qy) "steps" := by unfold Vis; decide +kernel
theorem q3h : Vis (defScope qy) "found" := by unfold Vis; decide +kernel
theorem q4u : Vis (defScope qy) "state" := by unfold Vis; decide +kernel
theorem q4v : Vis (defScope qy) "ask" := by unfold Vis; decide +kernel
theorem q7x : Vis (defScope qy) "end" := by unfold Vis; decide +kernel
theorem q7y : L2.Loc (defScope qy) "found" := by unfold L2.Loc; decide +kernel
theorem q7z : L2.Loc (defScope qy) "state" := by unfold L2.Loc; decide +kernel
theorem q80 : L2.Loc (defScope qy) "ask" := by unfold L2.Loc; decide +kernel
theorem q81 : L2.Loc (defScope qy) "end" := by unfold L2.Loc; decide +kernel
theorem q1r : FnScope ["self", "size", "marks", "steps", "now", "ordered", "state", "ask", "end"] ["self", "size", "marks", "steps", "now"] (defScope qj) := ⟨rfl, rfl, rfl, by decide +kernel, rfl, by decide +kernel, by decide +kernel⟩
theorem q3i : Vis (defScope qj) "size" := by unfold Vis; decide +kernel
theorem q4w : Vis (defScope qj) "marks" := by unfold Vis; decide +kernel
theorem q4x : Vis (defScope qj) "steps" := by unfold Vis; decide +kernel
theorem q2s : Vis (defScope qj) "ordered" := by unfold Vis; decide +kernel
theorem q2t : Vis (defScope qj) "now" := by unfold Vis; decide +kernel
theorem q2m : Vis (defScope qj) "self" := by unfold Vis; decide +kernel
theorem q82 : L2.Loc (defScope qj) "ordered" := by unfold L2.Loc; decide +kernel
theorem q83 : (defScope qj).names.lookup ("check_parts" : Str) = some .globalImplicit := by decide +kernel
theorem q4y : (defScope qj).names.lookup ("in_order" : Str) = some .globalImplicit := by decide +kernel
theorem q4z : (defScope qj).names.lookup ("len" : Str) = some .globalImplicit := by decide +kernel
theorem q84 : (defScope qj).names.lookup ("MOST_STEPS" : Str) = some .globalImplicit := by decide +kernel
theorem q85 : (defScope qj).names.lookup ("TooLarge" : Str) = some .globalImplicit := by decide +kernel
theorem q86 : (defScope qj).names.lookup ("BadState" : Str) = some .globalImplicit := by decide +kernel
theorem q50 : (defScope qj).names.lookup ("tuple" : Str) = some .globalImplicit := by decide +kernel
theorem q87 : (defScope qj).names.lookup ("ends_by_ask" : Str) = some .globalImplicit := by decide +kernel
theorem q88 : SupScope ["self", "size", "marks", "steps", "now"] (defScope q1e) := ⟨rfl, rfl, rfl, by decide +kernel, by decide +kernel, by decide +kernel, by decide +kernel, by decide +kernel, by decide +kernel⟩
theorem q89 : FnScope ["_law_plain"] ["_law_plain"] (defScope q18) := ⟨rfl, rfl, rfl, by decide +kernel, rfl, by decide +kernel, by decide +kernel⟩
theorem q2u : Vis (defScope q18) "_law_plain" := by unfold Vis; decide +kernel
theorem q51 : (defScope q18).names.lookup ("list" : Str) = some .globalImplicit := by decide +kernel
theorem q8a : (defScope q18).names.lookup ("Pattern" : Str) = some .globalImplicit := by decide +kernel
theorem q8b : SupScope ["self", "count"] (defScope q1f) := ⟨rfl, rfl, rfl, by decide +kernel, by decide +kernel, by decide +kernel, by decide +kernel, by decide +kernel, by decide +kernel⟩
theorem q1s : FnScope ["machine", "found", "state", "ask", "end"] ["machine"] (defScope qw) := ⟨rfl, rfl, rfl, by decide +kernel, rfl, by decide +kernel, by decide +kernel⟩
theorem q52 : Vis (defScope qw) "machine" := by unfold Vis; decide +kernel
theorem q3j : Vis (defScope qw) "found" := by unfold Vis; decide +kernel
theorem q53 : Vis (defScope qw) "state" := by unfold Vis; decide +kernel
theorem q8c : Vis (defScope qw) "ask" := by unfold Vis; decide +kernel
theorem q8d : Vis (defScope qw) "end" := by unfold Vis; decide +kernel
theorem q8e : L2.Loc (defScope qw) "state" := by unfold L2.Loc; decide +kernel
theorem q8f : L2.Loc (defScope qw) "ask" := by unfold L2.Loc; decide +kernel
theorem q8g : L2.Loc (defScope qw) "end" := by unfold L2.Loc; decide +kernel
theorem q8h : (defScope qw).names.lookup ("range" : Str) = some .globalImplicit := by decide +kernel
theorem q8i : FnScope ["self"] ["self"] (defScope q1a) := ⟨rfl, rfl, rfl, by decide +kernel, rfl, by decide +kernel, by decide +kernel⟩
theorem q8j : Vis (defScope q1a) "self" := by unfold Vis; decide +kernel
theorem q1h : GScope ["pattern", "length", "pairs", "level", "size", "row", "state", "pair"] ["pattern", "length"] (defScope qk) := ⟨rfl, rfl, rfl, by decide +kernel, rfl, by decide +kernel, by decide +kernel⟩
theorem q2n : Vis (defScope qk) "length" := by unfold Vis; decide +kernel
theorem q54 : Vis (defScope qk) "pattern" := by unfold Vis; decide +kernel
theorem q55 : Vis (defScope qk) "level" := by unfold Vis; decide +kernel
theorem q8k : Vis (defScope qk) "row" := by unfold Vis; decide +kernel
theorem q8l : Vis (defScope qk) "size" := by unfold Vis; decide +kernel
theorem q8m : L2.Loc (defScope qk) "pairs" := by unfold L2.Loc; decide +kernel
theorem q8n : L2.Loc (defScope qk) "level" := by unfold L2.Loc; decide +kernel
theorem q8o : L2.Loc (defScope qk) "size" := by unfold L2.Loc; decide +kernel
theorem q8p : L2.Loc (defScope qk) "row" := by unfold L2.Loc; decide +kernel
theorem q8q : L2.Loc (defScope qk) "state" := by unfold L2.Loc; decide +kernel
theorem q8r : (defScope qk).names.lookup ("LONGEST_ROW" : Str) = some .globalImplicit := by decide +kernel
theorem q8s : (defScope qk).names.lookup ("BadCount" : Str) = some .globalImplicit := by decide +kernel
theorem q8t : (defScope qk).names.lookup ("pairs_by_state" : Str) = some .globalImplicit := by decide +kernel
theorem q8u : (defScope qk).names.lookup ("range" : Str) = some .globalImplicit := by decide +kernel
theorem q8v : FnScope ["_law_x"] ["_law_x"] (defScope q15) := ⟨rfl, rfl, rfl, by decide +kernel, rfl, by decide +kernel, by decide +kernel⟩
theorem q56 : Vis (defScope q15) "_law_x" := by unfold Vis; decide +kernel
theorem q8w : (defScope q15).names.lookup ("int" : Str) = some .globalImplicit := by decide +kernel
theorem q57 : (defScope q15).names.lookup ("isinstance" : Str) = some .globalImplicit := by decide +kernel
theorem q8x : (defScope q15).names.lookup ("bool" : Str) = some .globalImplicit := by decide +kernel
theorem q8y : FnScope ["_law_x"] ["_law_x"] (defScope q10) := ⟨rfl, rfl, rfl, by decide +kernel, rfl, by decide +kernel, by decide +kernel⟩
theorem q2v : Vis (defScope q10) "_law_x" := by unfold Vis; decide +kernel
theorem q8z : (defScope q10).names.lookup ("tuple" : Str) = some .globalImplicit := by decide +kernel
theorem q58 : (defScope q10).names.lookup ("isinstance" : Str) = some .globalImplicit := by decide +kernel
theorem q90 : (defScope q10).names.lookup ("len" : Str) = some .globalImplicit := by decide +kernel
theorem q91 : (defScope q10).names.lookup ("str" : Str) = some .globalImplicit := by decide +kernel
theorem q92 : (defScope q10).names.lookup ("_law_whole" : Str) = some .globalImplicit := by decide +kernel
theorem q3k : FnScope ["_law_row", "_law_pair"] ["_law_row"] (defScope q12) := ⟨rfl, rfl, rfl, by decide +kernel, rfl, by decide +kernel, by decide +kernel⟩
theorem q59 : Vis (defScope q12) "_law_row" := by unfold Vis; decide +kernel
theorem q93 : (defScope q12).names.lookup ("tuple" : Str) = some .globalImplicit := by decide +kernel
theorem q94 : (defScope q12).names.lookup ("isinstance" : Str) = some .globalImplicit := by decide +kernel
theorem q95 : (defScope q12).names.lookup ("all" : Str) = some .globalImplicit := by decide +kernel
theorem q14 : FnScope ["_law_script", "_law_shape", "_law_names", "_law_asks_here", "_law_plain", "_law_pairs_here", "_law_pattern", "_law_turn", "_law_size", "_law_due", "_law_rows", "_law_ask", "_law_row"] ["_law_script"] (defScope q5) := ⟨rfl, rfl, rfl, by decide +kernel, rfl, by decide +kernel, by decide +kernel⟩
theorem q3l : Vis (defScope q5) "_law_script" := by unfold Vis; decide +kernel
theorem q5a : Vis (defScope q5) "_law_shape" := by unfold Vis; decide +kernel
theorem q96 : Vis (defScope q5) "_law_names" := by unfold Vis; decide +kernel
theorem q5b : Vis (defScope q5) "_law_asks_here" := by unfold Vis; decide +kernel
theorem q2w : Vis (defScope q5) "_law_plain" := by unfold Vis; decide +kernel
theorem q97 : Vis (defScope q5) "_law_pairs_here" := by unfold Vis; decide +kernel
theorem q5c : Vis (defScope q5) "_law_pattern" := by unfold Vis; decide +kernel
theorem q98 : Vis (defScope q5) "_law_size" := by unfold Vis; decide +kernel
theorem q5d : Vis (defScope q5) "_law_rows" := by unfold Vis; decide +kernel
theorem q99 : Vis (defScope q5) "_law_due" := by unfold Vis; decide +kernel
theorem q9a : L2.Loc (defScope q5) "_law_shape" := by unfold L2.Loc; decide +kernel
theorem q9b : L2.Loc (defScope q5) "_law_names" := by unfold L2.Loc; decide +kernel
theorem q9c : L2.Loc (defScope q5) "_law_asks_here" := by unfold L2.Loc; decide +kernel
theorem q9d : L2.Loc (defScope q5) "_law_plain" := by unfold L2.Loc; decide +kernel
theorem q9e : L2.Loc (defScope q5) "_law_pairs_here" := by unfold L2.Loc; decide +kernel
theorem q9f : L2.Loc (defScope q5) "_law_size" := by unfold L2.Loc; decide +kernel
theorem q9g : L2.Loc (defScope q5) "_law_due" := by unfold L2.Loc; decide +kernel
theorem q9h : L2.Loc (defScope q5) "_law_pattern" := by unfold L2.Loc; decide +kernel
theorem q9i : L2.Loc (defScope q5) "_law_turn" := by unfold L2.Loc; decide +kernel
theorem q3m : (defScope q5).names.lookup ("_law_draws" : Str) = some .globalImplicit := by decide +kernel
theorem q5e : (defScope q5).names.lookup ("int" : Str) = some .globalImplicit := by decide +kernel
theorem q9j : (defScope q5).names.lookup ("_law_asks" : Str) = some .globalImplicit := by decide +kernel
theorem q9k : (defScope q5).names.lookup ("sorted" : Str) = some .globalImplicit := by decide +kernel
theorem q9l : (defScope q5).names.lookup ("_law_random" : Str) = some .globalImplicit := by decide +kernel
theorem q9m : (defScope q5).names.lookup ("_law_pairs" : Str) = some .globalImplicit := by decide +kernel
theorem q9n : (defScope q5).names.lookup ("_law_all_rows" : Str) = some .globalImplicit := by decide +kernel
theorem q9o : (defScope q5).names.lookup ("_law_client" : Str) = some .globalImplicit := by decide +kernel
theorem q9p : (defScope q5).names.lookup ("range" : Str) = some .globalImplicit := by decide +kernel
theorem q9q : (defScope q5).names.lookup ("ask_rows" : Str) = some .globalImplicit := by decide +kernel
theorem q9r : (defScope q5).names.lookup ("all" : Str) = some .globalImplicit := by decide +kernel
structure Facts (K : PySem.W.Frag) (mg : Str → Option Value) : Prop where
 g__law_cell : mg "_law_cell" = some (.ref (He.ga K "_law_cell"))
 g__law_draws : mg "_law_draws" = some (.ref (He.ga K "_law_draws"))
 g__law_asks : mg "_law_asks" = some (.ref (He.ga K "_law_asks"))
 g__law_marks : mg "_law_marks" = some (.ref (He.ga K "_law_marks"))
 g__law_random : mg "_law_random" = some (.ref (He.ga K "_law_random"))
 g__law_pairs : mg "_law_pairs" = some (.ref (He.ga K "_law_pairs"))
 g__law_all_rows : mg "_law_all_rows" = some (.ref (He.ga K "_law_all_rows"))
 g_is_ask : mg "is_ask" = some (.ref (He.ga K "is_ask"))
 g_check_parts : mg "check_parts" = some (.ref (He.ga K "check_parts"))
 g_in_order : mg "in_order" = some (.ref (He.ga K "in_order"))
 g_ends_by_ask : mg "ends_by_ask" = some (.ref (He.ga K "ends_by_ask"))
 g__law_client : mg "_law_client" = some (.ref (He.ga K "_law_client"))
 g_pairs_by_state : mg "pairs_by_state" = some (.ref (He.ga K "pairs_by_state"))
 g_ask_rows : mg "ask_rows" = some (.ref (He.ga K "ask_rows"))
 g__law_whole : mg "_law_whole" = some (.ref (He.ga K "_law_whole"))
 g__law_is_pair : mg "_law_is_pair" = some (.ref (He.ga K "_law_is_pair"))
 g__law_is_row : mg "_law_is_row" = some (.ref (He.ga K "_law_is_row"))
 g_law : mg "law" = some (.ref (He.ga K "law"))
 g_Machine : mg "Machine" = some (.ref (cl K 12))
 c_Machine : Cls K (cl K 12)
 k_Machine : Mk K (cl K 12) (He.ma K (He.ga K "Machine") "__init__")
 g_Pattern : mg "Pattern" = some (.ref (cl K 14))
 c_Pattern : Cls K (cl K 14)
 k_Pattern : Mk K (cl K 14) (He.ma K (He.ga K "Pattern") "__init__")
 f_all : mg "all" = none
 f_bool : mg "bool" = none
 f_int : mg "int" = none
 f_isinstance : mg "isinstance" = none
 f_len : mg "len" = none
 f_list : mg "list" = none
 f_range : mg "range" = none
 f_sorted : mg "sorted" = none
 f_str : mg "str" = none
 f_super : mg "super" = none
 f_tuple : mg "tuple" = none
 i_LETTERS : ∃ t, mg "LETTERS" = some (.str "abcdefghijklmnopqrstuvwxyz" t)
 i_LONGEST_ROW : ∃ t, mg "LONGEST_ROW" = some (.int (8) t)
 i_MOST_SIGNS : ∃ t, mg "MOST_SIGNS" = some (.int (8) t)
 i_MOST_STATES : ∃ t, mg "MOST_STATES" = some (.int (200) t)
 i_MOST_STEPS : ∃ t, mg "MOST_STEPS" = some (.int (600) t)
 na_Machine_ends : NoAttr K (cl K 12) "ends"
 na_Pattern_ends : NoAttr K (cl K 14) "ends"
 na_Machine_marks : NoAttr K (cl K 12) "marks"
 na_Pattern_marks : NoAttr K (cl K 14) "marks"
 na_Machine_place : NoAttr K (cl K 12) "place"
 na_Pattern_place : NoAttr K (cl K 14) "place"
 na_Machine_size : NoAttr K (cl K 12) "size"
 na_Pattern_size : NoAttr K (cl K 14) "size"
 na_Machine_steps : NoAttr K (cl K 12) "steps"
 na_Pattern_steps : NoAttr K (cl K 14) "steps"
 g_BadCount : mg "BadCount" = some (.ref (cl K 7))
 g_BadMachine : mg "BadMachine" = some (.ref (cl K 1))
 g_BadState : mg "BadState" = some (.ref (cl K 2))
 g_TooLarge : mg "TooLarge" = some (.ref (cl K 3))
 pr_Machine_now : PropOf K (cl K 12) "now" (He.ma K (He.ga K "Machine") "now") (Hx.gp K "Machine" "now")
 pr_Pattern_now : PropOf K (cl K 14) "now" (He.ma K (He.ga K "Machine") "now") (Hx.gp K "Machine" "now")
 ox_BadCount : OexC K (cl K 7)
 in_BadCount : PySem.W.findIn K (.ref (cl K 7)) "__init__" = some (some (.ref (He.ma K (He.ga K "BadCount") "__init__"))) ∧ PySem.W.typeIn K (.ref (He.ma K (He.ga K "BadCount") "__init__")) = some (.type "function")
 ox_BadMachine : OexC K (cl K 1)
 in_BadMachine : PySem.W.findIn K (.ref (cl K 1)) "__init__" = some (some (.ref (He.ma K (He.ga K "BadMachine") "__init__"))) ∧ PySem.W.typeIn K (.ref (He.ma K (He.ga K "BadMachine") "__init__")) = some (.type "function")
 ox_BadState : OexC K (cl K 2)
 in_BadState : PySem.W.findIn K (.ref (cl K 2)) "__init__" = some (some (.ref (He.ma K (He.ga K "BadState") "__init__"))) ∧ PySem.W.typeIn K (.ref (He.ma K (He.ga K "BadState") "__init__")) = some (.type "function")
 ox_TooLarge : OexC K (cl K 3)
 in_TooLarge : PySem.W.findIn K (.ref (cl K 3)) "__init__" = some (some (.ref (He.ma K (He.ga K "TooLarge") "__init__"))) ∧ PySem.W.typeIn K (.ref (He.ma K (He.ga K "TooLarge") "__init__")) = some (.type "function")
 xf_BadCount_count : PySem.W.findIn K (.ref (cl K 7)) "count" = some none
 xf_BadMachine_part : PySem.W.findIn K (.ref (cl K 1)) "part" = some none
 xf_BadState_state : PySem.W.findIn K (.ref (cl K 2)) "state" = some none
 xf_TooLarge_size : PySem.W.findIn K (.ref (cl K 3)) "size" = some none
 q1t : ∃ fd, FunD K "_law_cell" "_law_cell" (defArgs q16) (defBody q16) (defScope q16) [] [] (He.ga K "_law_cell") fd
 q1u : ∃ fd, FunD K "_law_draws" "_law_draws" (defArgs qh) (defBody qh) (defScope qh) [] [] (He.ga K "_law_draws") fd
 q1v : ∃ fd, FunD K "_law_asks" "_law_asks" (defArgs q8) (defBody q8) (defScope q8) [] [] (He.ga K "_law_asks") fd
 q1w : ∃ fd, FunD K "_law_marks" "_law_marks" (defArgs q17) (defBody q17) (defScope q17) [] [] (He.ga K "_law_marks") fd
 q1x : ∃ fd, FunD K "_law_random" "_law_random" (defArgs qf) (defBody qf) (defScope qf) [] [] (He.ga K "_law_random") fd
 q1y : ∃ fd, FunD K "_law_pairs" "_law_pairs" (defArgs qp) (defBody qp) (defScope qp) [] [] (He.ga K "_law_pairs") fd
 q1z : ∃ fd, FunD K "_law_all_rows" "_law_all_rows" (defArgs q9) (defBody q9) (defScope q9) [] [] (He.ga K "_law_all_rows") fd
 q20 : ∃ fd, ErrD P0 K "__init__" "BadMachine.__init__" (defArgs q1b) (defBody q1b) (defScope q1b) (cl K 1) (He.ma K (He.ga K "BadMachine") "__init__") fd
 q21 : ∃ fd, ErrD P0 K "__init__" "TooLarge.__init__" (defArgs q1c) (defBody q1c) (defScope q1c) (cl K 3) (He.ma K (He.ga K "TooLarge") "__init__") fd
 q22 : ∃ fd, FunD K "is_ask" "is_ask" (defArgs q11) (defBody q11) (defScope q11) [] [] (He.ga K "is_ask") fd
 q23 : ∃ fd, FunD K "check_parts" "check_parts" (defArgs qo) (defBody qo) (defScope qo) [] [] (He.ga K "check_parts") fd
 q24 : ∃ fd, FunD K "in_order" "in_order" (defArgs qu) (defBody qu) (defScope qu) [] [] (He.ga K "in_order") fd
 q25 : ∃ fd, ErrD P0 K "__init__" "BadState.__init__" (defArgs q1d) (defBody q1d) (defScope q1d) (cl K 2) (He.ma K (He.ga K "BadState") "__init__") fd
 q26 : ∃ fd, FunD K "ends_by_ask" "ends_by_ask" (defArgs qy) (defBody qy) (defScope qy) [] [] (He.ga K "ends_by_ask") fd
 q27 : ∃ fd, FunD K "__init__" "Machine.__init__" (defArgs qj) (defBody qj) (defScope qj) [.int (0)] [] (He.ma K (He.ga K "Machine") "__init__") fd
 q28 : ∃ fd, SupD P0 K "__init__" "Pattern.__init__" (defArgs q1e) (defBody q1e) (defScope q1e) [.int (0)] (cl K 14) (He.ma K (He.ga K "Machine") "__init__") (He.ma K (He.ga K "Pattern") "__init__") fd
 q29 : ∃ fd, FunD K "_law_client" "_law_client" (defArgs q18) (defBody q18) (defScope q18) [] [] (He.ga K "_law_client") fd
 q2a : ∃ fd, ErrD P0 K "__init__" "BadCount.__init__" (defArgs q1f) (defBody q1f) (defScope q1f) (cl K 7) (He.ma K (He.ga K "BadCount") "__init__") fd
 q2b : ∃ fd, FunD K "pairs_by_state" "pairs_by_state" (defArgs qw) (defBody qw) (defScope qw) [] [] (He.ga K "pairs_by_state") fd
 q2c : ∃ fd, FunD K "now" "Machine.now" (defArgs q1a) (defBody q1a) (defScope q1a) [] [] (Hx.gp K "Machine" "now") fd
 q2d : ∃ fd, FunD K "ask_rows" "ask_rows" (defArgs qk) (defBody qk) (defScope qk) [] [] (He.ga K "ask_rows") fd
 q2e : ∃ fd, FunD K "_law_whole" "_law_whole" (defArgs q15) (defBody q15) (defScope q15) [] [] (He.ga K "_law_whole") fd
 q2f : ∃ fd, FunD K "_law_is_pair" "_law_is_pair" (defArgs q10) (defBody q10) (defScope q10) [] [] (He.ga K "_law_is_pair") fd
 q2g : ∃ fd, FunD K "_law_is_row" "_law_is_row" (defArgs q12) (defBody q12) (defScope q12) [] [] (He.ga K "_law_is_row") fd
 q1m : ∃ fd, FunD K "law" "law" (defArgs q5) (defBody q5) (defScope q5) [] [] (He.ga K "law") fd
theorem facts {K : PySem.W.Frag} {h : Heap} {mg : Str → Option Value} (X : K.In h) (Gl : h.Ns mainGlobals mg) (c : Hx.SaysX P0 fa fn fx dx K) : Facts K mg where
 g__law_cell := He.glo_ok X Gl (c.d.fact 0 rfl)
 g__law_draws := He.glo_ok X Gl (c.d.fact 1 rfl)
 g__law_asks := He.glo_ok X Gl (c.d.fact 2 rfl)
 g__law_marks := He.glo_ok X Gl (c.d.fact 3 rfl)
 g__law_random := He.glo_ok X Gl (c.d.fact 4 rfl)
 g__law_pairs := He.glo_ok X Gl (c.d.fact 5 rfl)
 g__law_all_rows := He.glo_ok X Gl (c.d.fact 6 rfl)
 g_is_ask := He.glo_ok X Gl (c.d.fact 7 rfl)
 g_check_parts := He.glo_ok X Gl (c.d.fact 8 rfl)
 g_in_order := He.glo_ok X Gl (c.d.fact 9 rfl)
 g_ends_by_ask := He.glo_ok X Gl (c.d.fact 10 rfl)
 g__law_client := He.glo_ok X Gl (c.d.fact 11 rfl)
 g_pairs_by_state := He.glo_ok X Gl (c.d.fact 12 rfl)
 g_ask_rows := He.glo_ok X Gl (c.d.fact 13 rfl)
 g__law_whole := He.glo_ok X Gl (c.d.fact 14 rfl)
 g__law_is_pair := He.glo_ok X Gl (c.d.fact 15 rfl)
 g__law_is_row := He.glo_ok X Gl (c.d.fact 16 rfl)
 g_law := He.glo_ok X Gl (c.d.fact 17 rfl)
 g_Machine := He.glo_ok X Gl (c.d.fact 18 rfl)
 c_Machine := He.cls_ok (c.d.fact 19 rfl)
 k_Machine := He.mkr_ok (c.d.fact 20 rfl)
 g_Pattern := He.glo_ok X Gl (c.d.fact 21 rfl)
 c_Pattern := He.cls_ok (c.d.fact 22 rfl)
 k_Pattern := He.mkr_ok (c.d.fact 23 rfl)
 f_all := He.free_ok X Gl (c.d.fact 24 rfl)
 f_bool := He.free_ok X Gl (c.d.fact 25 rfl)
 f_int := He.free_ok X Gl (c.d.fact 26 rfl)
 f_isinstance := He.free_ok X Gl (c.d.fact 27 rfl)
 f_len := He.free_ok X Gl (c.d.fact 28 rfl)
 f_list := He.free_ok X Gl (c.d.fact 29 rfl)
 f_range := He.free_ok X Gl (c.d.fact 30 rfl)
 f_sorted := He.free_ok X Gl (c.d.fact 31 rfl)
 f_str := He.free_ok X Gl (c.d.fact 32 rfl)
 f_super := He.free_ok X Gl (c.d.fact 33 rfl)
 f_tuple := He.free_ok X Gl (c.d.fact 34 rfl)
 i_LETTERS := He.str_ok X Gl (c.d.fact 35 rfl)
 i_LONGEST_ROW := He.int_ok X Gl (c.d.fact 36 rfl)
 i_MOST_SIGNS := He.int_ok X Gl (c.d.fact 37 rfl)
 i_MOST_STATES := He.int_ok X Gl (c.d.fact 38 rfl)
 i_MOST_STEPS := He.int_ok X Gl (c.d.fact 39 rfl)
 na_Machine_ends := He.noat_ok (c.d.fact 40 rfl)
 na_Pattern_ends := He.noat_ok (c.d.fact 41 rfl)
 na_Machine_marks := He.noat_ok (c.d.fact 42 rfl)
 na_Pattern_marks := He.noat_ok (c.d.fact 43 rfl)
 na_Machine_place := He.noat_ok (c.d.fact 44 rfl)
 na_Pattern_place := He.noat_ok (c.d.fact 45 rfl)
 na_Machine_size := He.noat_ok (c.d.fact 46 rfl)
 na_Pattern_size := He.noat_ok (c.d.fact 47 rfl)
 na_Machine_steps := He.noat_ok (c.d.fact 48 rfl)
 na_Pattern_steps := He.noat_ok (c.d.fact 49 rfl)
 g_BadCount := He.glo_ok X Gl (c.d.fact 50 rfl)
 g_BadMachine := He.glo_ok X Gl (c.d.fact 51 rfl)
 g_BadState := He.glo_ok X Gl (c.d.fact 52 rfl)
 g_TooLarge := He.glo_ok X Gl (c.d.fact 53 rfl)
 pr_Machine_now := Hx.prop_ok (c.fact 0 rfl)
 pr_Pattern_now := Hx.prop_ok (c.fact 1 rfl)
 ox_BadCount := Hx.oexB_ok (c.fact 2 rfl)
 in_BadCount := Hx.iniB_ok (c.fact 3 rfl)
 ox_BadMachine := Hx.oexB_ok (c.fact 4 rfl)
 in_BadMachine := Hx.iniB_ok (c.fact 5 rfl)
 ox_BadState := Hx.oexB_ok (c.fact 6 rfl)
 in_BadState := Hx.iniB_ok (c.fact 7 rfl)
 ox_TooLarge := Hx.oexB_ok (c.fact 8 rfl)
 in_TooLarge := Hx.iniB_ok (c.fact 9 rfl)
 xf_BadCount_count := He.eqO_ok (c.fact 10 rfl)
 xf_BadMachine_part := He.eqO_ok (c.fact 11 rfl)
 xf_BadState_state := He.eqO_ok (c.fact 12 rfl)
 xf_TooLarge_size := He.eqO_ok (c.fact 13 rfl)
 q1t := c.d.def_ 0 (d := q1t) rfl
 q1u := c.d.def_ 1 (d := q1u) rfl
 q1v := c.d.def_ 2 (d := q1v) rfl
 q1w := c.d.def_ 3 (d := q1w) rfl
 q1x := c.d.def_ 4 (d := q1x) rfl
 q1y := c.d.def_ 5 (d := q1y) rfl
 q1z := c.d.def_ 6 (d := q1z) rfl
 q20 := Hx.DefX.errD (d := q20) (c.def_ 0 rfl).1 (c.def_ 0 rfl).2 rfl rfl (c.fact 14 rfl)
 q21 := Hx.DefX.errD (d := q21) (c.def_ 1 rfl).1 (c.def_ 1 rfl).2 rfl rfl (c.fact 15 rfl)
 q22 := c.d.def_ 7 (d := q22) rfl
 q23 := c.d.def_ 8 (d := q23) rfl
 q24 := c.d.def_ 9 (d := q24) rfl
 q25 := Hx.DefX.errD (d := q25) (c.def_ 2 rfl).1 (c.def_ 2 rfl).2 rfl rfl (c.fact 16 rfl)
 q26 := c.d.def_ 10 (d := q26) rfl
 q27 := c.d.def_ 11 (d := q27) rfl
 q28 := Hx.DefX.supD (d := q28) (c.def_ 3 rfl).1 (c.def_ 3 rfl).2 rfl (c.fact 18 rfl)
 q29 := c.d.def_ 12 (d := q29) rfl
 q2a := Hx.DefX.errD (d := q2a) (c.def_ 4 rfl).1 (c.def_ 4 rfl).2 rfl rfl (c.fact 17 rfl)
 q2b := c.d.def_ 13 (d := q2b) rfl
 q2c := Hx.DefX.funD (d := q2c) (c.def_ 5 rfl).1 (c.def_ 5 rfl).2 rfl
 q2d := c.d.def_ 14 (d := q2d) rfl
 q2e := c.d.def_ 15 (d := q2e) rfl
 q2f := c.d.def_ 16 (d := q2f) rfl
 q2g := c.d.def_ 17 (d := q2g) rfl
 q1m := c.d.def_ 18 (d := q1m) rfl
theorem Facts.n_ends {K : PySem.W.Frag} {mg : Str → Option Value} (G : Facts K mg) : ClsF K (cl K) [12, 13, 14, 17] "ends" := by
 intro c hc
 simp only [List.mem_cons, List.not_mem_nil, or_false] at hc
 rcases hc with rfl | rfl | rfl | rfl
 · exact ⟨G.c_Machine, G.na_Machine_ends⟩
 · exact ⟨G.c_Machine, G.na_Machine_ends⟩
 · exact ⟨G.c_Pattern, G.na_Pattern_ends⟩
 · exact ⟨G.c_Pattern, G.na_Pattern_ends⟩
theorem Facts.n_marks {K : PySem.W.Frag} {mg : Str → Option Value} (G : Facts K mg) : ClsF K (cl K) [12, 13, 14, 17] "marks" := by
 intro c hc
 simp only [List.mem_cons, List.not_mem_nil, or_false] at hc
 rcases hc with rfl | rfl | rfl | rfl
 · exact ⟨G.c_Machine, G.na_Machine_marks⟩
 · exact ⟨G.c_Machine, G.na_Machine_marks⟩
 · exact ⟨G.c_Pattern, G.na_Pattern_marks⟩
 · exact ⟨G.c_Pattern, G.na_Pattern_marks⟩
theorem Facts.n_place {K : PySem.W.Frag} {mg : Str → Option Value} (G : Facts K mg) : ClsF K (cl K) [12, 13, 14, 17] "place" := by
 intro c hc
 simp only [List.mem_cons, List.not_mem_nil, or_false] at hc
 rcases hc with rfl | rfl | rfl | rfl
 · exact ⟨G.c_Machine, G.na_Machine_place⟩
 · exact ⟨G.c_Machine, G.na_Machine_place⟩
 · exact ⟨G.c_Pattern, G.na_Pattern_place⟩
 · exact ⟨G.c_Pattern, G.na_Pattern_place⟩
theorem Facts.n_size {K : PySem.W.Frag} {mg : Str → Option Value} (G : Facts K mg) : ClsF K (cl K) [12, 13, 14, 17, 18] "size" := by
 intro c hc
 simp only [List.mem_cons, List.not_mem_nil, or_false] at hc
 rcases hc with rfl | rfl | rfl | rfl | rfl
 · exact ⟨G.c_Machine, G.na_Machine_size⟩
 · exact ⟨G.c_Machine, G.na_Machine_size⟩
 · exact ⟨G.c_Pattern, G.na_Pattern_size⟩
 · exact ⟨G.c_Pattern, G.na_Pattern_size⟩
 · exact ⟨G.c_Machine, G.na_Machine_size⟩
theorem Facts.n_steps {K : PySem.W.Frag} {mg : Str → Option Value} (G : Facts K mg) : ClsF K (cl K) [12, 13, 14, 17] "steps" := by
 intro c hc
 simp only [List.mem_cons, List.not_mem_nil, or_false] at hc
 rcases hc with rfl | rfl | rfl | rfl
 · exact ⟨G.c_Machine, G.na_Machine_steps⟩
 · exact ⟨G.c_Machine, G.na_Machine_steps⟩
 · exact ⟨G.c_Pattern, G.na_Pattern_steps⟩
 · exact ⟨G.c_Pattern, G.na_Pattern_steps⟩
theorem Facts.p_now {K : PySem.W.Frag} {mg : Str → Option Value} (G : Facts K mg) : ∀ c ∈ [12, 13, 14, 17], Cls K (cl K c) ∧ ∃ p, PropOf K (cl K c) "now" p (Hx.gp K "Machine" "now") := by
 intro c hc
 simp only [List.mem_cons, List.not_mem_nil, or_false] at hc
 rcases hc with rfl | rfl | rfl | rfl
 · exact ⟨G.c_Machine, _, G.pr_Machine_now⟩
 · exact ⟨G.c_Machine, _, G.pr_Machine_now⟩
 · exact ⟨G.c_Pattern, _, G.pr_Pattern_now⟩
 · exact ⟨G.c_Pattern, _, G.pr_Pattern_now⟩
section
variable {w : World} {K : PySem.W.Frag} {mg : Str → Option Value} {base : Heap}
theorem q9s (G : Facts K mg) : ∃ fd, FunD K "_law_cell" "_law_cell" (defArgs q16) (defBody q16) (defScope q16) [] [] (He.ga K "_law_cell") fd ∧ FnOk P0 w K mg base (L2.CX P0 w) 1 (He.ga K "_law_cell") fd ["_law_script", "_law_k"] (SpM ⟨P0, w, K, cl K⟩ 2 f__law_cell) := by
 obtain ⟨fd, Fd⟩ := G.q1t
 unfold f__law_cell
 refine ⟨fd, Fd, fn_q Fd q65 fun cdv A outer s H E hr => ?_⟩
 refine xdk hr fun hu3 hu hu2 tk => ?_
 unfold m__law_cell
 exact (qss_cons (qs_if (qt_cmp oq_ltI (qe_var (i := 1) rfl q3u) (qe_callB cq_len q66 G.f_len rfl (qa_cons (qe_var (i := 0) rfl q3v) qa_nil)) (nomark _))
 (qss_one (qs_ret (qe_ix (xq_ixX hu2) (qe_var (i := 0) rfl q3v) (qe_var (i := 1) rfl q3u) fun _ _ => rfl)))
 qss_nil)
 (qss_one (qs_ret qe_int)))
theorem q9t (G : Facts K mg) : ∃ fd, FunD K "_law_draws" "_law_draws" (defArgs qh) (defBody qh) (defScope qh) [] [] (He.ga K "_law_draws") fd ∧ FnOk P0 w K mg base (L2.CX P0 w) 2 (He.ga K "_law_draws") fd ["_law_script", "_law_k", "_law_many"] (SpM ⟨P0, w, K, cl K⟩ 3 f__law_draws) := by
 obtain ⟨fd, Fd⟩ := G.q1u
 obtain ⟨q9u, q5f, q9v⟩ := q9s (w := w) (base := base) G
 have P__law_cell := q5f.kp
 have B__law_cell : Binds K q9u ["_law_script", "_law_k"] [] := q5f.bindsN fun _ _ _ _ _ _ us hl => match us, hl with | [_, _], _ => rfl
 unfold f__law_draws
 refine ⟨fd, Fd, fn_q Fd q1i fun cdv A outer s H E hr => ?_⟩
 refine xdk hr fun hu3 hu hu2 tk => ?_
 unfold m__law_draws
 exact (qss_cons (qs_set (i := 3) q1i.nd rfl q69 (qe_call (dvs := []) (ds := []) (dds := []) q9v tk (hr.mono (by decide)) q6b G.g__law_cell P__law_cell B__law_cell .nil Dfl.nil (qa_cons (qe_var (i := 0) rfl q67) (qa_cons (qe_var (i := 1) rfl q3w) qa_nil))))
 (qss_cons (qs_set (i := 4) q1i.nd rfl q6a (qe_lstS qa_nil))
 (qss_cons (qs_if (qt_cmp oq_geI (qe_var (i := 3) rfl q2z) (qe_op oq_pow qe_int qe_int) (nomark _))
 (qss_cons (qs_set (i := 7) q1i.nd rfl q40 (qe_op oq_sub (qe_var (i := 3) rfl q2z) (qe_op oq_pow qe_int qe_int)))
 (qss_cons (qs_for (passes_of rfl) rfl (qi_range1 q43 G.f_range (qa_cons (qe_var (i := 2) rfl q3x) qa_nil)) (qg_name (i := 6) q1i.nd rfl q41)
 (qss_cons (qs_expr (qe_bm chk_list PySem.F.plainAttrs_list PySem.F.slot_list_append PySem.F.type_list_append mq_append (qe_var (i := 4) rfl q2q) (qa_cons (qe_op oq_mod (qe_callTy cq_int q2r G.f_int rfl (qa_cons (qe_var (i := 7) rfl q3y) qa_nil)) qe_int) qa_nil)))
 (qss_one (qs_set (i := 7) q1i.nd rfl q40 (qe_op oq_div (qe_var (i := 7) rfl q3y) qe_int)))))
 (qss_one (qs_ret (qe_var (i := 4) rfl q2q)))))
 qss_nil)
 (qss_cons (qs_set (i := 5) q1i.nd rfl q42 (qe_op oq_mod (qe_callTy cq_int q2r G.f_int rfl (qa_cons (qe_op oq_add (qe_op oq_add (qe_op oq_mulI (qe_var (i := 3) rfl q2z) qe_int) (qe_op oq_mulI (qe_var (i := 1) rfl q3w) qe_int)) qe_int) qa_nil)) qe_int))
 (qss_cons (qs_for (passes_of rfl) rfl (qi_range1 q43 G.f_range (qa_cons (qe_var (i := 2) rfl q3x) qa_nil)) (qg_name (i := 6) q1i.nd rfl q41)
 (qss_cons (qs_set (i := 5) q1i.nd rfl q42 (qe_op oq_mod (qe_callTy cq_int q2r G.f_int rfl (qa_cons (qe_op oq_add (qe_op oq_add (qe_op oq_mulI (qe_var (i := 5) rfl q3z) qe_int) (qe_var (i := 6) rfl q68)) qe_int) qa_nil)) qe_int))
 (qss_one (qs_expr (qe_bm chk_list PySem.F.plainAttrs_list PySem.F.slot_list_append PySem.F.type_list_append mq_append (qe_var (i := 4) rfl q2q) (qa_cons (qe_op oq_mod (qe_callTy cq_int q2r G.f_int rfl (qa_cons (qe_op oq_div (qe_var (i := 5) rfl q3z) qe_int) qa_nil)) qe_int) qa_nil))))))
 (qss_one (qs_ret (qe_var (i := 4) rfl q2q))))))))
theorem q9w (G : Facts K mg) : ∃ fd, FunD K "_law_asks" "_law_asks" (defArgs q8) (defBody q8) (defScope q8) [] [] (He.ga K "_law_asks") fd ∧ FnOk P0 w K mg base (L2.CX P0 w) 1 (He.ga K "_law_asks") fd ["_law_row", "_law_many"] (SpM ⟨P0, w, K, cl K⟩ 2 f__law_asks) := by
 obtain ⟨fd, Fd⟩ := G.q1v
 unfold f__law_asks
 refine ⟨fd, Fd, fn_q Fd q19 fun cdv A outer s H E hr => ?_⟩
 refine xdk hr fun hu3 hu hu2 tk => ?_
 unfold m__law_asks
 exact (qss_cons (qs_set (i := 2) q19.nd rfl q6g qe_str)
 (qss_cons (qs_set (i := 3) q19.nd rfl q6h (qe_bm chk_str PySem.F.plainAttrs_str PySem.F.slot_str_join PySem.F.type_str_join mq_join qe_str (qa_cons (qe_lcV  rfl q19.nd (qi_val (qe_slice sq_sl (qe_var (i := 0) rfl q1k) qo_none (qo_some qe_int))) (own := [("_law_digit", 10)]) (show BlkOk ["_law_row", "_law_many", "_law_letters", "_law_word", "_law_asks_here", "_law_at", "_law_size", "_law_place", "_law_jump", "_law_letter", "_law_digit"] (defScope q8) _ [("_law_digit", 10)] from ⟨rfl, by decide +kernel, by decide +kernel, by decide +kernel, by decide +kernel⟩) (fun _ _ _ _ _ => (qg_name (i := 10) q19.nd rfl (by first | exact Or.inl rfl | exact Or.inr rfl))) (fun _ _ _ _ _ => qts_nil) (fun _ _ _ _ _ => (qe_ix (xq_ixX hu2) (qe_var (i := 2) rfl (by first | exact Or.inl rfl | exact Or.inr (Or.inl rfl) | exact Or.inr (Or.inr rfl))) (qe_op oq_mod (qe_callTy cq_int rfl G.f_int rfl (qa_cons (qe_var (i := 10) rfl (by first | exact Or.inl rfl | exact Or.inr (Or.inl rfl) | exact Or.inr (Or.inr rfl))) qa_nil)) qe_int) fun _ _ => rfl)) (by decide)) qa_nil)))
 (qss_cons (qs_set (i := 4) q19.nd rfl q6i (qe_lstS qa_nil))
 (qss_cons (qs_for (passes_of rfl) rfl (qi_range1 q6n G.f_range (qa_cons (qe_var (i := 1) rfl q6c) qa_nil)) (qg_name (i := 5) q19.nd rfl q6j)
 (qss_cons (qs_set (i := 6) q19.nd rfl q46 (qe_op oq_add (qe_op oq_mod (qe_callTy cq_int q1n G.f_int rfl (qa_cons (qe_op oq_add (qe_ix (xq_ixX hu2) (qe_var (i := 0) rfl q1k) qe_int fun _ _ => rfl) (qe_op oq_mulI qe_int (qe_var (i := 5) rfl q44))) qa_nil)) qe_int) qe_int))
 (qss_one (qs_if (qt_cmp (oq_eq hu) (qe_op oq_mod (qe_callTy cq_int q1n G.f_int rfl (qa_cons (qe_ix (xq_ixX hu2) (qe_var (i := 0) rfl q1k) qe_int fun _ _ => rfl) qa_nil)) qe_int) qe_int (nomark _))
 (qss_one (qs_expr (qe_bm chk_list PySem.F.plainAttrs_list PySem.F.slot_list_append PySem.F.type_list_append mq_append (qe_var (i := 4) rfl q30) (qa_cons (qe_slice sq_sl (qe_var (i := 3) rfl q31) qo_none (qo_some (qe_var (i := 6) rfl q32))) qa_nil))))
 (qss_cons (qs_set (i := 6) q19.nd rfl q46 (qe_op oq_add (qe_op oq_mod (qe_callTy cq_int q1n G.f_int rfl (qa_cons (qe_ix (xq_ixX hu2) (qe_var (i := 0) rfl q1k) qe_int fun _ _ => rfl) qa_nil)) qe_int) qe_int))
 (qss_cons (qs_set (i := 7) q19.nd rfl q6k (qe_op oq_mod (qe_callTy cq_int q1n G.f_int rfl (qa_cons (qe_ix (xq_ixX hu2) (qe_var (i := 0) rfl q1k) qe_int fun _ _ => rfl) qa_nil)) (qe_var (i := 6) rfl q32)))
 (qss_cons (qs_set (i := 8) q19.nd rfl q6l (qe_op oq_add (qe_op oq_mulI (qe_op oq_mod (qe_callTy cq_int q1n G.f_int rfl (qa_cons (qe_ix (xq_ixX hu2) (qe_var (i := 0) rfl q1k) qe_int fun _ _ => rfl) qa_nil)) qe_int) qe_int) qe_int))
 (qss_cons (qs_set (i := 9) q19.nd rfl q6m (qe_ix (xq_ixX hu2) (qe_var (i := 2) rfl q6d) (qe_op oq_mod (qe_callTy cq_int q1n G.f_int rfl (qa_cons (qe_op oq_add (qe_ix (xq_ixX hu2) (qe_var (i := 0) rfl q1k) qe_int fun _ _ => rfl) (qe_op oq_mulI (qe_var (i := 8) rfl q6e) (qe_var (i := 5) rfl q44))) qa_nil)) qe_int) fun _ _ => rfl))
 (qss_one (qs_expr (qe_bm chk_list PySem.F.plainAttrs_list PySem.F.slot_list_append PySem.F.type_list_append mq_append (qe_var (i := 4) rfl q30) (qa_cons (qe_op oq_add (qe_op oq_add (qe_slice sq_sl (qe_var (i := 3) rfl q31) qo_none (qo_some (qe_var (i := 7) rfl q45))) (qe_var (i := 9) rfl q6f)) (qe_slice sq_sl (qe_var (i := 3) rfl q31) (qo_some (qe_op oq_add (qe_var (i := 7) rfl q45) qe_int)) (qo_some (qe_var (i := 6) rfl q32)))) qa_nil))))))))))))
 (qss_one (qs_ret (qe_var (i := 4) rfl q30)))))))
theorem q9x (G : Facts K mg) : ∃ fd, FunD K "_law_marks" "_law_marks" (defArgs q17) (defBody q17) (defScope q17) [] [] (He.ga K "_law_marks") fd ∧ FnOk P0 w K mg base (L2.CX P0 w) 1 (He.ga K "_law_marks") fd ["_law_digit", "_law_size"] (SpM ⟨P0, w, K, cl K⟩ 2 f__law_marks) := by
 obtain ⟨fd, Fd⟩ := G.q1w
 unfold f__law_marks
 refine ⟨fd, Fd, fn_q Fd q33 fun cdv A outer s H E hr => ?_⟩
 refine xdk hr fun hu3 hu hu2 tk => ?_
 unfold m__law_marks
 exact (qss_one (qs_ret (qe_lcV  rfl q33.nd (qi_range1 q6p G.f_range (qa_cons (qe_var (i := 1) rfl q6o) qa_nil)) (own := [("_law_state", 2)]) (show BlkOk ["_law_digit", "_law_size", "_law_state"] (defScope q17) _ [("_law_state", 2)] from ⟨rfl, by decide +kernel, by decide +kernel, by decide +kernel, by decide +kernel⟩) (fun _ _ _ _ _ => (qg_name (i := 2) q33.nd rfl (by first | exact Or.inl rfl | exact Or.inr rfl))) (fun _ _ _ _ _ => (qts_one (qt_w (qw_or (qt_cmp oq_geI (qe_var (i := 0) rfl (by first | exact Or.inl rfl | exact Or.inr (Or.inl rfl) | exact Or.inr (Or.inr rfl))) qe_int (nomark _)) (qw_or1 (qt_cmp (oq_eq hu) (qe_op oq_mod (qe_callTy cq_int rfl G.f_int rfl (qa_cons (qe_op oq_div (qe_var (i := 0) rfl (by first | exact Or.inl rfl | exact Or.inr (Or.inl rfl) | exact Or.inr (Or.inr rfl))) (qe_ix (xq_ixX hu2) (qe_lstV (qa_cons qe_int (qa_cons qe_int (qa_cons qe_int (qa_cons qe_int qa_nil))))) (qe_var (i := 2) rfl (by first | exact Or.inl rfl | exact Or.inr (Or.inl rfl) | exact Or.inr (Or.inr rfl))) fun _ _ => rfl)) qa_nil)) qe_int) qe_int (nomark _))))))) (fun _ _ _ _ _ => (qe_var (i := 2) rfl (by first | exact Or.inl rfl | exact Or.inr (Or.inl rfl) | exact Or.inr (Or.inr rfl)))) (by decide))))
theorem q9y (G : Facts K mg) : ∃ fd, FunD K "_law_random" "_law_random" (defArgs qf) (defBody qf) (defScope qf) [] [] (He.ga K "_law_random") fd ∧ FnOk P0 w K mg base (L2.CX P0 w) 2 (He.ga K "_law_random") fd ["_law_row", "_law_asks_here"] (SpM ⟨P0, w, K, cl K⟩ 2 f__law_random) := by
 obtain ⟨fd, Fd⟩ := G.q1x
 obtain ⟨q9z, q5g, qa0⟩ := q9x (w := w) (base := base) G
 have P__law_marks := q5g.kp
 have B__law_marks : Binds K q9z ["_law_digit", "_law_size"] [] := q5g.bindsN fun _ _ _ _ _ _ us hl => match us, hl with | [_, _], _ => rfl
 unfold f__law_random
 refine ⟨fd, Fd, fn_q Fd q1l fun cdv A outer s H E hr => ?_⟩
 refine xdk hr fun hu3 hu hu2 tk => ?_
 unfold m__law_random
 exact (qss_cons (qs_set (i := 2) q1l.nd rfl q6q (qe_op oq_add qe_int (qe_op oq_mod (qe_callTy cq_int q2i G.f_int rfl (qa_cons (qe_ix (xq_ixX hu2) (qe_var (i := 0) rfl q2h) qe_int fun _ _ => rfl) qa_nil)) qe_int)))
 (qss_cons (qs_set (i := 3) q1l.nd rfl q6r (qe_lstS qa_nil))
 (qss_cons (qs_for (passes_of rfl) rfl (qi_range1 q37 G.f_range (qa_cons (qe_var (i := 2) rfl q1o) qa_nil)) (qg_name (i := 4) q1l.nd rfl q6s)
 (qss_one (qs_for (passes_of rfl) rfl (qi_range1 q37 G.f_range (qa_cons (qe_callB cq_len q38 G.f_len rfl (qa_cons (qe_var (i := 1) rfl q34) qa_nil)) qa_nil)) (qg_name (i := 5) q1l.nd rfl q6t)
 (qss_cons (qs_set (i := 6) q1l.nd rfl q6u (qe_ix (xq_ixX hu2) (qe_var (i := 0) rfl q2h) (qe_op oq_mod (qe_callTy cq_int q2i G.f_int rfl (qa_cons (qe_op oq_add (qe_op oq_add qe_int (qe_op oq_mulI (qe_var (i := 4) rfl q47) (qe_callB cq_len q38 G.f_len rfl (qa_cons (qe_var (i := 1) rfl q34) qa_nil)))) (qe_var (i := 5) rfl q48)) qa_nil)) (qe_callB cq_len q38 G.f_len rfl (qa_cons (qe_var (i := 0) rfl q2h) qa_nil))) fun _ _ => rfl))
 (qss_one (qs_for (passes_of rfl) rfl (qi_range1 q37 G.f_range (qa_cons (qe_var (i := 2) rfl q1o) qa_nil)) (qg_name (i := 7) q1l.nd rfl q6v)
 (qss_one (qs_if (qt_w (qw_or (qt_cmp (oq_eq hu) (qe_op oq_mod (qe_callTy cq_int q2i G.f_int rfl (qa_cons (qe_var (i := 6) rfl q35) qa_nil)) (qe_op oq_add (qe_var (i := 2) rfl q1o) qe_int)) (qe_var (i := 7) rfl q36) (nomark _)) (qw_or1 (qt_w (qw_and (qt_cmp oq_geI (qe_var (i := 6) rfl q35) qe_int (nomark _)) (qw_and1 (qt_cmp (oq_eq hu) (qe_op oq_mod (qe_callTy cq_int q2i G.f_int rfl (qa_cons (qe_op oq_add (qe_var (i := 6) rfl q35) (qe_var (i := 7) rfl q36)) qa_nil)) qe_int) qe_int (nomark _))))))))
 (qss_one (qs_expr (qe_bm chk_list PySem.F.plainAttrs_list PySem.F.slot_list_append PySem.F.type_list_append mq_append (qe_var (i := 3) rfl q49) (qa_cons (qe_tup (qa_cons (qe_var (i := 4) rfl q47) (qa_cons (qe_ix (xq_ixX hu2) (qe_var (i := 1) rfl q34) (qe_var (i := 5) rfl q48) fun _ _ => rfl) (qa_cons (qe_var (i := 7) rfl q36) qa_nil)))) qa_nil))))
 qss_nil))))))))
 (qss_one (qs_ret (qe_tup (qa_cons (qe_var (i := 2) rfl q1o) (qa_cons (qe_call (dvs := []) (ds := []) (dds := []) qa0 tk (hr.mono (by decide)) q6w G.g__law_marks P__law_marks B__law_marks .nil Dfl.nil (qa_cons (qe_ix (xq_ixX hu2) (qe_var (i := 0) rfl q2h) qe_int fun _ _ => rfl) (qa_cons (qe_var (i := 2) rfl q1o) qa_nil))) (qa_cons (qe_fz (qe_var (i := 3) rfl q49)) (qa_cons (qe_op oq_mod (qe_callTy cq_int q2i G.f_int rfl (qa_cons (qe_ix (xq_ixX hu2) (qe_var (i := 0) rfl q2h) qe_int fun _ _ => rfl) qa_nil)) (qe_var (i := 2) rfl q1o)) qa_nil))))))))))
theorem qa1 (G : Facts K mg) : ∃ fd, FunD K "_law_pairs" "_law_pairs" (defArgs qp) (defBody qp) (defScope qp) [] [] (He.ga K "_law_pairs") fd ∧ FnOk P0 w K mg base (L2.CX P0 w) 1 (He.ga K "_law_pairs") fd ["_law_plain", "_law_asks_here"] (SpM ⟨P0, w, K, cl K⟩ 2 f__law_pairs) := by
 obtain ⟨fd, Fd⟩ := G.q1y
 unfold f__law_pairs
 refine ⟨fd, Fd, fn_q Fd q1g fun cdv A outer s H E hr => ?_⟩
 refine xdk hr fun hu3 hu hu2 tk => ?_
 unfold m__law_pairs
 exact (qss_cons (qs_set (i := 2) q1g.nd rfl q70 qe_dict)
 (qss_cons (qs_for (passes_of rfl) rfl (qi_val (qe_ix (xq_ixX hu2) (qe_var (i := 0) rfl q39) qe_int fun _ _ => rfl)) (qg_name (i := 3) q1g.nd rfl q71)
 (qss_one (qs_sub hu2 (qe_var (i := 2) rfl q6x) (qe_var (i := 3) rfl q6y) qe_bl)))
 (qss_cons (qs_set (i := 4) q1g.nd rfl q72 (qe_lstS qa_nil))
 (qss_cons (qs_for (passes_of rfl) rfl (qi_range1 q4d G.f_range (qa_cons (qe_ix (xq_ixX hu2) (qe_var (i := 0) rfl q39) qe_int fun _ _ => rfl) qa_nil)) (qg_name (i := 5) q1g.nd rfl q73)
 (qss_cons (qs_set (i := 6) q1g.nd rfl q4c (qe_lstV qa_nil))
 (qss_cons (qs_for (passes_of rfl) rfl (qi_val (qe_var (i := 1) rfl q6z)) (qg_name (i := 7) q1g.nd rfl q74)
 (qss_one (qs_set (i := 6) q1g.nd rfl q4c (qe_op oq_add (qe_var (i := 6) rfl q4a) (qe_lcV  rfl q1g.nd (qi_range1 q4d G.f_range (qa_cons (qe_ix (xq_ixX hu2) (qe_var (i := 0) rfl q39) qe_int fun _ _ => rfl) qa_nil)) (own := [("_law_way", 8)]) (show BlkOk ["_law_plain", "_law_asks_here", "_law_there", "_law_step", "_law_pairs_here", "_law_state", "_law_row", "_law_ask", "_law_way"] (defScope qp) _ [("_law_way", 8)] from ⟨rfl, by decide +kernel, by decide +kernel, by decide +kernel, by decide +kernel⟩) (fun _ _ _ _ _ => (qg_name (i := 8) q1g.nd rfl (by first | exact Or.inl rfl | exact Or.inr rfl))) (fun _ _ _ _ _ => (qts_one (qt_cmp (oq_inX hu2) (qe_tup (qa_cons (qe_var (i := 5) rfl (by first | exact Or.inl rfl | exact Or.inr (Or.inl rfl) | exact Or.inr (Or.inr rfl))) (qa_cons (qe_var (i := 7) rfl (by first | exact Or.inl rfl | exact Or.inr (Or.inl rfl) | exact Or.inr (Or.inr rfl))) (qa_cons (qe_var (i := 8) rfl (by first | exact Or.inl rfl | exact Or.inr (Or.inl rfl) | exact Or.inr (Or.inr rfl))) qa_nil)))) (qe_var (i := 2) rfl (by first | exact Or.inl rfl | exact Or.inr (Or.inl rfl) | exact Or.inr (Or.inr rfl))) (by with_unfolding_all rfl)))) (fun _ _ _ _ _ => (qe_tup (qa_cons (qe_var (i := 7) rfl (by first | exact Or.inl rfl | exact Or.inr (Or.inl rfl) | exact Or.inr (Or.inr rfl))) (qa_cons (qe_var (i := 8) rfl (by first | exact Or.inl rfl | exact Or.inr (Or.inl rfl) | exact Or.inr (Or.inr rfl))) qa_nil)))) (by decide))))))
 (qss_one (qs_expr (qe_bm chk_list PySem.F.plainAttrs_list PySem.F.slot_list_append PySem.F.type_list_append mq_append (qe_var (i := 4) rfl q4b) (qa_cons (qe_var (i := 6) rfl q4a) qa_nil)))))))
 (qss_one (qs_ret (qe_var (i := 4) rfl q4b)))))))
theorem qa2 (G : Facts K mg) : ∃ fd, FunD K "_law_all_rows" "_law_all_rows" (defArgs q9) (defBody q9) (defScope q9) [] [] (He.ga K "_law_all_rows") fd ∧ FnOk P0 w K mg base (L2.CX P0 w) 1 (He.ga K "_law_all_rows") fd ["_law_pairs_here", "_law_here", "_law_top"] (SpM ⟨P0, w, K, cl K⟩ 3 f__law_all_rows) := by
 obtain ⟨fd, Fd⟩ := G.q1z
 unfold f__law_all_rows
 refine ⟨fd, Fd, fn_q Fd q13 fun cdv A outer s H E hr => ?_⟩
 refine xdk hr fun hu3 hu hu2 tk => ?_
 unfold m__law_all_rows
 exact (qss_cons (qs_set (i := 3) q13.nd rfl q4g (qe_lstV (qa_cons (qe_tup qa_nil) qa_nil)))
 (qss_cons (qs_set (i := 4) q13.nd rfl q4h (qe_lstV (qa_cons (qe_tup qa_nil) qa_nil)))
 (qss_cons (qs_set (i := 5) q13.nd rfl q4i qe_int)
 (qss_cons (qs_for (passes_of rfl) rfl (qi_range1 q7c G.f_range (qa_cons (qe_var (i := 2) rfl q75) qa_nil)) (qg_name (i := 6) q13.nd rfl q7a)
 (qss_one (qs_if (qt_cmp oq_ltI (qe_callB cq_len q4l G.f_len rfl (qa_cons (qe_var (i := 3) rfl q3a) qa_nil)) qe_int (nomark _))
 (qss_cons (qs_set (i := 7) q13.nd rfl q4j (qe_lstV qa_nil))
 (qss_cons (qs_for (passes_of rfl) rfl (qi_val (qe_var (i := 4) rfl q76)) (qg_name (i := 8) q13.nd rfl q7b)
 (qss_cons (qs_set (i := 9) q13.nd rfl q4k (qe_var (i := 1) rfl q77))
 (qss_cons (qs_if (qt_cmp oq_gtI (qe_callB cq_len q4l G.f_len rfl (qa_cons (qe_var (i := 8) rfl q4e) qa_nil)) qe_int (nomark _))
 (qss_one (qs_set (i := 9) q13.nd rfl q4k (qe_ix (xq_ixX hu2) (qe_ix (xq_ixX hu2) (qe_var (i := 8) rfl q4e) (qe_un uq_neg qe_int) fun _ _ => rfl) qe_int fun _ _ => rfl)))
 qss_nil)
 (qss_one (qs_set (i := 7) q13.nd rfl q4j (qe_op oq_add (qe_var (i := 7) rfl q3b) (qe_lcV  rfl q13.nd (qi_val (qe_ix (xq_ixX hu2) (qe_var (i := 0) rfl q78) (qe_var (i := 9) rfl q79) fun _ _ => rfl)) (own := [("_law_pair", 10)]) (show BlkOk ["_law_pairs_here", "_law_here", "_law_top", "_law_rows", "_law_level", "_law_size", "_law_turn", "_law_longer", "_law_row", "_law_state", "_law_pair"] (defScope q9) _ [("_law_pair", 10)] from ⟨rfl, by decide +kernel, by decide +kernel, by decide +kernel, by decide +kernel⟩) (fun _ _ _ _ _ => (qg_name (i := 10) q13.nd rfl (by first | exact Or.inl rfl | exact Or.inr rfl))) (fun _ _ _ _ _ => qts_nil) (fun _ _ _ _ _ => (qe_op oq_add (qe_var (i := 8) rfl (by first | exact Or.inl rfl | exact Or.inr (Or.inl rfl) | exact Or.inr (Or.inr rfl))) (qe_tup (qa_cons (qe_var (i := 10) rfl (by first | exact Or.inl rfl | exact Or.inr (Or.inl rfl) | exact Or.inr (Or.inr rfl))) qa_nil)))) (by decide))))))))
 (qss_cons (qs_set (i := 3) q13.nd rfl q4g (qe_op oq_add (qe_var (i := 3) rfl q3a) (qe_var (i := 7) rfl q3b)))
 (qss_cons (qs_set (i := 4) q13.nd rfl q4h (qe_var (i := 7) rfl q3b))
 (qss_one (qs_set (i := 5) q13.nd rfl q4i (qe_op oq_add (qe_var (i := 5) rfl q4f) qe_int)))))))
 qss_nil)))
 (qss_one (qs_ret (qe_tup (qa_cons (qe_var (i := 5) rfl q4f) (qa_cons (qe_var (i := 3) rfl q3a) qa_nil)))))))))
theorem qa3 (G : Facts K mg) : ∃ fd, ErrD P0 K "__init__" "BadMachine.__init__" (defArgs q1b) (defBody q1b) (defScope q1b) (cl K 1) (He.ma K (He.ga K "BadMachine") "__init__") fd ∧ FnOk P0 w K mg base (L2.CX P0 w) 1 (He.ma K (He.ga K "BadMachine") "__init__") fd ["self", "part"] (errSp (cl K 1) ["self", "part"] (tErr K ["part"] 1)) := by
 obtain ⟨fd, Fd⟩ := G.q20
 exact ⟨fd, Fd, ErrD.ok (t := tCons (tC (.str "invalid part of a machine")) tNil) Fd q7d rfl rfl (by decide +kernel) G.f_super (fun _ _ _ _ _ _ _ => pa_cons pe_str pa_nil) (fun _ _ _ h => h _ (by simp)) (fun _ _ _ _ _ _ _ => pss_one (ps_ost (pv 0) (pv 1))) (fun _ => rfl) (fun _ => rfl) (fun _ => rfl) (fun _ => rfl) (fun _ _ _ => rfl)⟩
theorem q5h (G : Facts K mg) : ∃ fd, ErrD P0 K "__init__" "TooLarge.__init__" (defArgs q1c) (defBody q1c) (defScope q1c) (cl K 3) (He.ma K (He.ga K "TooLarge") "__init__") fd ∧ FnOk P0 w K mg base (L2.CX P0 w) 1 (He.ma K (He.ga K "TooLarge") "__init__") fd ["self", "size"] (errSp (cl K 3) ["self", "size"] (tErr K ["size"] 1)) := by
 obtain ⟨fd, Fd⟩ := G.q21
 exact ⟨fd, Fd, ErrD.ok (t := tCons (tC (.str "too large")) tNil) Fd q7e rfl rfl (by decide +kernel) G.f_super (fun _ _ _ _ _ _ _ => pa_cons pe_str pa_nil) (fun _ _ _ h => h _ (by simp)) (fun _ _ _ _ _ _ _ => pss_one (ps_ost (pv 0) (pv 1))) (fun _ => rfl) (fun _ => rfl) (fun _ => rfl) (fun _ => rfl) (fun _ _ _ => rfl)⟩
theorem qa4 (G : Facts K mg) : ∃ fd, FunD K "is_ask" "is_ask" (defArgs q11) (defBody q11) (defScope q11) [] [] (He.ga K "is_ask") fd ∧ FnOk P0 w K mg base (L2.CX P0 w) 1 (He.ga K "is_ask") fd ["ask"] (SpM ⟨P0, w, K, cl K⟩ 1 f_is_ask) := by
 obtain ⟨fd, Fd⟩ := G.q22
 unfold f_is_ask
 refine ⟨fd, Fd, fn_q Fd q3c fun cdv A outer s H E hr => ?_⟩
 refine xdk hr fun hu3 hu hu2 tk => ?_
 unfold m_is_ask
 exact (qss_cons (qs_if (qt_w (qw_or (qt_cmp oq_ltI (qe_callB cq_len q4m G.f_len rfl (qa_cons (qe_var (i := 0) rfl q3d) qa_nil)) qe_int (nomark _)) (qw_or1 (qt_cmp oq_gtI (qe_callB cq_len q4m G.f_len rfl (qa_cons (qe_var (i := 0) rfl q3d) qa_nil)) (qe_gInt q7f (G.i_MOST_SIGNS).choose_spec) (nomark _)))))
 (qss_one (qs_ret qe_bl))
 qss_nil)
 (qss_one (qs_ret (qe_callB (cq_all rfl) q7g G.f_all rfl (qa_cons (qe_lcV  rfl q3c.nd (qi_chr (qe_var (i := 0) rfl q3d)) (own := [("sign", 1)]) (show BlkOk ["ask", "sign"] (defScope q11) _ [("sign", 1)] from ⟨rfl, by decide +kernel, by decide +kernel, by decide +kernel, by decide +kernel⟩) (fun _ _ _ _ _ => (qg_name (i := 1) q3c.nd rfl (by first | exact Or.inl rfl | exact Or.inr rfl))) (fun _ _ _ _ _ => qts_nil) (fun _ _ _ _ _ => (qe_cmp (oq_inX hu2) (qe_var (i := 1) rfl (by first | exact Or.inl rfl | exact Or.inr (Or.inl rfl) | exact Or.inr (Or.inr rfl))) (qe_gStr rfl (G.i_LETTERS).choose_spec) (by with_unfolding_all rfl))) (by decide)) qa_nil)))))
theorem qa5 (G : Facts K mg) : ∃ fd, FunD K "check_parts" "check_parts" (defArgs qo) (defBody qo) (defScope qo) [] [] (He.ga K "check_parts") fd ∧ FnOk P0 w K mg base (L2.CX P0 w) 3 (He.ga K "check_parts") fd ["size", "marks", "steps"] (SpM ⟨P0, w, K, cl K⟩ 3 f_check_parts) := by
 obtain ⟨fd, Fd⟩ := G.q23
 obtain ⟨qa6, q5i, q3n⟩ := qa3 (w := w) (base := base) G
 have P_BadMachineu_initu := q5i.kp
 have B_BadMachineu_initu : Binds K qa6 ["self", "part"] [] := q5i.bindsN fun _ _ _ _ _ _ _ us hl => match us, hl with | [_, _], _ => rfl
 obtain ⟨q3o, q2o, q3p⟩ := q5h (w := w) (base := base) G
 have P_TooLargeu_initu := q2o.kp
 have B_TooLargeu_initu : Binds K q3o ["self", "size"] [] := q2o.bindsN fun _ _ _ _ _ _ _ us hl => match us, hl with | [_, _], _ => rfl
 obtain ⟨qa7, q5j, qa8⟩ := qa4 (w := w) (base := base) G
 have P_is_ask := q5j.kp
 have B_is_ask : Binds K qa7 ["ask"] [] := q5j.bindsN fun _ _ _ _ _ _ us hl => match us, hl with | [_], _ => rfl
 unfold f_check_parts
 refine ⟨fd, Fd, fn_q Fd q2j fun cdv A outer s H E hr => ?_⟩
 refine xdk hr fun hu3 hu hu2 tk => ?_
 unfold m_check_parts
 exact (qss_cons (qs_if (qt_cmp oq_ltI (qe_var (i := 0) rfl q1p) qe_int (nomark _))
 (qss_one (qs_raise1 (c := 1) rfl tk G.ox_BadMachine G.xf_BadMachine_part G.in_BadMachine.1 G.in_BadMachine.2 q3n (hr.mono (by decide)) B_BadMachineu_initu q3e G.g_BadMachine (qa_cons qe_str qa_nil)))
 qss_nil)
 (qss_cons (qs_if (qt_cmp oq_gtI (qe_var (i := 0) rfl q1p) (qe_gInt q7o (G.i_MOST_STATES).choose_spec) (nomark _))
 (qss_one (qs_raise1 (c := 3) rfl tk G.ox_TooLarge G.xf_TooLarge_size G.in_TooLarge.1 G.in_TooLarge.2 q3p (hr.mono (by decide)) B_TooLargeu_initu q7p G.g_TooLarge (qa_cons (qe_var (i := 0) rfl q1p) qa_nil)))
 qss_nil)
 (qss_cons (qs_for (passes_of rfl) rfl (qi_val (qe_var (i := 1) rfl q7h)) (qg_name (i := 3) q2j.nd rfl q7k)
 (qss_one (qs_if (qt_w (qw_or (qt_cmp oq_ltI (qe_var (i := 3) rfl q4n) qe_int (nomark _)) (qw_or1 (qt_cmp oq_geI (qe_var (i := 3) rfl q4n) (qe_var (i := 0) rfl q1p) (nomark _)))))
 (qss_one (qs_raise1 (c := 1) rfl tk G.ox_BadMachine G.xf_BadMachine_part G.in_BadMachine.1 G.in_BadMachine.2 q3n (hr.mono (by decide)) B_BadMachineu_initu q3e G.g_BadMachine (qa_cons qe_str qa_nil)))
 qss_nil)))
 (qss_one (qs_for (passes_of rfl) rfl (qi_val (qe_var (i := 2) rfl q7i)) (qg_tup rfl (qgs_cons (qg_name (i := 4) q2j.nd rfl q7l) (qgs_cons (qg_name (i := 5) q2j.nd rfl q7m) (qgs_cons (qg_name (i := 6) q2j.nd rfl q7n) qgs_nil))))
 (qss_one (qs_if (qt_w (qw_or (qt_cmp oq_ltI (qe_var (i := 4) rfl q4o) qe_int (nomark _)) (qw_or (qt_cmp oq_geI (qe_var (i := 4) rfl q4o) (qe_var (i := 0) rfl q1p) (nomark _)) (qw_or (qt_cmp oq_ltI (qe_var (i := 6) rfl q4p) qe_int (nomark _)) (qw_or (qt_cmp oq_geI (qe_var (i := 6) rfl q4p) (qe_var (i := 0) rfl q1p) (nomark _)) (qw_or1 (qt_not (qt_val (qe_call (dvs := []) (ds := []) (dds := []) qa8 tk (hr.mono (by decide)) q7q G.g_is_ask P_is_ask B_is_ask .nil Dfl.nil (qa_cons (qe_var (i := 5) rfl q7j) qa_nil))))))))))
 (qss_one (qs_raise1 (c := 1) rfl tk G.ox_BadMachine G.xf_BadMachine_part G.in_BadMachine.1 G.in_BadMachine.2 q3n (hr.mono (by decide)) B_BadMachineu_initu q3e G.g_BadMachine (qa_cons qe_str qa_nil)))
 qss_nil)))))))
theorem qa9 (G : Facts K mg) : ∃ fd, FunD K "in_order" "in_order" (defArgs qu) (defBody qu) (defScope qu) [] [] (He.ga K "in_order") fd ∧ FnOk P0 w K mg base (L2.CX P0 w) 1 (He.ga K "in_order") fd ["rows"] (SpM ⟨P0, w, K, cl K⟩ 1 f_in_order) := by
 obtain ⟨fd, Fd⟩ := G.q24
 unfold f_in_order
 refine ⟨fd, Fd, fn_q Fd q1j fun cdv A outer s H E hr => ?_⟩
 refine xdk hr fun hu3 hu hu2 tk => ?_
 unfold m_in_order
 exact (qss_cons (qs_set (i := 1) q1j.nd rfl q7s (qe_lstS qa_nil))
 (qss_cons (qs_for (passes_of rfl) rfl (qi_val (qe_var (i := 0) rfl q7r)) (qg_name (i := 2) q1j.nd rfl q7t)
 (qss_cons (qs_set (i := 3) q1j.nd rfl q4r qe_int)
 (qss_cons (qs_set (i := 4) q1j.nd rfl q4s (qe_callB cq_len q4t G.f_len rfl (qa_cons (qe_var (i := 1) rfl q1q) qa_nil)))
 (qss_cons (qs_while (passes_of rfl) (qt_cmp (oq_ltD hu) (qe_var (i := 3) rfl q2k) (qe_var (i := 4) rfl q4q) (nomark _))
 (qss_cons (qs_set (i := 5) q1j.nd rfl q7u (qe_op oq_div (qe_op oq_add (qe_var (i := 3) rfl q2k) (qe_var (i := 4) rfl q4q)) qe_int))
 (qss_one (qs_if (qt_cmp (oq_ltD hu) (qe_ix (xq_ixX hu2) (qe_var (i := 1) rfl q1q) (qe_var (i := 5) rfl q3f) fun _ _ => rfl) (qe_var (i := 2) rfl q3g) (nomark _))
 (qss_one (qs_set (i := 3) q1j.nd rfl q4r (qe_op oq_add (qe_var (i := 5) rfl q3f) qe_int)))
 (qss_one (qs_set (i := 4) q1j.nd rfl q4s (qe_var (i := 5) rfl q3f)))))))
 (qss_one (qs_if (qt_w (qw_or (qt_cmp (oq_eq hu) (qe_var (i := 3) rfl q2k) (qe_callB cq_len q4t G.f_len rfl (qa_cons (qe_var (i := 1) rfl q1q) qa_nil)) (nomark _)) (qw_or1 (qt_cmp (oq_ne hu) (qe_ix (xq_ixX hu2) (qe_var (i := 1) rfl q1q) (qe_var (i := 3) rfl q2k) fun _ _ => rfl) (qe_var (i := 2) rfl q3g) (nomark _)))))
 (qss_one (qs_expr (qe_bm chk_list PySem.F.plainAttrs_list PySem.F.slot_list_insert PySem.F.type_list_insert mq_insert (qe_var (i := 1) rfl q1q) (qa_cons (qe_var (i := 3) rfl q2k) (qa_cons (qe_var (i := 2) rfl q3g) qa_nil)))))
 qss_nil))))))
 (qss_one (qs_ret (qe_var (i := 1) rfl q1q)))))
theorem qaa (G : Facts K mg) : ∃ fd, ErrD P0 K "__init__" "BadState.__init__" (defArgs q1d) (defBody q1d) (defScope q1d) (cl K 2) (He.ma K (He.ga K "BadState") "__init__") fd ∧ FnOk P0 w K mg base (L2.CX P0 w) 1 (He.ma K (He.ga K "BadState") "__init__") fd ["self", "state"] (errSp (cl K 2) ["self", "state"] (tErr K ["state"] 1)) := by
 obtain ⟨fd, Fd⟩ := G.q25
 exact ⟨fd, Fd, ErrD.ok (t := tCons (tC (.str "invalid state")) tNil) Fd q7v rfl rfl (by decide +kernel) G.f_super (fun _ _ _ _ _ _ _ => pa_cons pe_str pa_nil) (fun _ _ _ h => h _ (by simp)) (fun _ _ _ _ _ _ _ => pss_one (ps_ost (pv 0) (pv 1))) (fun _ => rfl) (fun _ => rfl) (fun _ => rfl) (fun _ => rfl) (fun _ _ _ => rfl)⟩
theorem qab (G : Facts K mg) : ∃ fd, FunD K "ends_by_ask" "ends_by_ask" (defArgs qy) (defBody qy) (defScope qy) [] [] (He.ga K "ends_by_ask") fd ∧ FnOk P0 w K mg base (L2.CX P0 w) 1 (He.ga K "ends_by_ask") fd ["steps"] (SpM ⟨P0, w, K, cl K⟩ 1 f_ends_by_ask) := by
 obtain ⟨fd, Fd⟩ := G.q26
 unfold f_ends_by_ask
 refine ⟨fd, Fd, fn_q Fd q2l fun cdv A outer s H E hr => ?_⟩
 refine xdk hr fun hu3 hu hu2 tk => ?_
 unfold m_ends_by_ask
 exact (qss_cons (qs_set (i := 1) q2l.nd rfl q7y qe_dict)
 (qss_cons (qs_for (passes_of rfl) rfl (qi_val (qe_var (i := 0) rfl q7w)) (qg_tup rfl (qgs_cons (qg_name (i := 2) q2l.nd rfl q7z) (qgs_cons (qg_name (i := 3) q2l.nd rfl q80) (qgs_cons (qg_name (i := 4) q2l.nd rfl q81) qgs_nil))))
 (qss_one (qs_sub hu2 (qe_var (i := 1) rfl q3h) (qe_tup (qa_cons (qe_var (i := 2) rfl q4u) (qa_cons (qe_var (i := 3) rfl q4v) qa_nil))) (qe_op oq_add (qe_dm PySem.F.slot_dict_get PySem.F.type_dict_get (mq_get hu2) (qe_var (i := 1) rfl q3h) (qa_cons (qe_tup (qa_cons (qe_var (i := 2) rfl q4u) (qa_cons (qe_var (i := 3) rfl q4v) qa_nil))) (qa_cons (qe_tup qa_nil) qa_nil))) (qe_tup (qa_cons (qe_var (i := 4) rfl q7x) qa_nil))))))
 (qss_one (qs_ret (qe_var (i := 1) rfl q3h)))))
theorem qac (G : Facts K mg) : ∃ fd, FunD K "__init__" "Machine.__init__" (defArgs qj) (defBody qj) (defScope qj) [.int (0)] [] (He.ma K (He.ga K "Machine") "__init__") fd ∧ FnOk P0 w K mg base (L2.CX P0 w) 4 (He.ma K (He.ga K "Machine") "__init__") fd ["self", "size", "marks", "steps", "now"] (SpM ⟨P0, w, K, cl K⟩ 5 f_Machineu_initu) := by
 obtain ⟨fd, Fd⟩ := G.q27
 obtain ⟨qad, q5k, qae⟩ := qa5 (w := w) (base := base) G
 have P_check_parts := q5k.kp
 have B_check_parts : Binds K qad ["size", "marks", "steps"] [] := q5k.bindsN fun _ _ _ _ _ _ us hl => match us, hl with | [_, _, _], _ => rfl
 obtain ⟨qaf, q5l, q5m⟩ := qa9 (w := w) (base := base) G
 have P_in_order := q5l.kp
 have B_in_order : Binds K qaf ["rows"] [] := q5l.bindsN fun _ _ _ _ _ _ us hl => match us, hl with | [_], _ => rfl
 obtain ⟨q3o, q2o, q3p⟩ := q5h (w := w) (base := base) G
 have P_TooLargeu_initu := q2o.kp
 have B_TooLargeu_initu : Binds K q3o ["self", "size"] [] := q2o.bindsN fun _ _ _ _ _ _ _ us hl => match us, hl with | [_, _], _ => rfl
 obtain ⟨qag, q5n, qah⟩ := qaa (w := w) (base := base) G
 have P_BadStateu_initu := q5n.kp
 have B_BadStateu_initu : Binds K qag ["self", "state"] [] := q5n.bindsN fun _ _ _ _ _ _ _ us hl => match us, hl with | [_, _], _ => rfl
 obtain ⟨qai, q5o, qaj⟩ := qab (w := w) (base := base) G
 have P_ends_by_ask := q5o.kp
 have B_ends_by_ask : Binds K qai ["steps"] [] := q5o.bindsN fun _ _ _ _ _ _ us hl => match us, hl with | [_], _ => rfl
 unfold f_Machineu_initu
 refine ⟨fd, Fd, fn_q Fd q1r fun cdv A outer s H E hr => ?_⟩
 refine xdk hr fun hu3 hu hu2 tk => ?_
 unfold m_Machineu_initu
 exact (qss_cons (qs_expr (qe_call (dvs := []) (ds := []) (dds := []) qae tk (hr.mono (by decide)) q83 G.g_check_parts P_check_parts B_check_parts .nil Dfl.nil (qa_cons (qe_var (i := 1) rfl q3i) (qa_cons (qe_var (i := 2) rfl q4w) (qa_cons (qe_var (i := 3) rfl q4x) qa_nil)))))
 (qss_cons (qs_set (i := 5) q1r.nd rfl q82 (qe_call (dvs := []) (ds := []) (dds := []) q5m tk (hr.mono (by decide)) q4y G.g_in_order P_in_order B_in_order .nil Dfl.nil (qa_cons (qe_lcV  rfl q1r.nd (qi_val (qe_var (i := 3) rfl q4x)) (own := [("state", 6), ("ask", 7), ("end", 8)]) (show BlkOk ["self", "size", "marks", "steps", "now", "ordered", "state", "ask", "end"] (defScope qj) _ [("state", 6), ("ask", 7), ("end", 8)] from ⟨rfl, by decide +kernel, by decide +kernel, by decide +kernel, by decide +kernel⟩) (fun _ _ _ _ _ => (qg_tup rfl (qgs_cons (qg_name (i := 6) q1r.nd rfl (by first | exact Or.inl rfl | exact Or.inr rfl)) (qgs_cons (qg_name (i := 7) q1r.nd rfl (by first | exact Or.inl rfl | exact Or.inr rfl)) (qgs_cons (qg_name (i := 8) q1r.nd rfl (by first | exact Or.inl rfl | exact Or.inr rfl)) qgs_nil))))) (fun _ _ _ _ _ => qts_nil) (fun _ _ _ _ _ => (qe_tup (qa_cons (qe_var (i := 6) rfl (by first | exact Or.inl rfl | exact Or.inr (Or.inl rfl) | exact Or.inr (Or.inr rfl))) (qa_cons (qe_var (i := 7) rfl (by first | exact Or.inl rfl | exact Or.inr (Or.inl rfl) | exact Or.inr (Or.inr rfl))) (qa_cons (qe_var (i := 8) rfl (by first | exact Or.inl rfl | exact Or.inr (Or.inl rfl) | exact Or.inr (Or.inr rfl))) qa_nil))))) (by decide)) qa_nil)))
 (qss_cons (qs_if (qt_cmp oq_gtI (qe_callB cq_len q4z G.f_len rfl (qa_cons (qe_var (i := 5) rfl q2s) qa_nil)) (qe_gInt q84 (G.i_MOST_STEPS).choose_spec) (nomark _))
 (qss_one (qs_raise1 (c := 3) rfl tk G.ox_TooLarge G.xf_TooLarge_size G.in_TooLarge.1 G.in_TooLarge.2 q3p (hr.mono (by decide)) B_TooLargeu_initu q85 G.g_TooLarge (qa_cons (qe_callB cq_len q4z G.f_len rfl (qa_cons (qe_var (i := 5) rfl q2s) qa_nil)) qa_nil)))
 qss_nil)
 (qss_cons (qs_if (qt_w (qw_or (qt_cmp oq_ltI (qe_var (i := 4) rfl q2t) qe_int (nomark _)) (qw_or1 (qt_cmp oq_geI (qe_var (i := 4) rfl q2t) (qe_var (i := 1) rfl q3i) (nomark _)))))
 (qss_one (qs_raise1 (c := 2) rfl tk G.ox_BadState G.xf_BadState_state G.in_BadState.1 G.in_BadState.2 qah (hr.mono (by decide)) B_BadStateu_initu q86 G.g_BadState (qa_cons (qe_var (i := 4) rfl q2t) qa_nil)))
 qss_nil)
 (qss_cons (qs_fld (qe_var (i := 0) rfl q2m) (qe_var (i := 1) rfl q3i) G.n_size)
 (qss_cons (qs_fld (qe_var (i := 0) rfl q2m) (qe_callTy cq_tuple q50 G.f_tuple rfl (qa_cons (qe_call (dvs := []) (ds := []) (dds := []) q5m tk (hr.mono (by decide)) q4y G.g_in_order P_in_order B_in_order .nil Dfl.nil (qa_cons (qe_var (i := 2) rfl q4w) qa_nil)) qa_nil)) G.n_marks)
 (qss_cons (qs_fld (qe_var (i := 0) rfl q2m) (qe_callTy cq_tuple q50 G.f_tuple rfl (qa_cons (qe_var (i := 5) rfl q2s) qa_nil)) G.n_steps)
 (qss_cons (qs_fld (qe_var (i := 0) rfl q2m) (qe_call (dvs := []) (ds := []) (dds := []) qaj tk (hr.mono (by decide)) q87 G.g_ends_by_ask P_ends_by_ask B_ends_by_ask .nil Dfl.nil (qa_cons (qe_var (i := 5) rfl q2s) qa_nil)) G.n_ends)
 (qss_one (qs_fld (qe_var (i := 0) rfl q2m) (qe_var (i := 4) rfl q2t) G.n_place))))))))))
theorem qak (G : Facts K mg) : ∃ fd, SupD P0 K "__init__" "Pattern.__init__" (defArgs q1e) (defBody q1e) (defScope q1e) [.int (0)] (cl K 14) (He.ma K (He.ga K "Machine") "__init__") (He.ma K (He.ga K "Pattern") "__init__") fd ∧ FnOk P0 w K mg base (L2.CX P0 w) 5 (He.ma K (He.ga K "Pattern") "__init__") fd ["self", "size", "marks", "steps", "now"] (SpM ⟨P0, w, K, cl K⟩ 5 f_Patternu_initu) := by
 obtain ⟨fd, Fd⟩ := G.q28
 obtain ⟨qal, q2x, qam⟩ := qac (w := w) (base := base) G
 have P_Machineu_initu := q2x.kp
 obtain ⟨da_Machineu_initu, va_Machineu_initu, Ba_Machineu_initu⟩ := q2x.binds1 (ps := ["self", "size", "marks", "steps", "now"]) 5 1 (by simp) rfl (fun _ _ _ _ _ _ _ us its l1 l2 => match us, its, l1, l2 with | [_, _, _, _, _], [_], _, _ => ⟨_, rfl, rfl⟩)
 have B_Machineu_initu : Binds K qal ["self", "size", "marks", "steps", "now"] [] := by rw [nil_vals va_Machineu_initu] at Ba_Machineu_initu; exact Ba_Machineu_initu
 obtain ⟨ds_Machineu_initu, VD_Machineu_initu, BD_Machineu_initu⟩ := q2x.binds1 (ps := ["self", "size", "marks", "steps", "now"]) 4 0 (by simp) rfl (fun _ _ _ _ _ _ _ us its l1 l2 => match us, its, l1, l2 with | [_, _, _, _], [_], _, _ => ⟨_, rfl, rfl⟩)
 have KB_Machineu_initu_now := funD_kb q2x (ps := ["self", "size", "marks", "steps", "now"]) 4 ["now"] (by simp) (fun _ _ _ _ _ _ _ us its ws l1 l2 l3 => match us, its, ws, l1, l2, l3 with | [_, _, _, _], [_], [_], _, _, _ => ⟨_, rfl, rfl⟩)
 unfold f_Patternu_initu
 refine ⟨fd, Fd, sup_q rfl (SupD.ok (t := (tCons (tVar 1) (tCons (tVar 2) (tCons (tVar 3) (tCons (tVar 4) tNil))))) Fd q88 rfl rfl (by decide +kernel) G.f_super qam B_Machineu_initu (fun _ _ _ _ _ _ _ => (pa_cons (pv 1) (pa_cons (pv 2) (pa_cons (pv 3) (pa_cons (pv 4) pa_nil))))) (fun v ws H Q hl hq => match ws, hl with | [a1, a2, a3, a4], _ => ⟨a1, rfl, a2, rfl, a3, rfl, a4, rfl, hq⟩) (fun _ => rfl) (fun _ => rfl) (fun _ => rfl) (fun _ => rfl) (fun _ _ _ => rfl))⟩
theorem qan (G : Facts K mg) : ∃ fd, FunD K "_law_client" "_law_client" (defArgs q18) (defBody q18) (defScope q18) [] [] (He.ga K "_law_client") fd ∧ FnOk P0 w K mg base (L2.CX P0 w) 7 (He.ga K "_law_client") fd ["_law_plain"] (SpM ⟨P0, w, K, cl K⟩ 1 f__law_client) := by
 obtain ⟨fd, Fd⟩ := G.q29
 obtain ⟨qao, q2y, qap⟩ := qak (w := w) (base := base) G
 have P_Patternu_initu := q2y.kp
 obtain ⟨da_Patternu_initu, va_Patternu_initu, Ba_Patternu_initu⟩ := q2y.binds1 (ps := ["self", "size", "marks", "steps", "now"]) 5 1 (by simp) rfl (fun _ _ _ _ _ _ _ _ us its l1 l2 => match us, its, l1, l2 with | [_, _, _, _, _], [_], _, _ => ⟨_, rfl, rfl⟩)
 have B_Patternu_initu : Binds K qao ["self", "size", "marks", "steps", "now"] [] := by rw [nil_vals va_Patternu_initu] at Ba_Patternu_initu; exact Ba_Patternu_initu
 obtain ⟨ds_Patternu_initu, VD_Patternu_initu, BD_Patternu_initu⟩ := q2y.binds1 (ps := ["self", "size", "marks", "steps", "now"]) 4 0 (by simp) rfl (fun _ _ _ _ _ _ _ _ us its l1 l2 => match us, its, l1, l2 with | [_, _, _, _], [_], _, _ => ⟨_, rfl, rfl⟩)
 have KB_Patternu_initu_now := SupD.kb q2y (ps := ["self", "size", "marks", "steps", "now"]) 4 ["now"] (by simp) (fun _ _ _ _ _ _ _ _ us its ws l1 l2 l3 => match us, its, ws, l1, l2, l3 with | [_, _, _, _], [_], [_], _, _, _ => ⟨_, rfl, rfl⟩)
 unfold f__law_client
 refine ⟨fd, Fd, fn_q Fd q89 fun cdv A outer s H E hr => ?_⟩
 refine xdk hr fun hu3 hu hu2 tk => ?_
 unfold m__law_client
 exact (qss_one (qs_ret (qe_make (c := 14) (dvs := []) (ds := []) (dds := []) G.k_Pattern qap tk (wi_d E) (hr.mono (by decide)) q8a G.g_Pattern B_Patternu_initu .nil Dfl.nil (qa_cons (qe_ix (xq_ixX hu2) (qe_var (i := 0) rfl q2u) qe_int fun _ _ => rfl) (qa_cons (qe_callTy (cq_listX rfl) q51 G.f_list rfl (qa_cons (qe_ix (xq_ixX hu2) (qe_var (i := 0) rfl q2u) qe_int fun _ _ => rfl) qa_nil)) (qa_cons (qe_callTy (cq_listX rfl) q51 G.f_list rfl (qa_cons (qe_ix (xq_ixX hu2) (qe_var (i := 0) rfl q2u) qe_int fun _ _ => rfl) qa_nil)) (qa_cons (qe_ix (xq_ixX hu2) (qe_var (i := 0) rfl q2u) qe_int fun _ _ => rfl) qa_nil)))))))
theorem qaq (G : Facts K mg) : ∃ fd, ErrD P0 K "__init__" "BadCount.__init__" (defArgs q1f) (defBody q1f) (defScope q1f) (cl K 7) (He.ma K (He.ga K "BadCount") "__init__") fd ∧ FnOk P0 w K mg base (L2.CX P0 w) 1 (He.ma K (He.ga K "BadCount") "__init__") fd ["self", "count"] (errSp (cl K 7) ["self", "count"] (tErr K ["count"] 1)) := by
 obtain ⟨fd, Fd⟩ := G.q2a
 exact ⟨fd, Fd, ErrD.ok (t := tCons (tC (.str "a number is out of its range")) tNil) Fd q8b rfl rfl (by decide +kernel) G.f_super (fun _ _ _ _ _ _ _ => pa_cons pe_str pa_nil) (fun _ _ _ h => h _ (by simp)) (fun _ _ _ _ _ _ _ => pss_one (ps_ost (pv 0) (pv 1))) (fun _ => rfl) (fun _ => rfl) (fun _ => rfl) (fun _ => rfl) (fun _ _ _ => rfl)⟩
theorem qar (G : Facts K mg) : ∃ fd, FunD K "pairs_by_state" "pairs_by_state" (defArgs qw) (defBody qw) (defScope qw) [] [] (He.ga K "pairs_by_state") fd ∧ FnOk P0 w K mg base (L2.CX P0 w) 1 (He.ga K "pairs_by_state") fd ["machine"] (SpM ⟨P0, w, K, cl K⟩ 1 f_pairs_by_state) := by
 obtain ⟨fd, Fd⟩ := G.q2b
 unfold f_pairs_by_state
 refine ⟨fd, Fd, fn_q Fd q1s fun cdv A outer s H E hr => ?_⟩
 refine xdk hr fun hu3 hu hu2 tk => ?_
 unfold m_pairs_by_state
 exact (qss_cons (qs_setLcS  (i := 1) rfl q1s.nd rfl (show (defScope qw).names.lookup ("found" : Str) = some .local by decide +kernel) rfl (qi_range1 q8h G.f_range (qa_cons (qe_fld (qe_var (i := 0) rfl q52) G.n_size) qa_nil)) (own := [("state", 2)]) (show BlkOk ["machine", "found", "state", "ask", "end"] (defScope qw) _ [("state", 2)] from ⟨rfl, by decide +kernel, by decide +kernel, by decide +kernel, by decide +kernel⟩) (fun _ _ _ _ _ => (qg_name (i := 2) q1s.nd rfl (by first | exact Or.inl rfl | exact Or.inr rfl))) (fun _ _ _ _ _ => qts_nil) (fun _ _ _ _ _ => (qe_tup qa_nil)) (by decide))
 (qss_cons (qs_for (passes_of rfl) rfl (qi_val (qe_fld (qe_var (i := 0) rfl q52) G.n_steps)) (qg_tup rfl (qgs_cons (qg_name (i := 2) q1s.nd rfl q8e) (qgs_cons (qg_name (i := 3) q1s.nd rfl q8f) (qgs_cons (qg_name (i := 4) q1s.nd rfl q8g) qgs_nil))))
 (qss_one (qs_sub hu2 (qe_var (i := 1) rfl q3j) (qe_var (i := 2) rfl q53) (qe_op oq_add (qe_ix (xq_ixX hu2) (qe_var (i := 1) rfl q3j) (qe_var (i := 2) rfl q53) fun _ _ => rfl) (qe_tup (qa_cons (qe_tup (qa_cons (qe_var (i := 3) rfl q8c) (qa_cons (qe_var (i := 4) rfl q8d) qa_nil))) qa_nil))))))
 (qss_one (qs_ret (qe_var (i := 1) rfl q3j)))))
theorem q5p (G : Facts K mg) : ∃ fd, FunD K "now" "Machine.now" (defArgs q1a) (defBody q1a) (defScope q1a) [] [] (Hx.gp K "Machine" "now") fd ∧ FnOk P0 w K mg base (L2.CX P0 w) 1 (Hx.gp K "Machine" "now") fd ["self"] (SpM ⟨P0, w, K, cl K⟩ 1 f_Machine_now) := by
 obtain ⟨fd, Fd⟩ := G.q2c
 unfold f_Machine_now
 refine ⟨fd, Fd, fn_q Fd q8i fun cdv A outer s H E hr => ?_⟩
 refine xdk hr fun hu3 hu hu2 tk => ?_
 unfold m_Machine_now
 exact (qss_one (qs_ret (qe_fld (qe_var (i := 0) rfl q8j) G.n_place)))
theorem qas (G : Facts K mg) : ∃ fd, FunD K "ask_rows" "ask_rows" (defArgs qk) (defBody qk) (defScope qk) [] [] (He.ga K "ask_rows") fd ∧ GFn1 P0 w K mg base 3 (He.ga K "ask_rows") fd ["pattern", "length"] (SpGM ⟨P0, w, K, cl K⟩ 2 f_ask_rows) := by
 obtain ⟨fd, Fd⟩ := G.q2d
 obtain ⟨qat, q5q, qau⟩ := qaq (w := w) (base := base) G
 have P_BadCountu_initu := q5q.kp
 have B_BadCountu_initu : Binds K qat ["self", "count"] [] := q5q.bindsN fun _ _ _ _ _ _ _ us hl => match us, hl with | [_, _], _ => rfl
 obtain ⟨qav, q5r, qaw⟩ := qar (w := w) (base := base) G
 have P_pairs_by_state := q5r.kp
 have B_pairs_by_state : Binds K qav ["machine"] [] := q5r.bindsN fun _ _ _ _ _ _ us hl => match us, hl with | [_], _ => rfl
 obtain ⟨q3q, q2p, q3r⟩ := q5p (w := w) (base := base) G
 have P_Machine_now := q2p.kp
 have B_Machine_now : Binds K q3q ["self"] [] := q2p.bindsN fun _ _ _ _ _ _ us hl => match us, hl with | [_], _ => rfl
 unfold f_ask_rows
 refine ⟨fd, Fd, gfn_q Fd q1h fun cdv A outer s H pn hr => ?_⟩
 refine xgk hr fun hu3 hu hu2 => ?_
 unfold m_ask_rows
 exact (qgs_sq (qg_pl (W := W0) (qs_if (qt_w (qw_or (qt_cmp oq_ltI (qe_var (i := 1) rfl q2n) qe_int (nomark _)) (qw_or1 (qt_cmp oq_gtI (qe_var (i := 1) rfl q2n) (qe_gInt q8r (G.i_LONGEST_ROW).choose_spec) (nomark _)))))
 (qss_one (qs_raise1 (c := 7) rfl tk0 G.ox_BadCount G.xf_BadCount_count G.in_BadCount.1 G.in_BadCount.2 qau (hr.mono (by decide)) B_BadCountu_initu q8s G.g_BadCount (qa_cons (qe_var (i := 1) rfl q2n) qa_nil)))
 qss_nil))
 (qgs_sq (qg_pl (W := W0) (qs_set (i := 2) q1h.nd rfl q8m (qe_call (dvs := []) (ds := []) (dds := []) qaw tk0 (hr.mono (by decide)) q8t G.g_pairs_by_state P_pairs_by_state B_pairs_by_state .nil Dfl.nil (qa_cons (qe_var (i := 0) rfl q54) qa_nil))))
 (qgs_sq (qg_pl (W := W0) (qs_set (i := 3) q1h.nd rfl q8n (qe_lstV (qa_cons (qe_tup (qa_cons (qe_tup qa_nil) (qa_cons (qe_prop (qe_var (i := 0) rfl q54) G.p_now q3r (hr.mono (by decide)) B_Machine_now) qa_nil))) qa_nil))))
 (qgs_sq (qg_for (W := W0) rfl (qi_range1 q8u G.f_range (qa_cons (qe_op oq_add (qe_var (i := 1) rfl q2n) qe_int) qa_nil)) (qg_name (i := 4) q1h.nd rfl q8o)
 (qgs_sq (qg_for (W := W0) rfl (qi_val (qe_var (i := 3) rfl q55)) (qg_tup rfl (qgs_cons (qg_name (i := 5) q1h.nd rfl q8p) (qgs_cons (qg_name (i := 6) q1h.nd rfl q8q) qgs_nil)))
 (qgs_sq (qg_yd (W := W0) (qe_var (i := 5) rfl q8k))
 qgs_nx))
 (qgs_sq (qg_pl (W := W0) (qs_if (qt_cmp oq_ltI (qe_var (i := 4) rfl q8l) (qe_var (i := 1) rfl q2n) (nomark _))
 (qss_one (qs_l2 kfV kf_V (k := 3) rfl q1h.nd rfl (show (defScope qk).names.lookup ("level" : Str) = some .local by decide +kernel) rfl [7] (qi_val (qe_var (i := 3) rfl q55)) (own := [("row", 5), ("state", 6), ("pair", 7)]) (show BlkOk ["pattern", "length", "pairs", "level", "size", "row", "state", "pair"] (defScope qk) _ [("row", 5), ("state", 6), ("pair", 7)] from ⟨rfl, by decide +kernel, by decide +kernel, by decide +kernel, by decide +kernel⟩) (fun _ _ _ _ _ => (qg_tup rfl (qgs_cons (qg_name (i := 5) q1h.nd rfl (by first | exact Or.inl rfl | exact Or.inr rfl)) (qgs_cons (qg_name (i := 6) q1h.nd rfl (by first | exact Or.inl rfl | exact Or.inr rfl)) qgs_nil)))) (fun _ _ _ _ _ => qts_nil) (fun _ _ _ _ _ => (qi_val (qe_ix (xq_ixX hu2) (qe_var (i := 2) rfl (by first | exact Or.inl rfl | exact Or.inr (Or.inl rfl) | exact Or.inr (Or.inr rfl))) (qe_var (i := 6) rfl (by first | exact Or.inl rfl | exact Or.inr (Or.inl rfl) | exact Or.inr (Or.inr rfl))) fun _ _ => rfl))) (fun _ _ _ _ _ => (qg_name (i := 7) q1h.nd rfl (by first | exact Or.inl rfl | exact Or.inr rfl))) (fun _ _ _ _ _ => qts_nil) (fun _ _ _ _ _ => (qe_tup (qa_cons (qe_op oq_add (qe_var (i := 5) rfl (by first | exact Or.inl rfl | exact Or.inr (Or.inl rfl) | exact Or.inr (Or.inr rfl))) (qe_tup (qa_cons (qe_var (i := 7) rfl (by first | exact Or.inl rfl | exact Or.inr (Or.inl rfl) | exact Or.inr (Or.inr rfl))) qa_nil))) (qa_cons (qe_ix (xq_ixX hu2) (qe_var (i := 7) rfl (by first | exact Or.inl rfl | exact Or.inr (Or.inl rfl) | exact Or.inr (Or.inr rfl))) qe_int fun _ _ => rfl) qa_nil)))) (by decide)))
 qss_nil))
 qgs_nx)))
 qgs_nx))))
theorem qax (G : Facts K mg) : ∃ fd, FunD K "_law_whole" "_law_whole" (defArgs q15) (defBody q15) (defScope q15) [] [] (He.ga K "_law_whole") fd ∧ FnOk P0 w K mg base (L2.CX P0 w) 1 (He.ga K "_law_whole") fd ["_law_x"] (SpM ⟨P0, w, K, cl K⟩ 1 f__law_whole) := by
 obtain ⟨fd, Fd⟩ := G.q2e
 unfold f__law_whole
 refine ⟨fd, Fd, fn_q Fd q8v fun cdv A outer s H E hr => ?_⟩
 refine xdk hr fun hu3 hu hu2 tk => ?_
 unfold m__law_whole
 exact (qss_one (qs_ret (qe_and (qe_callB cq_isi q57 G.f_isinstance rfl (qa_cons (qe_var (i := 0) rfl q56) (qa_cons (qe_bTy q8w G.f_int rfl) qa_nil))) (qe_one (qe_not (qe_callB cq_isi q57 G.f_isinstance rfl (qa_cons (qe_var (i := 0) rfl q56) (qa_cons (qe_bTy q8x G.f_bool rfl) qa_nil))))))))
theorem qay (G : Facts K mg) : ∃ fd, FunD K "_law_is_pair" "_law_is_pair" (defArgs q10) (defBody q10) (defScope q10) [] [] (He.ga K "_law_is_pair") fd ∧ FnOk P0 w K mg base (L2.CX P0 w) 2 (He.ga K "_law_is_pair") fd ["_law_x"] (SpM ⟨P0, w, K, cl K⟩ 1 f__law_is_pair) := by
 obtain ⟨fd, Fd⟩ := G.q2f
 obtain ⟨qaz, q5s, qb0⟩ := qax (w := w) (base := base) G
 have P__law_whole := q5s.kp
 have B__law_whole : Binds K qaz ["_law_x"] [] := q5s.bindsN fun _ _ _ _ _ _ us hl => match us, hl with | [_], _ => rfl
 unfold f__law_is_pair
 refine ⟨fd, Fd, fn_q Fd q8y fun cdv A outer s H E hr => ?_⟩
 refine xdk hr fun hu3 hu hu2 tk => ?_
 unfold m__law_is_pair
 exact (qss_one (qs_ret (qe_and (qe_callB cq_isi q58 G.f_isinstance rfl (qa_cons (qe_var (i := 0) rfl q2v) (qa_cons (qe_bTy q8z G.f_tuple rfl) qa_nil))) (qe_and (qe_cmp (oq_eq hu) (qe_callB cq_len q90 G.f_len rfl (qa_cons (qe_var (i := 0) rfl q2v) qa_nil)) qe_int (nomark _)) (qe_and (qe_callB cq_isi q58 G.f_isinstance rfl (qa_cons (qe_ix (xq_ixX hu2) (qe_var (i := 0) rfl q2v) qe_int fun _ _ => rfl) (qa_cons (qe_bTy q91 G.f_str rfl) qa_nil))) (qe_one (qe_call (dvs := []) (ds := []) (dds := []) qb0 tk (hr.mono (by decide)) q92 G.g__law_whole P__law_whole B__law_whole .nil Dfl.nil (qa_cons (qe_ix (xq_ixX hu2) (qe_var (i := 0) rfl q2v) qe_int fun _ _ => rfl) qa_nil))))))))
theorem qb1 (G : Facts K mg) : ∃ fd, FunD K "_law_is_row" "_law_is_row" (defArgs q12) (defBody q12) (defScope q12) [] [] (He.ga K "_law_is_row") fd ∧ FnOk P0 w K mg base (L2.CX P0 w) 3 (He.ga K "_law_is_row") fd ["_law_row"] (SpM ⟨P0, w, K, cl K⟩ 1 f__law_is_row) := by
 obtain ⟨fd, Fd⟩ := G.q2g
 obtain ⟨qb2, q5t, qb3⟩ := qay (w := w) (base := base) G
 have P__law_is_pair := q5t.kp
 have B__law_is_pair : Binds K qb2 ["_law_x"] [] := q5t.bindsN fun _ _ _ _ _ _ us hl => match us, hl with | [_], _ => rfl
 unfold f__law_is_row
 refine ⟨fd, Fd, fn_q Fd q3k fun cdv A outer s H E hr => ?_⟩
 refine xdk hr fun hu3 hu hu2 tk => ?_
 unfold m__law_is_row
 exact (qss_one (qs_ret (qe_and (qe_callB cq_isi q94 G.f_isinstance rfl (qa_cons (qe_var (i := 0) rfl q59) (qa_cons (qe_bTy q93 G.f_tuple rfl) qa_nil))) (qe_one (qe_callB (cq_all rfl) q95 G.f_all rfl (qa_cons (qe_lcV  rfl q3k.nd (qi_val (qe_var (i := 0) rfl q59)) (own := [("_law_pair", 1)]) (show BlkOk ["_law_row", "_law_pair"] (defScope q12) _ [("_law_pair", 1)] from ⟨rfl, by decide +kernel, by decide +kernel, by decide +kernel, by decide +kernel⟩) (fun _ _ _ _ _ => (qg_name (i := 1) q3k.nd rfl (by first | exact Or.inl rfl | exact Or.inr rfl))) (fun _ _ _ _ _ => qts_nil) (fun _ _ _ _ _ => (qe_call (dvs := []) (ds := []) (dds := []) qb3 tk0 (hr.mono (by decide)) rfl G.g__law_is_pair P__law_is_pair B__law_is_pair .nil Dfl.nil (qa_cons (qe_var (i := 1) rfl (by first | exact Or.inl rfl | exact Or.inr (Or.inl rfl) | exact Or.inr (Or.inr rfl))) qa_nil))) (by decide)) qa_nil))))))
theorem qb4 (G : Facts K mg) : ∃ fd, FunD K "law" "law" (defArgs q5) (defBody q5) (defScope q5) [] [] (He.ga K "law") fd ∧ FnOk P0 w K mg base (L2.CX P0 w) 9 (He.ga K "law") fd ["_law_script"] (SpM ⟨P0, w, K, cl K⟩ 1 f_law_38) := by
 obtain ⟨fd, Fd⟩ := G.q1m
 obtain ⟨qb5, q5u, q3s⟩ := q9t (w := w) (base := base) G
 have P__law_draws := q5u.kp
 have B__law_draws : Binds K qb5 ["_law_script", "_law_k", "_law_many"] [] := q5u.bindsN fun _ _ _ _ _ _ us hl => match us, hl with | [_, _, _], _ => rfl
 obtain ⟨qb6, q5v, qb7⟩ := q9w (w := w) (base := base) G
 have P__law_asks := q5v.kp
 have B__law_asks : Binds K qb6 ["_law_row", "_law_many"] [] := q5v.bindsN fun _ _ _ _ _ _ us hl => match us, hl with | [_, _], _ => rfl
 obtain ⟨qb8, q5w, qb9⟩ := q9y (w := w) (base := base) G
 have P__law_random := q5w.kp
 have B__law_random : Binds K qb8 ["_law_row", "_law_asks_here"] [] := q5w.bindsN fun _ _ _ _ _ _ us hl => match us, hl with | [_, _], _ => rfl
 obtain ⟨qba, q5x, qbb⟩ := qa1 (w := w) (base := base) G
 have P__law_pairs := q5x.kp
 have B__law_pairs : Binds K qba ["_law_plain", "_law_asks_here"] [] := q5x.bindsN fun _ _ _ _ _ _ us hl => match us, hl with | [_, _], _ => rfl
 obtain ⟨qbc, q5y, qbd⟩ := qa2 (w := w) (base := base) G
 have P__law_all_rows := q5y.kp
 have B__law_all_rows : Binds K qbc ["_law_pairs_here", "_law_here", "_law_top"] [] := q5y.bindsN fun _ _ _ _ _ _ us hl => match us, hl with | [_, _, _], _ => rfl
 obtain ⟨qbe, q5z, qbf⟩ := qan (w := w) (base := base) G
 have P__law_client := q5z.kp
 have B__law_client : Binds K qbe ["_law_plain"] [] := q5z.bindsN fun _ _ _ _ _ _ us hl => match us, hl with | [_], _ => rfl
 obtain ⟨qbg, q60, qbh⟩ := qas (w := w) (base := base) G
 have P_ask_rows := q60.kp
 have B_ask_rows : Binds K qbg ["pattern", "length"] [] := q60.bindsN fun _ _ _ _ _ _ us hl => match us, hl with | [_, _], _ => rfl
 obtain ⟨qbi, q61, qbj⟩ := qb1 (w := w) (base := base) G
 have P__law_is_row := q61.kp
 have B__law_is_row : Binds K qbi ["_law_row"] [] := q61.bindsN fun _ _ _ _ _ _ us hl => match us, hl with | [_], _ => rfl
 obtain ⟨q3q, q2p, q3r⟩ := q5p (w := w) (base := base) G
 have P_Machine_now := q2p.kp
 have B_Machine_now : Binds K q3q ["self"] [] := q2p.bindsN fun _ _ _ _ _ _ us hl => match us, hl with | [_], _ => rfl
 unfold f_law_38
 refine ⟨fd, Fd, fn_q Fd q14 fun cdv A outer s H E hr => ?_⟩
 refine xdk hr fun hu3 hu hu2 tk => ?_
 unfold m_law_38
 exact (qss_cons (qs_set (i := 1) q14.nd rfl q9a (qe_call (dvs := []) (ds := []) (dds := []) q3s tk (hr.mono (by decide)) q3m G.g__law_draws P__law_draws B__law_draws .nil Dfl.nil (qa_cons (qe_var (i := 0) rfl q3l) (qa_cons qe_int (qa_cons qe_int qa_nil)))))
 (qss_cons (qs_set (i := 2) q14.nd rfl q9b (qe_call (dvs := []) (ds := []) (dds := []) qb7 tk (hr.mono (by decide)) q9j G.g__law_asks P__law_asks B__law_asks .nil Dfl.nil (qa_cons (qe_call (dvs := []) (ds := []) (dds := []) q3s tk (hr.mono (by decide)) q3m G.g__law_draws P__law_draws B__law_draws .nil Dfl.nil (qa_cons (qe_var (i := 0) rfl q3l) (qa_cons qe_int (qa_cons qe_int qa_nil)))) (qa_cons (qe_op oq_add qe_int (qe_op oq_mod (qe_callTy cq_int q5e G.f_int rfl (qa_cons (qe_ix (xq_ixX hu2) (qe_var (i := 1) rfl q5a) qe_int fun _ _ => rfl) qa_nil)) qe_int)) qa_nil))))
 (qss_cons (qs_set (i := 3) q14.nd rfl q9c (qe_callB (cq_sorted hu) q9k G.f_sorted rfl (qa_cons (qe_lcV  rfl q14.nd (qi_val (qe_var (i := 2) rfl q96)) (own := [("_law_ask", 11)]) (show BlkOk ["_law_script", "_law_shape", "_law_names", "_law_asks_here", "_law_plain", "_law_pairs_here", "_law_pattern", "_law_turn", "_law_size", "_law_due", "_law_rows", "_law_ask", "_law_row"] (defScope q5) _ [("_law_ask", 11)] from ⟨rfl, by decide +kernel, by decide +kernel, by decide +kernel, by decide +kernel⟩) (fun _ _ _ _ _ => (qg_name (i := 11) q14.nd rfl (by first | exact Or.inl rfl | exact Or.inr rfl))) (fun _ _ _ _ _ => qts_nil) (fun _ _ _ _ _ => (qe_callTy cq_str rfl G.f_str rfl (qa_cons (qe_var (i := 11) rfl (by first | exact Or.inl rfl | exact Or.inr (Or.inl rfl) | exact Or.inr (Or.inr rfl))) qa_nil))) (by decide)) qa_nil)))
 (qss_cons (qs_set (i := 4) q14.nd rfl q9d (qe_call (dvs := []) (ds := []) (dds := []) qb9 tk (hr.mono (by decide)) q9l G.g__law_random P__law_random B__law_random .nil Dfl.nil (qa_cons (qe_call (dvs := []) (ds := []) (dds := []) q3s tk (hr.mono (by decide)) q3m G.g__law_draws P__law_draws B__law_draws .nil Dfl.nil (qa_cons (qe_var (i := 0) rfl q3l) (qa_cons qe_int (qa_cons qe_int qa_nil)))) (qa_cons (qe_var (i := 3) rfl q5b) qa_nil))))
 (qss_cons (qs_set (i := 5) q14.nd rfl q9e (qe_call (dvs := []) (ds := []) (dds := []) qbb tk (hr.mono (by decide)) q9m G.g__law_pairs P__law_pairs B__law_pairs .nil Dfl.nil (qa_cons (qe_var (i := 4) rfl q2w) (qa_cons (qe_var (i := 3) rfl q5b) qa_nil))))
 (qss_cons (qs_asg (qe_call (dvs := []) (ds := []) (dds := []) qbd tk (hr.mono (by decide)) q9n G.g__law_all_rows P__law_all_rows B__law_all_rows .nil Dfl.nil (qa_cons (qe_var (i := 5) rfl q97) (qa_cons (qe_ix (xq_ixX hu2) (qe_var (i := 4) rfl q2w) qe_int fun _ _ => rfl) (qa_cons (qe_op oq_mod (qe_callTy cq_int q5e G.f_int rfl (qa_cons (qe_ix (xq_ixX hu2) (qe_var (i := 1) rfl q5a) qe_int fun _ _ => rfl) qa_nil)) qe_int) qa_nil)))) (qg_tup rfl (qgs_cons (qg_name (i := 8) q14.nd rfl q9f) (qgs_cons (qg_name (i := 9) q14.nd rfl q9g) qgs_nil))))
 (qss_cons (qs_set (i := 6) q14.nd rfl q9h (qe_call (dvs := []) (ds := []) (dds := []) qbf tk (hr.mono (by decide)) q9o G.g__law_client P__law_client B__law_client .nil Dfl.nil (qa_cons (qe_var (i := 4) rfl q2w) qa_nil)))
 (qss_cons (qs_for (passes_of rfl) rfl (qi_range1 q9p G.f_range (qa_cons qe_int qa_nil)) (qg_name (i := 7) q14.nd rfl q9i)
 (qss_cons (qs_setLcG (i := 10) q14.nd rfl (show (defScope q5).names.lookup ("_law_rows" : Str) = some .local by decide +kernel) rfl qbh (hr.mono (by decide)) q9q G.g_ask_rows P_ask_rows B_ask_rows (qa_cons (qe_var (i := 6) rfl q5c) (qa_cons (qe_var (i := 8) rfl q98) qa_nil)) rfl (by decide +kernel) (by decide +kernel) (by decide +kernel))
 (qss_one (qs_if (qt_w (qw_or (qt_not (qt_val (qe_callB (cq_all rfl) q9r G.f_all rfl (qa_cons (qe_lcV  rfl q14.nd (qi_val (qe_var (i := 10) rfl q5d)) (own := [("_law_row", 12)]) (show BlkOk ["_law_script", "_law_shape", "_law_names", "_law_asks_here", "_law_plain", "_law_pairs_here", "_law_pattern", "_law_turn", "_law_size", "_law_due", "_law_rows", "_law_ask", "_law_row"] (defScope q5) _ [("_law_row", 12)] from ⟨rfl, by decide +kernel, by decide +kernel, by decide +kernel, by decide +kernel⟩) (fun _ _ _ _ _ => (qg_name (i := 12) q14.nd rfl (by first | exact Or.inl rfl | exact Or.inr rfl))) (fun _ _ _ _ _ => qts_nil) (fun _ _ _ _ _ => (qe_call (dvs := []) (ds := []) (dds := []) qbj tk0 (hr.mono (by decide)) rfl G.g__law_is_row P__law_is_row B__law_is_row .nil Dfl.nil (qa_cons (qe_var (i := 12) rfl (by first | exact Or.inl rfl | exact Or.inr (Or.inl rfl) | exact Or.inr (Or.inr rfl))) qa_nil))) (by decide)) qa_nil)))) (qw_or1 (qt_cmp (oq_ne hu) (qe_var (i := 10) rfl q5d) (qe_var (i := 9) rfl q99) (nomark _)))))
 (qss_one (qs_ret qe_bl))
 qss_nil))))
 (qss_one (qs_ret (qe_cmp (oq_eq hu) (qe_prop (qe_var (i := 6) rfl q5c) G.p_now q3r (hr.mono (by decide)) B_Machine_now) (qe_ix (xq_ixX hu2) (qe_var (i := 4) rfl q2w) qe_int fun _ _ => rfl) (nomark _))))))))))))
end
end K04
namespace Mi
open PySem Pu L2
def celN (ns : List Int) (k : Int) : Int := ns.getD k.toNat 0
theorem cell_ok (ns : List Int) (k : Int) (hk : 0 ≤ k) (S : Sto) : f__law_cell [.v (.frl (ns.map D.int)), .v (.int k)] S = .ok (.v (.int (celN ns k))) S := by
 unfold f__law_cell
 refine runF_eq ?_
 simp [m__law_cell, start0]
 split
 · rename_i h
   rw [atI_get 0 hk h]
   rfl
 · rename_i h
   simp [celN]
   rw [List.getElem?_eq_none (by omega)]
   rfl
def rA (r : Int) : Nat → Int
 | 0 => r
 | n + 1 => rA r n / 64
def sB (s : Int) : Nat → Int
 | 0 => s
 | n + 1 => (sB s n * 48271 + n + 11) % 2147483647
def rowN (ns : List Int) (k : Int) (n : Nat) : List Int :=
 if 1000000000000000000 ≤ celN ns k then (List.range n).map fun i => rA (celN ns k - 1000000000000000000) i % 64
 else (List.range n).map fun i => sB ((celN ns k * 7919 + k * 104729 + 12345) % 2147483647) (i + 1) / 65536 % 64
@[simp] theorem rowN_len (ns : List Int) (k : Int) (n : Nat) : (rowN ns k n).length = n := by unfold rowN; split <;> simp
theorem draws_ok (ns : List Int) (k : Int) (n : Nat) (hk : 0 ≤ k) (hn : n ≤ 1000) (S : Sto) : f__law_draws [.v (.frl (ns.map D.int)), .v (.int k), .v (.int n)] S = .ok (.v (.lst ((rowN ns k n).map D.int))) S := by
 unfold f__law_draws
 refine runF_eq ?_
 simp [m__law_draws, start0, cell_ok ns k hk]
 split
 · rename_i h
   refine ⟨by omega, for_inv (fun i ρ T => ∃ x, ρ = [some (.v (.frl (ns.map D.int))), some (.v (.int k)), some (.v (.int n)), some (.v (.int (celN ns k))), some (.r S.length), none, x, some (.v (.int (rA (celN ns k - 1000000000000000000) i)))] ∧
     T = S ++ [.lst ((((List.range i).map fun i => rA (celN ns k - 1000000000000000000) i % 64).map D.int).map U.v)]) ⟨_, rfl, rfl⟩ ?_ ?_⟩
   · rintro i u ρ T hu ⟨x, rfl, rfl⟩
     obtain ⟨hi, rfl⟩ := rngU_get hu
     simp [isL_r]
     exact ⟨by omega, by simp [rA], by simp [List.range_succ]⟩
   · rintro ρ T ⟨x, rfl, rfl⟩
     simp only [rngU_len, getv_s, getv_0]
     rw [fin_l0, rowN, if_pos h]
 · rename_i h
   refine ⟨by omega, for_inv (fun i ρ T => ∃ x, ρ = [some (.v (.frl (ns.map D.int))), some (.v (.int k)), some (.v (.int n)), some (.v (.int (celN ns k))), some (.r S.length), some (.v (.int (sB ((celN ns k * 7919 + k * 104729 + 12345) % 2147483647) i))), x, none] ∧
     T = S ++ [.lst ((((List.range i).map fun i => sB ((celN ns k * 7919 + k * 104729 + 12345) % 2147483647) (i + 1) / 65536 % 64).map D.int).map U.v)]) ⟨_, rfl, rfl⟩ ?_ ?_⟩
   · rintro i u ρ T hu ⟨x, rfl, rfl⟩
     obtain ⟨hi, rfl⟩ := rngU_get hu
     simp [isL_r]
     exact ⟨by omega, by simp [sB], by simp [List.range_succ, sB]⟩
   · rintro ρ T ⟨x, rfl, rfl⟩
     simp only [rngU_len, getv_s, getv_0]
     rw [fin_l0, rowN, if_neg h]
theorem draws_i (ns : List Int) (k n : Int) (hk : 0 ≤ k) (hn0 : 0 ≤ n) (hn : n ≤ 1000) (S : Sto) : f__law_draws [.v (.frl (ns.map D.int)), .v (.int k), .v (.int n)] S = .ok (.v (.lst ((rowN ns k n.toNat).map D.int))) S := by
 obtain ⟨m, rfl⟩ := Int.eq_ofNat_of_zero_le hn0
 exact draws_ok ns k m hk (by omega) S
theorem getD_lt {α : Type} {xs : List α} {i : Nat} (d : α) (h : i < xs.length) : xs.getD i d = xs[i] := by simp [List.getD, List.getElem?_eq_getElem h]
theorem whole_ok (i : Int) (S : Sto) : f__law_whole [.v (.int i)] S = .ok (.v (.bl true)) S := by
 unfold f__law_whole
 refine runF_eq ?_
 simp [m__law_whole, start0]
def mkS (l : List Nat) : Str := ⟨l.toArray⟩
@[simp] theorem mkS_cps (l : List Nat) : (mkS l).cps.toList = l := rfl
@[simp] theorem mkS_len (l : List Nat) : (mkS l).length = l.length := by show l.toArray.size = _; simp
theorem mkS_of (z : Str) : z = mkS z.cps.toList := by cases z; simp [mkS]
theorem mkS_inj {a b : List Nat} (h : mkS a = mkS b) : a = b := by
 have := congrArg (fun z : Str => z.cps.toList) h
 simpa using this
theorem mkS_app (a b : List Nat) : mkS a ++ mkS b = mkS (a ++ b) := by
 show (⟨a.toArray ++ b.toArray⟩ : Str) = ⟨(a ++ b).toArray⟩
 simp
theorem cut_hi (l : List Nat) (k : Int) (h0 : 0 ≤ k) : cutS (mkS l) none (some k) = mkS (l.take k.toNat) := by
 obtain ⟨n, rfl⟩ := Int.eq_ofNat_of_zero_le h0
 unfold cutS
 show mkS _ = _
 rw [mkS_cps, mkS_len, HT.sIx_none, HT.sIx_nat]
 congr 1
 simp only [List.drop_zero, Nat.sub_zero, Int.toNat_natCast]
 by_cases h : n ≤ l.length
 · rw [Nat.min_eq_left h]
 · rw [Nat.min_eq_right (by omega), List.take_of_length_le (by omega), List.take_of_length_le (by omega)]
theorem cut_mid (l : List Nat) (j k : Int) (h0 : 0 ≤ j) (h1 : 0 ≤ k) : cutS (mkS l) (some j) (some k) = mkS ((l.take k.toNat).drop j.toNat) := by
 obtain ⟨n, rfl⟩ := Int.eq_ofNat_of_zero_le h0
 obtain ⟨m, rfl⟩ := Int.eq_ofNat_of_zero_le h1
 unfold cutS
 show mkS _ = _
 rw [mkS_cps, mkS_len, HT.sIx_nat, HT.sIx_nat]
 congr 1
 simp only [Int.toNat_natCast]
 rw [List.drop_take]
 by_cases h : n ≤ l.length
 · rw [Nat.min_eq_left h]
   by_cases h2 : m ≤ l.length
   · rw [Nat.min_eq_left h2]
   · rw [Nat.min_eq_right (by omega), List.take_of_length_le (by simp), List.take_of_length_le (by simp; omega)]
 · rw [List.drop_eq_nil_of_le (Nat.le_min.mpr ⟨by omega, Nat.le_refl _⟩), List.drop_eq_nil_of_le (by omega)]
   simp
theorem join_chars (cs : List Nat) : Txt.join (Str.ofString "") (cs.map fun c => mkS [c]) = mkS cs := by
 rw [TL.join_eq]
 have e := TL.tl_join (Str.ofString "") (cs.map fun c => mkS [c])
 have hj : ∀ ps : List (List Nat), TL.joinL [] ps = ps.flatten := by
   intro ps
   induction ps with
   | nil => rfl
   | cons p r ih =>
     cases r with
     | nil => simp [TL.joinL]
     | cons q r => simp only [TL.joinL, List.nil_append, List.flatten_cons] at ih ⊢; rw [ih]
 have h0 : TL.tl (Str.ofString "") = [] := rfl
 rw [h0, hj, List.map_map] at e
 rw [mkS_of (Str.join _ _)]
 have e2 : (Str.join (Str.ofString "") (cs.map fun c => mkS [c])).cps.toList = (cs.map (TL.tl ∘ fun c => mkS [c])).flatten := e
 rw [e2]
 congr 1
 have : (TL.tl ∘ fun c => mkS [c]) = fun c => [c] := by funext c; rfl
 rw [this]
 clear e e2
 induction cs with
 | nil => rfl
 | cons c cs ih => simp [ih]
def lett26 (x : Int) : Nat := 97 + (x % 26).toNat
abbrev lettT : Str := Str.ofString "abcdefghijklmnopqrstuvwxyz"
theorem lett_l : lettT.cps.toList = (List.range 26).map (97 + ·) := by decide +kernel
theorem lett_len : lettT.length ≤ 100000 := by decide +kernel
theorem lett_at (x : Int) (k : Nat → Prop) : wpo (atI lettT.cps.toList (x % 26)) k = k (lett26 x) := by
 rw [lett_l, atI_get 0 (by omega) (by simp; omega)]
 have h : (x % 26).toNat < 26 := by omega
 rw [getD_lt _ (by simp; omega)]
 simp [lett26]
def rg (row : List Int) (i : Nat) : Int := row.getD i 0
def wordN (row : List Int) : List Nat := (row.take 8).map lett26
def askL (row : List Int) (i : Nat) : List Nat :=
 if rg row 8 % 2 = 0 then (wordN row).take ((rg row 9 + 3 * i) % 8 + 1).toNat
 else
   let size := rg row 9 % 8 + 1
   let place := rg row 10 % size
   (wordN row).take place.toNat ++ [lett26 (rg row 11 + (rg row 12 % 6 * 2 + 1) * i)] ++ ((wordN row).take size.toNat).drop (place + 1).toNat
def askN (row : List Int) (i : Nat) : Str := mkS (askL row i)
theorem asks_ok (row : List Int) (hl : row.length = 13) (n : Nat) (hn : n ≤ 100) (S : Sto) : f__law_asks [.v (.lst (row.map D.int)), .v (.int n)] S = .ok (.v (.lst ((List.range n).map fun i => D.str (askN row i)))) S := by
 unfold f__law_asks
 refine runF_eq ?_
 have hI : ∀ i : Int, 0 ≤ i → i < 13 → ∀ k : Int → Prop, wpo (atI row i) k = k (rg row i.toNat) := fun i h0 h1 k => atI_get 0 h0 (by omega)
 simp [m__law_asks, start0]
 refine w_lcV (ds := (row.take 8).map D.int) (src := none) (S1 := S) (fun _ => true) (fun d => match d with | .int x => .str (mkS [lett26 x]) | _ => .non) ?_ ?_ nofun ?_ ?_
 · simp [cutU_map, cutU, HT.sIx]
 · simp; omega
 · intro d hd acc
   obtain ⟨x, hx, rfl⟩ := List.mem_map.mp hd
   simp [wipeE]
   refine ⟨lett_len, ?_⟩
   rw [lett_at]
   rfl
 · have e : ((((row.take 8).map D.int).filter fun _ => true).map fun d => match d with | .int x => D.str (mkS [lett26 x]) | _ => .non) = ((wordN row).map fun c => mkS [c]).map D.str := by
     rw [List.filter_eq_self.mpr (fun _ _ => rfl)]
     simp [wordN, Function.comp_def]
   have hwl : (wordN row).length = 8 := by simp [wordN]; omega
   have hws : (((wordN row).map fun c => mkS [c]).map (·.length)).sum + ((wordN row).map fun c => mkS [c]).length * (Str.ofString "").length ≤ 100 := by
     have e1 : (((wordN row).map fun c => mkS [c]).map (·.length)).sum = ((wordN row).map fun c => mkS [c]).length := sum_ones fun x hx => by
       obtain ⟨y, _, rfl⟩ := List.mem_map.mp hx
       rfl
     have e2 : (Str.ofString "").length = 0 := rfl
     rw [e1, e2]; simp; omega
   rw [e, v_join _ _ (by omega), join_chars]
   refine ⟨by omega, ?_⟩
   refine for_inv (fun i ρ T => ∃ x5 x6 x7 x8 x9 x10, ρ = [some (.v (.lst (row.map D.int))), some (.v (.int n)), some (.v (.str "abcdefghijklmnopqrstuvwxyz")), some (.v (.str (mkS (wordN row)))), some (.r S.length), x5, x6, x7, x8, x9, x10] ∧
     T = S ++ [.lst (((List.range i).map fun i => D.str (askN row i)).map U.v)]) ⟨none, none, none, none, none, none, rfl, rfl⟩ ?_ ?_
   · rintro i u ρ T hu ⟨x5, x6, x7, x8, x9, x10, rfl, rfl⟩
     obtain ⟨hi, rfl⟩ := rngU_get hu
     simp [hI, isL_r, hwl]
     split
     · rename_i hp
       refine ⟨by omega, ?_⟩
       rw [cut_hi _ _ (by omega)]
       simp [List.range_succ, askN, askL, hp]
     · rename_i hp
       have hsz : 0 < rg row 9 % 8 + 1 := by omega
       have hpl : 0 ≤ rg row 10 % (rg row 9 % 8 + 1) := Int.emod_nonneg _ (by omega)
       have hpl2 : rg row 10 % (rg row 9 % 8 + 1) < rg row 9 % 8 + 1 := Int.emod_lt_of_pos _ hsz
       refine ⟨by omega, .inr (by omega), lett_len, ?_⟩
       rw [lett_at]
       rw [cut_hi _ _ hpl, cut_mid _ _ _ (by omega) (by omega)]
       simp only [show (⟨#[lett26 (rg row 11 + (rg row 12 % 6 * 2 + 1) * i)]⟩ : Str) = mkS [lett26 (rg row 11 + (rg row 12 % 6 * 2 + 1) * i)] from rfl, mkS_app, mkS_len]
       refine ⟨by simp; omega, by simp; omega, by omega, ?_⟩
       simp [List.range_succ, askN, askL, hp]
   · rintro ρ T ⟨x5, x6, x7, x8, x9, x10, rfl, rfl⟩
     simp only [rngU_len, getv_s, getv_0]
     rw [fin_l0]
def AskS (z : Str) : Prop := 1 ≤ z.length ∧ z.length ≤ 8 ∧ ∀ c ∈ z.cps.toList, 97 ≤ c ∧ c ≤ 122
theorem lett26_bd (x : Int) : 97 ≤ lett26 x ∧ lett26 x ≤ 122 := by unfold lett26; omega
theorem word_bd (row : List Int) : ∀ c ∈ wordN row, 97 ≤ c ∧ c ≤ 122 := by
 intro c hc
 obtain ⟨x, _, rfl⟩ := List.mem_map.mp hc
 exact lett26_bd x
theorem askN_ok (row : List Int) (hl : row.length = 13) (i : Nat) : AskS (askN row i) := by
 have hwl : (wordN row).length = 8 := by simp [wordN]; omega
 unfold AskS askN
 rw [mkS_len, mkS_cps]
 unfold askL
 split
 · refine ⟨by simp; omega, by simp; omega, fun c hc => word_bd row c (List.mem_of_mem_take hc)⟩
 · have hsz : 0 < rg row 9 % 8 + 1 := by omega
   have hpl : 0 ≤ rg row 10 % (rg row 9 % 8 + 1) := Int.emod_nonneg _ (by omega)
   have hpl2 : rg row 10 % (rg row 9 % 8 + 1) < rg row 9 % 8 + 1 := Int.emod_lt_of_pos _ hsz
   refine ⟨by simp; omega, by simp; omega, fun c hc => ?_⟩
   simp only [List.mem_append, List.mem_singleton] at hc
   rcases hc with (hc | hc) | hc
   · exact word_bd row c (List.mem_of_mem_take hc)
   · rw [hc]; exact lett26_bd _
   · exact word_bd row c (List.mem_of_mem_take (List.mem_of_mem_drop hc))
theorem askN_inj (row : List Int) (hl : row.length = 13) (i j : Nat) (hi : i < 8) (hj : j < 8) (h : askN row i = askN row j) : i = j := by
 have hwl : (wordN row).length = 8 := by simp [wordN]; omega
 have h := mkS_inj h
 unfold askL at h
 split at h
 · have e := congrArg List.length h
   simp only [List.length_take, hwl] at e
   omega
 · have hsz : 0 < rg row 9 % 8 + 1 := by omega
   have hpl : 0 ≤ rg row 10 % (rg row 9 % 8 + 1) := Int.emod_nonneg _ (by omega)
   simp only [List.append_assoc, List.singleton_append] at h
   have h2 := List.append_cancel_left h
   injection h2 with h3 _
   unfold lett26 at h3
   have h4 : (rg row 11 + (rg row 12 % 6 * 2 + 1) * i) % 26 = (rg row 11 + (rg row 12 % 6 * 2 + 1) * j) % 26 := by omega
   have h5 : rg row 12 % 6 = 0 ∨ rg row 12 % 6 = 1 ∨ rg row 12 % 6 = 2 ∨ rg row 12 % 6 = 3 ∨ rg row 12 % 6 = 4 ∨ rg row 12 % 6 = 5 := by omega
   rcases h5 with h5 | h5 | h5 | h5 | h5 | h5 <;> rw [h5] at h4 <;> omega
end Mi
namespace Mi
open PySem Pu L2
structure OrdOn (T : D → Prop) (lt : D → D → Prop) : Prop where
 irr : ∀ a, ¬ lt a a
 tr : ∀ a b c, lt a b → lt b c → lt a c
 tot : ∀ a b, T a → T b → ¬ lt a b → a ≠ b → lt b a
 dat : ∀ a, T a → isDat a = true
 ev : ∀ a b, T a → T b → ∀ (S : Sto) (q : U → Sto → Prop) [Decidable (lt a b)], wpO (fLtD (.v a) (.v b) S) q = q (.v (.bl (decide (lt a b)))) S
theorem qbk (i j : Int) (S : Sto) (q : U → Sto → Prop) : wpO (fLtD (.v (.int i)) (.v (.int j)) S) q = q (.v (.bl (decide (i < j)))) S := by
 rw [v_ltD (p := .int i) (r := .int j) rfl rfl (by simp) (by simp) (by simp [PySem.W.alike]) (by simp), PySem.W.dataLt_int]
def dlt (a b : D) : Prop := PySem.W.dataLt (encD a) (encD b) = true
instance (a b : D) : Decidable (dlt a b) := by unfold dlt; infer_instance
structure Form (T : D → Prop) : Prop where
 dat : ∀ a, T a → isDat a = true
 al : ∀ a b, T a → T b → PySem.W.alike (encD a) (encD b) = true
 nn : ∀ a, T a → a ≠ .non
theorem enc_of {a : D} (h : isDat a = true) : pyOf a = some (encD a) := by
 obtain ⟨k, e, _⟩ := py_of h
 unfold encD
 rw [e]; rfl
theorem dlt_irr (a : D) : ¬ dlt a a := by
 unfold dlt PySem.W.dataLt
 rw [PyProof.Rows.lex_irrefl]; simp
theorem dlt_tr (a b c : D) : dlt a b → dlt b c → dlt a c := PyProof.Rows.lex_trans _ _ _
theorem Form.ord {T : D → Prop} (F : Form T) : OrdOn T dlt where
 irr := dlt_irr
 tr := dlt_tr
 dat := F.dat
 tot := fun a b ha hb h1 h2 => by
   have e1 := enc_of (F.dat a ha)
   have e2 := enc_of (F.dat b hb)
   have al := F.al a b ha hb
   have hne : PyData.eqv (encD a) (encD b) = false := by
     cases e : PyData.eqv (encD a) (encD b) with
     | false => rfl
     | true => exact absurd (py_inj e1 (by rw [(py_eqv e1 e2).mp e]; exact e2)) h2
   have ht := (PySem.W.toks_eqv _ _ al).2 hne
   have hk : PySem.W.keyToks (encD a) ≠ PySem.W.keyToks (encD b) := fun z => by
     have t1 := ht [] [.inl 0]
     have t2 := ht [.inl 0] []
     rw [z] at t1 t2
     rw [PySem.W.lex_pre] at t1 t2
     have := t1.trans t2.symm
     simp [PyProof.Rows.lexLt] at this
   unfold dlt PySem.W.dataLt at h1 ⊢
   cases e : PyProof.Rows.lexLt PyProof.Rows.itemOrd (PySem.W.keyToks (encD b)) (PySem.W.keyToks (encD a)) with
   | true => rfl
   | false => exact absurd (PyProof.Rows.lex_total _ _ (by simpa using h1) e) hk
 ev := fun a b ha hb S q _ => by
   rw [v_ltD (enc_of (F.dat a ha)) (enc_of (F.dat b hb)) (F.dat a ha) (F.dat b hb) (F.al a b ha hb) (F.nn a ha)]
   congr 3
   by_cases h : dlt a b
   · rw [decide_eq_true h]; exact h
   · rw [decide_eq_false h]; simpa [dlt] using h
open Classical in
theorem in_order_ok {T : D → Prop} {lt : D → D → Prop} (O : OrdOn T lt) (ds : List D) (u : U) (S : Sto) (hu : asSeq S u = some (ds.map U.v)) (hT : ∀ d ∈ ds, T d) (hl : ds.length ≤ 2000) :
   ∃ es, f_in_order [u] S = .ok (.v (.lst es)) S ∧ es.Pairwise lt ∧ ∀ d, d ∈ es ↔ d ∈ ds := by
 unfold f_in_order
 suffices h : wpr (runF 6 m_in_order [u] S) (fun v T' => ∃ es : List D, v = .v (.lst es) ∧ T' = S ∧ es.Pairwise lt ∧ ∀ d, d ∈ es ↔ d ∈ ds) (fun _ _ _ => False) by
   obtain ⟨v, T', e, es, rfl, rfl, h1, h2⟩ := wpr_iff.mp h
   exact ⟨es, e, h1, h2⟩
 rw [wp_runF]
 simp [m_in_order, start0]
 unfold seqV
 rw [asSeq_app _ hu]
 simp only
 refine for_inv (fun i ρ T' => ∃ x2 x3 x4 x5 es, ρ = [some u, some (.r S.length), x2, x3, x4, x5] ∧ T' = S ++ [.lst (es.map U.v)] ∧ es.length ≤ i ∧ es.Pairwise lt ∧ ∀ d, d ∈ es ↔ d ∈ ds.take i) ⟨none, none, none, none, [], rfl, rfl, by simp, by simp, by simp⟩ ?_ ?_
 · rintro i w ρ T' hw ⟨x2, x3, x4, x5, es, rfl, rfl, hln, hp, hm⟩
   rw [List.getElem?_map, Option.map_eq_some_iff] at hw
   obtain ⟨d, hd, rfl⟩ := hw
   have hTd := hT d (List.mem_of_getElem? hd)
   have hi : i < ds.length := (List.getElem?_eq_some_iff.mp hd).1
   have hTe : ∀ e ∈ es, T e := fun e he => hT e (List.mem_of_mem_take ((hm e).mp he))
   have hget : ∀ (j : Nat), j < es.length → ∃ e, es[j]? = some e ∧ e ∈ es := fun j hj => ⟨es[j], List.getElem?_eq_getElem hj, List.getElem_mem hj⟩
   simp
   refine s_while _ _ (fun n ρ T' => ∃ (x5 : Option U) (lo hi : Nat), ρ = [some u, some (.r S.length), some (.v d), some (.v (.int lo)), some (.v (.int hi)), x5] ∧ T' = S ++ [.lst (es.map U.v)] ∧ lo ≤ hi ∧ hi ≤ es.length ∧ n = hi - lo ∧
     (∀ j e, j < lo → es[j]? = some e → lt e d) ∧ (∀ j e, hi ≤ j → es[j]? = some e → ¬ lt e d)) es.length ⟨x5, 0, es.length, rfl, rfl, by omega, by omega, by omega, by intro j e h; omega, fun j e h1 h2 => by rw [List.getElem?_eq_none h1] at h2; cases h2⟩ ?_
   rintro n ρ T' ⟨x5, lo, hi, rfl, rfl, h1, h2, h3, h4, h5⟩
   simp only [w_tB, w_op, w_var, getv_s, getv_0, qbk, isBl_b]
   by_cases hlt : (lo : Int) < hi
   · simp only [hlt, decide_true, if_true]
     obtain ⟨mid, hmid, hm1, hm2⟩ : ∃ mid : Nat, ((lo : Int) + hi) / 2 = mid ∧ lo ≤ mid ∧ mid < hi := ⟨(lo + hi) / 2, by omega, by omega, by omega⟩
     obtain ⟨e, he, hem⟩ := hget mid (by omega)
     simp [hmid, Pu.atI_nat, he, O.ev e d (hTe e hem) hTd]
     by_cases hed : lt e d
     · simp only [hed, if_true]
       refine ⟨hi - (mid + 1), by omega, some (.v (.int mid)), mid + 1, hi, ⟨by simp, rfl, rfl⟩, by omega, h2, rfl, fun j e' hj hj2 => ?_, h5⟩
       by_cases hjm : j = mid
       · subst hjm; rw [he] at hj2; cases hj2; exact hed
       · obtain ⟨hjl, hje⟩ := List.getElem?_eq_some_iff.mp hj2
         obtain ⟨hml, hme⟩ := List.getElem?_eq_some_iff.mp he
         have := List.pairwise_iff_getElem.mp hp j mid hjl hml (by omega)
         rw [hje, hme] at this
         exact O.tr _ _ _ this hed
     · simp only [hed, if_false]
       refine ⟨mid - lo, by omega, some (.v (.int mid)), lo, mid, ⟨rfl, rfl, rfl⟩, by omega, by omega, rfl, h4, fun j e' hj hj2 => ?_⟩
       by_cases hjm : j = mid
       · subst hjm; rw [he] at hj2; cases hj2; exact hed
       · obtain ⟨hjl, hje⟩ := List.getElem?_eq_some_iff.mp hj2
         obtain ⟨hml, hme⟩ := List.getElem?_eq_some_iff.mp he
         have := List.pairwise_iff_getElem.mp hp mid j hml hjl (by omega)
         rw [hje, hme] at this
         exact fun z => hed (O.tr _ _ _ this z)
   · simp only [hlt, decide_false, Bool.false_eq_true, if_false]
     have hlh : lo = hi := by omega
     subst hlh
     have hso := fun l l' => src_app (S := S) l l' hu
     have htk : ds.take (i + 1) = ds.take i ++ [d] := by rw [List.take_succ, hd]; rfl
     have hbef : ∀ a ∈ es.take lo, lt a d := fun a ha => by
       obtain ⟨j, hj, rfl⟩ := List.mem_take_iff_getElem.mp ha
       exact h4 j _ (by omega) (List.getElem?_eq_getElem _)
     have haft : ∀ a ∈ es.drop lo, ¬ lt a d := fun a ha => by
       obtain ⟨j, hj, rfl⟩ := List.mem_drop_iff_getElem.mp ha
       exact h5 (lo + j) _ (by omega) (List.getElem?_eq_getElem _)
     have hmem : ∀ a, a ∈ es ↔ a ∈ es.take lo ∨ a ∈ es.drop lo := fun a => by rw [← List.mem_append, List.take_append_drop]
     have hins : d ∉ es → ∃ es' : List D, List.take lo (es.map U.v) ++ U.v d :: List.drop lo (es.map U.v) = es'.map U.v ∧ es'.length ≤ i + 1 ∧ es'.Pairwise lt ∧ ∀ d', d' ∈ es' ↔ d' ∈ ds.take (i + 1) := fun hnd => by
       refine ⟨es.take lo ++ d :: es.drop lo, by simp [List.map_take, List.map_drop], by simp; omega, ?_, fun d' => ?_⟩
       · rw [List.pairwise_append, List.pairwise_cons]
         have hda : ∀ b ∈ es.drop lo, lt d b := fun b hb => O.tot b d (hTe b ((hmem b).mpr (.inr hb))) hTd (haft b hb) (fun e => hnd (by rw [← e]; exact (hmem b).mpr (.inr hb)))
         refine ⟨hp.sublist (List.take_sublist _ _), ⟨hda, hp.sublist (List.drop_sublist _ _)⟩, fun a ha b hb => ?_⟩
         rcases List.mem_cons.mp hb with e | e
         · subst e; exact hbef a ha
         · exact O.tr _ _ _ (hbef a ha) (hda b e)
       · rw [htk, List.mem_append, List.mem_append, List.mem_singleton, List.mem_cons, ← hm, hmem]
         constructor
         · rintro (h | h | h)
           · exact .inl (.inl h)
           · exact .inr h
           · exact .inl (.inr h)
         · rintro ((h | h) | h)
           · exact .inl h
           · exact .inr (.inr h)
           · exact .inr (.inl h)
     simp [isL_r]
     split
     · rename_i hll
       have hll2 : lo = es.length := by omega
       have hnd : d ∉ es := fun hde => by
         rcases (hmem d).mp hde with h | h
         · exact O.irr d (hbef d h)
         · rw [hll2] at h; simp at h
       obtain ⟨es', e1, e2, e3, e4⟩ := hins hnd
       rw [e1]
       exact ⟨⟨by omega, by omega⟩, hso _ _, es', rfl, e2, e3, e4⟩
     · rename_i hll
       obtain ⟨e, he, hem⟩ := hget lo (by omega)
       simp [Pu.atI_nat, he, v_ne (O.dat e (hTe e hem)) (O.dat d hTd), isL_r]
       by_cases hed : e = d
       · subst hed
         simp
         refine ⟨hso _ _, es, rfl, by omega, hp, fun d' => ?_⟩
         rw [htk, List.mem_append, List.mem_singleton, ← hm]
         exact ⟨.inl, fun h => h.elim id fun h => by rw [h]; exact hem⟩
       · simp [hed]
         have hnd : d ∉ es := fun hde => by
           obtain ⟨j, hj, hje⟩ := List.mem_iff_getElem.mp hde
           obtain ⟨hlol, hloe⟩ := List.getElem?_eq_some_iff.mp he
           by_cases hjl : j < lo
           · exact O.irr d (h4 j d hjl (by rw [List.getElem?_eq_getElem hj, hje]))
           · by_cases hjo : j = lo
             · subst hjo; exact hed (by rw [← hloe, hje])
             · have := List.pairwise_iff_getElem.mp hp lo j hlol hj (by omega)
               rw [hloe, hje] at this
               exact h5 lo e (Nat.le_refl _) he this
         obtain ⟨es', e1, e2, e3, e4⟩ := hins hnd
         rw [e1]
         exact ⟨⟨by omega, by omega⟩, hso _ _, es', rfl, e2, e3, e4⟩
 · rintro ρ T' ⟨x2, x3, x4, x5, es, rfl, rfl, hln, hp, hm⟩
   simp only [List.length_map] at hm
   simp only [getv_s, getv_0]
   rw [fin_l0]
   refine ⟨es, rfl, rfl, hp, fun d => ?_⟩
   rw [hm]; simp
def isI (d : D) : Prop := ∃ i : Int, d = .int i
theorem form_i : Form isI where
 dat := by rintro _ ⟨i, rfl⟩; simp
 al := by rintro _ _ ⟨i, rfl⟩ ⟨j, rfl⟩; rfl
 nn := by rintro _ ⟨i, rfl⟩; simp
theorem dlt_i (i j : Int) : dlt (.int i) (.int j) ↔ i < j := by
 unfold dlt
 show PySem.W.dataLt (.int i) (.int j) = true ↔ _
 rw [PySem.W.dataLt_int]; simp
abbrev St3 := Int × Str × Int
def stD (s : St3) : D := .tup [.int s.1, .str s.2.1, .int s.2.2]
theorem stD_inj {a b : St3} (h : stD a = stD b) : a = b := by
 obtain ⟨a1, a2, a3⟩ := a
 obtain ⟨b1, b2, b3⟩ := b
 simpa [stD] using h
def isSt (d : D) : Prop := ∃ s : St3, d = stD s
theorem form_st : Form isSt where
 dat := by rintro _ ⟨i, rfl⟩; simp [stD]
 al := by rintro _ _ ⟨i, rfl⟩ ⟨j, rfl⟩; rfl
 nn := by rintro _ ⟨i, rfl⟩; simp [stD]
theorem dlt_st (a b : St3) : dlt (stD a) (stD b) ↔ a.1 < b.1 ∨ (a.1 = b.1 ∧ (a.2.1.cps.toList < b.2.1.cps.toList ∨ (a.2.1 = b.2.1 ∧ a.2.2 < b.2.2))) := by
 unfold dlt
 show PySem.W.dataLt (.tuple [.int a.1, .str a.2.1, .int a.2.2]) (.tuple [.int b.1, .str b.2.1, .int b.2.2]) = true ↔ _
 rw [PySem.W.dataLt_tuple, PySem.W.dataLt_cons (by rfl), PySem.W.dataLt_cons (by rfl), PySem.W.dataLt_cons (by rfl), PySem.W.dataLt_int, PySem.W.dataLt_int, PySem.W.dataLt_str, PyProof.Rows.lex_irrefl]
 simp only [PyData.eqv, beq_iff_eq]
 by_cases h1 : a.1 = b.1 <;> by_cases h2 : a.2.1 = b.2.1 <;> by_cases h3 : a.2.2 = b.2.2 <;> simp [h1, h2, h3]
 exact fun h => absurd h (Array.lt_irrefl _)
end Mi
namespace Mi
open PySem Pu L2
theorem is_ask_ok (z : Str) (h : AskS z) (S : Sto) : f_is_ask [.v (.str z)] S = .ok (.v (.bl true)) S := by
 unfold f_is_ask
 refine runF_eq ?_
 obtain ⟨h1, h2, h3⟩ := h
 have e1 : ¬ ((z.length : Int) < 1) := by omega
 have e2 : ¬ ((8 : Int) < z.length) := by omega
 have e4 : z.length ≤ 100000 := by omega
 simp [m_is_ask, start0, e1, e2, e4]
 refine w_lcV (ds := z.cps.toList.map fun c => D.str (mkS [c])) (src := none) (S1 := S) (fun _ => true) (fun _ => .bl true) ?_ ?_ nofun ?_ ?_
 · simp [chrs]; exact fun _ _ => rfl
 · have e3 : z.cps.toList.length = z.length := by simp; rfl
   rw [List.length_map, e3]; omega
 · intro d hd acc
   obtain ⟨c, hc, rfl⟩ := List.mem_map.mp hd
   have hc2 := h3 c hc
   simp [wipeE]
   have hin : c ∈ lettT.cps.toList := by
     rw [lett_l]
     refine List.mem_map.mpr ⟨c - 97, by simp; omega, by omega⟩
   show wpO (fInX false (.v (.str ⟨⟨[c]⟩⟩)) (.v (.str lettT)) _) _
   unfold fInX asDic fIn
   simp only
   show _ ∧ _
   refine ⟨?_, rfl⟩
   simp only [cond_false]
   rw [decide_eq_true hin]
 · have e : (((z.cps.toList.map fun c => D.str (mkS [c])).filter fun _ => true).map fun _ => D.bl true) = (z.cps.toList.map fun _ => true).map D.bl := by
     rw [List.filter_eq_self.mpr (fun _ _ => rfl)]
     simp [Function.comp_def]
   rw [e, v_all]
   simp
theorem src_so {S : Sto} {u : U} {xs : List U} (h : asSeq S u = some xs) : srcOk (srcOf u) ((srcOf u).bind fun n => S[n]?) S := by
 have := src_app (S := S) [] [] h
 simpa using this
theorem check_parts_ok (size : Int) (marks : List Int) (steps : List St3) (mu su : U) (S : Sto) (hm : asSeq S mu = some ((marks.map D.int).map U.v)) (hs : asSeq S su = some ((steps.map stD).map U.v)) (h1 : 1 ≤ size) (h2 : size ≤ 200) (h3 : ∀ m ∈ marks, 0 ≤ m ∧ m < size)
   (h4 : ∀ s ∈ steps, 0 ≤ s.1 ∧ s.1 < size ∧ 0 ≤ s.2.2 ∧ s.2.2 < size ∧ AskS s.2.1) : f_check_parts [.v (.int size), mu, su] S = .ok (.v .non) S := by
 unfold f_check_parts
 refine runF_eq ?_
 have e1 : ¬ (size < 1) := by omega
 have e2 : ¬ (200 < size) := by omega
 simp [m_check_parts, start0, e1, e2, seqV_at0 hm]
 refine for_inv (fun i ρ T => ∃ x, ρ = [some (.v (.int size)), some mu, some su, x, none, none, none] ∧ T = S) ⟨_, rfl, rfl⟩ ?_ ?_
 · rintro i u ρ T hu ⟨x, rfl, rfl⟩
   obtain ⟨m, hm1, rfl, _⟩ := data_get2 hu
   have hb := h3 m (List.mem_of_getElem? hm1)
   have b1 : ¬ m < 0 := by omega
   have b2 : ¬ size ≤ m := by omega
   simp [b1, b2]
   exact src_so hm
 · rintro ρ T ⟨x, rfl, rfl⟩
   simp [seqV_at0 hs]
   refine for_inv (fun i ρ T' => ∃ x y z, ρ = [some (.v (.int size)), some mu, some su, _, x, y, z] ∧ T' = T) ⟨_, _, _, rfl, rfl⟩ ?_ ?_
   · rintro i u ρ T' hu ⟨x, y, z, rfl, rfl⟩
     obtain ⟨s, hs1, rfl, _⟩ := data_get2 hu
     obtain ⟨b1, b2, b3, b4, b5⟩ := h4 s (List.mem_of_getElem? hs1)
     have c1 : ¬ s.1 < 0 := by omega
     have c2 : ¬ size ≤ s.1 := by omega
     have c3 : ¬ s.2.2 < 0 := by omega
     have c4 : ¬ size ≤ s.2.2 := by omega
     simp [stD, c1, c2, c3, c4, is_ask_ok _ b5]
     exact src_so hs
   · rintro ρ T' ⟨x, y, z, rfl, rfl⟩
     simp
def keyS (s : Int) (a : Str) : D := .tup [.int s, .str a]
theorem keyS_key (s : Int) (a : Str) : isKey (keyS s a) = true := by simp [keyS]
theorem keyS_inj {s s' : Int} {a a' : Str} : keyS s a = keyS s' a' ↔ s = s' ∧ a = a' := by simp [keyS]
noncomputable def ends1 (acc : List (D × D)) (s : St3) : List (D × D) := dputD acc (keyS s.1 s.2.1) (.tup ((match dgetD acc (keyS s.1 s.2.1) with | some (.tup es) => es | _ => []) ++ [.int s.2.2]))
noncomputable def endsD (steps : List St3) : List (D × D) := steps.foldl ends1 []
def endsL (steps : List St3) (s : Int) (a : Str) : List Int := (steps.filter fun t => decide (t.1 = s ∧ t.2.1 = a)).map (·.2.2)
def endsT (es : List Int) : Option D := if es = [] then none else some (.tup (es.map D.int))
theorem ends_get (s : Int) (a : Str) : ∀ (steps pre : List St3) (acc : List (D × D)), (∀ s a, dgetD acc (keyS s a) = endsT (endsL pre s a)) → dgetD (steps.foldl ends1 acc) (keyS s a) = endsT (endsL (pre ++ steps) s a)
 | [], pre, acc, h => by simpa using h s a
 | t :: r, pre, acc, h => by
   rw [List.foldl_cons, ends_get s a r (pre ++ [t])]
   · simp
   · intro s a
     unfold ends1
     rw [dgetD_put, h]
     unfold endsL
     rw [List.filter_append, List.map_append]
     by_cases e : keyS s a = keyS t.1 t.2.1
     · obtain ⟨rfl, rfl⟩ := keyS_inj.mp e
       rw [if_pos rfl]
       simp only [List.filter_cons, and_self, decide_true, if_true, List.filter_nil, List.map_cons, List.map_nil]
       unfold endsT
       have hne : ∀ l : List Int, l ++ [t.2.2] ≠ [] := by intro l; simp
       rw [if_neg (hne _)]
       split
       · rename_i es hes
         split at hes
         · cases hes
         · cases hes; simp
       · rename_i hes
         split at hes
         · rename_i h0; rw [h0]; rfl
         · rename_i h0; exact absurd rfl (hes _)
     · rw [if_neg e, h]
       have : ¬ (t.1 = s ∧ t.2.1 = a) := fun z => e (keyS_inj.mpr ⟨z.1.symm, z.2.symm⟩)
       rw [List.filter_cons, if_neg (by simpa using this)]
       simp [endsL]
theorem endsD_get (steps : List St3) (s : Int) (a : Str) : dgetD (endsD steps) (keyS s a) = endsT (endsL steps s a) := by
 have := ends_get s a steps [] [] (fun s a => by simp [endsL, endsT, dgetD_nil])
 rw [List.nil_append] at this
 exact this
theorem endsD_getD (steps : List St3) (s : Int) (a : Str) : (dgetD (endsD steps) (keyS s a)).getD (.tup []) = .tup ((endsL steps s a).map D.int) := by
 rw [endsD_get]
 unfold endsT
 split
 · rename_i h; rw [h]; rfl
 · rfl
theorem ends1_len (acc : List (D × D)) (s : St3) : (ends1 acc s).length ≤ acc.length + 1 := dputD_len _ _ _
theorem endsF_len : ∀ (steps : List St3) (acc : List (D × D)), (steps.foldl ends1 acc).length ≤ acc.length + steps.length
 | [], acc => by simp
 | s :: r, acc => by
   have h1 := ends1_len acc s
   have h2 := endsF_len r (ends1 acc s)
   simp only [List.foldl_cons, List.length_cons]; omega
theorem ends_by_ask_ok (steps : List St3) (u : U) (S : Sto) (hu : asSeq S u = some ((steps.map stD).map U.v)) (hl : steps.length ≤ 2000) : f_ends_by_ask [u] S = .ok (.v (.dic (endsD steps))) S := by
 unfold f_ends_by_ask
 refine runF_eq ?_
 simp [m_ends_by_ask, start0, seqV_at _ hu]
 refine for_inv (fun i ρ T => ∃ x y z, ρ = [some u, some (.r S.length), x, y, z] ∧ T = S ++ [.dic (((steps.take i).foldl ends1 []).map vv)]) ⟨none, none, none, rfl, rfl⟩ ?_ ?_
 · rintro i w ρ T hw ⟨x, y, z, rfl, rfl⟩
   obtain ⟨s, hs1, rfl, _⟩ := data_get2 hw
   have hi : i < steps.length := (List.getElem?_eq_some_iff.mp hs1).1
   have hd : ∀ kvs : List (D × D), (S ++ [Cell.dic (kvs.map vv)])[S.length]? = some (.dic (kvs.map vv)) := fun kvs => by simp
   have htk : (steps.take (i + 1)).foldl ends1 [] = ends1 ((steps.take i).foldl ends1 []) s := by
     rw [List.take_succ, hs1]; simp
   have hlen := endsF_len (steps.take i) []
   rw [htk]
   generalize hacc : (steps.take i).foldl ends1 [] = acc at hlen ⊢
   have hget : (dgetD acc (keyS s.1 s.2.1)).getD (.tup []) = .tup ((endsL (steps.take i) s.1 s.2.1).map D.int) := by
     rw [← hacc]; exact endsD_getD _ _ _
   have hel : (endsL (steps.take i) s.1 s.2.1).length ≤ i := by
     unfold endsL
     rw [List.length_map]
     refine Nat.le_trans (List.length_filter_le _ _) ?_
     simp; omega
   have hval : (match dgetD acc (keyS s.1 s.2.1) with | some (.tup es) => es | _ => []) = (endsL (steps.take i) s.1 s.2.1).map D.int := by
     have e := endsD_get (steps.take i) s.1 s.2.1
     unfold endsD at e
     rw [hacc] at e
     rw [e]
     unfold endsT
     split
     · rename_i es h
       split at h
       · cases h
       · cases h; rfl
     · rename_i h
       split at h
       · rename_i h0; rw [h0]; rfl
       · exact absurd rfl (h _)
   have hkey := keyS_key s.1 s.2.1
   simp [stD, isDc_c (hd acc), v_getC (hd acc)]
   rw [show D.tup [D.int s.1, D.str s.2.1] = keyS s.1 s.2.1 from rfl, hget]
   simp
   refine ⟨by omega, ?_⟩
   rw [show keyS s.1 s.2.1 = D.tup [D.int s.1, D.str s.2.1] from rfl, v_setC (hd acc)]
   refine ⟨⟨hkey, by simp at hlen; omega⟩, ?_, ?_⟩
   · simp only [set_0]; exact src_app _ _ hu
   · simp only [set_0, List.set_cons_zero]
     unfold ends1
     rw [hval]; rfl
 · rintro ρ T ⟨x, y, z, rfl, rfl⟩
   simp
   exact fin_d0
def mFs (size : Int) (marks : List Int) (steps : List D) (ends : List (D × D)) (now : Int) : List (Str × D) := [("size", .int size), ("marks", .tup (marks.map D.int)), ("steps", .tup steps), ("ends", .dic ends), ("place", .int now)]
noncomputable def mRec (size : Int) (marks : List Int) (steps : List St3) (now : Int) : List (Str × D) := mFs size marks (steps.map stD) (endsD steps) now
structure Sorted (T : D → Prop) (xs ys : List D) : Prop where
 asc : ys.Pairwise dlt
 mem : ∀ d, d ∈ ys ↔ d ∈ xs
structure OkParts (size : Int) (marks0 marks : List Int) (steps0 steps : List St3) (now : Int) : Prop where
 s1 : 1 ≤ size
 s2 : size ≤ 200
 m0 : ∀ m ∈ marks0, 0 ≤ m ∧ m < size
 t0 : ∀ s ∈ steps0, 0 ≤ s.1 ∧ s.1 < size ∧ 0 ≤ s.2.2 ∧ s.2.2 < size ∧ AskS s.2.1
 ml : marks0.length ≤ 2000
 tl : steps0.length ≤ 2000
 n0 : 0 ≤ now
 n1 : now < size
 ma : (marks.map D.int).Pairwise dlt
 mm : ∀ m, m ∈ marks ↔ m ∈ marks0
 ta : (steps.map stD).Pairwise dlt
 tm : ∀ t, t ∈ steps ↔ t ∈ steps0
 t6 : steps.length ≤ 600
theorem in_order_eq {T : D → Prop} (F : Form T) (xs ys : List D) (u : U) (S : Sto) (hu : asSeq S u = some (xs.map U.v)) (hT : ∀ d ∈ xs, T d) (hl : xs.length ≤ 2000) (ha : ys.Pairwise dlt) (hm : ∀ d, d ∈ ys ↔ d ∈ xs) : f_in_order [u] S = .ok (.v (.lst ys)) S := by
 obtain ⟨es, e, h1, h2⟩ := in_order_ok F.ord xs u S hu hT hl
 rw [e, asc_ext dlt_irr dlt_tr h1 ha fun d => (h2 d).trans (hm d).symm]
theorem init_ok (c : Nat) (hc : c ∈ [12, 13, 14, 17]) (size : Int) (marks0 marks : List Int) (steps0 steps : List St3) (now : Int) (O : OkParts size marks0 marks steps0 steps now) (mu su : U) (S : Sto) (hm : asSeq S mu = some ((marks0.map D.int).map U.v)) (hs : asSeq S su = some ((steps0.map stD).map U.v)) :
   f_Machineu_initu [.r S.length, .v (.int size), mu, su, .v (.int now)] (S ++ [.ins c []]) = .ok (.v .non) (S ++ [.ins c (uFs (mRec size marks steps now))]) := by
 unfold f_Machineu_initu
 refine runF_eq ?_
 have hm1 := asSeq_app [Cell.ins c []] hm
 have hs1 := asSeq_app [Cell.ins c []] hs
 have k1 := check_parts_ok size marks0 steps0 mu su _ hm1 hs1 O.s1 O.s2 O.m0 O.t0
 have hc5 : c ∈ [12, 13, 14, 17, 18] := by
   simp only [List.mem_cons, List.not_mem_nil, or_false] at hc ⊢; omega
 simp [m_Machineu_initu, start0, k1]
 refine w_lcV (ds := steps0.map stD) (src := srcOf su) (S1 := S ++ [.ins c []]) (fun _ => true) (fun d => d) ?_ ?_ ?_ ?_ ?_
 · simp [seqV_at0 hs1]
 · have := O.tl; simp; omega
 · intro n hn
   cases su with
   | v d => cases hn
   | r m =>
     have hn : m = n := by simpa using hn
     subst hn
     unfold asSeq at hs1
     simp only at hs1
     by_cases hlt : m < (S ++ [Cell.ins c []]).length
     · exact hlt
     · rw [List.getElem?_eq_none (by omega)] at hs1; cases hs1
 · intro d hd acc
   obtain ⟨s, hs1, rfl⟩ := List.mem_map.mp hd
   simp [wipeE, stD]
 · have e0 : (((steps0.map stD).filter fun _ => true).map fun d => d) = steps0.map stD := by
     rw [List.filter_eq_self.mpr (fun _ _ => rfl)]; simp
   rw [e0]
   have k2 := in_order_eq form_st (steps0.map stD) (steps.map stD) (.v (.lst (steps0.map stD))) (S ++ [.ins c []]) rfl (fun d hd => by obtain ⟨s, _, rfl⟩ := List.mem_map.mp hd; exact ⟨s, rfl⟩) (by have := O.tl; simp; exact this) O.ta (fun d => by
     simp only [List.mem_map]
     exact ⟨fun ⟨s, h1, h2⟩ => ⟨s, (O.tm s).mp h1, h2⟩, fun ⟨s, h1, h2⟩ => ⟨s, (O.tm s).mpr h1, h2⟩⟩)
   have kl : ¬ ((600 : Int) < (steps.map stD).length) := by have := O.t6; simp; omega
   have n0 : ¬ now < 0 := by have := O.n0; omega
   have n1 : ¬ size ≤ now := by have := O.n1; omega
   have hlt : ¬ (600 < (steps.length : Int)) := by have := O.t6; omega
   have k3 := fun fs => in_order_eq form_i (marks0.map D.int) (marks.map D.int) mu (S ++ [.ins c fs]) (asSeq_app _ hm) (fun d hd => by obtain ⟨s, _, rfl⟩ := List.mem_map.mp hd; exact ⟨s, rfl⟩) (by have := O.ml; simp; exact this) O.ma (fun d => by
     simp only [List.mem_map]
     exact ⟨fun ⟨s, h1, h2⟩ => ⟨s, (O.mm s).mp h1, h2⟩, fun ⟨s, h1, h2⟩ => ⟨s, (O.mm s).mpr h1, h2⟩⟩)
   have k4 := fun T => ends_by_ask_ok steps (.v (.lst (steps.map stD))) T rfl (by have := O.t6; omega)
   have hcc : c = 12 ∨ c = 13 ∨ c = 14 ∨ c = 17 := by simpa using hc
   have hcc5 : c = 12 ∨ c = 13 ∨ c = 14 ∨ c = 17 ∨ c = 18 := by simpa using hc5
   simp [k2, hlt, n0, n1, k3, k4, putU, hcc, hcc5]
   have := fin_last (S := S) (c0 := Cell.ins c []) (c1 := Cell.ins c (uFs (mRec size marks steps now))) (l := []) (d := .non) (fixC_ins _ _ _ _ _)
   have fin := (show _ = _ from by simpa [uFs, mRec, mFs] using this)
   first
     | exact ⟨O.n0, O.n1, fin⟩
     | exact fin
theorem service_ok (size : Int) (marks0 marks : List Int) (steps0 steps : List St3) (now : Int) (O : OkParts size marks0 marks steps0 steps now) (mu su : U) (S : Sto) (hm : asSeq S mu = some ((marks0.map D.int).map U.v)) (hs : asSeq S su = some ((steps0.map stD).map U.v)) :
   f_Serviceu_initu [.r S.length, .v (.int size), mu, su, .v (.int now)] (S ++ [.ins 13 []]) = .ok (.v .non) (S ++ [.ins 13 (uFs (mRec size marks steps now))]) := by
 refine eq_of_wpr ?_
 unfold f_Serviceu_initu
 simp [init_ok 13 (by simp) size marks0 marks steps0 steps now O mu su S hm hs]
theorem pattern_ok (size : Int) (marks0 marks : List Int) (steps0 steps : List St3) (now : Int) (O : OkParts size marks0 marks steps0 steps now) (mu su : U) (S : Sto) (hm : asSeq S mu = some ((marks0.map D.int).map U.v)) (hs : asSeq S su = some ((steps0.map stD).map U.v)) :
   f_Patternu_initu [.r S.length, .v (.int size), mu, su, .v (.int now)] (S ++ [.ins 14 []]) = .ok (.v .non) (S ++ [.ins 14 (uFs (mRec size marks steps now))]) := by
 refine eq_of_wpr ?_
 unfold f_Patternu_initu
 simp [init_ok 14 (by simp) size marks0 marks steps0 steps now O mu su S hm hs]
end Mi
namespace Mi
open PySem Pu L2
def climbF (size : Int) : List Int → Int → List Int
 | [], _ => []
 | d :: ds, s => if s < size then s :: climbF size ds (s + 1 + d % 17) else climbF size ds s
def climbN (row : List Int) (size : Int) : List Int := climbF size (cutU row (some 2) (some (2 + rg row 1 % 13))) (rg row 0 % size)
section
variable {S : Sto} {u : U} {xs : List D} {q : U → Sto → Prop}
end
@[simp] theorem asLst_v (S : Sto) (xs : List D) : asLst S (.v (.lst xs)) = some (xs.map U.v) := rfl
theorem cutU_lo {α : Type} (xs : List α) (k : Int) (h : 0 ≤ k) : cutU xs (some k) none = xs.drop k.toNat := by
 obtain ⟨n, rfl⟩ := Int.eq_ofNat_of_zero_le h
 unfold cutU
 rw [HT.sIx_nat, HT.sIx_none]
 by_cases hn : n ≤ xs.length
 · rw [Nat.min_eq_left hn, List.take_of_length_le (by simp)]; rfl
 · rw [Nat.min_eq_right (by omega), List.drop_eq_nil_of_le (Nat.le_refl _), List.drop_eq_nil_of_le (by simp; omega)]; simp
end Mi
namespace Mi
open PySem Pu L2
section
variable (size : Int) (marks : List Int) (steps : List St3) (now : Int) (k : U → Prop) (kd : List D → Prop)
@[simp ↓] theorem mX_size (ex : List (Str × U)) : wpo ((List.map (fun p => (p.1, U.v p.2)) (mRec size marks steps now) ++ ex).lookup (Str.ofString "size")) k = k (.v (.int size)) := by simp [mRec, mFs]
@[simp ↓] theorem mX_marks (ex : List (Str × U)) : wpo ((List.map (fun p => (p.1, U.v p.2)) (mRec size marks steps now) ++ ex).lookup (Str.ofString "marks")) k = k (.v (.tup (marks.map D.int))) := by simp [mRec, mFs]
@[simp ↓] theorem mX_steps (ex : List (Str × U)) : wpo ((List.map (fun p => (p.1, U.v p.2)) (mRec size marks steps now) ++ ex).lookup (Str.ofString "steps")) k = k (.v (.tup (steps.map stD))) := by simp [mRec, mFs]
@[simp ↓] theorem mX_ends (ex : List (Str × U)) : wpo ((List.map (fun p => (p.1, U.v p.2)) (mRec size marks steps now) ++ ex).lookup (Str.ofString "ends")) k = k (.v (.dic (endsD steps))) := by simp [mRec, mFs]
@[simp ↓] theorem mX_place (ex : List (Str × U)) : wpo ((List.map (fun p => (p.1, U.v p.2)) (mRec size marks steps now) ++ ex).lookup (Str.ofString "place")) k = k (.v (.int now)) := by simp [mRec, mFs]
end
theorem dat_ints (l : List Int) : isDat (.lst (l.map D.int)) = true := by simp
theorem dat_steps (l : List St3) : isDat (.lst (l.map stD)) = true := by simp [stD]
theorem allT {α : Type} (l : List α) (f : α → D) (g : D → D) (hg : ∀ a, g (f a) = .bl true) : (((l.map f).filter fun _ => true).map g) = (l.map fun _ => true).map D.bl := by
 rw [List.filter_eq_self.mpr (fun _ _ => rfl)]
 simp [Function.comp_def, hg]
theorem all_true {α : Type} (l : List α) : (l.map fun _ => true).all id = true := by simp
end Mi
namespace Mi
open PySem Pu L2
theorem sortD_perm (ds : List D) : (sortD ds).Perm ds := List.mergeSort_perm _ _
theorem sortD_asc {T : D → Prop} (F : Form T) (ds : List D) (hT : ∀ d ∈ ds, T d) (nd : ds.Nodup) : (sortD ds).Pairwise dlt := by
 have hp : (sortD ds).Pairwise (fun a b => PySem.W.dataLe false encD a b = true) := by
   have t := PySem.W.sortLe_total (PyProof.Rows.listOrd PyProof.Rows.itemOrd) false (fun b => PySem.W.keyToks (encD b))
   exact List.pairwise_mergeSort t.trans (fun a b => by have := t.total a b; simpa using this) ds
 have hnd : (sortD ds).Pairwise (· ≠ ·) := (sortD_perm ds).symm.nodup nd
 have hmem : ∀ a ∈ sortD ds, T a := fun a ha => hT a ((sortD_perm ds).mem_iff.mp ha)
 refine (List.pairwise_and_iff.mpr ⟨hp, hnd⟩).imp_of_mem fun {a b} ha hb h => ?_
 refine F.ord.tot b a (hmem b hb) (hmem a ha) ?_ (Ne.symm h.2)
 intro z
 have h1 : (!PyProof.Rows.lexLt PyProof.Rows.itemOrd (PySem.W.keyToks (encD b)) (PySem.W.keyToks (encD a))) = true := h.1
 unfold dlt PySem.W.dataLt at z
 rw [z] at h1
 cases h1
def isStr (d : D) : Prop := ∃ z : Str, d = .str z
theorem form_s : Form isStr where
 dat := by rintro _ ⟨i, rfl⟩; simp
 al := by rintro _ _ ⟨i, rfl⟩ ⟨j, rfl⟩; rfl
 nn := by rintro _ ⟨i, rfl⟩; simp
def slt (a b : Str) : Prop := a.cps.toList < b.cps.toList
theorem dlt_s (a b : Str) : dlt (.str a) (.str b) ↔ slt a b := by
 unfold dlt slt
 show PySem.W.dataLt (.str a) (.str b) = true ↔ _
 rw [PySem.W.dataLt_str]; simp
theorem okSort_s (zs : List Str) (hl : zs.length ≤ 100000) : okSort (zs.map D.str) := by
 refine ⟨fun d hd => ?_, ?_, ?_, by simpa using hl⟩
 · obtain ⟨z, _, rfl⟩ := List.mem_map.mp hd; simp
 · rw [List.map_map]
   exact PySem.W.AllAlike.of fun a b => rfl
 · rw [List.map_map]
   exact PySem.W.Sortable.others fun a => ⟨(by intro h; cases h), (by intro xs h; cases h)⟩
noncomputable def sortS (zs : List Str) : List Str := (sortD (zs.map D.str)).map fun d => match d with | .str z => z | _ => ""
theorem sortS_eq (zs : List Str) : sortD (zs.map D.str) = (sortS zs).map D.str := by
 unfold sortS
 rw [List.map_map]
 have : ∀ d ∈ sortD (zs.map D.str), (D.str ∘ fun d => match d with | .str z => z | _ => "") d = d := fun d hd => by
   obtain ⟨z, _, rfl⟩ := List.mem_map.mp ((sortD_perm _).mem_iff.mp hd)
   rfl
 rw [List.map_congr_left this]; simp
theorem sortS_mem (zs : List Str) (z : Str) : z ∈ sortS zs ↔ z ∈ zs := by
 have h := (sortD_perm (zs.map D.str)).mem_iff (a := .str z)
 rw [sortS_eq] at h
 simpa using h
theorem sortS_len (zs : List Str) : (sortS zs).length = zs.length := by
 have h := (sortD_perm (zs.map D.str)).length_eq
 rw [sortS_eq] at h
 simpa using h
theorem sortS_asc (zs : List Str) (nd : zs.Nodup) : (sortS zs).Pairwise slt := by
 have h := sortD_asc form_s (zs.map D.str) (fun d hd => by obtain ⟨z, _, rfl⟩ := List.mem_map.mp hd; exact ⟨z, rfl⟩) (by rw [List.nodup_iff_pairwise_ne, List.pairwise_map]; exact nd.imp fun h e => h (by simpa using e))
 rw [sortS_eq, List.pairwise_map] at h
 exact h.imp fun h => (dlt_s _ _).mp h
theorem q62 {S : Sto} {q : U → Sto → Prop} (zs : List Str) (hl : zs.length ≤ 100000) : wpO (fSorted [.v (.lst (zs.map D.str))] S) q = q (.v (.lst ((sortS zs).map D.str))) S := by
 rw [v_sorted _ (okSort_s zs hl), sortS_eq]
def asksN (row : List Int) (n : Nat) : List Str := (List.range n).map fun i => askN row i
@[simp] theorem asksN_len (row : List Int) (n : Nat) : (asksN row n).length = n := by simp [asksN]
theorem asks_i (row : List Int) (hl : row.length = 13) (n : Int) (h0 : 0 ≤ n) (hn : n ≤ 100) (S : Sto) : f__law_asks [.v (.lst (row.map D.int)), .v (.int n)] S = .ok (.v (.lst ((asksN row n.toNat).map D.str))) S := by
 obtain ⟨m, rfl⟩ := Int.eq_ofNat_of_zero_le h0
 have := asks_ok row hl m (by omega) S
 rw [this]
 simp [asksN, Function.comp_def]
theorem asksN_ask (row : List Int) (hl : row.length = 13) (n : Nat) : ∀ z ∈ asksN row n, AskS z := by
 intro z hz
 obtain ⟨i, _, rfl⟩ := List.mem_map.mp hz
 exact askN_ok row hl i
theorem asksN_nd (row : List Int) (hl : row.length = 13) (n : Nat) (hn : n ≤ 8) : (asksN row n).Nodup := by
 unfold asksN
 rw [List.nodup_iff_pairwise_ne, List.pairwise_map]
 refine List.nodup_range.imp_of_mem fun {a b} ha hb h e => h ?_
 simp at ha hb
 exact askN_inj row hl a b (by omega) (by omega) e
def lt3 (a b : St3) : Prop := a.1 < b.1 ∨ (a.1 = b.1 ∧ (slt a.2.1 b.2.1 ∨ (a.2.1 = b.2.1 ∧ a.2.2 < b.2.2)))
theorem asc3 {l : List St3} (h : l.Pairwise lt3) : (l.map stD).Pairwise dlt := by
 rw [List.pairwise_map]
 exact h.imp fun h => (dlt_st _ _).mpr h
theorem ascI {l : List Int} (h : l.Pairwise (· < ·)) : (l.map D.int).Pairwise dlt := by
 rw [List.pairwise_map]
 exact h.imp fun h => (dlt_i _ _).mpr h
end Mi
namespace Mi
open PySem Pu L2
theorem filter2_len {α : Type} (p q : α → Bool) (h : ∀ a, p a = true → q a = true → False) : ∀ l : List α, (l.filter p).length + (l.filter q).length ≤ l.length
 | [] => by simp
 | a :: l => by
   have ih := filter2_len p q h l
   rw [List.filter_cons, List.filter_cons]
   cases hp : p a <;> cases hq : q a
   · simp; omega
   · simp; omega
   · simp; omega
   · exact (h a hp hq).elim
open Classical in
theorem exists_asc {α : Type} {lt : α → α → Prop} (irr : ∀ a, ¬ lt a a) (tr : ∀ a b c, lt a b → lt b c → lt a c) (tot : ∀ a b, ¬ lt a b → a ≠ b → lt b a) : ∀ l : List α, ∃ l' : List α, l'.Pairwise lt ∧ (∀ a, a ∈ l' ↔ a ∈ l) ∧ l'.length ≤ l.length
 | [] => ⟨[], by simp, by simp, by simp⟩
 | x :: l => by
   obtain ⟨l', h1, h2, h3⟩ := exists_asc irr tr tot l
   refine ⟨l'.filter (fun a => decide (lt a x)) ++ x :: l'.filter (fun a => decide (lt x a)), ?_, fun a => ?_, ?_⟩
   · rw [List.pairwise_append, List.pairwise_cons]
     refine ⟨h1.sublist (List.filter_sublist), ⟨fun a ha => by simpa using (List.mem_filter.mp ha).2, h1.sublist (List.filter_sublist)⟩, fun a ha b hb => ?_⟩
     have ha' : lt a x := by simpa using (List.mem_filter.mp ha).2
     rcases List.mem_cons.mp hb with e | e
     · subst e; exact ha'
     · exact tr a x b ha' (by simpa using (List.mem_filter.mp e).2)
   · rw [List.mem_append, List.mem_cons, List.mem_filter, List.mem_filter, List.mem_cons, ← h2 a]
     constructor
     · rintro (⟨h, _⟩ | h | ⟨h, _⟩)
       · exact .inr h
       · exact .inl h
       · exact .inr h
     · rintro (h | h)
       · exact .inr (.inl h)
       · by_cases e1 : lt a x
         · exact .inl ⟨h, by simpa using e1⟩
         · by_cases e2 : a = x
           · exact .inr (.inl e2)
           · exact .inr (.inr ⟨h, by simpa using tot a x e1 e2⟩)
   · have := filter2_len (fun a => decide (lt a x)) (fun a => decide (lt x a)) (fun a h h' => irr a (tr a x a (by simpa using h) (by simpa using h'))) l'
     simp; omega
theorem lt3_dlt (a b : St3) : lt3 a b ↔ dlt (stD a) (stD b) := (dlt_st a b).symm
theorem lt3_irr (a : St3) : ¬ lt3 a a := fun h => dlt_irr _ ((lt3_dlt _ _).mp h)
theorem lt3_tr (a b c : St3) (h : lt3 a b) (h' : lt3 b c) : lt3 a c := (lt3_dlt _ _).mpr (dlt_tr _ _ _ ((lt3_dlt _ _).mp h) ((lt3_dlt _ _).mp h'))
theorem lt3_tot (a b : St3) (h : ¬ lt3 a b) (h' : a ≠ b) : lt3 b a := (lt3_dlt _ _).mpr (form_st.ord.tot _ _ ⟨a, rfl⟩ ⟨b, rfl⟩ (fun z => h ((lt3_dlt _ _).mpr z)) fun z => h' (stD_inj z))
noncomputable def sort3 (l : List St3) : List St3 := (exists_asc lt3_irr lt3_tr lt3_tot l).choose
theorem sort3_asc (l : List St3) : (sort3 l).Pairwise lt3 := (exists_asc lt3_irr lt3_tr lt3_tot l).choose_spec.1
theorem sort3_mem (l : List St3) (t : St3) : t ∈ sort3 l ↔ t ∈ l := (exists_asc lt3_irr lt3_tr lt3_tot l).choose_spec.2.1 t
theorem sort3_len (l : List St3) : (sort3 l).length ≤ l.length := (exists_asc lt3_irr lt3_tr lt3_tot l).choose_spec.2.2
theorem sort3_eq {l m : List St3} (h : m.Pairwise lt3) (hm : ∀ t, t ∈ m ↔ t ∈ l) : sort3 l = m := asc_ext lt3_irr lt3_tr (sort3_asc l) h fun t => (sort3_mem l t).trans (hm t).symm
theorem iex (l : List Int) : ∃ l' : List Int, l'.Pairwise (· < ·) ∧ (∀ a, a ∈ l' ↔ a ∈ l) ∧ l'.length ≤ l.length := exists_asc (by omega) (by omega) (by omega) l
noncomputable def sortI (l : List Int) : List Int := (iex l).choose
theorem sortI_asc (l : List Int) : (sortI l).Pairwise (· < ·) := (iex l).choose_spec.1
theorem sortI_mem (l : List Int) (t : Int) : t ∈ sortI l ↔ t ∈ l := (iex l).choose_spec.2.1 t
theorem sortI_len (l : List Int) : (sortI l).length ≤ l.length := (iex l).choose_spec.2.2
theorem sortI_eq {l m : List Int} (h : m.Pairwise (· < ·)) (hm : ∀ t, t ∈ m ↔ t ∈ l) : sortI l = m := asc_ext (lt := (· < ·)) (by omega) (by omega) (sortI_asc l) h fun t => (sortI_mem l t).trans (hm t).symm
structure Raw (size : Int) (ms : List Int) (ts : List St3) : Prop where
 s1 : 1 ≤ size
 s2 : size ≤ 200
 m0 : ∀ m ∈ ms, 0 ≤ m ∧ m < size
 t0 : ∀ s ∈ ts, 0 ≤ s.1 ∧ s.1 < size ∧ 0 ≤ s.2.2 ∧ s.2.2 < size ∧ AskS s.2.1
 ml : ms.length ≤ 600
 tl : ts.length ≤ 600
theorem Raw.ok {size : Int} {ms : List Int} {ts : List St3} (h : Raw size ms ts) {now : Int} (h0 : 0 ≤ now) (h1 : now < size) : OkParts size ms (sortI ms) ts (sort3 ts) now where
 s1 := h.s1
 s2 := h.s2
 m0 := h.m0
 t0 := h.t0
 ml := by have := h.ml; omega
 tl := by have := h.tl; omega
 n0 := h0
 n1 := h1
 ma := ascI (sortI_asc ms)
 mm := sortI_mem ms
 ta := asc3 (sort3_asc ts)
 tm := sort3_mem ts
 t6 := by have := h.tl; have := sort3_len ts; omega
theorem endsL_asc {ts : List St3} (h : ts.Pairwise lt3) (s : Int) (a : Str) : (endsL ts s a).Pairwise (· < ·) := by
 unfold endsL
 rw [List.pairwise_map, List.pairwise_filter]
 refine h.imp fun {x y} hxy hx hy => ?_
 have hx : x.1 = s ∧ x.2.1 = a := by simpa using hx
 have hy : y.1 = s ∧ y.2.1 = a := by simpa using hy
 rcases hxy with e | ⟨_, e | ⟨_, e⟩⟩
 · omega
 · rw [hx.2, hy.2] at e
   exact absurd ((dlt_s a a).mpr e) (dlt_irr _)
 · exact e
theorem endsL_mem {ts : List St3} {s : Int} {a : Str} {e : Int} : e ∈ endsL ts s a ↔ (s, a, e) ∈ ts := by
 unfold endsL
 rw [List.mem_map]
 constructor
 · rintro ⟨t, ht, rfl⟩
   obtain ⟨h1, h2⟩ := List.mem_filter.mp ht
   obtain ⟨rfl, rfl⟩ : t.1 = s ∧ t.2.1 = a := by simpa using h2
   exact h1
 · intro h
   exact ⟨(s, a, e), List.mem_filter.mpr ⟨h, by simp⟩, rfl⟩
abbrev uF (fs : List (Str × D)) : List (Str × U) := List.map (fun p => (p.1, U.v p.2)) fs
def IsM (S : Sto) (x : U) (c : Nat) (size : Int) (ms : List Int) (ts : List St3) (now : Int) : Prop := (∃ ex : List (Str × U), asIns S x = some (c, uF (mRec size ms ts now) ++ ex)) ∧ (c = 12 ∨ c = 13 ∨ c = 14 ∨ c = 17)
section
variable {S : Sto} {x : U} {c : Nat} {size : Int} {ms : List Int} {ts : List St3} {now : Int}
noncomputable def IsM.ex (h : IsM S x c size ms ts now) : List (Str × U) := h.1.choose
theorem IsM.as (h : IsM S x c size ms ts now) : asIns S x = some (c, uF (mRec size ms ts now) ++ h.ex) := h.1.choose_spec
theorem isIns_of {p : Nat × List (Str × U)} (h : asIns S x = some p) (k : Nat → List (Str × U) → Prop) : isIns S x k = k p.1 p.2 := by unfold isIns; rw [h]
theorem IsM.at (h : IsM S x c size ms ts now) (k : Nat → List (Str × U) → Prop) : isIns S x k = k c (uF (mRec size ms ts now) ++ h.ex) := isIns_of h.as k
theorem isM_v (hc : c = 12 ∨ c = 13 ∨ c = 14 ∨ c = 17) : IsM S (.v (.ins c (mRec size ms ts now))) c size ms ts now := ⟨⟨[], by rw [List.append_nil]; rfl⟩, hc⟩
theorem isM_r {n : Nat} (h : S[n]? = some (.ins c (uFs (mRec size ms ts now)))) (hc : c = 12 ∨ c = 13 ∨ c = 14 ∨ c = 17) : IsM S (.r n) c size ms ts now := ⟨⟨[], by unfold asIns; simp only [h, List.append_nil]; rfl⟩, hc⟩
theorem asIns_app {u : U} {p : Nat × List (Str × U)} (T : Sto) (h : asIns S u = some p) : asIns (S ++ T) u = some p := by
 cases u with
 | v d => cases d <;> first | exact h | cases h
 | r n =>
   unfold asIns at h ⊢
   simp only at h ⊢
   by_cases hn : n < S.length
   · rw [List.getElem?_append_left hn]; exact h
   · rw [List.getElem?_eq_none (by omega)] at h; cases h
theorem IsM.app (h : IsM S x c size ms ts now) (T : Sto) : IsM (S ++ T) x c size ms ts now := ⟨let ⟨ex, e⟩ := h.1; ⟨ex, asIns_app T e⟩, h.2⟩
theorem now_x (h : IsM S x c size ms ts now) : f_Machine_now [x] S = .ok (.v (.int now)) S := by
 unfold f_Machine_now
 refine runF_eq ?_
 simp [m_Machine_now, start0, h.at, h.2]
end
section
variable {S : Sto} {q : U → Sto → Prop}
theorem q3t (neg : Bool) {d : D} {u : U} {ds : List D} (hu : asSeq S u = some (ds.map U.v)) (hd : isKey d = true) (hs : ∀ x ∈ ds, isKey x = true) (hn : ∀ z, d ≠ .str z) : wpO (fInX neg (.v d) u S) q = q (.v (.bl (cond neg (!decide (d ∈ ds)) (decide (d ∈ ds))))) S := by
 have h0 : asDic S u = none := by
   cases u with
   | v e => cases e <;> first | rfl | cases hu
   | r n =>
     unfold asSeq at hu; unfold asDic
     simp only at hu ⊢
     cases e : S[n]? with
     | none => rfl
     | some cc => rw [e] at hu; cases cc <;> first | rfl | cases hu
 unfold fInX
 rw [h0]
 have h1 : fIn neg (.v d) u S = (inSeq d (ds.map U.v)).map fun b => (.v (.bl (cond neg (!b) b)), S) := by
   cases d with
   | str z => exact absurd rfl (hn z)
   | _ => unfold fIn; simp only [hu]
 simp only [h1]
 have h2 : inSeq d (ds.map U.v) = some (decide (d ∈ ds)) := by
   unfold inSeq
   rw [if_pos hd, allV_map]
   simp only
   rw [if_pos (List.all_eq_true.mpr hs)]
 rw [h2]; rfl
end
end Mi
namespace Mi
open PySem Pu L2
def sg (as : List Str) (j : Nat) : Str := as.getD j ""
theorem rg_get {xs : List Int} {i : Nat} (h : i < xs.length) : rg xs i = xs[i] := by simp [rg, List.getD, List.getElem?_eq_getElem h]
theorem sg_get {xs : List Str} {i : Nat} (h : i < xs.length) : sg xs i = xs[i] := by simp [sg, List.getD, List.getElem?_eq_getElem h]
theorem at_int (xs : List Int) (i : Nat) (h : i < xs.length) (k : D → Prop) : wpo (atI (xs.map D.int) i) k = k (.int (rg xs i)) := by
 rw [atI_map, wpo_map, atI_get 0 (by omega) (by omega)]; rfl
theorem at_str (xs : List Str) (i : Nat) (h : i < xs.length) (k : D → Prop) : wpo (atI (xs.map D.str) i) k = k (.str (sg xs i)) := by
 rw [atI_map, wpo_map, atI_get (Str.ofString "") (by omega) (by omega)]; rfl
theorem at_intI (xs : List Int) (i : Int) (h0 : 0 ≤ i) (h : i < xs.length) (k : D → Prop) : wpo (atI (xs.map D.int) i) k = k (.int (rg xs i.toNat)) := by
 obtain ⟨n, rfl⟩ := Int.eq_ofNat_of_zero_le h0
 exact at_int xs n (by omega) k
def pw (e : Nat) : Int := match e with | 0 => 1 | 1 => 2 | 2 => 4 | _ => 8
theorem at_pw (e : Nat) (h : e < 4) (k : D → Prop) : wpo (atI [D.int 1, D.int 2, D.int 4, D.int 8] e) k = k (.int (pw e)) := by
 have : e = 0 ∨ e = 1 ∨ e = 2 ∨ e = 3 := by omega
 rcases this with rfl | rfl | rfl | rfl <;> rfl
theorem pw_bd (e : Nat) : 0 < pw e ∧ pw e < 1073741824 := by
 unfold pw; split <;> omega
def markIn (dg : Int) (e : Nat) : Bool := decide (48 ≤ dg) || decide (dg / pw e % 2 = 1)
def marksN (dg : Int) (size : Nat) : List Int := ((List.range size).filter (markIn dg)).map fun (n : Nat) => (n : Int)
theorem marksN_asc (dg : Int) (size : Nat) : (marksN dg size).Pairwise (· < ·) := by
 unfold marksN
 rw [List.pairwise_map]
 exact (List.pairwise_lt_range.sublist List.filter_sublist).imp fun h => by omega
theorem marksN_bd {dg : Int} {size : Nat} {m : Int} (h : m ∈ marksN dg size) : 0 ≤ m ∧ m < size := by
 obtain ⟨n, hn, rfl⟩ := List.mem_map.mp h
 have := (List.mem_filter.mp hn).1
 simp at this; omega
theorem marksN_len (dg : Int) (size : Nat) : (marksN dg size).length ≤ size := by
 unfold marksN
 rw [List.length_map]
 refine Nat.le_trans (List.length_filter_le _ _) (by simp)
theorem rngU_map (n : Nat) : rngU 0 n = ((List.range n).map fun (i : Nat) => D.int i).map U.v := by
 unfold rngU
 rw [List.map_map]
 refine List.map_congr_left fun i _ => ?_
 simp
theorem marks_ok (dg : Int) (size : Nat) (hs : size ≤ 4) (S : Sto) : f__law_marks [.v (.int dg), .v (.int size)] S = .ok (.v (.lst ((marksN dg size).map D.int))) S := by
 unfold f__law_marks
 refine runF_eq ?_
 simp [m__law_marks, start0]
 refine w_lcV (ds := (List.range size).map fun (i : Nat) => D.int i) (src := none) (S1 := S) (fun d => match d with | .int i => markIn dg i.toNat | _ => false) (fun d => d) ?_ ?_ nofun ?_ ?_
 · simp [rngU_map, Function.comp_def]; omega
 · simp; omega
 · intro d hd acc
   have hd2 := List.mem_map.mp hd
   obtain ⟨i, hi, he⟩ := hd2
   subst he
   simp at hi
   have hp := pw_bd i
   simp [wipeE, at_pw i (by omega), hp.1, hp.2, markIn]
   by_cases h : 48 ≤ dg <;> simp [h]
 · have e : (((List.range size).map fun (i : Nat) => D.int i).filter fun d => match d with | .int i => markIn dg i.toNat | _ => false).map (fun d => d) = (marksN dg size).map D.int := by
     unfold marksN
     rw [List.filter_map, List.map_map, List.map_map]
     rfl
   rw [e]; simp
def stepIn (row : List Int) (size n : Nat) (single : Bool) (s a e : Nat) : Bool :=
 if single = true then decide (rg row ((s * n + a) % row.length) % (size + 1) = e + 1) else decide (rg row ((s * n + a) % row.length) / pw e % 2 = 1)
def stE (row : List Int) (size : Nat) (asks : List Str) (single : Bool) (s a k : Nat) : List St3 := ((List.range k).filter fun e => stepIn row size asks.length single s a e).map fun (e : Nat) => ((s : Int), sg asks a, (e : Int))
def stA (row : List Int) (size : Nat) (asks : List Str) (single : Bool) (s k : Nat) : List St3 := (List.range k).flatMap fun a => stE row size asks single s a size
def stS (row : List Int) (size : Nat) (asks : List Str) (single : Bool) (k : Nat) : List St3 := (List.range k).flatMap fun s => stA row size asks single s asks.length
abbrev stepsN (row : List Int) (size : Nat) (asks : List Str) (single : Bool) : List St3 := stS row size asks single size
section
variable {row : List Int} {size : Nat} {asks : List Str} {single : Bool}
theorem stE_succ (s a k : Nat) : stE row size asks single s a (k + 1) = stE row size asks single s a k ++ (if stepIn row size asks.length single s a k = true then [((s : Int), sg asks a, (k : Int))] else []) := by
 unfold stE
 rw [List.range_succ, List.filter_append, List.map_append]
 congr 1
 by_cases h : stepIn row size asks.length single s a k = true <;> simp [h]
theorem stA_succ (s k : Nat) : stA row size asks single s (k + 1) = stA row size asks single s k ++ stE row size asks single s k size := by simp [stA, List.range_succ]
theorem stS_succ (k : Nat) : stS row size asks single (k + 1) = stS row size asks single k ++ stA row size asks single k asks.length := by simp [stS, List.range_succ]
theorem stE_len (s a k : Nat) : (stE row size asks single s a k).length ≤ k := by
 unfold stE; rw [List.length_map]; exact Nat.le_trans (List.length_filter_le _ _) (by simp)
theorem stA_len (s : Nat) : ∀ k, (stA row size asks single s k).length ≤ k * size
 | 0 => by simp [stA]
 | k + 1 => by
   have h1 := stA_len s k
   have h2 := stE_len (row := row) (size := size) (asks := asks) (single := single) s k size
   rw [stA_succ, List.length_append, Nat.succ_mul]; omega
theorem stS_len : ∀ k, (stS row size asks single k).length ≤ k * (asks.length * size)
 | 0 => by simp [stS]
 | k + 1 => by
   have h1 := stS_len k
   have h2 := stA_len (row := row) (size := size) (asks := asks) (single := single) k asks.length
   rw [stS_succ, List.length_append, Nat.succ_mul]; omega
theorem stepsN_mem {t : St3} : t ∈ stepsN row size asks single ↔ ∃ s a e : Nat, s < size ∧ a < asks.length ∧ e < size ∧ stepIn row size asks.length single s a e = true ∧ t = ((s : Int), sg asks a, (e : Int)) := by
 unfold stepsN stS stA stE
 simp only [List.mem_flatMap, List.mem_map, List.mem_filter, List.mem_range]
 constructor
 · rintro ⟨s, hs, a, ha, e, ⟨he, h⟩, rfl⟩
   exact ⟨s, a, e, hs, ha, he, h, rfl⟩
 · rintro ⟨s, a, e, hs, ha, he, h, rfl⟩
   exact ⟨s, hs, a, ha, e, ⟨he, h⟩, rfl⟩
theorem stepsN_raw (hs : 1 ≤ size) (hs2 : size ≤ 4) (ha : asks.length ≤ 8) (hk : ∀ z ∈ asks, AskS z) {ms : List Int} (hm : ∀ m ∈ ms, 0 ≤ m ∧ m < size) (hml : ms.length ≤ 600) : Raw size ms (stepsN row size asks single) where
 s1 := by omega
 s2 := by omega
 m0 := hm
 t0 := fun t ht => by
   obtain ⟨s, a, e, h1, h2, h3, _, rfl⟩ := stepsN_mem.mp ht
   refine ⟨by show (0 : Int) ≤ s; omega, by show (s : Int) < size; omega, by show (0 : Int) ≤ e; omega, by show (e : Int) < size; omega, ?_⟩
   show AskS (sg asks a)
   rw [sg_get h2]
   exact hk _ (List.getElem_mem h2)
 ml := hml
 tl := by
   have h := stS_len (row := row) (size := size) (asks := asks) (single := single) size
   have h1 : asks.length * size ≤ 8 * 4 := Nat.mul_le_mul ha hs2
   have h2 : size * (asks.length * size) ≤ 4 * (8 * 4) := Nat.mul_le_mul hs2 h1
   exact Nat.le_trans h (by omega)
end
theorem steps_ok (row : List Int) (hr : 0 < row.length) (size : Nat) (hs : size ≤ 4) (asks : List Str) (ha : asks.length ≤ 8) (single : Bool) (S : Sto) :
   f__law_steps [.v (.lst (row.map D.int)), .v (.int size), .v (.lst (asks.map D.str)), .v (.bl single)] S = .ok (.v (.lst ((stepsN row size asks single).map stD))) S := by
 unfold f__law_steps
 refine runF_eq ?_
 simp [m__law_steps, start0]
 refine ⟨by omega, ?_⟩
 have hb : ∀ s a e, s ≤ 4 → a ≤ 8 → e ≤ 4 → (stS row size asks single s).length + (stA row size asks single s a).length + (stE row size asks single s a e).length < 1000 := fun s a e h1 h2 h3 => by
   have b1 := stS_len (row := row) (size := size) (asks := asks) (single := single) s
   have b2 := stA_len (row := row) (size := size) (asks := asks) (single := single) s a
   have b3 := stE_len (row := row) (size := size) (asks := asks) (single := single) s a e
   have c1 : asks.length * size ≤ 8 * 4 := Nat.mul_le_mul ha hs
   have c2 : s * (asks.length * size) ≤ 4 * (8 * 4) := Nat.mul_le_mul h1 c1
   have c3 : a * size ≤ 8 * 4 := Nat.mul_le_mul h2 hs
   omega
 refine for_inv (fun i ρ T => ∃ x5 x6 x7 x8, ρ = [some (.v (.lst (row.map D.int))), some (.v (.int size)), some (.v (.lst (asks.map D.str))), some (.v (.bl single)), some (.r S.length), x5, x6, x7, x8] ∧ T = S ++ [.lst (((stS row size asks single i).map stD).map U.v)]) ⟨none, none, none, none, rfl, by simp [stS]⟩ ?_ ?_
 · rintro s u ρ T hu ⟨x5, x6, x7, x8, rfl, rfl⟩
   obtain ⟨hsz, rfl⟩ := rngU_get hu
   simp
   refine ⟨by omega, ?_⟩
   refine for_inv (fun i ρ T => ∃ x6 x7 x8, ρ = [some (.v (.lst (row.map D.int))), some (.v (.int size)), some (.v (.lst (asks.map D.str))), some (.v (.bl single)), some (.r S.length), some (.v (.int s)), x6, x7, x8] ∧ T = S ++ [.lst (((stS row size asks single s ++ stA row size asks single s i).map stD).map U.v)]) ⟨x6, x7, x8, rfl, by simp [stA]⟩ ?_ ?_
   · rintro a u ρ T hu ⟨x6, x7, x8, rfl, rfl⟩
     obtain ⟨haz, rfl⟩ := rngU_get hu
     have hdg : ∀ k : D → Prop, wpo (atI (row.map D.int) (((s : Int) * asks.length + a) % row.length)) k = k (.int (rg row ((s * asks.length + a) % row.length))) := fun k => by
       have e : ((s : Int) * asks.length + a) % row.length = ((s * asks.length + a) % row.length : Nat) := by simp
       rw [e]
       exact at_int row _ (Nat.mod_lt _ hr) k
     simp [-atI_map, hdg]
     refine ⟨.inl (by omega), by omega, by omega, ?_⟩
     refine for_inv (fun i ρ T => ∃ x8, ρ = [some (.v (.lst (row.map D.int))), some (.v (.int size)), some (.v (.lst (asks.map D.str))), some (.v (.bl single)), some (.r S.length), some (.v (.int s)), some (.v (.int a)), some (.v (.int (rg row ((s * asks.length + a) % row.length)))), x8] ∧ T = S ++ [.lst (((stS row size asks single s ++ stA row size asks single s a ++ stE row size asks single s a i).map stD).map U.v)]) ⟨x8, rfl, by simp [stE]⟩ ?_ ?_
     · rintro e u ρ T hu ⟨x8, rfl, rfl⟩
       obtain ⟨hez, rfl⟩ := rngU_get hu
       have hbd := hb s a e (by omega) (by omega) (by omega)
       have hp := pw_bd e
       rw [stE_succ]
       unfold stepIn
       cases single with
       | true =>
         simp [-atI_map, at_str asks a haz]
         intro h
         simp [h, isL_r, stD]; omega
       | false =>
         simp [-atI_map, at_str asks a haz, at_pw e (by omega), hp.1, hp.2]
         by_cases h : rg row ((s * asks.length + a) % row.length) / pw e % 2 = 1
         · simp [h, isL_r, -atI_map, at_str asks a haz, stD]; omega
         · simp [h]
     · rintro ρ T ⟨x8, rfl, rfl⟩
       simp [stA_succ]
   · rintro ρ T ⟨x6, x7, x8, rfl, rfl⟩
     simp [stS_succ]
 · rintro ρ T ⟨x5, x6, x7, x8, rfl, rfl⟩
   simp only [rngU_len, getv_s, getv_0]
   rw [fin_l0]
section
variable {S : Sto} {x : U} {c : Nat} {size : Int} {ms : List Int} {ts : List St3} {now : Int}
theorem getitem_ok (h : IsM S x c size ms ts now) (a : Str) : f_Machineu_getitemu [x, .v (.str a)] S = .ok (.v (.tup ((endsL ts now a).map D.int))) S := by
 unfold f_Machineu_getitemu
 refine runF_eq ?_
 have hk := keyS_key now a
 have e := endsD_getD ts now a
 unfold keyS at hk e
 simp [m_Machineu_getitemu, start0, h.at, h.2, v_getV, e]
theorem bool_ok (h : IsM S x c size ms ts now) : f_Machineu_boolu [x] S = .ok (.v (.bl (decide (now ∈ ms)))) S := by
 unfold f_Machineu_boolu
 refine runF_eq ?_
 simp [m_Machineu_boolu, start0, h.at, h.2]
 rw [q3t (ds := ms.map D.int) false rfl (by simp) (by simp) (by simp)]
 simp
end
end Mi
namespace Pu
open PySem L2
theorem optAll_map {α β : Type} {f : α → Option β} {g : α → β} : ∀ {l : List α}, (∀ x ∈ l, f x = some (g x)) → optAll f l = some (l.map g)
 | [], _ => rfl
 | x :: l, h => by
   unfold optAll
   rw [h x (by simp), optAll_map fun y hy => h y (by simp [hy])]
   rfl
theorem zip_snd {α : Type} : ∀ {S S' : List α}, S.length ≤ S'.length → (S.zip S').map (fun p => p.2) = S'.take S.length
 | [], _, _ => by simp
 | a :: S, [], h => by simp at h
 | a :: S, b :: S', h => by simp [zip_snd (S := S) (S' := S') (by simpa using h)]
theorem fixS_ok {S S' : Sto} (hl : S.length ≤ S'.length) (h : ∀ i c, i < S.length → S'[i]? = some c → S[i]? = some c ∨ cOk S.length c = true) : fixS S S' = some (S'.take S.length) := by
 unfold fixS
 rw [optAll_map (g := fun p => p.2)]
 · congr 1
   exact zip_snd hl
 · rintro ⟨a, b⟩ hp
   obtain ⟨i, hi⟩ := List.getElem?_of_mem hp
   obtain ⟨h1, h2⟩ := List.getElem?_zip_eq_some.mp hi
   simp only
   split
   · rename_i e; rw [e]
   · rename_i ne
     rcases h i b (List.getElem?_eq_some_iff.mp h1).1 h2 with e | e
     · rw [h1] at e; exact absurd (Option.some.inj e).symm ne
     · exact fixC_ok e
theorem fixS_set {S : Sto} {n : Nat} {c : Cell} {l : Sto} (h : cOk S.length c = true) : fixS S (S.set n c ++ l) = some (S.set n c) := by
 rw [fixS_ok (by simp)]
 · simp
 · intro i c' hi hc
   rw [List.getElem?_append_left (by simpa using hi)] at hc
   by_cases e : n = i
   · subst e
     rw [List.getElem?_set_self hi] at hc
     cases hc; exact .inr h
   · rw [List.getElem?_set_ne e] at hc; exact .inl hc
theorem fin_set {S : Sto} {n : Nat} {c : Cell} {d : D} (h : cOk S.length c = true) : fin S (.v d) (S.set n c) = .ok (.v d) (S.set n c) := by
 unfold fin
 have := fixS_set (n := n) (l := []) h
 rw [List.append_nil] at this
 rw [this]; rfl
theorem cOk_uF (n c : Nat) (fs : List (Str × D)) : cOk n (.ins c (List.map (fun p => (p.1, U.v p.2)) fs)) = true := by
 unfold cOk
 simp [uOk]
end Pu
namespace Pu
open PySem L2
section
variable {α : Type} {vs : List Nat} {it : MI} {g : MG} {t : MT} {e : ME} {ρ : Env'} {S S1 : Sto} {src : Option Nat} {q : U → Sto → Prop} {X : XP}
theorem lcGo_U {c0 : Option Cell} (enc : α → U) (p : α → Bool) (f : α → D) (so : ∀ acc : List D, srcOk src c0 (S1 ++ [.lst (acc.map U.v)])) : ∀ (xs : List α) (acc : List D), acc.length + xs.length < 100000 →
   (∀ x ∈ xs, ∀ acc : List D, ∃ ρ1, g (enc x) ρ = some ρ1 ∧ t ρ1 (S1 ++ [.lst (acc.map U.v)]) = .ok (p x) (S1 ++ [.lst (acc.map U.v)]) ∧ (p x = true → e ρ1 (S1 ++ [.lst (acc.map U.v)]) = .ok (.v (f x)) (S1 ++ [.lst (acc.map U.v)]))) →
   lcGo src c0 g t e S1.length (xs.map enc) ρ (S1 ++ [.lst (acc.map U.v)]) = .ok () (S1 ++ [.lst ((acc ++ (xs.filter p).map f).map U.v)])
 | [], acc, _, _ => by simp [lcGo]
 | x :: xs, acc, hl, h => by
   obtain ⟨ρ1, h1, h2, h3⟩ := h x (by simp) acc
   simp only [List.length_cons] at hl
   have ih := fun acc' (hl' : acc'.length + xs.length < 100000) => lcGo_U (c0 := c0) enc p f so xs acc' hl' fun y hy => h y (by simp [hy])
   simp only [List.map_cons]
   unfold lcGo
   simp only [h1, h2, noEx_ok, R.bind_ok]
   cases hp : p x with
   | false =>
     simp only [Bool.false_eq_true, if_false]
     rw [if_pos (so acc), ih acc (by omega)]
     simp [hp]
   | true =>
     simp only [if_true, h3 hp, noEx_ok, R.bind_ok]
     have hc : (S1 ++ [Cell.lst (acc.map U.v)])[S1.length]? = some (.lst (acc.map U.v)) := by simp
     simp only [hc]
     rw [if_pos ⟨by simp; omega, so acc⟩]
     have es : (S1 ++ [Cell.lst (acc.map U.v)]).set S1.length (.lst (acc.map U.v ++ [.v (f x)])) = S1 ++ [.lst ((acc ++ [f x]).map U.v)] := by simp
     rw [es, ih (acc ++ [f x]) (by simp; omega)]
     simp [hp]
theorem src_ok (hs : ∀ n, src = some n → n < S1.length) (l : Sto) : srcOk src (src.bind fun n => S1[n]?) (S1 ++ l) := by
 unfold srcOk
 cases src with
 | none => trivial
 | some n => simp only [Option.bind_some]; rw [List.getElem?_append_left (hs n rfl)]
theorem w_lcU (enc : α → U) (xs : List α) (p : α → Bool) (f : α → D) (hi : wpr (it ρ S) (fun iv T => iv = ⟨xs.map enc, src⟩ ∧ T = S1) (fun _ _ _ => False)) (hl : xs.length < 100000) (hs : ∀ n, src = some n → n < S1.length)
   (h : ∀ x ∈ xs, ∀ acc : List D, wpo (g (enc x) (wipeE ρ vs)) fun ρ1 => wpr (t ρ1 (S1 ++ [.lst (acc.map U.v)])) (fun b T => b = p x ∧ T = S1 ++ [.lst (acc.map U.v)]) (fun _ _ _ => False) ∧
     (p x = true → wpr (e ρ1 (S1 ++ [.lst (acc.map U.v)])) (fun u T => u = .v (f x) ∧ T = S1 ++ [.lst (acc.map U.v)]) (fun _ _ _ => False)))
   (k : q (.v (.lst ((xs.filter p).map f))) S1) : wpr (eLcV vs it g t e ρ S) q X := by
 unfold eLcV lcRun
 rw [eq_of_wpr hi]
 simp only [R.bind_ok]
 rw [if_pos (src_ok hs _)]
 have := lcGo_U (S1 := S1) (t := t) (e := e) (g := g) (ρ := wipeE ρ vs) enc p f (fun acc => src_ok hs _) xs [] (by simpa using hl) (fun x hx acc => by
   have h1 := h x hx acc
   cases qq : g (enc x) (wipeE ρ vs) with
   | none => rw [qq] at h1; exact h1.elim
   | some ρ1 =>
     rw [qq] at h1
     exact ⟨ρ1, rfl, eq_of_wpr h1.1, fun z => eq_of_wpr (h1.2 z)⟩)
 simp only [List.map_nil, List.nil_append] at this
 rw [this]
 simp only [R.bind_ok, kfV]
 have hc : (S1 ++ [Cell.lst (((xs.filter p).map f).map U.v)])[S1.length]? = some (.lst (((xs.filter p).map f).map U.v)) := by simp
 simp only [hc, allV_map, if_true]
 exact k
def refsN (n k : Nat) : List U := (List.range k).map fun i => .r (n + i)
theorem refsN_succ (n k : Nat) : refsN n (k + 1) = refsN n k ++ [.r (n + k)] := by simp [refsN, List.range_succ]
@[simp] theorem refsN_len (n k : Nat) : (refsN n k).length = k := by simp [refsN]
theorem refsN_get {n k i : Nat} (h : i < k) : (refsN n k)[i]? = some (.r (n + i)) := by simp [refsN, h]
theorem lcGo_C {c0 : Option Cell} (enc : α → U) (f : α → Cell) (so : ∀ l : Sto, srcOk src c0 (S1 ++ l)) : ∀ (xs done : List α), done.length + xs.length < 100000 →
   (∀ x ∈ xs, ∀ T : Sto, ∃ ρ1, g (enc x) ρ = some ρ1 ∧ t ρ1 T = .ok true T ∧ e ρ1 T = .ok (.r T.length) (T ++ [f x])) →
   lcGo src c0 g t e S1.length (xs.map enc) ρ (S1 ++ .lst (refsN (S1.length + 1) done.length) :: done.map f) = .ok () (S1 ++ .lst (refsN (S1.length + 1) (done ++ xs).length) :: (done ++ xs).map f)
 | [], done, _, _ => by simp [lcGo]
 | x :: xs, done, hl, h => by
   obtain ⟨ρ1, h1, h2, h3⟩ := h x (by simp) (S1 ++ .lst (refsN (S1.length + 1) done.length) :: done.map f)
   have ih := lcGo_C (c0 := c0) enc f so xs (done ++ [x]) (by simp at hl ⊢; omega) fun y hy => h y (by simp [hy])
   simp only [List.map_cons]
   unfold lcGo
   simp only [h1, h2, noEx_ok, R.bind_ok, if_true, h3]
   have hc : (S1 ++ Cell.lst (refsN (S1.length + 1) done.length) :: done.map f ++ [f x])[S1.length]? = some (.lst (refsN (S1.length + 1) done.length)) := by
     rw [List.append_assoc, List.getElem?_append_right (Nat.le_refl _)]; simp
   simp only [hc]
   rw [if_pos ⟨by simp at hl ⊢; omega, by rw [List.append_assoc]; exact so _⟩]
   have es : (S1 ++ Cell.lst (refsN (S1.length + 1) done.length) :: done.map f ++ [f x]).set S1.length (.lst (refsN (S1.length + 1) done.length ++ [.r (S1 ++ Cell.lst (refsN (S1.length + 1) done.length) :: done.map f).length])) = S1 ++ .lst (refsN (S1.length + 1) (done ++ [x]).length) :: (done ++ [x]).map f := by
     have hlen : (S1 ++ Cell.lst (refsN (S1.length + 1) done.length) :: done.map f).length = S1.length + 1 + done.length := by simp; omega
     rw [hlen, List.append_assoc, List.set_append_right _ _ (Nat.le_refl _)]
     simp [refsN_succ]
   rw [es, ih]
   simp
theorem w_lcC (enc : α → U) (xs : List α) (f : α → Cell) (hi : wpr (it ρ S) (fun iv T => iv = ⟨xs.map enc, src⟩ ∧ T = S1) (fun _ _ _ => False)) (hl : xs.length < 100000) (hs : ∀ n, src = some n → n < S1.length)
   (h : ∀ x ∈ xs, ∀ T : Sto, wpo (g (enc x) (wipeE ρ vs)) fun ρ1 => wpr (t ρ1 T) (fun b T' => b = true ∧ T' = T) (fun _ _ _ => False) ∧ wpr (e ρ1 T) (fun u T' => u = .r T.length ∧ T' = T ++ [f x]) (fun _ _ _ => False))
   (k : q (.r S1.length) (S1 ++ .lst (refsN (S1.length + 1) xs.length) :: xs.map f)) : wpr (eLcS vs it g t e ρ S) q X := by
 unfold eLcS lcRun
 rw [eq_of_wpr hi]
 simp only [R.bind_ok]
 rw [if_pos (src_ok hs _)]
 have := lcGo_C (S1 := S1) (t := t) (e := e) (g := g) (ρ := wipeE ρ vs) enc f (fun l => src_ok hs l) xs [] (by simpa using hl) (fun x hx T => by
   have h1 := h x hx T
   cases qq : g (enc x) (wipeE ρ vs) with
   | none => rw [qq] at h1; exact h1.elim
   | some ρ1 =>
     rw [qq] at h1
     exact ⟨ρ1, rfl, eq_of_wpr h1.1, eq_of_wpr h1.2⟩)
 simp only [List.map_nil, List.nil_append, List.length_nil] at this
 have e0 : refsN (S1.length + 1) 0 = [] := rfl
 rw [e0] at this
 rw [this]
 exact k
end
section
variable {ρ : Env'} {S : Sto} {X : XP}
@[simp ↓] theorem w_iZip (a : MA) (q : IterV → Sto → Prop) : wpr (iZip a ρ S) q X = wpr (a ρ S) (fun us S1 => match us with
   | [x, y] => wpo (seqD x) fun p => wpo (seqD y) fun r => q ⟨zipD p.2 r.2, none⟩ S1
   | _ => False) X := by
 simp only [iZip, wpr_bind]
 congr 1; funext us S1
 rcases us with _ | ⟨x, _ | ⟨y, _ | ⟨z, us⟩⟩⟩
 · rfl
 · rfl
 · cases hx : seqD x with
   | none => simp [hx]
   | some p => cases hy : seqD y <;> simp [hx, hy]
 · rfl
@[simp] theorem seqD_l (ds : List D) : seqD (.v (.lst ds)) = some (false, ds) := rfl
@[simp] theorem seqD_f (ds : List D) : seqD (.v (.frl ds)) = some (false, ds) := rfl
@[simp] theorem seqD_t (ds : List D) : seqD (.v (.tup ds)) = some (true, ds) := rfl
theorem zipD_map {α β : Type} (f : α → D) (g : β → D) : ∀ (xs : List α) (ys : List β), zipD (xs.map f) (ys.map g) = (xs.zip ys).map fun p => U.v (.tup [f p.1, g p.2])
 | [], _ => by simp [zipD]
 | _ :: _, [] => by simp [zipD]
 | x :: xs, y :: ys => by simp [zipD, zipD_map f g xs ys]
@[simp ↓] theorem w_mkT (c : Nat) (mf : List U → Sto → R U) (a : MA) (q : U → Sto → Prop) : wpr (eMkT c mf a ρ S) q X = wpr (a ρ S) (fun us S1 => wpr (eMakeT c mf us (.v .non) S1) q X) X := by simp only [eMkT, wpr_bind]
@[simp ↓] theorem at43 {α : Type} (a b c d : α) (k : α → Prop) : wpo (atI [a, b, c, d] 3) k = k d := id rfl
end
end Pu
namespace Mi
open PySem Pu L2
theorem intD_inj {a b : List Int} : a.map D.int = b.map D.int ↔ a = b := ⟨fun h => by have := congrArg (List.map fun d => match d with | .int i => i | _ => 0) h; simpa [Function.comp_def] using this, congrArg _⟩
theorem item_holds_ok {S : Sto} {x : U} {c : Nat} {size : Int} {ms : List Int} {ts : List St3} {now : Int} (h : IsM S x c size ms ts now) (a : Str) (due : List Int) (hl : ts.length ≤ 1000) :
   f__law_item_holds [x, .v (.str a), .v (.lst (due.map D.int))] S = .ok (.v (.bl (decide (endsL ts now a = due)))) S := by
 unfold f__law_item_holds
 refine runF_eq ?_
 have hel : (endsL ts now a).length ≤ ts.length := by unfold endsL; rw [List.length_map]; exact List.length_filter_le _ _
 simp [m__law_item_holds, start0, h.at, h.2, getitem_ok h]
 refine w_lcV (ds := (endsL ts now a).map D.int) (src := none) (S1 := S) (fun _ => true) (fun _ => .bl true) ?_ ?_ nofun ?_ ?_
 · simp
 · simp; omega
 · intro d hd acc
   obtain ⟨i, hi, rfl⟩ := List.mem_map.mp hd
   simp [wipeE, whole_ok]
 rw [allT _ D.int _ (fun _ => rfl), v_all, all_true]
 simp
 rw [v_eq (dat_ints _) (dat_ints _)]
 simp [intD_inj]
end Mi
namespace K02
open PySem Pu L2 Mi
def due (size : Nat) (ts : List St3) (here : Int) (a : Str) : List Int := ((List.range size).filter fun (e : Nat) => decide ((here, a, (e : Int)) ∈ ts)).map fun (e : Nat) => (e : Int)
theorem due_eq {size : Nat} {ts : List St3} (hb : ∀ t ∈ ts, 0 ≤ t.2.2 ∧ t.2.2 < size) (here : Int) (a : Str) : endsL (sort3 ts) here a = due size ts here a := by
 refine asc_ext (lt := (· < ·)) (by omega) (by omega) (endsL_asc (sort3_asc ts) here a) ?_ fun e => ?_
 · unfold due
   rw [List.pairwise_map]
   exact (List.pairwise_lt_range.sublist List.filter_sublist).imp fun h => by omega
 · rw [endsL_mem, sort3_mem]
   unfold due
   simp only [List.mem_map, List.mem_filter, List.mem_range, decide_eq_true_eq]
   constructor
   · intro h
     have hbe := hb _ h
     simp only at hbe
     obtain ⟨n, rfl⟩ := Int.eq_ofNat_of_zero_le hbe.1
     exact ⟨n, ⟨by omega, h⟩, rfl⟩
   · rintro ⟨n, ⟨_, h⟩, rfl⟩
     exact h
theorem key_st (t : St3) : isKey (stD t) = true := by simp [stD]
theorem in_steps {S : Sto} {q : U → Sto → Prop} (neg : Bool) (t : St3) (u : U) (ts : List St3) (hu : asSeq S u = some ((ts.map stD).map U.v)) : wpO (fInX neg (.v (stD t)) u S) q = q (.v (.bl (cond neg (!decide (t ∈ ts)) (decide (t ∈ ts))))) S := by
 rw [q3t neg hu (key_st t) (fun x hx => by obtain ⟨s, _, rfl⟩ := List.mem_map.mp hx; exact key_st s) (by simp [stD])]
 have : stD t ∈ ts.map stD ↔ t ∈ ts := ⟨fun h => by obtain ⟨s, hs, e⟩ := List.mem_map.mp h; rw [← stD_inj e]; exact hs, fun h => List.mem_map_of_mem h⟩
 simp only [this]
theorem in_ints {S : Sto} {q : U → Sto → Prop} (neg : Bool) (i : Int) (u : U) (l : List Int) (hu : asSeq S u = some ((l.map D.int).map U.v)) : wpO (fInX neg (.v (.int i)) u S) q = q (.v (.bl (cond neg (!decide (i ∈ l)) (decide (i ∈ l))))) S := by
 rw [q3t neg hu (by simp) (fun x hx => by obtain ⟨s, _, rfl⟩ := List.mem_map.mp hx; simp) (by simp)]
 have : D.int i ∈ l.map D.int ↔ i ∈ l := by simp
 simp only [this]
theorem fin_nil (d : D) (l : Sto) : fin [] (.v d) l = .ok (.v d) [] := fin_v [] d l
theorem pure_law (ns : List Int) (hns : ns.length ≤ 63) : ∃ S', f_law_2 [.v (.frl (ns.map D.int))] [] = .ok (.v (.bl true)) S' := by
 suffices h : wpr (f_law_2 [.v (.frl (ns.map D.int))] []) (fun u _ => u = .v (.bl true)) (fun _ _ _ => False) by
   obtain ⟨u, S', e, rfl⟩ := wpr_iff.mp h
   exact ⟨S', e⟩
 unfold f_law_2
 rw [wp_runF]
 have D0 := fun S => draws_i ns 0 8 (by omega) (by omega) (by omega) S
 have D1 := fun S => draws_i ns 1 13 (by omega) (by omega) (by omega) S
 have D2 := fun S => draws_i ns 2 16 (by omega) (by omega) (by omega) S
 obtain ⟨r0, hr0⟩ : ∃ r, r = rowN ns 0 8 := ⟨_, rfl⟩
 obtain ⟨r1, hr1⟩ : ∃ r, r = rowN ns 1 13 := ⟨_, rfl⟩
 obtain ⟨r2, hr2⟩ : ∃ r, r = rowN ns 2 16 := ⟨_, rfl⟩
 have l0 : r0.length = 8 := by rw [hr0]; simp
 have l1 : r1.length = 13 := by rw [hr1]; simp
 have l2 : r2.length = 16 := by rw [hr2]; simp
 simp only [Int.reduceToNat, ← hr0, ← hr1, ← hr2] at D0 D1 D2
 clear hr0 hr1 hr2
 have I0 : ∀ i : Int, 0 ≤ i → i < 8 → ∀ k : Int → Prop, wpo (atI r0 i) k = k (rg r0 i.toNat) := fun i h0 h1 k => atI_get 0 h0 (by omega)
 have hA := fun S => asks_i r1 l1 (2 + rg r0 1 % 4) (by omega) (by omega) S
 obtain ⟨zs, hzs⟩ : ∃ z, z = asksN r1 (2 + rg r0 1 % 4).toNat := ⟨_, rfl⟩
 have zl : zs.length ≤ 5 := by rw [hzs]; simp; omega
 have zk : ∀ z ∈ zs, AskS z := by rw [hzs]; exact asksN_ask r1 l1 _
 rw [← hzs] at hA
 clear hzs
 obtain ⟨size, hsize⟩ : ∃ z : Nat, (1 + rg r0 0 % 4) = (z : Int) := ⟨(1 + rg r0 0 % 4).toNat, by omega⟩
 have sz1 : 1 ≤ size := by omega
 have sz2 : size ≤ 4 := by omega
 obtain ⟨as, has⟩ : ∃ z, z = zs.drop 1 := ⟨_, rfl⟩
 have al : as.length ≤ 8 := by rw [has]; simp; omega
 have ak : ∀ z ∈ as, AskS z := fun z hz => zk z (by rw [has] at hz; exact List.mem_of_mem_drop hz)
 have hS := fun S => steps_ok r2 (by omega) size sz2 as al (decide (rg r0 2 % 4 = 0)) S
 have hM := fun S => marks_ok (rg r0 3) size sz2 S
 have raw := stepsN_raw (row := r2) (single := decide (rg r0 2 % 4 = 0)) sz1 sz2 al ak (ms := marksN (rg r0 3) size) (fun m hm => marksN_bd hm) (by have := marksN_len (rg r0 3) size; omega)
 generalize stepsN r2 size as (decide (rg r0 2 % 4 = 0)) = ts at hS raw
 have mas := marksN_asc (rg r0 3) size
 generalize marksN (rg r0 3) size = ms at hM raw mas
 have hcut : cutU (zs.map D.str) (some 1) none = as.map D.str := by rw [cutU_lo _ _ (by omega), has]; simp
 simp [m_law_2, start0, D0, D1, D2, I0, hA, hcut, hS, hM, hsize]
 refine ⟨by omega, ?_⟩
 have rawR : Raw size ms ts.reverse := ⟨raw.s1, raw.s2, raw.m0, fun s hs => raw.t0 s (by simpa using hs), raw.ml, by simpa using raw.tl⟩
 have eS : sort3 ts.reverse = sort3 ts := sort3_eq (sort3_asc ts) fun t => by rw [sort3_mem]; simp
 have eM : sortI ms = ms := sortI_eq mas fun _ => Iff.rfl
 have hdue : ∀ (here : Int) (a : Str), endsL (sort3 ts) here a = due size ts here a := fun here a => due_eq (fun t ht => ⟨(raw.t0 t ht).2.2.1, (raw.t0 t ht).2.2.2.1⟩) here a
 have tl := raw.tl
 have tl3 := sort3_len ts
 refine for_inv (fun i ρ T => ∃ x7 x8 x9 x10 x11, ρ = [some (.v (.frl (ns.map D.int))), some (.v (.lst (r0.map D.int))), some (.v (.int size)), some (.v (.lst (zs.map D.str))), some (.v (.lst (as.map D.str))), some (.v (.lst (ts.map stD))), some (.v (.lst (ms.map D.int))), x7, x8, x9, x10, x11, none]) ⟨none, none, none, none, none, rfl⟩ ?_ ?_
 · rintro here u ρ T hu ⟨x7, x8, x9, x10, x11, rfl⟩
   obtain ⟨hh, rfl⟩ := rngU_get hu
   have OK := rawR.ok (now := here) (by omega) (by omega)
   have hs := fun T => service_ok size ms (sortI ms) ts.reverse (sort3 ts.reverse) here OK (.v (.lst (ms.map D.int))) (.v (.lst (ts.reverse.map stD))) T rfl rfl
   have hp := fun T => pattern_ok size ms (sortI ms) ts.reverse (sort3 ts.reverse) here OK (.v (.lst (ms.map D.int))) (.v (.lst (ts.reverse.map stD))) T rfl rfl
   rw [eS, eM] at hs hp
   have rest : ∀ (c n : Nat) (T : Sto) (x9 x10 x11 : Option U), IsM T (.r n) c size ms (sort3 ts) here → ∀ Q : Post, (∀ x9 x10 x11, Q.nx [some (.v (.frl (ns.map D.int))), some (.v (.lst (r0.map D.int))), some (.v (.int size)), some (.v (.lst (zs.map D.str))), some (.v (.lst (as.map D.str))), some (.v (.lst (ts.map stD))), some (.v (.lst (ms.map D.int))), some (.v (.int here)), some (.r n), x9, x10, x11, none] T) →
       ∀ m : MS, m = (sFor (iRng1 (aCons (eC (.int 2)) aNil)) (gName 9)
         (sSeq (sFor (iVal (eVar 3)) (gName 10)
         (sSeq (sAsg (eLcV [12] (iRng1 (aCons (eVar 2) aNil)) (gName 12) (tB (eOp (fInX false) (eCB fTup (aCons (eVar 7) (aCons (eVar 10) (aCons (eVar 12) aNil)))) (eVar 5))) (eVar 12)) (gName 11))
         (sIf (tNot (tB (eCall 3 f__law_item_holds [] (aCons (eVar 8) (aCons (eVar 10) (aCons (eVar 11) aNil))))))
         (sRet (eC (.bl false)))
         sNext)))
         (sIf (tOr (tB (eOp fNe (eCB (fBoolO [12, 13, 14, 17] f_Machineu_boolu) (aCons (eVar 8) aNil)) (eOp (fInX false) (eVar 7) (eVar 6)))) (tOr (tB (eOp fNe (eProp [12, 13, 14, 17] f_Machine_now (eVar 8)) (eVar 7))) (tNot (tB (eCB (fIsX isT_Machine) (aCons (eVar 8) (aCons (eC (.cls 12)) aNil)))))))
         (sRet (eC (.bl false)))
         sNext))) →
       wps (m [some (.v (.frl (ns.map D.int))), some (.v (.lst (r0.map D.int))), some (.v (.int size)), some (.v (.lst (zs.map D.str))), some (.v (.lst (as.map D.str))), some (.v (.lst (ts.map stD))), some (.v (.lst (ms.map D.int))), some (.v (.int here)), some (.r n), x9, x10, x11, none] T) Q := by
     rintro c n T x9 x10 x11 hm Q hQ m rfl
     have ht : isT_Machine c 12 = some true := by rcases hm.2 with rfl | rfl | rfl | rfl <;> rfl
     simp
     refine for_inv (fun i ρ T' => T = T' ∧ ∃ x9 x10 x11, ρ = [some (.v (.frl (ns.map D.int))), some (.v (.lst (r0.map D.int))), some (.v (.int size)), some (.v (.lst (zs.map D.str))), some (.v (.lst (as.map D.str))), some (.v (.lst (ts.map stD))), some (.v (.lst (ms.map D.int))), some (.v (.int here)), some (.r n), x9, x10, x11, none]) ⟨rfl, x9, x10, x11, rfl⟩ ?_ ?_
     · rintro turn u ρ T' hu ⟨rfl, x9, x10, x11, rfl⟩
       simp
       refine for_inv (fun i ρ T' => T = T' ∧ ∃ x10 x11, ρ = [some (.v (.frl (ns.map D.int))), some (.v (.lst (r0.map D.int))), some (.v (.int size)), some (.v (.lst (zs.map D.str))), some (.v (.lst (as.map D.str))), some (.v (.lst (ts.map stD))), some (.v (.lst (ms.map D.int))), some (.v (.int here)), some (.r n), some u, x10, x11, none]) ⟨rfl, x10, x11, rfl⟩ ?_ ?_
       · rintro i w ρ T' hw ⟨rfl, x10, x11, rfl⟩
         obtain ⟨a, ha, rfl, _⟩ := data_get2 hw
         simp
         refine w_lcV (ds := (List.range size).map fun (i : Nat) => D.int i) (src := none) (S1 := T) (fun d => match d with | .int e => decide (((here : Int), a, e) ∈ ts) | _ => false) (fun d => d) ?_ ?_ nofun ?_ ?_
         · simp [rngU_map, Function.comp_def]; omega
         · simp; omega
         · intro d hd acc
           obtain ⟨e, he, rfl⟩ := List.mem_map.mp hd
           simp [wipeE]
           rw [show D.tup [D.int here, D.str a, D.int e] = stD ((here : Int), a, (e : Int)) from rfl, in_steps false _ _ ts rfl]
           simp
         · have e : (((List.range size).map fun (i : Nat) => D.int i).filter fun d => match d with | .int e => decide (((here : Int), a, e) ∈ ts) | _ => false).map (fun d => d) = (due size ts here a).map D.int := by
             unfold due
             rw [List.filter_map, List.map_map, List.map_map]
             rfl
           rw [e]
           have hi := item_holds_ok hm a (due size ts here a) (by omega)
           rw [hdue here a] at hi
           simp [hi]
       · rintro ρ T' ⟨rfl, x10, x11, rfl⟩
         simp [-isIns_r, v_boolO _ _ _ (bool_ok hm), hm.at, hm.2, in_ints false (here : Int) (.v (.lst (ms.map D.int))) ms rfl, now_x hm, v_isX, ht]
     · rintro ρ T' ⟨rfl, x9, x10, x11, rfl⟩
       exact hQ x9 x10 x11
   have hsv := hs T
   have hpv := hp (T ++ [.ins 13 (uFs (mRec size ms (sort3 ts) here))])
   simp only [List.map_reverse] at hsv hpv
   simp only [List.length_append, List.length_cons, List.length_nil, Nat.zero_add, List.append_assoc, List.cons_append, List.nil_append] at hpv
   simp [-s_for, I0, hsv, hpv]
   split
   · refine rest 14 (T.length + 1) _ _ _ _ (isM_r (by simp) (by simp)) _ ?_ _ rfl
     intro x9 x10 x11
     simp
   · refine rest 13 T.length _ _ _ _ (isM_r (by simp) (by simp)) _ ?_ _ rfl
     intro x9 x10 x11
     simp
 · rintro ρ T ⟨x7, x8, x9, x10, x11, rfl⟩
   simp [fin_nil]
end K02
namespace Mi
open PySem Pu L2
section
variable {S : Sto} {n c : Nat} {size : Int} {ms : List Int} {ts : List St3} {now : Int}
theorem setitem_yes (h : S[n]? = some (.ins c (uFs (mRec size ms ts now)))) (hc : c = 12 ∨ c = 13 ∨ c = 14 ∨ c = 17) (a : Str) (e : Int) (he : e ∈ endsL ts now a) :
   f_Machineu_setitemu [.r n, .v (.str a), .v (.int e)] S = .ok (.v .non) (S.set n (.ins c (uFs (mRec size ms ts e)))) := by
 unfold f_Machineu_setitemu
 refine runF_eq ?_
 have hm : IsM S (.r n) c size ms ts now := isM_r h hc
 have ee := endsD_getD ts now a
 unfold keyS at ee
 simp [-isIns_r, m_Machineu_setitemu, start0, hm.at, hm.2, v_getV, ee]
 rw [K02.in_ints true e _ _ rfl]
 simp [he, putFld, h, hc, uFs, mRec, mFs, putU]
 exact fin_set (cOk_uF _ c (mRec size ms ts e))
end
end Mi
namespace Mi
open PySem Pu L2
structure OkM (size : Int) (ms : List Int) (ts : List St3) : Prop where
 s1 : 1 ≤ size
 s2 : size ≤ 200
 ma : ms.Pairwise (· < ·)
 mb : ∀ m ∈ ms, 0 ≤ m ∧ m < size
 ta : ts.Pairwise lt3
 tb : ∀ s ∈ ts, 0 ≤ s.1 ∧ s.1 < size ∧ 0 ≤ s.2.2 ∧ s.2.2 < size ∧ AskS s.2.1
 ml : ms.length ≤ 600
 tl : ts.length ≤ 600
theorem OkM.parts {size : Int} {ms : List Int} {ts : List St3} (h : OkM size ms ts) {now : Int} (h0 : 0 ≤ now) (h1 : now < size) : OkParts size ms ms ts ts now where
 s1 := h.s1
 s2 := h.s2
 m0 := h.mb
 t0 := h.tb
 ml := by have := h.ml; omega
 tl := by have := h.tl; omega
 n0 := h0
 n1 := h1
 ma := ascI h.ma
 mm := fun _ => Iff.rfl
 ta := asc3 h.ta
 tm := fun _ => Iff.rfl
 t6 := h.tl
structure Pl where
 size : Nat
 ms : List Int
 ts : List St3
 now : Int
def plD (p : Pl) : D := .tup [.int p.size, .lst (p.ms.map D.int), .lst (p.ts.map stD), .int p.now]
noncomputable def memF (p : Pl) : List (Str × D) := mRec p.size p.ms p.ts p.now
noncomputable def memD (p : Pl) : D := .ins 13 (memF p)
structure OkPl (p : Pl) : Prop where
 m : OkM p.size p.ms p.ts
 n0 : 0 ≤ p.now
 n1 : p.now < p.size
abbrev IsP (S : Sto) (x : U) (c : Nat) (p : Pl) : Prop := IsM S x c p.size p.ms p.ts p.now
theorem isP_v (S : Sto) (p : Pl) : IsP S (.v (memD p)) 13 p := isM_v (by simp)
theorem serviceK_ok (p : Pl) (h : OkPl p) (S : Sto) : f__law_service [.v (plD p)] S = .ok (.r S.length) (S ++ [.ins 13 (uFs (memF p))]) := by
 refine eq_of_wpr ?_
 unfold f__law_service
 rw [wp_runK]
 have hs := service_ok p.size p.ms p.ms p.ts p.ts p.now (h.m.parts h.n0 h.n1) (.v (.lst (p.ms.map D.int))) (.v (.lst (p.ts.map stD))) S rfl rfl
 simp [m__law_service, start0, plD, hs, memF]
section
variable {S : Sto} {x : U} {c : Nat} {size : Int} {ms : List Int} {ts : List St3} {n0 now : Int}
theorem copy_ok (hm : IsM S x c size ms ts n0) (ok : OkM size ms ts) (h0 : 0 ≤ now) (h1 : now < size) : f_copy_service [x, .v (.int now)] S = .ok (.v (.ins 13 (mRec size ms ts now))) S := by
 unfold f_copy_service
 refine runF_eq ?_
 have hs := service_ok size ms ms ts ts now (ok.parts h0 h1) (.v (.tup (ms.map D.int))) (.v (.tup (ts.map stD))) S rfl rfl
 have h5 : c = 12 ∨ c = 13 ∨ c = 14 ∨ c = 17 ∨ c = 18 := by rcases hm.2 with e | e | e | e <;> simp [e]
 simp [-isIns_r, m_copy_service, start0, hm.at, hm.2, h5, hs]
 exact fin_i0
theorem copyK_ok (hm : IsM S x c size ms ts n0) (ok : OkM size ms ts) (h0 : 0 ≤ now) (h1 : now < size) : f_copy_service_K [x, .v (.int now)] S = .ok (.r S.length) (S ++ [.ins 13 (uFs (mRec size ms ts now))]) := by
 refine eq_of_wpr ?_
 unfold f_copy_service_K
 rw [wp_runK]
 have hs := service_ok size ms ms ts ts now (ok.parts h0 h1) (.v (.tup (ms.map D.int))) (.v (.tup (ts.map stD))) S rfl rfl
 have h5 : c = 12 ∨ c = 13 ∨ c = 14 ∨ c = 17 ∨ c = 18 := by rcases hm.2 with e | e | e | e <;> simp [e]
 simp [-isIns_r, m_copy_service_K, start0, hm.at, hm.2, h5, hs]
theorem asIns_set {n d : Nat} {fs : List (Str × U)} {cell : Cell} (h : S[n]? = some (.ins d fs)) {p : Nat × List (Str × U)} (hd : p.1 ≠ d) (hm : asIns S x = some p) : asIns (S.set n cell) x = some p := by
 cases x with
 | v e => cases e <;> first | exact hm | cases hm
 | r m =>
   unfold asIns at hm ⊢
   simp only at hm ⊢
   by_cases e : n = m
   · subst e
     rw [h] at hm
     cases hm
     exact absurd rfl hd
   · rw [List.getElem?_set_ne e]; exact hm
theorem IsM.set {n : Nat} {fs : List (Str × U)} {cell : Cell} (hm : IsM S x c size ms ts n0) (h : S[n]? = some (.ins 15 fs)) : IsM (S.set n cell) x c size ms ts n0 :=
 ⟨⟨hm.ex, asIns_set h (by rcases hm.2 with e | e | e | e <;> simp [e]) hm.as⟩, hm.2⟩
end
theorem asSeq_set {S : Sto} {n : Nat} {d : Nat} {fs : List (Str × U)} {cell : Cell} {u : U} {xs : List U} (h : S[n]? = some (.ins d fs)) (hu : asSeq S u = some xs) : asSeq (S.set n cell) u = some xs := by
 cases u with
 | v e => cases e <;> first | exact hu | cases hu
 | r m =>
   unfold asSeq at hu ⊢
   simp only at hu ⊢
   by_cases e : n = m
   · subst e
     rw [h] at hu
     cases hu
   · rw [List.getElem?_set_ne e]; exact hu
noncomputable def lotF (mem : List Pl) (pl : List Int) : List (Str × D) := [("members", .lst (mem.map memD)), ("places", .lst (pl.map D.int))]
structure Pass (S : Sto) (us : List U) (ps : List Pl) : Prop where
 len : us.length = ps.length
 at_ : ∀ (i : Nat) (u : U) (p : Pl), us[i]? = some u → ps[i]? = some p → ∃ c, IsP S u c p
 ok : ∀ p ∈ ps, OkPl p
theorem Pass.zip {S : Sto} {us : List U} {ps : List Pl} (h : Pass S us ps) : ∀ q ∈ us.zip ps, ∃ c, IsP S q.1 c q.2 ∧ OkPl q.2 := fun q hq => by
 obtain ⟨i, hi⟩ := List.getElem?_of_mem hq
 obtain ⟨h1, h2⟩ := List.getElem?_zip_eq_some.mp hi
 obtain ⟨c, hc⟩ := h.at_ i _ _ h1 h2
 exact ⟨c, hc, h.ok _ (List.mem_of_getElem? h2)⟩
theorem Pass.fst {S : Sto} {us : List U} {ps : List Pl} (h : Pass S us ps) : (us.zip ps).map (·.1) = us := by
 have := h.len
 rw [List.map_fst_zip]; omega
theorem Pass.snd {S : Sto} {us : List U} {ps : List Pl} (h : Pass S us ps) : (us.zip ps).map (·.2) = ps := by
 have := h.len
 rw [List.map_snd_zip]; omega
def PlU (S : Sto) (u : U) (own pl : List Int) : Prop := (u = .v .non ∧ pl = own) ∨ (u = .v (.lst (pl.map D.int))) ∨ (u = .v (.tup (pl.map D.int)))
theorem lot_init {S : Sto} {n : Nat} {tu pu : U} {us : List U} {ps : List Pl} {pl : List Int} (hn : S[n]? = some (.ins 15 [])) (ht : asSeq S tu = some us) (hp : Pass S us ps) (h5 : us.length ≤ 5) (hq : PlU S pu (ps.map Pl.now) pl) (hts : ∀ z, tu ≠ .v (.str z)) (hsrc : ∀ k, srcOf tu = some k → k < S.length) :
   f_Lotu_initu [.r n, pu, tu] S = .ok (.v .non) (S.set n (.ins 15 (uFs (lotF ps pl)))) := by
 unfold f_Lotu_initu
 refine runF_eq ?_
 have hl5 : ¬ (5 : Int) < us.length := by omega
 have hx := hp.zip
 simp only [m_Lotu_initu, start0]
 simp [v_lenQ tu hts, seqV_at0 ht, hl5]
 refine ⟨by omega, ?_⟩
 refine w_lcU (fun q : U × Pl => q.1) (us.zip ps) (fun _ => true) (fun q => memD q.2) (src := srcOf tu) (S1 := S) ?_ ?_ hsrc ?_ ?_
 · simp [seqV_at0 ht, hp.fst]
 · simp; omega
 · rintro q hq acc
   obtain ⟨c, hm, ok⟩ := hx q hq
   have hm' := IsM.app hm [.lst (acc.map U.v)]
   simp [-isIns_r, wipeE, hm'.at, hm'.2, now_x hm', copy_ok hm' ok.m ok.n0 ok.n1, memD, memF]
 have e1 : ((us.zip ps).filter fun _ => true).map (fun q => memD q.2) = ps.map memD := by
   rw [List.filter_eq_self.mpr (fun _ _ => rfl)]
   have := congrArg (List.map memD) hp.snd
   rw [List.map_map] at this
   exact this
 rw [e1]
 have hnl : n < S.length := (List.getElem?_eq_some_iff.mp hn).1
 simp [hn, putU]
 have hn1 : (S.set n (Cell.ins 15 [("members", U.v (.lst (ps.map memD)))]))[n]? = some (.ins 15 [("members", U.v (.lst (ps.map memD)))]) := by simp [hnl]
 have ht1 := asSeq_set (cell := Cell.ins 15 [("members", U.v (.lst (ps.map memD)))]) hn ht
 refine w_lcU (fun q : U × Pl => q.1) (us.zip ps) (fun _ => true) (fun q => .int q.2.now) (src := srcOf tu) (S1 := S.set n (Cell.ins 15 [("members", U.v (.lst (ps.map memD)))])) ?_ ?_ (fun k hk => by simpa using hsrc k hk) ?_ ?_
 · simp [seqV_at0 ht1, hp.fst]
 · simp; omega
 · rintro q hq acc
   obtain ⟨c, hm, ok⟩ := hx q hq
   have hm' := (hm.set (cell := Cell.ins 15 [("members", U.v (.lst (ps.map memD)))]) hn).app [.lst (acc.map U.v)]
   simp [-isIns_r, wipeE, hm'.at, hm'.2, now_x hm']
 have e2 : ((us.zip ps).filter fun _ => true).map (fun q => D.int q.2.now) = (ps.map Pl.now).map D.int := by
   rw [List.filter_eq_self.mpr (fun _ _ => rfl), List.map_map]
   have := congrArg (List.map (D.int ∘ Pl.now)) hp.snd
   rw [List.map_map] at this
   exact this
 rw [e2]
 simp [hnl, putU]
 have fin1 : ∀ pl : List Int, fin S (U.v D.non) (S.set n (.ins 15 [("members", U.v (.lst (ps.map memD))), ("places", U.v (.lst (pl.map D.int)))])) = .ok (.v .non) (S.set n (.ins 15 (uFs (lotF ps pl)))) := fun pl => fin_set (cOk_uF _ 15 (lotF ps pl))
 rcases hq with ⟨rfl, rfl⟩ | rfl | rfl
 · simp
   have := fin1 (ps.map Pl.now)
   simpa using this
 · simp [hnl, putU]
   exact fin1 pl
 · simp [hnl, putU]
   exact fin1 pl
theorem Pass.app {S : Sto} {us : List U} {ps : List Pl} (h : Pass S us ps) (l : Sto) : Pass (S ++ l) us ps := ⟨h.len, fun i u p h1 h2 => by obtain ⟨c, hc⟩ := h.at_ i u p h1 h2; exact ⟨c, hc.app l⟩, h.ok⟩
theorem makeT_ok {S : Sto} {pu : U} {us : List U} {ps : List Pl} {pl : List Int} (hp : Pass S us ps) (h5 : us.length ≤ 5) (hq : PlU S pu (ps.map Pl.now) pl) :
   ∃ l, eMakeT 15 f_Lotu_initu us pu S = .ok (.r S.length) (S ++ .ins 15 (uFs (lotF ps pl)) :: l) := by
 unfold eMakeT
 rw [if_pos (by omega)]
 cases q : allV us with
 | some ds =>
   have eu := allV_some q
   have := lot_init (S := S ++ [.ins 15 []]) (n := S.length) (tu := .v (.tup ds)) (pu := pu) (us := us) (ps := ps) (pl := pl) (by simp) (by rw [eu]; rfl) (hp.app _) h5 hq (by simp) (fun k hk => by cases hk)
   simp only [this]
   exact ⟨[], by simp⟩
 | none =>
   have := lot_init (S := S ++ [.ins 15 [], .tpc us]) (n := S.length) (tu := .r (S.length + 1)) (pu := pu) (us := us) (ps := ps) (pl := pl) (by simp) (by
     unfold asSeq
     simp only
     rw [List.getElem?_append_right (by omega)]
     simp) (hp.app _) h5 hq (by simp) (fun k hk => by cases hk; simp)
   simp only [this]
   exact ⟨[.tpc us], by simp⟩
def IsLot (S : Sto) (x : U) (mem : List Pl) (pl : List Int) : Prop := asIns S x = some (15, uF (lotF mem pl))
theorem isLot_v (S : Sto) (mem : List Pl) (pl : List Int) : IsLot S (.v (.ins 15 (lotF mem pl))) mem pl := rfl
section
variable {S : Sto} {x : U} {mem : List Pl} {pl : List Int}
theorem IsLot.at (h : IsLot S x mem pl) (k : Nat → List (Str × U) → Prop) : isIns S x k = k 15 (uF (lotF mem pl)) := by unfold isIns; rw [show asIns S x = _ from h]
theorem IsLot.app (h : IsLot S x mem pl) (T : Sto) : IsLot (S ++ T) x mem pl := asIns_app T h
theorem states_ok (h : IsLot S x mem pl) : f_Lot_states [x] S = .ok (.v (.tup (pl.map D.int))) S := by
 unfold f_Lot_states
 refine runF_eq ?_
 simp [-isIns_r, m_Lot_states, start0, h.at, lotF]
theorem len_ok (h : IsLot S x mem pl) : f_Lotu_lenu [x] S = .ok (.v (.int mem.length)) S := by
 unfold f_Lotu_lenu
 refine runF_eq ?_
 simp [-isIns_r, m_Lotu_lenu, start0, h.at, lotF]
def restsN (mem : List Pl) (pl : List Int) : Bool := (mem.zip pl).all fun q => decide (q.2 = -1) || decide (q.2 ∈ q.1.ms)
theorem all_rest_ok (mu pu : U) (t1 t2 : Bool) (hm : seqD mu = some (t1, mem.map memD)) (hp : seqD pu = some (t2, pl.map D.int)) (hl : mem.length ≤ 1000) (S : Sto) : f_all_rest [mu, pu] S = .ok (.v (.bl (restsN mem pl))) S := by
 unfold f_all_rest
 refine runF_eq ?_
 simp [m_all_rest, start0]
 refine w_lcU (fun q : Pl × Int => U.v (.tup [memD q.1, .int q.2])) (mem.zip pl) (fun _ => true) (fun q => .bl (decide (q.2 = -1) || decide (q.2 ∈ q.1.ms))) (src := none) (S1 := S) ?_ ?_ nofun ?_ ?_
 · simp [hm, hp, zipD_map]
 · simp; omega
 · intro q hq acc
   have hv := isP_v (S ++ [.lst (acc.map U.v)]) q.1
   have key : ∀ k : U → Sto → Prop, wpO (fInX false (.v (.int q.2)) (.v (.tup (q.1.ms.map D.int))) (S ++ [Cell.lst (acc.map U.v)])) k = k (.v (.bl (decide (q.2 ∈ q.1.ms)))) (S ++ [Cell.lst (acc.map U.v)]) := fun k => by
     rw [K02.in_ints false q.2 _ q.1.ms rfl]; rfl
   simp [wipeE, hv.at, key]
   by_cases e : q.2 = -1 <;> simp [e]
 · have e : ((mem.zip pl).filter fun _ => true).map (fun q => D.bl (decide (q.2 = -1) || decide (q.2 ∈ q.1.ms))) = ((mem.zip pl).map fun q => (decide (q.2 = -1) || decide (q.2 ∈ q.1.ms))).map D.bl := by
     rw [List.filter_eq_self.mpr (fun _ _ => rfl), List.map_map]; rfl
   rw [e, v_all]
   simp [restsN]
theorem lbool_ok (h : IsLot S x mem pl) (hl : mem.length ≤ 1000) : f_Lotu_boolu [x] S = .ok (.v (.bl (restsN mem pl))) S := by
 unfold f_Lotu_boolu
 refine runF_eq ?_
 simp [-isIns_r, m_Lotu_boolu, start0, h.at, lotF, all_rest_ok (mem := mem) (pl := pl) (.v (.lst (mem.map memD))) (.v (.lst (pl.map D.int))) false false rfl rfl hl]
theorem at_mem {i : Nat} {p : Pl} (hi : mem[i]? = some p) (k : D → Prop) : wpo (atI (mem.map memD) i) k = k (memD p) := by
 have hlt := (List.getElem?_eq_some_iff.mp hi).1
 rw [atI_map, wpo_map, atI_get p (by omega) (by omega)]
 simp [List.getD, hi]
theorem getl_ok (h : IsLot S x mem pl) {i : Nat} {p : Pl} (hi : mem[i]? = some p) (hl : mem.length = pl.length) (ok : OkM p.size p.ms p.ts) (h0 : 0 ≤ rg pl i) (h1 : rg pl i < p.size) :
   f_Lotu_getitemu [x, .v (.int i)] S = .ok (.v (memD ⟨p.size, p.ms, p.ts, rg pl i⟩)) S := by
 unfold f_Lotu_getitemu
 refine runF_eq ?_
 have hlt := (List.getElem?_eq_some_iff.mp hi).1
 have a1 := at_mem hi
 have a2 := at_int pl i (by omega)
 have b1 : ¬ (i : Int) < 0 := by omega
 have b2 : ¬ (mem.length : Int) ≤ i := by omega
 have b3 : ¬ rg pl i = -1 := by omega
 have cp := copy_ok (now := rg pl i) (isP_v S p) ok h0 h1
 simp [-isIns_r, -atI_map, m_Lotu_getitemu, start0, h.at, lotF, a1, a2, b1, b2, b3, cp]
 rfl
theorem getlK_ok (h : IsLot S x mem pl) {i : Nat} {p : Pl} (hi : mem[i]? = some p) (hl : mem.length = pl.length) (ok : OkM p.size p.ms p.ts) (h0 : 0 ≤ rg pl i) (h1 : rg pl i < p.size) :
   f_Lotu_getitemu_K [x, .v (.int i)] S = .ok (.r S.length) (S ++ [.ins 13 (uFs (memF ⟨p.size, p.ms, p.ts, rg pl i⟩))]) := by
 refine eq_of_wpr ?_
 unfold f_Lotu_getitemu_K
 rw [wp_runK]
 have hlt := (List.getElem?_eq_some_iff.mp hi).1
 have a1 := at_mem hi
 have a2 := at_int pl i (by omega)
 have b1 : ¬ (i : Int) < 0 := by omega
 have b2 : ¬ (mem.length : Int) ≤ i := by omega
 have b3 : ¬ rg pl i = -1 := by omega
 have cp := copyK_ok (now := rg pl i) (isP_v S p) ok h0 h1
 simp [-isIns_r, -atI_map, m_Lotu_getitemu_K, start0, h.at, lotF, a1, a2, b1, b2, b3, cp]
 rfl
end
section
def sizeP (row : List Int) (many : Nat) : Nat := (1 + rg row 0 % (if many ≤ 2 then 3 else 2)).toNat
noncomputable def plOf (ns : List Int) (asks : List Str) (many : Nat) (single : Bool) (who : Nat) : Pl :=
 let row := rowN ns (3 + who) 20
 ⟨sizeP row many, marksN (rg row 2) (sizeP row many), stepsN (row.drop 4) (sizeP row many) asks (single || decide (rg row 1 % 3 = 0)), rg row 3 % (sizeP row many : Int)⟩
noncomputable def lotN (ns : List Int) (asks : List Str) (many : Nat) (single : Bool) (k : Nat) : List Pl := (List.range k).map (plOf ns asks many single)
theorem sizeP_bd (row : List Int) (many : Nat) : 1 ≤ sizeP row many ∧ sizeP row many ≤ 3 := by
 unfold sizeP
 split <;> omega
theorem sizeP_eq (row : List Int) (many : Nat) : 1 + rg row 0 % (if many ≤ 2 then 3 else 2) = (sizeP row many : Int) := by
 have := sizeP_bd row many
 unfold sizeP at this ⊢
 split <;> rename_i h <;> simp only [h, if_true, if_false] at this ⊢ <;> omega
theorem law_lot_ok (ns : List Int) (asks : List Str) (ha : asks.length ≤ 8) (many : Nat) (hm : many ≤ 1000) (single : Bool) (S : Sto) :
   f__law_lot [.v (.frl (ns.map D.int)), .v (.lst (asks.map D.str)), .v (.int many), .v (.bl single)] S = .ok (.v (.lst ((lotN ns asks many single many).map plD))) S := by
 unfold f__law_lot
 refine runF_eq ?_
 simp [m__law_lot, start0]
 refine ⟨by omega, ?_⟩
 refine for_inv (fun i ρ T => ∃ x5 x6 x7 x8, ρ = [some (.v (.frl (ns.map D.int))), some (.v (.lst (asks.map D.str))), some (.v (.int many)), some (.v (.bl single)), some (.r S.length), x5, x6, x7, x8] ∧ T = S ++ [.lst (((lotN ns asks many single i).map plD).map U.v)]) ⟨none, none, none, none, rfl, by simp [lotN]⟩ ?_ ?_
 · rintro i u ρ T hu ⟨x5, x6, x7, x8, rfl, rfl⟩
   obtain ⟨hi, rfl⟩ := rngU_get hu
   have Dk := fun S => draws_i ns (3 + i) 20 (by omega) (by omega) (by omega) S
   have epl : plOf ns asks many single i = ⟨sizeP (rowN ns (3 + i) 20) many, marksN (rg (rowN ns (3 + i) 20) 2) (sizeP (rowN ns (3 + i) 20) many), stepsN ((rowN ns (3 + i) 20).drop 4) (sizeP (rowN ns (3 + i) 20) many) asks (single || decide (rg (rowN ns (3 + i) 20) 1 % 3 = 0)), rg (rowN ns (3 + i) 20) 3 % (sizeP (rowN ns (3 + i) 20) many : Int)⟩ := rfl
   obtain ⟨row, hrow⟩ : ∃ r, r = rowN ns (3 + i) 20 := ⟨_, rfl⟩
   have lr : row.length = 20 := by rw [hrow]; simp
   simp only [Int.reduceToNat, ← hrow] at Dk epl
   clear hrow
   have Ik : ∀ j : Int, 0 ≤ j → j < 20 → ∀ k : D → Prop, wpo (atI (row.map D.int) j) k = k (.int (rg row j.toNat)) := fun j h0 h1 k => at_intI row j h0 (by omega) k
   have sb := sizeP_bd row many
   have se := sizeP_eq row many
   generalize sizeP row many = size at sb se epl
   have hS := fun S => steps_ok (row.drop 4) (by simp; omega) size (by omega) asks ha (single || decide (rg row 1 % 3 = 0)) S
   have hM := fun S => marks_ok (rg row 2) size (by omega) S
   have hcut : cutU (row.map D.int) (some 4) none = (row.drop 4).map D.int := by rw [cutU_lo _ _ (by omega)]; simp
   have hlen : (lotN ns asks many single i).length = i := by simp [lotN]
   have hsucc : lotN ns asks many single (i + 1) = lotN ns asks many single i ++ [plOf ns asks many single i] := by simp [lotN, List.range_succ]
   rw [hsucc, epl]
   have h2 : ((many : Int) ≤ 2 ∧ 1 + rg row 0 % 3 = (size : Int)) ∨ (¬ (many : Int) ≤ 2 ∧ 1 + rg row 0 % 2 = (size : Int)) := by
     by_cases h2 : many ≤ 2
     · simp only [h2, if_true] at se; exact .inl ⟨by omega, se⟩
     · simp only [h2, if_false] at se; exact .inr ⟨by omega, se⟩
   have hsz : (0 : Int) < size := by omega
   have hS1 := hS
   have hcl : ((lotN ns asks many single i).map plD).length < 100000 := by simp [hlen]; omega
   simp only [List.map_drop] at hS hcut
   rcases h2 with ⟨a1, a2⟩ | ⟨a1, a2⟩ <;> cases single
   all_goals
     simp only [Bool.false_or, Bool.true_or] at hS
     simp [-atI_map, Dk, Ik, a1, a2, hcut, hM, hS, isL_r, plD]
     omega
 · rintro ρ T ⟨x5, x6, x7, x8, rfl, rfl⟩
   simp only [rngU_len, s_ret, w_var, getv_s, getv_0]
   exact fin_l0
end
end Mi
namespace Mi
open PySem Pu L2
theorem stepsN_asc {row : List Int} {size : Nat} {asks : List Str} {single : Bool} (h : asks.Pairwise slt) : (stepsN row size asks single).Pairwise lt3 := by
 unfold stepsN stS
 rw [List.pairwise_flatMap]
 refine ⟨fun s _ => ?_, List.pairwise_lt_range.imp fun {s s'} hs x hx y hy => ?_⟩
 · unfold stA
   rw [List.pairwise_flatMap]
   refine ⟨fun a _ => ?_, (List.pairwise_iff_getElem.mpr fun i j hi hj hij => ?_)⟩
   · unfold stE
     rw [List.pairwise_map]
     refine (List.pairwise_lt_range.sublist List.filter_sublist).imp fun {e e'} he => .inr ⟨rfl, .inr ⟨rfl, ?_⟩⟩
     show (e : Int) < e'
     omega
   · intro x hx y hy
     simp only [List.getElem_range] at hx hy
     simp only [List.length_range] at hi hj
     unfold stE at hx hy
     obtain ⟨e, _, rfl⟩ := List.mem_map.mp hx
     obtain ⟨e', _, rfl⟩ := List.mem_map.mp hy
     refine .inr ⟨rfl, .inl ?_⟩
     show slt (sg asks i) (sg asks j)
     rw [sg_get hi, sg_get hj]
     exact List.pairwise_iff_getElem.mp h i j hi hj hij
 · unfold stA stE at hx hy
   simp only [List.mem_flatMap, List.mem_map] at hx hy
   obtain ⟨a, _, e, _, rfl⟩ := hx
   obtain ⟨a', _, e', _, rfl⟩ := hy
   exact .inl (by show (s : Int) < s'; omega)
theorem plOf_ok {ns : List Int} {asks : List Str} {many : Nat} {single : Bool} (ha : asks.length ≤ 8) (hk : ∀ z ∈ asks, AskS z) (hs : asks.Pairwise slt) (who : Nat) : OkPl (plOf ns asks many single who) ∧ (plOf ns asks many single who).size ≤ 3 := by
 have sb := sizeP_bd (rowN ns (3 + who) 20) many
 have raw := stepsN_raw (row := (rowN ns (3 + who) 20).drop 4) (single := (single || decide (rg (rowN ns (3 + who) 20) 1 % 3 = 0))) sb.1 (by omega) ha hk (ms := marksN (rg (rowN ns (3 + who) 20) 2) (sizeP (rowN ns (3 + who) 20) many)) (fun m hm => marksN_bd hm) (by have := marksN_len (rg (rowN ns (3 + who) 20) 2) (sizeP (rowN ns (3 + who) 20) many); omega)
 refine ⟨⟨⟨raw.s1, raw.s2, marksN_asc _ _, raw.m0, stepsN_asc hs, raw.t0, raw.ml, raw.tl⟩, ?_, ?_⟩, sb.2⟩
 · exact Int.emod_nonneg _ (by have := sb.1; omega)
 · exact Int.emod_lt_of_pos _ (by have := sb.1; omega)
theorem lotN_ok {ns : List Int} {asks : List Str} {many : Nat} {single : Bool} (ha : asks.length ≤ 8) (hk : ∀ z ∈ asks, AskS z) (hs : asks.Pairwise slt) (k : Nat) : ∀ p ∈ lotN ns asks many single k, OkPl p ∧ p.size ≤ 3 := fun p hp => by
 obtain ⟨w, _, rfl⟩ := List.mem_map.mp hp
 exact plOf_ok ha hk hs w
theorem pl_at {ps : List Pl} {i : Nat} {p : Pl} (hi : ps[i]? = some p) (k : D → Prop) : wpo (atI (ps.map plD) i) k = k (plD p) := by
 have hlt := (List.getElem?_eq_some_iff.mp hi).1
 rw [atI_map, wpo_map, atI_get p (by omega) (by omega)]
 simp [List.getD, hi]
theorem same_ok {S : Sto} {p : Pl} (hm : p.ms.length ≤ 1000) (ht : p.ts.length ≤ 1000) : f__law_same [.v (memD p), .v (plD p)] S = .ok (.v (.bl true)) S := by
 unfold f__law_same
 refine runF_eq ?_
 have hv := isP_v S p
 simp [m__law_same, start0, hv.at, v_isX, isT_Service, plD, now_x hv]
 rw [v_eq (dat_ints _) (dat_ints _)]
 simp [hv.at]
 rw [v_eq (dat_steps _) (dat_steps _)]
 simp
theorem rests_ok {S : Sto} {ps : List Pl} {pl : List Int} (su : U) (hsu : ∀ (i : Nat) (k : U → Sto → Prop), i < pl.length → wpO (fIxX su (.v (.int i)) S) k = k (.v (.int (rg pl i))) S) (hl : ps.length = pl.length) (h5 : ps.length ≤ 1000) (hb : ∀ q ∈ pl, -1 ≤ q) :
   f__law_rests [.v (.lst (ps.map plD)), su] S = .ok (.v (.bl (restsN ps pl))) S := by
 unfold f__law_rests
 refine runF_eq ?_
 simp [m__law_rests, start0]
 refine ⟨⟨by omega, by omega⟩, ?_⟩
 refine for_inv (fun i ρ T => T = S ∧ (∃ x2, ρ = [some (.v (.lst (ps.map plD))), some su, x2]) ∧ ∀ q ∈ (ps.zip pl).take i, (decide (q.2 = -1) || decide (q.2 ∈ q.1.ms)) = true) ⟨rfl, ⟨none, rfl⟩, by simp⟩ ?_ ?_
 · rintro i u ρ T hu ⟨rfl, ⟨x2, rfl⟩, hq⟩
   obtain ⟨hi, rfl⟩ := rngU_get hu
   have hi2 : i < pl.length := by omega
   have hp : ps[i]? = some ps[i] := List.getElem?_eq_getElem hi
   have hz : (ps.zip pl)[i]? = some (ps[i], pl[i]) := List.getElem?_zip_eq_some.mpr ⟨hp, List.getElem?_eq_getElem hi2⟩
   have er : rg pl i = pl[i] := rg_get hi2
   have hbi := hb pl[i] (List.getElem_mem hi2)
   have a1 := pl_at hp
   have key : ∀ k : U → Sto → Prop, wpO (fInX true (.v (.int pl[i])) (.v (.lst (ps[i].ms.map D.int))) T) k = k (.v (.bl (!decide (pl[i] ∈ ps[i].ms)))) T := fun k => by
     rw [K02.in_ints true pl[i] _ ps[i].ms rfl]; rfl
   have hsi := fun k => hsu i k hi2
   simp only [er] at hsi
   have step : (decide (pl[i] = -1) || decide (pl[i] ∈ ps[i].ms)) = true → ∀ q ∈ (ps.zip pl).take (i + 1), (decide (q.2 = -1) || decide (q.2 ∈ q.1.ms)) = true := fun h q hm => by
     rw [List.take_add_one, hz] at hm
     rcases List.mem_append.mp hm with hm | hm
     · exact hq q hm
     · simp at hm; subst hm; exact h
   simp [-atI_map, hsi, a1, plD, key]
   by_cases h0 : 0 ≤ pl[i]
   · by_cases h1 : pl[i] ∈ ps[i].ms
     · simp [h0, h1]
       have := step (by simp [h1])
       simpa using this
     · simp [h0, h1]
       have : restsN ps pl = false := by
         unfold restsN
         rw [List.all_eq_false]
         exact ⟨_, List.mem_of_getElem? hz, by simp [h1]; omega⟩
       rw [this]
   · simp [h0]
     have := step (by have : pl[i] = -1 := by omega
                      simp [this])
     simpa using this
 · rintro ρ T ⟨rfl, ⟨x2, rfl⟩, hq⟩
   have : restsN ps pl = true := by
     unfold restsN
     rw [List.all_eq_true]
     intro q hm
     refine hq q ?_
     rw [rngU_len, List.take_of_length_le (by simp; omega)]
     exact hm
   simp [this]
theorem cOk_uFs (n c : Nat) (fs : List (Str × D)) : cOk n (.ins c (uFs fs)) = true := cOk_uF n c fs
theorem move_ok {S : Sto} {n c : Nat} {p : Pl} (h : S[n]? = some (.ins c (uFs (memF p)))) (hc : c = 12 ∨ c = 13 ∨ c = 14 ∨ c = 17) (ok : OkPl p) :
   ∃ b now', 0 ≤ now' ∧ now' < (p.size : Int) ∧ f__law_move [.r n, .v (.lst (p.ts.map stD))] S = .ok (.v (.bl b)) (S.set n (.ins c (uFs (mRec p.size p.ms p.ts now')))) := by
 suffices hh : wpr (f__law_move [.r n, .v (.lst (p.ts.map stD))] S) (fun u T => ∃ b now', 0 ≤ now' ∧ now' < (p.size : Int) ∧ u = .v (.bl b) ∧ T = S.set n (.ins c (uFs (mRec p.size p.ms p.ts now')))) (fun _ _ _ => False) by
   obtain ⟨u, T, e, b, now', h1, h2, rfl, rfl⟩ := wpr_iff.mp hh
   exact ⟨b, now', h1, h2, e⟩
 unfold f__law_move
 rw [wp_runF]
 have hm : IsP S (.r n) c p := isM_r h hc
 have tl := ok.m.tl
 simp [m__law_move, start0]
 refine for_inv (fun i ρ T => T = S ∧ ∃ x2 x3 x4, ρ = [some (.r n), some (.v (.lst (p.ts.map stD))), x2, x3, x4]) ⟨rfl, none, none, none, rfl⟩ ?_ ?_
 · rintro i u ρ T hu ⟨rfl, x2, x3, x4, rfl⟩
   obtain ⟨t, ht, rfl, _⟩ := data_get2 hu
   have htm := List.mem_of_getElem? ht
   simp [-isIns_r, stD, hm.at, hm.2, now_x hm]
   by_cases e : p.now = t.1
   · have he : t.2.2 ∈ endsL p.ts p.now t.2.1 := by rw [endsL_mem, e]; exact htm
     have sy := setitem_yes (size := p.size) (ms := p.ms) (ts := p.ts) (now := p.now) h hc t.2.1 t.2.2 he
     have bd := ok.m.tb t htm
     simp [-isIns_r, e, hm.at, hm.2, sy]
     rw [fin_set (cOk_uFs _ c (mRec p.size p.ms p.ts t.2.2))]
     simp
     exact ⟨t.2.2, bd.2.2.1, bd.2.2.2.1, rfl⟩
   · simp [e]
 · rintro ρ T ⟨rfl, x2, x3, x4, rfl⟩
   have e : T = T.set n (.ins c (uFs (memF p))) := by
     refine List.ext_getElem? fun j => ?_
     by_cases ej : n = j
     · subst ej; rw [List.getElem?_set_self (List.getElem?_eq_some_iff.mp h).1, h]
     · rw [List.getElem?_set_ne ej]
   simp
   exact ⟨p.now, ok.n0, ok.n1, e⟩
theorem rg_map {ps : List Pl} {i : Nat} {p : Pl} (hi : ps[i]? = some p) : rg (ps.map Pl.now) i = p.now := by simp [rg, List.getD, hi]
theorem lot_holds_ok {S : Sto} {x : U} {ps : List Pl} (h : IsLot S x ps (ps.map Pl.now)) (ok : ∀ p ∈ ps, OkPl p) (h5 : ps.length ≤ 1000) : f__law_lot_holds [x, .v (.lst (ps.map plD))] S = .ok (.v (.bl true)) S := by
 unfold f__law_lot_holds
 refine runF_eq ?_
 have hn : ∀ i : Nat, i < (ps.map Pl.now).length → ∀ k : D → Prop, wpo (atI ((ps.map Pl.now).map D.int) i) k = k (.int (rg (ps.map Pl.now) i)) := fun i hi k => at_int _ i hi k
 simp [-isIns_r, m__law_lot_holds, start0, h.at, states_ok h]
 rw [v_lenO (show asIns S x = _ from h) (by simp) (len_ok h) (by omega) (by omega)]
 simp
 refine w_lcU (fun p : Pl => U.v (.int p.now)) ps (fun _ => true) (fun _ => .bl true) (src := none) (S1 := S) ?_ ?_ nofun ?_ ?_
 · simp
 · omega
 · intro p hp acc
   simp [wipeE, whole_ok]
 have eall : ((ps.filter fun _ => true).map fun _ => D.bl true) = (ps.map fun _ => true).map D.bl := by rw [List.filter_eq_self.mpr (fun _ _ => rfl), List.map_map]; rfl
 rw [eall, v_all, all_true]
 simp
 refine w_lcU (fun p : Pl => U.v (plD p)) ps (fun _ => true) (fun p => .int p.now) (src := none) (S1 := S) ?_ ?_ nofun ?_ ?_
 · simp [Function.comp_def]
 · omega
 · intro p hp acc
   simp [wipeE, plD]
 have enow : ((ps.filter fun _ => true).map fun p => D.int p.now) = (ps.map Pl.now).map D.int := by rw [List.filter_eq_self.mpr (fun _ _ => rfl), List.map_map]; rfl
 rw [enow, ← List.map_map, v_ne (dat_ints _) (dat_ints _)]
 have hr := rests_ok (S := S) (ps := ps) (pl := ps.map Pl.now) (.v (.tup ((ps.map Pl.now).map D.int))) (fun i k hi => by rw [v_ixT, hn i hi]) (by simp) h5 (fun q hq => by
   obtain ⟨p, hp, rfl⟩ := List.mem_map.mp hq
   have := (ok p hp).n0
   omega)
 simp only [decide_true, Bool.not_true, isBl_b, Bool.false_eq_true, if_false]
 rw [v_boolO _ _ _ (lbool_ok h h5), h.at]
 simp only [List.mem_cons, List.not_mem_nil, or_false, true_and, hr, wpr_ok, v_neB, decide_true, Bool.not_true, isBl_b, Bool.false_eq_true, if_false]
 refine w_lcU (fun i : Nat => U.v (.int i)) (List.range ps.length) (fun _ => true) (fun _ => .bl true) (src := none) (S1 := S) ?_ ?_ nofun ?_ ?_
 · simp [rngU_map, Function.comp_def]; omega
 · simp; omega
 · intro i hi acc
   have hi2 : i < ps.length := by simpa using hi
   have hp : ps[i]? = some ps[i] := List.getElem?_eq_getElem hi2
   have okp := ok _ (List.getElem_mem hi2)
   have h' := h.app [.lst (acc.map U.v)]
   have hg := getl_ok h' hp (by simp) okp.m (by rw [rg_map hp]; exact okp.n0) (by rw [rg_map hp]; exact okp.n1)
   rw [rg_map hp] at hg
   have hsame := same_ok (S := S ++ [.lst (acc.map U.v)]) (p := ps[i]) (by have := okp.m.ml; omega) (by have := okp.m.tl; omega)
   have a1 := pl_at hp
   simp [-isIns_r, -atI_map, wipeE, h'.at, hg, a1, hsame]
 have eall2 : (((List.range ps.length).filter fun _ => true).map fun _ => D.bl true) = ((List.range ps.length).map fun _ => true).map D.bl := by rw [List.filter_eq_self.mpr (fun _ _ => rfl), List.map_map]; rfl
 rw [eall2, v_all, all_true]
 simp
end Mi
namespace Pu
open PySem L2
theorem w_lcT {α : Type} {vs : List Nat} {it : MI} {g : MG} {t : MT} {e : ME} {ρ : Env'} {S S1 : Sto} {src : Option Nat} {q : U → Sto → Prop} {X : XP} (enc : α → D) (xs : List α) (p : α → Bool) (f : α → D)
   (hi : wpr (it ρ S) (fun iv T => iv = ⟨(xs.map enc).map U.v, src⟩ ∧ T = S1) (fun _ _ _ => False)) (hl : xs.length < 100000) (hs : ∀ n, src = some n → n < S1.length)
   (h : ∀ x ∈ xs, ∀ acc : List D, wpo (g (.v (enc x)) (wipeE ρ vs)) fun ρ1 => wpr (t ρ1 (S1 ++ [.lst (acc.map U.v)])) (fun b T => b = p x ∧ T = S1 ++ [.lst (acc.map U.v)]) (fun _ _ _ => False) ∧
     (p x = true → wpr (e ρ1 (S1 ++ [.lst (acc.map U.v)])) (fun u T => u = .v (f x) ∧ T = S1 ++ [.lst (acc.map U.v)]) (fun _ _ _ => False)))
   (k : q (.v (.lst ((xs.filter p).map f))) S1) : wpr (eLcV vs it g t e ρ S) q X := by
 classical
 have same : ∀ x ∈ xs, ∀ y ∈ xs, enc x = enc y → p x = p y ∧ (p x = true → f x = f y) := fun x hx y hy e => by
   have a := h x hx []
   have b := h y hy []
   rw [e] at a
   cases qg : g (.v (enc y)) (wipeE ρ vs) with
   | none => rw [qg] at a; exact a.elim
   | some ρ1 =>
     rw [qg] at a b
     have a1 := eq_of_wpr a.1
     have b1 := eq_of_wpr b.1
     have hp : p x = p y := by rw [a1] at b1; injection b1
     refine ⟨hp, fun z => ?_⟩
     have a2 := eq_of_wpr (a.2 z)
     have b2 := eq_of_wpr (b.2 (hp ▸ z))
     rw [a2] at b2
     injection b2 with b2
     injection b2
 let p' : D → Bool := fun d => if z : ∃ x, x ∈ xs ∧ enc x = d then p z.choose else false
 let f' : D → D := fun d => if z : ∃ x, x ∈ xs ∧ enc x = d then f z.choose else .non
 have hp : ∀ x ∈ xs, p' (enc x) = p x := fun x hx => by
   have z : ∃ y, y ∈ xs ∧ enc y = enc x := ⟨x, hx, rfl⟩
   show (if z : ∃ y, y ∈ xs ∧ enc y = enc x then p z.choose else false) = _
   rw [dif_pos z]
   exact (same _ z.choose_spec.1 _ hx z.choose_spec.2).1
 have hf : ∀ x ∈ xs, p x = true → f' (enc x) = f x := fun x hx px => by
   have z : ∃ y, y ∈ xs ∧ enc y = enc x := ⟨x, hx, rfl⟩
   show (if z : ∃ y, y ∈ xs ∧ enc y = enc x then f z.choose else .non) = _
   rw [dif_pos z]
   have s := same _ z.choose_spec.1 _ hx z.choose_spec.2
   exact s.2 (s.1.trans px)
 refine w_lcV (ds := xs.map enc) p' f' hi (by simpa using hl) hs (fun d hd acc => ?_) ?_
 · obtain ⟨x, hx, rfl⟩ := List.mem_map.mp hd
   rw [hp x hx]
   have a := h x hx acc
   cases qg : g (.v (enc x)) (wipeE ρ vs) with
   | none => rw [qg] at a; exact a.elim
   | some ρ1 =>
     rw [qg] at a
     exact ⟨a.1, fun z => by have := a.2 z; rwa [← hf x hx z] at this⟩
 · have e : (((xs.map enc).filter p').map f') = (xs.filter p).map f := by
     rw [List.filter_map, List.map_map, show xs.filter (p' ∘ enc) = xs.filter p from List.filter_congr fun x hx => hp x hx]
     refine List.map_congr_left fun x hx => ?_
     rw [List.mem_filter] at hx
     exact hf x hx.1 hx.2
   rw [e]; exact k
theorem filt_t {α : Type} (l : List α) : (l.filter fun _ => true) = l := List.filter_eq_self.mpr fun _ _ => rfl
end Pu
namespace Mi
open PySem Pu L2
abbrev Opts := List (List (List D))
abbrev Gr := List (D × Opts)
def ansD (a : List (List D)) : D := .lst (a.map D.lst)
def optD (o : Opts) : D := .lst (o.map ansD)
def grD (g : Gr) : List (D × D) := g.map fun p => (p.1, optD p.2)
def Nd (d : D) : Prop := ∃ ks, d = .tup ks ∧ isKey d = true
def frcA (R : D → Bool) (a : List (List D)) : Bool := a.all fun e => e.any R
def frcB (o : Opts) (R : D → Bool) : Bool := o.any (frcA R)
structure OOk (o : Opts) : Prop where
 l0 : o.length < 100000
 l1 : ∀ a ∈ o, a.length < 100000
 l2 : ∀ a ∈ o, ∀ e ∈ a, e.length < 100000
 nd : ∀ a ∈ o, ∀ e ∈ a, ∀ x ∈ e, Nd x
end Mi
namespace Pu
open PySem L2
section
variable {q : U → Sto → Prop} {S : Sto}
end
end Pu
namespace Mi
open PySem Pu L2
def sucs (o : Opts) : List D := o.flatten.flatten
theorem mem_sucs {o : Opts} {x : D} : x ∈ sucs o ↔ ∃ a ∈ o, ∃ e ∈ a, x ∈ e := by
 unfold sucs
 simp only [List.mem_flatten]
 constructor
 · rintro ⟨e, ⟨a, ha, he⟩, hx⟩; exact ⟨a, ha, e, he, hx⟩
 · rintro ⟨a, ha, e, he, hx⟩; exact ⟨e, ⟨a, ha, he⟩, hx⟩
abbrev keys (g : Gr) : List D := g.map (·.1)
structure GOk (g : Gr) : Prop where
 nd : (keys g).Nodup
 nk : ∀ x ∈ keys g, Nd x
 oo : ∀ p ∈ g, OOk p.2
 cl : ∀ p ∈ g, ∀ x ∈ sucs p.2, x ∈ keys g
 len : g.length ≤ 50000
def lsD : D → List D
 | .lst xs => xs
 | _ => []
noncomputable def putT (a : List (D × D)) (x : D) : List (D × D) := dputD a x (.bl true)
noncomputable def putT1 (a : List (D × D)) (e : D) : List (D × D) := (lsD e).foldl putT a
noncomputable def putT2 (a : List (D × D)) (d : D) : List (D × D) := (lsD d).foldl putT1 a
noncomputable def foundD (o : Opts) : List (D × D) := (sucs o).foldl putT []
structure Sub (K : List D) (a : List (D × D)) : Prop where
 nd : (a.map (·.1)).Nodup
 sub : ∀ x ∈ a.map (·.1), x ∈ K
theorem nodup_len {α : Type} [DecidableEq α] {l K : List α} (h : l.Nodup) (hs : ∀ x ∈ l, x ∈ K) : l.length ≤ K.length := by
 induction l generalizing K with
 | nil => simp
 | cons x l ih =>
   rw [List.nodup_cons] at h
   have hx := hs x (by simp)
   have := ih (K := K.erase x) h.2 fun y hy => (List.mem_erase_of_ne (by rintro rfl; exact h.1 hy)).mpr (hs y (by simp [hy]))
   rw [List.length_erase_of_mem hx] at this
   have : 0 < K.length := List.length_pos_of_mem hx
   simp; omega
theorem Sub.put {K : List D} {a : List (D × D)} (h : Sub K a) {x w : D} (hx : x ∈ K) : Sub K (dputD a x w) :=
 ⟨dputD_nd h.nd, fun y hy => by
   rw [dputD_keys] at hy
   split at hy
   · exact h.sub y hy
   · rcases List.mem_append.mp hy with z | z
     · exact h.sub y z
     · simp at z; subst z; exact hx⟩
theorem Sub.puts {K : List D} {a : List (D × D)} (h : Sub K a) : ∀ {l : List D}, (∀ x ∈ l, x ∈ K) → Sub K (l.foldl putT a)
 | [], _ => h
 | x :: l, hl => Sub.puts (h.put (hl x (by simp))) fun y hy => hl y (by simp [hy])
theorem found_mem (l : List D) (a : List (D × D)) (x : D) : x ∈ (l.foldl putT a).map (·.1) ↔ x ∈ l ∨ x ∈ a.map (·.1) := by
 induction l generalizing a with
 | nil => simp
 | cons y l ih =>
   rw [List.foldl_cons, ih]
   unfold putT
   rw [dputD_keys]
   by_cases hy : dhasD a y = true
   · rw [if_pos hy]
     rw [dhasD_iff] at hy
     constructor
     · rintro (z | z)
       · exact .inl (by simp [z])
       · exact .inr z
     · rintro (z | z)
       · rcases List.mem_cons.mp z with e | e
         · subst e; exact .inr hy
         · exact .inl e
       · exact .inr z
   · rw [if_neg hy]
     simp only [List.mem_append, List.mem_cons, List.not_mem_nil, or_false]
     constructor
     · rintro (z | z | z) <;> simp [z]
     · rintro ((z | z) | z) <;> simp [z]
def Prec (gs : Gr) (e x : D) : Prop := ∃ o, (x, o) ∈ gs ∧ e ∈ sucs o
def BOk (P : D → D → Prop) (B : List (D × D)) : Prop := ∀ e, ∃ xs, (dgetD B e).getD (.lst []) = .lst xs ∧ xs.Nodup ∧ ∀ x, x ∈ xs ↔ P e x
theorem BOk.put {P : D → D → Prop} {B : List (D × D)} (h : BOk P B) {e node : D} {xs : List D} (hx : (dgetD B e).getD (.lst []) = .lst xs) (hp : ¬ P e node) : BOk (fun e' x => P e' x ∨ (e' = e ∧ x = node)) (dputD B e (.lst (xs ++ [node]))) := fun e' => by
 rw [dgetD_put]
 by_cases he : e' = e
 · subst he
   obtain ⟨ys, hy, nd, hm⟩ := h e'
   have : ys = xs := by rw [hx] at hy; injection hy with hy; exact hy.symm
   subst this
   refine ⟨ys ++ [node], by simp, ?_, fun x => ?_⟩
   · rw [List.nodup_append]
     exact ⟨nd, by simp, fun a ha b hb => by simp at hb; subst hb; rintro rfl; exact hp ((hm a).mp ha)⟩
   · simp [hm]
 · obtain ⟨ys, hy, nd, hm⟩ := h e'
   refine ⟨ys, by simpa [he] using hy, nd, fun x => ?_⟩
   simp [hm, he]
theorem BOk.congr {P P' : D → D → Prop} {B : List (D × D)} (h : BOk P B) (hp : ∀ e x, P e x ↔ P' e x) : BOk P' B := fun e => by
 obtain ⟨ys, hy, nd, hm⟩ := h e
 exact ⟨ys, hy, nd, fun x => (hm x).trans (hp e x)⟩
end Mi
namespace Mi
open PySem Pu L2
def Frc (o : Opts) (P : D → Prop) : Prop := ∃ a ∈ o, ∀ e ∈ a, ∃ x ∈ e, P x
theorem frcB_iff (o : Opts) (R : D → Bool) : frcB o R = true ↔ Frc o (fun x => R x = true) := by
 unfold frcB Frc frcA
 simp only [List.any_eq_true, List.all_eq_true]
def Lv (g : Gr) (bad : D → Prop) : Nat → D → Prop
 | 0, x => bad x
 | k + 1, x => Lv g bad k x ∨ ∃ o, (x, o) ∈ g ∧ Frc o (Lv g bad k)
def First (g : Gr) (bad : D → Prop) (k : Nat) (x : D) : Prop := Lv g bad k x ∧ ∀ j < k, ¬ Lv g bad j x
section
variable {g : Gr} {bad : D → Prop}
theorem Lv.up {k j : Nat} {x : D} (h : Lv g bad k x) (hj : k ≤ j) : Lv g bad j x := by
 induction j with
 | zero => obtain rfl : k = 0 := by omega
           exact h
 | succ j ih =>
   by_cases e : k = j + 1
   · subst e; exact h
   · exact .inl (ih (by omega))
theorem First.of {k : Nat} {x : D} (h : Lv g bad k x) : ∃ j, j ≤ k ∧ First g bad j x := by
 induction k using Nat.strongRecOn with
 | ind k ih =>
   by_cases z : ∃ j, j < k ∧ Lv g bad j x
   · obtain ⟨j, hj, hl⟩ := z
     obtain ⟨i, hi, hf⟩ := ih j hj hl
     exact ⟨i, by omega, hf⟩
   · exact ⟨k, by omega, h, fun j hj hl => z ⟨j, hj, hl⟩⟩
theorem First.uniq {k j : Nat} {x : D} (h1 : First g bad k x) (h2 : First g bad j x) : k = j := by
 rcases Nat.lt_trichotomy k j with z | z | z
 · exact absurd h1.1 (h2.2 k z)
 · exact z
 · exact absurd h2.1 (h1.2 j z)
structure RI (g : Gr) (bad : D → Prop) (k : Nat) (R : List (D × D)) : Prop where
 sub : Sub (keys g) R
 val : ∀ x d, dgetD R x = some d ↔ ∃ j : Nat, j ≤ k ∧ d = .int j ∧ First g bad j x
 ord : R.Pairwise fun a b => ∀ i j : Int, a.2 = .int i → b.2 = .int j → i ≤ j
theorem RI.has {k : Nat} {R : List (D × D)} (h : RI g bad k R) (x : D) : dhasD R x = true ↔ Lv g bad k x := by
 unfold dhasD
 rw [Option.isSome_iff_exists]
 constructor
 · rintro ⟨d, hd⟩
   obtain ⟨j, hj, _, hf⟩ := (h.val x d).mp hd
   exact hf.1.up hj
 · intro hl
   obtain ⟨j, hj, hf⟩ := First.of hl
   exact ⟨.int j, (h.val x _).mpr ⟨j, hj, rfl, hf⟩⟩
noncomputable def putI (i : Int) (a : List (D × D)) (x : D) : List (D × D) := dputD a x (.int i)
theorem puts_get (i : Int) : ∀ (l : List D) (R : List (D × D)) (x : D), dgetD (l.foldl (putI i) R) x = if x ∈ l then some (.int i) else dgetD R x
 | [], R, x => by simp
 | y :: l, R, x => by
   rw [List.foldl_cons, puts_get i l]
   unfold putI
   rw [dgetD_put]
   by_cases h1 : x ∈ l
   · simp [h1]
   · by_cases h2 : x = y <;> simp [h1, h2]
theorem puts_sub (i : Int) {K : List D} : ∀ {l : List D} {R : List (D × D)}, Sub K R → (∀ x ∈ l, x ∈ K) → Sub K (l.foldl (putI i) R)
 | [], _, h, _ => h
 | x :: l, R, h, hl => puts_sub (l := l) (R := putI i R x) i (h.put (hl x (by simp))) fun y hy => hl y (by simp [hy])
theorem puts_app (v : Int) : ∀ (l : List D) (R0 E0 : List (D × D)), (∀ x ∈ l, dhasD R0 x = false) → (∀ p ∈ E0, p.2 = .int v) → ∃ E, l.foldl (putI v) (R0 ++ E0) = R0 ++ E ∧ ∀ p ∈ E, p.2 = .int v
 | [], R0, E0, _, h => ⟨E0, rfl, h⟩
 | x :: l, R0, E0, hx, h => by
   rw [List.foldl_cons]
   have h0 := hx x (by simp)
   have hmap : R0.map (fun p => if p.1 = x then (p.1, D.int v) else p) = R0 := by
     have : ∀ p ∈ R0, (fun p : D × D => if p.1 = x then (p.1, D.int v) else p) p = p := fun p hp => by
       have hne : ¬ p.1 = x := fun e => by
         have := (dhasD_iff R0 x).mpr (by rw [← e]; exact List.mem_map.mpr ⟨p, hp, rfl⟩)
         rw [h0] at this; cases this
       simp [hne]
     exact (List.map_congr_left this).trans (List.map_id _)
   have hput : ∃ E1, putI v (R0 ++ E0) x = R0 ++ E1 ∧ ∀ p ∈ E1, p.2 = .int v := by
     unfold putI dputD
     by_cases c : dhasD (R0 ++ E0) x = true
     · rw [if_pos c, List.map_append, hmap]
       refine ⟨_, rfl, fun p hp => ?_⟩
       obtain ⟨q, hq, rfl⟩ := List.mem_map.mp hp
       by_cases e : q.1 = x
       · simp [e]
       · simp [e, h q hq]
     · rw [if_neg c, List.append_assoc]
       refine ⟨_, rfl, fun p hp => ?_⟩
       rcases List.mem_append.mp hp with hp | hp
       · exact h p hp
       · simp at hp; subst hp; rfl
   obtain ⟨E1, h1, h2⟩ := hput
   rw [h1]
   exact puts_app v l R0 E1 (fun y hy => hx y (by simp [hy])) h2
theorem ord_app {R0 E : List (D × D)} {v : Int} (h0 : R0.Pairwise fun a b => ∀ i j : Int, a.2 = .int i → b.2 = .int j → i ≤ j) (hv : ∀ p ∈ R0, ∀ i : Int, p.2 = .int i → i ≤ v) (he : ∀ p ∈ E, p.2 = .int v) : (R0 ++ E).Pairwise fun a b => ∀ i j : Int, a.2 = .int i → b.2 = .int j → i ≤ j := by
 rw [List.pairwise_append]
 refine ⟨h0, ?_, fun a ha b hb i j hi hj => ?_⟩
 · rw [List.pairwise_iff_getElem]
   intro a b h1 h2 _ i j hi hj
   rw [he _ (List.getElem_mem h1)] at hi
   rw [he _ (List.getElem_mem h2)] at hj
   cases hi; cases hj; exact Int.le_refl _
 · rw [he b hb] at hj
   cases hj
   exact hv a ha i hi
theorem RI.zero {bs : List D} (hb : ∀ x, x ∈ bs ↔ bad x) (hk : ∀ x ∈ bs, x ∈ keys g) : RI g bad 0 (bs.foldl (putI 0) []) where
 sub := puts_sub 0 ⟨by simp, by simp⟩ hk
 ord := by
   obtain ⟨E, h1, h2⟩ := puts_app 0 bs [] [] (fun _ _ => rfl) (by simp)
   rw [List.nil_append, List.nil_append] at h1
   rw [h1]
   have := ord_app (R0 := []) (E := E) (v := 0) .nil (by simp) h2
   simpa using this
 val x d := by
   rw [puts_get]
   constructor
   · intro h
     by_cases hx : x ∈ bs
     · rw [if_pos hx] at h; cases h
       exact ⟨0, by omega, rfl, (hb x).mp hx, by omega⟩
     · rw [if_neg hx] at h; cases h
   · rintro ⟨j, hj, rfl, hf⟩
     obtain rfl : j = 0 := by omega
     rw [if_pos ((hb x).mpr hf.1)]; rfl
theorem RI.next {k : Nat} {R : List (D × D)} (h : RI g bad k R) {l : List D} (hl : ∀ x, x ∈ l ↔ Lv g bad (k + 1) x ∧ ¬ Lv g bad k x) (hk : ∀ x ∈ l, x ∈ keys g) : RI g bad (k + 1) (l.foldl (putI (k + 1 : Nat)) R) where
 sub := puts_sub _ h.sub hk
 ord := by
   obtain ⟨E, h1, h2⟩ := puts_app ((k + 1 : Nat) : Int) l R [] (fun x hx => by
     have := ((hl x).mp hx).2
     rw [← h.has] at this
     simpa using this) (by simp)
   rw [List.append_nil] at h1
   rw [h1]
   refine ord_app h.ord (fun p hp i hi => ?_) h2
   have hg := dgetD_mem h.sub.nd (show (p.1, p.2) ∈ R from hp)
   obtain ⟨j, hj, e, _⟩ := (h.val _ _).mp hg
   rw [hi] at e
   cases e; omega
 val x d := by
   rw [puts_get]
   constructor
   · intro z
     by_cases hx : x ∈ l
     · rw [if_pos hx] at z; cases z
       have := (hl x).mp hx
       exact ⟨k + 1, by omega, rfl, this.1, fun j hj hlj => this.2 (hlj.up (by omega))⟩
     · rw [if_neg hx] at z
       obtain ⟨j, hj, e, hf⟩ := (h.val x d).mp z
       exact ⟨j, by omega, e, hf⟩
   · rintro ⟨j, hj, rfl, hf⟩
     by_cases hx : x ∈ l
     · rw [if_pos hx]
       have := (hl x).mp hx
       have : First g bad (k + 1) x := ⟨this.1, fun j hj hlj => this.2 (hlj.up (by omega))⟩
       rw [hf.uniq this]
     · rw [if_neg hx]
       refine (h.val x _).mpr ⟨j, ?_, rfl, hf⟩
       by_cases e : j = k + 1
       · subst e; exact absurd ((hl x).mpr ⟨hf.1, hf.2 k (by omega)⟩) hx
       · omega
structure RAll (g : Gr) (bad : D → Prop) (R : List (D × D)) : Prop where
 sub : Sub (keys g) R
 val : ∀ x d, dgetD R x = some d ↔ ∃ j : Nat, d = .int j ∧ First g bad j x
 ord : R.Pairwise fun a b => ∀ i j : Int, a.2 = .int i → b.2 = .int j → i ≤ j
theorem RI.all {k : Nat} {R : List (D × D)} (h : RI g bad k R) (hc : ∀ x o, (x, o) ∈ g → Frc o (Lv g bad k) → Lv g bad k x) : RAll g bad R where
 sub := h.sub
 ord := h.ord
 val x d := by
   have hj : ∀ j x, Lv g bad j x → Lv g bad k x := fun j => by
     induction j with
     | zero => exact fun x z => z.up (by omega)
     | succ j ih =>
       rintro x (z | ⟨o, ho, a, ha, z⟩)
       · exact ih x z
       · exact hc x o ho ⟨a, ha, fun e he => by obtain ⟨y, hy, hl⟩ := z e he; exact ⟨y, hy, ih y hl⟩⟩
   rw [h.val]
   constructor
   · rintro ⟨j, _, e, hf⟩; exact ⟨j, e, hf⟩
   · rintro ⟨j, e, hf⟩
     obtain ⟨i, hi, hf2⟩ := First.of (hj j x hf.1)
     exact ⟨j, by rw [hf.uniq hf2]; exact hi, e, hf⟩
theorem RAll.has {R : List (D × D)} (h : RAll g bad R) (x : D) : dhasD R x = true ↔ ∃ k, Lv g bad k x := by
 unfold dhasD
 rw [Option.isSome_iff_exists]
 constructor
 · rintro ⟨d, hd⟩
   obtain ⟨j, _, hf⟩ := (h.val x d).mp hd
   exact ⟨j, hf.1⟩
 · rintro ⟨k, hl⟩
   obtain ⟨j, hj, hf⟩ := First.of hl
   exact ⟨.int j, (h.val x _).mpr ⟨j, rfl, hf⟩⟩
end
end Mi
namespace Mi
open PySem Pu L2
open Classical in
noncomputable def oOf (g : Gr) (x : D) : Opts := if h : ∃ o, (x, o) ∈ g then h.choose else []
theorem oOf_mem {g : Gr} {x : D} (h : x ∈ keys g) : (x, oOf g x) ∈ g := by
 obtain ⟨p, hp, rfl⟩ := List.mem_map.mp h
 have z : ∃ o, (p.1, o) ∈ g := ⟨p.2, hp⟩
 unfold oOf
 rw [dif_pos z]
 exact z.choose_spec
theorem oOf_eq {g : Gr} (hg : GOk g) {x : D} {o : Opts} (h : (x, o) ∈ g) : oOf g x = o := by
 have h1 := oOf_mem (g := g) (List.mem_map_of_mem (f := (·.1)) h)
 simp only at h1
 have hn := hg.nd
 unfold keys at hn
 have a := List.pairwise_map.mp hn
 by_cases e : (x, oOf g x) = (x, o)
 · injection e
 · exfalso
   have : ∀ {l : Gr}, l.Pairwise (fun a b => a.1 ≠ b.1) → (x, oOf g x) ∈ l → (x, o) ∈ l → False := fun {l} hl => by
     induction l with
     | nil => simp
     | cons p l ih =>
       rw [List.pairwise_cons] at hl
       intro m1 m2
       rcases List.mem_cons.mp m1 with e1 | e1 <;> rcases List.mem_cons.mp m2 with e2 | e2
       · exact e (e1.trans e2.symm)
       · exact hl.1 _ e2 (by rw [← e1])
       · exact hl.1 _ e1 (by rw [← e2])
       · exact ih hl.2 e1 e2
   exact this a h1 h
structure WI (g : Gr) (bad : D → Prop) (k : Nat) (R : List (D × D)) (W : List D) : Prop where
 ri : RI g bad k R
 nd : W.Nodup
 sub : ∀ x ∈ W, x ∈ keys g ∧ dhasD R x = false
 all : ∀ x o, (x, o) ∈ g → Frc o (Lv g bad k) → ¬ Lv g bad k x → x ∈ W
noncomputable def beatN (g : Gr) (R : List (D × D)) (W : List D) : List D := W.filter fun x => frcB (oOf g x) (dhasD R)
section
variable {g : Gr} {bad : D → Prop} {k : Nat} {R : List (D × D)} {W : List D}
theorem WI.frc (h : WI g bad k R W) (o : Opts) : frcB o (dhasD R) = true ↔ Frc o (Lv g bad k) := by
 rw [frcB_iff]
 unfold Frc
 simp only [h.ri.has]
theorem WI.beat (h : WI g bad k R W) (hg : GOk g) (x : D) : x ∈ beatN g R W ↔ Lv g bad (k + 1) x ∧ ¬ Lv g bad k x := by
 unfold beatN
 rw [List.mem_filter, h.frc]
 constructor
 · rintro ⟨hx, hf⟩
   have hs := h.sub x hx
   have hnl : ¬ Lv g bad k x := fun z => by rw [(h.ri.has x).mpr z] at hs; cases hs.2
   exact ⟨.inr ⟨_, oOf_mem hs.1, hf⟩, hnl⟩
 · rintro ⟨z | ⟨o, ho, hf⟩, hn⟩
   · exact absurd z hn
   · exact ⟨h.all x o ho hf hn, by rw [oOf_eq hg ho]; exact hf⟩
theorem WI.beat_sub (h : WI g bad k R W) (x : D) (hx : x ∈ beatN g R W) : x ∈ keys g := (h.sub x (List.mem_filter.mp hx).1).1
theorem WI.next (h : WI g bad k R W) (hg : GOk g) {R' : List (D × D)} (hR : R' = (beatN g R W).foldl (putI (k + 1 : Nat)) R) {F : List (D × D)} (hF : Sub (keys g) F) (hm : ∀ x, x ∈ F.map (·.1) ↔ dhasD R' x = false ∧ ∃ b ∈ beatN g R W, Prec g b x) : WI g bad (k + 1) R' (F.map (·.1)) where
 ri := by rw [hR]; exact h.ri.next (h.beat hg) h.beat_sub
 nd := hF.nd
 sub x hx := ⟨hF.sub x hx, ((hm x).mp hx).1⟩
 all x o ho hf hn := by
   have ri : RI g bad (k + 1) R' := by rw [hR]; exact h.ri.next (h.beat hg) h.beat_sub
   refine (hm x).mpr ⟨?_, ?_⟩
   · cases hd : dhasD R' x with
     | false => rfl
     | true => exact absurd ((ri.has x).mp hd) hn
   · obtain ⟨a, ha, hf⟩ := hf
     have hnf : ¬ Frc o (Lv g bad k) := fun z => hn (.inr ⟨o, ho, z⟩)
     have : ∃ e ∈ a, ∀ y ∈ e, ¬ Lv g bad k y := by
       refine Classical.byContradiction fun z => hnf ⟨a, ha, fun e he => ?_⟩
       refine Classical.byContradiction fun z2 => z ⟨e, he, fun y hy hl => z2 ⟨y, hy, hl⟩⟩
     obtain ⟨e, he, hne⟩ := this
     obtain ⟨y, hy, hl⟩ := hf e he
     exact ⟨y, (h.beat hg y).mpr ⟨hl, hne y hy⟩, o, ho, mem_sucs.mpr ⟨a, ha, e, he, hy⟩⟩
theorem WI.done (h : WI g bad k R []) : RAll g bad R := h.ri.all fun x o ho hf => Classical.byContradiction fun hn => absurd (h.all x o ho hf hn) (by simp)
end
structure FOk (g : Gr) (R' F : List (D × D)) (P : D → Prop) : Prop where
 sub : Sub (keys g) F
 mem : ∀ x, x ∈ F.map (·.1) ↔ dhasD R' x = false ∧ P x
theorem FOk.put {g : Gr} {R' F : List (D × D)} {P : D → Prop} (h : FOk g R' F P) {x w : D} (hx : x ∈ keys g) (hr : dhasD R' x = false) : FOk g R' (dputD F x w) (fun y => P y ∨ y = x) where
 sub := h.sub.put hx
 mem y := by
   rw [dputD_keys]
   by_cases hd : dhasD F x = true
   · rw [if_pos hd, h.mem]
     rw [dhasD_iff, h.mem] at hd
     constructor
     · rintro ⟨a, b⟩; exact ⟨a, .inl b⟩
     · rintro ⟨a, b | rfl⟩
       · exact ⟨a, b⟩
       · exact hd
   · rw [if_neg hd, List.mem_append, h.mem, List.mem_singleton]
     constructor
     · rintro (⟨a, b⟩ | rfl)
       · exact ⟨a, .inl b⟩
       · exact ⟨hr, .inr rfl⟩
     · rintro ⟨a, b | rfl⟩
       · exact .inl ⟨a, b⟩
       · exact .inr rfl
theorem FOk.congr {g : Gr} {R' F : List (D × D)} {P P' : D → Prop} (h : FOk g R' F P) (hp : ∀ x, P x ↔ P' x) : FOk g R' F P' := ⟨h.sub, fun x => by rw [h.mem, hp]⟩
def FI (S : Sto) (n : Nat) (badU : U) (B : List (D × D)) (g : Gr) (bs : List D) (m : Nat) (ρ : Env') (T : Sto) : Prop :=
 ∃ (k : Nat) (R : List (D × D)) (W : List D) (x4 x7 x8 x9 : Option U) (l : Sto), ρ = [some (.r n), some badU, some (.v (.dic B)), some (.r S.length), x4, some (.v (.lst W)), some (.v (.int (k + 1 : Nat))), x7, x8, x9] ∧ T = S ++ .dic (R.map vv) :: l ∧ WI g (· ∈ bs) k R W ∧ m = 2 * (g.length - R.length) + (if W = [] then 0 else 1)
end Mi
namespace Pu
open PySem L2
theorem lcS_of_V {vs : List Nat} {it : MI} {g : MG} {t : MT} {e : ME} {ρ : Env'} {S S1 : Sto} {ys : List D} (h : eLcV vs it g t e ρ S = .ok (.v (.lst ys)) S1) : eLcS vs it g t e ρ S = .ok (.r S1.length) (S1 ++ [.lst (ys.map U.v)]) := by
 unfold eLcV lcRun at h
 unfold eLcS lcRun
 cases hi : it ρ S with
 | ok iv S2 =>
   rw [hi] at h
   simp only [R.bind_ok] at h ⊢
   split at h
   · rename_i so
     rw [if_pos so]
     cases hg : lcGo iv.src (iv.src.bind fun n => S2[n]?) g t e S2.length iv.items (wipeE ρ vs) (S2 ++ [.lst []]) with
     | ok a S3 =>
       rw [hg] at h
       simp only [R.bind_ok] at h ⊢
       unfold kfV at h
       split at h
       · rename_i xs hx
         split at h
         · rename_i ds hd
           split at h
           · rename_i e3
             cases h
             rw [e3, allV_some hd]
           · cases h
         · cases h
       · cases h
     | ex a b c => rw [hg] at h; cases h
     | er => rw [hg] at h; cases h
   · cases h
 | ex a b c => rw [hi] at h; cases h
 | er => rw [hi] at h; cases h
theorem w_lcTS {α : Type} {vs : List Nat} {it : MI} {g : MG} {t : MT} {e : ME} {ρ : Env'} {S S1 : Sto} {src : Option Nat} {q : U → Sto → Prop} {X : XP} (enc : α → D) (xs : List α) (p : α → Bool) (f : α → D)
   (hi : wpr (it ρ S) (fun iv T => iv = ⟨(xs.map enc).map U.v, src⟩ ∧ T = S1) (fun _ _ _ => False)) (hl : xs.length < 100000) (hs : ∀ n, src = some n → n < S1.length)
   (h : ∀ x ∈ xs, ∀ acc : List D, wpo (g (.v (enc x)) (wipeE ρ vs)) fun ρ1 => wpr (t ρ1 (S1 ++ [.lst (acc.map U.v)])) (fun b T => b = p x ∧ T = S1 ++ [.lst (acc.map U.v)]) (fun _ _ _ => False) ∧
     (p x = true → wpr (e ρ1 (S1 ++ [.lst (acc.map U.v)])) (fun u T => u = .v (f x) ∧ T = S1 ++ [.lst (acc.map U.v)]) (fun _ _ _ => False)))
   (k : q (.r S1.length) (S1 ++ [.lst (((xs.filter p).map f).map U.v)])) : wpr (eLcS vs it g t e ρ S) q X := by
 rw [lcS_of_V (eq_of_wpr (w_lcT (q := fun u T => u = .v (.lst ((xs.filter p).map f)) ∧ T = S1) (X := fun _ _ _ => False) enc xs p f hi hl hs h ⟨rfl, rfl⟩))]
 exact k
theorem qbl {S : Sto} {n : Nat} {xs : List U} {v : U} {k : Sto → Prop} {i : Nat} (h : S[n]? = some (.lst xs)) (hi : i < xs.length) : wpS (fSet (.r n) (.v (.int (i : Int))) v S) k = k (S.set n (.lst (xs.set i v))) := by
 unfold fSet
 simp only [h]
 have : ixN xs.length (i : Int) = some i := by unfold ixN; rw [if_pos (by omega), if_pos (by omega)]; simp
 rw [this]
 rfl
end Pu
namespace Mi
open PySem Pu L2
def pairD (t : St3) : D := .tup [.str t.2.1, .int t.2.2]
def outOf (ts : List St3) (s : Int) : List St3 := ts.filter fun t => decide (t.1 = s)
def pairsN (size : Nat) (ts : List St3) : List D := (List.range size).map fun (s : Nat) => .tup ((outOf ts s).map pairD)
theorem pairsN_len (size : Nat) (ts : List St3) : (pairsN size ts).length = size := by simp [pairsN]
theorem pairsN_get {size : Nat} {ts : List St3} {s : Nat} (h : s < size) : (pairsN size ts)[s]? = some (.tup ((outOf ts s).map pairD)) := by simp [pairsN, h]
theorem pairsN_snoc {size : Nat} (ts : List St3) (t : St3) {s : Nat} (h : s < size) (e : t.1 = s) : (pairsN size ts).set s (.tup ((outOf ts s).map pairD ++ [pairD t])) = pairsN size (ts ++ [t]) := by
 refine List.ext_getElem? fun j => ?_
 rw [List.getElem?_set]
 by_cases hj : j < size
 · rw [pairsN_get hj, pairsN_get hj]
   unfold outOf
   rw [List.filter_append, List.map_append]
   by_cases e2 : s = j
   · subst e2; simp [pairsN_len, h, e]
   · rw [if_neg e2]
     have : ¬ t.1 = j := by rw [e]; omega
     simp [this]
 · rw [if_neg (by omega), List.getElem?_eq_none (by rw [pairsN_len]; omega), List.getElem?_eq_none (by rw [pairsN_len]; omega)]
theorem pairs_ok {S : Sto} {x : U} {c : Nat} {size : Nat} {ms : List Int} {ts : List St3} {now : Int} (h : IsM S x c size ms ts now) (hs : size ≤ 1000) (ht : ts.length ≤ 1000) (hb : ∀ t ∈ ts, 0 ≤ t.1 ∧ t.1 < size) :
   f_pairs_by_state [x] S = .ok (.v (.lst (pairsN size ts))) S := by
 unfold f_pairs_by_state
 refine runF_eq ?_
 have h2 := h.2
 simp [m_pairs_by_state, start0, -s_for]
 refine w_lcTS (fun (i : Nat) => D.int i) (List.range size) (src := none) (S1 := S) (fun _ => true) (fun _ => .tup []) ?_ ?_ nofun ?_ ?_
 · simp [h.at, rngU_map]
   exact ⟨by omega, by omega, by omega⟩
 · simp; omega
 · intro i _ acc
   simp [wipeE]
 · rw [filt_t, s_for]
   simp [(h.app _).at]
   refine ⟨h2, ?_⟩
   have hit : (ts.map (U.v ∘ stD)) = (ts.map stD).map U.v := by simp
   have h0 : (List.range size).map (U.v ∘ fun _ => D.tup []) = (pairsN size []).map U.v := by simp [pairsN, outOf]
   rw [hit, h0]
   refine for_inv (fun i ρ T => ∃ x2 x3 x4, ρ = [some x, some (.r S.length), x2, x3, x4] ∧ T = S ++ [.lst ((pairsN size (ts.take i)).map U.v)]) ⟨none, none, none, rfl, rfl⟩ ?_ ?_
   · rintro i u ρ T hu ⟨x2, x3, x4, rfl, rfl⟩
     obtain ⟨t, htt, rfl, -⟩ := data_get hu
     obtain ⟨h0, h1⟩ := hb t (List.mem_of_getElem? htt)
     obtain ⟨n, hn⟩ := Int.eq_ofNat_of_zero_le h0
     have hn2 : n < size := by omega
     obtain ⟨s, a, e⟩ := t
     simp only at hn
     subst hn
     have hget := pairsN_get (ts := ts.take i) hn2
     have hl : (outOf (ts.take i) n).length ≤ ts.length := by
       unfold outOf
       exact Nat.le_trans (List.length_filter_le _ _) (by simp; omega)
     simp [stD, Pu.atI_nat, hget]
     refine ⟨by omega, ?_⟩
     rw [qbl (xs := (pairsN size (ts.take i)).map U.v) (by simp) (by simp [pairsN_len]; exact hn2)]
     simp
     rw [← List.map_set, List.take_add_one, htt]
     have := pairsN_snoc (size := size) (ts.take i) ((n : Int), a, e) hn2 rfl
     simp only [Option.toList_some]
     rw [← this]
     rfl
   · rintro ρ T ⟨x2, x3, x4, rfl, rfl⟩
     simp [getv]
     rw [fin_l0]
end Mi
namespace Mi
open PySem Pu L2
theorem q63 {S : Sto} {q : U → Sto → Prop} (z : Str) : wpO (fStr [.v (.str z)] S) q = q (.v (.str z)) S := id rfl
def gu (us : List U) (i : Nat) : U := us.getD i (.v .non)
theorem put_ok {S : Sto} {su : U} {us : List U} {ps : List Pl} (hlen : ∀ k : U → Sto → Prop, wpO (fLen [su] S) k = k (.v (.int us.length)) S) (hix : ∀ (i : Nat) (k : U → Sto → Prop), i < us.length → wpO (fIxX su (.v (.int i)) S) k = k (gu us i) S)
   (hp : Pass S us ps) (h5 : us.length ≤ 5) : f__law_put [su] S = .ok (.v (.ins 15 (lotF ps (ps.map Pl.now)))) S := by
 unfold f__law_put
 refine runF_eq ?_
 obtain ⟨l, hmk⟩ := makeT_ok (pu := .v .non) (pl := ps.map Pl.now) hp h5 (.inl ⟨rfl, rfl⟩)
 have h0 := fun k => hix 0 k
 have h1 := fun k => hix 1 k
 have h2 := fun k => hix 2 k
 have h3 := fun k => hix 3 k
 have h4 := fun k => hix 4 k
 have fi : fin S (U.r S.length) (S ++ Cell.ins 15 (uFs (lotF ps (ps.map Pl.now))) :: l) = .ok (.v (.ins 15 (lotF ps (ps.map Pl.now)))) S := fin_i0
 rcases us with _ | ⟨a, _ | ⟨b, _ | ⟨c, _ | ⟨d, _ | ⟨e, _ | ⟨f, us⟩⟩⟩⟩⟩⟩
 · simp [m__law_put, start0, hlen, hmk, fi]
 · simp [gu] at h0
   simp [m__law_put, start0, hlen, hmk, fi, h0]
 · simp [gu] at h0 h1
   simp [m__law_put, start0, hlen, hmk, fi, h0, h1]
 · simp [gu] at h0 h1 h2
   simp [m__law_put, start0, hlen, hmk, fi, h0, h1, h2]
 · simp [gu] at h0 h1 h2 h3
   simp [m__law_put, start0, hlen, hmk, fi, h0, h1, h2, h3]
 · simp [gu] at h0 h1 h2 h3 h4
   simp [m__law_put, start0, hlen, hmk, fi, h0, h1, h2, h3, h4]
 · simp at h5
theorem put_r {S : Sto} {n : Nat} {us : List U} {ps : List Pl} (hn : S[n]? = some (.lst us)) (hp : Pass S us ps) (h5 : us.length ≤ 5) : f__law_put [.r n] S = .ok (.v (.ins 15 (lotF ps (ps.map Pl.now)))) S :=
 put_ok (fun k => by rw [v_lenR, hn]; rfl) (fun i k hi => by
   rw [v_ixR i hn, atI_get (.v .non) (by omega) (by omega)]
   rfl) hp h5
end Mi
namespace K05
open PySem Pu L2 Mi
structure Sv (S : Sto) (ps : List Pl) : Prop where
 l : S[0]? = some (.lst (refsN 1 ps.length))
 at_ : ∀ (i : Nat) (p : Pl), ps[i]? = some p → ∃ now, 0 ≤ now ∧ now < (p.size : Int) ∧ S[i + 1]? = some (.ins 13 (uFs (mRec p.size p.ms p.ts now)))
theorem get_app {S : Sto} {i : Nat} {c : Cell} (l : Sto) (h : S[i]? = some c) : (S ++ l)[i]? = some c := by rw [List.getElem?_append_left (List.getElem?_eq_some_iff.mp h).1]; exact h
theorem Sv.app {S : Sto} {ps : List Pl} (h : Sv S ps) (l : Sto) : Sv (S ++ l) ps := ⟨get_app l h.l, fun i p hi => by obtain ⟨now, a, b, c⟩ := h.at_ i p hi; exact ⟨now, a, b, get_app l c⟩⟩
theorem pure_law (ns : List Int) (hns : ns.length ≤ 63) : ∃ S', f_law_5 [.v (.frl (ns.map D.int))] [] = .ok (.v (.bl true)) S' := by
 suffices h : wpr (f_law_5 [.v (.frl (ns.map D.int))] []) (fun u _ => u = .v (.bl true)) (fun _ _ _ => False) by
   obtain ⟨u, S', e, rfl⟩ := wpr_iff.mp h
   exact ⟨S', e⟩
 unfold f_law_5
 rw [wp_runF]
 have D0 := fun S => draws_i ns 0 8 (by omega) (by omega) (by omega) S
 have D1 := fun S => draws_i ns 1 13 (by omega) (by omega) (by omega) S
 obtain ⟨r0, hr0⟩ : ∃ r, r = rowN ns 0 8 := ⟨_, rfl⟩
 obtain ⟨r1, hr1⟩ : ∃ r, r = rowN ns 1 13 := ⟨_, rfl⟩
 have l0 : r0.length = 8 := by rw [hr0]; simp
 have l1 : r1.length = 13 := by rw [hr1]; simp
 simp only [Int.reduceToNat, ← hr0, ← hr1] at D0 D1
 clear hr0 hr1
 have I0 : ∀ i : Int, 0 ≤ i → i < 8 → ∀ k : D → Prop, wpo (atI (r0.map D.int) i) k = k (.int (rg r0 i.toNat)) := fun i h0 h1 k => at_intI r0 i h0 (by omega) k
 have hA := fun S => asks_i r1 l1 (1 + rg r0 1 % 3) (by omega) (by omega) S
 obtain ⟨zs, hzs⟩ : ∃ z, z = asksN r1 (1 + rg r0 1 % 3).toNat := ⟨_, rfl⟩
 have zl : zs.length ≤ 3 := by rw [hzs]; simp; omega
 have zk : ∀ z ∈ zs, AskS z := by rw [hzs]; exact asksN_ask r1 l1 _
 have zn : zs.Nodup := by rw [hzs]; exact asksN_nd r1 l1 _ (by omega)
 rw [← hzs] at hA
 clear hzs
 simp [-atI_map, m_law_5, start0, D0, D1, I0, hA]
 refine w_lcT D.str zs (fun _ => true) D.str (src := none) (S1 := []) ?_ ?_ nofun ?_ ?_
 · simp [-atI_map, D1, I0, hA]
 · omega
 · intro z hz acc
   simp [wipeE, q63]
 have ez : ((zs.filter fun _ => true).map D.str) = zs.map D.str := by rw [List.filter_eq_self.mpr (fun _ _ => rfl)]
 rw [ez, q62 zs (by omega)]
 obtain ⟨as, has⟩ : ∃ z, z = sortS zs := ⟨_, rfl⟩
 have al : as.length ≤ 3 := by rw [has, sortS_len]; exact zl
 have ak : ∀ z ∈ as, AskS z := fun z hz => zk z (by rw [has, sortS_mem] at hz; exact hz)
 have asc : as.Pairwise slt := by rw [has]; exact sortS_asc zs zn
 rw [← has]
 clear has
 obtain ⟨many, hmany⟩ : ∃ z : Nat, rg r0 2 % 6 = (z : Int) := ⟨(rg r0 2 % 6).toNat, by omega⟩
 have m5 : many ≤ 5 := by omega
 have hL := fun S => law_lot_ok ns as (by omega) many (by omega) (decide (rg r0 3 % 2 = 0)) S
 have okp := lotN_ok (ns := ns) (many := many) (single := decide (rg r0 3 % 2 = 0)) (by omega) ak asc many
 have pl5 : (lotN ns as many (decide (rg r0 3 % 2 = 0)) many).length ≤ 5 := by simp [lotN]; omega
 generalize lotN ns as many (decide (rg r0 3 % 2 = 0)) many = ps at hL okp pl5
 have ok : ∀ p ∈ ps, OkPl p := fun p hp => (okp p hp).1
 rw [hmany, hL]
 simp only [wpr_ok]
 refine w_lcC (fun p => U.v (plD p)) ps (fun p => .ins 13 (uFs (memF p))) (src := none) (S1 := []) ?_ (by omega) nofun ?_ ?_
 · simp [Function.comp_def]
 · intro p hp T
   simp [wipeE, serviceK_ok p (ok p hp)]
 simp only [List.length_nil, Nat.zero_add, List.nil_append]
 obtain ⟨S0, hS0⟩ : ∃ S0 : Sto, S0 = Cell.lst (refsN 1 ps.length) :: ps.map fun p => Cell.ins 13 (uFs (memF p)) := ⟨_, rfl⟩
 rw [← hS0]
 have hp : Pass S0 (refsN 1 ps.length) ps := by
   refine ⟨by simp, fun i u p h1 h2 => ⟨13, ?_⟩, ok⟩
   have hi := (List.getElem?_eq_some_iff.mp h2).1
   rw [refsN_get hi] at h1
   cases h1
   refine isM_r ?_ (by simp)
   rw [hS0, Nat.add_comm 1 i]
   simp [h2, memF]
 have hput := put_r (S := S0) (n := 0) (by rw [hS0]; rfl) hp (by simp; exact pl5)
 have sv0 : Sv S0 ps := by
   refine ⟨by rw [hS0]; rfl, fun i p hi => ⟨p.now, (ok p (List.mem_of_getElem? hi)).n0, (ok p (List.mem_of_getElem? hi)).n1, ?_⟩⟩
   rw [hS0]
   simp [hi, memF]
 clear hS0
 have hlh := fun S => lot_holds_ok (S := S) (isLot_v S ps (ps.map Pl.now)) ok (by omega)
 simp [-isIns_r, hput, hlh]
 refine ⟨⟨by omega, by omega⟩, ?_⟩
 refine for_inv (fun i ρ T => Sv T ps ∧ ∃ x7 x8, ρ = [some (.v (.frl (ns.map D.int))), some (.v (.lst (r0.map D.int))), some (.v (.lst (as.map D.str))), some (.v (.lst (ps.map plD))), some (.r 0), some (.v (.ins 15 (lotF ps (ps.map Pl.now)))), some (.v (.ins 15 (lotF ps (ps.map Pl.now)))), x7, x8, none, none]) ⟨sv0, none, none, rfl⟩ ?_ ?_
 · rintro i u ρ T hu ⟨sv, x7, x8, rfl⟩
   obtain ⟨hi, rfl⟩ := rngU_get hu
   have hpi : ps[i]? = some ps[i] := List.getElem?_eq_getElem hi
   have okp := ok _ (List.getElem_mem hi)
   obtain ⟨now, n0, n1, hc⟩ := sv.at_ i _ hpi
   have a1 := pl_at hpi
   have hix : ∀ k : U → Sto → Prop, wpO (fIxX (.r 0) (.v (.int i)) T) k = k (.r (i + 1)) T := fun k => by
     rw [v_ixR i sv.l, atI_get (.v .non) (by omega) (by simp; omega)]
     simp [refsN, hi]
     rw [Nat.add_comm]
   obtain ⟨b1, e1, g1, g2, hmv⟩ := move_ok (p := ⟨ps[i].size, ps[i].ms, ps[i].ts, now⟩) (n := i + 1) (c := 13) hc (by simp) ⟨okp.m, n0, n1⟩
   simp only at hmv g1 g2
   obtain ⟨T1, hT1⟩ : ∃ T1 : Sto, T1 = T.set (i + 1) (.ins 13 (uFs (mRec ps[i].size ps[i].ms ps[i].ts e1))) := ⟨_, rfl⟩
   rw [← hT1] at hmv
   have sv1 : Sv T1 ps := by
     refine ⟨by rw [hT1, List.getElem?_set_ne (by omega)]; exact sv.l, fun j p hj => ?_⟩
     by_cases e : i = j
     · subst e
       rw [hpi] at hj; cases hj
       exact ⟨e1, g1, g2, by rw [hT1, List.getElem?_set_self (List.getElem?_eq_some_iff.mp hc).1]⟩
     · obtain ⟨nw, q0, q1, q2⟩ := sv.at_ j p hj
       exact ⟨nw, q0, q1, by rw [hT1, List.getElem?_set_ne (by omega)]; exact q2⟩
   have hg := getlK_ok (isLot_v T1 ps (ps.map Pl.now)) hpi (by simp) okp.m (by rw [rg_map hpi]; exact okp.n0) (by rw [rg_map hpi]; exact okp.n1)
   rw [rg_map hpi] at hg
   obtain ⟨b2, e2, g3, g4, hmv2⟩ := move_ok (S := T1 ++ [.ins 13 (uFs (memF ps[i]))]) (p := ps[i]) (n := T1.length) (c := 13) (by simp) (by simp) okp
   simp [-atI_map, hix, a1, plD, hmv, hg, isLot_v, hmv2]
   exact sv1.app _
 · rintro ρ T ⟨sv, x7, x8, rfl⟩
   simp [hlh, K02.fin_nil]
end K05
namespace Pu
open PySem
section
variable {ρ : Env'} {S : Sto} {X : XP} {Q : Post}
end
end Pu
namespace Mi
open PySem Pu L2
def zero (p : Pl) : Pl := { p with now := 0 }
inductive Parts (S : Sto) : U → List Pl → List Int → Prop
 | lot {y : U} {mem : List Pl} {pl : List Int} : IsLot S y mem pl → (∀ p ∈ mem, OkPl p) → mem.length ≤ 1000 → pl.length = mem.length → Parts S y (mem.map zero) pl
 | srv {y : U} {p : Pl} : IsP S y 13 p → OkPl p → Parts S y [p] [p.now]
section
variable {S : Sto} {x y : U} {mem mem2 : List Pl} {pl pl2 : List Int}
def fitsN (mem : List Pl) (q : List Int) : Bool := decide (q.length = mem.length) && (mem.zip q).all fun p => decide (-1 ≤ p.2) && decide (p.2 < p.1.size)
end
end Mi
namespace Mi
open PySem Pu L2
section
variable {S : Sto} {x y : U} {mem mem2 : List Pl} {pl pl2 : List Int} {n : Nat}
structure Like (mem ps : List Pl) : Prop where
 len : mem.length = ps.length
 at_ : ∀ (i : Nat) (a b : Pl), mem[i]? = some a → ps[i]? = some b → a.size = b.size ∧ a.ms = b.ms ∧ a.ts = b.ts
theorem Like.zero (ps : List Pl) : Like (ps.map zero) ps := ⟨by simp, fun i a b h1 h2 => by rw [List.getElem?_map, h2] at h1; cases h1; exact ⟨rfl, rfl, rfl⟩⟩
theorem Like.app {m1 m2 p1 p2 : List Pl} (h1 : Like m1 p1) (h2 : Like m2 p2) : Like (m1 ++ m2) (p1 ++ p2) := by
 refine ⟨by simp [h1.len, h2.len], fun i a b ha hb => ?_⟩
 by_cases hi : i < m1.length
 · rw [List.getElem?_append_left hi] at ha
   rw [List.getElem?_append_left (by rw [← h1.len]; exact hi)] at hb
   exact h1.at_ i a b ha hb
 · rw [List.getElem?_append_right (by omega)] at ha
   rw [List.getElem?_append_right (by rw [← h1.len]; omega), ← h1.len] at hb
   exact h2.at_ _ a b ha hb
theorem Like.trans {a b c : List Pl} (h1 : Like a b) (h2 : Like b c) : Like a c := by
 refine ⟨h1.len.trans h2.len, fun i x z hx hz => ?_⟩
 have hi : i < b.length := by rw [← h1.len]; exact (List.getElem?_eq_some_iff.mp hx).1
 have hy : b[i]? = some b[i] := List.getElem?_eq_getElem hi
 obtain ⟨e1, e2, e3⟩ := h1.at_ i x _ hx hy
 obtain ⟨g1, g2, g3⟩ := h2.at_ i _ z hy hz
 exact ⟨e1.trans g1, e2.trans g2, e3.trans g3⟩
end
end Mi
namespace Mi
open PySem Pu L2
def nodeD (a b : Int) : D := .tup [.int a, .int b]
theorem nodeD_inj {a b a' b' : Int} : nodeD a b = nodeD a' b' ↔ a = a' ∧ b = b' := by simp [nodeD]
structure Two where
 n1 : Nat
 m1 : List Int
 t1 : List St3
 n2 : Nat
 m2 : List Int
 t2 : List St3
def Two.bad (T : Two) (a b : Int) : Bool := decide (a ∈ T.m1) && !decide (b ∈ T.m2)
def Two.ans (T : Two) (b : Int) (t : St3) : List (List D) := (endsL T.t2 b t.2.1).map fun o => [nodeD t.2.2 o]
def Two.opt (T : Two) (a b : Int) : Opts := if T.bad a b = true then [] else (outOf T.t1 a).map (T.ans b)
def Two.isSim (T : Two) (Rel : Int → Int → Prop) : Prop := ∀ a b, Rel a b → T.bad a b = false ∧ ∀ t ∈ T.t1, t.1 = a → ∃ o, (b, t.2.1, o) ∈ T.t2 ∧ Rel t.2.2 o
def Two.Sim (T : Two) (a b : Int) : Prop := ∃ Rel, T.isSim Rel ∧ Rel a b
def Two.inB (T : Two) (a b : Int) : Prop := (0 ≤ a ∧ a < T.n1) ∧ 0 ≤ b ∧ b < T.n2
structure GI (T : Two) (s : D) (g : Gr) (bs ws : List D) : Prop where
 nd : (keys g).Nodup
 ent : ∀ p ∈ g, ∃ a b, T.inB a b ∧ p = (nodeD a b, T.opt a b)
 bad : ∀ x, x ∈ bs ↔ x ∈ keys g ∧ ∃ a b, x = nodeD a b ∧ T.bad a b = true
 cl : ∀ p ∈ g, ∀ x ∈ sucs p.2, x ∈ keys g ∨ x ∈ ws
 wt : ∀ x ∈ ws, ∃ a b, T.inB a b ∧ x = nodeD a b
 st : s ∈ keys g ∨ s ∈ ws
 bl : bs.length ≤ g.length
def Two.inR (T : Two) : Prop := (∀ t ∈ T.t1, (0 ≤ t.1 ∧ t.1 < T.n1) ∧ 0 ≤ t.2.2 ∧ t.2.2 < T.n1) ∧ (∀ t ∈ T.t2, (0 ≤ t.1 ∧ t.1 < T.n2) ∧ 0 ≤ t.2.2 ∧ t.2.2 < T.n2)
theorem Two.sucs_mem {T : Two} {a b : Int} {x : D} (h : x ∈ sucs (T.opt a b)) : ∃ t ∈ T.t1, ∃ o, t.1 = a ∧ (b, t.2.1, o) ∈ T.t2 ∧ x = nodeD t.2.2 o ∧ T.bad a b = false := by
 obtain ⟨as, ha, e, he, hx⟩ := mem_sucs.mp h
 unfold Two.opt at ha
 split at ha
 · cases ha
 · rename_i hb
   obtain ⟨t, ht, rfl⟩ := List.mem_map.mp ha
   obtain ⟨o, ho, rfl⟩ := List.mem_map.mp he
   simp only [List.mem_singleton] at hx
   unfold outOf at ht
   rw [List.mem_filter, decide_eq_true_eq] at ht
   rw [endsL_mem] at ho
   exact ⟨t, ht.1, o, ht.2, ho, hx, by simpa using hb⟩
section
variable {T : Two} {s : D} {g : Gr} {bs ws : List D}
theorem GI.drop (h : GI T s g bs (ws ++ [x])) (hx : x ∈ keys g) : GI T s g bs ws where
 nd := h.nd
 ent := h.ent
 bad := h.bad
 cl p hp y hy := by
   rcases h.cl p hp y hy with z | z
   · exact .inl z
   · rcases List.mem_append.mp z with z | z
     · exact .inr z
     · simp at z; subst z; exact .inl hx
 wt y hy := h.wt y (by simp [hy])
 st := by
   rcases h.st with z | z
   · exact .inl z
   · rcases List.mem_append.mp z with z | z
     · exact .inr z
     · simp at z; subst z; exact .inl hx
 bl := h.bl
theorem GI.add {a b : Int} (hT : T.inR) (h : GI T s g bs (ws ++ [nodeD a b])) (hx : nodeD a b ∉ keys g) (hi : T.inB a b) : GI T s (g ++ [(nodeD a b, T.opt a b)]) (if T.bad a b = true then bs ++ [nodeD a b] else bs) (ws ++ sucs (T.opt a b)) where
 nd := by
   unfold keys
   rw [List.map_append, List.nodup_append]
   exact ⟨h.nd, by simp, fun x hx2 y hy => by simp at hy; subst hy; rintro rfl; exact hx hx2⟩
 ent p hp := by
   rcases List.mem_append.mp hp with z | z
   · exact h.ent p z
   · simp at z; exact ⟨a, b, hi, z⟩
 bad x := by
   unfold keys
   rw [List.map_append, List.mem_append]
   have hb := h.bad x
   unfold keys at hb
   simp only [List.map_cons, List.map_nil, List.mem_singleton]
   split
   · rename_i ht
     rw [List.mem_append, hb, List.mem_singleton]
     constructor
     · rintro (⟨h1, h2⟩ | rfl)
       · exact ⟨.inl h1, h2⟩
       · exact ⟨.inr rfl, a, b, rfl, ht⟩
     · rintro ⟨h1 | h1, h2⟩
       · exact .inl ⟨h1, h2⟩
       · exact .inr h1
   · rename_i ht
     rw [hb]
     constructor
     · rintro ⟨h1, h2⟩; exact ⟨.inl h1, h2⟩
     · rintro ⟨h1 | h1, h2⟩
       · exact ⟨h1, h2⟩
       · obtain ⟨a', b', e, hbb⟩ := h2
         rw [h1, nodeD_inj] at e
         obtain ⟨rfl, rfl⟩ := e
         exact absurd hbb ht
 cl p hp x hx2 := by
   unfold keys
   rw [List.map_append, List.mem_append]
   rcases List.mem_append.mp hp with z | z
   · rcases h.cl p z x hx2 with w | w
     · exact .inl (.inl w)
     · rcases List.mem_append.mp w with w | w
       · exact .inr (by simp [w])
       · simp at w; exact .inl (.inr (by simp [w]))
   · simp at z; subst z; exact .inr (by simp [hx2])
 wt x hx2 := by
   rcases List.mem_append.mp hx2 with z | z
   · exact h.wt x (by simp [z])
   · obtain ⟨t, ht, o, _, ho, rfl, _⟩ := Two.sucs_mem z
     have h1 := (hT.1 t ht).2
     have h2 := (hT.2 _ ho).2
     exact ⟨_, _, ⟨h1, h2⟩, rfl⟩
 st := by
   unfold keys
   rw [List.map_append, List.mem_append]
   rcases h.st with z | z
   · exact .inl (.inl z)
   · rcases List.mem_append.mp z with z | z
     · exact .inr (by simp [z])
     · simp at z; exact .inl (.inr (by simp [z]))
 bl := by
   have := h.bl
   split <;> simp <;> omega
theorem Lv.all {g : Gr} {bad : D → Prop} : ∀ {l : List D}, (∀ x ∈ l, ∃ k, Lv g bad k x) → ∃ k, ∀ x ∈ l, Lv g bad k x
 | [], _ => ⟨0, by simp⟩
 | x :: l, h => by
   obtain ⟨k, hk⟩ := Lv.all (l := l) fun y hy => h y (by simp [hy])
   obtain ⟨j, hj⟩ := h x (by simp)
   refine ⟨max k j, fun y hy => ?_⟩
   rcases List.mem_cons.mp hy with rfl | hy
   · exact hj.up (by omega)
   · exact (hk y hy).up (by omega)
end
end Mi
namespace Pu
open PySem L2
section
variable {α : Type} {S : Sto} {src : Option Nat} {c0 : Option Cell} {g : MG} {t : MT} {mb : Env' → Sto → R Unit} {ρ : Env'}
def stepP (c : α → Cell) (A : List D → α) (g : MG) (t : MT) (mb : Env' → Sto → R Unit) (ρ : Env') (S : Sto) (pre : List D) (d : D) : Prop :=
 wpo (g (.v d) ρ) fun ρ1 => wpr (t ρ1 (S ++ [c (A pre)])) (fun b T => T = S ++ [c (A pre)] ∧ if b = true then wpr (mb ρ1 (S ++ [c (A pre)])) (fun _ T' => T' = S ++ [c (A (pre ++ [d]))]) (fun _ _ _ => False) else A (pre ++ [d]) = A pre) (fun _ _ _ => False)
end
end Pu
namespace Mi
open PySem Pu L2
end Mi
namespace Pu
open PySem L2
end Pu
namespace Mi
open PySem Pu L2
abbrev Pr := Str × Int
def prD (q : Pr) : D := .tup [.str q.1, .int q.2]
def outP (ts : List St3) (s : Int) : List Pr := (outOf ts s).map (·.2)
theorem pairD_prs (ts : List St3) (s : Int) : (outOf ts s).map pairD = (outP ts s).map prD := by unfold outP; rw [List.map_map]; rfl
theorem outP_mem {ts : List St3} {s : Int} {q : Pr} : q ∈ outP ts s ↔ (s, q) ∈ ts := by
 unfold outP outOf
 rw [List.mem_map]
 constructor
 · rintro ⟨⟨a, b⟩, h, rfl⟩
   have := List.mem_filter.mp h
   simp at this
   obtain ⟨h1, rfl⟩ := this
   exact h1
 · intro h
   exact ⟨(s, q), by simp [h], rfl⟩
def lt2 (a b : Pr) : Prop := slt a.1 b.1 ∨ a.1 = b.1 ∧ a.2 < b.2
theorem outP_asc {ts : List St3} (h : ts.Pairwise lt3) (s : Int) : (outP ts s).Pairwise lt2 := by
 unfold outP outOf
 rw [List.pairwise_map, List.pairwise_filter]
 refine h.imp fun {a b} hab ha hb => ?_
 simp at ha hb
 rcases hab with h | ⟨_, h⟩
 · omega
 · exact h
theorem lt2_irr (a : Pr) : ¬ lt2 a a := fun h => lt3_irr (0, a) (.inr ⟨rfl, h⟩)
theorem outP_nd {ts : List St3} (h : ts.Pairwise lt3) (s : Int) : (outP ts s).Nodup := (outP_asc h s).imp fun {a b} hab e => by subst e; exact lt2_irr a hab
theorem pairs_at {size : Nat} {ts : List St3} {s : Int} (h0 : 0 ≤ s) (h1 : s < size) (k : D → Prop) : wpo (atI (pairsN size ts) s) k = k (.tup ((outP ts s).map prD)) := by
 obtain ⟨n, rfl⟩ := Int.eq_ofNat_of_zero_le h0
 rw [atI_get (.tup ((outP ts n).map prD)) (by omega) (by rw [pairsN_len]; exact h1)]
 have := pairsN_get (size := size) (ts := ts) (s := n) (by omega)
 simp [List.getD, this, pairD_prs]
def widF (ts : List St3) (a : Int) (s : Nat) : Int := if ((outP ts s).length : Int) > a then ((outP ts s).length : Int) else a
def widN (size : Nat) (ts : List St3) : Int := (List.range size).foldl (widF ts) 0
theorem widF_ge (ts : List St3) : ∀ (l : List Nat) (a : Int), a ≤ l.foldl (widF ts) a ∧ ∀ s ∈ l, ((outP ts (s : Int)).length : Int) ≤ l.foldl (widF ts) a
 | [], a => by simp
 | x :: l, a => by
   obtain ⟨h1, h2⟩ := widF_ge ts l (widF ts a x)
   have h3 : a ≤ widF ts a x ∧ ((outP ts (x : Int)).length : Int) ≤ widF ts a x := by unfold widF; split <;> omega
   refine ⟨by simp only [List.foldl_cons]; omega, fun s hs => ?_⟩
   simp only [List.foldl_cons]
   rcases List.mem_cons.mp hs with rfl | hs
   · omega
   · exact h2 s hs
theorem widF_le (ts : List St3) (b : Int) : ∀ (l : List Nat) (a : Int), a ≤ b → (∀ s ∈ l, ((outP ts (s : Int)).length : Int) ≤ b) → l.foldl (widF ts) a ≤ b
 | [], a, h, _ => h
 | x :: l, a, h, hl => by
   simp only [List.foldl_cons]
   refine widF_le ts b l _ ?_ fun s hs => hl s (by simp [hs])
   unfold widF
   have := hl x (by simp)
   split <;> omega
theorem widN_ge {size : Nat} {ts : List St3} {s : Int} (h0 : 0 ≤ s) (h1 : s < size) : ((outP ts s).length : Int) ≤ widN size ts := by
 obtain ⟨n, rfl⟩ := Int.eq_ofNat_of_zero_le h0
 exact (widF_ge ts (List.range size) 0).2 n (by simp; omega)
def mulF (b : Int) (acc : Int) (m : Pl) : Int := acc * ((m.size : Int) + b)
def gsz (size : Nat) (ts : List St3) (mem : List Pl) (a f : Int) : Int := (List.range a.toNat).foldl (fun acc _ => acc * (widN size ts + 1)) (mem.foldl (mulF (if 0 < f then 1 else 0)) size)
section
variable {S : Sto} {x y : U} {c size : Nat} {ms : List Int} {ts : List St3} {now : Int} {mem : List Pl} {pl : List Int}
end
end Mi
namespace Pu
open PySem L2
section
variable {α β σ : Type} {S : Sto} {src : Option Nat} {c0 : Option Cell} {g : MG} {t : MT} {mb : Env' → Sto → R Unit} {ρ : Env'}
def stepQ (c : σ → Cell) (enc : α → U) (g : MG) (t : MT) (mb : Env' → Sto → R Unit) (ρ : Env') (S : Sto) (a a' : σ) (x : α) : Prop :=
 wpo (g (enc x) ρ) fun ρ1 => wpr (t ρ1 (S ++ [c a])) (fun b T => T = S ++ [c a] ∧ if b = true then wpr (mb ρ1 (S ++ [c a])) (fun _ T' => T' = S ++ [c a']) (fun _ _ _ => False) else a' = a) (fun _ _ _ => False)
theorem lcL_q (c : σ → Cell) (enc : α → U) (A : List α → σ) (all : List α) : ∀ (post pre : List α), pre ++ post = all → (∀ a, srcOk src c0 (S ++ [c a])) →
   (∀ pre x post, pre ++ x :: post = all → stepQ c enc g t mb ρ S (A pre) (A (pre ++ [x])) x) →
   lcL src c0 g t mb (post.map enc) ρ (S ++ [c (A pre)]) = .ok () (S ++ [c (A all)])
 | [], pre, e, hs, h => by simp at e; subst e; rfl
 | d :: post, pre, e, hs, h => by
   have h1 := h pre d post e
   have ih := lcL_q c enc A all post (pre ++ [d]) (by simp [e]) hs h
   rw [List.map_cons]
   unfold lcL
   unfold stepQ at h1
   cases qg : g (enc d) ρ with
   | none => rw [qg] at h1; exact h1.elim
   | some ρ1 =>
     rw [qg] at h1
     simp only [wpo_some] at h1
     obtain ⟨b, T, e2, rfl, h3⟩ := wpr_iff.mp h1
     simp only [e2, noEx_ok, R.bind_ok]
     cases b with
     | false =>
       simp only [Bool.false_eq_true, if_false] at h3 ⊢
       rw [if_pos (hs _), ← h3]
       exact ih
     | true =>
       simp only [if_true] at h3 ⊢
       obtain ⟨u, T, e4, rfl⟩ := wpr_iff.mp h3
       simp only [e4, noEx_ok, R.bind_ok]
       rw [if_pos (hs _)]
       exact ih
theorem w_nextQ {ws : List Nat} {mi : MI} {src : Option Nat} {q : Unit → Sto → Prop} {X : XP} (c : σ → Cell) (enc : α → U) (A : List α → σ) (xs : List α) (a0 : σ) (h0 : A [] = a0) (hi : wpr (mi ρ (S ++ [c a0])) (fun iv T => iv = ⟨xs.map enc, src⟩ ∧ T = S ++ [c a0]) (fun _ _ _ => False)) (hs : ∀ n, src = some n → n < S.length)
   (h : ∀ pre x post, pre ++ x :: post = xs → stepQ c enc g t mb (wipeE ρ ws) S (A pre) (A (pre ++ [x])) x)
   (k : q () (S ++ [c (A xs)])) : wpr (cNext ws mi g t mb ρ (S ++ [c a0])) q X := by
 subst h0
 unfold cNext
 rw [eq_of_wpr hi]
 simp only [noEx_ok, R.bind_ok]
 have so : ∀ a', srcOk src (src.bind fun n => (S ++ [c (A [])])[n]?) (S ++ [c a']) := fun a' => by
   unfold srcOk
   cases src with
   | none => trivial
   | some n => simp only [Option.bind_some]; rw [List.getElem?_append_left (hs n rfl), List.getElem?_append_left (hs n rfl)]
 rw [lcL_q c enc A xs xs [] rfl so h]
 exact k
theorem w_cRunQ {ws : List Nat} {mi : MI} {mb : Nat → Env' → Sto → R Unit} {kf : Sto → Unit → Sto → R U} {q : U → Sto → Prop} {X : XP} {S1 : Sto} {c1 : Cell} (c : σ → Cell) (enc : α → U) (A : List α → σ) (xs : List α) (hc : c1 = c (A [])) (hi : wpr (mi ρ S) (fun iv T => iv = ⟨xs.map enc, src⟩ ∧ T = S1) (fun _ _ _ => False)) (hs : ∀ n, src = some n → n < S1.length)
   (h : ∀ pre x post, pre ++ x :: post = xs → stepQ c enc g t (mb S1.length) (wipeE ρ ws) S1 (A pre) (A (pre ++ [x])) x)
   (k : wpr (kf S1 () (S1 ++ [c (A xs)])) q X) : wpr (cRun c1 ws mi g t mb kf ρ S) q X := by
 subst hc
 unfold cRun
 rw [eq_of_wpr hi]
 simp only [R.bind_ok]
 have so : ∀ a', srcOk src (src.bind fun n => S1[n]?) (S1 ++ [c a']) := fun a' => by
   unfold srcOk
   cases src with
   | none => trivial
   | some n => simp only [Option.bind_some]; rw [List.getElem?_append_left (hs n rfl)]
 rw [if_pos (so _), lcL_q c enc A xs xs [] rfl so h]
 simp only [noEx_ok, R.bind_ok]
 exact k
theorem w_l2 {ws ws1 : List Nat} {mi mi1 : MI} {g1 : MG} {t1 : MT} {e : ME} {q : U → Sto → Prop} {X : XP} {S1 : Sto} (enc : α → U) (xs : List α) (p : α → Bool) (sub : α → List β) (enc2 : β → U) (p2 : α → β → Bool) (f : α → β → D)
   (hi : wpr (mi ρ S) (fun iv T => iv = ⟨xs.map enc, src⟩ ∧ T = S1) (fun _ _ _ => False)) (hs : ∀ n, src = some n → n < S1.length)
   (hl : ((xs.filter p).flatMap fun x => ((sub x).filter (p2 x)).map (f x)).length < 100000)
   (h : ∀ x ∈ xs, ∀ acc : List D, wpo (g (enc x) (wipeE ρ ws)) fun ρ1 => wpr (t ρ1 (S1 ++ [cL acc])) (fun b T => b = p x ∧ T = S1 ++ [cL acc]) (fun _ _ _ => False) ∧
     (p x = true → wpr (mi1 ρ1 (S1 ++ [cL acc])) (fun iv T => iv = ⟨(sub x).map enc2, none⟩ ∧ T = S1 ++ [cL acc]) (fun _ _ _ => False) ∧
       ∀ y ∈ sub x, ∀ acc : List D, wpo (g1 (enc2 y) (wipeE ρ1 ws1)) fun ρ2 => wpr (t1 ρ2 (S1 ++ [cL acc])) (fun b T => b = p2 x y ∧ T = S1 ++ [cL acc]) (fun _ _ _ => False) ∧
         (p2 x y = true → wpr (e ρ2 (S1 ++ [cL acc])) (fun u T => u = .v (f x y) ∧ T = S1 ++ [cL acc]) (fun _ _ _ => False))))
   (k : q (.v (.lst ((xs.filter p).flatMap fun x => ((sub x).filter (p2 x)).map (f x)))) S1) : wpr (eL2 kfV ws ws1 mi g t mi1 g1 t1 e ρ S) q X := by
 unfold eL2
 obtain ⟨A, hA⟩ : ∃ A : List α → List D, A = fun pre => (pre.filter p).flatMap fun x => ((sub x).filter (p2 x)).map (f x) := ⟨_, rfl⟩
 refine w_cRunQ (S1 := S1) (src := src) cL enc A xs (by rw [hA]; rfl) hi hs ?_ ?_
 · intro pre x post e
   have hx : x ∈ xs := by rw [← e]; simp
   have hh := h x hx (A pre)
   have eA : ∀ pre, A pre = (pre.filter p).flatMap fun x => ((sub x).filter (p2 x)).map (f x) := fun pre => by rw [hA]
   have hlen : (A pre).length + (if p x = true then (((sub x).filter (p2 x)).map (f x)).length else 0) < 100000 := by
     rw [← e] at hl
     simp only [List.filter_append, List.filter_cons, List.flatMap_append, List.length_append] at hl
     rw [eA]
     by_cases hp : p x = true
     · rw [if_pos hp] at hl ⊢
       simp only [List.flatMap_cons, List.length_append] at hl
       omega
     · rw [if_neg hp]
       omega
   have hsucc : A (pre ++ [x]) = A pre ++ (if p x = true then ((sub x).filter (p2 x)).map (f x) else []) := by
     rw [eA, eA]
     by_cases hp : p x = true
     · simp [hp]
     · simp [hp]
   unfold stepQ
   cases qg : g (enc x) (wipeE ρ ws) with
   | none => rw [qg] at hh; exact hh.elim
   | some ρ1 =>
     rw [qg] at hh
     simp only [wpo_some] at hh ⊢
     obtain ⟨h1, h2⟩ := hh
     rw [eq_of_wpr h1]
     simp only [wpr_ok, true_and]
     by_cases hp : p x = true
     · rw [if_pos hp]
       obtain ⟨h3, h4⟩ := h2 hp
       rw [if_pos hp] at hlen hsucc
       refine w_nextQ (src := none) cL enc2 (fun pre2 => A pre ++ (pre2.filter (p2 x)).map (f x)) (sub x) (A pre) (by simp) h3 nofun ?_ ?_
       · intro pre2 y post2 e2
         have hy : y ∈ sub x := by rw [← e2]; simp
         have hh := h4 y hy (A pre ++ (pre2.filter (p2 x)).map (f x))
         have hlen2 : (A pre ++ (pre2.filter (p2 x)).map (f x)).length + (if p2 x y = true then 1 else 0) < 100000 := by
           rw [← e2] at hlen
           simp only [List.filter_append, List.filter_cons, List.map_append, List.length_append] at hlen ⊢
           by_cases hp2 : p2 x y = true
           · rw [if_pos hp2] at hlen ⊢
             simp only [List.map_cons, List.length_cons] at hlen
             omega
           · rw [if_neg hp2]
             omega
         unfold stepQ
         cases qg2 : g1 (enc2 y) (wipeE ρ1 ws1) with
         | none => rw [qg2] at hh; exact hh.elim
         | some ρ2 =>
           rw [qg2] at hh
           simp only [wpo_some] at hh ⊢
           obtain ⟨h5, h6⟩ := hh
           rw [eq_of_wpr h5]
           simp only [wpr_ok, true_and]
           by_cases hp2 : p2 x y = true
           · rw [if_pos hp2]
             rw [if_pos hp2] at hlen2
             refine w_item (f x y) (by omega) (h6 hp2) ?_
             simp [hp2]
           · rw [if_neg hp2]
             simp [hp2]
       · rw [hsucc]
     · rw [if_neg hp]
       rw [hsucc, if_neg hp]; simp
 · rw [kfV_at]
   rw [hA]; exact k
end
end Pu
namespace Mi
open PySem Pu L2
def rowD (r : List Pr) : D := .tup (r.map prD)
def rowEnd (s : Int) (r : List Pr) : Int := match r.getLast? with
 | some q => q.2
 | none => s
def extN (ts : List St3) (s : Int) (r : List Pr) : List (List Pr) := if outP ts (rowEnd s r) = [] then [r] else (outP ts (rowEnd s r)).map fun q => r ++ [q]
def knN (ts : List St3) (s : Int) : Nat → List (List Pr)
 | 0 => [[]]
 | n + 1 => (knN ts s n).flatMap (extN ts s)
theorem rowEnd_snoc (s : Int) (r : List Pr) (q : Pr) : rowEnd s (r ++ [q]) = q.2 := by simp [rowEnd]
def InT (size : Nat) (ts : List St3) : Prop := ∀ t ∈ ts, 0 ≤ t.1 ∧ t.1 < size ∧ 0 ≤ t.2.2 ∧ t.2.2 < size
theorem outP_in {size : Nat} {ts : List St3} (h : InT size ts) {s : Int} {q : Pr} (hq : q ∈ outP ts s) : 0 ≤ q.2 ∧ q.2 < size := by
 have := h _ (outP_mem.mp hq)
 exact ⟨this.2.2.1, this.2.2.2⟩
theorem flatMap_len {α β : Type} {f : α → List β} {W : Nat} : ∀ {l : List α}, (∀ x ∈ l, (f x).length ≤ W) → (l.flatMap f).length ≤ l.length * W
 | [], _ => by simp
 | x :: l, h => by
   have h1 := h x (by simp)
   have h2 := flatMap_len (f := f) (W := W) (l := l) fun y hy => h y (by simp [hy])
   rw [List.flatMap_cons, List.length_append, List.length_cons, Nat.succ_mul]
   omega
def firstN (p : Pl) (pl : List Int) (a : Int) : List D := (knN p.ts p.now a.toNat).map fun r => D.tup [.int p.now, .tup (pl.map D.int), rowD r]
noncomputable def gameF (p : Pl) (mem : List Pl) (pl : List Int) (a f : Int) : List (Str × D) := [("size", .int (gsz p.size p.ts mem a f)), ("ahead", .int a), ("falls", .int f), ("pattern", .ins 14 (memF p)), ("lot", .ins 15 (lotF mem pl)), ("pairs", .lst (pairsN p.size p.ts)), ("first", .tup (firstN p pl a))]
theorem OkPl.inT {p : Pl} (h : OkPl p) : InT p.size p.ts := fun t ht => by
 have := h.m.tb t ht
 exact ⟨this.1, this.2.1, this.2.2.1, this.2.2.2.1⟩
section
variable {S : Sto} {x y : U} {c n : Nat} {p : Pl} {mem : List Pl} {pl : List Int} {a f : Int}
end
end Mi
namespace Mi
open PySem Pu L2
section
variable {S : Sto} {x y : U} {c n : Nat} {p : Pl} {mem : List Pl} {pl : List Int} {a f : Int}
end
end Mi
namespace Mi
open PySem Pu L2
theorem isL_at {S : Sto} {n : Nat} {xs : List U} (h : S[n]? = some (.lst xs)) : isL S (.r n) = true := by
 have := isL_r (S := S) n True
 rw [h] at this
 simp at this
 exact this
noncomputable abbrev sOpt : MS := (sIf (tAnd (tB (eOp (fInX false) (eVar 9) (eUn (fFld [12, 13, 14, 17] "marks") (eVar 0)))) (tB (eOp (fInX true) (eVar 10) (eUn (fFld [12, 13, 14, 17] "marks") (eVar 1)))))
 (sExpr (eMtT isL fAppend (eVar 5) (aCons (eVar 7) aNil)))
 (sAsg (eLcV [15, 16] (iVal (eOp fIxX (eVar 2) (eVar 9))) (gTup 2 (gCons (gName 15) (gCons (gName 16) gNil))) tYesM (eLcV [14] (iVal (eMtT isDc fGet (eUn (fFld [12, 13, 14, 17] "ends") (eVar 1)) (aCons (eCB fTup (aCons (eVar 10) (aCons (eVar 15) aNil))) (aCons (eCB fTup aNil) aNil)))) (gName 14) tYesM (eCB fLstV (aCons (eCB fTup (aCons (eVar 16) (aCons (eVar 14) aNil))) aNil)))) (gName 8)))
def NI (S : Sto) (x y : U) (T : Two) (s : D) (Mx : Nat) (m : Nat) (ρ : Env') (Z : Sto) : Prop :=
 ∃ (g : Gr) (bs ws : List D) (y7 y8 y9 y10 y11 y12 y13 y14 y15 y16 : Option U), ρ = [some x, some y, some (.v (.lst (pairsN T.n1 T.t1))), some (.v s), some (.r S.length), some (.r (S.length + 1)), some (.r (S.length + 2)), y7, y8, y9, y10, y11, y12, y13, y14, y15, y16] ∧
   Z = S ++ [.dic ((grD g).map vv), .lst (bs.map U.v), .lst (ws.map U.v)] ∧ GI T s g bs ws ∧ ws.length ≤ 1 + g.length * Mx ∧ m = (T.n1 * T.n2 - g.length) * (Mx + 1) + ws.length
end Mi
namespace Mi
open PySem Pu L2
def plR (size : Nat) (ms : List Int) (ts : List St3) (now : Int) : D := .tup [.int size, .lst (ms.map D.int), .lst (ts.map stD), .int now]
def StR (size : Nat) (asks : List Str) (ts : List St3) : Prop := ∀ t ∈ ts, (0 ≤ t.1 ∧ t.1 < size) ∧ (0 ≤ t.2.2 ∧ t.2.2 < size) ∧ t.2.1 ∈ asks
structure PlOk (asks : List Str) (size : Nat) (ms : List Int) (ts : List St3) (now : Int) : Prop where
 s1 : 1 ≤ size
 s2 : size ≤ 5
 m0 : ∀ m ∈ ms, 0 ≤ m ∧ m < size
 ml : ms.length ≤ 6
 t0 : StR size asks ts
 tl : ts.length ≤ 1300
 n0 : 0 ≤ now
 n1 : now < size
theorem StR.snoc {size : Nat} {asks : List Str} {ts : List St3} (h : StR size asks ts) {t : St3} (ht : (0 ≤ t.1 ∧ t.1 < size) ∧ (0 ≤ t.2.2 ∧ t.2.2 < size) ∧ t.2.1 ∈ asks) : StR size asks (ts ++ [t]) := fun x hx => by
 rcases List.mem_append.mp hx with z | z
 · exact h x z
 · simp at z; subst z; exact ht
def GathR (size : Nat) (asks : List Str) (S : Sto) (k : Nat) (T : Sto) : Prop := ∃ ts : List St3, T = S ++ [.lst ((ts.map stD).map U.v)] ∧ StR size asks ts ∧ ts.length ≤ k
theorem random_ok (row : List Int) (hr : row.length = 24) (asks : List Str) (ha0 : 1 ≤ asks.length) (ha : asks.length ≤ 3) (S : Sto) :
   ∃ size ms ts now, PlOk asks size ms ts now ∧ size ≤ 4 ∧ ts.length ≤ 48 ∧ f__law_random [.v (.lst (row.map D.int)), .v (.lst (asks.map D.str))] S = .ok (.v (plR size ms ts now)) S := by
 suffices h : wpr (f__law_random [.v (.lst (row.map D.int)), .v (.lst (asks.map D.str))] S) (fun u T => T = S ∧ ∃ size ms ts now, PlOk asks size ms ts now ∧ size ≤ 4 ∧ ts.length ≤ 48 ∧ u = .v (plR size ms ts now)) (fun _ _ _ => False) by
   obtain ⟨u, T, e, rfl, size, ms, ts, now, h1, h2, h3, rfl⟩ := wpr_iff.mp h
   exact ⟨size, ms, ts, now, h1, h2, h3, e⟩
 unfold f__law_random
 rw [wp_runF]
 obtain ⟨size, hsize⟩ : ∃ z : Nat, (1 + rg row 0 % 4) = (z : Int) := ⟨(1 + rg row 0 % 4).toNat, by omega⟩
 have sz1 : 1 ≤ size := by omega
 have sz2 : size ≤ 4 := by omega
 have hI : ∀ i : Int, 0 ≤ i → i < 24 → ∀ k : Int → Prop, wpo (atI row i) k = k (rg row i.toNat) := fun i h0 h1 k => atI_get 0 h0 (by omega)
 simp [m__law_random, start0, hI, hsize]
 refine ⟨by omega, ?_⟩
 refine for_inv (fun i ρ T => ∃ x4 x5 x6 x7, ρ = [some (.v (.lst (row.map D.int))), some (.v (.lst (asks.map D.str))), some (.v (.int size)), some (.r S.length), x4, x5, x6, x7] ∧ GathR size asks S (12 * i) T) ⟨none, none, none, none, rfl, [], by simp, by simp [StR], by simp⟩ ?_ ?_
 · rintro s u ρ T hu ⟨x4, x5, x6, x7, rfl, hg⟩
   obtain ⟨hsz, rfl⟩ := rngU_get hu
   simp
   refine ⟨by omega, ?_⟩
   refine for_inv (fun i ρ T => ∃ x5 x6 x7, ρ = [some (.v (.lst (row.map D.int))), some (.v (.lst (asks.map D.str))), some (.v (.int size)), some (.r S.length), some (.v (.int s)), x5, x6, x7] ∧ GathR size asks S (12 * s + 4 * i) T) ⟨x5, x6, x7, rfl, hg⟩ ?_ ?_
   · rintro a u ρ T hu ⟨x5, x6, x7, rfl, hg⟩
     obtain ⟨haz, rfl⟩ := rngU_get hu
     simp [hr]
     refine ⟨.inl (by omega), ?_⟩
     have h0 : 0 ≤ (4 + (s : Int) * asks.length + a) % 24 := by omega
     have h1 : (4 + (s : Int) * asks.length + a) % 24 < 24 := by omega
     rw [hI _ h0 h1]
     generalize rg row ((4 + (s : Int) * asks.length + a) % 24).toNat = dg
     refine ⟨by omega, ?_⟩
     refine for_inv (fun i ρ T => ∃ x7, ρ = [some (.v (.lst (row.map D.int))), some (.v (.lst (asks.map D.str))), some (.v (.int size)), some (.r S.length), some (.v (.int s)), some (.v (.int a)), some (.v (.int dg)), x7] ∧ GathR size asks S (12 * s + 4 * a + i) T) ⟨x7, rfl, hg⟩ ?_ ?_
     · rintro e u ρ T hu ⟨x7, rfl, ts, rfl, hts, hl⟩
       obtain ⟨hez, rfl⟩ := rngU_get hu
       have hskip : GathR size asks S (12 * s + 4 * a + (e + 1)) (S ++ [.lst ((ts.map stD).map U.v)]) := ⟨ts, rfl, hts, by omega⟩
       have hput : GathR size asks S (12 * s + 4 * a + (e + 1)) (S ++ [.lst (((ts ++ [((s : Int), sg asks a, (e : Int))]).map stD).map U.v)]) := ⟨_, rfl, hts.snoc ⟨⟨by simp, by simp; omega⟩, ⟨by simp, by simp; omega⟩, by show sg asks a ∈ asks; rw [sg_get haz]; exact List.getElem_mem haz⟩, by simp; omega⟩
       have h2 : (0 : Int) < size + 2 := by omega
       have h3 : (size : Int) + 2 < 1073741824 := by omega
       simp [h2, h3, isL_r, -atI_map, at_str asks a haz]
       split
       · refine ⟨by omega, ?_⟩
         simpa [stD] using hput
       · split
         · split
           · refine ⟨by omega, ?_⟩
             simpa [stD] using hput
           · simpa using hskip
         · simpa using hskip
     · rintro ρ T ⟨x7, rfl, ts, rfl, hts, hl⟩
       refine ⟨⟨_, _, _, rfl⟩, ts, rfl, hts, ?_⟩
       simp only [rngU_len] at hl
       omega
   · rintro ρ T ⟨x5, x6, x7, rfl, ts, rfl, hts, hl⟩
     refine ⟨⟨_, _, _, _, rfl⟩, ts, rfl, hts, ?_⟩
     simp only [rngU_len] at hl
     omega
 · rintro ρ T ⟨x4, x5, x6, x7, rfl, ts, rfl, hts, hl⟩
   simp only [rngU_len] at hl
   have hM := fun S => marks_ok (rg row 1) size sz2 S
   simp [getv, hI, hM]
   rw [v_fzL (ds := ts.map stD) (by simp)]
   simp
   refine ⟨by omega, size, _, ts, _, ⟨by omega, by omega, fun m hm => marksN_bd hm, ?_, hts, by omega, Int.emod_nonneg _ (by omega), Int.emod_lt_of_pos _ (by omega)⟩, sz2, by omega, rfl⟩
   have := marksN_len (rg row 1) size
   omega
theorem lt3_nodup {l : List St3} (h : l.Pairwise lt3) : l.Nodup := h.imp fun {a b} hab e => by subst e; exact lt3_irr a hab
theorem PlOk.ok {asks : List Str} {size : Nat} {ms : List Int} {ts : List St3} {now : Int} (h : PlOk asks size ms ts now) (ha : asks.length ≤ 3) (hk : ∀ z ∈ asks, AskS z) : OkParts size ms (sortI ms) ts (sort3 ts) now ∧ (sort3 ts).length ≤ 75 := by
 have h75 : (sort3 ts).length ≤ 75 := by
   classical
   have := nodup_len (K := (List.range size).flatMap fun (i : Nat) => asks.flatMap fun a => (List.range size).map fun (j : Nat) => (((i : Int), a, (j : Int)) : St3)) (lt3_nodup (sort3_asc ts)) fun t ht => by
     obtain ⟨⟨h1, h2⟩, ⟨h3, h4⟩, h5⟩ := h.t0 t ((sort3_mem ts t).mp ht)
     obtain ⟨s, a, e⟩ := t
     simp only at h1 h2 h3 h4 h5
     obtain ⟨i, rfl⟩ := Int.eq_ofNat_of_zero_le h1
     obtain ⟨j, rfl⟩ := Int.eq_ofNat_of_zero_le h3
     exact List.mem_flatMap.mpr ⟨i, List.mem_range.mpr (by omega), List.mem_flatMap.mpr ⟨a, h5, List.mem_map.mpr ⟨j, List.mem_range.mpr (by omega), rfl⟩⟩⟩
   simp [List.length_flatMap, List.map_const'] at this
   have h2 := h.s2
   have h3 : asks.length * size ≤ 3 * 5 := Nat.mul_le_mul ha h2
   have h4 : size * (asks.length * size) ≤ 5 * (3 * 5) := Nat.mul_le_mul h2 h3
   omega
 refine ⟨⟨?_, ?_, h.m0, ?_, ?_, ?_, h.n0, h.n1, ascI (sortI_asc ms), sortI_mem ms, asc3 (sort3_asc ts), sort3_mem ts, by omega⟩, h75⟩
 · have := h.s1; omega
 · have := h.s2; omega
 · intro s hs
   obtain ⟨⟨h1, h2⟩, ⟨h3, h4⟩, h5⟩ := h.t0 s hs
   exact ⟨h1, h2, h3, h4, hk _ h5⟩
 · have := h.ml; omega
 · have := h.tl; omega
theorem atI_c3 {α : Type} (x y z w : α) (xs : List α) (k : α → Prop) : wpo (atI (x :: y :: z :: w :: xs) 3) k = k w := by rw [show (3 : Int) = ((3 : Nat) : Int) from rfl, Pu.atI_nat]; rfl
theorem client_ok {asks : List Str} {size : Nat} {ms : List Int} {ts : List St3} {now : Int} (h : PlOk asks size ms ts now) (ha : asks.length ≤ 3) (hk : ∀ z ∈ asks, AskS z) (S : Sto) :
   f__law_client [.v (plR size ms ts now)] S = .ok (.v (.ins 14 (mRec size (sortI ms) (sort3 ts) now))) S := by
 unfold f__law_client
 refine runF_eq ?_
 have hp := fun S => pattern_ok size ms (sortI ms) ts (sort3 ts) now (h.ok ha hk).1 (.v (.lst (ms.map D.int))) (.v (.lst (ts.map stD))) S rfl rfl
 simp [m__law_client, start0, plR, atI_c3, hp]
 exact fin_i0
def prR (p : Str × Nat) : D := .tup [.str p.1, .int p.2]
def lrow (n : Nat) (ts : List St3) (s : Nat) (asks : List Str) : List (Str × Nat) := asks.flatMap fun a => ((List.range n).filter fun (w : Nat) => decide (((s : Int), a, (w : Int)) ∈ ts)).map fun w => (a, w)
def lpD (n : Nat) (ts : List St3) (asks : List Str) (k : Nat) : List D := (List.range k).map fun s => .lst ((lrow n ts s asks).map prR)
theorem lrow_len (n : Nat) (ts : List St3) (s : Nat) (asks : List Str) : (lrow n ts s asks).length ≤ asks.length * n := by
 induction asks with
 | nil => simp [lrow]
 | cons a as ih =>
   unfold lrow at ih ⊢
   rw [List.flatMap_cons, List.length_append, List.length_map, List.length_cons, Nat.succ_mul]
   have := List.length_filter_le (fun (w : Nat) => decide (((s : Int), a, (w : Int)) ∈ ts)) (List.range n)
   simp only [List.length_range] at this
   omega
theorem lrow_mem {n : Nat} {ts : List St3} {s : Nat} {asks : List Str} {a : Str} {w : Nat} : (a, w) ∈ lrow n ts s asks ↔ a ∈ asks ∧ w < n ∧ ((s : Int), a, (w : Int)) ∈ ts := by
 unfold lrow
 simp only [List.mem_flatMap, List.mem_map, List.mem_filter, List.mem_range, decide_eq_true_eq, Prod.mk.injEq]
 constructor
 · rintro ⟨a', h1, w', ⟨h2, h3⟩, rfl, rfl⟩; exact ⟨h1, h2, h3⟩
 · rintro ⟨h1, h2, h3⟩; exact ⟨a, h1, w, ⟨h2, h3⟩, rfl, rfl⟩
theorem lrow_snoc (n : Nat) (ts : List St3) (s : Nat) (as : List Str) (a : Str) : lrow n ts s (as ++ [a]) = lrow n ts s as ++ ((List.range n).filter fun (w : Nat) => decide (((s : Int), a, (w : Int)) ∈ ts)).map fun w => (a, w) := by
 unfold lrow; simp
noncomputable def stepD (ts : List St3) : List (D × D) := (ts.map stD).foldl (fun a x => dputD a x (.bl true)) []
theorem stepD_has (ts : List St3) (t : St3) : dhasD (stepD ts) (stD t) = decide (t ∈ ts) := by
 have h := found_mem (ts.map stD) [] (stD t)
 have e : (ts.map stD).foldl putT [] = stepD ts := rfl
 rw [e] at h
 have h2 : stD t ∈ ts.map stD ↔ t ∈ ts := ⟨fun h => by obtain ⟨s, hs, e⟩ := List.mem_map.mp h; rw [← stD_inj e]; exact hs, fun h => List.mem_map_of_mem h⟩
 rw [Bool.eq_iff_iff, dhasD_iff, h, decide_eq_true_eq, h2]
 simp
theorem stepD_len (l : List D) (a : List (D × D)) : (l.foldl (fun a x => dputD a x (.bl true)) a).length ≤ a.length + l.length := by
 induction l generalizing a with
 | nil => simp
 | cons x l ih =>
   rw [List.foldl_cons]
   have h1 := ih (dputD a x (.bl true))
   have h2 := dputD_len a x (.bl true)
   simp; omega
theorem isL_2 (S : Sto) (C : Cell) (xs : List U) : isL (S ++ [C, .lst xs]) (.r (S.length + 1)) = true := isL_at (xs := xs) (by simp)
theorem lpairs_ok {asks : List Str} {size : Nat} {ms : List Int} {ts : List St3} {now : Int} (h : PlOk asks size ms ts now) (ha : asks.length ≤ 3) (S : Sto) :
   f__law_pairs [.v (plR size ms ts now), .v (.lst (asks.map D.str))] S = .ok (.v (.lst (lpD size ts asks size))) S := by
 unfold f__law_pairs
 refine runF_eq ?_
 have s2 := h.s2
 have tl := h.tl
 obtain ⟨pl, hpl⟩ : ∃ z, z = plR size ms ts now := ⟨_, rfl⟩
 have g0 : ∀ (S : Sto) (q : U → Sto → Prop), wpO (fIxX (.v pl) (.v (.int 0)) S) q = q (.v (.int size)) S := fun S q => by rw [hpl, plR]; simp
 have g2 : ∀ (S : Sto) (q : U → Sto → Prop), wpO (fIxX (.v pl) (.v (.int 2)) S) q = q (.v (.lst (ts.map stD))) S := fun S q => by rw [hpl, plR]; simp
 rw [← hpl]
 simp [m__law_pairs, start0, g2, -s_for]
 rw [s_for]
 simp [g2, -s_for]
 refine for_inv (fun i ρ T => ∃ x3, ρ = [some (.v pl), some (.v (.lst (asks.map D.str))), some (.r S.length), x3, none, none, none, none, none] ∧ T = S ++ [.dic ((stepD (ts.take i)).map vv)]) ⟨none, rfl, rfl⟩ ?_ ?_
 · rintro i u ρ T hu ⟨x3, rfl, rfl⟩
   obtain ⟨t, ht, rfl, -⟩ := data_get2 hu
   have hl := stepD_len ((ts.take i).map stD) []
   simp only [List.length_nil, List.length_map, List.length_take] at hl
   simp
   have hset := fun p0 => v_setC (p := p0) (S := S ++ [.dic ((stepD (ts.take i)).map vv)]) (n := S.length) (k := [.int t.1, .str t.2.1, .int t.2.2]) (d := .bl true) (kvs := stepD (ts.take i)) (by simp)
   rw [show D.tup [.int t.1, .str t.2.1, .int t.2.2] = stD t from rfl] at hset
   rw [hset]
   refine ⟨⟨by simp [stD], by unfold stepD; omega⟩, ?_⟩
   simp
   rw [List.take_add_one, ht]
   unfold stepD
   simp
 · rintro ρ T ⟨x3, rfl, rfl⟩
   simp only [List.length_map, List.take_length]
   have hfin : ts.take (ts.map (U.v ∘ stD)).length = ts := by simp
   simp [-s_for]
   rw [s_for]
   simp [g0, -s_for]
   refine ⟨by omega, ?_⟩
   refine for_inv (fun i ρ T => ∃ x5 x6 x7 x8, ρ = [some (.v pl), some (.v (.lst (asks.map D.str))), some (.r S.length), x3, some (.r (S.length + 1)), x5, x6, x7, x8] ∧ T = S ++ [.dic ((stepD ts).map vv), .lst ((lpD size ts asks i).map U.v)]) ⟨none, none, none, none, rfl, by simp [lpD]⟩ ?_ ?_
   · rintro s u ρ T hu ⟨x5, x6, x7, x8, rfl, rfl⟩
     obtain ⟨hsz, rfl⟩ := rngU_get hu
     simp [-s_for]
     rw [s_for]
     simp [-s_for]
     refine for_inv (fun i ρ T => ∃ x7 x8, ρ = [some (.v pl), some (.v (.lst (asks.map D.str))), some (.r S.length), x3, some (.r (S.length + 1)), some (.v (.int s)), some (.v (.lst ((lrow size ts s (asks.take i)).map prR))), x7, x8] ∧ T = S ++ [.dic ((stepD ts).map vv), .lst ((lpD size ts asks s).map U.v)]) ⟨x7, x8, by simp [lrow], by simp⟩ ?_ ?_
     · rintro i u ρ T hu ⟨x7, x8, rfl, rfl⟩
       obtain ⟨a, hat, rfl, -⟩ := data_get2 hu
       have hrl := lrow_len size ts s (asks.take i)
       have hrl2 : (asks.take i).length * size ≤ 3 * 5 := Nat.mul_le_mul (by simp; omega) s2
       simp
       refine w_lcT (fun (i : Nat) => D.int i) (List.range size) (src := none) (S1 := S ++ [.dic ((stepD ts).map vv), .lst ((lpD size ts asks s).map U.v)]) (fun (w : Nat) => decide (((s : Int), a, (w : Int)) ∈ ts)) (fun w => prR (a, w)) ?_ (by simp; omega) nofun ?_ ?_
       · simp [g0, rngU_map, Function.comp_def]; omega
       · intro w hw acc
         have hin := fun q0 => v_inC (q := q0) (S := S ++ [.dic ((stepD ts).map vv), .lst ((lpD size ts asks s).map U.v), .lst (acc.map U.v)]) (n := S.length) (kvs := stepD ts) false (k := [.int s, .str a, .int w]) (by simp)
         have hsd := stepD_has ts ((s : Int), a, (w : Int))
         rw [show stD ((s : Int), a, (w : Int)) = D.tup [.int s, .str a, .int w] from rfl] at hsd
         simp [wipeE, prR]
         rw [hin]
         simp [hsd]
       · simp
         refine ⟨?_, ?_⟩
         · have := List.length_filter_le (fun (w : Nat) => decide (((s : Int), a, (w : Int)) ∈ ts)) (List.range size)
           simp only [List.length_range] at this
           omega
         · rw [List.take_add_one, hat]
           simp [lrow_snoc, Function.comp_def]
     · rintro ρ T ⟨x7, x8, rfl, rfl⟩
       simp
       rw [isL_2]
       simp [lpD, List.range_succ]
       omega
   · rintro ρ T ⟨x5, x6, x7, x8, rfl, rfl⟩
     simp only [rngU_len]
     simp
     exact fin_l (k := 1) rfl
end Mi
namespace Mi
open PySem Pu L2
theorem lt2_tr (a b c : Pr) (h1 : lt2 a b) (h2 : lt2 b c) : lt2 a c := by
 rcases lt3_tr (0, a) (0, b) (0, c) (.inr ⟨rfl, h1⟩) (.inr ⟨rfl, h2⟩) with h | ⟨_, h⟩
 · exact absurd h (by simp)
 · exact h
noncomputable def patR (size : Nat) (ms : List Int) (ts : List St3) (now : Int) : Pl := ⟨size, sortI ms, sort3 ts, now⟩
section
variable {asks : List Str} {size : Nat} {ms : List Int} {ts : List St3} {now : Int}
theorem PlOk.okPl (h : PlOk asks size ms ts now) (ha : asks.length ≤ 3) (hk : ∀ z ∈ asks, AskS z) : OkPl (patR size ms ts now) := by
 obtain ⟨o, h75⟩ := h.ok ha hk
 have s1 := h.s1
 have s2 := h.s2
 have ml := sortI_len ms
 have ml2 := h.ml
 refine ⟨⟨by show (1 : Int) ≤ size; omega, by show (size : Int) ≤ 200; omega, sortI_asc ms, fun m hm => h.m0 m ((sortI_mem ms m).mp hm), sort3_asc ts, fun t ht => o.t0 t ((sort3_mem ts t).mp ht), by show (sortI ms).length ≤ 600; omega, by show (sort3 ts).length ≤ 600; omega⟩, h.n0, h.n1⟩
def lpO (size : Nat) (ts : List St3) : List D := (List.range size).map fun (s : Nat) => D.lst ((outP ts s).map prD)
theorem lpO_len (size : Nat) (ts : List St3) : (lpO size ts).length = size := by simp [lpO]
theorem lpO_at {s : Int} (h0 : 0 ≤ s) (h1 : s < size) (k : D → Prop) : wpo (atI (lpO size ts) s) k = k (.lst ((outP ts s).map prD)) := by
 obtain ⟨n, rfl⟩ := Int.eq_ofNat_of_zero_le h0
 rw [atI_get (.lst ((outP ts n).map prD)) (by omega) (by rw [lpO_len]; exact h1)]
 have : n < size := by omega
 simp [List.getD, lpO, this]
theorem lrow_asc (hs : asks.Pairwise slt) (s : Nat) : ((lrow size ts s asks).map fun q => ((q.1, (q.2 : Int)) : Pr)).Pairwise lt2 := by
 rw [List.pairwise_map]
 unfold lrow
 rw [List.pairwise_flatMap]
 refine ⟨fun a _ => ?_, hs.imp fun {a b} hab x hx y hy => ?_⟩
 · rw [List.pairwise_map]
   refine (List.pairwise_lt_range.sublist List.filter_sublist).imp fun {e e'} he => .inr ⟨rfl, ?_⟩
   show (e : Int) < e'
   omega
 · obtain ⟨e, _, rfl⟩ := List.mem_map.mp hx
   obtain ⟨e', _, rfl⟩ := List.mem_map.mp hy
   exact .inl hab
theorem lp_eq (h : PlOk asks size ms ts now) (hs : asks.Pairwise slt) : lpD size ts asks size = lpO size (sort3 ts) := by
 unfold lpD lpO
 refine List.map_congr_left fun s hsz => ?_
 have hsz2 : s < size := by simpa using hsz
 congr 1
 have e : ((lrow size ts s asks).map fun q => ((q.1, (q.2 : Int)) : Pr)) = outP (sort3 ts) s := by
   refine asc_ext lt2_irr lt2_tr (lrow_asc hs s) (outP_asc (sort3_asc ts) s) fun q => ?_
   rw [outP_mem, sort3_mem]
   constructor
   · intro hq
     obtain ⟨⟨a, w⟩, h1, rfl⟩ := List.mem_map.mp hq
     exact (lrow_mem.mp h1).2.2
   · intro hq
     obtain ⟨⟨_, _⟩, ⟨h3, h4⟩, h5⟩ := h.t0 _ hq
     obtain ⟨a, w⟩ := q
     simp only at h3 h4 h5
     obtain ⟨n, rfl⟩ := Int.eq_ofNat_of_zero_le h3
     exact List.mem_map.mpr ⟨(a, n), lrow_mem.mpr ⟨h5, by omega, hq⟩, rfl⟩
 rw [← e, List.map_map]
 rfl
end
section
variable {S : Sto} {size : Nat} {ts : List St3}
end
section
variable {S : Sto} {x y : U} {c : Nat} {p : Pl} {mem : List Pl} {pl : List Int} {a f : Int}
end
end Mi
namespace Mi
open PySem Pu L2
section
variable {S : Sto} {size : Nat} {ts : List St3}
theorem is_pair_ok (q : Pr) : f__law_is_pair [.v (prD q)] S = .ok (.v (.bl true)) S := by
 unfold f__law_is_pair
 refine runF_eq ?_
 simp [m__law_is_pair, start0, prD, whole_ok]
end
end Mi
namespace Mi
open PySem L2 Pu
end Mi
namespace Mi
open PySem Pu L2
def stdD (s : Int) (st : List Int) (r : List Pr) : D := .tup [.int s, .tup (st.map D.int), rowD r]
def backN (st pl : List Int) : Bool := (st.zip pl).any fun q => decide (q.2 = -1) && !decide (q.1 = -1)
def fellN (st pl : List Int) : Nat := (st.zip pl).countP fun q => !decide (q.2 = -1) && decide (q.1 = -1)
def okRow (ts : List St3) : Int → List Pr → Bool
 | _, [] => true
 | s, q :: r => decide (q ∈ outP ts s) && okRow ts q.2 r
def chkN (p : Pl) (mem : List Pl) (pl : List Int) (a f : Int) (s : Int) (st : List Int) (r : List Pr) : Bool :=
 decide (0 ≤ s) && decide (s < p.size) && fitsN mem st && !backN st pl && okRow p.ts s r && decide ((fellN st pl : Int) ≤ f) && decide ((r.length : Int) ≤ a) && !(decide ((r.length : Int) < a) && !decide (outP p.ts (rowEnd s r) = []))
def IsGame (S : Sto) (x : U) (p : Pl) (mem : List Pl) (pl : List Int) (a f : Int) : Prop := asIns S x = some (18, uF (gameF p mem pl a f))
section
variable {S : Sto} {x : U} {p : Pl} {mem : List Pl} {pl : List Int} {a f : Int}
theorem IsGame.at (h : IsGame S x p mem pl a f) (k : Nat → List (Str × U) → Prop) : isIns S x k = k 18 (uF (gameF p mem pl a f)) := by unfold isIns; rw [show asIns S x = _ from h]
theorem IsGame.app (h : IsGame S x p mem pl a f) (T : Sto) : IsGame (S ++ T) x p mem pl a f := asIns_app T h
def chkQ (S : Sto) (c : Bool) (std : D) : Post := { nx := fun _ T => c = true ∧ T = S, ex := fun k fs _ T => c = false ∧ k = 8 ∧ fs = ([("standing", .v std)] : List (Str × U)) ∧ T = S }
end
end Mi
namespace Mi
open PySem Pu L2
section
variable {S : Sto} {x : U} {p : Pl} {mem : List Pl} {pl : List Int} {a f : Int} {s : Int} {st : List Int} {r : List Pr}
def tellN (ts : List St3) (s : Int) (r : List Pr) : List D := if outP ts (rowEnd s r) = [] ∧ r ≠ [] then [.non] else (outP ts (rowEnd s r)).map prD
end
end Mi
namespace Pu
open PySem L2
def wpg (r : Option (List D × Env' × Sto)) (q : List D → Env' → Sto → Prop) : Prop := match r with
 | some (ds, ρ, S) => q ds ρ S
 | none => False
theorem wpg_iff {r : Option (List D × Env' × Sto)} {q : List D → Env' → Sto → Prop} : wpg r q ↔ ∃ ds ρ S, r = some (ds, ρ, S) ∧ q ds ρ S := by
 cases r with
 | none => exact ⟨fun h => h.elim, fun ⟨_, _, _, h, _⟩ => by cases h⟩
 | some p =>
   obtain ⟨ds, ρ, S⟩ := p
   exact ⟨fun h => ⟨ds, ρ, S, rfl, h⟩, fun ⟨_, _, _, e, h⟩ => by cases e; exact h⟩
section
variable {ds : List D} {ρ : Env'} {S : Sto} {q : List D → Env' → Sto → Prop}
@[simp ↓] theorem g_nx : wpg (gNx ds ρ S) q = q ds ρ S := id rfl
@[simp ↓] theorem g_sq (a b : MGn) : wpg (gSq a b ds ρ S) q = wpg (a ds ρ S) (fun ds1 ρ1 S1 => wpg (b ds1 ρ1 S1) q) := by
 unfold gSq
 cases a ds ρ S with
 | none => rfl
 | some p => rfl
@[simp ↓] theorem g_pl (m : MS) : wpg (gPl m ds ρ S) q = wps (m ρ S) { nx := fun ρ' S' => q ds ρ' S', rt := fun _ _ => False, bk := fun _ _ => False, ct := fun _ _ => False, ex := fun _ _ _ _ => False } := by
 unfold gPl
 cases m ρ S <;> rfl
def isV (u : U) (k : D → Prop) : Prop := match u with
 | .v d => k d
 | .r _ => False
@[simp ↓] theorem isV_v (d : D) (k : D → Prop) : isV (.v d) k = k d := id rfl
@[simp ↓] theorem g_yd (m : ME) : wpg (gYd m ds ρ S) q = wpr (m ρ S) (fun u S' => isV u fun d => ds.length < 100000 ∧ q (ds ++ [d]) ρ S') (fun _ _ _ => False) := by
 unfold gYd
 cases m ρ S with
 | er => rfl
 | ex c fs S' => rfl
 | ok u S' =>
   cases u with
   | r n => rfl
   | v d =>
     show wpg (if ds.length < 100000 then _ else _) q = (ds.length < 100000 ∧ q (ds ++ [d]) ρ S')
     by_cases h : ds.length < 100000
     · rw [if_pos h]; simp [h, wpg]
     · rw [if_neg h]; simp [h, wpg]
theorem q64 (it : MI) (g : MG) (body : MGn) : wpg (gFor it g body ds ρ S) q = wpr (it ρ S) (fun iv S1 => wpg (gForGo iv.src (iv.src.bind fun n => S1[n]?) g body iv.items ds ρ S1) q) (fun _ _ _ => False) := by
 unfold gFor
 cases it ρ S <;> rfl
theorem gfor_st {β : Type} {src : Option Nat} {c0 : Option Cell} {g : MG} {body : MGn} (enc : β → U) (I : List β → List D → Env' → Sto → Prop) (all : List β) : ∀ (post pre : List β) (ds : List D) (ρ : Env') (S : Sto), pre ++ post = all → I pre ds ρ S →
   (∀ pre x post ds ρ S, pre ++ x :: post = all → I pre ds ρ S → wpo (g (enc x) ρ) fun ρ1 => wpg (body ds ρ1 S) (fun ds2 ρ2 S2 => srcOk src c0 S2 ∧ I (pre ++ [x]) ds2 ρ2 S2)) →
   (∀ ds ρ S, I all ds ρ S → q ds ρ S) → wpg (gForGo src c0 g body (post.map enc) ds ρ S) q
 | [], pre, ds, ρ, S, e, h0, hs, hn => by simp at e; subst e; exact hn ds ρ S h0
 | x :: post, pre, ds, ρ, S, e, h0, hs, hn => by
   have h1 := hs pre x post ds ρ S e h0
   have ih := fun ds ρ S h => gfor_st (src := src) (c0 := c0) (body := body) (g := g) enc I all post (pre ++ [x]) ds ρ S (by simp [e]) h hs hn
   rw [List.map_cons]
   unfold gForGo
   cases q1 : g (enc x) ρ with
   | none => rw [q1] at h1; exact h1.elim
   | some ρ1 =>
     rw [q1] at h1
     simp only [wpo_some] at h1 ⊢
     obtain ⟨ds2, ρ2, S2, e2, h2, h3⟩ := wpg_iff.mp h1
     rw [e2]
     simp only
     rw [if_pos h2]
     exact ih ds2 ρ2 S2 h3
theorem runG_eq {N : Nat} {m : MGn} {us : List U} {out : List D} {l : Sto} (h : wpg (m [] (start0 N us) S) (fun ds _ S' => ds = out ∧ S' = S ++ l)) : runG N m us S = some (out, S) := by
 unfold runG
 unfold start0 at h
 obtain ⟨ds, ρ', S', e, h1, h2⟩ := wpg_iff.mp h
 subst h1 h2
 rw [e]
 simp
end
@[simp ↓] theorem w_lcG {n : Nat} {mf : List U → Sto → Option (List D × Sto)} {a : MA} {ρ : Env'} {S : Sto} {q : U → Sto → Prop} {X : XP} : wpr (eLcG n mf a ρ S) q X = wpr (a ρ S) (fun us S1 => us.length = n ∧ wpo (mf us S1) fun p => q (.v (.lst p.1)) p.2) X := by
 unfold eLcG
 cases a ρ S with
 | er => rfl
 | ex c fs S1 => rfl
 | ok us S1 =>
   simp only [R.bind_ok, wpr_ok]
   by_cases h : us.length = n
   · rw [if_pos h]
     simp only [h, true_and]
     cases mf us S1 with
     | none => rfl
     | some p => rfl
   · rw [if_neg h]
     simp [h]
end Pu
namespace K04
open PySem Pu L2 Mi
theorem wid_le {asks : List Str} {size : Nat} {ms : List Int} {ts : List St3} {now : Int} (h : PlOk asks size ms ts now) (ha : asks.length ≤ 3) (s4 : size ≤ 4) : widN size (sort3 ts) ≤ 12 := by
 unfold widN
 refine widF_le _ _ _ 0 (by omega) fun s _ => ?_
 classical
 have := nodup_len (K := asks.flatMap fun a => (List.range size).map fun (j : Nat) => ((a, (j : Int)) : Pr)) (outP_nd (sort3_asc ts) s) fun q hq => by
   have h1 := outP_mem.mp hq
   rw [sort3_mem] at h1
   obtain ⟨_, ⟨h3, h4⟩, h5⟩ := h.t0 _ h1
   obtain ⟨a, e⟩ := q
   simp only at h3 h4 h5
   obtain ⟨j, rfl⟩ := Int.eq_ofNat_of_zero_le h3
   exact List.mem_flatMap.mpr ⟨a, h5, List.mem_map.mpr ⟨j, List.mem_range.mpr (by omega), rfl⟩⟩
 simp [List.length_flatMap, List.map_const'] at this
 have h3 : asks.length * size ≤ 3 * 4 := Nat.mul_le_mul ha s4
 omega
def lvN (ts : List St3) (s : Int) : Nat → List (List Pr)
 | 0 => [[]]
 | n + 1 => (lvN ts s n).flatMap fun r => (outP ts (rowEnd s r)).map fun q => r ++ [q]
def allR (ts : List St3) (s : Int) (n : Nat) : List (List Pr) := (List.range (n + 1)).flatMap (lvN ts s)
theorem allR_succ (ts : List St3) (s : Int) (n : Nat) : allR ts s (n + 1) = allR ts s n ++ lvN ts s (n + 1) := by
 unfold allR
 rw [List.range_succ (n := n + 1), List.flatMap_append]
 simp
theorem allR_0 (ts : List St3) (s : Int) : allR ts s 0 = [[]] := by simp [allR, lvN]
theorem lvN_end {size : Nat} {ts : List St3} (h : InT size ts) {s : Int} (h0 : 0 ≤ s) (h1 : s < size) : ∀ (n : Nat), ∀ r ∈ lvN ts s n, (0 ≤ rowEnd s r ∧ rowEnd s r < size) ∧ r.length = n
 | 0, r, hr => by simp [lvN] at hr; subst hr; exact ⟨⟨h0, h1⟩, rfl⟩
 | n + 1, r, hr => by
   simp only [lvN, List.mem_flatMap, List.mem_map] at hr
   obtain ⟨r', hr', q, hq, rfl⟩ := hr
   obtain ⟨h2, h3⟩ := lvN_end h h0 h1 n r' hr'
   rw [rowEnd_snoc]
   exact ⟨outP_in h hq, by simp; omega⟩
theorem lvN_len {size : Nat} {ts : List St3} (h : InT size ts) {s : Int} (h0 : 0 ≤ s) (h1 : s < size) (hw : ∀ s : Int, 0 ≤ s → s < size → (outP ts s).length ≤ 12) (n : Nat) : (lvN ts s (n + 1)).length ≤ (lvN ts s n).length * 12 := by
 show ((lvN ts s n).flatMap fun r => (outP ts (rowEnd s r)).map fun q => r ++ [q]).length ≤ _
 refine flatMap_len fun r hr => ?_
 obtain ⟨⟨a, b⟩, _⟩ := lvN_end h h0 h1 n r hr
 simpa using hw _ a b
theorem lv_le (ts : List St3) (s : Int) : ∀ n, (lvN ts s n).length ≤ (allR ts s n).length
 | 0 => by simp [allR_0, lvN]
 | n + 1 => by rw [allR_succ, List.length_append]; omega
theorem allR_len {size : Nat} {ts : List St3} (h : InT size ts) {s : Int} (h0 : 0 ≤ s) (h1 : s < size) (hw : ∀ s : Int, 0 ≤ s → s < size → (outP ts s).length ≤ 12) : ∀ (n : Nat), (∀ j < n, (allR ts s j).length < 150) → (allR ts s n).length ≤ 2000
 | 0, _ => by simp [allR_0]
 | n + 1, hj => by
   have a := hj n (by omega)
   have b := lvN_len h h0 h1 hw n
   have c := lv_le ts s n
   rw [allR_succ, List.length_append]
   omega
section
variable {S : Sto} {size : Nat} {ts : List St3} {s : Int}
theorem ext_split (rows : List (List Pr)) (f : List Pr → List (List Pr)) {i : Nat} {r : List Pr} (hri : rows[i]? = some r) : rows.flatMap f = (rows.take i).flatMap f ++ f r ++ (rows.drop (i + 1)).flatMap f := by
 have hi := (List.getElem?_eq_some_iff.mp hri).1
 have e : rows = rows.take i ++ r :: rows.drop (i + 1) := by
   have h1 := (List.take_append_drop i rows).symm
   rw [List.drop_eq_getElem_cons hi, (List.getElem?_eq_some_iff.mp hri).2] at h1
   exact h1
 conv => lhs; rw [e]
 simp
theorem all_rows_ok (h : InT size ts) (h0 : 0 ≤ s) (h1 : s < size) (ht : ts.length ≤ 1000) (hw : ∀ s : Int, 0 ≤ s → s < size → (outP ts s).length ≤ 12) (top : Nat) (h8 : top ≤ 8) :
   ∃ n : Nat, n ≤ top ∧ (∀ j < n, (allR ts s j).length < 150) ∧ f__law_all_rows [.v (.lst (lpO size ts)), .v (.int s), .v (.int top)] S = .ok (.v (.tup [.int n, .lst ((allR ts s n).map rowD)])) S := by
 suffices hh : wpr (f__law_all_rows [.v (.lst (lpO size ts)), .v (.int s), .v (.int top)] S) (fun u T => T = S ∧ ∃ n : Nat, n ≤ top ∧ (∀ j < n, (allR ts s j).length < 150) ∧ u = .v (.tup [.int n, .lst ((allR ts s n).map rowD)])) (fun _ _ _ => False) by
   obtain ⟨u, T, e, rfl, n, g1, g2, rfl⟩ := wpr_iff.mp hh
   exact ⟨n, g1, g2, e⟩
 unfold f__law_all_rows
 rw [wp_runF]
 simp [-s_for, m__law_all_rows, start0]
 rw [s_for]
 simp [-s_for]
 refine ⟨by omega, ?_⟩
 refine for_inv (fun i ρ T => T = S ∧ ∃ (n : Nat) (x6 x7 x8 x9 x10 : Option U), n ≤ i ∧ (∀ j < n, (allR ts s j).length < 150) ∧ ρ = [some (.v (.lst (lpO size ts))), some (.v (.int s)), some (.v (.int top)), some (.v (.lst ((allR ts s n).map rowD))), some (.v (.lst ((lvN ts s n).map rowD))), some (.v (.int n)), x6, x7, x8, x9, x10]) ⟨rfl, 0, none, none, none, none, none, by omega, by omega, by simp [allR_0, lvN, rowD]⟩ ?_ ?_
 · rintro i u ρ T hu ⟨rfl, n, x6, x7, x8, x9, x10, hn, hj, rfl⟩
   obtain ⟨hi, rfl⟩ := rngU_get hu
   have al := allR_len h h0 h1 hw n hj
   have ll := lv_le ts s n
   simp [-s_for]
   by_cases hc : (allR ts s n).length < 150
   · have hc2 : ((allR ts s n).length : Int) < 150 := by omega
     have l2 := lvN_len h h0 h1 hw n
     simp [-s_for, hc2]
     rw [s_for]
     simp [-s_for]
     have e1 : (List.map (U.v ∘ rowD) (lvN ts s n)) = (lvN ts s n).map fun r => U.v (rowD r) := rfl
     rw [e1]
     refine for_inv (fun k ρ Z => Z = T ∧ ∃ (x8 x9 x10 : Option U), ρ = [some (.v (.lst (lpO size ts))), some (.v (.int s)), some (.v (.int top)), some (.v (.lst ((allR ts s n).map rowD))), some (.v (.lst ((lvN ts s n).map rowD))), some (.v (.int n)), some (.v (.int i)), some (.v (.lst ((((lvN ts s n).take k).flatMap fun r => (outP ts (rowEnd s r)).map fun q => r ++ [q]).map rowD))), x8, x9, x10]) ⟨rfl, x8, x9, x10, by simp⟩ ?_ ?_
     · rintro k u ρ Z hu2 ⟨rfl, y8, y9, y10, rfl⟩
       rw [List.getElem?_map, Option.map_eq_some_iff] at hu2
       obtain ⟨r, hri, rfl⟩ := hu2
       have hm := List.mem_of_getElem? hri
       obtain ⟨⟨a, b⟩, c⟩ := lvN_end h h0 h1 n r hm
       have sp := congrArg List.length (ext_split (lvN ts s n) (fun r => (outP ts (rowEnd s r)).map fun q => r ++ [q]) hri)
       have hl1 : (lvN ts s (n + 1)).length ≤ 2000 := by omega
       have el : (lvN ts s (n + 1)) = (lvN ts s n).flatMap fun r => (outP ts (rowEnd s r)).map fun q => r ++ [q] := rfl
       rw [el] at hl1
       simp only [List.length_append] at sp
       have hsucc : ((lvN ts s n).take (k + 1)).flatMap (fun r => (outP ts (rowEnd s r)).map fun q => r ++ [q]) = ((lvN ts s n).take k).flatMap (fun r => (outP ts (rowEnd s r)).map fun q => r ++ [q]) ++ (outP ts (rowEnd s r)).map fun q => r ++ [q] := by rw [List.take_add_one, hri]; simp
       rw [hsucc]
       generalize hacc : ((lvN ts s n).take k).flatMap (fun r => (outP ts (rowEnd s r)).map fun q => r ++ [q]) = acc at *
       have lp := fun kk => lpO_at (size := size) (ts := ts) a b kk
       have hol := hw _ a b
       generalize hm : (sAsg (eOp fAdd (eVar 7) (eLcV [10] (iVal (eOp fIxX (eVar 0) (eVar 9))) (Pu.gName 10) tYesM (eOp fAdd (eVar 8) (eCB fTup (aCons (eVar 10) aNil))))) (Pu.gName 7)) = m
       have tail : ∀ Q : Post, (∀ x10, Q.nx [some (.v (.lst (lpO size ts))), some (.v (.int s)), some (.v (.int top)), some (.v (.lst ((allR ts s n).map rowD))), some (.v (.lst ((lvN ts s n).map rowD))), some (.v (.int n)), some (.v (.int i)), some (.v (.lst ((acc ++ (outP ts (rowEnd s r)).map fun q => r ++ [q]).map rowD))), some (.v (rowD r)), some (.v (.int (rowEnd s r))), x10] Z) →
           wps (m [some (.v (.lst (lpO size ts))), some (.v (.int s)), some (.v (.int top)), some (.v (.lst ((allR ts s n).map rowD))), some (.v (.lst ((lvN ts s n).map rowD))), some (.v (.int n)), some (.v (.int i)), some (.v (.lst (acc.map rowD))), some (.v (rowD r)), some (.v (.int (rowEnd s r))), y10] Z) Q := fun Q hQ => by
         rw [← hm]
         simp [-atI_map]
         refine w_lcT prD (outP ts (rowEnd s r)) (fun _ => true) (fun q => rowD (r ++ [q])) (src := none) (S1 := Z) ?_ (by omega) nofun ?_ ?_
         · simp [-atI_map, lp]
         · intro q hq acc
           simp [wipeE, rowD]
           try omega
         · rw [List.filter_eq_self.mpr (fun _ _ => rfl)]
           have := hQ y10
           simp
           refine ⟨by omega, ?_⟩
           simpa [Function.comp_def] using this
       simp only [s_seq, s_asg, w_var, getv_s, getv_0, wpr_ok, w_gName, List.set_cons_succ, List.set_cons_zero, wpo_some]
       rcases List.eq_nil_or_concat r with hr0 | ⟨r', q, hr0⟩
       · subst hr0
         rw [s_if]
         simp [rowD]
         refine tail _ ?_
         intro x10
         exact ⟨rfl, some (.v (rowD [])), some (.v (.int (rowEnd s []))), x10, by simp [Function.comp_def]⟩
       · subst hr0
         have e3 : rowEnd s (r' ++ [q]) = q.2 := rowEnd_snoc s r' q
         have hpos : (0 : Int) < (r'.length : Int) + 1 := by omega
         simp only [List.concat_eq_append, e3, rowD, List.map_append, List.map_cons, List.map_nil] at tail
         rw [s_if]
         simp [-atI_map, rowD, L2.atI_last, hpos, Mi.prD]
         refine tail _ ?_
         intro x10
         exact ⟨rfl, some (.v (D.tup (r'.map Mi.prD ++ [Mi.prD q]))), some (.v (.int q.2)), x10, by simp [Function.comp_def, e3]⟩
     · rintro ρ Z ⟨rfl, y8, y9, y10, rfl⟩
       have et : (lvN ts s n).take ((lvN ts s n).map fun r => U.v (rowD r)).length = lvN ts s n := by simp
       rw [et]
       have el : ((lvN ts s n).flatMap fun r => (outP ts (rowEnd s r)).map fun q => r ++ [q]) = lvN ts s (n + 1) := rfl
       rw [el]
       simp
       refine ⟨by omega, n + 1, by omega, ?_, ?_⟩
       · intro j hj2
         by_cases e : j = n
         · subst e; exact hc
         · exact hj j (by omega)
       · rw [allR_succ]
         simp
   · have hc2 : ¬ ((allR ts s n).length : Int) < 150 := by omega
     simp [hc2]
     exact ⟨n, by omega, hj, rfl, rfl, rfl⟩
 · rintro ρ T ⟨rfl, n, x6, x7, x8, x9, x10, hn, hj, rfl⟩
   simp only [rngU_len] at hn
   simp
   exact ⟨n, by omega, hj, rfl, rfl⟩
def lvD (s : Int) (r : List Pr) : D := .tup [rowD r, .int (rowEnd s r)]
theorem range_pre {N : Nat} {pre : List Nat} {i : Nat} {post : List Nat} (h : pre ++ i :: post = List.range N) : pre = List.range i ∧ i < N := by
 have hi : pre.length < N := by
   have := congrArg List.length h
   simp at this; omega
 have e : i = pre.length := by
   have := congrArg (fun l => l[pre.length]?) h
   simp [List.getElem?_range hi] at this
   exact this
 subst e
 refine ⟨?_, hi⟩
 have e2 : pre = (List.range N).take pre.length := by rw [← h]; simp
 rw [List.take_range, Nat.min_eq_left (by omega)] at e2
 exact e2
theorem ask_rows_ok {x : U} {c : Nat} {ms : List Int} (hx : IsM S x c size ms ts s) (h : InT size ts) (h0 : 0 ≤ s) (h1 : s < size) (hsz : size ≤ 1000) (ht : ts.length ≤ 1000) (n : Nat) (hn : n ≤ 8) (hl : (allR ts s n).length ≤ 2000) :
   f_ask_rows [x, .v (.int n)] S = some ((allR ts s n).map rowD, S) := by
 unfold f_ask_rows
 have hp := pairs_ok hx hsz ht (fun t ht => ⟨(h t ht).1, (h t ht).2.1⟩)
 refine runG_eq (l := []) ?_
 have e0 : rngU 0 (n + 1) = (List.range (n + 1)).map fun (i : Nat) => U.v (.int i) := by unfold rngU; simp
 simp [m_ask_rows, start0, hp, hx.at, now_x hx, hx.2, show ¬ ((n : Int) < 0) by omega, show ¬ ((8 : Int) < n) by omega]
 rw [q64]
 simp
 refine ⟨by omega, ?_⟩
 rw [e0]
 refine gfor_st (fun (i : Nat) => U.v (.int i)) (fun pre ds ρ T => T = S ∧ ds = (pre.flatMap (lvN ts s)).map rowD ∧ ∃ (x4 x5 x6 x7 : Option U), ρ = [some x, some (.v (.int n)), some (.v (.lst (pairsN size ts))), some (.v (.lst ((lvN ts s (min pre.length n)).map (lvD s)))), x4, x5, x6, x7]) (List.range (n + 1)) (List.range (n + 1)) [] _ _ _ (by simp) ⟨rfl, by simp, none, none, none, none, by simp [lvN, lvD, rowD, rowEnd]⟩ ?_ ?_
 · rintro pre i post ds ρ T e ⟨rfl, rfl, x4, x5, x6, x7, rfl⟩
   obtain ⟨rfl, hi⟩ := range_pre e
   have hi' : i ≤ n := by omega
   have hb : ((List.range i).flatMap (lvN ts s) ++ lvN ts s i).length ≤ 2000 := by
     have e2 : allR ts s n = (List.range i).flatMap (lvN ts s) ++ (i :: post).flatMap (lvN ts s) := by unfold allR; rw [← e]; simp
     rw [e2] at hl
     simp only [List.flatMap_cons, List.length_append] at hl ⊢
     omega
   simp only [List.length_append] at hb
   simp only [List.length_range, Nat.min_eq_left hi', Pu.gName, wpo_some, List.set_cons_succ, List.set_cons_zero, g_sq]
   rw [q64]
   simp
   rw [show List.map (U.v ∘ lvD s) (lvN ts s i) = (lvN ts s i).map fun r => U.v (lvD s r) from rfl]
   refine gfor_st (fun r => U.v (lvD s r)) (fun pre2 ds ρ Z => Z = T ∧ ds = ((List.range i).flatMap (lvN ts s) ++ pre2).map rowD ∧ ∃ (x5 x6 : Option U), ρ = [some x, some (.v (.int n)), some (.v (.lst (pairsN size ts))), some (.v (.lst ((lvN ts s i).map (lvD s)))), some (.v (.int i)), x5, x6, x7]) (lvN ts s i) (lvN ts s i) [] _ _ _ (by simp) ⟨rfl, by simp, x5, x6, rfl⟩ ?_ ?_
   · rintro pre2 r post2 ds ρ Z e2 ⟨rfl, rfl, y5, y6, rfl⟩
     have hb2 : pre2.length < (lvN ts s i).length := by rw [← e2]; simp
     simp [lvD]
     simp only [List.length_flatMap] at hb
     omega
   · rintro ds ρ Z ⟨rfl, rfl, y5, y6, rfl⟩
     simp
     split
     · rename_i hlt
       have hb2 := lv_le ts s (i + 1)
       have hb3 : (allR ts s (i + 1)).length ≤ (allR ts s n).length := by
         unfold allR
         conv => rhs; rw [show n + 1 = (i + 1 + 1) + (n - (i + 1)) by omega, List.range_add, List.flatMap_append, List.length_append]
         exact Nat.le_add_right _ _
       have e4 : ((lvN ts s i).filter fun _ => true).flatMap (fun r => ((outP ts (rowEnd s r)).filter fun _ => true).map fun q => lvD s (r ++ [q])) = (lvN ts s (i + 1)).map (lvD s) := by
         rw [List.filter_eq_self.mpr (fun _ _ => rfl)]
         show _ = ((lvN ts s i).flatMap fun r => (outP ts (rowEnd s r)).map fun q => r ++ [q]).map (lvD s)
         rw [List.map_flatMap]
         congr 1
         funext r
         rw [List.filter_eq_self.mpr (fun _ _ => rfl), List.map_map]
         rfl
       refine w_l2 (S1 := Z) (src := none) (fun r => U.v (lvD s r)) (lvN ts s i) (fun _ => true) (fun r => outP ts (rowEnd s r)) (fun q => U.v (Mi.prD q)) (fun _ _ => true) (fun r q => lvD s (r ++ [q])) ?_ nofun ?_ ?_ ?_
       · simp [Function.comp_def]
       · rw [e4]; simp; omega
       · intro r hr acc
         obtain ⟨⟨a, b⟩, c⟩ := lvN_end h h0 h1 i r hr
         have pa := fun k => pairs_at (size := size) (ts := ts) a b k
         simp [-atI_map, wipeE, lvD, pa, rowD, rowEnd_snoc, Mi.prD, Function.comp_def]
         try omega
       · rw [e4, Nat.min_eq_left (by omega)]
         exact ⟨rfl, rfl⟩
     · rename_i hlt
       rw [Nat.min_eq_right (by omega), show i = n by omega]
 · rintro ds ρ T ⟨rfl, rfl, x4, x5, x6, x7, rfl⟩
   exact ⟨rfl, rfl⟩
theorem is_row_ok (r : List Pr) (hr : r.length ≤ 1000) : f__law_is_row [.v (rowD r)] S = .ok (.v (.bl true)) S := by
 unfold f__law_is_row
 refine runF_eq ?_
 simp [m__law_is_row, start0, rowD]
 refine w_lcT prD r (fun _ => true) (fun _ => .bl true) (src := none) (S1 := S) ?_ (by omega) nofun ?_ ?_
 · simp
 · intro z hz acc
   simp [wipeE, is_pair_ok]
 have e2 : ((r.filter fun _ => true).map fun _ => D.bl true) = (r.map fun _ => true).map D.bl := by rw [List.filter_eq_self.mpr (fun _ _ => rfl), List.map_map]; rfl
 rw [e2, v_all, all_true]
 simp
end
theorem client_ok {asks : List Str} {size : Nat} {ms : List Int} {ts : List St3} {now : Int} (h : PlOk asks size ms ts now) (ha : asks.length ≤ 3) (hk : ∀ z ∈ asks, AskS z) (S : Sto) :
   f__law_client [.v (plR size ms ts now)] S = .ok (.v (.ins 14 (memF (patR size ms ts now)))) S := by
 unfold f__law_client
 refine runF_eq ?_
 have hp := fun S => pattern_ok size ms (sortI ms) ts (sort3 ts) now (h.ok ha hk).1 (.v (.lst (ms.map D.int))) (.v (.lst (ts.map stD))) S rfl rfl
 simp [m__law_client, start0, plR, atI_c3, hp, memF, patR]
 exact fin_i0
theorem rows_dat (l : List (List Pr)) : isDat (.lst (l.map rowD)) = true := by simp [rowD, Mi.prD]
theorem pure_law (ns : List Int) (hns : ns.length ≤ 63) : ∃ S', f_law_38 [.v (.frl (ns.map D.int))] [] = .ok (.v (.bl true)) S' := by
 suffices h : wpr (f_law_38 [.v (.frl (ns.map D.int))] []) (fun u _ => u = .v (.bl true)) (fun _ _ _ => False) by
   obtain ⟨u, S', e, rfl⟩ := wpr_iff.mp h
   exact ⟨S', e⟩
 unfold f_law_38
 rw [wp_runF]
 have D0 := fun S => draws_i ns 0 8 (by omega) (by omega) (by omega) S
 have D1 := fun S => draws_i ns 1 13 (by omega) (by omega) (by omega) S
 have D2 := fun S => draws_i ns 2 24 (by omega) (by omega) (by omega) S
 obtain ⟨r0, hr0⟩ : ∃ r, r = rowN ns 0 8 := ⟨_, rfl⟩
 obtain ⟨r1, hr1⟩ : ∃ r, r = rowN ns 1 13 := ⟨_, rfl⟩
 obtain ⟨r2, hr2⟩ : ∃ r, r = rowN ns 2 24 := ⟨_, rfl⟩
 have l0 : r0.length = 8 := by rw [hr0]; simp
 have l1 : r1.length = 13 := by rw [hr1]; simp
 have l2 : r2.length = 24 := by rw [hr2]; simp
 simp only [Int.reduceToNat, ← hr0, ← hr1, ← hr2] at D0 D1 D2
 clear hr0 hr1 hr2
 have I0 : ∀ i : Int, 0 ≤ i → i < 8 → ∀ k : D → Prop, wpo (atI (r0.map D.int) i) k = k (.int (rg r0 i.toNat)) := fun i h0 h1 k => at_intI r0 i h0 (by omega) k
 have hA := fun S => asks_i r1 l1 (1 + rg r0 1 % 3) (by omega) (by omega) S
 obtain ⟨zs, hzs⟩ : ∃ z, z = asksN r1 (1 + rg r0 1 % 3).toNat := ⟨_, rfl⟩
 have zl : zs.length ≤ 3 := by rw [hzs]; simp; omega
 have zl1 : 1 ≤ zs.length := by rw [hzs]; simp; omega
 have zk : ∀ z ∈ zs, AskS z := by rw [hzs]; exact asksN_ask r1 l1 _
 have zn : zs.Nodup := by rw [hzs]; exact asksN_nd r1 l1 _ (by omega)
 rw [← hzs] at hA
 clear hzs
 generalize hm0 : (sSeq (sAsg (eCall 1 f__law_client [] (aCons (eVar 4) aNil)) (Pu.gName 6))
 (sSeq (sFor (iRng1 (aCons (eC (.int 2)) aNil)) (Pu.gName 7)
 (sSeq (sAsg (eLcG 2 f_ask_rows (aCons (eVar 6) (aCons (eVar 8) aNil))) (Pu.gName 10))
 (sIf (tOr (tNot (tB (eCB fAll (aCons (eLcV [12] (iVal (eVar 10)) (Pu.gName 12) tYesM (eCall 1 f__law_is_row [] (aCons (eVar 12) aNil))) aNil)))) (tB (eOp fNe (eVar 10) (eVar 9))))
 (sRet (eC (.bl false)))
 sNext)))
 (sRet (eOp fEq (eProp [12, 13, 14, 17] f_Machine_now (eVar 6)) (eOp fIxX (eVar 4) (eC (.int 3))))))) = m0
 simp [-atI_map, m_law_38, hm0, start0, D0, D1, D2, I0, hA]
 refine w_lcT D.str zs (fun _ => true) D.str (src := none) (S1 := []) ?_ ?_ nofun ?_ ?_
 · simp
 · omega
 · intro z hz acc
   simp [wipeE, q63]
 have ez : ((zs.filter fun _ => true).map D.str) = zs.map D.str := by rw [List.filter_eq_self.mpr (fun _ _ => rfl)]
 rw [ez, q62 zs (by omega)]
 obtain ⟨as, has⟩ : ∃ z, z = sortS zs := ⟨_, rfl⟩
 have al : as.length ≤ 3 := by rw [has, sortS_len]; exact zl
 have al1 : 1 ≤ as.length := by rw [has, sortS_len]; exact zl1
 have ak : ∀ z ∈ as, AskS z := fun z hz => zk z (by rw [has, sortS_mem] at hz; exact hz)
 have asc : as.Pairwise slt := by rw [has]; exact sortS_asc zs zn
 rw [← has]
 clear has
 obtain ⟨size, ms, ts, now, hp, s4, t48, hR⟩ := random_ok r2 l2 as al1 al []
 have hP := lpairs_ok hp al []
 rw [lp_eq hp asc] at hP
 have okR := hp.okPl al ak
 have inT : InT size (sort3 ts) := okR.inT
 have w12 := wid_le hp al s4
 have hw : ∀ s : Int, 0 ≤ s → s < size → (outP (sort3 ts) s).length ≤ 12 := fun s h0 h1 => by
   have := widN_ge (ts := sort3 ts) h0 h1
   omega
 have tl : (sort3 ts).length ≤ 1000 := by have := sort3_len ts; omega
 obtain ⟨top, htop⟩ : ∃ z : Nat, rg r0 2 % 9 = (z : Int) := ⟨(rg r0 2 % 9).toNat, by omega⟩
 obtain ⟨n, hn, hj, hAll⟩ := all_rows_ok (S := []) inT hp.n0 hp.n1 tl hw top (by omega)
 have hlen := allR_len inT hp.n0 hp.n1 hw n hj
 have hc := fun S => client_ok hp al ak S
 have p3 : ∀ (S : Sto) (q : U → Sto → Prop), wpO (fIxX (.v (plR size ms ts now)) (.v (.int 3)) S) q = q (.v (.int now)) S := fun S q => by simp [plR]
 simp [-atI_map, I0, hR, hP, htop, hAll, p3]
 rw [← hm0]
 clear hm0
 simp [-s_for, hc]
 rw [s_for]
 simp [-s_for]
 have hx : ∀ T : Sto, IsM T (.v (.ins 14 (memF (patR size ms ts now)))) 14 size (sortI ms) (sort3 ts) now := fun T => isM_v (by simp)
 have hask := fun T => ask_rows_ok (S := T) (hx T) inT hp.n0 hp.n1 (by omega) tl n (by omega) hlen
 have hnow := fun T => now_x (hx T)
 refine for_inv (fun i ρ T => T = [] ∧ ∃ (x7 x10 : Option U), ρ = [some (.v (.frl (ns.map D.int))), some (.v (.lst (r0.map D.int))), some (.v (.lst (zs.map D.str))), some (.v (.lst (as.map D.str))), some (.v (plR size ms ts now)), some (.v (.lst (lpO size (sort3 ts)))), some (.v (.ins 14 (memF (patR size ms ts now)))), x7, some (.v (.int n)), some (.v (.lst ((allR (sort3 ts) now n).map rowD))), x10, none, none]) ⟨rfl, none, none, rfl⟩ ?_ ?_
 · rintro i u ρ T hu ⟨rfl, x7, x10, rfl⟩
   simp [hask]
   refine w_lcT rowD (allR (sort3 ts) now n) (fun _ => true) (fun _ => .bl true) (src := none) (S1 := []) ?_ (by omega) nofun ?_ ?_
   · simp
   · intro r hr acc
     have hr2 : r.length ≤ 1000 := by
       unfold allR at hr
       obtain ⟨j, hj, hr⟩ := List.mem_flatMap.mp hr
       have := (lvN_end inT hp.n0 hp.n1 j r hr).2
       have := List.mem_range.mp hj
       omega
     have ir := fun S => is_row_ok (S := S) r hr2
     simp [wipeE, ir]
   have e1 : (((allR (sort3 ts) now n).filter fun _ => true).map fun _ => D.bl true) = ((allR (sort3 ts) now n).map fun _ => true).map D.bl := by rw [List.filter_eq_self.mpr (fun _ _ => rfl), List.map_map]; rfl
   rw [e1, v_all, all_true]
   have rd := rows_dat (allR (sort3 ts) now n)
   simp
   rw [v_ne rd rd]
   simp
 · rintro ρ T ⟨rfl, x7, x10, rfl⟩
   have at14 := fun (k : Nat → List (Str × U) → Prop) => (hx []).at k
   simp [hnow, p3, at14]
end K04
namespace K04
open PySem PySem.Spec PyProof.Rows L2
end K04
open PySem PySem.W PySem.Calls PyProof.Rows
theorem PySem.Challenge.cw_askshanded_k04_rows_of_asks_holds : PySem.Challenge.rw_askshanded_k04_rows_of_asks.Holds := by
 w_on; o_law
 refine HandSHeadRun.head_any (r := OpenLaw.row PySem.Challenge.rw_askshanded_k04_rows_of_asks) (q := view (OpenLaw.row PySem.Challenge.rw_askshanded_k04_rows_of_asks).prog [38]) (H := K04.hk) (ob := K04.ob) (M := 20000) (loose := K04.LS) (d := HandSHeadRun.topDef (OpenLaw.row PySem.Challenge.rw_askshanded_k04_rows_of_asks).prog 38) (kwd := []) K04.ob_eq
   (by kernel_rfl) (fun s => by kernel_rfl) K04.run (by kernel_rfl) (by kernel_rfl) (by kernel_rfl) (by rfl) (by first | assumption | decide +kernel) (by decide +kernel) ⟨rfl, rfl, rfl, rfl, rfl, by decide +kernel⟩ ?hw ?hc
 case hw => w_witness2
 case hc =>
   refine Pu.law_end (l := PySem.Challenge.rw_askshanded_k04_rows_of_asks) (n := 63) (k := 9) (x := "_law_script") (cl := K04.cl) rfl (by decide) (by kernel_rfl) ⟨rfl, by decide, by decide⟩ K04.pure_law ?F
   intro w mg fa h Y G hmg0
   obtain ⟨K, KX, c⟩ := Y
   have hmg : mg ("law" : PySem.Str) = some (.ref fa) := by
     have e : (HandSHeadRun.topDef (OpenLaw.row PySem.Challenge.rw_askshanded_k04_rows_of_asks).prog 38).name = ("law" : PySem.Str) := by kernel_rfl
     rw [← e]
     exact hmg0
   have Gf := K04.facts KX G c
   have e := hmg.symm.trans Gf.g_law
   cases e
   obtain ⟨fd, Fd⟩ := Gf.q1m
   have b := L2.FunD.bindsA (ps := ["_law_script"]) Fd fun _ _ _ _ _ _ us hl => match us, hl with | [_], _ => rfl
   refine ⟨K, fd, KX, fun s v => b s [v] rfl, fun base => ?_⟩
   obtain ⟨fd2, Fd2, ok⟩ := K04.qb4 (w := w) (base := base) Gf
   have e2 := Pu.funD_same Fd Fd2
   subst e2
   exact ok
