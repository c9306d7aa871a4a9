import PyProof.Rows.All
import Wide.All
import OpenK.AllK
import Wide.FinOn
import HandS.ForList
import HandS.ForMost
import HandS.ForExc
import HandS.Wide
import HandS.Flow
import HandS.Rev
import HandS.Zip
import HandS.TupAny
import HandS.Call
import HandS.List
import HandS.Exc
import KE.KDictKeyed
import HandS.Lambda
import HandS.Deep
import HandS.Replace
import HandS.Text
import KE.KDictList
import PyProof.StrWalks
import HandS.Codes
import HandS.IsInst
import HandS.More
import PyProof.StrOps2
import PyProof.Rows.ReprOcc
import PyProof.ReprRoads
import PyProof.StrLawsRepr
import KE.DataMinMax
import HandS.RaiseMore
import HandS.SortRule
import PyProof.TupleOfSeq
import KE.GoesEnum
import KE.GoesZip
import PyProof.EnumMake
import HandS.Dict
import HandS.Style
import KE.KRevSl
import KE.KSortTupAny
import HandS.TupLen
import HandS.Conv
import HandS.Strs
import KE.KDictOf
import HandS.TryOnly
import PyProof.JoinWalk
import HandS.SetFor
import PyProof.Truth
import PyProof.Rows.SortShellAny
import PyProof.Rows.TupAssign
import KE.DataCmp
import HandS.ExcInit
import HandS.ExcIs
import HandS.ExcField
import HandS.ExcOwn
import HandS.WordsExc
import KE.KExcIs
import HandS.Words
import HandS.ExcValue
import KE.DatumIndex
import HandS.FStr
import KE.GoesComp
import KE.GoesRaise
import HandS.StrSplit
import KE.KDictZip
import KE.KItemsList
import KE.DataFind
import HandS.EndTab
import HandS.SortKw
import KE.SortKeyHeap
import KE.KNestM
import HandS.ReplaceLit
import KE.KRevIter
import KE.KDictSum
import KE.KDictWalk
import PySem.Challenge.RW_mustmeet_k11_whole_yards_told_otherwise
set_option bootstrap.genMatcherCode false
set_option compiler.extract_closed false
set_option Elab.async false
set_option linter.all false
set_option maxRecDepth 100000
set_option maxHeartbeats 4000000
namespace PuE
open PySem PySem.Spec PyProof.Rows L2
/-- a new tuple, as such or frozen as the object without a dict that it is -/
def nT (H : Hp) (xs : List V) (Q : VK) : Prop := (∀ p, H p = none → Q (.ref p) (upd H p (.tup xs))) ∨ (∀ p (ob : Obj), H p = none → ob.dict = none → ob.cls = .type "tuple" → Q (.ref p) (upd H p (.frz ob (.tup xs))))
section
variable {X : Cx} {pins : List (Addr × Obj)} {σ : L2.St} {H : Hp} {s : Shared} {Q : VK} {es : List Expr} {t : TA} {pos : Pos}
/-- the new object is laid -/
theorem laidT {xs : List V} {its : Array Value} {tk : Nat} (I : Inv X pins σ H s) (r : Vals xs its.toList) (hz : xs.length ≤ sizeLine) (q : nT H xs Q) :
    EP X pins σ Q (.ref s.heap.objs.size) { s with heap := s.heap.push { cls := .type "tuple", data := .seq its }, toks := tk } := by
  have hf : H s.heap.objs.size = none := I.hok.fresh (Nat.le_refl _)
  have hb : IsTup (s.heap.push { cls := .type "tuple", data := .seq its }) s.heap.objs.size its.toList.toArray := by
    have := IsTup.new s.heap its
    simpa using this
  rcases q with q | q
  · exact ⟨.ref s.heap.objs.size, upd H s.heap.objs.size (.tup xs), I.laid (t' := tk) (fun b u e => Heap.get?_push_of_some _ e) (Nat.le_refl _) ⟨hz, its.toList, r, hb⟩, rfl, q _ hf⟩
  · exact ⟨.ref s.heap.objs.size, upd H s.heap.objs.size (.frz { cls := .type "tuple", data := .seq its } (.tup xs)), I.laid (t' := tk) (fun b u e => Heap.get?_push_of_some _ e) (Nat.le_refl _) ⟨Heap.get?_push_size _ rfl, hz, its.toList, r, hb⟩, rfl, q _ _ hf rfl rfl⟩
def tTupB (t : TA) : TE := fun σ H Q => t σ H fun xs H1 => xs.length ≤ sizeLine ∧ nT H1 xs Q
theorem pe_tupB {x1} (h : PA X es t) : PE X (.Tuple es x1 pos) (tTupB t) := by
  refine ⟨fun pins s σ H Q I hq => ?_⟩
  refine wpAny_Tuple_spliced (thn (h.run pos pins s σ H _ I hq) fun us s1 ⟨xs, H1, I1, r, z, q⟩ => ⟨by rw [← r.length]; exact z, ?_⟩)
  exact laidT (tk := s1.toks) (its := us.toArray) I1 (by simpa using r) z q
def rCatTB (K : PySem.W.Frag) : R2 := fun x y H Q => ∃ a b xs ys, x = .ref a ∧ y = .ref b ∧ SqT K H a xs ∧ SqT K H b ys ∧ xs.length + ys.length ≤ sizeLine ∧
  (xs = [] → Q (.ref b) H) ∧ (xs ≠ [] → ys = [] → Q (.ref a) H) ∧ (xs ≠ [] → ys ≠ [] → nT H (xs ++ ys) Q)
theorem op_catB : OpR X (binaryOp .Add) (rCatTB X.K) := by
  intro pins s σ H x y v u Q I rx ry h
  obtain ⟨a, b, xs, ys, rfl, rfl, ha, hb, hz, q0, q1, q2⟩ := h
  cases rx
  cases ry
  obtain ⟨its, r1, p1, _⟩ := I.tuple ha
  obtain ⟨its2, r2, p2, _⟩ := I.tuple hb
  by_cases hx : xs = []
  · subst hx
    cases r1
    exact cat_tup0 p1 p2 ⟨.ref b, H, I, rfl, q0 rfl⟩
  · have l1 := r1.length
    have l2 := r2.length
    have hx' : its ≠ [] := fun z => by subst z; cases r1; exact hx rfl
    refine HT.cat_tup p1 p2 hx' (fun z => ?_) (fun z => ?_) (by omega)
    · subst z
      cases r2
      exact ⟨.ref a, H, I, rfl, q1 hx rfl⟩
    · have hy : ys ≠ [] := fun e => by subst e; cases r2; exact z rfl
      exact laidT (tk := s.toks) (its := (its ++ its2).toArray) I (by simpa using r1.append r2) (by rw [List.length_append]; exact hz) (q2 hx hy)
def rSlTB (K : PySem.W.Frag) : V → Option Int → Option Int → Hp → VK → Prop := fun x lo hi H Q => ∃ a xs, x = .ref a ∧ SqT K H a xs ∧
  (HT.sIx xs.length 0 lo = 0 ∧ HT.sIx xs.length xs.length hi = xs.length → Q (.ref a) H) ∧ (¬ (HT.sIx xs.length 0 lo = 0 ∧ HT.sIx xs.length xs.length hi = xs.length) → nT H (cutV xs lo hi) Q)
theorem sl_tupB : SlR X (rSlTB X.K) := by
  intro pins s σ H x v vl vu lo hi sl Q I rx hs pl pu h
  obtain ⟨a, xs, rfl, hx, q1, q2⟩ := h
  cases rx
  obtain ⟨its, r, ht, hz⟩ := I.tuple hx
  have hlen : its.toArray.size = xs.length := by rw [List.size_toArray]; exact r.length.symm
  refine ⟨"tuple", _, PyProof.Rows.slot_tuple_getitem.lookup, ht.typeIs, ?_⟩
  by_cases hw : HT.sIx xs.length 0 lo = 0 ∧ HT.sIx xs.length xs.length hi = xs.length
  · exact getItem_tuple_whole ht hs pl pu (by rw [hlen]; exact hw) ⟨.ref a, H, I, rfl, q1 hw⟩
  · refine HT.getItem_tuple_cut ht hs pl pu (by rw [hlen]; exact hw) ?_ (by rw [hlen]; exact hz)
    rw [hlen]
    exact laidT (tk := s.toks) (its := ((its.drop (HT.sIx xs.length 0 lo)).take (HT.sIx xs.length xs.length hi - HT.sIx xs.length 0 lo)).toArray) I (by unfold cutV; simpa using (r.drop (HT.sIx xs.length 0 lo)).take (HT.sIx xs.length xs.length hi - HT.sIx xs.length 0 lo)) (Nat.le_trans (cutV_length xs lo hi) hz) (q2 hw)
end
end PuE
set_option maxRecDepth 100000
set_option maxHeartbeats 4000000
namespace Pu
open PySem L2
/-- the classes by number, and the program's world -/
structure Cl where
  f : Nat → Addr
  P : Program
  w : World
  tabs : List (Addr × Str)
instance : CoeFun Cl (fun _ => Nat → Addr) := ⟨Cl.f⟩
/-- data: what never changes any more, boxes of the law's draws, objects by number -/
inductive D where
  | non | bl (b : Bool) | int (i : Int) | str (s : List Nat) | tup (ds : List D) | lst (ds : List D) | scr (n : Nat) | box | ref (k : Nat) | cls (k : Nat) | exc (c : Nat) (ns : List Str) (ds : List D) | dct (ks : List (List Key)) (ds : List D) | dck (ks : List Key) (ds : List D) | dcn (ks : List D) (is : List Int)
/-- what a slot holds: nothing, data, a list or dict of its own -/
inductive C where
  | un | d (d : D) | own (ds : List D) | dK (kvs : List (Key × D)) | dT (kvs : List (List Key × D))
/-- what an expression comes to: data, a new list or dict, what the slot i holds -/
inductive R where
  | d (d : D) | own (ds : List D) | dK (kvs : List (Key × D)) | dT (kvs : List (List Key × D)) | nam (i : Nat)
/-- an object of the store -/
inductive SO where
  | lst (ds : List D) | dK (kvs : List (Key × D)) | dT (kvs : List (List Key × D)) | ins (c : Nat) (fs : List (Str × D)) | lk (o : Obj) (vs : List (Key × V)) (kvs : List (Key × D))
structure En where
  sl : List C
  st : List SO
structure Ex where
  c : Nat
  ds : List D
/-- the sort of an address -/
inductive Kd where
  | frz | box | obj (k : Nat) | tab
abbrev Ka := Addr → Option Kd
abbrev Sto := List SO
abbrev Sl := List (Option V)
def KL (K : PySem.W.Frag) (a : Addr) (xs : List V) : Prop :=
  ∃ (o : Obj) (its : Array Value) (n : Nat), K.lookup a = some o ∧ o.cls = .type "list" ∧ o.dict = none ∧ o.data = .seq its n ∧ its.size ≤ sizeLine ∧ Vals xs its.toList
/-- what does not change in a def: the written part, the heap and the sorts at its entry -/
structure Gm where
  K : PySem.W.Frag
  H0 : Hp
  k0 : Ka
  cls : Cl
  flds : Nat → List Str
  E : XK
  x : Ex → Sto → Prop
/-- a text that the model lays -/
def SOk (l : List Nat) : Prop := l.length ≤ sizeLine ∧ ∀ c ∈ l, c < 1114112
instance (l : List Nat) : Decidable (SOk l) := by unfold SOk; infer_instance
/-- a caught or made exception of the class at C, its dict (none | at d) -/
def exT (a C : Addr) (d : Option Addr) : HO := .ext fun h => ∃ (oe : Obj) (vs : Array Value), h.get? a = some oe ∧ Zc (.ref C) d oe ∧ oe.data = .fields vs
/-- an exception's dict -/
def ExD (κ : Ka) (H : Hp) (d : Option Addr) (ns : List Str) (vs : List V) : Prop := (d = none ∧ ns = []) ∨ ∃ dd, d = some dd ∧ κ dd = some .frz ∧ H dd = some (.xd (ns.zip vs).reverse)
mutual
/-- a key of any depth -/
def nkD : D → Option NestedKey
  | .int i => some (.num i)
  | .str s => some (.text ⟨s.toArray⟩)
  | .tup ds => (nkL ds).map .tup
  | _ => none
def nkL : List D → Option (List NestedKey)
  | [] => some []
  | d :: ds => (nkD d).bind fun k => (nkL ds).map fun ks => k :: ks
end
/-- a dict of nested keys and ints, its keys' tuples at as -/
def dcnO (cl : Cl) (a : Addr) (as : List Addr) (nks : List NestedKey) (is : List Int) : HO := .ext fun h =>
  (a == sysModules) = false ∧ ∃ (o : Obj) (es : Array DictEntry) (ep : Nat) (vs : List Value), h.get? a = some o ∧ o.ExactDict ∧ o.data = .dict es ep ∧ vs.length = is.length ∧ (∀ (j : Nat) (i : Int), is[j]? = some i → ∃ t, vs[j]? = some (.int i t)) ∧ es.toList = (nks.zip (as.zip vs)).map (fun p => entryOfKey (nestedKind cl.P cl.w) p) ∧ nks.Nodup
/-- a pair of ints; a row of such, not empty (such tuples are known to be plain) -/
def isPr : D → Bool
  | .tup [.int _, .int _] => true
  | _ => false
def ordL : List D → Bool
  | [] => false
  | d :: ds => isPr d && ds.all isPr
mutual
inductive Rep (K : PySem.W.Frag) (cl : Cl) (κ : Ka) (H : Hp) : V → D → Prop
  | non : Rep K cl κ H .non .non
  | bl (b : Bool) : Rep K cl κ H (.bl b) (.bl b)
  | int (i : Int) : Rep K cl κ H (.int i) (.int i)
  | str (l : List Nat) : SOk l → Rep K cl κ H (.str ⟨l.toArray⟩) (.str l)
  | lst {a : Addr} {vs : List V} {ds : List D} : κ a = some .frz → H a = some (.lst vs) → vs.length ≤ sizeLine → RepL K cl κ H vs ds → Rep K cl κ H (.ref a) (.lst ds)
  | tup {a : Addr} {vs : List V} {ds : List D} : ordL ds = false → κ a = some .frz → H a = some (.tup vs) → vs.length ≤ sizeLine → RepL K cl κ H vs ds → Rep K cl κ H (.ref a) (.tup ds)
  | tupF {a : Addr} {vs : List V} {ds : List D} {ob : Obj} : ordL ds = true → ob.dict = none → ob.cls = .type "tuple" → κ a = some .frz → H a = some (.frz ob (.tup vs)) → vs.length ≤ sizeLine → RepL K cl κ H vs ds → Rep K cl κ H (.ref a) (.tup ds)
  | scr {a : Addr} {ns : List Int} {n : Nat} : ((κ a = some .frz ∧ Rd H a (.lst (ns.map V.int))) ∨ KL K a (ns.map V.int)) → ns.length = n → n ≤ 63 → Rep K cl κ H (.ref a) (.scr n)
  | box {a : Addr} : κ a = some .box → Rep K cl κ H (.ref a) .box
  | ref {a : Addr} {k : Nat} : κ a = some (.obj k) → Rep K cl κ H (.ref a) (.ref k)
  | cls (k : Nat) : Rep K cl κ H (.ref (cl k)) (.cls k)
  | exc {a : Addr} {c : Nat} {ns : List Str} {vs : List V} {ds : List D} {d : Option Addr} : κ a = some .frz → H a = some (exT a (cl c) d) → ExD κ H d ns vs → RepL K cl κ H vs ds → Rep K cl κ H (.ref a) (.exc c ns ds)
  | dct {a : Addr} {ks : List (List Key)} {vs : List V} {ds : List D} : κ a = some .frz → H a = some (.dT (ks.zip vs)) → vs.length = ks.length → RepL K cl κ H vs ds → Rep K cl κ H (.ref a) (.dct ks ds)
  | dck {a : Addr} {ks : List Key} {vs : List V} {ds : List D} : κ a = some .frz → H a = some (.dK (ks.zip vs)) → vs.length = ks.length → RepL K cl κ H vs ds → Rep K cl κ H (.ref a) (.dck ks ds)
  | dcn {a : Addr} {as : List Addr} {ks : List D} {nks : List NestedKey} {is : List Int} : κ a = some .frz → H a = some (dcnO cl a as nks is) → nkL ks = some nks → as.length = ks.length → is.length = ks.length → (∀ k ∈ nks, k.depth ≤ 8) → RepL K cl κ H (as.map V.ref) ks → Rep K cl κ H (.ref a) (.dcn ks is)
inductive RepL (K : PySem.W.Frag) (cl : Cl) (κ : Ka) (H : Hp) : List V → List D → Prop
  | nil : RepL K cl κ H [] []
  | cons {v : V} {vs : List V} {d : D} {ds : List D} : Rep K cl κ H v d → RepL K cl κ H vs ds → RepL K cl κ H (v :: vs) (d :: ds)
end
/-- entries of a dict, attributes -/
inductive PR {α : Type} (K : PySem.W.Frag) (cl : Cl) (κ : Ka) (H : Hp) : List (α × V) → List (α × D) → Prop
  | nil : PR K cl κ H [] []
  | cons {a : α} {v : V} {vs : List (α × V)} {d : D} {ds : List (α × D)} : Rep K cl κ H v d → PR K cl κ H vs ds → PR K cl κ H ((a, v) :: vs) ((a, d) :: ds)
def Ext (κ : Ka) (H : Hp) (κ' : Ka) (H' : Hp) : Prop := (∀ a x, κ a = some x → κ' a = some x) ∧ ∀ a, κ a = some .frz → H' a = H a
theorem Ext.refl (κ : Ka) (H : Hp) : Ext κ H κ H := ⟨fun _ _ h => h, fun _ _ => rfl⟩
theorem Ext.trans {κ κ1 κ2 : Ka} {H H1 H2 : Hp} (a : Ext κ H κ1 H1) (b : Ext κ1 H1 κ2 H2) : Ext κ H κ2 H2 :=
  ⟨fun x y h => b.1 x y (a.1 x y h), fun x h => (b.2 x (a.1 x _ h)).trans (a.2 x h)⟩
section
variable {K : PySem.W.Frag} {cl : Cl} {κ κ' : Ka} {H H' : Hp}
mutual
theorem Rep.mono (e : Ext κ H κ' H') : ∀ {d : D} {v : V}, Rep K cl κ H v d → Rep K cl κ' H' v d
  | .non, _, h => by cases h; exact .non
  | .bl b, _, h => by cases h; exact .bl b
  | .int i, _, h => by cases h; exact .int i
  | .str l, _, h => by cases h with | str _ h => exact .str l h
  | .lst ds, _, h => by
    cases h with
    | lst h1 h2 h3 h4 => exact .lst (e.1 _ _ h1) ((e.2 _ h1).trans h2) h3 (RepL.mono e h4)
  | .tup ds, _, h => by
    cases h with
    | tup h0 h1 h2 h3 h4 => exact .tup h0 (e.1 _ _ h1) ((e.2 _ h1).trans h2) h3 (RepL.mono e h4)
    | tupF h0 h5 h6 h1 h2 h3 h4 => exact .tupF h0 h5 h6 (e.1 _ _ h1) ((e.2 _ h1).trans h2) h3 (RepL.mono e h4)
  | .scr n, _, h => by
    cases h with
    | scr h1 h2 h3 =>
      refine .scr ?_ h2 h3
      rcases h1 with ⟨h1, h2⟩ | h1
      · refine .inl ⟨e.1 _ _ h1, ?_⟩
        unfold Rd
        rw [e.2 _ h1]
        exact h2
      · exact .inr h1
  | .box, _, h => by cases h with | box h => exact .box (e.1 _ _ h)
  | .ref k, _, h => by cases h with | ref h => exact .ref (e.1 _ _ h)
  | .cls k, _, h => by cases h; exact .cls k
  | .exc c ns ds, _, h => by
    cases h with
    | exc h1 h2 h3 h4 =>
      refine .exc (e.1 _ _ h1) ((e.2 _ h1).trans h2) ?_ (RepL.mono e h4)
      rcases h3 with h3 | ⟨dd, h3, h5, h6⟩
      · exact .inl h3
      · exact .inr ⟨dd, h3, e.1 _ _ h5, (e.2 _ h5).trans h6⟩
  | .dct ks ds, _, h => by
    cases h with
    | dct h1 h2 h3 h4 => exact .dct (e.1 _ _ h1) ((e.2 _ h1).trans h2) h3 (RepL.mono e h4)
  | .dck ks ds, _, h => by
    cases h with
    | dck h1 h2 h3 h4 => exact .dck (e.1 _ _ h1) ((e.2 _ h1).trans h2) h3 (RepL.mono e h4)
  | .dcn ks is, _, h => by
    cases h with
    | dcn h1 h2 h3 h4 h5 h6 h7 => exact .dcn (e.1 _ _ h1) ((e.2 _ h1).trans h2) h3 h4 h5 h6 (RepL.mono e h7)
theorem RepL.mono (e : Ext κ H κ' H') : ∀ {ds : List D} {vs : List V}, RepL K cl κ H vs ds → RepL K cl κ' H' vs ds
  | [], _, h => by cases h; exact .nil
  | d :: ds, _, h => by cases h with | cons h1 h2 => exact .cons (Rep.mono e h1) (RepL.mono e h2)
end
theorem PR.mono {α : Type} (e : Ext κ H κ' H') : ∀ {ds : List (α × D)} {vs : List (α × V)}, PR K cl κ H vs ds → PR K cl κ' H' vs ds
  | [], _, h => by cases h; exact .nil
  | _ :: ds, _, h => by cases h with | cons h1 h2 => exact .cons (Rep.mono e h1) (PR.mono e h2)
theorem RepL.length : ∀ {ds : List D} {vs : List V}, RepL K cl κ H vs ds → vs.length = ds.length
  | [], _, h => by cases h; rfl
  | d :: ds, _, h => by cases h with | cons h1 h2 => simp [RepL.length h2]
theorem PR.length {α : Type} : ∀ {ds : List (α × D)} {vs : List (α × V)}, PR K cl κ H vs ds → vs.length = ds.length
  | [], _, h => by cases h; rfl
  | d :: ds, _, h => by cases h with | cons h1 h2 => simp [PR.length h2]
theorem RepL.append : ∀ {ds es : List D} {vs ws : List V}, RepL K cl κ H vs ds → RepL K cl κ H ws es → RepL K cl κ H (vs ++ ws) (ds ++ es)
  | [], _, _, _, h, g => by cases h; exact g
  | d :: ds, _, _, _, h, g => by cases h with | cons h1 h2 => exact .cons h1 (RepL.append h2 g)
theorem RepL.get : ∀ {ds : List D} {vs : List V} {i : Nat} {d : D}, RepL K cl κ H vs ds → ds[i]? = some d → ∃ v, vs[i]? = some v ∧ Rep K cl κ H v d
  | [], _, _, _, h, e => by simp at e
  | d :: ds, _, 0, _, h, e => by
    cases h with
    | cons h1 h2 => simp at e; subst e; exact ⟨_, rfl, h1⟩
  | d :: ds, _, i + 1, _, h, e => by
    cases h with
    | cons h1 h2 =>
      obtain ⟨v, e1, r⟩ := RepL.get (i := i) h2 (by simpa using e)
      exact ⟨v, by simpa using e1, r⟩
theorem RepL.get' : ∀ {ds : List D} {vs : List V} {i : Nat} {v : V}, RepL K cl κ H vs ds → vs[i]? = some v → ∃ d, ds[i]? = some d ∧ Rep K cl κ H v d
  | [], _, _, _, h, e => by cases h; simp at e
  | d :: ds, _, 0, _, h, e => by
    cases h with
    | cons h1 h2 => simp at e; subst e; exact ⟨_, rfl, h1⟩
  | d :: ds, _, i + 1, _, h, e => by
    cases h with
    | cons h1 h2 =>
      obtain ⟨v, e1, r⟩ := RepL.get' (i := i) h2 (by simpa using e)
      exact ⟨v, by simpa using e1, r⟩
theorem RepL.set : ∀ {ds : List D} {vs : List V} {v : V} {d : D} (i : Nat), Rep K cl κ H v d → RepL K cl κ H vs ds → RepL K cl κ H (vs.set i v) (ds.set i d)
  | [], _, _, _, _, _, h => by cases h; exact .nil
  | _ :: _, _, _, _, 0, r, h => by cases h with | cons h1 h2 => exact .cons r h2
  | _ :: _, _, _, _, i + 1, r, h => by cases h with | cons h1 h2 => exact .cons h1 (RepL.set i r h2)
theorem RepL.take : ∀ {ds : List D} {vs : List V} (n : Nat), RepL K cl κ H vs ds → RepL K cl κ H (vs.take n) (ds.take n)
  | _, _, 0, _ => by simpa using .nil
  | [], _, n + 1, h => by cases h; exact .nil
  | _ :: _, _, n + 1, h => by cases h with | cons h1 h2 => exact .cons h1 (RepL.take n h2)
theorem RepL.drop : ∀ {ds : List D} {vs : List V} (n : Nat), RepL K cl κ H vs ds → RepL K cl κ H (vs.drop n) (ds.drop n)
  | _, _, 0, h => h
  | [], _, n + 1, h => by cases h; exact .nil
  | _ :: _, _, n + 1, h => by cases h with | cons h1 h2 => exact RepL.drop n h2
theorem RepL.eraseIdx : ∀ {ds : List D} {vs : List V} (n : Nat), RepL K cl κ H vs ds → RepL K cl κ H (vs.eraseIdx n) (ds.eraseIdx n)
  | [], _, _, h => by cases h; exact .nil
  | _ :: _, _, 0, h => by cases h with | cons h1 h2 => exact h2
  | _ :: _, _, n + 1, h => by cases h with | cons h1 h2 => exact .cons h1 (RepL.eraseIdx n h2)
theorem RepL.dropLast : ∀ {ds : List D} {vs : List V}, RepL K cl κ H vs ds → RepL K cl κ H vs.dropLast ds.dropLast
  | ds, vs, h => by
    rw [List.dropLast_eq_take, List.dropLast_eq_take, h.length]
    exact h.take _
theorem RepL.reverse : ∀ {ds : List D} {vs : List V}, RepL K cl κ H vs ds → RepL K cl κ H vs.reverse ds.reverse
  | [], _, h => by cases h; exact .nil
  | _ :: _, _, h => by
    cases h with
    | cons h1 h2 =>
      rw [List.reverse_cons, List.reverse_cons]
      exact (RepL.reverse h2).append (.cons h1 .nil)
end
/-- keys and values apart -/
theorem PR.split {α : Type} {K : PySem.W.Frag} {cl : Cl} {κ : Ka} {H : Hp} : ∀ {ds : List (α × D)} {vs : List (α × V)}, PR K cl κ H vs ds → vs = (ds.map (·.1)).zip (vs.map (·.2)) ∧ (vs.map (·.2)).length = (ds.map (·.1)).length ∧ RepL K cl κ H (vs.map (·.2)) (ds.map (·.2))
  | [], _, h => by cases h; exact ⟨rfl, rfl, .nil⟩
  | _ :: ds, _, h => by
    cases h with
    | cons h1 h2 =>
      obtain ⟨e1, e2, e3⟩ := PR.split h2
      refine ⟨?_, by simpa using e2, .cons h1 e3⟩
      rw [List.map_cons, List.map_cons, List.zip_cons_cons, ← e1]
theorem PR.zipKV {α : Type} {K : PySem.W.Frag} {cl : Cl} {κ : Ka} {H : Hp} : ∀ {ks : List α} {vs : List V} {ds : List D}, vs.length = ks.length → RepL K cl κ H vs ds → PR K cl κ H (ks.zip vs) (ks.zip ds)
  | [], vs, ds, _, h => by simp only [List.zip_nil_left]; exact .nil
  | k :: ks, [], ds, e, h => by simp at e
  | k :: ks, v :: vs, _, e, .cons h1 h2 => by
    rw [List.zip_cons_cons, List.zip_cons_cons]
    exact .cons h1 (PR.zipKV (by simpa using e) h2)
theorem zip_split {α β : Type} : ∀ l : List (α × β), (l.map (·.1)).zip (l.map (·.2)) = l
  | [] => rfl
  | a :: l => by rw [List.map_cons, List.map_cons, List.zip_cons_cons, zip_split l]
/-- what a fresh own thing at a slot or a result is -/
def OwnC (Γ : Gm) (κ : Ka) (H : Hp) (a : Addr) : C → Prop
  | .own ds => κ a = none ∧ Γ.H0 a = none ∧ ∃ vs, H a = some (.lst vs) ∧ vs.length ≤ sizeLine ∧ RepL Γ.K Γ.cls κ H vs ds
  | .dK kvs => κ a = none ∧ Γ.H0 a = none ∧ ∃ vs, H a = some (.dK vs) ∧ PR Γ.K Γ.cls κ H vs kvs
  | .dT kvs => κ a = none ∧ Γ.H0 a = none ∧ ∃ vs, H a = some (.dT vs) ∧ PR Γ.K Γ.cls κ H vs kvs
  | _ => False
def C.isOwn : C → Bool
  | .own _ => true
  | .dK _ => true
  | .dT _ => true
  | _ => false
def RelS (Γ : Gm) (κ : Ka) (H : Hp) (o : Option (Option V)) : C → Prop
  | .un => True
  | .d d => ∃ v, o = some (some v) ∧ Rep Γ.K Γ.cls κ H v d
  | c => ∃ a, o = some (some (.ref a)) ∧ OwnC Γ κ H a c
def RelC (Γ : Gm) (κ : Ka) (H : Hp) (v : V) : C → Prop
  | .un => False
  | .d d => Rep Γ.K Γ.cls κ H v d
  | c => ∃ a, v = .ref a ∧ OwnC Γ κ H a c
def ObjR (Γ : Gm) (κ : Ka) (H : Hp) (a : Addr) : SO → Prop
  | .lst ds => ∃ vs, H a = some (.lst vs) ∧ vs.length ≤ sizeLine ∧ RepL Γ.K Γ.cls κ H vs ds
  | .dK kvs => ∃ vs, H a = some (.dK vs) ∧ PR Γ.K Γ.cls κ H vs kvs
  | .dT kvs => ∃ vs, H a = some (.dT vs) ∧ PR Γ.K Γ.cls κ H vs kvs
  | .ins c fs => ∃ dx vs, H a = some (.ins (Γ.cls c) dx vs) ∧ PR Γ.K Γ.cls κ H vs fs
  | .lk o vs kvs => H a = some (.frz o (.dK vs)) ∧ PR Γ.K Γ.cls κ H vs kvs
/-- the tables of code objects: where lambdas are made -/
structure TabsOk (ts : List (Addr × Str)) (κ : Ka) (H : Hp) : Prop where
  at_ : ∀ t ∈ ts, κ t.1 = some .tab ∧ ∃ ps : Array Value, H t.1 = some (.tbl ps) ∧ TriplesOk ps.toList ∧ ∀ (pos : Pos) (v : Value), codeAmong pos ps.toList = some v → ∃ d, v = .ref d ∧ κ d = some .frz ∧ H d = some (LamX.CodeO d t.2)
  only : ∀ a, κ a = some .tab → ∃ q, (a, q) ∈ ts
theorem TabsOk.ext {ts : List (Addr × Str)} {κ κ' : Ka} {H H' : Hp} (h : TabsOk ts κ H) (x : Ext κ H κ' H') (hP : ∀ a, κ a = some .tab → H' a = H a) (ho : ∀ a, κ' a = some .tab → κ a = some .tab) : TabsOk ts κ' H' :=
  ⟨fun t ht => by
    obtain ⟨k, ps, h1, h2, h3⟩ := h.at_ t ht
    exact ⟨x.1 _ _ k, ps, (hP _ k).trans h1, h2, fun p v hv => by
      obtain ⟨d, e, kd, hd⟩ := h3 p v hv
      exact ⟨d, e, x.1 _ _ kd, (x.2 d kd).trans hd⟩⟩, fun a e => h.only a (ho a e)⟩
/-- the ghost's part of the invariant -/
structure Gh (Γ : Gm) (κ : Ka) (st : Sto) (H : Hp) : Prop where
  sub : ∀ a x, Γ.k0 a = some x → κ a = some x
  new : ∀ a x, κ a = some x → Γ.k0 a = some x ∨ Γ.H0 a = none ∨ (x = .frz ∧ ∃ vs, Γ.H0 a = some (.tup vs))
  trk : ∀ a x, κ a = some x → H a ≠ none
  trk0 : ∀ a, Γ.H0 a ≠ none → H a ≠ none
  box : ∀ a, κ a = some .box → ∃ i j, H a = some (.lst [.int i, .int j])
  obj : ∀ a k, κ a = some (.obj k) → ∃ so, st[k]? = some so ∧ ObjR Γ κ H a so
  inj : ∀ a b k, κ a = some (.obj k) → κ b = some (.obj k) → a = b
  base : ∀ a o, Γ.H0 a = some o → (Γ.k0 a = none ∨ Γ.k0 a = some .frz) → H a = some o
  tabs : TabsOk Γ.cls.tabs κ H
def OwnS (env : En) (σ : Sl) (i : Nat) (a : Addr) : Prop := σ[i]? = some (some (.ref a)) ∧ ∃ c, env.sl[i]? = some c ∧ c.isOwn = true
structure Rl (Γ : Gm) (κ : Ka) (env : En) (σ : Sl) (H : Hp) : Prop where
  len : σ.length = env.sl.length
  sl : ∀ (i : Nat) (c : C), env.sl[i]? = some c → RelS Γ κ H σ[i]? c
  dist : ∀ (i j : Nat) (a : Addr), OwnS env σ i a → OwnS env σ j a → i = j
  gh : Gh Γ κ env.st H
/-- what an expression came to -/
def RelR (Γ : Gm) (κ : Ka) (H : Hp) (env : En) (σ : Sl) (v : V) : R → Prop
  | .d d => Rep Γ.K Γ.cls κ H v d
  | .nam i => σ[i]? = some (some v)
  | .own ds => ∃ a, v = .ref a ∧ OwnC Γ κ H a (.own ds) ∧ ∀ i, ¬ OwnS env σ i a
  | .dK kvs => ∃ a, v = .ref a ∧ OwnC Γ κ H a (.dK kvs) ∧ ∀ i, ¬ OwnS env σ i a
  | .dT kvs => ∃ a, v = .ref a ∧ OwnC Γ κ H a (.dT kvs) ∧ ∀ i, ¬ OwnS env σ i a
abbrev PX := Ex → Sto → Prop
abbrev PTE := PX → En → (R → En → Prop) → Prop
abbrev PTT := PX → En → (Bool → En → Prop) → Prop
abbrev PTA := PX → En → (List D → En → Prop) → Prop
structure PEn where
  nx : En → Prop
  rt : C → En → Prop
  bk : En → Prop := fun _ => False
  ct : En → Prop := fun _ => False
abbrev PTS := PX → PEn → En → Prop
/-- the contexts in which a piece of text runs -/
structure Fam where
  ι : Type
  X : ι → Cx
  E : ι → XK
  K : PySem.W.Frag
  hK : ∀ i, (X i).K = K
  cls : Cl
  flds : Nat → List Str
/-- what is wanted of an exception, purely, is what is wanted of it -/
def XOk (Γ : Gm) : Prop := ∀ (κ : Ka) (H : Hp) (st : Sto) (c : Nat) (ds : List D) (vs : List V) (d : Option Addr), Gh Γ κ st H → Γ.x ⟨c, ds⟩ st → RepL Γ.K Γ.cls κ H vs ds → ExD κ H d (Γ.flds c) vs → Γ.E (.ref (Γ.cls c)) d H
structure GK (Y : Fam) (Γ : Gm) : Prop where
  k : Γ.K = Y.K
  c : Γ.cls = Y.cls
  f : Γ.flds = Y.flds
  x : XOk Γ
section
variable (Y : Fam)
structure VE (e : Expr) (t : PTE) : Prop where
  ex : ∃ rd : XK → TE, (∀ i, PE (Y.X i) e (rd (Y.E i))) ∧ ∀ (Γ : Gm) (σ : Sl) (κ : Ka) (H : Hp) (env : En) (Q : R → En → Prop) (Q' : VK), GK Y Γ → Rl Γ κ env σ H → t Γ.x env Q →
    (∀ v κ' H' r env', Ext κ H κ' H' → Rl Γ κ' env' σ H' → RelR Γ κ' H' env' σ v r → Q r env' → Q' v H') → rd Γ.E σ H Q'
structure VT (e : Expr) (t : PTT) : Prop where
  ex : ∃ rd : XK → TT, (∀ i, PT (Y.X i) e (rd (Y.E i))) ∧ ∀ (Γ : Gm) (σ : Sl) (κ : Ka) (H : Hp) (env : En) (Q : Bool → En → Prop) (Q' : Bool → Hp → Prop), GK Y Γ → Rl Γ κ env σ H → t Γ.x env Q →
    (∀ b κ' H' env', Ext κ H κ' H' → Rl Γ κ' env' σ H' → Q b env' → Q' b H') → rd Γ.E σ H Q'
structure VW (e : Expr) (t : PTT) : Prop where
  ex : ∃ rd : XK → TT, (∀ i, PW (Y.X i) e (rd (Y.E i))) ∧ ∀ (Γ : Gm) (σ : Sl) (κ : Ka) (H : Hp) (env : En) (Q : Bool → En → Prop) (Q' : Bool → Hp → Prop), GK Y Γ → Rl Γ κ env σ H → t Γ.x env Q →
    (∀ b κ' H' env', Ext κ H κ' H' → Rl Γ κ' env' σ H' → Q b env' → Q' b H') → rd Γ.E σ H Q'
/-- arguments, all data -/
structure VA (es : List Expr) (t : PTA) : Prop where
  ex : ∃ rd : XK → TA, (∀ i, PA (Y.X i) es (rd (Y.E i))) ∧ ∀ (Γ : Gm) (σ : Sl) (κ : Ka) (H : Hp) (env : En) (Q : List D → En → Prop) (Q' : List V → Hp → Prop), GK Y Γ → Rl Γ κ env σ H → t Γ.x env Q →
    (∀ vs κ' H' ds env', Ext κ H κ' H' → Rl Γ κ' env' σ H' → RepL Γ.K Γ.cls κ' H' vs ds → Q ds env' → Q' vs H') → rd Γ.E σ H Q'
def LiftTo (Γ : Gm) (κ : Ka) (H : Hp) (D : PEn) (D' : Ends) : Prop :=
  (∀ σ' κ' H' env', Ext κ H κ' H' → Rl Γ κ' env' σ' H' → D.nx env' → D'.nx σ' H') ∧
  (∀ v κ' H' c env', Ext κ H κ' H' → Gh Γ κ' env'.st H' → RelC Γ κ' H' v c → D.rt c env' → D'.rt v H') ∧
  (∀ σ' κ' H' env', Ext κ H κ' H' → Rl Γ κ' env' σ' H' → D.bk env' → D'.bk σ' H') ∧
  (∀ σ' κ' H' env', Ext κ H κ' H' → Rl Γ κ' env' σ' H' → D.ct env' → D'.ct σ' H')
structure VS (s : Stmt) (t : PTS) : Prop where
  ex : ∃ rd : XK → TS, (∀ i, PS (Y.X i) s (rd (Y.E i))) ∧ ∀ (Γ : Gm) (σ : Sl) (κ : Ka) (H : Hp) (env : En) (D : PEn) (D' : Ends), GK Y Γ → Rl Γ κ env σ H → t Γ.x D env → LiftTo Γ κ H D D' → rd Γ.E D' σ H
structure VSs (s : List Stmt) (t : PTS) : Prop where
  ex : ∃ rd : XK → TS, (∀ i, PSs (Y.X i) s (rd (Y.E i))) ∧ ∀ (Γ : Gm) (σ : Sl) (κ : Ka) (H : Hp) (env : En) (D : PEn) (D' : Ends), GK Y Γ → Rl Γ κ env σ H → t Γ.x D env → LiftTo Γ κ H D D' → rd Γ.E D' σ H
end
theorem LiftTo.ext {Γ : Gm} {κ κ1 : Ka} {H H1 : Hp} {D : PEn} {D' : Ends} (e : Ext κ H κ1 H1) (l : LiftTo Γ κ H D D') : LiftTo Γ κ1 H1 D D' :=
  ⟨fun σ' κ' H' env' x => l.1 σ' κ' H' env' (e.trans x), fun v κ' H' c env' x => l.2.1 v κ' H' c env' (e.trans x), fun σ' κ' H' env' x => l.2.2.1 σ' κ' H' env' (e.trans x), fun σ' κ' H' env' x => l.2.2.2 σ' κ' H' env' (e.trans x)⟩
def rv : R → En → Option D
  | .d d, _ => some d
  | .own ds, _ => some (.lst ds)
  | .nam i, e => match e.sl[i]? with
    | some (.d d) => some d
    | some (.own ds) => some (.lst ds)
    | _ => none
  | _, _ => none
/-- data at its top: a list may be one's own -/
def RepT (Γ : Gm) (κ : Ka) (H : Hp) (v : V) : D → Prop
  | .lst ds => ∃ a vs, v = .ref a ∧ H a = some (.lst vs) ∧ vs.length ≤ sizeLine ∧ RepL Γ.K Γ.cls κ H vs ds
  | d => Rep Γ.K Γ.cls κ H v d
section
variable {Γ : Gm} {κ κ' : Ka} {H H' : Hp} {env env' : En} {σ : Sl} {v : V}
theorem Rep.top {d : D} (h : Rep Γ.K Γ.cls κ H v d) : RepT Γ κ H v d := by
  cases d with
  | lst ds => cases h with | lst h1 h2 h3 h4 => exact ⟨_, _, rfl, h2, h3, h4⟩
  | _ => exact h
theorem Rl.get {i : Nat} {c : C} (r : Rl Γ κ env σ H) (e : env.sl[i]? = some c) : RelS Γ κ H σ[i]? c := r.sl i c e
theorem rv_ok {r : R} {d : D} (I : Rl Γ κ env σ H) (h : RelR Γ κ H env σ v r) (e : rv r env = some d) : RepT Γ κ H v d := by
  cases r with
  | d d' => cases e; exact h.top
  | own ds =>
    cases e
    obtain ⟨a, rfl, ⟨_, _, vs, h2, h3, h4⟩, _⟩ := h
    exact ⟨a, vs, rfl, h2, h3, h4⟩
  | dK _ => cases e
  | dT _ => cases e
  | nam i =>
    have h : σ[i]? = some (some v) := h
    unfold rv at e
    simp only at e
    cases q : env.sl[i]? with
    | none => rw [q] at e; cases e
    | some c =>
      have s := I.get q
      rw [q] at e
      cases c with
      | un => cases e
      | d d' =>
        cases e
        obtain ⟨w, e1, r⟩ := s
        rw [h] at e1
        cases e1
        exact r.top
      | own ds =>
        cases e
        obtain ⟨a, e1, _, _, vs, h2, h3, h4⟩ := s
        rw [h] at e1
        cases e1
        exact ⟨a, vs, rfl, h2, h3, h4⟩
      | dK _ => cases e
      | dT _ => cases e
/-- a result that is kept while something else is evaluated -/
def hold : R → En → (R → En → Prop) → Prop
  | .own ds, e, Q => Q (.d (.lst ds)) e
  | .d d, e, Q => Q (.d d) e
  | .nam i, e, Q => Q (.nam i) e
  | _, _, _ => False
def HeldR (Γ : Gm) (κ : Ka) (H : Hp) (σ : Sl) (v : V) : R → Prop
  | .d d => Rep Γ.K Γ.cls κ H v d
  | .nam i => σ[i]? = some (some v)
  | _ => False
theorem HeldR.ext {r : R} (e : Ext κ H κ' H') (h : HeldR Γ κ H σ v r) : HeldR Γ κ' H' σ v r := by
  cases r with
  | d d => exact Rep.mono e h
  | nam i => exact h
  | _ => exact h.elim
theorem HeldR.rel {r : R} (h : HeldR Γ κ H σ v r) : RelR Γ κ H env σ v r := by
  cases r with
  | d d => exact h
  | nam i => exact h
  | _ => exact h.elim
/-- the sort of one address more -/
def put (κ : Ka) (a : Addr) (k : Kd) : Ka := fun b => if b = a then some k else κ b
theorem put_same {κ : Ka} {a : Addr} {k : Kd} : put κ a k a = some k := if_pos rfl
theorem put_ne {κ : Ka} {a b : Addr} {k : Kd} (h : b ≠ a) : put κ a k b = κ b := if_neg h
theorem Ext.put {a : Addr} {k : Kd} (h : κ a = none) : Ext κ H (put κ a k) H := by
  refine ⟨fun b x e => ?_, fun _ _ => rfl⟩
  rw [put_ne (fun z => by rw [z, h] at e; cases e)]
  exact e
theorem ObjR.ext {a : Addr} {so : SO} (e : Ext κ H κ' H') (ha : H' a = H a) (h : ObjR Γ κ H a so) : ObjR Γ κ' H' a so := by
  cases so with
  | lst ds => obtain ⟨vs, h1, h2, h3⟩ := h; exact ⟨vs, ha.trans h1, h2, h3.mono e⟩
  | dK ds => obtain ⟨vs, h1, h3⟩ := h; exact ⟨vs, ha.trans h1, h3.mono e⟩
  | dT ds => obtain ⟨vs, h1, h3⟩ := h; exact ⟨vs, ha.trans h1, h3.mono e⟩
  | ins c fs => obtain ⟨dx, vs, h1, h3⟩ := h; exact ⟨dx, vs, ha.trans h1, h3.mono e⟩
  | lk o vs kvs => exact ⟨ha.trans h.1, h.2.mono e⟩
theorem Gh.put_frz0 {st : Sto} {a : Addr} (g : Gh Γ κ st H) (h : κ a = none) (h0 : Γ.H0 a = none ∨ ∃ vs, Γ.H0 a = some (.tup vs)) (ht : H a ≠ none) : Gh Γ (put κ a .frz) st H := by
  have nk : Γ.k0 a = none := by
    cases q : Γ.k0 a with
    | none => rfl
    | some x => have := g.sub a x q; rw [h] at this; cases this
  have ne : ∀ b x, κ b = some x → b ≠ a := fun b x e z => by rw [z, h] at e; cases e
  refine ⟨fun b x e => (Ext.put (H := H) h).1 b x (g.sub b x e), fun b x e => ?_, fun b x e => ?_, g.trk0, fun b e => ?_, fun b k e => ?_, fun b c k e1 e2 => ?_, g.base, g.tabs.ext (Ext.put h) (fun _ _ => rfl) fun b e => by
    by_cases hb : b = a
    · subst hb; rw [put_same] at e; cases e
    · rw [put_ne hb] at e; exact e⟩
  · by_cases hb : b = a
    · subst hb; rw [put_same] at e; cases e; exact .inr (h0.imp id fun z => ⟨rfl, z⟩)
    · rw [put_ne hb] at e; exact g.new b x e
  · by_cases hb : b = a
    · subst hb; exact ht
    · rw [put_ne hb] at e; exact g.trk b x e
  · by_cases hb : b = a
    · subst hb; rw [put_same] at e; cases e
    · rw [put_ne hb] at e; exact g.box b e
  · by_cases hb : b = a
    · subst hb; rw [put_same] at e; cases e
    · rw [put_ne hb] at e
      obtain ⟨so, h1, h2⟩ := g.obj b k e
      exact ⟨so, h1, h2.ext (Ext.put h) rfl⟩
  · have hb : b ≠ a := fun z => by subst z; rw [put_same] at e1; cases e1
    have hc : c ≠ a := fun z => by subst z; rw [put_same] at e2; cases e2
    rw [put_ne hb] at e1
    rw [put_ne hc] at e2
    exact g.inj b c k e1 e2
theorem Gh.put_frz {st : Sto} {a : Addr} (g : Gh Γ κ st H) (h : κ a = none) (h0 : Γ.H0 a = none) (ht : H a ≠ none) : Gh Γ (put κ a .frz) st H := g.put_frz0 h (.inl h0) ht
theorem OwnC.ext {a : Addr} {c : C} (e : Ext κ H κ' H') (hk : κ' a = none) (ha : H' a = H a) (h : OwnC Γ κ H a c) : OwnC Γ κ' H' a c := by
  cases c with
  | own ds => obtain ⟨_, h0, vs, h1, h2, h3⟩ := h; exact ⟨hk, h0, vs, ha.trans h1, h2, h3.mono e⟩
  | dK ds => obtain ⟨_, h0, vs, h1, h3⟩ := h; exact ⟨hk, h0, vs, ha.trans h1, h3.mono e⟩
  | dT ds => obtain ⟨_, h0, vs, h1, h3⟩ := h; exact ⟨hk, h0, vs, ha.trans h1, h3.mono e⟩
  | _ => exact h.elim
theorem OwnC.facts {a : Addr} {c : C} (h : OwnC Γ κ H a c) : κ a = none ∧ Γ.H0 a = none ∧ H a ≠ none := by
  cases c with
  | own ds => obtain ⟨h, h0, vs, h1, _⟩ := h; exact ⟨h, h0, by rw [h1]; simp⟩
  | dK ds => obtain ⟨h, h0, vs, h1, _⟩ := h; exact ⟨h, h0, by rw [h1]; simp⟩
  | dT ds => obtain ⟨h, h0, vs, h1, _⟩ := h; exact ⟨h, h0, by rw [h1]; simp⟩
  | _ => exact h.elim
theorem RelS.own {o : Option (Option V)} {c : C} (h : RelS Γ κ H o c) (hc : c.isOwn = true) : ∃ a, o = some (some (.ref a)) ∧ OwnC Γ κ H a c := by
  cases c with
  | un => cases hc
  | d _ => cases hc
  | _ => exact h
theorem RelS.mk {o : Option (Option V)} {a : Addr} {c : C} (e : o = some (some (.ref a))) (h : OwnC Γ κ H a c) : RelS Γ κ H o c := by
  cases c with
  | un => exact h.elim
  | d _ => exact h.elim
  | _ => exact ⟨a, e, h⟩
theorem Rl.ownS {i : Nat} {a : Addr} (I : Rl Γ κ env σ H) (h : OwnS env σ i a) : ∃ c, env.sl[i]? = some c ∧ OwnC Γ κ H a c := by
  obtain ⟨e, c, e1, hc⟩ := h
  obtain ⟨b, e2, ho⟩ := (I.get e1).own hc
  rw [e] at e2
  cases e2
  exact ⟨c, e1, ho⟩
/-- THE STEP: the slots as they are -/
theorem OwnC.notTup {a : Addr} {c : C} {vs : List V} (h : OwnC Γ κ H a c) (e : H a = some (.tup vs)) : False := by
  cases c with
  | own ds => obtain ⟨_, _, ws, h1, _⟩ := h; rw [e] at h1; cases h1
  | dK ds => obtain ⟨_, _, ws, h1, _⟩ := h; rw [e] at h1; cases h1
  | dT ds => obtain ⟨_, _, ws, h1, _⟩ := h; rw [e] at h1; cases h1
  | _ => exact h.elim
theorem Rl.step {st' : Sto} (I : Rl Γ κ env σ H) (e : Ext κ H κ' H') (ho : ∀ i a, OwnS env σ i a → κ' a = none ∧ H' a = H a) (g : Gh Γ κ' st' H') : Rl Γ κ' ⟨env.sl, st'⟩ σ H' := by
  refine ⟨I.len, fun i c ec => ?_, fun i j a h1 h2 => I.dist i j a h1 h2, g⟩
  have s := I.get ec
  cases hc : c.isOwn with
  | true =>
    obtain ⟨a, e1, h⟩ := s.own hc
    obtain ⟨k1, k2⟩ := ho i a ⟨e1, c, ec, hc⟩
    exact .mk e1 (h.ext e k1 k2)
  | false =>
    cases c with
    | un => trivial
    | d d => obtain ⟨v, e1, r⟩ := s; exact ⟨v, e1, r.mono e⟩
    | _ => cases hc
/-- a fresh list becomes data -/
theorem Rl.put_frz {a : Addr} (I : Rl Γ κ env σ H) (h : κ a = none) (h0 : Γ.H0 a = none) (ht : H a ≠ none) (hs : ∀ i, ¬ OwnS env σ i a) : Rl Γ (put κ a .frz) env σ H :=
  I.step (Ext.put h) (fun i b hb => ⟨by rw [put_ne (fun z => hs i (by rw [← z]; exact hb))]; exact (I.ownS hb).elim fun c hc => hc.2.facts.1, rfl⟩) (I.gh.put_frz h h0 ht)
theorem hold_ok {r : R} {Q : R → En → Prop} {P : Prop} (I : Rl Γ κ env σ H) (h : RelR Γ κ H env σ v r) (q : hold r env Q)
    (k : ∀ κ' r', Ext κ H κ' H → Rl Γ κ' env σ H → HeldR Γ κ' H σ v r' → Q r' env → P) : P := by
  cases r with
  | d d => exact k κ (.d d) (.refl ..) I h q
  | nam i => exact k κ (.nam i) (.refl ..) I h q
  | own ds =>
    obtain ⟨a, rfl, ⟨h1, h2, vs, h3, h4, h5⟩, h6⟩ := h
    refine k (put κ a .frz) (.d (.lst ds)) (Ext.put h1) (I.put_frz h1 h2 (by rw [h3]; simp) h6) ?_ q
    exact .lst put_same h3 h4 (h5.mono (Ext.put h1))
  | dK _ => exact False.elim q
  | dT _ => exact False.elim q
/-- as data: a list of one's own is one's own no more -/
def En.setC (e : En) (i : Nat) (c : C) : En := ⟨e.sl.set i c, e.st⟩
def fz : R → En → (D → En → Prop) → Prop
  | .d d, e, Q => Q d e
  | .own ds, e, Q => Q (.lst ds) e
  | .dK kvs, e, Q => Q (.dck (kvs.map (·.1)) (kvs.map (·.2))) e
  | .dT kvs, e, Q => Q (.dct (kvs.map (·.1)) (kvs.map (·.2))) e
  | .nam i, e, Q => match e.sl[i]? with
    | some (.d d) => Q d e
    | some (.own ds) => Q (.lst ds) (e.setC i (.d (.lst ds)))
    | some (.dK kvs) => Q (.dck (kvs.map (·.1)) (kvs.map (·.2))) (e.setC i (.d (.dck (kvs.map (·.1)) (kvs.map (·.2)))))
    | some (.dT kvs) => Q (.dct (kvs.map (·.1)) (kvs.map (·.2))) (e.setC i (.d (.dct (kvs.map (·.1)) (kvs.map (·.2)))))
    | _ => False
/-- what stands at a slot becomes data -/
theorem frz_slot {i : Nat} {a : Addr} {c : C} {d : D} (I : Rl Γ κ env σ H) (h : σ[i]? = some (some (.ref a))) (qe : env.sl[i]? = some c) (hc : c.isOwn = true) (h1 : κ a = none) (h2 : Γ.H0 a = none) (ht : H a ≠ none) (rep : Rep Γ.K Γ.cls (put κ a .frz) H (.ref a) d) : Rl Γ (put κ a .frz) (env.setC i (.d d)) σ H := by
  have x : Ext κ H (put κ a .frz) H := Ext.put h1
  have own_i : OwnS env σ i a := ⟨h, _, qe, hc⟩
  have hi : i < env.sl.length := (List.getElem?_eq_some_iff.mp qe).1
  refine ⟨by rw [I.len]; simp [En.setC], fun j c ec => ?_, fun j l b o1 o2 => ?_, I.gh.put_frz h1 h2 ht⟩
  · by_cases hj : j = i
    · subst hj
      have ec : (env.sl.set j (C.d d))[j]? = some c := ec
      rw [List.getElem?_set_self hi] at ec
      cases ec
      exact ⟨_, h, rep⟩
    · have ec : (env.sl.set i (C.d d))[j]? = some c := ec
      rw [List.getElem?_set_ne (Ne.symm hj)] at ec
      have s := I.get ec
      cases hc : c.isOwn with
      | true =>
        obtain ⟨b, e1, hb⟩ := s.own hc
        have hba : b ≠ a := fun z => hj (I.dist j i a ⟨z ▸ e1, c, ec, hc⟩ own_i)
        exact .mk e1 (hb.ext x (by rw [put_ne hba]; exact hb.facts.1) rfl)
      | false =>
        cases c with
        | un => trivial
        | d d => obtain ⟨v, e1, r⟩ := s; exact ⟨v, e1, r.mono x⟩
        | _ => cases hc
  · have old : ∀ m, OwnS (env.setC i (.d d)) σ m b → OwnS env σ m b := fun m ⟨z1, c, z2, z3⟩ => by
      by_cases hm : m = i
      · subst hm
        have z2 : (env.sl.set m (C.d d))[m]? = some c := z2
        rw [List.getElem?_set_self hi] at z2
        cases z2
        cases z3
      · have z2 : (env.sl.set i (C.d d))[m]? = some c := z2
        rw [List.getElem?_set_ne (Ne.symm hm)] at z2
        exact ⟨z1, c, z2, z3⟩
    exact I.dist j l b (old j o1) (old l o2)
theorem dct_rep {a : Addr} {vs : List (List Key × V)} {kvs : List (List Key × D)} (h1 : κ a = none) (h3 : H a = some (.dT vs)) (h5 : PR Γ.K Γ.cls κ H vs kvs) : Rep Γ.K Γ.cls (put κ a .frz) H (.ref a) (.dct (kvs.map (·.1)) (kvs.map (·.2))) := by
  obtain ⟨e1, e2, e3⟩ := h5.split
  exact .dct put_same (by rw [← e1]; exact h3) e2 (e3.mono (Ext.put h1))
theorem dck_rep {a : Addr} {vs : List (Key × V)} {kvs : List (Key × D)} (h1 : κ a = none) (h3 : H a = some (.dK vs)) (h5 : PR Γ.K Γ.cls κ H vs kvs) : Rep Γ.K Γ.cls (put κ a .frz) H (.ref a) (.dck (kvs.map (·.1)) (kvs.map (·.2))) := by
  obtain ⟨e1, e2, e3⟩ := h5.split
  exact .dck put_same (by rw [← e1]; exact h3) e2 (e3.mono (Ext.put h1))
theorem fz_ok {r : R} {Q : D → En → Prop} {P : Prop} (I : Rl Γ κ env σ H) (h : RelR Γ κ H env σ v r) (q : fz r env Q)
    (k : ∀ κ' d env', Ext κ H κ' H → Rl Γ κ' env' σ H → Rep Γ.K Γ.cls κ' H v d → Q d env' → P) : P := by
  cases r with
  | d d => exact k κ _ _ (.refl ..) I h q
  | own ds =>
    obtain ⟨a, rfl, ⟨h1, h2, vs, h3, h4, h5⟩, h6⟩ := h
    refine k (put κ a .frz) (.lst ds) env (Ext.put h1) (I.put_frz h1 h2 (by rw [h3]; simp) h6) ?_ q
    exact .lst put_same h3 h4 (h5.mono (Ext.put h1))
  | dK ds =>
    obtain ⟨a, rfl, ⟨h1, h2, vs, h3, h5⟩, h6⟩ := h
    exact k (put κ a .frz) _ env (Ext.put h1) (I.put_frz h1 h2 (by rw [h3]; simp) h6) (dck_rep h1 h3 h5) q
  | dT ds =>
    obtain ⟨a, rfl, ⟨h1, h2, vs, h3, h5⟩, h6⟩ := h
    exact k (put κ a .frz) _ env (Ext.put h1) (I.put_frz h1 h2 (by rw [h3]; simp) h6) (dct_rep h1 h3 h5) q
  | nam i =>
    have h : σ[i]? = some (some v) := h
    unfold fz at q
    simp only at q
    cases qe : env.sl[i]? with
    | none => rw [qe] at q; exact False.elim q
    | some c =>
      have s := I.get qe
      rw [qe] at q
      cases c with
      | un => exact False.elim q
      | dK kvs =>
        obtain ⟨a, e1, h1, h2, vs, h3, h5⟩ := s
        rw [h] at e1
        cases e1
        have rep := dck_rep h1 h3 h5
        exact k (put κ a .frz) _ _ (Ext.put h1) (frz_slot I h qe rfl h1 h2 (by rw [h3]; simp) rep) rep q
      | dT kvs =>
        obtain ⟨a, e1, h1, h2, vs, h3, h5⟩ := s
        rw [h] at e1
        cases e1
        have rep := dct_rep h1 h3 h5
        exact k (put κ a .frz) _ _ (Ext.put h1) (frz_slot I h qe rfl h1 h2 (by rw [h3]; simp) rep) rep q
      | d d' =>
        obtain ⟨w, e1, r⟩ := s
        rw [h] at e1
        cases e1
        exact k κ _ _ (.refl ..) I r q
      | own ds =>
        obtain ⟨a, e1, h1, h2, vs, h3, h4, h5⟩ := s
        rw [h] at e1
        cases e1
        have rep : Rep Γ.K Γ.cls (put κ a .frz) H (.ref a) (.lst ds) := .lst put_same h3 h4 (h5.mono (Ext.put h1))
        exact k (put κ a .frz) _ _ (Ext.put h1) (frz_slot I h qe rfl h1 h2 (by rw [h3]; simp) rep) rep q
end
end Pu
set_option maxRecDepth 100000
set_option maxHeartbeats 4000000
namespace Pu
open PySem L2
section
variable {Γ : Gm} {κ κ' : Ka} {H H' : Hp} {env env' : En} {σ : Sl} {v : V} {st : Sto}
theorem Gh.nokap {a : Addr} (g : Gh Γ κ st H) (h : H a = none) : κ a = none := by
  cases q : κ a with
  | none => rfl
  | some x => exact absurd h (g.trk a x q)
theorem Gh.nokap0 {a : Addr} (g : Gh Γ κ st H) (h : H a = none) : Γ.H0 a = none := by
  cases q : Γ.H0 a with
  | none => rfl
  | some x => exact absurd h (g.trk0 a (by rw [q]; simp))
theorem Ext.upd_new {p : Addr} {o : HO} (g : Gh Γ κ st H) (h : H p = none) : Ext κ H κ (upd H p o) :=
  ⟨fun _ _ e => e, fun a e => upd_ne fun z => by rw [z] at e; rw [g.nokap h] at e; cases e⟩
/-- an unsorted address is laid or changed -/
theorem Ext.upd {p : Addr} {o : HO} (h : κ p = none) : Ext κ H κ (upd H p o) :=
  ⟨fun _ _ e => e, fun a e => upd_ne fun z => by rw [z, h] at e; cases e⟩
theorem Gh.upd {p : Addr} {o : HO} (g : Gh Γ κ st H) (h : κ p = none) (h0 : Γ.H0 p = none) : Gh Γ κ st (upd H p o) := by
  have ne : ∀ b x, κ b = some x → b ≠ p := fun b x e z => by rw [z, h] at e; cases e
  refine ⟨g.sub, g.new, fun b x e => ?_, fun b e => ?_, fun b e => ?_, fun b k e => ?_, g.inj, fun b u e hk => ?_, g.tabs.ext (Ext.upd h) (fun b e => upd_ne (ne b _ e)) fun _ e => e⟩
  · rw [upd_ne (ne b x e)]; exact g.trk b x e
  · by_cases hb : b = p
    · rw [hb, upd_same]; simp
    · rw [upd_ne hb]; exact g.trk0 b e
  · rw [upd_ne (ne b _ e)]; exact g.box b e
  · obtain ⟨so, h1, h2⟩ := g.obj b k e
    exact ⟨so, h1, h2.ext (Ext.upd h) (upd_ne (ne b _ e))⟩
  · rw [upd_ne (fun z => by rw [z, h0] at e; cases e)]; exact g.base b u e hk
theorem Rl.upd_new {p : Addr} {o : HO} (I : Rl Γ κ env σ H) (h : H p = none) : Rl Γ κ env σ (upd H p o) :=
  I.step (Ext.upd_new I.gh h) (fun i a ho => by
    obtain ⟨c, _, hc⟩ := I.ownS ho
    obtain ⟨f1, f2, f3⟩ := hc.facts
    exact ⟨f1, upd_ne fun z => f3 (z ▸ h)⟩) (I.gh.upd (I.gh.nokap h) (I.gh.nokap0 h))
theorem Rl.fresh {p : Addr} (I : Rl Γ κ env σ H) (h : H p = none) : ∀ i, ¬ OwnS env σ i p := fun i ho => by
  obtain ⟨c, _, hc⟩ := I.ownS ho
  exact hc.facts.2.2 h
theorem new_lst {p : Addr} {vs : List V} {ds : List D} (I : Rl Γ κ env σ H) (h : H p = none) (hl : vs.length ≤ sizeLine) (r : RepL Γ.K Γ.cls κ H vs ds) :
    RelR Γ κ (upd H p (.lst vs)) env σ (.ref p) (.own ds) :=
  ⟨p, rfl, ⟨I.gh.nokap h, I.gh.nokap0 h, vs, upd_same, hl, r.mono (Ext.upd_new I.gh h)⟩, I.fresh h⟩
theorem new_dK {p : Addr} {vs : List (Key × V)} {ds : List (Key × D)} (I : Rl Γ κ env σ H) (h : H p = none) (r : PR Γ.K Γ.cls κ H vs ds) :
    RelR Γ κ (upd H p (.dK vs)) env σ (.ref p) (.dK ds) :=
  ⟨p, rfl, ⟨I.gh.nokap h, I.gh.nokap0 h, vs, upd_same, r.mono (Ext.upd_new I.gh h)⟩, I.fresh h⟩
/-- a new tuple is data at once -/
theorem new_tup {p : Addr} {vs : List V} {ds : List D} (ho : ordL ds = false) (I : Rl Γ κ env σ H) (h : H p = none) (hl : vs.length ≤ sizeLine) (r : RepL Γ.K Γ.cls κ H vs ds) :
    Ext κ H (put κ p .frz) (upd H p (.tup vs)) ∧ Rl Γ (put κ p .frz) env σ (upd H p (.tup vs)) ∧ Rep Γ.K Γ.cls (put κ p .frz) (upd H p (.tup vs)) (.ref p) (.tup ds) := by
  have J := I.upd_new (o := .tup vs) h
  have k := I.gh.nokap h
  have e : Ext κ H (put κ p .frz) (upd H p (.tup vs)) := (Ext.upd_new I.gh h).trans (Ext.put k)
  exact ⟨e, J.put_frz k (I.gh.nokap0 h) (by rw [upd_same]; simp) (I.fresh h), .tup ho put_same upd_same hl (r.mono e)⟩
theorem new_tupF {p : Addr} {vs : List V} {ds : List D} {ob : Obj} (ho : ordL ds = true) (h5 : ob.dict = none) (h6 : ob.cls = .type "tuple") (I : Rl Γ κ env σ H) (h : H p = none) (hl : vs.length ≤ sizeLine) (r : RepL Γ.K Γ.cls κ H vs ds) :
    Ext κ H (put κ p .frz) (upd H p (.frz ob (.tup vs))) ∧ Rl Γ (put κ p .frz) env σ (upd H p (.frz ob (.tup vs))) ∧ Rep Γ.K Γ.cls (put κ p .frz) (upd H p (.frz ob (.tup vs))) (.ref p) (.tup ds) := by
  have J := I.upd_new (o := .frz ob (.tup vs)) h
  have k := I.gh.nokap h
  have e : Ext κ H (put κ p .frz) (upd H p (.frz ob (.tup vs))) := (Ext.upd_new I.gh h).trans (Ext.put k)
  exact ⟨e, J.put_frz k (I.gh.nokap0 h) (by rw [upd_same]; simp) (I.fresh h), .tupF ho h5 h6 put_same upd_same hl (r.mono e)⟩
/-- either way -/
theorem new_tupB {vs : List V} {ds : List D} {Q' : VK} (I : Rl Γ κ env σ H) (hl : vs.length ≤ sizeLine) (r : RepL Γ.K Γ.cls κ H vs ds)
    (k : ∀ κ' H' p, Ext κ H κ' H' → Rl Γ κ' env σ H' → Rep Γ.K Γ.cls κ' H' (.ref p) (.tup ds) → Q' (.ref p) H') : PuE.nT H vs Q' := by
  cases ho : ordL ds with
  | false =>
    refine .inl fun p hp => ?_
    obtain ⟨x1, I1, r1⟩ := new_tup ho I hp hl r
    exact k _ _ _ x1 I1 r1
  | true =>
    refine .inr fun p ob hp h5 h6 => ?_
    obtain ⟨x1, I1, r1⟩ := new_tupF ho h5 h6 I hp hl r
    exact k _ _ _ x1 I1 r1
/-- a rule by values carries a pure one -/
def OpRef (r : PySem.W.Frag → R2) (p : D → D → (R → Prop) → Prop) : Prop :=
  ∀ (Γ : Gm) (σ : Sl) (κ : Ka) (H : Hp) (env : En) (v u : V) (d e : D) (Q : R → Prop) (Q' : VK), Rl Γ κ env σ H → RepT Γ κ H v d → RepT Γ κ H u e → p d e Q →
    (∀ v' κ' H' r, Ext κ H κ' H' → Rl Γ κ' env σ H' → RelR Γ κ' H' env σ v' r → Q r → Q' v' H') → r Γ.K v u H Q'
def t2 (ta tb : PTE) (p : D → D → (R → Prop) → Prop) : PTE := fun x env Q => ta x env fun r1 e1 => hold r1 e1 fun r1 e1 => tb x e1 fun r2 e2 =>
  match rv r1 e2, rv r2 e2 with
  | some d1, some d2 => p d1 d2 (fun r => Q r e2)
  | _, _ => False
def t1 (ta : PTE) (p : D → (R → Prop) → Prop) : PTE := fun x env Q => ta x env fun r1 e1 =>
  match rv r1 e1 with
  | some d1 => p d1 (fun r => Q r e1)
  | _ => False
variable {Y : Fam} {a b : Expr} {ta tb : PTE} {pos : Pos}
/-- two expressions in a row, both read -/
theorem two_ref {ra rb : XK → TE} {p : D → D → (R → Prop) → Prop} {r : PySem.W.Frag → R2} (hr : OpRef r p)
    (fa : ∀ (Γ : Gm) (σ : Sl) (κ : Ka) (H : Hp) (env : En) (Q : R → En → Prop) (Q' : VK), GK Y Γ → Rl Γ κ env σ H → ta Γ.x env Q →
    (∀ v κ' H' r env', Ext κ H κ' H' → Rl Γ κ' env' σ H' → RelR Γ κ' H' env' σ v r → Q r env' → Q' v H') → ra Γ.E σ H Q')
    (fb : ∀ (Γ : Gm) (σ : Sl) (κ : Ka) (H : Hp) (env : En) (Q : R → En → Prop) (Q' : VK), GK Y Γ → Rl Γ κ env σ H → tb Γ.x env Q →
    (∀ v κ' H' r env', Ext κ H κ' H' → Rl Γ κ' env' σ H' → RelR Γ κ' H' env' σ v r → Q r env' → Q' v H') → rb Γ.E σ H Q')
    {Q : R → En → Prop} {Q' : VK} (hK : GK Y Γ) (I : Rl Γ κ env σ H) (q : t2 ta tb p Γ.x env Q)
    (k : ∀ v κ' H' r env', Ext κ H κ' H' → Rl Γ κ' env' σ H' → RelR Γ κ' H' env' σ v r → Q r env' → Q' v H') :
    ra Γ.E σ H fun x H1 => rb Γ.E σ H1 fun y H2 => r Y.K x y H2 Q' := by
  refine fa Γ σ κ H env _ _ hK I q fun v κ1 H1 r1 e1 x1 I1 h1 q1 => ?_
  refine hold_ok I1 h1 q1 fun κ2 r2 x2 I2 h2 q2 => ?_
  refine fb Γ σ κ2 H1 e1 _ _ hK I2 q2 fun u κ3 H3 r3 e3 x3 I3 h3 q3 => ?_
  have h2' : RelR Γ κ3 H3 e3 σ v r2 := (h2.ext x3).rel
  cases e1' : rv r2 e3 with
  | none => rw [e1'] at q3; exact False.elim q3
  | some d1 =>
    cases e2' : rv r3 e3 with
    | none => rw [e1', e2'] at q3; exact False.elim q3
    | some d2 =>
      rw [e1', e2'] at q3
      rw [← hK.k]
      exact hr Γ σ κ3 H3 e3 v u d1 d2 _ Q' I3 (rv_ok I3 h2' e1') (rv_ok I3 h3 e2') q3 fun v' κ' H' r x I' h' q' => k v' κ' H' r e3 (((x1.trans x2).trans x3).trans x) I' h' q'
theorem ve_op {op : Operator} {r : PySem.W.Frag → R2} {p : D → D → (R → Prop) → Prop} (ho : ∀ X : Cx, OpR X (binaryOp op) (r X.K)) (hr : OpRef r p) (ha : VE Y a ta) (hb : VE Y b tb) : VE Y (.BinOp a op b pos) (t2 ta tb p) := by
  obtain ⟨ra, pa, fa⟩ := ha.ex
  obtain ⟨rb, pb, fb⟩ := hb.ex
  refine ⟨⟨fun E => tOp (r Y.K) (ra E) (rb E), fun i => pe_op (by have := ho (Y.X i); rw [Y.hK i] at this; exact this) (pa i) (pb i), fun Γ σ κ H env Q Q' hK I q k => ?_⟩⟩
  exact two_ref hr fa fb hK I q k
theorem ve_cmp {op : CmpOp} {r : PySem.W.Frag → R2} {p : D → D → (R → Prop) → Prop} (ho : ∀ i, OpR (Y.X i) (compareOp op) (r (Y.X i).K)) (hr : OpRef r p) (ha : VE Y a ta) (hb : VE Y b tb) (hm : behindInMarks op b = false) : VE Y (.Compare a [op] [b] pos) (t2 ta tb p) := by
  obtain ⟨ra, pa, fa⟩ := ha.ex
  obtain ⟨rb, pb, fb⟩ := hb.ex
  refine ⟨⟨fun E => tOp (r Y.K) (ra E) (rb E), fun i => pe_cmpR (by have := ho i; rw [Y.hK i] at this; exact this) (pa i) (pb i) hm, fun Γ σ κ H env Q Q' hK I q k => ?_⟩⟩
  exact two_ref hr fa fb hK I q k
/-- a bool as a test -/
def tB (t : PTE) : PTT := fun x env Q => t x env fun r e => match rv r e with
  | some (.bl b) => Q b e
  | _ => False
theorem vt_val {e : Expr} {t : PTE} (h : VE Y e t) (he : ∀ (X : Cx) whole, isTrue e X.env whole = (do let v ← whole; standAt e.pos; holding [v] (truthy v)) := by intro _ _; rfl) : VT Y e (tB t) := by
  obtain ⟨ra, pa, fa⟩ := h.ex
  refine ⟨⟨fun E => L2.tB (ra E), fun i => pt_val (pa i) (he _), fun Γ σ κ H env Q Q' hK I q k => ?_⟩⟩
  refine fa Γ σ κ H env _ _ hK I q fun v κ1 H1 r1 e1 x1 I1 h1 q1 => ?_
  cases e1' : rv r1 e1 with
  | none => rw [e1'] at q1; exact False.elim q1
  | some d =>
    rw [e1'] at q1
    have rt := rv_ok I1 h1 e1'
    cases d with
    | bl b => cases rt; exact ⟨b, rfl, k b κ1 H1 e1 x1 I1 q1⟩
    | _ => exact False.elim q1
theorem vt_cmp {op : CmpOp} {r : PySem.W.Frag → R2} {p : D → D → (R → Prop) → Prop} (ho : ∀ i, OpR (Y.X i) (compareOp op) (r (Y.X i).K)) (hr : OpRef r p) (ha : VE Y a ta) (hb : VE Y b tb) (hm : behindInMarks op b = false) : VT Y (.Compare a [op] [b] pos) (tB (t2 ta tb p)) := by
  obtain ⟨ra, pa, fa⟩ := ha.ex
  obtain ⟨rb, pb, fb⟩ := hb.ex
  refine ⟨⟨fun E => tTest (tOp (r Y.K) (ra E) (rb E)), fun i => pt_cmpR (by have := ho i; rw [Y.hK i] at this; exact this) (pa i) (pb i) hm, fun Γ σ κ H env Q Q' hK I q k => ?_⟩⟩
  refine two_ref hr fa fb hK I q fun v κ1 H1 r1 e1 x1 I1 h1 q1 => ?_
  cases e1' : rv r1 e1 with
  | none => rw [e1'] at q1; exact False.elim q1
  | some d =>
    rw [e1'] at q1
    have rt := rv_ok I1 h1 e1'
    cases d with
    | bl b => cases rt; exact ⟨b, rfl, k b κ1 H1 e1 x1 I1 q1⟩
    | _ => exact False.elim q1
def tName (i : Nat) : PTE := fun _ env Q => match env.sl[i]? with
  | some (.d d) => Q (.d d) env
  | some .un => False
  | none => False
  | some _ => Q (.nam i) env
theorem ve_name (i : Nat) {x : Str} (hN : ∀ j, (Y.X j).N[i]? = some x := by intro _; rfl) (hv : ∀ j, Vis (Y.X j).env.scope x := by first | exact fun _ => Or.inl rfl | exact fun _ => Or.inr (Or.inl rfl) | exact fun _ => Or.inr (Or.inr rfl))
    (hd : (x == ("__debug__" : Str)) = false := by decide) (hcd : (x == ("__classdict__" : Str)) = false := by decide) : VE Y (.Name x pos) (tName i) := by
  refine ⟨⟨fun _ => tVar i, fun j => pe_var (hN j) (hv j) hd hcd, fun Γ σ κ H env Q Q' hK I q k => ?_⟩⟩
  unfold tName at q
  cases e : env.sl[i]? with
  | none => rw [e] at q; exact False.elim q
  | some c =>
    have s := I.get e
    rw [e] at q
    cases c with
    | un => exact False.elim q
    | d d => obtain ⟨v, e1, r⟩ := s; exact ⟨v, e1, k v κ H (.d d) env (.refl ..) I r q⟩
    | own ds => obtain ⟨a, e1, r⟩ := s; exact ⟨.ref a, e1, k _ κ H (.nam i) env (.refl ..) I e1 q⟩
    | dK ds => obtain ⟨a, e1, r⟩ := s; exact ⟨.ref a, e1, k _ κ H (.nam i) env (.refl ..) I e1 q⟩
    | dT ds => obtain ⟨a, e1, r⟩ := s; exact ⟨.ref a, e1, k _ κ H (.nam i) env (.refl ..) I e1 q⟩
def tD (d : D) : PTE := fun _ env Q => Q (.d d) env
theorem ve_int {i j} : VE Y (.Constant (.int i) j pos) (tD (.int i)) := ⟨⟨fun _ => tC (.int i), fun _ => pe_int, fun Γ σ κ H env Q Q' hK I q k => k _ κ H (.d (.int i)) env (.refl ..) I (.int i) q⟩⟩
theorem ve_bl {i j} : VE Y (.Constant (.bool i) j pos) (tD (.bl i)) := ⟨⟨fun _ => tC (.bl i), fun _ => pe_bl, fun Γ σ κ H env Q Q' hK I q k => k _ κ H (.d (.bl i)) env (.refl ..) I (.bl i) q⟩⟩
theorem ve_str (l : List Nat) {x : Str} {j} (hx : x = ⟨l.toArray⟩ := by decide +kernel) (hl : SOk l := by decide +kernel) : VE Y (.Constant (.str x) j pos) (tD (.str l)) := by
  subst hx
  exact ⟨⟨fun _ => tC (.str ⟨l.toArray⟩), fun _ => pe_str, fun Γ σ κ H env Q Q' hK I q k => k _ κ H (.d (.str l)) env (.refl ..) I (.str l hl) q⟩⟩
/-- a text that the top has bound -/
theorem ve_globS (l : List Nat) {x y : Str} {t : Tok} (hm : ∀ i, (Y.X i).mg x = some (.str y t)) (hg : ∀ i, Gl (Y.X i) x := by intro _; rfl) (hy : y = ⟨l.toArray⟩ := by decide +kernel) (hl : SOk l := by decide +kernel) (hd : (x == ("__debug__" : Str)) = false := by decide) :
    VE Y (.Name x pos) (tD (.str l)) := by
  subst hy
  exact ⟨⟨fun _ => tC (.str ⟨l.toArray⟩), fun i => pe_glob (hg i) (hm i) ⟨_, rfl⟩ hd, fun Γ σ κ H env Q Q' hK I q k => k _ κ H (.d (.str l)) env (.refl ..) I (.str l hl) q⟩⟩
theorem ve_globI {x : Str} {n : Int} {t : Tok} (hm : ∀ i, (Y.X i).mg x = some (.int n t)) (hg : ∀ i, Gl (Y.X i) x := by intro _; rfl) (hd : (x == ("__debug__" : Str)) = false := by decide) :
    VE Y (.Name x pos) (tD (.int n)) :=
  ⟨⟨fun _ => tC (.int n), fun i => pe_glob (hg i) (hm i) ⟨_, rfl⟩ hd, fun Γ σ κ H env Q Q' hK I q k => k _ κ H (.d (.int n)) env (.refl ..) I (.int n) q⟩⟩
def pAdd (d e : D) (Q : R → Prop) : Prop := match d, e with
  | .int i, .int j => Q (.d (.int (i + j)))
  | .str s, .str t => s.length + t.length ≤ sizeLine ∧ Q (.d (.str (s ++ t)))
  | .lst xs, .lst ys => xs.length + ys.length ≤ sizeLine ∧ Q (.own (xs ++ ys))
  | .tup xs, .tup ys => xs.length + ys.length ≤ sizeLine ∧ Q (.d (.tup (xs ++ ys)))
  | _, _ => False
def rStrAdd : R2 := fun x y H Q => ∃ i j, x = .str i ∧ y = .str j ∧ i.length + j.length ≤ sizeLine ∧ Q (.str (i ++ j)) H
def rAddAll (K : PySem.W.Frag) : R2 := fun x y H Q => rI0 (fun i j => .int (i + j)) x y H Q ∨ rStrAdd x y H Q ∨ rCat x y H Q ∨ PuE.rCatTB K x y H Q
theorem op_addAll (X : Cx) : OpR X (binaryOp .Add) (rAddAll X.K) := OpR.or op_add (OpR.or op_add_str (OpR.or op_cat PuE.op_catB))
theorem str_add (s t : List Nat) : ((⟨s.toArray⟩ : Str) ++ (⟨t.toArray⟩ : Str)) = ⟨(s ++ t).toArray⟩ := by
  show Str.append _ _ = _
  unfold Str.append
  simp
theorem str_len (s : List Nat) : (⟨s.toArray⟩ : Str).length = s.length := by
  unfold Str.length
  simp
theorem Rep.strE {K : PySem.W.Frag} {cl : Cl} {s : List Nat} (h : Rep K cl κ H v (.str s)) : v = .str ⟨s.toArray⟩ ∧ SOk s := by cases h with | str _ h => exact ⟨rfl, h⟩
theorem Rep.sqT {K : PySem.W.Frag} {cl : Cl} {ds : List D} (h : Rep K cl κ H v (.tup ds)) : ∃ a vs, v = .ref a ∧ SqT K H a vs ∧ vs.length ≤ sizeLine ∧ RepL K cl κ H vs ds := by
  cases h with
  | tup _ _ h1 h2 h3 => exact ⟨_, _, rfl, SqT.of h1, h2, h3⟩
  | tupF _ _ _ _ h1 h2 h3 => exact ⟨_, _, rfl, .inl (.inr ⟨_, h1⟩), h2, h3⟩
theorem SOk.append {s t : List Nat} (h : SOk s) (g : SOk t) (q : s.length + t.length ≤ sizeLine) : SOk (s ++ t) :=
  ⟨by rw [List.length_append]; exact q, fun c hc => (List.mem_append.mp hc).elim (h.2 c) (g.2 c)⟩
theorem ref_add : OpRef rAddAll pAdd := by
  intro Γ σ κ H env v u d e Q Q' I hd he q k
  cases d with
  | int i =>
    cases e with
    | int j => cases hd; cases he; exact .inl ⟨i, j, rfl, rfl, k _ κ H (.d (.int (i + j))) (.refl ..) I (.int _) q⟩
    | _ => exact False.elim q
  | str s =>
    cases e with
    | str t =>
      obtain ⟨rfl, h1⟩ := hd.strE
      obtain ⟨rfl, h2⟩ := he.strE
      refine .inr (.inl ⟨_, _, rfl, rfl, by rw [str_len, str_len]; exact q.1, ?_⟩)
      rw [str_add]
      exact k _ κ H (.d (.str (s ++ t))) (.refl ..) I (.str _ (h1.append h2 q.1)) q.2
    | _ => exact False.elim q
  | lst xs =>
    cases e with
    | lst ys =>
      obtain ⟨a, vs, rfl, h1, h2, h3⟩ := hd
      obtain ⟨b, ws, rfl, g1, g2, g3⟩ := he
      refine .inr (.inr (.inl ⟨a, b, vs, ws, rfl, rfl, h1, g1, by rw [h3.length, g3.length]; exact q.1, fun p hp => ?_⟩))
      refine k _ κ _ (.own (xs ++ ys)) (Ext.upd_new I.gh hp) (I.upd_new hp) (new_lst I hp (by rw [List.length_append, h3.length, g3.length]; exact q.1) (h3.append g3)) q.2
    | _ => exact False.elim q
  | tup xs =>
    cases e with
    | tup ys =>
      obtain ⟨a, vs, rfl, h1, h2, h3⟩ := Rep.sqT hd
      obtain ⟨b, ws, rfl, g1, g2, g3⟩ := Rep.sqT he
      have hl : vs.length + ws.length ≤ sizeLine := by rw [h3.length, g3.length]; exact q.1
      refine .inr (.inr (.inr ⟨a, b, vs, ws, rfl, rfl, h1, g1, hl, fun z => ?_, fun _ z => ?_, fun _ _ => ?_⟩))
      · subst z
        have e : xs = [] := List.eq_nil_of_length_eq_zero (by rw [← h3.length]; rfl)
        subst e
        have q := q.2
        exact k _ κ H (.d (.tup ys)) (.refl ..) I he q
      · subst z
        have e : ys = [] := List.eq_nil_of_length_eq_zero (by rw [← g3.length]; rfl)
        subst e
        have q := q.2
        rw [List.append_nil] at q
        exact k _ κ H (.d (.tup xs)) (.refl ..) I hd q
      · exact new_tupB I (by rw [List.length_append]; exact hl) (h3.append g3) fun κ' H' p x1 I1 r1 => k _ _ _ (.d (.tup (xs ++ ys))) x1 I1 r1 q.2
    | _ => exact False.elim q
  | _ => exact False.elim q
theorem ve_add (ha : VE Y a ta) (hb : VE Y b tb) : VE Y (.BinOp a .Add b pos) (t2 ta tb pAdd) := ve_op op_addAll ref_add ha hb
/-- two ints -/
def pI (C : Int → Int → Prop) (f : Int → Int → D) (d e : D) (Q : R → Prop) : Prop := match d, e with
  | .int i, .int j => C i j ∧ Q (.d (f i j))
  | _, _ => False
theorem ref_I {C : Int → Int → Prop} {f : Int → Int → Int} : OpRef (fun _ => rI C fun i j => .int (f i j)) (pI C fun i j => .int (f i j)) := by
  intro Γ σ κ H env v u d e Q Q' I hd he q k
  cases d with
  | int i =>
    cases e with
    | int j => cases hd; cases he; exact ⟨i, j, rfl, rfl, q.1, k _ κ H (.d (.int (f i j))) (.refl ..) I (.int _) q.2⟩
    | _ => exact False.elim q
  | _ => exact False.elim q
theorem ref_I0 {f : Int → Int → Int} : OpRef (fun _ => rI0 fun i j => .int (f i j)) (pI (fun _ _ => True) fun i j => .int (f i j)) := by
  intro Γ σ κ H env v u d e Q Q' I hd he q k
  cases d with
  | int i =>
    cases e with
    | int j => cases hd; cases he; exact ⟨i, j, rfl, rfl, k _ κ H (.d (.int (f i j))) (.refl ..) I (.int _) q.2⟩
    | _ => exact False.elim q
  | _ => exact False.elim q
theorem ve_sub (ha : VE Y a ta) (hb : VE Y b tb) : VE Y (.BinOp a .Sub b pos) (t2 ta tb (pI (fun _ _ => True) fun i j => .int (i - j))) := ve_op (fun _ => op_sub) ref_I0 ha hb
theorem ve_mod (ha : VE Y a ta) (hb : VE Y b tb) : VE Y (.BinOp a .Mod b pos) (t2 ta tb (pI (fun _ j => 0 < j) fun i j => .int (i % j))) := ve_op (fun _ => op_mod) ref_I ha hb
theorem ve_fdiv (ha : VE Y a ta) (hb : VE Y b tb) : VE Y (.BinOp a .FloorDiv b pos) (t2 ta tb (pI CDivW fun i j => .int (i / j))) := ve_op (fun _ => op_fdivW) ref_I ha hb
theorem ve_pow (ha : VE Y a ta) (hb : VE Y b tb) : VE Y (.BinOp a .Pow b pos) (t2 ta tb (pI CPow fun i j => .int (i ^ j.toNat))) := ve_op (fun _ => op_pow) ref_I ha hb
end
end Pu
set_option maxRecDepth 100000
set_option maxHeartbeats 4000000
namespace Pu
open PySem L2
mutual
def D.py : D → PyData
  | .non => .none
  | .bl b => .bool b
  | .int i => .int i
  | .str s => .str ⟨s.toArray⟩
  | .lst ds => .list (D.pyL ds)
  | .tup ds => .tuple (D.pyL ds)
  | .scr _ => .none
  | .box => .none
  | .ref _ => .none
  | .cls _ => .none
  | .exc _ _ _ => .none
  | .dct _ _ => .none
  | .dck _ _ => .none
  | .dcn _ _ => .none
def D.pyL : List D → List PyData
  | [] => []
  | d :: ds => d.py :: D.pyL ds
end
mutual
/-- no object within, not too deep -/
def D.ok : D → Nat → Bool
  | .non, _ => true
  | .bl _, _ => true
  | .int _, _ => true
  | .str _, _ => true
  | .lst ds, n + 1 => D.okL ds n
  | .tup ds, n + 1 => D.okL ds n
  | .lst _, 0 => false
  | .tup _, 0 => false
  | .scr _, _ => false
  | .box, _ => false
  | .ref _, _ => false
  | .cls _, _ => false
  | .exc _ _ _, _ => false
  | .dct _ _, _ => false
  | .dck _ _, _ => false
  | .dcn _ _, _ => false
def D.okL : List D → Nat → Bool
  | [], _ => true
  | d :: ds, n => d.ok n && D.okL ds n
end
mutual
def D.eq : D → D → Bool
  | .non, .non => true
  | .bl a, .bl b => a == b
  | .bl a, .int j => (if a then 1 else 0) == j
  | .int i, .bl b => i == (if b then 1 else 0)
  | .int i, .int j => i == j
  | .str x, .str y => x == y
  | .lst xs, .lst ys => D.eqL xs ys
  | .tup xs, .tup ys => D.eqL xs ys
  | _, _ => false
def D.eqL : List D → List D → Bool
  | [], [] => true
  | x :: xs, y :: ys => D.eq x y && D.eqL xs ys
  | _, _ => false
end
theorem str_beq (x y : List Nat) : ((⟨x.toArray⟩ : Str) == (⟨y.toArray⟩ : Str)) = (x == y) := by
  by_cases h : x = y
  · subst h; simp
  · have h2 : ¬ (⟨x.toArray⟩ : Str) = ⟨y.toArray⟩ := fun z => h (by injection z with z; simpa using z)
    rw [beq_eq_false_iff_ne.mpr h, beq_eq_false_iff_ne.mpr h2]
mutual
theorem D.eqv_eq : ∀ (d e : D) (n m : Nat), d.ok n = true → e.ok m = true → PyData.eqv d.py e.py = D.eq d e
  | .lst xs, .lst ys, n + 1, m + 1, h, g => by
    simp only [D.py, PyData.eqv, D.eq]
    exact D.eqvL_eq xs ys n m (by simpa [D.ok] using h) (by simpa [D.ok] using g)
  | .tup xs, .tup ys, n + 1, m + 1, h, g => by
    simp only [D.py, PyData.eqv, D.eq]
    exact D.eqvL_eq xs ys n m (by simpa [D.ok] using h) (by simpa [D.ok] using g)
  | .str x, .str y, _, _, _, _ => by simp only [D.py, PyData.eqv, D.eq, str_beq]
  | .lst _, _, 0, _, h, _ => by simp [D.ok] at h
  | .tup _, _, 0, _, h, _ => by simp [D.ok] at h
  | _, .lst _, _, 0, _, h => by simp [D.ok] at h
  | _, .tup _, _, 0, _, h => by simp [D.ok] at h
  | .scr _, _, _, _, h, _ => by simp [D.ok] at h
  | .box, _, _, _, h, _ => by simp [D.ok] at h
  | .ref _, _, _, _, h, _ => by simp [D.ok] at h
  | .cls _, _, _, _, h, _ => by simp [D.ok] at h
  | .exc _ _ _, _, _, _, h, _ => by simp [D.ok] at h
  | .dct _ _, _, _, _, h, _ => by simp [D.ok] at h
  | .dck _ _, _, _, _, h, _ => by simp [D.ok] at h
  | .dcn _ _, _, _, _, h, _ => by simp [D.ok] at h
  | _, .scr _, _, _, _, h => by simp [D.ok] at h
  | _, .box, _, _, _, h => by simp [D.ok] at h
  | _, .ref _, _, _, _, h => by simp [D.ok] at h
  | _, .cls _, _, _, _, h => by simp [D.ok] at h
  | _, .exc _ _ _, _, _, _, h => by simp [D.ok] at h
  | _, .dct _ _, _, _, _, h => by simp [D.ok] at h
  | _, .dck _ _, _, _, _, h => by simp [D.ok] at h
  | _, .dcn _ _, _, _, _, h => by simp [D.ok] at h
  | .non, .non, _, _, _, _ => by simp only [D.py, PyData.eqv, D.eq]
  | .non, .bl _, _, _, _, _ => by simp only [D.py, PyData.eqv, D.eq]
  | .non, .int _, _, _, _, _ => by simp only [D.py, PyData.eqv, D.eq]
  | .non, .str _, _, _, _, _ => by simp only [D.py, PyData.eqv, D.eq]
  | .non, .lst _, _, _ + 1, _, _ => by simp only [D.py, PyData.eqv, D.eq]
  | .non, .tup _, _, _ + 1, _, _ => by simp only [D.py, PyData.eqv, D.eq]
  | .bl _, .non, _, _, _, _ => by simp only [D.py, PyData.eqv, D.eq]
  | .bl _, .bl _, _, _, _, _ => by simp only [D.py, PyData.eqv, D.eq]
  | .bl _, .int _, _, _, _, _ => by simp only [D.py, PyData.eqv, D.eq]
  | .bl _, .str _, _, _, _, _ => by simp only [D.py, PyData.eqv, D.eq]
  | .bl _, .lst _, _, _ + 1, _, _ => by simp only [D.py, PyData.eqv, D.eq]
  | .bl _, .tup _, _, _ + 1, _, _ => by simp only [D.py, PyData.eqv, D.eq]
  | .int _, .non, _, _, _, _ => by simp only [D.py, PyData.eqv, D.eq]
  | .int _, .bl _, _, _, _, _ => by simp only [D.py, PyData.eqv, D.eq]
  | .int _, .int _, _, _, _, _ => by simp only [D.py, PyData.eqv, D.eq]
  | .int _, .str _, _, _, _, _ => by simp only [D.py, PyData.eqv, D.eq]
  | .int _, .lst _, _, _ + 1, _, _ => by simp only [D.py, PyData.eqv, D.eq]
  | .int _, .tup _, _, _ + 1, _, _ => by simp only [D.py, PyData.eqv, D.eq]
  | .str _, .non, _, _, _, _ => by simp only [D.py, PyData.eqv, D.eq]
  | .str _, .bl _, _, _, _, _ => by simp only [D.py, PyData.eqv, D.eq]
  | .str _, .int _, _, _, _, _ => by simp only [D.py, PyData.eqv, D.eq]
  | .str _, .lst _, _, _ + 1, _, _ => by simp only [D.py, PyData.eqv, D.eq]
  | .str _, .tup _, _, _ + 1, _, _ => by simp only [D.py, PyData.eqv, D.eq]
  | .lst _, .non, _ + 1, _, _, _ => by simp only [D.py, PyData.eqv, D.eq]
  | .lst _, .bl _, _ + 1, _, _, _ => by simp only [D.py, PyData.eqv, D.eq]
  | .lst _, .int _, _ + 1, _, _, _ => by simp only [D.py, PyData.eqv, D.eq]
  | .lst _, .str _, _ + 1, _, _, _ => by simp only [D.py, PyData.eqv, D.eq]
  | .lst _, .tup _, _ + 1, _ + 1, _, _ => by simp only [D.py, PyData.eqv, D.eq]
  | .tup _, .non, _ + 1, _, _, _ => by simp only [D.py, PyData.eqv, D.eq]
  | .tup _, .bl _, _ + 1, _, _, _ => by simp only [D.py, PyData.eqv, D.eq]
  | .tup _, .int _, _ + 1, _, _, _ => by simp only [D.py, PyData.eqv, D.eq]
  | .tup _, .str _, _ + 1, _, _, _ => by simp only [D.py, PyData.eqv, D.eq]
  | .tup _, .lst _, _ + 1, _ + 1, _, _ => by simp only [D.py, PyData.eqv, D.eq]
theorem D.eqvL_eq : ∀ (xs ys : List D) (n m : Nat), D.okL xs n = true → D.okL ys m = true → PyData.eqvAll (D.pyL xs) (D.pyL ys) = D.eqL xs ys
  | [], [], _, _, _, _ => by simp only [D.pyL, PyData.eqvAll, D.eqL]
  | [], _ :: _, _, _, _, _ => by simp only [D.pyL, PyData.eqvAll, D.eqL]
  | _ :: _, [], _, _, _, _ => by simp only [D.pyL, PyData.eqvAll, D.eqL]
  | x :: xs, y :: ys, n, m, h, g => by
    simp only [D.okL, Bool.and_eq_true] at h g
    simp only [D.pyL, PyData.eqvAll, D.eqL]
    rw [D.eqv_eq x y n m h.1 g.1, D.eqvL_eq xs ys n m h.2 g.2]
end
mutual
theorem D.ok_depth : ∀ (d : D) (n : Nat), d.ok n = true → d.py.depth ≤ n
  | .lst xs, n + 1, h => by
    simp only [D.py, PyData.depth]
    have := D.okL_depth xs n (by simpa [D.ok] using h)
    omega
  | .tup xs, n + 1, h => by
    simp only [D.py, PyData.depth]
    have := D.okL_depth xs n (by simpa [D.ok] using h)
    omega
  | .lst _, 0, h => by simp [D.ok] at h
  | .tup _, 0, h => by simp [D.ok] at h
  | .non, _, _ => by simp [D.py, PyData.depth]
  | .bl _, _, _ => by simp [D.py, PyData.depth]
  | .int _, _, _ => by simp [D.py, PyData.depth]
  | .str _, _, _ => by simp [D.py, PyData.depth]
  | .scr _, _, _ => by simp [D.py, PyData.depth]
  | .box, _, _ => by simp [D.py, PyData.depth]
  | .ref _, _, _ => by simp [D.py, PyData.depth]
  | .cls _, _, _ => by simp [D.py, PyData.depth]
  | .exc _ _ _, _, _ => by simp [D.py, PyData.depth]
  | .dct _ _, _, _ => by simp [D.py, PyData.depth]
  | .dck _ _, _, _ => by simp [D.py, PyData.depth]
  | .dcn _ _, _, _ => by simp [D.py, PyData.depth]
theorem D.okL_depth : ∀ (xs : List D) (n : Nat), D.okL xs n = true → PyData.depthAll (D.pyL xs) ≤ n
  | [], _, _ => by simp [D.pyL, PyData.depthAll]
  | x :: xs, n, h => by
    simp only [D.okL, Bool.and_eq_true] at h
    simp only [D.pyL, PyData.depthAll]
    have h1 := D.ok_depth x n h.1
    have h2 := D.okL_depth xs n h.2
    omega
end
theorem strOk_of {l : List Nat} (h : SOk l) : PyData.strOk ⟨l.toArray⟩ = true := by
  unfold PyData.strOk
  simp only [List.all_toArray, List.all_eq_true, decide_eq_true_eq]
  exact h.2
section
variable {K : PySem.W.Frag} {cl : Cl} {κ : Ka} {H : Hp}
mutual
theorem Rep.dp : ∀ {d : D} {v : V} {n : Nat}, Rep K cl κ H v d → d.ok n = true → Dp K H v d.py ∧ d.py.canLay0 = true
  | .non, _, _, h, _ => by cases h; exact ⟨.non, rfl⟩
  | .bl b, _, _, h, _ => by cases h; exact ⟨.bl b, rfl⟩
  | .int i, _, _, h, _ => by cases h; exact ⟨.int i, rfl⟩
  | .str l, _, _, h, _ => by
    obtain ⟨rfl, hl⟩ := h.strE
    exact ⟨.str _, by simp only [D.py, PyData.canLay0]; exact strOk_of hl⟩
  | .lst ds, _, n + 1, h, ok => by
    cases h with
    | lst h1 h2 h3 h4 =>
      obtain ⟨g1, g2⟩ := RepL.dp (n := n) h4 (by simpa [D.ok] using ok)
      exact ⟨.lst (SqL.of h2) g1, by simp only [D.py, PyData.canLay0]; exact g2⟩
  | .tup ds, _, n + 1, h, ok => by
    obtain ⟨a, vs, rfl, h2, h3, h4⟩ := h.sqT
    obtain ⟨g1, g2⟩ := RepL.dp (n := n) h4 (by simpa [D.ok] using ok)
    exact ⟨.tup h2 g1, by simp only [D.py, PyData.canLay0]; exact g2⟩
  | .lst _, _, 0, _, ok => by simp [D.ok] at ok
  | .tup _, _, 0, _, ok => by simp [D.ok] at ok
  | .scr _, _, _, _, ok => by simp [D.ok] at ok
  | .box, _, _, _, ok => by simp [D.ok] at ok
  | .ref _, _, _, _, ok => by simp [D.ok] at ok
  | .cls _, _, _, _, ok => by simp [D.ok] at ok
  | .exc _ _ _, _, _, _, ok => by simp [D.ok] at ok
  | .dct _ _, _, _, _, ok => by simp [D.ok] at ok
  | .dck _ _, _, _, _, ok => by simp [D.ok] at ok
  | .dcn _ _, _, _, _, ok => by simp [D.ok] at ok
theorem RepL.dp : ∀ {ds : List D} {vs : List V} {n : Nat}, RepL K cl κ H vs ds → D.okL ds n = true → DpAll K H vs (D.pyL ds) ∧ PyData.canLayAll0 (D.pyL ds) = true
  | [], _, _, h, _ => by cases h; exact ⟨.nil, rfl⟩
  | d :: ds, _, n, h, ok => by
    cases h with
    | cons h1 h2 =>
      simp only [D.okL, Bool.and_eq_true] at ok
      obtain ⟨a1, a2⟩ := Rep.dp h1 ok.1
      obtain ⟨b1, b2⟩ := RepL.dp h2 ok.2
      exact ⟨.cons a1 b1, by simp only [D.pyL, PyData.canLayAll0]; rw [a2, b2]; rfl⟩
end
end
section
variable {Γ : Gm} {κ κ' : Ka} {H H' : Hp} {env env' : En} {σ : Sl} {v : V} {st : Sto}
theorem RepT.dp {d : D} (h : RepT Γ κ H v d) (ok : d.ok 64 = true) : Dp Γ.K H v d.py ∧ SeqAt.shaped d.py = true := by
  have key : Dp Γ.K H v d.py ∧ d.py.canLay0 = true := by
    cases d with
    | lst ds =>
      obtain ⟨a, vs, rfl, h1, h2, h3⟩ := h
      obtain ⟨g1, g2⟩ := RepL.dp (n := 63) h3 (by simpa [D.ok] using ok)
      exact ⟨.lst (SqL.of h1) g1, by simp only [D.py, PyData.canLay0]; exact g2⟩
    | _ => exact Rep.dp h ok
  refine ⟨key.1, ?_⟩
  unfold SeqAt.shaped
  rw [key.2, decide_eq_true (D.ok_depth d 64 ok)]
  rfl
def pEq (d e : D) (Q : R → Prop) : Prop := d.ok 64 = true ∧ e.ok 64 = true ∧ Q (.d (.bl (D.eq d e)))
def pNe (d e : D) (Q : R → Prop) : Prop := d.ok 64 = true ∧ e.ok 64 = true ∧ Q (.d (.bl (!D.eq d e)))
theorem ref_eq : OpRef rEqD pEq := by
  intro Γ σ κ H env v u d e Q Q' I hd he q k
  obtain ⟨a1, a2⟩ := hd.dp q.1
  obtain ⟨b1, b2⟩ := he.dp q.2.1
  refine ⟨_, _, a1, b1, a2, b2, ?_⟩
  rw [D.eqv_eq d e 64 64 q.1 q.2.1]
  exact k _ κ H (.d (.bl (D.eq d e))) (.refl ..) I (.bl _) q.2.2
theorem ref_ne : OpRef rNeD pNe := by
  intro Γ σ κ H env v u d e Q Q' I hd he q k
  obtain ⟨a1, a2⟩ := hd.dp q.1
  obtain ⟨b1, b2⟩ := he.dp q.2.1
  refine ⟨_, _, a1, b1, a2, b2, ?_⟩
  rw [D.eqv_eq d e 64 64 q.1 q.2.1]
  exact k _ κ H (.d (.bl (!D.eq d e))) (.refl ..) I (.bl _) q.2.2
variable {Y : Fam} {a b : Expr} {ta tb : PTE} {pos : Pos}
/-- room for built-in work -/
abbrev Hu (Y : Fam) : Prop := ∀ i, (Y.X i).A.units + 65 < cLine
theorem vt_eq (hu : Hu Y) (ha : VE Y a ta) (hb : VE Y b tb) : VT Y (.Compare a [.Eq] [b] pos) (tB (t2 ta tb pEq)) := vt_cmp (fun i => op_eqD (by have := hu i; omega)) ref_eq ha hb (nomark _)
theorem vt_ne (hu : Hu Y) (ha : VE Y a ta) (hb : VE Y b tb) : VT Y (.Compare a [.NotEq] [b] pos) (tB (t2 ta tb pNe)) := vt_cmp (fun i => op_neD (by have := hu i; omega)) ref_ne ha hb (nomark _)
/-- <, of ints and of texts -/
def pLt (d e : D) (Q : R → Prop) : Prop := match d, e with
  | .int i, .int j => Q (.d (.bl (decide (i < j))))
  | .str i, .str j => Q (.d (.bl (decide (i < j))))
  | _, _ => False
def pLe (d e : D) (Q : R → Prop) : Prop := match d, e with
  | .int i, .int j => Q (.d (.bl (decide (i ≤ j))))
  | .str i, .str j => Q (.d (.bl (!decide (j < i))))
  | _, _ => False
def pGt (d e : D) (Q : R → Prop) : Prop := match d, e with
  | .int i, .int j => Q (.d (.bl (decide (j < i))))
  | .str i, .str j => Q (.d (.bl (decide (j < i))))
  | _, _ => False
def pGe (d e : D) (Q : R → Prop) : Prop := match d, e with
  | .int i, .int j => Q (.d (.bl (decide (j ≤ i))))
  | .str i, .str j => Q (.d (.bl (!decide (i < j))))
  | _, _ => False
def rS (f : List Nat → List Nat → Bool) : R2 := fun x y H Q => ∃ i j : Str, x = .str i ∧ y = .str j ∧ Q (.bl (f i.cps.toList j.cps.toList)) H
def rOrd (f : Int → Int → Bool) (g : List Nat → List Nat → Bool) : PySem.W.Frag → R2 := fun _ x y H Q => rI0 (fun i j => .bl (f i j)) x y H Q ∨ rS g x y H Q
theorem ref_ord {f : Int → Int → Bool} {g : List Nat → List Nat → Bool} {p : D → D → (R → Prop) → Prop} (h1 : ∀ i j Q, p (.int i) (.int j) Q → Q (.d (.bl (f i j)))) (h2 : ∀ i j Q, p (.str i) (.str j) Q → Q (.d (.bl (g i j))))
    (h3 : ∀ d e Q, p d e Q → (∃ i j, d = .int i ∧ e = .int j) ∨ ∃ i j, d = .str i ∧ e = .str j) : OpRef (rOrd f g) p := by
  intro Γ σ κ H env v u d e Q Q' I hd he q k
  rcases h3 d e Q q with ⟨i, j, rfl, rfl⟩ | ⟨i, j, rfl, rfl⟩
  · cases hd; cases he
    exact .inl ⟨i, j, rfl, rfl, k _ κ H (.d (.bl (f i j))) (.refl ..) I (.bl _) (h1 i j Q q)⟩
  · obtain ⟨rfl, _⟩ := Rep.strE hd
    obtain ⟨rfl, _⟩ := Rep.strE he
    exact .inr ⟨_, _, rfl, rfl, k _ κ H (.d (.bl (g i j))) (.refl ..) I (.bl _) (h2 i j Q q)⟩
theorem ord3 {p : D → D → (R → Prop) → Prop} (h : ∀ d e Q, p d e Q → match d, e with | .int _, .int _ => True | .str _, .str _ => True | _, _ => False) : ∀ d e Q, p d e Q → (∃ i j, d = .int i ∧ e = .int j) ∨ ∃ i j, d = .str i ∧ e = .str j := by
  intro d e Q q
  have := h d e Q q
  cases d <;> cases e <;> first | exact .inl ⟨_, _, rfl, rfl⟩ | exact .inr ⟨_, _, rfl, rfl⟩ | exact False.elim this
theorem ref_lt : OpRef (rOrd (fun i j => decide (i < j)) fun i j => decide (i < j)) pLt := ref_ord (fun _ _ _ q => q) (fun _ _ _ q => q) (ord3 fun d e Q q => by unfold pLt at q; split at q <;> first | trivial | exact q.elim)
theorem ref_gt : OpRef (rOrd (fun i j => decide (j < i)) fun i j => decide (j < i)) pGt := ref_ord (fun _ _ _ q => q) (fun _ _ _ q => q) (ord3 fun d e Q q => by unfold pGt at q; split at q <;> first | trivial | exact q.elim)
theorem ref_ge : OpRef (rOrd (fun i j => decide (j ≤ i)) fun i j => !decide (i < j)) pGe := ref_ord (fun _ _ _ q => q) (fun _ _ _ q => q) (ord3 fun d e Q q => by unfold pGe at q; split at q <;> first | trivial | exact q.elim)
theorem o_lt (X : Cx) : OpR X (compareOp .Lt) (rOrd (fun i j => decide (i < j)) (fun i j => decide (i < j)) X.K) := OpR.or op_lt op_lt_str
theorem o_gt (X : Cx) : OpR X (compareOp .Gt) (rOrd (fun i j => decide (j < i)) (fun i j => decide (j < i)) X.K) := OpR.or op_gt op_gt_str
theorem o_ge (X : Cx) : OpR X (compareOp .GtE) (rOrd (fun i j => decide (j ≤ i)) (fun i j => !decide (i < j)) X.K) := OpR.or op_ge op_ge_str
theorem ve_lt (ha : VE Y a ta) (hb : VE Y b tb) : VE Y (.Compare a [.Lt] [b] pos) (t2 ta tb pLt) := ve_cmp (fun i => o_lt _) ref_lt ha hb (nomark _)
theorem ve_ge (ha : VE Y a ta) (hb : VE Y b tb) : VE Y (.Compare a [.GtE] [b] pos) (t2 ta tb pGe) := ve_cmp (fun i => o_ge _) ref_ge ha hb (nomark _)
theorem vt_lt (ha : VE Y a ta) (hb : VE Y b tb) : VT Y (.Compare a [.Lt] [b] pos) (tB (t2 ta tb pLt)) := vt_cmp (fun i => o_lt _) ref_lt ha hb (nomark _)
theorem vt_gt (ha : VE Y a ta) (hb : VE Y b tb) : VT Y (.Compare a [.Gt] [b] pos) (tB (t2 ta tb pGt)) := vt_cmp (fun i => o_gt _) ref_gt ha hb (nomark _)
def D.flat : D → Bool
  | .non => true
  | .bl _ => true
  | .int _ => true
  | .str _ => true
  | _ => false
def pIn (neg : Bool) (d e : D) (Q : R → Prop) : Prop := match e with
  | .str l => match d with
    | .str [c] => Q (.d (.bl (if neg then !decide (c ∈ l) else decide (c ∈ l))))
    | _ => False
  | .lst ds => d.ok 64 = true ∧ D.okL ds 63 = true ∧ Q (.d (.bl (if neg then !ds.any (fun z => D.eq z d) else ds.any fun z => D.eq z d)))
  | .tup ds => d.flat = true ∧ ds.all D.flat = true ∧ Q (.d (.bl (if neg then !ds.any (fun z => D.eq z d) else ds.any fun z => D.eq z d)))
  | _ => False
theorem any_eqv {d : D} (hd : d.ok 64 = true) : ∀ {ds : List D}, D.okL ds 63 = true → ((D.pyL ds).any fun z => PyData.eqv z d.py) = ds.any fun z => D.eq z d
  | [], _ => rfl
  | e :: ds, h => by
    simp only [D.okL, Bool.and_eq_true] at h
    simp only [D.pyL, List.any_cons]
    rw [D.eqv_eq e d 63 64 h.1 hd, any_eqv hd h.2]
theorem flat_V {d : D} (h : Rep Γ.K Γ.cls κ H v d) (f : d.flat = true) : flatV v = true := by
  cases d with
  | non => cases h; rfl
  | bl b => cases h; rfl
  | int i => cases h; rfl
  | str s => obtain ⟨rfl, _⟩ := h.strE; rfl
  | _ => cases f
theorem flat_eqV {d e : D} {w u : V} (h : Rep Γ.K Γ.cls κ H w d) (g : Rep Γ.K Γ.cls κ H u e) (f : d.flat = true) (f2 : e.flat = true) : eqV w u = D.eq d e := by
  cases d with
  | non =>
    cases h
    cases e with
    | non => cases g; rfl
    | bl b => cases g; rfl
    | int i => cases g; rfl
    | str s => obtain ⟨rfl, _⟩ := g.strE; rfl
    | _ => cases f2
  | bl b =>
    cases h
    cases e with
    | non => cases g; rfl
    | bl b => cases g; rfl
    | int i => cases g; rfl
    | str s => obtain ⟨rfl, _⟩ := g.strE; rfl
    | _ => cases f2
  | int i =>
    cases h
    cases e with
    | non => cases g; rfl
    | bl b => cases g; rfl
    | int i => cases g; rfl
    | str s => obtain ⟨rfl, _⟩ := g.strE; rfl
    | _ => cases f2
  | str s =>
    obtain ⟨rfl, _⟩ := h.strE
    cases e with
    | non => cases g; rfl
    | bl b => cases g; rfl
    | int i => cases g; rfl
    | str s => obtain ⟨rfl, _⟩ := g.strE; exact str_beq _ _
    | _ => cases f2
  | _ => cases f
theorem flat_all : ∀ {ds : List D} {vs : List V}, RepL Γ.K Γ.cls κ H vs ds → ds.all D.flat = true → vs.all flatV = true
  | [], _, h, _ => by cases h; rfl
  | d :: ds, _, h, f => by
    cases h with
    | cons h1 h2 =>
      rw [List.all_cons, Bool.and_eq_true] at f
      rw [List.all_cons, flat_V h1 f.1, flat_all h2 f.2]
      rfl
theorem flat_in {d : D} (h : Rep Γ.K Γ.cls κ H v d) (f : d.flat = true) : ∀ {ds : List D} {vs : List V}, RepL Γ.K Γ.cls κ H vs ds → ds.all D.flat = true → inV v vs = ds.any fun z => D.eq z d
  | [], _, g, _ => by cases g; rfl
  | e :: ds, _, g, fs => by
    cases g with
    | cons h1 h2 =>
      rw [List.all_cons, Bool.and_eq_true] at fs
      have ih := flat_in h f h2 fs.2
      unfold inV at ih ⊢
      rw [List.any_cons, List.any_cons, flat_eqV h1 h fs.1 f, ih]
def rSign (neg : Bool) : R2 := fun x y H Q => ∃ (c : Nat) (z : Str), x = .str ⟨#[c]⟩ ∧ y = .str z ∧ Q (.bl (if neg then !decide (c ∈ z.cps.toList) else decide (c ∈ z.cps.toList))) H
def rInDn (K : PySem.W.Frag) (neg : Bool) : R2 := fun x y H Q => ∃ d ds, Dp K H x d ∧ Dp K H y (.list ds) ∧ SeqAt.shaped d = true ∧ SeqAt.shaped (.list ds) = true ∧ Q (.bl (if neg then !ds.any (fun z => PyData.eqv z d) else ds.any fun z => PyData.eqv z d)) H
def rInAll (neg : Bool) (K : PySem.W.Frag) : R2 := fun x y H Q => rSign neg x y H Q ∨ rInDn K neg x y H Q ∨ rIn K neg x y H Q
theorem o_in {X : Cx} (hu : X.A.units + 65 < cLine) : OpR X (compareOp .In) (rInAll false X.K) := OpR.or op_in_sign (OpR.or (op_inD hu) op_in_seq)
theorem o_notIn {X : Cx} (hu : X.A.units + 65 < cLine) : OpR X (compareOp .NotIn) (rInAll true X.K) := OpR.or op_notIn_sign (OpR.or (op_notInD hu) op_notIn_seq)
theorem ref_in {neg : Bool} : OpRef (rInAll neg) (pIn neg) := by
  intro Γ σ κ H env v u d e Q Q' I hd he q k
  cases e with
  | str l =>
    cases d with
    | str s =>
      match s, hd, q with
      | [c], hd, q =>
        obtain ⟨rfl, _⟩ := Rep.strE hd
        obtain ⟨rfl, _⟩ := Rep.strE he
        exact .inl ⟨c, _, rfl, rfl, k _ κ H (.d (.bl _)) (.refl ..) I (.bl _) q⟩
    | _ => exact False.elim q
  | lst ds =>
    obtain ⟨q1, q2, q3⟩ := q
    obtain ⟨a1, a2⟩ := hd.dp q1
    obtain ⟨b1, b2⟩ := he.dp (d := .lst ds) (by simpa [D.ok] using q2)
    refine .inr (.inl ⟨_, _, a1, b1, a2, b2, ?_⟩)
    rw [any_eqv q1 q2]
    exact k _ κ H (.d (.bl _)) (.refl ..) I (.bl _) q3
  | tup ds =>
    obtain ⟨q1, q2, q3⟩ := q
    obtain ⟨a, vs, rfl, h1, h2, h3⟩ := Rep.sqT he
    have hd' : Rep Γ.K Γ.cls κ H v d := by
      cases d with
      | lst _ => cases q1
      | _ => exact hd
    refine .inr (.inr ⟨a, vs, rfl, .inr h1, flat_V hd' q1, flat_all h3 q2, ?_⟩)
    rw [flat_in hd' q1 h3 q2]
    exact k _ κ H (.d (.bl _)) (.refl ..) I (.bl _) q3
  | _ => exact False.elim q
theorem vt_in (hu : Hu Y) (ha : VE Y a ta) (hb : VE Y b tb) (hm : behindInMarks .In b = false := by rfl) : VT Y (.Compare a [.In] [b] pos) (tB (t2 ta tb (pIn false))) := vt_cmp (fun i => o_in (hu i)) ref_in ha hb hm
theorem vt_notIn (hu : Hu Y) (ha : VE Y a ta) (hb : VE Y b tb) (hm : behindInMarks .NotIn b = false := by rfl) : VT Y (.Compare a [.NotIn] [b] pos) (tB (t2 ta tb (pIn true))) := vt_cmp (fun i => o_notIn (hu i)) ref_in ha hb hm
def D.isNon : D → Bool
  | .non => true
  | _ => false
def pIsN (neg : Bool) (d e : D) (Q : R → Prop) : Prop := match e with
  | .non => Q (.d (.bl (if neg then !d.isNon else d.isNon)))
  | .bl b => match d with
    | .bl a => Q (.d (.bl (if neg then !decide (a = b) else decide (a = b))))
    | _ => False
  | _ => False
variable {tA tC : PTT} {rest : List Expr}
def tAnd (t u : PTT) : PTT := fun x e Q => t x e fun c e1 => if c = true then u x e1 Q else Q false e1
def tOr (t u : PTT) : PTT := fun x e Q => t x e fun c e1 => if c = true then Q true e1 else u x e1 Q
def tNot (t : PTT) : PTT := fun x e Q => t x e fun c e1 => Q (!c) e1
theorem VW.vt {e : Expr} {t : PTT} (h : VW Y e t) : VT Y e t := by
  obtain ⟨ra, pa, fa⟩ := h.ex
  exact ⟨⟨ra, fun i => (pa i).pt, fa⟩⟩
theorem vw_and1 (ha : VT Y a tA) : VW Y (.BoolOp .And [a] pos) tA := by
  obtain ⟨ra, pa, fa⟩ := ha.ex
  exact ⟨⟨ra, fun i => pw_and1 (pa i), fa⟩⟩
theorem vw_or1 (ha : VT Y a tA) : VW Y (.BoolOp .Or [a] pos) tA := by
  obtain ⟨ra, pa, fa⟩ := ha.ex
  exact ⟨⟨ra, fun i => pw_or1 (pa i), fa⟩⟩
theorem vw_and (ha : VT Y a tA) (hb : VW Y (.BoolOp .And (b :: rest) pos) tC) : VW Y (.BoolOp .And (a :: b :: rest) pos) (tAnd tA tC) := by
  obtain ⟨ra, pa, fa⟩ := ha.ex
  obtain ⟨rb, pb, fb⟩ := hb.ex
  refine ⟨⟨fun E => L2.tAnd (ra E) (rb E), fun i => pw_and (pa i) (pb i), fun Γ σ κ H env Q Q' hK I q k => ?_⟩⟩
  refine fa Γ σ κ H env _ _ hK I q fun c κ1 H1 e1 x1 I1 q1 => ?_
  cases c with
  | true => exact fb Γ σ κ1 H1 e1 Q Q' hK I1 q1 fun b κ2 H2 e2 x2 => k b κ2 H2 e2 (x1.trans x2)
  | false => exact k false κ1 H1 e1 x1 I1 q1
theorem vw_or (ha : VT Y a tA) (hb : VW Y (.BoolOp .Or (b :: rest) pos) tC) : VW Y (.BoolOp .Or (a :: b :: rest) pos) (tOr tA tC) := by
  obtain ⟨ra, pa, fa⟩ := ha.ex
  obtain ⟨rb, pb, fb⟩ := hb.ex
  refine ⟨⟨fun E => L2.tOr (ra E) (rb E), fun i => pw_or (pa i) (pb i), fun Γ σ κ H env Q Q' hK I q k => ?_⟩⟩
  refine fa Γ σ κ H env _ _ hK I q fun c κ1 H1 e1 x1 I1 q1 => ?_
  cases c with
  | false => exact fb Γ σ κ1 H1 e1 Q Q' hK I1 q1 fun b κ2 H2 e2 x2 => k b κ2 H2 e2 (x1.trans x2)
  | true => exact k true κ1 H1 e1 x1 I1 q1
theorem vt_not (ha : VT Y a tA) : VT Y (.UnaryOp .Not a pos) (tNot tA) := by
  obtain ⟨ra, pa, fa⟩ := ha.ex
  exact ⟨⟨fun E => L2.tNot (ra E), fun i => pt_not (pa i), fun Γ σ κ H env Q Q' hK I q k => fa Γ σ κ H env _ _ hK I q fun c κ1 H1 e1 x1 I1 q1 => k _ κ1 H1 e1 x1 I1 q1⟩⟩
/-- as values, all but the last bools -/
def tAndV (ta tb : PTE) : PTE := fun x e Q => ta x e fun r e1 => match rv r e1 with
  | some (.bl c) => if c = true then tb x e1 Q else Q (.d (.bl false)) e1
  | _ => False
def tOrV (ta tb : PTE) : PTE := fun x e Q => ta x e fun r e1 => match rv r e1 with
  | some (.bl c) => if c = true then Q (.d (.bl true)) e1 else tb x e1 Q
  | _ => False
def tNotV (ta : PTE) : PTE := fun x e Q => ta x e fun r e1 => match rv r e1 with
  | some (.bl c) => Q (.d (.bl (!c))) e1
  | _ => False
theorem bl_of {r : R} {P : D → Prop} (I : Rl Γ κ env σ H) (h : RelR Γ κ H env σ v r) {F : Bool → Prop} (q : match rv r env with | some (.bl c) => F c | _ => False) : ∃ c, v = .bl c ∧ F c := by
  cases e1' : rv r env with
  | none => rw [e1'] at q; exact False.elim q
  | some d =>
    rw [e1'] at q
    have rt := rv_ok I h e1'
    cases d with
    | bl b => cases rt; exact ⟨b, rfl, q⟩
    | _ => exact False.elim q
def tIf (t : PTT) (ta tb : PTE) : PTE := fun x e Q => t x e fun c e1 => if c = true then ta x e1 Q else tb x e1 Q
end
end Pu
set_option maxRecDepth 100000
set_option maxHeartbeats 4000000
namespace Pu
open PySem L2
section
variable {Γ : Gm} {κ κ' : Ka} {H H' : Hp} {env env' : En} {σ : Sl} {v : V} {st : Sto} {Y : Fam} {a b e : Expr} {es : List Expr} {ta tb te : PTE} {pos : Pos}
def tNil : PTA := fun _ e Q => Q [] e
def tCons (ta : PTE) (tr : PTA) : PTA := fun x e Q => ta x e fun r e1 => fz r e1 fun d e2 => tr x e2 fun ds e3 => Q (d :: ds) e3
theorem va_nil : VA Y [] tNil := ⟨⟨fun _ => L2.tNil, fun _ => pa_nil, fun Γ σ κ H env Q Q' hK I q k => k [] κ H [] env (.refl ..) I .nil q⟩⟩
theorem va_cons {tr : PTA} (ha : VE Y e ta) (hr : VA Y es tr) (hs : ∀ X : Cx, starEach (e :: es) X.env = (false, eval e X.env) :: starEach es X.env := by intro _; rfl) : VA Y (e :: es) (tCons ta tr) := by
  obtain ⟨ra, pa, fa⟩ := ha.ex
  obtain ⟨rb, pb, fb⟩ := hr.ex
  refine ⟨⟨fun E => L2.tCons (ra E) (rb E), fun i => pa_cons (pa i) (pb i) (hs _), fun Γ σ κ H env Q Q' hK I q k => ?_⟩⟩
  refine fa Γ σ κ H env _ _ hK I q fun v κ1 H1 r1 e1 x1 I1 h1 q1 => ?_
  refine fz_ok I1 h1 q1 fun κ2 d e2 x2 I2 h2 q2 => ?_
  refine fb Γ σ κ2 H1 e2 _ _ hK I2 q2 fun vs κ3 H3 ds e3 x3 I3 h3 q3 => ?_
  exact k (v :: vs) κ3 H3 (d :: ds) e3 ((x1.trans x2).trans x3) I3 (.cons (h2.mono x3) h3) q3
def tTup (t : PTA) : PTE := fun x e Q => t x e fun ds e1 => ds.length ≤ sizeLine ∧ Q (.d (.tup ds)) e1
def tLst (t : PTA) : PTE := fun x e Q => t x e fun ds e1 => ds.length ≤ sizeLine ∧ Q (.own ds) e1
theorem ve_tup {x1} {t : PTA} (h : VA Y es t) : VE Y (.Tuple es x1 pos) (tTup t) := by
  obtain ⟨ra, pa, fa⟩ := h.ex
  refine ⟨⟨fun E => PuE.tTupB (ra E), fun i => PuE.pe_tupB (pa i), fun Γ σ κ H env Q Q' hK I q k => ?_⟩⟩
  refine fa Γ σ κ H env _ _ hK I q fun vs κ1 H1 ds e1 x1 I1 h1 q1 => ⟨by rw [h1.length]; exact q1.1, ?_⟩
  exact new_tupB I1 (by rw [h1.length]; exact q1.1) h1 fun κ' H' p x2 I2 r2 => k _ _ _ (.d (.tup ds)) e1 (x1.trans x2) I2 r2 q1.2
theorem ve_lst {t : PTA} (h : VA Y es t) : VE Y (.List es pos) (tLst t) := by
  obtain ⟨ra, pa, fa⟩ := h.ex
  refine ⟨⟨fun E => L2.tLst (ra E), fun i => pe_lst (pa i), fun Γ σ κ H env Q Q' hK I q k => ?_⟩⟩
  refine fa Γ σ κ H env _ _ hK I q fun vs κ1 H1 ds e1 x1 I1 h1 q1 => ⟨by rw [h1.length]; exact q1.1, fun p hp => ?_⟩
  exact k _ κ1 _ (.own ds) e1 (x1.trans (Ext.upd_new I1.gh hp)) (I1.upd_new hp) (new_lst I1 hp (by rw [h1.length]; exact q1.1) h1) q1.2
abbrev PTR := PX → En → (List R → En → Prop) → Prop
inductive HeldL (Γ : Gm) (κ : Ka) (H : Hp) (σ : Sl) : List V → List R → Prop
  | nil : HeldL Γ κ H σ [] []
  | cons {v : V} {vs : List V} {r : R} {rs : List R} : HeldR Γ κ H σ v r → HeldL Γ κ H σ vs rs → HeldL Γ κ H σ (v :: vs) (r :: rs)
inductive RepTL (Γ : Gm) (κ : Ka) (H : Hp) : List V → List D → Prop
  | nil : RepTL Γ κ H [] []
  | cons {v : V} {vs : List V} {d : D} {ds : List D} : RepT Γ κ H v d → RepTL Γ κ H vs ds → RepTL Γ κ H (v :: vs) (d :: ds)
theorem HeldL.ext : ∀ {rs : List R} {vs : List V}, Ext κ H κ' H' → HeldL Γ κ H σ vs rs → HeldL Γ κ' H' σ vs rs
  | [], _, _, h => by cases h; exact .nil
  | _ :: _, _, e, h => by cases h with | cons h1 h2 => exact .cons (h1.ext e) (HeldL.ext e h2)
structure VR (Y : Fam) (es : List Expr) (t : PTR) : Prop where
  ex : ∃ rd : XK → TA, (∀ i, PA (Y.X i) es (rd (Y.E i))) ∧ ∀ (Γ : Gm) (σ : Sl) (κ : Ka) (H : Hp) (env : En) (Q : List R → En → Prop) (Q' : List V → Hp → Prop), GK Y Γ → Rl Γ κ env σ H → t Γ.x env Q →
    (∀ vs κ' H' rs env', Ext κ H κ' H' → Rl Γ κ' env' σ H' → HeldL Γ κ' H' σ vs rs → Q rs env' → Q' vs H') → rd Γ.E σ H Q'
def rNil : PTR := fun _ e Q => Q [] e
def rCons (ta : PTE) (tr : PTR) : PTR := fun x e Q => ta x e fun r e1 => hold r e1 fun r e2 => tr x e2 fun rs e3 => Q (r :: rs) e3
theorem vr_nil : VR Y [] rNil := ⟨⟨fun _ => L2.tNil, fun _ => pa_nil, fun Γ σ κ H env Q Q' hK I q k => k [] κ H [] env (.refl ..) I .nil q⟩⟩
theorem vr_cons {tr : PTR} (ha : VE Y e ta) (hr : VR Y es tr) (hs : ∀ X : Cx, starEach (e :: es) X.env = (false, eval e X.env) :: starEach es X.env := by intro _; rfl) : VR Y (e :: es) (rCons ta tr) := by
  obtain ⟨ra, pa, fa⟩ := ha.ex
  obtain ⟨rb, pb, fb⟩ := hr.ex
  refine ⟨⟨fun E => L2.tCons (ra E) (rb E), fun i => pa_cons (pa i) (pb i) (hs _), fun Γ σ κ H env Q Q' hK I q k => ?_⟩⟩
  refine fa Γ σ κ H env _ _ hK I q fun v κ1 H1 r1 e1 x1 I1 h1 q1 => ?_
  refine hold_ok I1 h1 q1 fun κ2 r2 x2 I2 h2 q2 => ?_
  refine fb Γ σ κ2 H1 e1 _ _ hK I2 q2 fun vs κ3 H3 rs e3 x3 I3 h3 q3 => ?_
  exact k (v :: vs) κ3 H3 (r2 :: rs) e3 ((x1.trans x2).trans x3) I3 (.cons (h2.ext x3) h3) q3
def rvL : List R → En → Option (List D)
  | [], _ => some []
  | r :: rs, e => match rv r e with
    | none => none
    | some d => match rvL rs e with
      | none => none
      | some ds => some (d :: ds)
theorem rvL_ok (I : Rl Γ κ env σ H) : ∀ {rs : List R} {vs : List V} {ds : List D}, HeldL Γ κ H σ vs rs → rvL rs env = some ds → RepTL Γ κ H vs ds
  | [], _, _, h, e => by cases h; cases e; exact .nil
  | r :: rs, _, _, h, e => by
    cases h with
    | cons h1 h2 =>
      unfold rvL at e
      cases e1 : rv r env with
      | none => rw [e1] at e; cases e
      | some d =>
        rw [e1] at e
        cases e2 : rvL rs env with
        | none => simp only [e2] at e; cases e
        | some ds =>
          simp only [e2] at e
          cases e
          exact .cons (rv_ok I h1.rel e1) (rvL_ok I h2 e2)
def CallRef (r : PySem.W.Frag → List V → Hp → VK → Prop) (p : List D → (R → Prop) → Prop) : Prop :=
  ∀ (Γ : Gm) (σ : Sl) (κ : Ka) (H : Hp) (env : En) (vs : List V) (ds : List D) (Q : R → Prop) (Q' : VK), Rl Γ κ env σ H → RepTL Γ κ H vs ds → p ds Q →
    (∀ v' κ' H' r, Ext κ H κ' H' → Rl Γ κ' env σ H' → RelR Γ κ' H' env σ v' r → Q r → Q' v' H') → r Γ.K vs H Q'
def tCallP (p : List D → (R → Prop) → Prop) (t : PTR) : PTE := fun x e Q => t x e fun rs e1 => match rvL rs e1 with
  | some ds => p ds (fun r => Q r e1)
  | none => False
theorem callP {r : PySem.W.Frag → List V → Hp → VK → Prop} {p : List D → (R → Prop) → Prop} {t : PTR} {rd : XK → TA} (hr : CallRef r p)
    (f : ∀ (Γ : Gm) (σ : Sl) (κ : Ka) (H : Hp) (env : En) (Q : List R → En → Prop) (Q' : List V → Hp → Prop), GK Y Γ → Rl Γ κ env σ H → t Γ.x env Q →
    (∀ vs κ' H' rs env', Ext κ H κ' H' → Rl Γ κ' env' σ H' → HeldL Γ κ' H' σ vs rs → Q rs env' → Q' vs H') → rd Γ.E σ H Q')
    {Q : R → En → Prop} {Q' : VK} (hK : GK Y Γ) (I : Rl Γ κ env σ H) (q : tCallP p t Γ.x env Q)
    (k : ∀ v κ' H' r env', Ext κ H κ' H' → Rl Γ κ' env' σ H' → RelR Γ κ' H' env' σ v r → Q r env' → Q' v H') : tCB (r Y.K) (rd Γ.E) σ H Q' := by
  refine f Γ σ κ H env _ _ hK I q fun vs κ1 H1 rs e1 x1 I1 h1 q1 => ?_
  cases e : rvL rs e1 with
  | none => rw [e] at q1; exact False.elim q1
  | some ds =>
    rw [e] at q1
    have := hr Γ σ κ1 H1 e1 vs ds _ Q' I1 (rvL_ok I1 h1 e) q1 fun v' κ' H' r x I' h' q' => k v' κ' H' r e1 (x1.trans x) I' h' q'
    rw [hK.k] at this
    exact this
theorem ve_callB {x : Str} {id : String} {p' : Pos} {r : PySem.W.Frag → List V → Hp → VK → Prop} {p : List D → (R → Prop) → Prop} {t : PTR} (hc : ∀ i, CallR (Y.X i) (.builtin id) (r (Y.X i).K)) (hr : CallRef r p) (hm : ∀ i, (Y.X i).mg x = none) (ha : VR Y (e :: es) t)
    (hg : ∀ i, Gl (Y.X i) x := by intro _; rfl) (hv : bootBuiltins x = some (.builtin id) := by decide +kernel) (hn : x ≠ "__name__" := by decide) (hdb : (x == ("__debug__" : Str)) = false := by decide)
    (he : ∀ X : Cx, starEach (e :: es) X.env = (false, eval e X.env) :: starEach es X.env := by intro _; rfl) (hpl : ∀ X : Cx, (backTo pos (starEach es X.env)).any (·.1) = false := by intro _; rfl) : VE Y (.Call (.Name x p') (e :: es) [] pos) (tCallP p t) := by
  obtain ⟨ra, pa, fa⟩ := ha.ex
  exact ⟨⟨fun E => tCB (r Y.K) (ra E), fun i => pe_callB (by have := hc i; rw [Y.hK i] at this; exact this) (hg i) (hm i) hv (pa i) hn hdb (he _) (hpl _), fun Γ σ κ H env Q Q' hK I q k => callP hr fa hK I q k⟩⟩
theorem ve_callTy {x : Str} {T : String} {p' : Pos} {r : PySem.W.Frag → List V → Hp → VK → Prop} {p : List D → (R → Prop) → Prop} {t : PTR} (hc : ∀ i, CallR (Y.X i) (.type T) (r (Y.X i).K)) (hr : CallRef r p) (hm : ∀ i, (Y.X i).mg x = none) (ha : VR Y (e :: es) t)
    (hg : ∀ i, Gl (Y.X i) x := by intro _; rfl) (hv : bootBuiltins x = some (.type T) := by decide +kernel) (hn : x ≠ "__name__" := by decide) (hdb : (x == ("__debug__" : Str)) = false := by decide)
    (he : ∀ X : Cx, starEach (e :: es) X.env = (false, eval e X.env) :: starEach es X.env := by intro _; rfl) (hpl : ∀ X : Cx, (backTo pos (starEach es X.env)).any (·.1) = false := by intro _; rfl) : VE Y (.Call (.Name x p') (e :: es) [] pos) (tCallP p t) := by
  obtain ⟨ra, pa, fa⟩ := ha.ex
  exact ⟨⟨fun E => tCB (r Y.K) (ra E), fun i => pe_callTy (by have := hc i; rw [Y.hK i] at this; exact this) (hg i) (hm i) hv (pa i) hn hdb (he _) (hpl _), fun Γ σ κ H env Q Q' hK I q k => callP hr fa hK I q k⟩⟩
/-- len -/
def pLen : List D → (R → Prop) → Prop
  | [.str s], Q => Q (.d (.int s.length))
  | [.lst ds], Q => Q (.d (.int ds.length))
  | [.tup ds], Q => Q (.d (.int ds.length))
  | [.scr n], Q => Q (.d (.int n))
  | _, _ => False
def rLen (K : PySem.W.Frag) : List V → Hp → VK → Prop := fun xs H Q => ∃ x n, xs = [x] ∧ LenV K x H n ∧ Q (.int n) H
theorem lenL {K : PySem.W.Frag} {a : Addr} {vs : List V} (h : SqL K H a vs) : LenV K (.ref a) H vs.length := by
  unfold LenV
  first | exact .inl ⟨vs, h, rfl⟩ | exact ⟨vs, .inl h, rfl⟩
theorem ref_len : CallRef rLen pLen := by
  intro Γ σ κ H env vs ds Q Q' I h q k
  match ds, vs, h, q with
  | [.str s], _, .cons h .nil, q =>
    obtain ⟨rfl, h1⟩ := Rep.strE h
    refine ⟨_, s.length, rfl, ?_, k _ κ H (.d (.int s.length)) (.refl ..) I (.int _) q⟩
    show _ ≤ sizeLine ∧ _
    rw [str_len]
    exact ⟨h1.1, rfl⟩
  | [.lst ds], _, .cons h .nil, q =>
    obtain ⟨a, ws, rfl, h1, h2, h3⟩ := h
    refine ⟨_, ws.length, rfl, lenL (SqL.of h1), ?_⟩
    rw [h3.length]
    exact k _ κ H (.d (.int ds.length)) (.refl ..) I (.int _) q
  | [.tup ds], _, .cons h .nil, q =>
    obtain ⟨a, ws, rfl, h1, h2, h3⟩ := Rep.sqT h
    refine ⟨_, ws.length, rfl, .inr ⟨ws, h1, rfl⟩, ?_⟩
    rw [h3.length]
    exact k _ κ H (.d (.int ds.length)) (.refl ..) I (.int _) q
  | [.scr n], _, .cons h .nil, q =>
    cases h with
    | @scr a ns _ h1 hn h2 =>
      subst hn
      refine ⟨_, ns.length, rfl, ?_, k _ κ H (.d (.int (ns.length : Nat))) (.refl ..) I (.int _) q⟩
      have := lenL (H := H) (K := Γ.K) (a := a) (vs := ns.map V.int) (by
        rcases h1 with ⟨_, h1⟩ | h1
        · exact .inl h1
        · exact .inr h1)
      rw [List.length_map] at this
      exact this
theorem ve_len {p' : Pos} {t : PTR} (hm : ∀ i, (Y.X i).mg "len" = none) (ha : VR Y [e] t) (hg : ∀ i, Gl (Y.X i) "len" := by intro _; rfl) (he : ∀ X : Cx, starEach [e] X.env = (false, eval e X.env) :: starEach [] X.env := by intro _; rfl) : VE Y (.Call (.Name "len" p') [e] [] pos) (tCallP pLen t) :=
  ve_callB (r := rLen) (fun _ => call_len) ref_len hm ha hg (he := he)
def pIx (d e : D) (Q : R → Prop) : Prop := match d, e with
  | .lst ds, .int i => match atI ds i with | some y => Q (.d y) | none => False
  | .tup ds, .int i => match atI ds i with | some y => Q (.d y) | none => False
  | .str s, .int i => match atI s i with | some c => Q (.d (.str [c])) | none => False
  | .scr n, .int i => (0 ≤ i ∧ i < n) ∧ ∀ z, Q (.d (.int z))
  | .box, .int i => (i = 0 ∨ i = 1) ∧ ∀ z, Q (.d (.int z))
  | _, _ => False
theorem atI_rep {ds : List D} {vs : List V} {i : Int} {d : D} (h : RepL Γ.K Γ.cls κ H vs ds) (e : atI ds i = some d) : ∃ v, atI vs i = some v ∧ Rep Γ.K Γ.cls κ H v d := by
  unfold atI at e ⊢
  rw [h.length]
  cases q : ixN ds.length i with
  | none => rw [q] at e; cases e
  | some j =>
    rw [q] at e
    obtain ⟨v, e1, r⟩ := h.get (i := j) e
    exact ⟨v, e1, r⟩
theorem SOk.one {s : List Nat} {c : Nat} (h : SOk s) (hc : c ∈ s) : SOk [c] := ⟨by show 1 ≤ sizeLine; decide, fun d hd => by
  have : d = c := by simpa using hd
  rw [this]; exact h.2 c hc⟩
theorem atI_mem {α : Type} {xs : List α} {i : Int} {x : α} (e : atI xs i = some x) : x ∈ xs := by
  unfold atI at e
  cases q : ixN xs.length i with
  | none => rw [q] at e; cases e
  | some j => rw [q] at e; exact List.mem_of_getElem? e
theorem ref_ix : OpRef rIx pIx := by
  intro Γ σ κ H env v u d e Q Q' I hd he q k
  cases e with
  | int i =>
    cases he
    cases d with
    | lst ds =>
      obtain ⟨a, vs, rfl, h1, h2, h3⟩ := hd
      unfold pIx at q
      simp only at q
      cases qe : atI ds i with
      | none => rw [qe] at q; exact False.elim q
      | some y =>
        rw [qe] at q
        obtain ⟨w, e1, r1⟩ := atI_rep h3 qe
        exact .inl ⟨a, vs, i, w, rfl, rfl, SqL.of h1, e1, k w κ H (.d y) (.refl ..) I r1 q⟩
    | tup ds =>
      obtain ⟨a, vs, rfl, h1, h2, h3⟩ := Rep.sqT hd
      unfold pIx at q
      simp only at q
      cases qe : atI ds i with
      | none => rw [qe] at q; exact False.elim q
      | some y =>
        rw [qe] at q
        obtain ⟨w, e1, r1⟩ := atI_rep h3 qe
        exact .inr (.inl ⟨a, vs, i, w, rfl, rfl, h1, e1, k w κ H (.d y) (.refl ..) I r1 q⟩)
    | str s =>
      obtain ⟨rfl, hs⟩ := Rep.strE hd
      unfold pIx at q
      simp only at q
      cases qe : atI s i with
      | none => rw [qe] at q; exact False.elim q
      | some c =>
        rw [qe] at q
        exact .inr (.inr ⟨_, i, c, rfl, rfl, by rw [str_len]; exact hs.1, qe, k _ κ H (.d (.str [c])) (.refl ..) I (.str _ (hs.one (atI_mem qe))) q⟩)
    | scr n =>
      cases hd with
      | @scr a ns _ h1 hn h2 =>
        subst hn
        obtain ⟨⟨i0, i1⟩, q⟩ := q
        obtain ⟨j, rfl⟩ : ∃ j : Nat, i = (j : Int) := ⟨i.toNat, by omega⟩
        have hj : j < ns.length := by omega
        refine .inl ⟨a, ns.map V.int, (j : Int), .int ns[j], rfl, rfl, ?_, atI_nat (by rw [List.getElem?_map, List.getElem?_eq_getElem hj]; rfl), k _ κ H (.d (.int ns[j])) (.refl ..) I (.int _) (q _)⟩
        rcases h1 with ⟨_, h1⟩ | h1
        · exact .inl h1
        · exact .inr h1
    | box =>
      cases hd with
      | @box a hk =>
        obtain ⟨x, y, hx⟩ := I.gh.box a hk
        obtain ⟨hi, q⟩ := q
        rcases hi with rfl | rfl
        · exact .inl ⟨a, _, 0, .int x, rfl, rfl, SqL.of hx, rfl, k _ κ H (.d (.int x)) (.refl ..) I (.int _) (q _)⟩
        · exact .inl ⟨a, _, 1, .int y, rfl, rfl, SqL.of hx, rfl, k _ κ H (.d (.int y)) (.refl ..) I (.int _) (q _)⟩
    | _ => exact False.elim q
  | _ => cases d <;> exact False.elim q
theorem ve_ix (ha : VE Y a ta) (hb : VE Y b tb) (hs : PlainIx b := by exact fun _ _ => rfl) : VE Y (.Subscript a b pos) (t2 ta tb pIx) := by
  obtain ⟨ra, pa, fa⟩ := ha.ex
  obtain ⟨rb, pb, fb⟩ := hb.ex
  refine ⟨⟨fun E => tOp (rIx Y.K) (ra E) (rb E), fun i => pe_ix (by have := ix_seq (X := Y.X i); rw [Y.hK i] at this; exact this) (pa i) (pb i) hs, fun Γ σ κ H env Q Q' hK I q k => ?_⟩⟩
  exact two_ref (r := rIx) ref_ix fa fb hK I q k
abbrev PTO := PX → En → (Option Int → En → Prop) → Prop
structure VO (Y : Fam) (e : Option Expr) (t : PTO) : Prop where
  ex : ∃ rd : XK → L2.TO, (∀ i, PO (Y.X i) e (rd (Y.E i))) ∧ ∀ (Γ : Gm) (σ : Sl) (κ : Ka) (H : Hp) (env : En) (Q : Option Int → En → Prop) (Q' : Option Int → Hp → Prop), GK Y Γ → Rl Γ κ env σ H → t Γ.x env Q →
    (∀ o κ' H' env', Ext κ H κ' H' → Rl Γ κ' env' σ H' → Q o env' → Q' o H') → rd Γ.E σ H Q'
def oNone : PTO := fun _ e Q => Q none e
def oSome (t : PTE) : PTO := fun x e Q => t x e fun r e1 => match rv r e1 with
  | some (.int i) => Q (some i) e1
  | _ => False
theorem vo_none : VO Y none oNone := ⟨⟨fun _ => tNoPart, fun _ => po_none, fun Γ σ κ H env Q Q' hK I q k => k none κ H env (.refl ..) I q⟩⟩
theorem vo_some (h : VE Y e te) : VO Y (some e) (oSome te) := by
  obtain ⟨ra, pa, fa⟩ := h.ex
  refine ⟨⟨fun E => tPart (ra E), fun i => po_some (pa i), fun Γ σ κ H env Q Q' hK I q k => ?_⟩⟩
  refine fa Γ σ κ H env _ _ hK I q fun v κ1 H1 r1 e1 x1 I1 h1 q1 => ?_
  cases e1' : rv r1 e1 with
  | none => rw [e1'] at q1; exact False.elim q1
  | some d =>
    rw [e1'] at q1
    have rt := rv_ok I1 h1 e1'
    cases d with
    | int i => cases rt; exact ⟨i, rfl, k (some i) κ1 H1 e1 x1 I1 q1⟩
    | _ => exact False.elim q1
/-- a piece of a list -/
def cut {α : Type} (xs : List α) (lo hi : Option Int) : List α := (xs.drop (HT.sIx xs.length 0 lo)).take (HT.sIx xs.length xs.length hi - HT.sIx xs.length 0 lo)
def pSl (d : D) (lo hi : Option Int) (Q : R → Prop) : Prop := match d with
  | .lst ds => Q (.own (cut ds lo hi))
  | .tup ds => Q (.d (.tup (cut ds lo hi)))
  | .str s => Q (.d (.str (cut s lo hi)))
  | .scr n => ∀ ns : List Int, ns.length = (cut (List.range n) lo hi).length → Q (.own (ns.map D.int))
  | _ => False
def tSl (te : PTE) (tl th : PTO) : PTE := fun x e Q => te x e fun r e1 => hold r e1 fun r e1 => tl x e1 fun lo e2 => th x e2 fun hi e3 => match rv r e3 with
  | some d => pSl d lo hi (fun r => Q r e3)
  | none => False
theorem cut_length {α : Type} (xs : List α) (lo hi : Option Int) : (cut xs lo hi).length ≤ xs.length := by
  unfold cut
  rw [List.length_take, List.length_drop]
  omega
theorem cut_mem {α : Type} {xs : List α} {lo hi : Option Int} {x : α} (h : x ∈ cut xs lo hi) : x ∈ xs := by
  unfold cut at h
  exact List.mem_of_mem_drop (List.mem_of_mem_take h)
theorem SOk.cut {s : List Nat} (h : SOk s) (lo hi : Option Int) : SOk (cut s lo hi) := ⟨Nat.le_trans (cut_length ..) h.1, fun c hc => h.2 c (cut_mem hc)⟩
theorem RepL.cut {ds : List D} {vs : List V} (h : RepL Γ.K Γ.cls κ H vs ds) (lo hi : Option Int) : RepL Γ.K Γ.cls κ H (cutV vs lo hi) (cut ds lo hi) := by
  unfold cutV Pu.cut
  rw [h.length]
  exact (h.drop _).take _
def rSlAll (K : PySem.W.Frag) : V → Option Int → Option Int → Hp → VK → Prop := fun x lo hi H Q => rSlL K x lo hi H Q ∨ PuE.rSlTB K x lo hi H Q ∨ rSlS x lo hi H Q
theorem sl_all {X : Cx} : SlR X (rSlAll X.K) := SlR.or sl_list (SlR.or PuE.sl_tupB sl_str)
theorem cut_whole {α : Type} {xs : List α} {lo hi : Option Int} (h : HT.sIx xs.length 0 lo = 0 ∧ HT.sIx xs.length xs.length hi = xs.length) : cut xs lo hi = xs := by
  unfold cut
  rw [h.1, h.2]
  simp
theorem line_eq' : (sizeLine : Nat) = 16777216 := sizeLine_eq
theorem rep_ints : ∀ ns : List Int, RepL Γ.K Γ.cls κ H (ns.map V.int) (ns.map D.int)
  | [] => .nil
  | i :: ns => .cons (.int i) (rep_ints ns)
theorem cutV_map {α : Type} (f : α → V) (xs : List α) (lo hi : Option Int) : cutV (xs.map f) lo hi = (cut xs lo hi).map f := by
  unfold cutV cut
  rw [List.length_map, ← List.map_drop, ← List.map_take]
theorem cut_len_eq {α β : Type} {xs : List α} {ys : List β} (h : xs.length = ys.length) (lo hi : Option Int) : (cut xs lo hi).length = (cut ys lo hi).length := by
  unfold cut
  simp only [List.length_take, List.length_drop, h]
theorem ve_slice {lo hi : Option Expr} {tl th : PTO} {p2 : Pos} (ha : VE Y e te) (hl : VO Y lo tl) (hh : VO Y hi th) : VE Y (.Subscript e (.Slice lo hi none p2) pos) (tSl te tl th) := by
  obtain ⟨ra, pa, fa⟩ := ha.ex
  obtain ⟨rl, pl, fl⟩ := hl.ex
  obtain ⟨rh, ph, fh⟩ := hh.ex
  refine ⟨⟨fun E => L2.tSl (rSlAll Y.K) (ra E) (rl E) (rh E), fun i => pe_slice (by have := sl_all (X := Y.X i); rw [Y.hK i] at this; exact this) (pa i) (pl i) (ph i), fun Γ σ κ H env Q Q' hK I q k => ?_⟩⟩
  refine fa Γ σ κ H env _ _ hK I q fun v κ1 H1 r1 e1 x1 I1 h1 q1 => ?_
  refine hold_ok I1 h1 q1 fun κ2 r2 x2 I2 h2 q2 => ?_
  refine fl Γ σ κ2 H1 e1 _ _ hK I2 q2 fun l κ3 H3 e3 x3 I3 q3 => ?_
  refine fh Γ σ κ3 H3 e3 _ _ hK I3 q3 fun h κ4 H4 e4 x4 I4 q4 => ?_
  have x := ((x1.trans x2).trans x3).trans x4
  have h2' : RelR Γ κ4 H4 e4 σ v r2 := ((h2.ext x3).ext x4).rel
  rw [← hK.k]
  cases e1' : rv r2 e4 with
  | none => rw [e1'] at q4; exact False.elim q4
  | some d =>
    rw [e1'] at q4
    have rt := rv_ok I4 h2' e1'
    cases d with
    | lst ds =>
      obtain ⟨a, vs, rfl, g1, g2, g3⟩ := rt
      refine .inl ⟨a, vs, rfl, SqL.of g1, fun p hp => ?_⟩
      exact k _ κ4 _ (.own (cut ds l h)) e4 (x.trans (Ext.upd_new I4.gh hp)) (I4.upd_new hp) (new_lst I4 hp (Nat.le_trans (cutV_length ..) g2) (g3.cut l h)) q4
    | tup ds =>
      have rt0 : Rep Γ.K Γ.cls κ4 H4 v (.tup ds) := rt
      obtain ⟨a, vs, rfl, g1, g2, g3⟩ := Rep.sqT rt
      refine .inr (.inl ⟨a, vs, rfl, g1, fun hw => ?_, fun hw => ?_⟩)
      · have : cut ds l h = ds := cut_whole (by rw [← g3.length]; exact hw)
        have q4 : Q (.d (.tup (cut ds l h))) e4 := q4
        rw [this] at q4
        exact k _ κ4 H4 (.d (.tup ds)) e4 x I4 rt0 q4
      · exact new_tupB I4 (Nat.le_trans (cutV_length vs l h) g2) (g3.cut l h) fun κ' H' p x5 I5 r5 => k _ _ _ (.d (.tup (cut ds l h))) e4 (x.trans x5) I5 r5 q4
    | scr n =>
      cases rt with
      | @scr a ns _ g1 hn g2 =>
        subst hn
        refine .inl ⟨a, ns.map V.int, rfl, ?_, fun p hp => ?_⟩
        · rcases g1 with ⟨_, g1⟩ | g1
          · exact .inl g1
          · exact .inr g1
        · rw [cutV_map]
          refine k _ κ4 _ (.own ((cut ns l h).map D.int)) e4 (x.trans (Ext.upd_new I4.gh hp)) (I4.upd_new hp) (new_lst I4 hp ?_ (rep_ints _)) (q4 _ (cut_len_eq (by simp) l h))
          rw [List.length_map, line_eq']
          have := cut_length ns l h
          omega
    | str s =>
      obtain ⟨rfl, hs⟩ := Rep.strE rt
      refine .inr (.inr ⟨_, rfl, by rw [str_len]; exact hs.1, ?_⟩)
      have : cutS ⟨s.toArray⟩ l h = ⟨(cut s l h).toArray⟩ := by
        unfold cutS Pu.cut
        rw [str_len]
      rw [this]
      exact k _ κ4 H4 (.d (.str (cut s l h))) e4 x I4 (.str _ (hs.cut l h)) q4
    | _ => exact False.elim q4
def asgR (i : Nat) : R → En → (En → Prop) → Prop
  | .d d, e, Q => Q (e.setC i (.d d))
  | .own ds, e, Q => Q (e.setC i (.own ds))
  | .dK ds, e, Q => Q (e.setC i (.dK ds))
  | .dT ds, e, Q => Q (e.setC i (.dT ds))
  | .nam j, e, Q => fz (.nam j) e fun d e1 => Q (e1.setC i (.d d))
theorem Rl.assign {i : Nat} {c : C} (I : Rl Γ κ env σ H) (hi : i < σ.length) (r : RelS Γ κ H (some (some v)) c) (hn : c.isOwn = true → ∀ j a, v = .ref a → ¬ OwnS env σ j a) : Rl Γ κ (env.setC i c) (σ.set i (some v)) H := by
  have hi' : i < env.sl.length := by rw [← I.len]; exact hi
  have old : ∀ m b, m ≠ i → OwnS (env.setC i c) (σ.set i (some v)) m b → OwnS env σ m b := fun m b hm ⟨z1, c', z2, z3⟩ => by
    have z2 : (env.sl.set i c)[m]? = some c' := z2
    rw [List.getElem?_set_ne (Ne.symm hm)] at z1 z2
    exact ⟨z1, c', z2, z3⟩
  have new : ∀ b, OwnS (env.setC i c) (σ.set i (some v)) i b → c.isOwn = true ∧ v = .ref b := fun b ⟨z1, c', z2, z3⟩ => by
    have z2 : (env.sl.set i c)[i]? = some c' := z2
    rw [List.getElem?_set_self hi] at z1
    rw [List.getElem?_set_self hi'] at z2
    cases z2
    exact ⟨z3, by cases z1; rfl⟩
  refine ⟨by simp [En.setC, I.len], fun j c' ec => ?_, fun j l b o1 o2 => ?_, I.gh⟩
  · have ec : (env.sl.set i c)[j]? = some c' := ec
    by_cases hj : j = i
    · subst hj
      rw [List.getElem?_set_self hi'] at ec
      cases ec
      rw [List.getElem?_set_self hi]
      exact r
    · rw [List.getElem?_set_ne (Ne.symm hj)] at ec ⊢
      exact I.get ec
  · by_cases hj : j = i
    · by_cases hl : l = i
      · exact hj.trans hl.symm
      · subst hj
        obtain ⟨n1, n2⟩ := new b o1
        exact absurd (old l b hl o2) (hn n1 l b n2)
    · by_cases hl : l = i
      · subst hl
        obtain ⟨n1, n2⟩ := new b o2
        exact absurd (old j b hj o1) (hn n1 j b n2)
      · exact I.dist j l b (old j b hj o1) (old l b hl o2)
theorem asg_ok {i : Nat} {r : R} {Q : En → Prop} {P : Prop} (I : Rl Γ κ env σ H) (hi : i < σ.length) (h : RelR Γ κ H env σ v r) (q : asgR i r env Q)
    (k : ∀ κ' env', Ext κ H κ' H → Rl Γ κ' env' (σ.set i (some v)) H → Q env' → P) : P := by
  cases r with
  | d d => exact k κ _ (.refl ..) (I.assign (c := .d d) hi ⟨v, rfl, h⟩ fun z => nomatch z) q
  | own ds =>
    obtain ⟨a, rfl, h1, h2⟩ := h
    exact k κ _ (.refl ..) (I.assign (c := .own ds) hi ⟨a, rfl, h1⟩ fun _ j b e => by cases e; exact h2 j) q
  | dK ds =>
    obtain ⟨a, rfl, h1, h2⟩ := h
    exact k κ _ (.refl ..) (I.assign (c := .dK ds) hi ⟨a, rfl, h1⟩ fun _ j b e => by cases e; exact h2 j) q
  | dT ds =>
    obtain ⟨a, rfl, h1, h2⟩ := h
    exact k κ _ (.refl ..) (I.assign (c := .dT ds) hi ⟨a, rfl, h1⟩ fun _ j b e => by cases e; exact h2 j) q
  | nam j =>
    have q : fz (.nam j) env (fun d e1 => Q (e1.setC i (.d d))) := q
    refine fz_ok I h q fun κ1 d e1 x1 I1 h1 q1 => ?_
    exact k κ1 _ x1 (I1.assign (c := .d d) hi ⟨v, rfl, h1⟩ fun z => nomatch z) q1
abbrev PTG := D → En → (En → Prop) → Prop
abbrev PTGs := List D → En → (En → Prop) → Prop
/-- vs: the slots that may be stored -/
def Off (vs : List Nat) (σ σ' : Sl) : Prop := σ'.length = σ.length ∧ ∀ j, j ∉ vs → σ'[j]? = σ[j]?
theorem Off.refl (vs : List Nat) (σ : Sl) : Off vs σ σ := ⟨rfl, fun _ _ => rfl⟩
theorem Off.trans {vs : List Nat} {σ σ1 σ2 : Sl} (a : Off vs σ σ1) (b : Off vs σ1 σ2) : Off vs σ σ2 := ⟨b.1.trans a.1, fun j h => (b.2 j h).trans (a.2 j h)⟩
theorem Off.mono {vs ws : List Nat} {σ σ' : Sl} (a : Off vs σ σ') (h : ∀ j ∈ vs, j ∈ ws) : Off ws σ σ' := ⟨a.1, fun j hj => a.2 j fun z => hj (h j z)⟩
structure VG (Y : Fam) (tg : Expr) (vs : List Nat) (t : PTG) : Prop where
  ex : ∃ rd : TG, (∀ i, PG (Y.X i) tg rd) ∧ ∀ (Γ : Gm) (σ : Sl) (κ : Ka) (H : Hp) (env : En) (v : V) (d : D) (Q : En → Prop) (Q' : Sl → Hp → Prop), GK Y Γ → Rl Γ κ env σ H → Rep Γ.K Γ.cls κ H v d → t d env Q →
    (∀ σ' env', Off vs σ σ' → Rl Γ κ env' σ' H → Q env' → Q' σ' H) → rd v σ H Q'
structure VGs (Y : Fam) (tg : List Expr) (vs : List Nat) (t : PTGs) : Prop where
  ex : ∃ rd : TGs, (∀ i, PGs (Y.X i) tg rd) ∧ ∀ (Γ : Gm) (σ : Sl) (κ : Ka) (H : Hp) (env : En) (ws : List V) (ds : List D) (Q : En → Prop) (Q' : Sl → Hp → Prop), GK Y Γ → Rl Γ κ env σ H → RepL Γ.K Γ.cls κ H ws ds → t ds env Q →
    (∀ σ' env', Off vs σ σ' → Rl Γ κ env' σ' H → Q env' → Q' σ' H) → rd ws σ H Q'
def gName (i : Nat) : PTG := fun d e Q => i < e.sl.length ∧ Q (e.setC i (.d d))
theorem vg_name {i : Nat} {x : Str} (hN : ∀ j, (Y.X j).N.Nodup) (hi : ∀ j, (Y.X j).N[i]? = some x := by intro _; rfl) (hx : ∀ j, Loc (Y.X j).env.scope x := by first | exact fun _ => Or.inl rfl | exact fun _ => Or.inr rfl)
    (hf : ∀ j, (Y.X j).fn x = true ∨ (Y.X j).env.scope.names.lookup x = some .local := by first | exact fun _ => .inl rfl | exact fun _ => .inr rfl | assumption) : VG Y (.Name x pos) [i] (gName i) := by
  refine ⟨⟨L2.gName i, fun j => pg_name (hN j) (hi j) (hx j) (hf j), fun Γ σ κ H env v d Q Q' hK I r q k => ?_⟩⟩
  have hl : i < σ.length := by rw [I.len]; exact q.1
  refine k _ _ ⟨by simp, fun j hj => List.getElem?_set_ne (fun z => hj (by simp [z]))⟩ (I.assign (c := .d d) hl ⟨v, rfl, r⟩ fun z => nomatch z) q.2
def gNil : PTGs := fun ds e Q => ds = [] ∧ Q e
def gCons (t : PTG) (u : PTGs) : PTGs := fun ds e Q => match ds with
  | d :: r => t d e fun e' => u r e' Q
  | [] => False
theorem vgs_nil : VGs Y [] [] gNil := ⟨⟨L2.gNil, fun _ => pgs_nil, fun Γ σ κ H env ws ds Q Q' hK I r q k => by
  obtain ⟨rfl, q⟩ := q
  cases r
  exact ⟨rfl, k σ env (.refl ..) I q⟩⟩⟩
theorem vgs_cons {vs ws : List Nat} {t : PTG} {u : PTGs} (h1 : VG Y e vs t) (h2 : VGs Y es ws u) (hs : ∀ X : Cx, (assignEach (e :: es) X.env).map (·.2) = assign e X.env :: (assignEach es X.env).map (·.2) := by intro _; rfl) : VGs Y (e :: es) (vs ++ ws) (gCons t u) := by
  obtain ⟨ra, pa, fa⟩ := h1.ex
  obtain ⟨rb, pb, fb⟩ := h2.ex
  refine ⟨⟨L2.gCons ra rb, fun i => pgs_cons (pa i) (pb i) (hs _), fun Γ σ κ H env ys ds Q Q' hK I r q k => ?_⟩⟩
  match ds, ys, r, q with
  | d :: ds, _, .cons (v := v) (vs := ys) r1 r2, q =>
    refine ⟨v, ys, rfl, fa Γ σ κ H env v d _ _ hK I r1 q fun σ1 e1 o1 I1 q1 => ?_⟩
    exact fb Γ σ1 κ H e1 ys ds _ _ hK I1 r2 q1 fun σ2 e2 o2 I2 q2 => k σ2 e2 ((o1.mono fun j h => List.mem_append_left _ h).trans (o2.mono fun j h => List.mem_append_right _ h)) I2 q2
def gTup (n : Nat) (t : PTGs) : PTG := fun d e Q => match d with
  | .tup ds => ds.length = n ∧ t ds e Q
  | _ => False
theorem vg_tup {k : Nat} {vs : List Nat} {n : Nat} {t : PTGs} (h : VGs Y es vs t) (hc : ∀ i, (Y.X i).calm = true := by intro _; rfl) (hn : ∀ X : Cx, (assignEach es X.env).length = n := by intro _; rfl) (hst : ∀ X : Cx, (assignEach es X.env).findIdx? (·.1) = none := by intro _; rfl) : VG Y (.Tuple es k pos) vs (gTup n t) := by
  obtain ⟨ra, pa, fa⟩ := h.ex
  refine ⟨⟨L2.gTup Y.K n ra, fun i => by have := pg_tup (pos := pos) (k := k) (hc i) (pa i) (hn _) (hst _); rw [Y.hK i] at this; exact this, fun Γ σ κ H env v d Q Q' hK I r q k => ?_⟩⟩
  cases d with
  | tup ds =>
    obtain ⟨a, vs, rfl, h1, h2, h3⟩ := r.sqT
    exact ⟨a, vs, rfl, by rw [← hK.k]; exact h1, h3.length.trans q.1, fa Γ σ κ H env vs ds Q Q' hK I h3 q.2 k⟩
  | _ => exact False.elim q
end
end Pu
set_option maxRecDepth 100000
set_option maxHeartbeats 4000000
namespace Pu
open PySem L2
section
variable {Γ : Gm} {κ κ' : Ka} {H H' : Hp} {env env' : En} {σ : Sl} {v : V} {st : Sto} {Y : Fam} {a b e : Expr} {es : List Expr} {ta tb te : PTE} {pos : Pos} {s : Stmt} {ss body : List Stmt} {t u : PTS}
def sNext : PTS := fun _ D e => D.nx e
def sSeq (t u : PTS) : PTS := fun x D e => t x { D with nx := u x D } e
theorem vss_nil : VSs Y [] sNext := ⟨⟨fun _ => tNext, fun _ => pss_nil, fun Γ σ κ H env D D' hK I q l => l.1 σ κ H env (.refl ..) I q⟩⟩
theorem vss_cons (h1 : VS Y s t) (h2 : VSs Y ss u) : VSs Y (s :: ss) (sSeq t u) := by
  obtain ⟨ra, pa, fa⟩ := h1.ex
  obtain ⟨rb, pb, fb⟩ := h2.ex
  refine ⟨⟨fun E => tSeq (ra E) (rb E), fun i => pss_cons (pa i) (pb i), fun Γ σ κ H env D D' hK I q l => ?_⟩⟩
  exact fa Γ σ κ H env { D with nx := u Γ.x D } { D' with nx := rb Γ.E D' } hK I q ⟨fun σ' κ' H' env' x I' q' => fb Γ σ' κ' H' env' D D' hK I' q' (l.ext x), l.2.1, l.2.2.1, l.2.2.2⟩
theorem vss_one (h1 : VS Y s t) : VSs Y [s] t := by
  obtain ⟨ra, pa, fa⟩ := h1.ex
  exact ⟨⟨ra, fun i => pss_one (pa i), fa⟩⟩
def sBreak : PTS := fun _ D e => D.bk e
def sCont : PTS := fun _ D e => D.ct e
def sDrop (te : PTE) : PTS := fun x D e => te x e fun _ e1 => D.nx e1
theorem vs_expr (he : VE Y e te) (hs : ∀ i, swapsWith e none pos.line (Y.X i).env = pure false := by intro _; rfl) : VS Y (.Expr e pos) (sDrop te) := by
  obtain ⟨ra, pa, fa⟩ := he.ex
  refine ⟨⟨fun E => tDrop (ra E), fun i => ps_expr (pa i) (hs i), fun Γ σ κ H env D D' hK I q l => ?_⟩⟩
  exact fa Γ σ κ H env _ _ hK I q fun v κ1 H1 r1 e1 x1 I1 h1 q1 => l.1 σ κ1 H1 e1 x1 I1 q1
/-- what is handed back -/
def retR (D : PEn) : R → En → Prop
  | .d d, e => D.rt (.d d) e
  | .own ds, e => D.rt (.own ds) e
  | .dK ds, e => D.rt (.dK ds) e
  | .dT ds, e => D.rt (.dT ds) e
  | .nam i, e => match e.sl[i]? with
    | some .un => False
    | some c => D.rt c e
    | none => False
def sRet (te : PTE) : PTS := fun x D e => te x e fun r e1 => retR D r e1
theorem vs_ret (he : VE Y e te) : VS Y (.Return (some e) pos) (sRet te) := by
  obtain ⟨ra, pa, fa⟩ := he.ex
  refine ⟨⟨fun E => tRet (ra E), fun i => ps_ret (pa i), fun Γ σ κ H env D D' hK I q l => ?_⟩⟩
  refine fa Γ σ κ H env _ _ hK I q fun v κ1 H1 r1 e1 x1 I1 h1 q1 => ?_
  cases r1 with
  | d d => exact l.2.1 v κ1 H1 (.d d) e1 x1 I1.gh h1 q1
  | own ds => obtain ⟨a, rfl, h1, _⟩ := h1; exact l.2.1 _ κ1 H1 (.own ds) e1 x1 I1.gh ⟨a, rfl, h1⟩ q1
  | dK ds => obtain ⟨a, rfl, h1, _⟩ := h1; exact l.2.1 _ κ1 H1 (.dK ds) e1 x1 I1.gh ⟨a, rfl, h1⟩ q1
  | dT ds => obtain ⟨a, rfl, h1, _⟩ := h1; exact l.2.1 _ κ1 H1 (.dT ds) e1 x1 I1.gh ⟨a, rfl, h1⟩ q1
  | nam i =>
    have h1 : σ[i]? = some (some v) := h1
    unfold retR at q1
    simp only at q1
    cases qe : e1.sl[i]? with
    | none => rw [qe] at q1; exact False.elim q1
    | some c =>
      have s := I1.get qe
      rw [qe] at q1
      cases c with
      | un => exact False.elim q1
      | d d => obtain ⟨w, g, r⟩ := s; rw [h1] at g; cases g; exact l.2.1 v κ1 H1 (.d d) e1 x1 I1.gh r q1
      | own ds => obtain ⟨w, g, r⟩ := s; rw [h1] at g; cases g; exact l.2.1 _ κ1 H1 (.own ds) e1 x1 I1.gh ⟨w, rfl, r⟩ q1
      | dK ds => obtain ⟨w, g, r⟩ := s; rw [h1] at g; cases g; exact l.2.1 _ κ1 H1 (.dK ds) e1 x1 I1.gh ⟨w, rfl, r⟩ q1
      | dT ds => obtain ⟨w, g, r⟩ := s; rw [h1] at g; cases g; exact l.2.1 _ κ1 H1 (.dT ds) e1 x1 I1.gh ⟨w, rfl, r⟩ q1
def sRetN : PTS := fun _ D e => D.rt (.d .non) e
def sIf (c : PTT) (t u : PTS) : PTS := fun x D e => c x e fun b e1 => if b = true then t x D e1 else u x D e1
theorem vs_if {c : Expr} {x y : List Stmt} {tc : PTT} (hc : VT Y c tc) (ha : VSs Y x t) (hb : VSs Y y u) : VS Y (.If c x y pos) (sIf tc t u) := by
  obtain ⟨rc, pc, fc⟩ := hc.ex
  obtain ⟨ra, pa, fa⟩ := ha.ex
  obtain ⟨rb, pb, fb⟩ := hb.ex
  refine ⟨⟨fun E => tIfS (rc E) (ra E) (rb E), fun i => ps_if (pc i) (pa i) (pb i), fun Γ σ κ H env D D' hK I q l => ?_⟩⟩
  refine fc Γ σ κ H env _ _ hK I q fun c κ1 H1 e1 x1 I1 q1 => ?_
  cases c with
  | true => exact fa Γ σ κ1 H1 e1 D D' hK I1 q1 (l.ext x1)
  | false => exact fb Γ σ κ1 H1 e1 D D' hK I1 q1 (l.ext x1)
def sAsg (i : Nat) (te : PTE) : PTS := fun x D e => te x e fun r e1 => i < e1.sl.length ∧ asgR i r e1 D.nx
theorem vs_set {i : Nat} {x : Str} {p' : Pos} (hN : ∀ j, (Y.X j).N.Nodup) (he : VE Y e te) (hi : ∀ j, (Y.X j).N[i]? = some x := by intro _; rfl) (hx : ∀ j, Loc (Y.X j).env.scope x := by first | exact fun _ => Or.inl rfl | exact fun _ => Or.inr rfl)
    (hs : ∀ j, swapsWith e (some (.Name x p')) pos.line (Y.X j).env = pure false := by intro _; rfl)
    (hf : ∀ j, (Y.X j).fn x = true ∨ (Y.X j).env.scope.names.lookup x = some .local := by first | exact fun _ => .inl rfl | exact fun _ => .inr rfl | assumption) : VS Y (.Assign [.Name x p'] e pos) (sAsg i te) := by
  obtain ⟨ra, pa, fa⟩ := he.ex
  refine ⟨⟨fun E => tAsg (ra E) (L2.gName i), fun j => ps_set (hN j) (hi j) (hx j) (pa j) (hs j) (hf j), fun Γ σ κ H env D D' hK I q l => ?_⟩⟩
  refine fa Γ σ κ H env _ _ hK I q fun v κ1 H1 r1 e1 x1 I1 h1 q1 => ?_
  exact asg_ok I1 (by rw [I1.len]; exact q1.1) h1 q1.2 fun κ2 e2 x2 I2 q2 => l.1 _ κ2 H1 e2 (x1.trans x2) I2 q2
/-- a target of names takes data -/
def sAsgG (g : PTG) (te : PTE) : PTS := fun x D e => te x e fun r e1 => fz r e1 fun d e2 => g d e2 D.nx
/-- a, b = x, y -/
def sPar (i j : Nat) (t : PTA) : PTS := fun x D e => t x e fun ds e1 => match ds with
  | [d1, d2] => i < e1.sl.length ∧ j < e1.sl.length ∧ D.nx ((e1.setC i (.d d1)).setC j (.d d2))
  | _ => False
def sWhile (c : PTT) (tb : PTS) : PTS := fun x D e => ∃ (W : En → Prop) (m : En → Nat), W e ∧ ∀ e, W e →
  c x e fun b e1 => if b = true then tb x { D with nx := fun e' => W e' ∧ m e' < m e, ct := fun e' => W e' ∧ m e' < m e, bk := D.nx } e1 else D.nx e1
theorem vs_while {c : Expr} {tc : PTT} (hp : ∀ i, PassesOwn (model (Y.X i).prog (Y.X i).w) (Y.X i).A (Y.X i).env (Y.X i).xe) (hc : VT Y c tc) (hb : VSs Y body t) : VS Y (.While c body [] pos) (sWhile tc t) := by
  obtain ⟨rc, pc, fc⟩ := hc.ex
  obtain ⟨rb, pb, fb⟩ := hb.ex
  refine ⟨⟨fun E => tWhile (rc E) (rb E), fun i => ps_while (hp i) (pc i) (pb i), fun Γ σ κ H env D D' hK I q l => ?_⟩⟩
  obtain ⟨W, m, w0, turn⟩ := q
  refine ⟨fun n σ1 H1 => ∃ κ1 e1, Ext κ H κ1 H1 ∧ Rl Γ κ1 e1 σ1 H1 ∧ W e1 ∧ n = m e1, ⟨_, κ, env, .refl .., I, w0, rfl⟩, ?_⟩
  rintro n σ1 H1 ⟨κ1, e1, x1, I1, w1, rfl⟩
  refine fc Γ σ1 κ1 H1 e1 _ _ hK I1 (turn e1 w1) fun b κ2 H2 e2 x2 I2 q2 => ?_
  have x12 := x1.trans x2
  cases b with
  | true =>
    rw [if_pos rfl] at q2 ⊢
    refine ⟨fun σ' H' => ∃ κ' e', Ext κ H κ' H' ∧ Rl Γ κ' e' σ' H' ∧ W e' ∧ m e' < m e1, fun σ' H' ⟨κ', e', x', I', w', lt⟩ => ⟨_, lt, κ', e', x', I', w', rfl⟩, ?_⟩
    refine fb Γ σ1 κ2 H2 e2 _ _ hK I2 q2 ⟨fun σ' κ' H' e' x' I' q' => ⟨κ', e', x12.trans x', I', q'⟩, fun v κ' H' c e' x' g r q' => l.2.1 v κ' H' c e' (x12.trans x') g r q', fun σ' κ' H' e' x' I' q' => l.1 σ' κ' H' e' (x12.trans x') I' q', fun σ' κ' H' e' x' I' q' => ⟨κ', e', x12.trans x', I', q'⟩⟩
  | false =>
    rw [if_neg Bool.false_ne_true] at q2 ⊢
    exact l.1 σ1 κ2 H2 e2 x12 I2 q2
def Src (K : PySem.W.Frag) (cl : Cl) (κ : Ka) (H : Hp) (J : It) (items : List D) : Prop := ∀ (Γ : Gm), Γ.K = K → Γ.cls = cl → ∀ (σ : Sl) (κ1 : Ka) (H1 : Hp) (env : En) (i : Nat), Rl Γ κ1 env σ H1 → Ext κ H κ1 H1 →
  (∀ d, items[i]? = some d → J.go i H1 ∧ ∀ v H', J.yld i H1 v H' → ∃ κ', Ext κ1 H1 κ' H' ∧ Rl Γ κ' env σ H' ∧ Rep Γ.K Γ.cls κ' H' v d) ∧ (items.length = i → J.stop i H1)
abbrev PTI := PX → En → (List D → En → Prop) → Prop
structure VI (Y : Fam) (tg it : Expr) (t : PTI) : Prop where
  ex : ∃ rd : XK → TI, (∀ i, PI (Y.X i) tg it (rd (Y.E i))) ∧ ∀ (Γ : Gm) (σ : Sl) (κ : Ka) (H : Hp) (env : En) (Q : List D → En → Prop) (Q' : It → Hp → Prop), GK Y Γ → Rl Γ κ env σ H → t Γ.x env Q →
    (∀ J κ' H' items env', Ext κ H κ' H' → Rl Γ κ' env' σ H' → Src Γ.K Γ.cls κ' H' J items → Q items env' → Q' J H') → rd Γ.E σ H Q'
theorem Src.ext {K : PySem.W.Frag} {cl : Cl} {J : It} {items : List D} {κ1 : Ka} {H1 : Hp} (h : Src K cl κ H J items) (x : Ext κ H κ1 H1) : Src K cl κ1 H1 J items := fun Γ hK hc σ κ2 H2 env i I x2 => h Γ hK hc σ κ2 H2 env i I (x.trans x2)
theorem src_list {a : Addr} {vs : List V} {ds : List D} (hk : κ a = some .frz) (ha : H a = some (.lst vs)) (r : RepL Γ.K Γ.cls κ H vs ds) : Src Γ.K Γ.cls κ H (Itl Γ.K a) ds := by
  intro Γ2 hK hc
  rw [← hK, ← hc] at r
  rw [← hK]
  intro σ κ1 H1 env i I x
  have h1 : SqL Γ2.K H1 a vs := SqL.of ((x.2 a hk).trans ha)
  refine ⟨fun d e => ?_, fun e => ⟨vs, h1, by rw [r.length, e]; exact Nat.le_refl _⟩⟩
  obtain ⟨v, e1, r1⟩ := r.get e
  refine ⟨⟨vs, v, h1, e1⟩, fun w H' y => ?_⟩
  obtain ⟨rfl, y⟩ := y
  have := y vs h1
  rw [e1] at this
  cases this
  exact ⟨κ1, .refl .., I, r1.mono x⟩
theorem src_tup {a : Addr} {vs : List V} {ds : List D} (h : Rep Γ.K Γ.cls κ H (.ref a) (.tup ds)) : Src Γ.K Γ.cls κ H (Itt Γ.K a) ds := by
  intro Γ2 hK hc
  rw [← hK, ← hc] at h
  rw [← hK]
  intro σ κ1 H1 env i I x
  obtain ⟨b, vs, e0, h1, _, r⟩ := (h.mono x).sqT
  cases e0
  refine ⟨fun d e => ?_, fun e => ⟨vs, h1, by rw [r.length, e]; exact Nat.le_refl _⟩⟩
  obtain ⟨v, e1, r1⟩ := r.get e
  refine ⟨⟨vs, v, h1, e1⟩, fun w H' y => ?_⟩
  obtain ⟨rfl, y⟩ := y
  have := y vs h1
  rw [e1] at this
  cases this
  exact ⟨κ1, .refl .., I, r1⟩
/-- a text, sign by sign -/
def signs (s : List Nat) : List D := s.map fun c => .str [c]
theorem src_str {K : PySem.W.Frag} {cl : Cl} {s : List Nat} (hs : SOk s) : Src K cl κ H (Its ⟨s.toArray⟩) (signs s) := by
  intro Γ2 hK hc σ κ1 H1 env i I x
  refine ⟨fun d e => ?_, fun e => ?_⟩
  · unfold signs at e
    rw [List.getElem?_map] at e
    cases q : s[i]? with
    | none => rw [q] at e; cases e
    | some c =>
      rw [q] at e
      cases e
      refine ⟨?_, fun v H' y => ?_⟩
      · show i < s.toArray.size
        rw [List.size_toArray]
        exact (List.getElem?_eq_some_iff.mp q).1
      · obtain ⟨rfl, c', e1, rfl⟩ := y
        have e1 : s.toArray[i]? = some c' := e1
        rw [List.getElem?_toArray, q] at e1
        cases e1
        exact ⟨κ1, .refl .., I, .str _ (hs.one (List.mem_of_getElem? q))⟩
  · show s.toArray.size ≤ i
    rw [List.size_toArray, ← e]
    unfold signs
    rw [List.length_map]
    exact Nat.le_refl _
/-- range -/
def rngI (lo : Int) (n : Nat) : List D := (List.range n).map fun (i : Nat) => .int (lo + i)
theorem src_range {K : PySem.W.Frag} {cl : Cl} {lo : Int} {n : Nat} : Src K cl κ H (Itr lo n) (rngI lo n) := by
  intro Γ2 hK hc σ κ1 H1 env i I x
  refine ⟨fun d e => ?_, fun e => ?_⟩
  · unfold rngI at e
    rw [List.getElem?_map] at e
    by_cases hi : i < n
    · rw [List.getElem?_range hi] at e
      cases e
      refine ⟨hi, fun v H' y => ?_⟩
      obtain ⟨rfl, rfl⟩ := y
      exact ⟨κ1, .refl .., I, .int _⟩
    · rw [List.getElem?_eq_none (by simpa using hi)] at e
      cases e
  · show n ≤ i
    rw [← e]
    unfold rngI
    simp
def pRng1 : List D → (List D → Prop) → Prop
  | [.int j], Q => (-(2 ^ 62) ≤ j ∧ j < 2 ^ 62) ∧ Q (rngI 0 j.toNat)
  | _, _ => False
def pRng2 : List D → (List D → Prop) → Prop
  | [.int i, .int j], Q => (-(2 ^ 62) ≤ i ∧ i < 2 ^ 62 ∧ -(2 ^ 62) ≤ j ∧ j < 2 ^ 62) ∧ Q (rngI i (j - i).toNat)
  | _, _ => False
def iPure (p : List D → (List D → Prop) → Prop) (t : PTR) : PTI := fun x e Q => t x e fun rs e1 => match rvL rs e1 with
  | some ds => p ds (fun l => Q l e1)
  | none => False
theorem vi_range1 {tg : Expr} {p : Pos} {t : PTR} (hm : ∀ i, (Y.X i).mg "range" = none) (ha : VR Y [a] t) (hg : ∀ i, Gl (Y.X i) "range" := by intro _; rfl) (hs : ∀ X : Cx, starEach [a] X.env = [(false, eval a X.env)] := by intro _; rfl) : VI Y tg (.Call (.Name "range" p) [a] [] pos) (iPure pRng1 t) := by
  obtain ⟨ra, pa, fa⟩ := ha.ex
  refine ⟨⟨fun E => iRng1 (ra E), fun i => pi_range1 (hg i) (hm i) (pa i) (hs _), fun Γ σ κ H env Q Q' hK I q k => ?_⟩⟩
  refine fa Γ σ κ H env _ _ hK I q fun vs κ1 H1 rs e1 x1 I1 h1 q1 => ?_
  cases e : rvL rs e1 with
  | none => rw [e] at q1; exact False.elim q1
  | some ds =>
    rw [e] at q1
    have rt := rvL_ok I1 h1 e
    match ds, vs, rt, q1 with
    | [.int j], _, .cons h .nil, q1 =>
      cases h
      exact ⟨j, rfl, q1.1.1, q1.1.2, k _ κ1 H1 _ e1 x1 I1 src_range q1.2⟩
def forR (g : PTG) (tb : PTS) (x : PX) (P : PEn) : List D → En → Prop
  | [], e => P.nx e
  | d :: ds, e => g d e fun e' => tb x { P with nx := forR g tb x P ds, ct := forR g tb x P ds, bk := P.nx } e'
def sFor (ti : PTI) (g : PTG) (tb : PTS) : PTS := fun x D e => ti x e fun items e1 => forR g tb x D items e1
theorem vs_for {tg it : Expr} {ti : PTI} {g : PTG} {vs : List Nat} (hp : ∀ i, PassesOwn (model (Y.X i).prog (Y.X i).w) (Y.X i).A (Y.X i).env (Y.X i).xe) (hi : VI Y tg it ti) (hg : VG Y tg vs g) (hb : VSs Y body t)
    (hc : ∀ i, (Y.X i).calm = true := by intro _; rfl) (hs : ∀ (X : Cx) x, foldedSetIterable it X.env x = pure x := by intro _ _; rfl) : VS Y (.For tg it body [] pos) (sFor ti g t) := by
  obtain ⟨ri, pi, fi⟩ := hi.ex
  obtain ⟨rg, pg, fg⟩ := hg.ex
  obtain ⟨rb, pb, fb⟩ := hb.ex
  refine ⟨⟨fun E => tFor (ri E) rg (rb E), fun i => ps_for (hp i) (hc i) (pi i) (pg i) (pb i) (hs _), fun Γ σ κ H env D D' hK I q l => ?_⟩⟩
  refine fi Γ σ κ H env _ _ hK I q fun J κ1 H1 items e1 x1 I1 src q1 => ?_
  refine ⟨fun i m σ2 H2 => ∃ κ2 e2, Ext κ1 H1 κ2 H2 ∧ Rl Γ κ2 e2 σ2 H2 ∧ m = items.length - i ∧ i ≤ items.length ∧ forR g t Γ.x D (items.drop i) e2, ⟨_, κ1, e1, .refl .., I1, rfl, Nat.zero_le _, q1⟩, ?_⟩
  rintro i m σ2 H2 ⟨κ2, e2, x2, I2, rfl, hi, q2⟩
  obtain ⟨s1, s2⟩ := src Γ rfl rfl σ2 κ2 H2 e2 i I2 x2
  by_cases hlt : i < items.length
  · have hd : items.drop i = items[i] :: items.drop (i + 1) := List.drop_eq_getElem_cons hlt
    rw [hd] at q2
    obtain ⟨go, yl⟩ := s1 items[i] (List.getElem?_eq_getElem hlt)
    refine .inr ⟨go, fun σ' H' => ∃ κ' e', Ext κ1 H1 κ' H' ∧ Rl Γ κ' e' σ' H' ∧ forR g t Γ.x D (items.drop (i + 1)) e', fun σ' H' ⟨κ', e', x', I', q'⟩ => ⟨items.length - (i + 1), by omega, κ', e', x', I', rfl, hlt, q'⟩, fun v H' y => ?_⟩
    obtain ⟨κ3, x3, I3, r3⟩ := yl v H' y
    refine fg Γ σ2 κ3 H' e2 v _ _ _ hK I3 r3 q2 fun σ4 e4 _ I4 q4 => ?_
    have x13 := x2.trans x3
    exact fb Γ σ4 κ3 H' e4 _ _ hK I4 q4 ⟨fun σ' κ' H' e' x' I' q' => ⟨κ', e', x13.trans x', I', q'⟩, fun v κ' H' c e' x' gg r q' => l.2.1 v κ' H' c e' (x1.trans (x13.trans x')) gg r q', fun σ' κ' H' e' x' I' q' => l.1 σ' κ' H' e' (x1.trans (x13.trans x')) I' q', fun σ' κ' H' e' x' I' q' => ⟨κ', e', x13.trans x', I', q'⟩⟩
  · have e : i = items.length := by omega
    subst e
    rw [List.drop_length] at q2
    exact .inl ⟨s2 rfl, l.1 σ2 κ2 H2 e2 (x1.trans x2) I2 q2⟩
end
end Pu
set_option maxRecDepth 100000
set_option maxHeartbeats 4000000
namespace Pu
open PySem L2
section
variable {Γ Γ' : Gm} {κ κ' : Ka} {H H' : Hp} {env env' : En} {σ : Sl} {v : V} {st : Sto} {Y : Fam} {a b e : Expr} {es : List Expr} {ta tb te : PTE} {pos : Pos}
theorem OwnC.switch {a : Addr} {c : C} (hK : Γ'.K = Γ.K) (hc : Γ'.cls = Γ.cls) (h0 : Γ'.H0 a = none) (h : OwnC Γ κ H a c) : OwnC Γ' κ H a c := by
  cases c with
  | own ds => obtain ⟨h1, _, vs, h2, h3, h4⟩ := h; exact ⟨h1, h0, vs, h2, h3, by rw [hK, hc]; exact h4⟩
  | dK ds => obtain ⟨h1, _, vs, h2, h4⟩ := h; exact ⟨h1, h0, vs, h2, by rw [hK, hc]; exact h4⟩
  | dT ds => obtain ⟨h1, _, vs, h2, h4⟩ := h; exact ⟨h1, h0, vs, h2, by rw [hK, hc]; exact h4⟩
  | _ => exact h.elim
theorem ObjR.switch {a : Addr} {so : SO} (hK : Γ'.K = Γ.K) (hc : Γ'.cls = Γ.cls) (h : ObjR Γ κ H a so) : ObjR Γ' κ H a so := by
  cases so with
  | lst ds => obtain ⟨vs, h1, h2, h3⟩ := h; exact ⟨vs, h1, h2, by rw [hK, hc]; exact h3⟩
  | dK ds => obtain ⟨vs, h1, h3⟩ := h; exact ⟨vs, h1, by rw [hK, hc]; exact h3⟩
  | dT ds => obtain ⟨vs, h1, h3⟩ := h; exact ⟨vs, h1, by rw [hK, hc]; exact h3⟩
  | ins c fs => obtain ⟨dx, vs, h1, h3⟩ := h; exact ⟨dx, vs, by rw [hc]; exact h1, by rw [hK, hc]; exact h3⟩
  | lk o vs kvs => exact ⟨h.1, by rw [hK, hc]; exact h.2⟩
theorem Rl.switch (hK : Γ'.K = Γ.K) (hc : Γ'.cls = Γ.cls) (I : Rl Γ κ env σ H) (own : ∀ i a, OwnS env σ i a → Γ'.H0 a = none) (g : Gh Γ' κ env.st H) : Rl Γ' κ env σ H := by
  refine ⟨I.len, fun i c ec => ?_, I.dist, g⟩
  have s := I.get ec
  cases h : c.isOwn with
  | true =>
    obtain ⟨a, e1, ho⟩ := s.own h
    exact .mk e1 (ho.switch hK hc (own i a ⟨e1, c, ec, h⟩))
  | false =>
    cases c with
    | un => trivial
    | d d => obtain ⟨v, e1, r⟩ := s; exact ⟨v, e1, by rw [hK, hc]; exact r⟩
    | _ => cases h
/-- one address more stands still; no exception leaves -/
def Gm.prot (Γ : Gm) (D : Addr) (o : HO) : Gm := { Γ with H0 := upd Γ.H0 D o, E := E0, x := fun _ _ => False }
theorem Rl.prot {D : Addr} {o : HO} (I : Rl Γ κ env σ H) (h : H D = some o) (hk : κ D = none) (ho : ∀ i, ¬ OwnS env σ i D) : Rl (Γ.prot D o) κ env σ H := by
  have nk : Γ.k0 D = none := by
    cases q : Γ.k0 D with
    | none => rfl
    | some x => have := I.gh.sub D x q; rw [hk] at this; cases this
  have g := I.gh
  refine Rl.switch (Γ := Γ) (Γ' := Γ.prot D o) rfl rfl I (fun i a hs => ?_) ⟨g.sub, fun a x e => ?_, g.trk, fun a e => ?_, g.box, fun a k e => ?_, g.inj, fun a u e hk' => ?_, g.tabs⟩
  · have hne : a ≠ D := fun z => ho i (z ▸ hs)
    show upd Γ.H0 D o a = none
    rw [upd_ne hne]
    obtain ⟨c, _, hc⟩ := I.ownS hs
    exact hc.facts.2.1
  · have hne : a ≠ D := fun q => by rw [q, hk] at e; cases e
    rcases g.new a x e with z | z | ⟨z1, vs, z⟩
    · exact .inl z
    · refine .inr (.inl ?_)
      show upd Γ.H0 D o a = none
      rw [upd_ne hne]
      exact z
    · refine .inr (.inr ⟨z1, vs, ?_⟩)
      show upd Γ.H0 D o a = _
      rw [upd_ne hne]
      exact z
  · by_cases ha : a = D
    · rw [ha, h]; simp
    · have e : upd Γ.H0 D o a ≠ none := e
      rw [upd_ne ha] at e
      exact g.trk0 a e
  · obtain ⟨so, h1, h2⟩ := g.obj a k e
    exact ⟨so, h1, h2.switch rfl rfl⟩
  · have e : upd Γ.H0 D o a = some u := e
    by_cases ha : a = D
    · subst ha
      rw [upd_same] at e
      cases e
      exact h
    · rw [upd_ne ha] at e
      exact g.base a u e hk'
theorem Rl.unprot {D : Addr} {o : HO} (I : Rl (Γ.prot D o) κ env σ H) (nk : Γ.k0 D = none) (h0 : Γ.H0 D = none) (hot : ∀ vs, o ≠ .tup vs := by intro _ z; cases z) : Rl Γ κ env σ H ∧ κ D = none ∧ H D = some o ∧ ∀ i, ¬ OwnS env σ i D := by
  have g := I.gh
  have hD : (Γ.prot D o).H0 D = some o := upd_same
  have kD : κ D = none := by
    cases q : κ D with
    | none => rfl
    | some x =>
      rcases g.new D x q with z | z | ⟨_, vs, z⟩
      · have z : Γ.k0 D = some x := z
        rw [nk] at z; cases z
      · rw [hD] at z; cases z
      · rw [hD] at z; exact (hot vs (Option.some.inj z)).elim
  have ho : ∀ i, ¬ OwnS env σ i D := fun i hs => by
    obtain ⟨c, _, hc⟩ := I.ownS hs
    have := hc.facts.2.1
    rw [hD] at this; cases this
  have low : ∀ a, (Γ.prot D o).H0 a = none → Γ.H0 a = none := fun a z => by
    by_cases ha : a = D
    · rw [ha]; exact h0
    · have z : upd Γ.H0 D o a = none := z
      rw [upd_ne ha] at z; exact z
  have up : ∀ a u, Γ.H0 a = some u → (Γ.prot D o).H0 a = some u := fun a u z => by
    show upd Γ.H0 D o a = some u
    rw [upd_ne (fun q => by rw [q, h0] at z; cases z)]; exact z
  refine ⟨Rl.switch (Γ := Γ.prot D o) (Γ' := Γ) rfl rfl I (fun i a hs => ?_) ⟨g.sub, fun a x e => ?_, g.trk, fun a e => ?_, g.box, fun a k e => ?_, g.inj, fun a u e hk' => g.base a u (up a u e) hk', g.tabs⟩, kD, g.base D o hD (.inl nk), ho⟩
  · obtain ⟨c, _, hc⟩ := I.ownS hs
    exact low a hc.facts.2.1
  · rcases g.new a x e with z | z | ⟨z1, vs, z⟩
    · exact .inl z
    · exact .inr (.inl (low a z))
    · refine .inr (.inr ⟨z1, vs, ?_⟩)
      have z : upd Γ.H0 D o a = some (.tup vs) := z
      rw [upd_ne (fun q => by rw [q, kD] at e; cases e)] at z
      exact z
  · refine g.trk0 a ?_
    cases q : Γ.H0 a with
    | none => exact absurd q e
    | some u => rw [up a u q]; simp
  · obtain ⟨so, h1, h2⟩ := g.obj a k e
    exact ⟨so, h1, h2.switch rfl rfl⟩
def Fam.blk (Y : Fam) (scope : Scope) : Fam where
  ι := Y.ι × Shared × Hp × Addr × List (Str × Addr) × List Addr
  X := fun p => (Y.X p.1).blk p.2.1 p.2.2.1 scope (compEnvC scope p.2.2.2.2.1 p.2.2.2.1 (Y.X p.1).env) p.2.2.2.2.2
  E := fun _ => E0
  K := Y.K
  hK := fun p => Y.hK p.1
  cls := Y.cls
  flds := Y.flds
def wipeC (l : List C) : List Nat → List C
  | [] => l
  | v :: vs => (wipeC l vs).set v .un
def wipeE (vs : List Nat) (e : En) : En := ⟨wipeC e.sl vs, e.st⟩
def restC (old : List C) (l : List C) : List Nat → List C
  | [] => l
  | v :: vs => (restC old l vs).set v (old.getD v .un)
def restE (vs : List Nat) (old e : En) : En := ⟨restC old.sl e.sl vs, e.st⟩
def plainC (l : List C) : List Nat → Bool
  | [] => true
  | v :: vs => (match l.getD v .un with | .d _ => true | .un => true | _ => false) && plainC l vs
theorem wipeC_length (l : List C) : ∀ vs, (wipeC l vs).length = l.length
  | [] => rfl
  | v :: vs => by unfold wipeC; rw [List.length_set, wipeC_length l vs]
theorem restC_length (old l : List C) : ∀ vs, (restC old l vs).length = l.length
  | [] => rfl
  | v :: vs => by unfold restC; rw [List.length_set, restC_length old l vs]
theorem wipeC_get {l : List C} {i : Nat} : ∀ {vs : List Nat}, (wipeC l vs)[i]? = if i ∈ vs then l[i]?.map (fun _ => C.un) else l[i]?
  | [] => by simp [wipeC]
  | v :: vs => by
    unfold wipeC
    by_cases hi : v = i
    · subst hi
      rw [if_pos (by simp)]
      by_cases hl : v < l.length
      · rw [List.getElem?_set_self (by rw [wipeC_length]; exact hl), List.getElem?_eq_getElem hl]; rfl
      · rw [List.getElem?_eq_none (by rw [List.length_set, wipeC_length]; omega), List.getElem?_eq_none (by omega)]; rfl
    · rw [List.getElem?_set_ne hi, wipeC_get (vs := vs)]
      have : i ∈ v :: vs ↔ i ∈ vs := by simp [Ne.symm hi]
      by_cases h : i ∈ vs
      · rw [if_pos h, if_pos (this.mpr h)]
      · rw [if_neg h, if_neg (fun z => h (this.mp z))]
theorem restC_get {old l : List C} {i : Nat} : ∀ {vs : List Nat}, (restC old l vs)[i]? = if i ∈ vs then l[i]?.map (fun _ => old.getD i .un) else l[i]?
  | [] => by simp [restC]
  | v :: vs => by
    unfold restC
    by_cases hi : v = i
    · subst hi
      rw [if_pos (by simp)]
      by_cases hl : v < l.length
      · rw [List.getElem?_set_self (by rw [restC_length]; exact hl), List.getElem?_eq_getElem hl]; rfl
      · rw [List.getElem?_eq_none (by rw [List.length_set, restC_length]; omega), List.getElem?_eq_none (by omega)]; rfl
    · rw [List.getElem?_set_ne hi, restC_get (vs := vs)]
      have : i ∈ v :: vs ↔ i ∈ vs := by simp [Ne.symm hi]
      by_cases h : i ∈ vs
      · rw [if_pos h, if_pos (this.mpr h)]
      · rw [if_neg h, if_neg (fun z => h (this.mp z))]
theorem wipe_get {σ : Sl} {i : Nat} : ∀ {vs : List Nat}, (L2.wipe σ vs)[i]? = if i ∈ vs then σ[i]?.map (fun _ => none) else σ[i]?
  | [] => by simp [L2.wipe]
  | v :: vs => by
    unfold L2.wipe
    by_cases hi : v = i
    · subst hi
      rw [if_pos (by simp)]
      by_cases hl : v < σ.length
      · rw [List.getElem?_set_self (by rw [wipe_length]; exact hl), List.getElem?_eq_getElem hl]; rfl
      · rw [List.getElem?_eq_none (by rw [List.length_set, wipe_length]; omega), List.getElem?_eq_none (by omega)]; rfl
    · rw [List.getElem?_set_ne hi, wipe_get (vs := vs)]
      have : i ∈ v :: vs ↔ i ∈ vs := by simp [Ne.symm hi]
      by_cases h : i ∈ vs
      · rw [if_pos h, if_pos (this.mpr h)]
      · rw [if_neg h, if_neg (fun z => h (this.mp z))]
/-- off vs both are the same -/
theorem wipe_off {vs : List Nat} {σ σ' : Sl} (o : Off vs (L2.wipe σ vs) σ') : L2.wipe σ' vs = L2.wipe σ vs := by
  apply List.ext_getElem?
  intro i
  rw [wipe_get, wipe_get]
  by_cases h : i ∈ vs
  · rw [if_pos h, if_pos h]
    have l := o.1
    rw [wipe_length] at l
    by_cases hl : i < σ.length
    · rw [List.getElem?_eq_getElem hl, List.getElem?_eq_getElem (show i < σ'.length by omega)]; rfl
    · rw [List.getElem?_eq_none (by omega), List.getElem?_eq_none (by omega)]
  · rw [if_neg h, if_neg h, o.2 i h, wipe_get, if_neg h]
theorem OwnS.unwipe {vs : List Nat} {i : Nat} {a : Addr} (h : OwnS (wipeE vs env) (L2.wipe σ vs) i a) : OwnS env σ i a := by
  obtain ⟨z1, c, z2, z3⟩ := h
  have z2 : (wipeC env.sl vs)[i]? = some c := z2
  rw [wipeC_get] at z2
  rw [wipe_get] at z1
  by_cases h : i ∈ vs
  · rw [if_pos h] at z2
    cases q : env.sl[i]? with
    | none => rw [q] at z2; cases z2
    | some c' => rw [q] at z2; cases z2; cases z3
  · rw [if_neg h] at z1 z2
    exact ⟨z1, c, z2, z3⟩
theorem Rl.wipe {vs : List Nat} (I : Rl Γ κ env σ H) : Rl Γ κ (wipeE vs env) (L2.wipe σ vs) H := by
  have sub : ∀ i a, OwnS (wipeE vs env) (L2.wipe σ vs) i a → OwnS env σ i a := fun i a h => h.unwipe
  refine ⟨by rw [wipe_length, I.len]; exact (wipeC_length _ _).symm, fun i c ec => ?_, fun i j a h1 h2 => I.dist i j a (sub i a h1) (sub j a h2), I.gh⟩
  have ec : (wipeC env.sl vs)[i]? = some c := ec
  rw [wipeC_get] at ec
  rw [wipe_get]
  by_cases h : i ∈ vs
  · rw [if_pos h] at ec
    cases q : env.sl[i]? with
    | none => rw [q] at ec; cases ec
    | some c' => rw [q] at ec; cases ec; trivial
  · rw [if_neg h] at ec ⊢
    exact I.get ec
theorem plainC_at {l : List C} : ∀ {ws : List Nat}, plainC l ws = true → ∀ i ∈ ws, l.getD i .un = .un ∨ ∃ d, l.getD i .un = .d d
  | [], _, i, hi => by cases hi
  | w :: ws, h, i, hi => by
    unfold plainC at h
    rw [Bool.and_eq_true] at h
    rcases List.mem_cons.mp hi with rfl | hi
    · cases q : l.getD i .un with
      | un => exact .inl rfl
      | d d => exact .inr ⟨d, rfl⟩
      | own _ => rw [q] at h; cases h.1
      | dK _ => rw [q] at h; cases h.1
      | dT _ => rw [q] at h; cases h.1
    · exact plainC_at h.2 i hi
theorem OwnS.unrest {vs : List Nat} {e0 : En} {i : Nat} {a : Addr} (hp : plainC e0.sl vs = true) (h : OwnS (restE vs e0 env) σ i a) : OwnS env (L2.wipe σ vs) i a := by
  obtain ⟨z1, c, z2, z3⟩ := h
  have z2 : (restC e0.sl env.sl vs)[i]? = some c := z2
  rw [restC_get] at z2
  by_cases h : i ∈ vs
  · rw [if_pos h] at z2
    cases q : env.sl[i]? with
    | none => rw [q] at z2; cases z2
    | some c' =>
      rw [q] at z2
      cases z2
      rcases plainC_at hp i h with z | ⟨d, z⟩ <;> (rw [z] at z3; cases z3)
  · rw [if_neg h] at z2
    exact ⟨by rw [wipe_get, if_neg h]; exact z1, c, z2, z3⟩
/-- the block's names as they were ahead -/
theorem Rl.rest {vs : List Nat} {e0 : En} {κ0 : Ka} {H0 : Hp} (I0 : Rl Γ κ0 e0 σ H0) (hp : plainC e0.sl vs = true) (x : Ext κ0 H0 κ H) (I : Rl Γ κ env (L2.wipe σ vs) H) : Rl Γ κ (restE vs e0 env) σ H := by
  have pl := fun i hi => plainC_at hp i hi
  have hl : env.sl.length = σ.length := by rw [← I.len, wipe_length]
  have sub : ∀ i a, OwnS (restE vs e0 env) σ i a → OwnS env (L2.wipe σ vs) i a := fun i a h => h.unrest hp
  refine ⟨by rw [← hl]; exact (restC_length _ _ _).symm, fun i c ec => ?_, fun i j a h1 h2 => I.dist i j a (sub i a h1) (sub j a h2), I.gh⟩
  have ec : (restC e0.sl env.sl vs)[i]? = some c := ec
  rw [restC_get] at ec
  by_cases h : i ∈ vs
  · rw [if_pos h] at ec
    cases q : env.sl[i]? with
    | none => rw [q] at ec; cases ec
    | some c' =>
      rw [q] at ec
      cases ec
      have hi : i < e0.sl.length := by rw [← I0.len, ← hl]; exact (List.getElem?_eq_some_iff.mp q).1
      have g : e0.sl[i]? = some (e0.sl.getD i .un) := by rw [List.getD_eq_getElem?_getD, List.getElem?_eq_getElem hi]; rfl
      have s := I0.get g
      rcases pl i h with z | ⟨d, z⟩
      · rw [z]; trivial
      · rw [z] at s ⊢
        obtain ⟨w, e1, r⟩ := s
        exact ⟨w, e1, r.mono x⟩
  · rw [if_neg h] at ec
    have s := I.get ec
    rw [wipe_get, if_neg h] at s
    exact s
structure VTs (Y : Fam) (ifs : List Expr) (t : PTT) : Prop where
  ex : ∃ rd : XK → TT, (∀ i, PTs (Y.X i) ifs (rd (Y.E i))) ∧ ∀ (Γ : Gm) (σ : Sl) (κ : Ka) (H : Hp) (env : En) (Q : Bool → En → Prop) (Q' : Bool → Hp → Prop), GK Y Γ → Rl Γ κ env σ H → t Γ.x env Q →
    (∀ b κ' H' env', Ext κ H κ' H' → Rl Γ κ' env' σ H' → Q b env' → Q' b H') → rd Γ.E σ H Q'
def cYes : PTT := fun _ e Q => Q true e
theorem vts_nil : VTs Y [] cYes := ⟨⟨fun _ => tYes, fun _ => pts_nil, fun Γ σ κ H env Q Q' hK I q k => k true κ H env (.refl ..) I q⟩⟩
theorem vts_one {c : Expr} {t : PTT} (h : VT Y c t) : VTs Y [c] t := by
  obtain ⟨ra, pa, fa⟩ := h.ex
  exact ⟨⟨ra, fun i => pts_one (pa i), fa⟩⟩
def noX : PX := fun _ _ => False
def lcR (g : PTG) (tt : PTT) (te : PTE) (vs : List Nat) : List D → List D → En → (List D → En → Prop) → Prop
  | [], acc, e, Q => Q acc e
  | d :: ds, acc, e, Q => g d e fun e1 => tt noX e1 fun b e2 => if b = true then te noX e2 fun r e3 => fz r e3 fun y e4 => lcR g tt te vs ds (acc ++ [y]) (wipeE vs e4) Q else lcR g tt te vs ds acc (wipeE vs e2) Q
def cLc (ti : PTI) (g : PTG) (tt : PTT) (te : PTE) (vs : List Nat) : PTE := fun x e Q => ti x e fun items e1 => items.length ≤ sizeLine ∧ plainC e1.sl vs = true ∧
  lcR g tt te vs items [] (wipeE vs e1) fun acc e2 => Q (.own acc) (restE vs e1 e2)
theorem lc_ref {scope : Scope} {tg it elt : Expr} {ifs : List Expr} {own : List (Str × Nat)} {ti : PTI} {g : PTG} {tt : PTT} {te : PTE} {vs : List Nat} {ri : XK → TI} {rg : TG} {rt : TT} {re : TE}
    (hv : own.map (·.2) = vs)
    (fi : ∀ (Γ : Gm) (σ : Sl) (κ : Ka) (H : Hp) (env : En) (Q : List D → En → Prop) (Q' : It → Hp → Prop), GK Y Γ → Rl Γ κ env σ H → ti Γ.x env Q →
    (∀ J κ' H' items env', Ext κ H κ' H' → Rl Γ κ' env' σ H' → Src Γ.K Γ.cls κ' H' J items → Q items env' → Q' J H') → ri Γ.E σ H Q')
    (fg : ∀ (Γ : Gm) (σ : Sl) (κ : Ka) (H : Hp) (env : En) (v : V) (d : D) (Q : En → Prop) (Q' : Sl → Hp → Prop), GK (Y.blk scope) Γ → Rl Γ κ env σ H → Rep Γ.K Γ.cls κ H v d → g d env Q →
    (∀ σ' env', Off vs σ σ' → Rl Γ κ env' σ' H → Q env' → Q' σ' H) → rg v σ H Q')
    (ft : ∀ (Γ : Gm) (σ : Sl) (κ : Ka) (H : Hp) (env : En) (Q : Bool → En → Prop) (Q' : Bool → Hp → Prop), GK (Y.blk scope) Γ → Γ.E = E0 → Rl Γ κ env σ H → tt Γ.x env Q →
    (∀ b κ' H' env', Ext κ H κ' H' → Rl Γ κ' env' σ H' → Q b env' → Q' b H') → rt σ H Q')
    (fe : ∀ (Γ : Gm) (σ : Sl) (κ : Ka) (H : Hp) (env : En) (Q : R → En → Prop) (Q' : VK), GK (Y.blk scope) Γ → Γ.E = E0 → Rl Γ κ env σ H → te Γ.x env Q →
    (∀ v κ' H' r env', Ext κ H κ' H' → Rl Γ κ' env' σ H' → RelR Γ κ' H' env' σ v r → Q r env' → Q' v H') → re σ H Q')
    {Q : R → En → Prop} {Q' : VK} (hK : GK Y Γ) (I : Rl Γ κ env σ H) (q : cLc ti g tt te vs Γ.x env Q)
    (k : ∀ v κ' H' r env', Ext κ H κ' H' → Rl Γ κ' env' σ H' → RelR Γ κ' H' env' σ v r → Q r env' → Q' v H') : L2.tLc (ri Γ.E) rg rt re (own.map (·.2)) σ H Q' := by
  rw [hv]
  refine fi Γ σ κ H env _ _ hK I q fun J κ1 H1 items e1 x1 I1 src q1 => ?_
  obtain ⟨hz, hp, q1⟩ := q1
  intro D hD
  have kD1 : κ1 D = none := I1.gh.nokap hD
  have hD0 : Γ.H0 D = none := I1.gh.nokap0 hD
  have nk : Γ.k0 D = none := by
    cases z : Γ.k0 D with
    | none => rfl
    | some x => have := I1.gh.sub D x z; rw [kD1] at this; cases this
  have x2 : Ext κ1 H1 κ1 (upd H1 D (.lst [])) := Ext.upd_new I1.gh hD
  have I2 := (I1.upd_new (o := .lst []) hD)
  refine ⟨fun i m H2 => ∃ κ2 e2 acc vacc, Ext κ1 H1 κ2 H2 ∧ Rl Γ κ2 e2 (L2.wipe σ vs) H2 ∧ m = items.length - i ∧ i ≤ items.length ∧ H2 D = some (.lst vacc) ∧ RepL Γ.K Γ.cls κ2 H2 vacc acc ∧ κ2 D = none ∧ (∀ j, ¬ OwnS e2 (L2.wipe σ vs) j D) ∧ acc.length ≤ i ∧
      lcR g tt te vs (items.drop i) acc e2 (fun acc e2 => Q (.own acc) (restE vs e1 e2)), ⟨_, κ1, wipeE vs e1, [], [], x2, I2.wipe, rfl, Nat.zero_le _, upd_same, .nil, kD1, (fun j hj => I1.fresh hD j hj.unwipe), Nat.le_refl _, q1⟩, ?_⟩
  rintro i m H2 ⟨κ2, e2, acc, vacc, y2, J2, rfl, hi, hD2, ra, kD, oD, la, q2⟩
  obtain ⟨s1, s2⟩ := src Γ rfl rfl _ κ2 H2 e2 i J2 y2
  by_cases hlt : i < items.length
  · have hd : items.drop i = items[i] :: items.drop (i + 1) := List.drop_eq_getElem_cons hlt
    rw [hd] at q2
    have P2 := J2.prot hD2 kD oD
    have gk : GK (Y.blk scope) (Γ.prot D (.lst vacc)) := ⟨hK.k, hK.c, hK.f, fun _ _ _ _ _ _ _ _ z _ _ => False.elim z⟩
    obtain ⟨go, _⟩ := s1 items[i] (List.getElem?_eq_getElem hlt)
    refine .inr ⟨go, fun H' => ∃ κ' e' acc' vacc', Ext κ1 H1 κ' H' ∧ Rl Γ κ' e' (L2.wipe σ vs) H' ∧ H' D = some (.lst vacc') ∧ RepL Γ.K Γ.cls κ' H' vacc' acc' ∧ κ' D = none ∧ (∀ j, ¬ OwnS e' (L2.wipe σ vs) j D) ∧ acc'.length ≤ i + 1 ∧
      lcR g tt te vs (items.drop (i + 1)) acc' e' (fun acc e2 => Q (.own acc) (restE vs e1 e2)), fun H' ⟨κ', e', acc', vacc', z1, z2, z3, z4, z5, z6, z7, z8⟩ => ⟨items.length - (i + 1), by omega, κ', e', acc', vacc', z1, z2, rfl, hlt, z3, z4, z5, z6, z7, z8⟩, fun w H' yl => ?_⟩
    -- the item, with the new list standing still
    obtain ⟨s1', _⟩ := src (Γ.prot D (.lst vacc)) rfl rfl _ κ2 H2 e2 i P2 y2
    obtain ⟨_, yy⟩ := s1' items[i] (List.getElem?_eq_getElem hlt)
    obtain ⟨κ3, y3, P3, r3⟩ := yy w H' yl
    refine fg (Γ.prot D (.lst vacc)) _ κ3 H' e2 w _ _ _ gk P3 r3 q2 fun σ4 e4 o4 P4 q4 => ?_
    refine ⟨wipe_off o4, ft (Γ.prot D (.lst vacc)) σ4 κ3 H' e4 _ _ gk rfl P4 q4 fun bb κ5 H5 e5 y5 P5 q5 => ?_⟩
    have w4 : L2.wipe σ4 vs = L2.wipe σ vs := wipe_off o4
    cases bb with
    | true =>
      rw [if_pos rfl] at q5 ⊢
      refine fe (Γ.prot D (.lst vacc)) σ4 κ5 H5 e5 _ _ gk rfl P5 q5 fun u κ6 H6 r6 e6 y6 P6 h6 q6 => ?_
      refine fz_ok P6 h6 q6 fun κ7 d e7 y7 P7 r7 q7 => ?_
      obtain ⟨J7, k7, hD7, o7⟩ := P7.unprot nk hD0
      have y27 : Ext κ2 H2 κ7 H6 := ((y3.trans y5).trans y6).trans y7
      refine ⟨vacc, hD7, Nat.lt_of_le_of_lt (by rw [ra.length]; exact la) (Nat.lt_of_lt_of_le hlt hz), ?_⟩
      have y8 : Ext κ7 H6 κ7 (upd H6 D (.lst (vacc ++ [u]))) := Ext.upd k7
      have J8 : Rl Γ κ7 e7 σ4 (upd H6 D (.lst (vacc ++ [u]))) := J7.step (st' := e7.st) y8 (fun j c hj => ⟨by
        obtain ⟨c', _, hc⟩ := J7.ownS hj
        exact hc.facts.1, upd_ne fun z => o7 j (z ▸ hj)⟩) (J7.gh.upd k7 hD0)
      have J9 : Rl Γ κ7 (wipeE vs e7) (L2.wipe σ vs) (upd H6 D (.lst (vacc ++ [u]))) := by rw [← w4]; exact J8.wipe
      refine ⟨κ7, wipeE vs e7, acc ++ [d], vacc ++ [u], y2.trans (y27.trans y8), J9, upd_same, (ra.mono (y27.trans y8)).append (.cons (r7.mono y8) .nil), k7, fun j hj => ?_, by simp only [List.length_append, List.length_singleton]; omega, q7⟩
      rw [← w4] at hj
      exact o7 j hj.unwipe
    | false =>
      rw [if_neg Bool.false_ne_true] at q5 ⊢
      obtain ⟨J7, k7, hD7, o7⟩ := P5.unprot nk hD0
      have y27 : Ext κ2 H2 κ5 H5 := y3.trans y5
      refine ⟨κ5, wipeE vs e5, acc, vacc, y2.trans y27, by rw [← w4]; exact J7.wipe, hD7, ra.mono y27, k7, fun j hj => ?_, by omega, q5⟩
      rw [← w4] at hj
      exact o7 j hj.unwipe
  · have e : i = items.length := by omega
    subst e
    rw [List.drop_length] at q2
    refine .inl ⟨s2 rfl, ?_⟩
    have J3 : Rl Γ κ2 (restE vs e1 e2) σ H2 := Rl.rest I1 hp y2 J2
    refine k (.ref D) κ2 H2 (.own acc) (restE vs e1 e2) (x1.trans y2) J3 ⟨D, rfl, ⟨kD, hD0, vacc, hD2, by rw [ra.length]; exact Nat.le_trans la hz, ra⟩, fun j hj => ?_⟩ q2
    exact oD j (hj.unrest hp)
end
end Pu
set_option maxRecDepth 100000
set_option maxHeartbeats 400000
namespace Pu
open PySem L2 PySem.Spec PyProof.Rows
/-- a def's promise where no guard stands -/
structure FnG (P : Program) (w : World) (K : PySem.W.Frag) (mg : Str → Option Value) (base : Heap) (CX : CXT) (k : Nat) (f : Addr) (fd : FuncData) (ps : List Str) (sp : Sp) : Prop where
  many : ∀ us H Q E, sp us H Q E → us.length = ps.length
  go : ∀ (A : Around) (out : List Env) (t : Shared) (H : Hp) (ar : Args) (gs : List Value) (us : List V) (Q : VK) (E : XK), Room k A → A.guards = some [] → Env0 P w K mg base A out t H → BindsTo t fd ar (ps.zip gs) →
    Vals us gs → sp us H Q E → codeAny (model P w) A (.call (.ref f) ar) (CR CX out P w H t Q E) t
section
variable {P : Program} {w : World} {K : PySem.W.Frag} {mg : Str → Option Value} {base : Heap} {CX : CXT} {j k : Nat} {f : Addr} {fd : FuncData} {ps : List Str} {sp sp' : Sp}
theorem FnG.of (F : FnOk P w K mg base CX k f fd ps sp) : FnG P w K mg base CX k f fd ps sp :=
  ⟨F.len, fun A out t H ar gs us Q E r _ => F.run A out t H ar gs us Q E r⟩
theorem FnG.mono (F : FnG P w K mg base CX j f fd ps sp) (h : j ≤ k) : FnG P w K mg base CX k f fd ps sp :=
  ⟨F.many, fun A out t H ar gs us Q E r => F.go A out t H ar gs us Q E (r.mono h)⟩
theorem FnG.imp (F : FnG P w K mg base CX k f fd ps sp) (h : ∀ us H Q E, sp' us H Q E → sp us H Q E) : FnG P w K mg base CX k f fd ps sp' :=
  ⟨fun us H Q E z => F.many us H Q E (h _ _ _ _ z), fun A out t H ar gs us Q E r hg e b v z => F.go A out t H ar gs us Q E r hg e b v (h _ _ _ _ z)⟩
end
section
variable {X : Cx} {CX : CXT} {k : Nat} {f : Addr} {fd : FuncData} {ps : List Str} {sp : Sp} {dvs : List V} {ds : List Value} {E : XK} {x : Str} {p pos : Pos} {e : Expr} {es : List Expr} {t : TA}
theorem goG {pins : List (Addr × Obj)} {σ : L2.St} {H : Hp} {s : Shared} {Q : VK} {gs : List Value} {us : List V} (F : FnG X.prog X.w X.K X.mg X.base CX k f fd ps sp) (hr : Room k X.A) (hgd : X.A.guards = some []) (hb : Binds X.K fd ps ds) (hd : Vals dvs ds) (hx : Passes CX X E)
    (I : Inv X pins σ H s) (r : Vals us gs) (h : sp (us ++ dvs) H Q E) : wpAny (model X.prog X.w) X.A (call (.ref f) gs) (EP X pins σ Q) X.xe s := by
  have rr := r.append hd
  have hl : (gs ++ ds).length = ps.length := rr.length.symm.trans (F.many _ _ _ _ h)
  have body := F.go X.A X.stack s H ⟨gs, []⟩ _ _ Q E hr hgd I.env0 (hb s gs I.kIn hl) rr h
  refine wpAny_call (codeAny_mono body fun res s' z => ?_)
  match res, z with
  | .error e, z => exact hx pins σ H s e s' I z
  | .ok (.ret u), z => exact I.after z
theorem pe_callG (F : FnG X.prog X.w X.K X.mg X.base CX k f fd ps sp) (hr : Room k X.A) (hgd : X.A.guards = some []) (hg : Gl X x) (hm : X.mg x = some (.ref f)) (hk : PySem.W.keepIn X.K (.ref f) = true) (hb : Binds X.K fd ps ds) (hd : Vals dvs ds) (hx : Passes CX X E)
    (ha : PA X (e :: es) t) (hdb : (x == ("__debug__" : Str)) = false := by decide) (he : starEach (e :: es) X.env = (false, eval e X.env) :: starEach es X.env := by rfl) (hpl : (backTo pos (starEach es X.env)).any (·.1) = false := by rfl) :
    PE X (.Call (.Name x p) (e :: es) [] pos) (tCall sp dvs E t) := by
  constructor
  intro pins s σ H Q I z
  refine wpAny_Call_Name_kw (ld_glob I hg hm (PySem.W.callWith_K (h₀ := X.base) I.ok.mod.kin hk ?_ he hpl) hdb)
  exact thn (ha.run pos pins s σ H _ I z) fun gs s1 ⟨us, H1, J, r, q⟩ => ⟨J.kIn, goG F hr hgd hb hd hx J r q⟩
end
section
variable {P : Program} {w : World} {K : PySem.W.Frag} {mg : Str → Option Value} {base : Heap}
/-- a def, from its body -/
theorem fnG_of {CX : CXT} {k : Nat} {x qual : Str} {st : Stmt} {f : Addr} {fd : FuncData} {N ps : List Str} {sp : Sp} (F : Fun K x qual st f fd) (S : FnScope N ps (defScope st)) (many : ∀ us H Q E, sp us H Q E → us.length = ps.length)
    (hbody : ∀ (cdv : Value) (A : Around) (out : List Env) (t : Shared) (H : Hp) (us : List V) (Q : VK) (E : XK), Room k (A.deeper (envOfC qual (defScope st) t.heap.objs.size f cdv)) → A.guards = some [] → sp us H Q E →
      ∃ r, PSs (cxOf CX P w K mg base N qual (defScope st) f cdv A out t H E) (defBody st) r ∧ r { nx := fun _ H' => Q .non H', rt := Q } (L2.start N us) H) : FnG P w K mg base CX (k + 1) f fd ps sp := by
  obtain ⟨oc, od, kV, doc, pm, an, cdv, ct, osl, hfd, look, code⟩ := F.ex
  subst hfd
  constructor
  · exact many
  intro A out t H ar gs us Q E room hgd e0 bind vals want
  have kept : ∀ b o, base.get? b = some o → t.heap.get? b = some o := fun b o z => (e0.bs b o z).1
  have inK : K.In t.heap := e0.mod.kin.keeps kept
  have par : ∀ y ∈ ps.zip gs, (defScope st).names.lookup y.1 = some .local ∨ ((defScope st).names.lookup y.1 = some .cell ∧ ((cellsFrom (t.heap.objs.size + 1) (defScope st).names []).lookup y.1).isSome = true) := by
    intro y hy
    have hy1 : y.1 ∈ ps := by
      obtain ⟨n, v⟩ := y
      exact (List.of_mem_zip hy).1
    exact (S.par y.1 hy1).imp id fun z => ⟨z, PySem.W.cellsFrom_some _ _ _ (.inl z)⟩
  refine codeAny_call_function room.depth (inK _ _ look) rfl S.co S.gen rfl (PySem.W.codeRec_of inK code) (bind _ _ _ _ ?_)
  refine wpAny_newFunctionEnv_cells S.kind par fun env heq t1 x => ?_
  subst heq
  refine ⟨(e0.mod.nolimit.keeps kept).keeps x.toInCall.keep, codeAny_func ?_⟩
  obtain ⟨r, hr, hq⟩ := hbody cdv A out t H us Q E (room.deeper _) hgd want
  have I0 := inv_start (CX := CX) (E := E) S room.hd e0 (many _ _ _ _ want) vals x
  refine wpAny_mono (hr.run [] t1 (L2.start N us) H _ I0 hq) (fun fl t2 z => ?_) fun _ _ z => z
  have fin : ∀ {σ' : L2.St} {H' : Hp} {v : V} {u : Value}, Inv (cxOf CX P w K mg base N qual (defScope st) f cdv A out t H E) [] σ' H' t2 → RelV v u → Q v H' → CE out P w H t Q u t2 := fun {σ' H' v u} J rv q => ⟨v, H', J.os, J.bare, J.base, J.hok, rv, q⟩
  cases fl with
  | ret u => obtain ⟨v, σ', H', J, rv, q⟩ := z; exact fin J rv q
  | next => obtain ⟨σ', H', J, q⟩ := z; exact fin (v := V.non) (u := Value.none) J rfl q
  | brk => obtain ⟨σ', H', J, q⟩ := z; exact False.elim q
  | cont => obtain ⟨σ', H', J, q⟩ := z; exact False.elim q
end
end Pu
set_option maxRecDepth 100000
set_option maxHeartbeats 1000000
namespace Pu
open PySem L2 PySem.Spec PyProof.Rows
/-- what stands behind the top: the script alone may be tracked -/
theorem lawG_at {P : Program} {w : World} {K : PySem.W.Frag} {mg mb : Str → Option Value} {k : Nat} {fa a : Addr} {fd : FuncData} {x : Str} {sp : Sp} {s0 : Shared} {us : List Value} {H : Hp}
    (inK : K.In s0.heap) (ns1 : s0.heap.Ns mainGlobals mg) (ns2 : s0.heap.Ns builtinsNs mb) (boot : ∀ y : Str, y ≠ "__name__" → mb y = bootBuiltins y) (lim : s0.heap.NoLimit) (gen : s0.gens = #[])
    (obj : s0.heap.get? a = some { cls := .type "list", data := .seq us.toArray }) (room : Room k callerA)
    (F : ∀ base : Heap, K.In base → base.Ns mainGlobals mg → FnG P w K mg base CX0 k fa fd [x] sp) (bind : ∀ (s : Shared) (u : Value), BindsTo s fd ⟨[u], []⟩ [(x, u)])
    (only : Only H) (want : sp [.ref a] H (fun v _ => v = .bl true) fun _ _ _ => False) (ok : HOk P w H s0.heap) (one : ∀ b, H b ≠ none → b = a) (out : H a ≠ none → K.lookup a = none) :
    codeAny (model P w) callerA (.call (.ref fa) ⟨[.ref a], []⟩) (fun r s' => r = .ok (.ret (.bool true)) ∧ OldK s0.heap s'.heap ∧ s'.os = s0.os ∧ AllBare s'.gens) s0 := by
  have hid : ∀ {b : Addr} {o : Obj}, s0.heap.get? b = some o → H b = none → (hidT s0.heap H).get? b = some o := fun z n => hidT_get z n
  have nodict : ∀ {b : Addr} {o : Obj} {es : Array DictEntry} {ep : Nat}, s0.heap.get? b = some o → o.data = .dict es ep → H b = none := by
    intro b o es ep z d
    cases q : H b with
    | none => rfl
    | some u =>
      have hb := one b (by rw [q]; exact fun y => nomatch y)
      rw [hb, obj] at z
      cases z
      cases (show Data.seq us.toArray _ = Data.dict es ep from d)
  have ns : ∀ {b : Addr} {m : Str → Option Value}, s0.heap.Ns b m → (hidT s0.heap H).Ns b m := by
    rintro b m ⟨o, es, ep, z, d, r⟩
    exact ⟨o, es, ep, hid z (nodict z d), d, r⟩
  have inB : K.In (hidT s0.heap H) := by
    intro b o z
    refine hid (inK b o z) ?_
    cases q : H b with
    | none => rfl
    | some u =>
      have hb := one b (by rw [q]; exact fun y => nomatch y)
      subst hb
      rw [out (by rw [q]; exact fun y => nomatch y)] at z
      cases z
  obtain ⟨mc, l1, l2⟩ := lim
  have env : Env0 P w K mg (hidT s0.heap H) callerA [] s0 H :=
    ⟨rfl, ⟨inB, ns ns1, ⟨mb, ns ns2, boot⟩, ⟨mc, ns l1, l2⟩⟩, fun b o z => of_hidT z, Nat.le_of_eq (hidT_size _ _), trivial, fun b hb => (List.not_mem_nil hb).elim, ok, .of_eq gen⟩
  have run := (F _ inB (ns ns1)).go callerA [] s0 H ⟨[.ref a], []⟩ [.ref a] [.ref a] _ _ room rfl env (bind s0 (.ref a)) (.cons rfl .nil) want
  refine codeAny_mono run fun r s' z => ?_
  cases r with
  | error e => exact False.elim z
  | ok fl =>
    cases fl with
    | next => exact False.elim z
    | brk => exact False.elim z
    | cont => exact False.elim z
    | ret u =>
      obtain ⟨v, H', os, bare, un, ok', rel, q⟩ := z
      have q : v = .bl true := q
      subst q
      have rel : u = Value.bool true := rel
      subst rel
      refine ⟨rfl, OldK.of_keep ?_, os, bare⟩
      intro b o z
      cases q : H b with
      | none => exact un.keep b o z q (fun y => List.not_mem_nil y) (fun y => List.not_mem_nil y)
      | some u =>
        rcases only b with y | ⟨ob, xs, y⟩
        · rw [q] at y; cases y
        · have y1 := (ok b _ y).1
          have y2 := (ok' b _ (un.frzs b ob _ y)).1
          rw [z] at y1
          cases y1
          exact y2
theorem walkG {l : PySem.W.OpenLaw} {q : Program} {loose : List Str} {XP : (Str → Option Value) → Heap → Prop} {YP : World → Heap → Prop} {d : DefRec} {K : Params → PySem.W.Frag} {k : Nat} {sp : PySem.W.Frag → Sp} (room : Room k callerA) (most : l.most = some 63) (nodef : d.params.defaults = [])
    (hY : ∀ (w : World) (h : Heap), YP w h → (K w.params).In h)
    (F : ∀ (w : World) (mg : Str → Option Value) (fa : Addr) (h : Heap), (K w.params).In h → h.Ns mainGlobals mg → mg d.name = some (.ref fa) →
      ∃ fd : FuncData, (∀ (s : Shared) (u : Value), BindsTo s fd ⟨[u], []⟩ [("_law_script", u)]) ∧ ∀ base : Heap, (K w.params).In base → base.Ns mainGlobals mg → FnG l.prog w (K w.params) mg base CX0 k fa fd ["_law_script"] (sp (K w.params)))
    (hsp : ∀ (w : World) (H : Hp) (a : Addr) (ns : List Int), ns.length ≤ 63 → SqL (K w.params) H a (ns.map V.int) → sp (K w.params) [.ref a] H (fun v _ => v = .bl true) fun _ _ _ => False) :
    PySem.W.WalkO q loose XP YP l.row.toRowW d [] (fun f vs => PySem.call f vs) := by
  refine Att.attach_call most nodef ?_
  intro w s1 s0 mg mb fa o pm cd doc a us ns G Y ho hd hcd hmg obj areI len gen
  have inK := hY w _ Y
  obtain ⟨fd, bind, F⟩ := F w mg fa _ inK G.T.g hmg
  have lens := areI.length
  have vals := vals_ints areI
  have short : ns.length ≤ sizeLine := Nat.le_trans len (by decide)
  have go := fun (H : Hp) (o1 : Only H) (o2 : SqL (K w.params) H a (ns.map V.int)) => lawG_at (H := H) inK G.T.g G.T.b G.T.builtins G.T.nolimit gen obj room F bind o1 (hsp w H a ns len o2)
  cases hk : (K w.params).lookup a with
  | some o' =>
    have z := inK a o' hk
    rw [obj] at z
    cases z
    refine go (fun _ => none) (fun _ => .inl rfl) (.inr ⟨_, us.toArray, _, hk, rfl, rfl, rfl, ?_, by simpa using vals⟩) (fun b u z => nomatch z) (fun b z => absurd rfl z) fun z => absurd rfl z
    rw [List.size_toArray, lens]
    exact short
  | none =>
    have at_ : ∀ b, b ≠ a → (if b = a then some (HO.frz { cls := .type "list", data := .seq us.toArray } (.lst (ns.map V.int))) else none) = none := fun b z => if_neg z
    refine go (fun b => if b = a then some (.frz { cls := .type "list", data := .seq us.toArray } (.lst (ns.map V.int))) else none) (fun b => ?_) (.inl (.inr ⟨_, if_pos rfl⟩)) (fun b u z => ?_) (fun b z => ?_) fun _ => hk
    · by_cases y : b = a
      · right; exact ⟨_, _, if_pos y⟩
      · left; exact at_ b y
    · by_cases y : b = a
      · subst y
        cases (if_pos rfl).symm.trans z
        exact ⟨obj, by rw [List.length_map]; exact short, us, _, vals, obj⟩
      · cases (at_ b y).symm.trans z
    · exact Decidable.byContradiction fun y => z (at_ b y)
end Pu
set_option maxRecDepth 100000
set_option maxHeartbeats 2000000
namespace PuE
open PySem PySem.Spec PyProof.Rows L2 RT PySem.W
theorem norev_str : typeLookup (.type "str") "__reversed__" = pure none := by rw [typeLookup_type, builtinLookup_eq_fast]; kernel_rfl
theorem get_str : typeLookup (.type "str") "__getitem__" = pure (some (.builtin "str.__getitem__")) := by rw [typeLookup_type, builtinLookup_eq_fast]; kernel_rfl
theorem sub_str_dict : isSubtype (.type "str") (.type "dict") = pure false := by rw [isSubtype_type]; kernel_rfl
def rsObj (x : Str) (t : Tok) (i : Int) : Obj := { cls := .type "reversed", data := .fields #[.str x t, rawInt i] }
def IsRs (h : Heap) (a : Addr) (x : Str) (t : Tok) (i : Int) : Prop := ∃ o, h.get? a = some o ∧ o.cls = .type "reversed" ∧ o.data = .fields #[.str x t, rawInt i]
theorem IsRs.at {h h' : Heap} {a : Addr} {x : Str} {t : Tok} {i : Int} (y : IsRs h a x t i) (e : ∀ o, h.get? a = some o → h'.get? a = some o) : IsRs h' a x t i := let ⟨o, ho, r⟩ := y; ⟨o, e _ ho, r⟩
section
variable {prog : Program} {w : World} {A : Around} {E : Value → Shared → Prop} {s : Shared}
theorem IsRs.typeIs {a : Addr} {x : Str} {t : Tok} {i : Int} (y : IsRs s.heap a x t i) : s.TypeIs (.ref a) "reversed" := let ⟨o, ho, hc, _⟩ := y; ⟨o, ho, hc⟩
theorem code_reversed_str {x : Str} {t : Tok} {Q₁ : Value → Shared → Prop} (hfit : ¬ (x.length : Int) ≥ 2 ^ 63)
    (h : Q₁ (.ref s.heap.objs.size) { s with heap := s.heap.push (rsObj x t ((x.length : Int) - 1)), toks := s.toks + 1 + 1 }) :
    codeAny (model prog w) A (.call (.builtin "reversed.__new__") ⟨[.type "reversed", .str x t], []⟩) (wants Q₁ E) s := by
  have hT : s.TypeIs (.str x t) "str" := typeIs_str s x t
  refine codeAny_of_tree ?_
  show wpAny _ A.in1 (do checkBuiltinCall "reversed.__new__" ⟨[.type "reversed", .str x t], []⟩; again (.builtin "reversed.__new__" ⟨[.type "reversed", .str x t], []⟩)) _ _ s
  refine wpAny_bind (wpAny_of_eq (F.newCall_reversed_1 _) (wpAny_pure ⟨plainId_quiet F.plain_reversed_new _, codeAny_builtin F.entry_reversed_new ?_⟩))
  rw [Around.under_plainId F.plain_reversed_new _]
  unfold Builtin.«reversed.__new__»
  refine wpAny_bind (wpAny_of_eq (newClass_reversed _) ?_)
  try dsimp only
  refine wpAny_bind (wpAny_of_eq (a := ()) (by first | rfl | kernel_rfl) ?_)
  try dsimp only
  refine wpAny_bind (wpAny_of_eq (a := ()) (by first | rfl | kernel_rfl) ?_)
  try dsimp only
  refine wpAny_bind (wpAny_specialOf hT norev_str ?_)
  try dsimp only
  refine wpAny_bind ?_
  wp_delta
  refine wpAny_bind (wpAny_isInstance (T := "str") (U := "dict") (b := false) hT sub_str_dict ?_)
  try dsimp only
  try rw [if_neg Bool.false_ne_true]
  try dsimp only
  refine wpAny_bind (wpAny_specialOf hT get_str ?_)
  try dsimp only
  try rw [if_pos (by decide +kernel)]
  refine wpAny_pure ?_
  try dsimp only
  try rw [if_neg (by decide)]
  try dsimp only
  refine wpAny_bind (PyProof.Rows.len_str hfit ?_)
  refine wpAny_bind (wpAny_of_eq (a := some ((x.length : Nat) : Int)) rfl ?_)
  try dsimp only
  refine wpAny_bind ?_
  show wpAny _ _ (newObj (.type "reversed") (.fields #[.str x t, rawInt ((x.length : Int) - 1)])) _ _ _
  refine wpAny_newObj_type ?_
  exact wpAny_pure h
theorem call_reversed_str {x : Str} {t : Tok} {Q : Value → Shared → Prop} (hfit : ¬ (x.length : Int) ≥ 2 ^ 63)
    (h : Q (.ref s.heap.objs.size) { s with heap := s.heap.push (rsObj x t ((x.length : Int) - 1)), toks := s.toks + 1 + 1 }) : wpAny (model prog w) A (call (.type "reversed") [.str x t]) Q E s := by
  refine callType_codes (Q₁ := fun obj s₁ => s₁.TypeIs obj "reversed" ∧ Q obj s₁) called_rt (F.typeCall_reversed_1 _) F.entry_object_init
    (code_reversed_str (A := A.in1) hfit ⟨⟨_, Heap.get?_push_size _ rfl, rfl⟩, h⟩) fun obj s₁ h₁ => ?_
  exact ⟨h₁.1, F.args_object_init_2 obj _, object_init_meets called_rt.init.lookup called_rt.made (by decide) prog w A.in1 _ s₁ ⟨h₁.1, rfl, h₁.2⟩⟩
theorem next_rs_item {it : Addr} {y : Str} {t : Tok} {i c : Nat} {Q : Option Value → Shared → Prop} (hit : IsRs s.heap it y t (i : Int)) (hx : y.cps[i]? = some c) (hsz : y.length ≤ sizeLine)
    (hQ : ∀ h' u tk, IsRs h' it y t ((i : Int) - 1) → Heap.SameBut it s.heap h' → Q (some (.str ⟨#[c]⟩ u)) { s with heap := h', toks := tk }) : wpAny (model prog w) A (pyNext (.ref it)) Q E s := by
  obtain ⟨o, ho, hc, hd⟩ := id hit
  have hi : i < y.length := (Array.getElem?_eq_some_iff.mp hx).1
  have hT : s.TypeIs (.str y t) "str" := typeIs_str s y t
  rw [sizeLine_eq] at hsz
  unfold pyNext
  refine wpAny_bind (wpAny_attempt (wpAny_callSpecial?_slot (name := Str.ofString "__next__") hit.typeIs slot_rt_next
    (wpAny_call_entry slot_rt_next hit.typeIs entry_rt_next ?_ (args_rt_next _))))
  unfold Builtin.«reversed.__next__»
  refine wpAny_bind (wpAny_of_eq (a := (Value.ref it, [])) rfl ?_)
  try dsimp only
  refine wpAny_bind (wpAny_field ho hd (x := .str y t) rfl ?_)
  try dsimp only
  refine wpAny_bind (wpAny_field ho hd (x := rawInt (i : Int)) rfl ?_)
  show wpAny _ _ (if (i : Int) < 0 then _ else _) _ _ s
  rw [if_neg (by omega)]
  try dsimp only
  refine wpAny_bind (wpAny_specialOf hT get_str ?_)
  try dsimp only
  try rw [if_neg (by decide)]
  try dsimp only
  refine wpAny_bind (wpAny_mkInt ?_)
  refine wpAny_bind (wpAny_attempt ?_)
  have fin : (seqIndex? (i : Int) y.length).bind (y.cps[·]?) = some c := by rw [seqIndex_of (by omega) (by omega)]; simpa using hx
  refine PyProof.Rows.getItem_str (s := { s with toks := s.toks + 1 }) (by
    have e1 : decide ((i : Int) < -(2 ^ 63 : Int)) = false := decide_eq_false (by omega)
    have e2 : decide ((i : Int) ≥ 2 ^ 63) = false := decide_eq_false (by omega)
    rw [e1, e2, Bool.or_false]) fin ?_
  try dsimp only
  refine wpAny_bind (wpAny_field (s := { s with toks := s.toks + 1 + 1 }) ho hd (x := rawInt (i : Int)) rfl ?_)
  try dsimp only
  refine wpAny_bind (wpAny_setField (s := { s with toks := s.toks + 1 + 1 }) ho hd (by simp) ?_)
  first
  | refine wpAny_pure ⟨_, rfl, wpAny_pure (hQ _ _ _ ?_ (Heap.SameBut.update ..))⟩
  | refine wpAny_bind (wpAny_pure (wpAny_pure ⟨_, rfl, wpAny_pure (hQ _ _ _ ?_ (Heap.SameBut.update ..))⟩))
  exact ⟨_, Heap.get?_update_self _ ho (Obj.isFreed_of_fields (Obj.data_mapFields hd _)), (Obj.cls_mapFields ..).trans hc, by
    rw [Obj.data_mapFields hd]; simp⟩
theorem next_rs_end {it : Addr} {x : Str} {t : Tok} {Q : Option Value → Shared → Prop} (hh : A.handled = none) (hit : IsRs s.heap it x t (-1))
    (hQ : ∀ h', Heap.ExtBut it s.heap h' → Q none { s with heap := h' }) : wpAny (model prog w) A (pyNext (.ref it)) Q E s := by
  obtain ⟨o, ho, hc, hd⟩ := id hit
  unfold pyNext
  refine wpAny_bind (wpAny_attempt (wpAny_callSpecial?_slot (name := Str.ofString "__next__") hit.typeIs slot_rt_next
    (wpAny_call_entry slot_rt_next hit.typeIs entry_rt_next ?_ (args_rt_next _))))
  unfold Builtin.«reversed.__next__»
  refine wpAny_bind (wpAny_of_eq (a := (Value.ref it, [])) rfl ?_)
  try dsimp only
  refine wpAny_bind (wpAny_field ho hd (x := .str x t) rfl ?_)
  try dsimp only
  refine wpAny_bind (wpAny_field ho hd (x := rawInt (-1)) rfl ?_)
  show wpAny _ _ (if (-1 : Int) < 0 then _ else _) _ _ s
  rw [if_pos (by decide)]
  try dsimp only
  refine wpAny_bind (wpAny_rule ?_)
  refine wpAny_bind ?_
  wp_delta
  refine wpAny_bind (wpAny_setField ho hd (by simp) ?_)
  have ho2 := Heap.get?_update_self (Obj.mapFields (·.setIfInBounds 1 (rawInt (-1)))) ho (Obj.isFreed_of_fields (Obj.data_mapFields hd _))
  refine wpAny_setField (s := { s with heap := s.heap.update it (Obj.mapFields (·.setIfInBounds 1 (rawInt (-1)))) }) ho2 (Obj.data_mapFields hd _) (by simp) ?_
  try dsimp only
  first
  | show wpAny _ _ (newExc (.type "StopIteration") [] >>= _) _ _ _
  | (refine wpAny_bind ?_; show wpAny _ _ (newExc (.type "StopIteration") [] >>= _) _ _ _)
  | (refine wpAny_bind ?_; wp_delta; show wpAny _ _ (newExc (.type "StopIteration") [] >>= _) _ _ _)
  refine wpAny_bind ?_
  simp only [newExc, newTuple]
  refine wpAny_bind (wpAny_newObj_type ?_ (by size_fits))
  refine wpAny_bind (m := firstArgMember _ _) (wpAny_of_eq (a := Value.none) (by first | rfl | (simp only [firstArgMember]; rfl)) ?_)
  refine wpAny_newObj_type ?_ (by size_fits)
  simp only [raiseNew]
  refine wpAny_bind (wpAny_handled ?_)
  first | rw [show A.in1.handled = none from hh] | rw [hh]
  refine wpAny_bind (wpAny_pure (wpAny_throw ?_))
  refine wpAny_bind (wpAny_isInstance (T := "StopIteration") (b := true) ⟨_, Heap.get?_push_size _ rfl, rfl⟩ isSubtype_stop ?_)
  refine wpAny_pure (hQ _ ?_)
  refine ((?_ : Heap.ExtBut it s.heap _).push _).push _
  exact fun b ob hb e => (Heap.get?_update_other _ _ (Ne.symm hb)).trans ((Heap.get?_update_other _ _ (Ne.symm hb)).trans e)
theorem iter_rs {it : Addr} {x : Str} {t : Tok} {i : Int} {Q : Value → Shared → Prop} (hit : IsRs s.heap it x t i) (h : Q (.ref it) s) : wpAny (model prog w) A (pyIter (.ref it)) Q E s := by
  refine wpAny_pyIter_slot hit.typeIs slot_rt_iter (wpAny_call_entry slot_rt_iter hit.typeIs entry_rt_iter ?_ (args_rt_iter _))
  show wpAny _ _ (ret (.ref it)) _ _ s
  exact wpAny_pure ⟨_, rfl, "reversed", _, hit.typeIs, slot_rt_next.lookup, h⟩
theorem hint_str {x : Str} {t : Tok} {Q : Bool → Shared → Prop} (h : Q false s) : wpAny (model prog w) A (Builtin.List.listLengthHint (.str x t)) Q E s := by
  have hT : s.TypeIs (.str x t) "str" := typeIs_str s x t
  unfold Builtin.List.listLengthHint
  refine wpAny_bind (wpAny_specialOf hT PySem.F.slot_str_len.lookup ?_)
  generalize hid : ("str.__len__" : String) = id0
  wp_delta
  rw [show splitId id0 = some ("str", "__len__") from by subst hid; decide +kernel]
  subst hid
  refine wpAny_bind (wpAny_isInstance (T := "str") (b := true) hT (by rw [isSubtype_type]; kernel_rfl) ?_)
  refine wpAny_ite_split (fun hab => absurd hab (by decide)) (fun _ => ?_)
  refine wpAny_ite_split (fun _ => ?_) (fun hab => absurd (by decide +kernel) hab)
  refine wpAny_bind (wpAny_typeOf hT ?_)
  exact wpAny_pure h
theorem ks_extend {R : Result → Shared → Prop} {x : Str} {t : Tok} (hh : A.handled = none) (S : Addr) (res : Value) (c₀ : Nat) (hS : s.heap.get? S = some { cls := .type "list", data := .seq #[] c₀ })
    (hR : ∀ h' tk acc' c', (∀ b o, b ≠ S → s.heap.get? b = some o → h'.get? b = some o) → h'.get? S = some { cls := .type "list", dict := none, data := .seq acc' c', slots := #[] } → ItemsOf (SignAt x) acc' x.cps.size → R (.ok (.ret res)) { s with heap := h', toks := tk }) (hn : x.cps.size ≤ sizeLine) :
    wpAny (model prog w) A.in1 (Builtin.List.listExtendWith (.ref S) (.str x t) res)
      (fun fin s' => match fin with | .done f => R (.ok f) s' | .again c' => c'.quiet = true ∧ codeAny (model prog w) A c' R s') (fun e s' => R (.error e) s') s := by
  have hSI : S ≠ s.heap.objs.size := Nat.ne_of_lt (Heap.lt_size hS)
  have hSf : S ∉ [s.heap.objs.size] := by simp only [List.mem_cons, List.not_mem_nil, or_false]; exact hSI
  unfold Builtin.List.listExtendWith
  refine wpAny_bind (wpAny_typeOf (T := "str") (typeIs_str s x t) ?_)
  have h1 : Builtin.List.listSameRef (.ref S) (.str x t) = false := by simp [Builtin.List.listSameRef]
  rw [if_neg (by rw [h1]; decide)]
  refine wpAny_bind (wpAny_pyIter_str fun oI St hW st => ?_)
  have W := hW A.in1 hh
  refine wpAny_bind (wpAny_holding (hint_str ?_))
  have hS₁ := Heap.get?_push_of_some oI hS
  have key : ∀ (h : Heap) (c₁ tk : Nat), St 0 h → (∀ b o, b ≠ S → s.heap.get? b = some o → h.get? b = some o) →
      h.get? S = some { cls := .type "list", data := .seq #[] c₁ } → codeAny (model prog w) A (.builtin "list.extend.loop" ⟨[.ref S, .ref s.heap.objs.size, res], []⟩) R { s with heap := h, toks := tk } := by
    intro h c₁ tk hst hk hS₁
    refine codeAny_extend_loopS W.toS hn S hSf res x.cps.size 0 _ #[] c₁ rfl (Nat.zero_le _) hst hS₁ (ItemsOf.nil _) fun s' acc' c' hm hS' hacc => ?_
    rw [Moved.eq_with hm]
    refine hR s'.heap s'.toks acc' c' (fun b o hb e => hm.heap b o (fun hmem => ?_) (hk b o hb e)) hS' hacc
    rcases List.mem_cons.mp hmem with e' | hmem
    · exact hb e'
    · exact absurd (Heap.lt_size e) (by rw [List.mem_singleton.mp hmem]; exact Nat.lt_irrefl _)
  refine wpAny_ite_split (fun _ => ?_) (fun _ => wpAny_pure ⟨plainId_quiet PySem.F.plain_extend_loop _, key _ c₀ _ st (fun b o _ e => Heap.get?_push_of_some _ e) hS₁⟩)
  refine wpAny_bind (wpAny_rule ?_)
  refine wpAny_bind ?_
  show wpAny _ _ (updateSeq S (·.push .none) >>= fun _ => updateSeq S (·.pop)) _ _ _
  refine wpAny_bind (wpAny_updateSeq hS₁ rfl ?_)
  have hS₂ := Heap.get?_update_self (Obj.mapSeq (·.push Value.none)) hS₁ rfl
  refine wpAny_updateSeq (hz := by seq_fits) hS₂ rfl ?_
  have hS₃ := Heap.get?_update_self (Obj.mapSeq (·.pop)) hS₂ rfl
  refine wpAny_pure ⟨plainId_quiet PySem.F.plain_extend_loop _, key _ _ _ ?_ (fun b o hb e => ?_) hS₃⟩
  · refine W.frame 0 _ _ st fun b hb o e => ?_
    have hbS : b ≠ S := fun h => hSf (h ▸ hb)
    exact (Heap.get?_update_other _ _ (Ne.symm hbS)).trans ((Heap.get?_update_other _ _ (Ne.symm hbS)).trans e)
  · exact (Heap.get?_update_other _ _ (Ne.symm hb)).trans ((Heap.get?_update_other _ _ (Ne.symm hb)).trans (Heap.get?_push_of_some _ e))
theorem ks_init {R : Result → Shared → Prop} {x : Str} {t : Tok} (hh : A.handled = none) (S : Addr) (hS : s.heap.get? S = some { cls := .type "list", data := .seq #[] })
    (hR : ∀ h' tk acc' c', (∀ b o, b ≠ S → s.heap.get? b = some o → h'.get? b = some o) → h'.get? S = some { cls := .type "list", dict := none, data := .seq acc' c', slots := #[] } → ItemsOf (SignAt x) acc' x.cps.size → R (.ok (.ret .none)) { s with heap := h', toks := tk }) (hn : x.cps.size ≤ sizeLine) :
    wpAny (model prog w) A.in1 (Builtin.«list.__init__» ⟨[.ref S, .str x t], []⟩)
      (fun fin s' => match fin with | .done f => R (.ok f) s' | .again c' => c'.quiet = true ∧ codeAny (model prog w) A c' R s') (fun e s' => R (.error e) s') s := by
  show wpAny _ _ (do let old ← Builtin.List.listItems (.ref S); Builtin.List.listUpdate (.ref S) (fun _ => #[]); letGo old.toList.reverse; Builtin.List.listExtendWith (.ref S) (.str x t) .none) _ _ s
  refine wpAny_bind ?_
  unfold Builtin.List.listItems
  refine wpAny_bind (wpAny_seqItems hS rfl (wpAny_pure ?_))
  show wpAny _ _ (updateSeq S (fun _ => #[]) >>= fun _ => letGo (#[] : Array Value).toList.reverse >>= fun _ => Builtin.List.listExtendWith (.ref S) (.str x t) .none) _ _ s
  refine wpAny_bind (wpAny_updateSeq hS rfl ?_)
  have hS₂ := Heap.get?_update_self (Obj.mapSeq (fun _ => (#[] : Array Value))) hS rfl
  have oth : ∀ b o, b ≠ S → s.heap.get? b = some o → (s.heap.update S (Obj.mapSeq (fun _ => (#[] : Array Value)))).get? b = some o :=
    fun b o hb e => (Heap.get?_update_other _ _ (Ne.symm hb)).trans e
  refine wpAny_bind (wpAny_letGo ?_)
  refine ks_extend hh S .none _ hS₂ (fun h' tk acc' c' hk hS' hacc => ?_) hn
  exact hR h' tk acc' c' (fun b o hb e => hk b o hb (oth b o hb e)) hS' hacc
theorem ks_call {x : Str} {t : Tok} {Q : Value → Shared → Prop} (hh : A.handled = none) (hn : x.cps.size ≤ sizeLine)
    (hQ : ∀ h' tk acc' c', (∀ b o, s.heap.get? b = some o → h'.get? b = some o) → h'.get? s.heap.objs.size = some { cls := .type "list", dict := none, data := .seq acc' c', slots := #[] } → ItemsOf (SignAt x) acc' x.cps.size → Q (.ref s.heap.objs.size) { s with heap := h', toks := tk }) :
    wpAny (model prog w) A (call (.type "list") [.str x t]) Q E s := by
  refine callType_codes (Q₁ := fun obj s₁ => obj = .ref s.heap.objs.size ∧ s₁ = { s with heap := s.heap.push { cls := .type "list", data := .seq #[] } }) PySem.F.called_list (PySem.F.typeCall_list_1 _) PySem.F.entry_list_init
    (code_list_new _ ⟨rfl, rfl⟩) fun obj s₁ h₁ => ?_
  obtain ⟨rfl, rfl⟩ := h₁
  have hS : (s.heap.push { cls := .type "list", data := .seq #[] }).get? s.heap.objs.size = some { cls := .type "list", data := .seq #[] } := Heap.get?_push_size _ rfl
  refine ⟨⟨_, hS, rfl⟩, PySem.F.args_list_init_2 _ _, ks_init (A := A.in1) hh _ hS (fun h' tk acc' c' hk hS' hacc => ?_) hn⟩
  exact ⟨rfl, hQ h' tk acc' c' (fun b o e => hk b o (Nat.ne_of_lt (Heap.lt_size e)) (Heap.get?_push_of_some _ e)) hS' hacc⟩
end
def ItvS (x : Str) : It := ⟨fun i H => i < x.length, fun i H v H' => H' = H ∧ ∃ c, x.cps[x.length - 1 - i]? = some c ∧ v = .str ⟨#[c]⟩, fun i _ => x.length ≤ i⟩
theorem turn_rs {P : Program} {w : World} {K : PySem.W.Frag} {tg : Expr} (x : Str) (t : Tok) (it : Addr) (hz : x.length ≤ sizeLine) : Turn P w K tg (ItvS x) [it] it (fun i h => i ≤ x.length ∧ IsRs h it x t ((x.length : Int) - 1 - (i : Nat))) where
  mem := by simp
  obj := fun i h st b hb => by
    have e : b = it := by simpa using hb
    subst e
    obtain ⟨_, o, e, c, d⟩ := st
    exact ⟨o, e, fun v z => by rw [d] at z; cases z⟩
  keep := fun i h h' st k => ⟨st.1, st.2.at fun o e => k it (by simp) o e⟩
  item := by
    intro X hP hw hK hc i pins s σ H E I hf st hg
    subst hP hw hK
    obtain ⟨f0, f1, f2, f3, f4, f5⟩ := hf it (by simp)
    obtain ⟨_, hit⟩ := st
    have hg : i < x.length := hg
    have e1 : (x.length : Int) - 1 - ((i : Nat) : Int) = ((x.length - 1 - i : Nat) : Int) := by omega
    rw [e1] at hit
    have hlt : x.length - 1 - i < x.cps.size := by show _ < x.length; omega
    refine next_rs_item hit (c := x.cps[x.length - 1 - i]) (Array.getElem?_eq_getElem hlt) hz fun h' u tk st' sb => ?_
    have e2 : ((x.length - 1 - i : Nat) : Int) - 1 = (x.length : Int) - 1 - ((i + 1 : Nat) : Int) := by omega
    rw [e2] at st'
    have I1 : Inv X pins σ H { s with heap := h', toks := tk } := I.turned (t' := tk) (fun b o hb e => (sb.2 b hb).trans e) f0 f1 f3 f4 f5
    obtain ⟨o, e, c, d⟩ := id st'
    exact ⟨_, rfl, go_of (s := { s with heap := h', toks := tk }) e c d (by decide) ⟨.str ⟨#[x.cps[x.length - 1 - i]]⟩, H, I1, ⟨u, rfl⟩, ⟨rfl, _, Array.getElem?_eq_getElem hlt, rfl⟩, ⟨hg, st'⟩, fun b hb => (hf b hb).1⟩⟩
  done := by
    intro X hP hw hK hc i pins s σ H E I hf st hg
    subst hP hw hK
    obtain ⟨f0, f1, f2, f3, f4, f5⟩ := hf it (by simp)
    obtain ⟨hin, hit⟩ := st
    have hge : x.length ≤ i := hg
    have e1 : (x.length : Int) - 1 - ((i : Nat) : Int) = -1 := by omega
    rw [e1] at hit
    exact next_rs_end (I.ok.hd hc) hit fun h' eb => ⟨rfl, I.turned (t' := s.toks) (fun b o hb e => eb b o hb e) f0 f1 f3 f4 f5⟩
  self := fun A i s Q E st h => iter_rs st.2 h
def iRevS (te : TE) : TI := fun σ H R => te σ H fun v H1 => ∃ x : Str, v = .str x ∧ x.length ≤ sizeLine ∧ R (ItvS x) H1
theorem pi_revS {X : Cx} {tg e : Expr} {te : TE} {p pos : Pos} (hg : Gl X "reversed") (hm : X.mg "reversed" = none) (he : PE X e te) (hs : starEach [e] X.env = (false, eval e X.env) :: starEach [] X.env := by rfl) : PI X tg (.Call (.Name "reversed" p) [e] [] pos) (iRevS te) := by
  refine ⟨fun pins s σ H R I h => ?_⟩
  refine Call_ (ld_blt I hg hm PyProof.Rows.boot_reversed (PyProof.Rows.callWith_type1 (args_cons (thn (he.run pins s σ H _ I h) fun u s1 ⟨v, H1, I1, r1, q1⟩ => args_nil ?_) hs) hs rfl))
  obtain ⟨x, ev, hz, q⟩ := q1
  subst ev
  obtain ⟨t, rfl⟩ := r1
  have hn := line63
  refine call_reversed_str (by omega) (iter_rs (x := x) (t := t) (i := ((x.length : Nat) : Int) - 1) ⟨_, Heap.get?_push_size _ rfl, rfl, rfl⟩ ?_)
  refine pi_one (tk := s1.toks + 1 + 1) I1 _ (turn_rs x t _ hz) ⟨Nat.zero_le _, ?_⟩ q
  have e1 : ((x.length : Nat) : Int) - 1 = (x.length : Int) - 1 - ((0 : Nat) : Int) := by omega
  rw [← e1]
  exact ⟨_, Heap.get?_push_size _ rfl, rfl, rfl⟩
theorem call_listS {X : Cx} (hc : X.calm = true) : CallR X (.type "list") (fun xs H Q => ∃ x : Str, xs = [.str x] ∧ x.length ≤ sizeLine ∧ ∀ l, H l = none → Q (.ref l) (upd H l (.lst (x.cps.toList.map fun c => V.str ⟨#[c]⟩)))) := by
  intro pins s σ H xs us Q I r h
  obtain ⟨x, rfl, hz, q⟩ := h
  obtain ⟨u, rfl, t, rfl⟩ := vals1 r
  refine ks_call (I.ok.hd hc) hz fun h' tk acc' c' hk hS' hacc => ?_
  have hf : H s.heap.objs.size = none := I.hok.fresh (Nat.le_refl _)
  have hl : acc'.size = x.cps.size := hacc.1
  refine ⟨.ref s.heap.objs.size, _, I.laid (t' := tk) (o := .lst (x.cps.toList.map fun c => V.str ⟨#[c]⟩)) hk (Nat.le_refl _) ⟨?_, acc'.toList, c', ?_, ?_⟩, rfl, q _ hf⟩
  · rw [List.length_map, Array.length_toList]; exact hz
  · have key : ∀ (cs : List Nat) (us : List Value), us.length = cs.length → (∀ (j : Nat) (v : Value), us[j]? = some v → ∃ c u, cs[j]? = some c ∧ v = .str ⟨#[c]⟩ u) → Vals (cs.map fun c => V.str ⟨#[c]⟩) us := by
      intro cs
      induction cs with
      | nil => intro us hl _; cases us with
        | nil => exact .nil
        | cons _ _ => cases hl
      | cons c cs ih => intro us hl hv; cases us with
        | nil => cases hl
        | cons v vs =>
          obtain ⟨c', u, e1, e2⟩ := hv 0 v rfl
          cases e1
          exact .cons ⟨u, e2⟩ (ih vs (by simpa using hl) fun j w hw => by simpa using hv (j + 1) w (by simpa using hw))
    refine key _ _ (by rw [Array.length_toList, Array.length_toList]; exact hl) fun j v e => ?_
    obtain ⟨c, u, e1, e2⟩ := hacc.2 j v (by rw [← Array.getElem?_toList]; exact e)
    exact ⟨c, u, by rw [Array.getElem?_toList]; exact e1, e2⟩
  · rw [hS']
end PuE
set_option maxRecDepth 100000
set_option maxHeartbeats 4000000
namespace Pu
open PySem L2 PySem.Spec PyProof.Rows
section
variable {Γ Γ' : Gm} {κ κ' : Ka} {H H' : Hp} {env env' : En} {σ : Sl} {v : V} {st : Sto} {Y : Fam} {a b e : Expr} {es : List Expr} {ta tb te : PTE} {pos : Pos}
theorem ve_lc {scope : Scope} {tg it elt : Expr} {ifs : List Expr} {own : List (Str × Nat)} {ti : PTI} {g : PTG} {tt : PTT} {vs : List Nat} (hN : ∀ i, (Y.X i).N.Nodup) (hi : VI Y tg it ti) (ok : ∀ i, BlkOk (Y.X i).N (Y.X i).env.scope scope own) (hg : VG (Y.blk scope) tg vs g) (ht : VTs (Y.blk scope) ifs tt) (he : VE (Y.blk scope) elt te)
    (hv : own.map (·.2) = vs := by rfl) (hc : ∀ i, (Y.X i).calm = true := by intro _; rfl) (hs : ∀ (X : Cx) x, foldedSetIterable it X.env x = pure x := by intro _ _; rfl) : VE Y (.ListComp elt [⟨tg, it, ifs, 0⟩] scope pos) (cLc ti g tt te vs) := by
  obtain ⟨ri, pi, fi⟩ := hi.ex
  obtain ⟨rg, pg, fg⟩ := hg.ex
  obtain ⟨rt, pt, ft⟩ := ht.ex
  obtain ⟨re, pe, fe⟩ := he.ex
  have pg' : ∀ (i : Y.ι) (s : Shared) (H : Hp) (C : Addr) (cl : List (Str × Addr)) (fp : List Addr), PG ((Y.X i).blk s H scope (compEnvC scope cl C (Y.X i).env) fp) tg rg := fun i s H C cl fp => pg (i, s, H, C, cl, fp)
  have pt' : ∀ (i : Y.ι) (s : Shared) (H : Hp) (C : Addr) (cl : List (Str × Addr)) (fp : List Addr), PTs ((Y.X i).blk s H scope (compEnvC scope cl C (Y.X i).env) fp) ifs (rt E0) := fun i s H C cl fp => pt (i, s, H, C, cl, fp)
  have pe' : ∀ (i : Y.ι) (s : Shared) (H : Hp) (C : Addr) (cl : List (Str × Addr)) (fp : List Addr), PE ((Y.X i).blk s H scope (compEnvC scope cl C (Y.X i).env) fp) elt (re E0) := fun i s H C cl fp => pe (i, s, H, C, cl, fp)
  refine ⟨⟨fun E => L2.tLc (ri E) rg (rt E0) (re E0) (own.map (·.2)), fun i => pe_lc (hc i) (hN i) (pi i) (ok i) (pg' i) (pt' i) (pe' i) (hs _), fun Γ σ κ H env Q Q' hK I q k => ?_⟩⟩
  exact lc_ref (it := it) (elt := elt) (ifs := ifs) (tg := tg) hv fi fg (fun Γ σ κ H env Q Q' gk eE I q k => by rw [← eE]; exact ft Γ σ κ H env Q Q' gk I q k) (fun Γ σ κ H env Q Q' gk eE I q k => by rw [← eE]; exact fe Γ σ κ H env Q Q' gk I q k) hK I q k
theorem vs_setLc {i : Nat} {y : Str} {py spos : Pos} {scope : Scope} {tg it elt : Expr} {ifs : List Expr} {own : List (Str × Nat)} {ti : PTI} {g : PTG} {tt : PTT} {vs : List Nat} (hN : ∀ i, (Y.X i).N.Nodup) (hi : VI Y tg it ti) (ok : ∀ i, BlkOk (Y.X i).N (Y.X i).env.scope scope own) (hg : VG (Y.blk scope) tg vs g) (ht : VTs (Y.blk scope) ifs tt) (he : VE (Y.blk scope) elt te)
    (hy : ∀ j, (Y.X j).N[i]? = some y := by intro _; rfl) (hyl : ∀ j, (Y.X j).env.scope.names.lookup y = some .local := by intro _; rfl)
    (hsw : ∀ j, swapsWith (.ListComp elt [⟨tg, it, ifs, 0⟩] scope pos) (some (.Name y py)) spos.line (Y.X j).env = pure true := by intro _; exact sw_true rfl rfl rfl (by decide +kernel))
    (hv : own.map (·.2) = vs := by rfl) (hc : ∀ i, (Y.X i).calm = true := by intro _; rfl) (hs : ∀ (X : Cx) x, foldedSetIterable it X.env x = pure x := by intro _ _; rfl) :
    VS Y (.Assign [.Name y py] (.ListComp elt [⟨tg, it, ifs, 0⟩] scope pos) spos) (sAsg i (cLc ti g tt te vs)) := by
  obtain ⟨ri, pi, fi⟩ := hi.ex
  obtain ⟨rg, pg, fg⟩ := hg.ex
  obtain ⟨rt, pt, ft⟩ := ht.ex
  obtain ⟨re, pe, fe⟩ := he.ex
  have pg' : ∀ (i : Y.ι) (s : Shared) (H : Hp) (C : Addr) (cl : List (Str × Addr)) (fp : List Addr), PG ((Y.X i).blk s H scope (compEnvC scope cl C (Y.X i).env) fp) tg rg := fun i s H C cl fp => pg (i, s, H, C, cl, fp)
  have pt' : ∀ (i : Y.ι) (s : Shared) (H : Hp) (C : Addr) (cl : List (Str × Addr)) (fp : List Addr), PTs ((Y.X i).blk s H scope (compEnvC scope cl C (Y.X i).env) fp) ifs (rt E0) := fun i s H C cl fp => pt (i, s, H, C, cl, fp)
  have pe' : ∀ (i : Y.ι) (s : Shared) (H : Hp) (C : Addr) (cl : List (Str × Addr)) (fp : List Addr), PE ((Y.X i).blk s H scope (compEnvC scope cl C (Y.X i).env) fp) elt (re E0) := fun i s H C cl fp => pe (i, s, H, C, cl, fp)
  refine ⟨⟨fun E => tAsg (L2.tLc (ri E) rg (rt E0) (re E0) (own.map (·.2))) (L2.gName i), fun j => ps_setLc (hc j) (hN j) (hy j) (hyl j) (hsw j) (pi j) (ok j) (pg' j) (pt' j) (pe' j) (hs _), fun Γ σ κ H env D D' hK I q l => ?_⟩⟩
  refine lc_ref (it := it) (elt := elt) (ifs := ifs) (tg := tg) hv fi fg (fun Γ σ κ H env Q Q' gk eE I q k => by rw [← eE]; exact ft Γ σ κ H env Q Q' gk I q k) (fun Γ σ κ H env Q Q' gk eE I q k => by rw [← eE]; exact fe Γ σ κ H env Q Q' gk I q k) hK I q fun v κ1 H1 r1 e1 x1 I1 h1 q1 => ?_
  exact asg_ok I1 (by rw [I1.len]; exact q1.1) h1 q1.2 fun κ2 e2 x2 I2 q2 => l.1 _ κ2 H1 e2 (x1.trans x2) I2 q2
abbrev PM := List D → Sto → (C → Sto → Prop) → Prop
/-- a def that raises nothing, by its pure promise -/
def sp0 (K : PySem.W.Frag) (cls : Cl) (flds : Nat → List Str) (m : PM) : Sp := fun vs H Q _ => ∃ (κ : Ka) (ds : List D) (st : Sto) (Q' : C → Sto → Prop),
  Gh ⟨K, H, κ, cls, flds, E0, noX⟩ κ st H ∧ RepL K cls κ H vs ds ∧ m ds st Q' ∧
  ∀ v κ' H' c st', Gh ⟨K, H, κ, cls, flds, E0, noX⟩ κ' st' H' → RelC ⟨K, H, κ, cls, flds, E0, noX⟩ κ' H' v c → Q' c st' → Q v H'
def C.toR (c : C) : R := match c with
  | .un => .d .non
  | .d y => .d y
  | .own ys => .own ys
  | .dK ys => .dK ys
  | .dT ys => .dT ys
def tCall0 (m : PM) (t : PTA) : PTE := fun x e Q => t x e fun ds e1 => m ds e1.st fun c st' => Q c.toR ⟨e1.sl, st'⟩
theorem Gh.enter {E' : XK} {x' : PX} (I : Rl Γ κ env σ H) : Gh ⟨Γ.K, H, κ, Γ.cls, Γ.flds, E', x'⟩ κ env.st H := by
  have g := I.gh
  refine ⟨fun _ _ e => e, fun _ _ e => .inl e, g.trk, fun _ e => e, g.box, fun a k e => ?_, g.inj, fun a o e _ => e, g.tabs⟩
  obtain ⟨so, h1, h2⟩ := g.obj a k e
  exact ⟨so, h1, h2.switch rfl rfl⟩
theorem Gh.leave {E' : XK} {x' : PX} {st' : Sto} (g : Gh Γ κ st H) (h : Gh ⟨Γ.K, H, κ, Γ.cls, Γ.flds, E', x'⟩ κ' st' H') : Gh Γ κ' st' H' := by
  refine ⟨fun a x e => h.sub a x (g.sub a x e), fun a x e => ?_, h.trk, fun a e => h.trk0 a (g.trk0 a e), h.box, fun a k e => ?_, h.inj, fun a o e hk => ?_, h.tabs⟩
  · rcases h.new a x e with z | z | ⟨z1, vs, z⟩
    · exact g.new a x z
    · exact .inr (.inl (g.nokap0 z))
    · cases q0 : Γ.H0 a with
      | none => exact .inr (.inl rfl)
      | some o =>
        cases qk : Γ.k0 a with
        | none =>
          have z : H a = some (.tup vs) := z
          have := g.base a o q0 (.inl qk)
          rw [z] at this
          exact .inr (.inr ⟨z1, vs, this.symm⟩)
        | some y =>
          have := h.sub a y (g.sub a y qk)
          rw [e] at this
          exact .inl this.symm
  · obtain ⟨so, h1, h2⟩ := h.obj a k e
    exact ⟨so, h1, h2.switch rfl rfl⟩
  · refine h.base a o (g.base a o e hk) ?_
    show κ a = none ∨ κ a = some .frz
    rcases hk with hk | hk
    · cases q : κ a with
      | none => exact .inl rfl
      | some x =>
        rcases g.new a x q with z | z | ⟨z, _⟩
        · rw [hk] at z; cases z
        · rw [e] at z; cases z
        · exact .inr (by rw [z])
    · exact .inr (g.sub a _ hk)
theorem Ext.leave {E' : XK} {x' : PX} {st' : Sto} (g : Gh Γ κ st H) (h : Gh ⟨Γ.K, H, κ, Γ.cls, Γ.flds, E', x'⟩ κ' st' H') : Ext κ H κ' H' := by
  refine ⟨h.sub, fun a e => ?_⟩
  cases q : H a with
  | none => exact absurd q (g.trk a _ e)
  | some o => exact h.base a o q (.inr e)
theorem Rl.leave {E' : XK} {x' : PX} {st' : Sto} (I : Rl Γ κ env σ H) (h : Gh ⟨Γ.K, H, κ, Γ.cls, Γ.flds, E', x'⟩ κ' st' H') : Rl Γ κ' ⟨env.sl, st'⟩ σ H' := by
  refine I.step (Ext.leave I.gh h) (fun i a hs => ?_) (I.gh.leave h)
  obtain ⟨c, _, hc⟩ := I.ownS hs
  obtain ⟨k1, _, k3⟩ := hc.facts
  constructor
  · cases q : κ' a with
    | none => rfl
    | some x =>
      rcases h.new a x q with z | z | ⟨_, vs, z⟩
      · have z : κ a = some x := z
        rw [k1] at z; cases z
      · exact absurd z k3
      · exact (hc.notTup z).elim
  · cases q : H a with
    | none => exact absurd q k3
    | some o => exact h.base a o q (.inl k1)
theorem RelC.leave {E' : XK} {x' : PX} {st' : Sto} {c : C} (I : Rl Γ κ env σ H) (h : RelC ⟨Γ.K, H, κ, Γ.cls, Γ.flds, E', x'⟩ κ' H' v c) : RelR Γ κ' H' ⟨env.sl, st'⟩ σ v c.toR := by
  have low : ∀ a, H a = none → Γ.H0 a = none := fun a z => I.gh.nokap0 z
  have ns : ∀ a, H a = none → ∀ i, ¬ OwnS ⟨env.sl, st'⟩ σ i a := fun a z i hs => I.fresh z i hs
  cases c with
  | un => exact h.elim
  | d d => exact h
  | own ds => obtain ⟨a, rfl, h1⟩ := h; exact ⟨a, rfl, OwnC.switch (Γ := ⟨Γ.K, H, κ, Γ.cls, Γ.flds, E', x'⟩) (Γ' := Γ) rfl rfl (low a h1.facts.2.1) h1, ns a h1.facts.2.1⟩
  | dK ds => obtain ⟨a, rfl, h1⟩ := h; exact ⟨a, rfl, OwnC.switch (Γ := ⟨Γ.K, H, κ, Γ.cls, Γ.flds, E', x'⟩) (Γ' := Γ) rfl rfl (low a h1.facts.2.1) h1, ns a h1.facts.2.1⟩
  | dT ds => obtain ⟨a, rfl, h1⟩ := h; exact ⟨a, rfl, OwnC.switch (Γ := ⟨Γ.K, H, κ, Γ.cls, Γ.flds, E', x'⟩) (Γ' := Γ) rfl rfl (low a h1.facts.2.1) h1, ns a h1.facts.2.1⟩
/-- a call of a def of the text that raises nothing -/
theorem ve_call0 {k : Nat} {f : Addr} {fd : FuncData} {ps : List Str} {x : Str} {p : Pos} {m : PM} {t : PTA} (F : ∀ i, FnG (Y.X i).prog (Y.X i).w (Y.X i).K (Y.X i).mg (Y.X i).base CX0 k f fd ps (sp0 Y.K Y.cls Y.flds m)) (hr : ∀ i, Room k (Y.X i).A) (hgd : ∀ i, (Y.X i).A.guards = some []) (hm : ∀ i, (Y.X i).mg x = some (.ref f)) (hk : PySem.W.keepIn Y.K (.ref f) = true) (hb : Binds Y.K fd ps [])
    (ha : VA Y (e :: es) t) (hg : ∀ i, Gl (Y.X i) x := by intro _; rfl) (hdb : (x == ("__debug__" : Str)) = false := by decide) (he : ∀ X : Cx, starEach (e :: es) X.env = (false, eval e X.env) :: starEach es X.env := by intro _; rfl) (hpl : ∀ X : Cx, (backTo pos (starEach es X.env)).any (·.1) = false := by intro _; rfl) :
    VE Y (.Call (.Name x p) (e :: es) [] pos) (tCall0 m t) := by
  obtain ⟨ra, pa, fa⟩ := ha.ex
  refine ⟨⟨fun E => tCall (sp0 Y.K Y.cls Y.flds m) [] E0 (ra E), fun i => pe_callG (F i) (hr i) (hgd i) (hg i) (hm i) (by rw [Y.hK i]; exact hk) (by rw [Y.hK i]; exact hb) .nil pass0 (pa i) hdb (he _) (hpl _), fun Γ σ κ H env Q Q' hK I q k => ?_⟩⟩
  refine fa Γ σ κ H env _ _ hK I q fun vs κ1 H1 ds e1 x1 I1 h1 q1 => ?_
  rw [List.append_nil, ← hK.k, ← hK.c, ← hK.f]
  refine ⟨κ1, ds, e1.st, _, Gh.enter I1, h1, q1, fun v κ' H' c st' g r q => ?_⟩
  exact k v κ' H' c.toR ⟨e1.sl, st'⟩ (x1.trans (Ext.leave I1.gh g)) (I1.leave g) (RelC.leave I1 r) q
/-- where a def's body runs -/
structure DI (qual : Str) (sc : Scope) (f : Addr) (k : Nat) where
  cdv : Value
  A : Around
  outer : List Env
  s : Shared
  H : Hp
  E : XK
  hr : Room k (A.deeper (envOfC qual sc s.heap.objs.size f cdv))
  gd : A.guards = some []
def fam0 (P : Program) (w : World) (K : PySem.W.Frag) (mg : Str → Option Value) (base : Heap) (N : List Str) (qual : Str) (sc : Scope) (f : Addr) (k : Nat) (cls : Cl) (flds : Nat → List Str) : Fam where
  ι := DI qual sc f k
  X := fun i => (cxOf CX0 P w K mg base N qual sc f i.cdv i.A i.outer i.s i.H i.E).nox
  E := fun _ => E0
  K := K
  hK := fun _ => rfl
  cls := cls
  flds := flds
def startC (N : List Str) (ds : List D) : List C := ds.map C.d ++ List.replicate (N.length - ds.length) C.un
theorem start_rl {N : List Str} {vs : List V} {ds : List D} {K : PySem.W.Frag} {cls : Cl} {flds : Nat → List Str} {E : XK} {x : PX} (g : Gh ⟨K, H, κ, cls, flds, E, x⟩ κ st H) (r : RepL K cls κ H vs ds) : Rl ⟨K, H, κ, cls, flds, E, x⟩ κ ⟨startC N ds, st⟩ (L2.start N vs) H := by
  refine ⟨by unfold L2.start startC; simp [r.length], fun i c ec => ?_, fun i j a h1 _ => ?_, g⟩
  · have ec : (startC N ds)[i]? = some c := ec
    unfold startC at ec
    by_cases hi : i < ds.length
    · rw [List.getElem?_append_left (by simpa using hi), List.getElem?_map, List.getElem?_eq_getElem hi] at ec
      cases ec
      obtain ⟨v, e1, r1⟩ := r.get (List.getElem?_eq_getElem hi)
      refine ⟨v, ?_, r1⟩
      unfold L2.start
      rw [List.getElem?_append_left (by rw [List.length_map, r.length]; exact hi), List.getElem?_map, e1]
      rfl
    · rw [List.getElem?_append_right (by simpa using hi), List.getElem?_replicate] at ec
      split at ec
      · cases ec; trivial
      · cases ec
  · obtain ⟨_, c, ec, hc⟩ := h1
    have ec : (startC N ds)[i]? = some c := ec
    unfold startC at ec
    by_cases hi : i < ds.length
    · rw [List.getElem?_append_left (by simpa using hi), List.getElem?_map, List.getElem?_eq_getElem hi] at ec
      cases ec
      cases hc
    · rw [List.getElem?_append_right (by simpa using hi), List.getElem?_replicate] at ec
      split at ec
      · cases ec; cases hc
      · cases ec
/-- THE RULE for a def that raises nothing -/
theorem fn0 {P : Program} {w : World} {K : PySem.W.Frag} {mg : Str → Option Value} {base : Heap} {N ps : List Str} {x qual : Str} {st : Stmt} {f : Addr} {fd : FuncData} {k : Nat} {cls : Cl} {flds : Nat → List Str} {t : PTS} {m : PM}
    (F : Fun K x qual st f fd) (S : FnScope N ps (defScope st)) (h : VSs (fam0 P w K mg base N qual (defScope st) f k cls flds) (defBody st) t) (len : ∀ ds s Q, m ds s Q → ds.length = ps.length)
    (ok : ∀ ds s Q, m ds s Q → t noX { nx := fun e => Q (.d .non) e.st, rt := fun c e => Q c e.st } ⟨startC N ds, s⟩) : FnG P w K mg base CX0 (k + 1) f fd ps (sp0 K cls flds m) := by
  refine fnG_of F S (fun vs H Q E hq => ?_) (fun cdv A outer s H vs Q E hr gd hq => ?_)
  · obtain ⟨κ, ds, st, Q', g, r, hm, _⟩ := hq
    rw [r.length]
    exact len ds st Q' hm
  · obtain ⟨κ, ds, st', Q', g, r, hm, fin⟩ := hq
    obtain ⟨rd, ph, fh⟩ := h.ex
    refine ⟨rd E0, (ph ⟨cdv, A, outer, s, H, E, hr, gd⟩).nox, ?_⟩
    refine fh ⟨K, H, κ, cls, flds, E0, noX⟩ (L2.start N vs) κ H ⟨startC N ds, st'⟩ _ _ ⟨rfl, rfl, rfl, fun _ _ _ _ _ _ _ _ z _ _ => False.elim z⟩ (start_rl g r) (ok ds st' Q' hm) ⟨fun σ' κ' H' e' x I q => ?_, fun v κ' H' c e' x gg rr q => fin v κ' H' c e'.st gg rr q, fun _ _ _ _ _ _ q => False.elim q, fun _ _ _ _ _ _ q => False.elim q⟩
    exact fin .non κ' H' (.d .non) e'.st I.gh .non q
/-- a weaker promise -/
theorem FnG.imp0 {P : Program} {w : World} {K : PySem.W.Frag} {mg : Str → Option Value} {base : Heap} {ps : List Str} {f : Addr} {fd : FuncData} {k : Nat} {cls : Cl} {flds : Nat → List Str} {m m' : PM}
    (F : FnG P w K mg base CX0 k f fd ps (sp0 K cls flds m)) (h : ∀ ds s Q, m' ds s Q → m ds s Q) : FnG P w K mg base CX0 k f fd ps (sp0 K cls flds m') :=
  F.imp fun vs H Q E ⟨κ, ds, st, Q', g, r, hm, fin⟩ => ⟨κ, ds, st, Q', g, r, h _ _ _ hm, fin⟩
end
end Pu
set_option maxRecDepth 100000
set_option maxHeartbeats 4000000
namespace Pu
open PySem L2
section
variable {Γ Γ' : Gm} {κ κ' : Ka} {H H' : Hp} {env env' : En} {σ : Sl} {v : V} {st : Sto} {Y : Fam} {a b e o : Expr} {es : List Expr} {ta tb te to : PTE} {pos : Pos}
def MtRef (T : String) (r : PySem.W.Frag → V → List V → Hp → VK → Prop) (p : D → List D → (R → Prop) → Prop) : Prop :=
  ∀ (Γ : Gm) (σ : Sl) (κ : Ka) (H : Hp) (env : En) (v : V) (d : D) (vs : List V) (ds : List D) (Q : R → Prop) (Q' : VK), Rl Γ κ env σ H → RepT Γ κ H v d → RepTL Γ κ H vs ds → p d ds Q →
    (∀ v' κ' H' r, Ext κ H κ' H' → Rl Γ κ' env σ H' → RelR Γ κ' H' env σ v' r → Q r → Q' v' H') → r Γ.K v vs H Q'
/-- what is of a built-in type, at its top -/
def D.isTy (T : String) : D → Prop
  | .str _ => T = "str"
  | .lst _ => T = "list"
  | _ => False
theorem tyV_of {T : String} {d : D} (h : RepT Γ κ H v d) (e : d.isTy T) : tyV Γ.K T v H := by
  cases d with
  | str s => obtain ⟨rfl, _⟩ := Rep.strE h; exact e
  | lst ds => obtain ⟨a, vs, rfl, h1, _⟩ := h; exact .inl ⟨e, vs, SqL.of h1⟩
  | _ => exact e.elim
def tMeth (T : String) (p : D → List D → (R → Prop) → Prop) (to : PTE) (t : PTR) : PTE := fun x e Q => to x e fun r e1 => hold r e1 fun r e1 => (match rv r e1 with
  | some d => d.isTy T
  | none => False) ∧ t x e1 fun rs e2 => match rv r e2, rvL rs e2 with
    | some d, some ds => p d ds (fun r => Q r e2)
    | _, _ => False
theorem ve_meth {id T : String} {name : Str} {apos cpos : Pos} {r : PySem.W.Frag → V → List V → Hp → VK → Prop} {p : D → List D → (R → Prop) → Prop} {t : PTR} (pa : PlainAttrs T) (slot : Slot T name id) (hty : typeOf (.builtin id) = pure (.type "method_descriptor")) (hm : ∀ i, MtR (Y.X i) id (r (Y.X i).K)) (hr : MtRef T r p) (ho : VE Y o to) (ha : VR Y (e :: es) t)
    (hbase : ∀ X : Cx, attributeBase o name X.env (eval o X.env) = eval o X.env := by intro _; rfl)
    (hfew : ∀ X : Cx, ((backTo cpos (starEach (e :: es) X.env)).all (fun x => !x.1) && (backToKw cpos (keywordEach [] X.env)).all (fun x => x.1.isSome)
      && decide ((e :: es).length + ([] : List Keyword).length + (if ([] : List Keyword).isEmpty then 0 else 1) < 30)) = true := by intro _; rfl)
    (hline : (apos.endLine == cpos.line) = true := by rfl) (hs : ∀ X : Cx, starEach (e :: es) X.env = (false, eval e X.env) :: starEach es X.env := by intro _; rfl) (hplain : ∀ X : Cx, (backTo cpos (starEach es X.env)).any (·.1) = false := by intro _; rfl) :
    VE Y (.Call (.Attribute o name apos) (e :: es) [] cpos) (tMeth T p to t) := by
  obtain ⟨ro, po, fo⟩ := ho.ex
  obtain ⟨ra, pa', fa⟩ := ha.ex
  refine ⟨⟨fun E => tBM Y.K T (r Y.K) (ro E) (ra E), fun i => ?_, fun Γ σ κ H env Q Q' hK I q k => ?_⟩⟩
  · have h1 := hm i
    have h2 := pe_bm pa slot hty h1 (po i) (pa' i) (hbase _) (hfew _) hline (hs _) (hplain _)
    rw [Y.hK i] at h2
    exact h2
  · refine fo Γ σ κ H env _ _ hK I q fun v κ1 H1 r1 e1 x1 I1 h1 q1 => ?_
    refine hold_ok I1 h1 q1 fun κ2 r2 x2 I2 h2 q2 => ?_
    obtain ⟨q2a, q2⟩ := q2
    rw [← hK.k]
    constructor
    · cases e' : rv r2 e1 with
      | none => rw [e'] at q2a; exact q2a.elim
      | some d => rw [e'] at q2a; exact tyV_of (rv_ok I2 h2.rel e') q2a
    · refine fa Γ σ κ2 H1 e1 _ _ hK I2 q2 fun vs κ3 H3 rs e3 x3 I3 h3 q3 => ?_
      have h2' : RelR Γ κ3 H3 e3 σ v r2 := (h2.ext x3).rel
      cases e1' : rv r2 e3 with
      | none => rw [e1'] at q3; exact False.elim q3
      | some d1 =>
        cases e2' : rvL rs e3 with
        | none => rw [e1', e2'] at q3; exact False.elim q3
        | some ds =>
          rw [e1', e2'] at q3
          exact hr Γ σ κ3 H3 e3 v d1 vs ds _ Q' I3 (rv_ok I3 h2' e1') (rvL_ok I3 h3 e2') q3 fun v' κ' H' r x I' h' q' => k v' κ' H' r e3 (((x1.trans x2).trans x3).trans x) I' h' q'
def tMeth0 (T : String) (p : D → List D → (R → Prop) → Prop) (to : PTE) : PTE := fun x e Q => to x e fun r e1 => match rv r e1 with
  | some d => d.isTy T ∧ p d [] (fun r => Q r e1)
  | none => False
/-- sep.join(list or tuple of texts) -/
def strL : List D → Option (List (List Nat))
  | [] => some []
  | .str s :: ds => match strL ds with
    | some r => some (s :: r)
    | none => none
  | _ => none
def joinN (s : List Nat) : List (List Nat) → List Nat
  | [] => []
  | [x] => x
  | x :: y :: r => x ++ (s ++ joinN s (y :: r))
def D.items : D → List D
  | .lst ds => ds
  | .tup ds => ds
  | _ => [.non]
def pJoin (d : D) (ds : List D) (Q : R → Prop) : Prop := match d, ds with
  | .str s, [x] => match strL x.items with
    | some r => (r.map List.length).sum + r.length * s.length ≤ 16777216 ∧ Q (.d (.str (joinN s r)))
    | none => False
  | _, _ => False
theorem strL_rep : ∀ {ds : List D} {vs : List V} {r : List (List Nat)}, RepL Γ.K Γ.cls κ H vs ds → strL ds = some r → vs = r.map (fun s => V.str ⟨s.toArray⟩) ∧ (∀ s ∈ r, SOk s)
  | [], _, _, h, e => by cases h; cases e; exact ⟨rfl, by simp⟩
  | .str s :: ds, _, _, .cons h1 h2, e => by
    unfold strL at e
    cases q : strL ds with
    | none => rw [q] at e; cases e
    | some r' =>
      rw [q] at e
      cases e
      obtain ⟨rfl, hs⟩ := h1.strE
      obtain ⟨rfl, hr⟩ := strL_rep h2 q
      refine ⟨rfl, fun t ht => ?_⟩
      rcases List.mem_cons.mp ht with rfl | ht
      · exact hs
      · exact hr t ht
  | .non :: _, _, _, _, e => by simp [strL] at e
  | .bl _ :: _, _, _, _, e => by simp [strL] at e
  | .int _ :: _, _, _, _, e => by simp [strL] at e
  | .tup _ :: _, _, _, _, e => by simp [strL] at e
  | .lst _ :: _, _, _, _, e => by simp [strL] at e
  | .scr _ :: _, _, _, _, e => by simp [strL] at e
  | .box :: _, _, _, _, e => by simp [strL] at e
  | .ref _ :: _, _, _, _, e => by simp [strL] at e
  | .cls _ :: _, _, _, _, e => by simp [strL] at e
  | .exc _ _ _ :: _, _, _, _, e => by simp [strL] at e
theorem joinN_eq (s : List Nat) : ∀ r : List (List Nat), joinN s r = TL.joinL s r
  | [] => rfl
  | [_] => rfl
  | x :: y :: r => by
    show x ++ (s ++ joinN s (y :: r)) = x ++ (s ++ TL.joinL s (y :: r))
    rw [joinN_eq s (y :: r)]
theorem joinN_len (s : List Nat) : ∀ r : List (List Nat), (joinN s r).length ≤ (r.map List.length).sum + r.length * s.length
  | [] => by simp [joinN]
  | [x] => by simp [joinN]
  | x :: y :: r => by
    have ih := joinN_len s (y :: r)
    show (x ++ (s ++ joinN s (y :: r))).length ≤ _
    rw [List.length_append, List.length_append, List.map_cons, List.sum_cons, List.length_cons, Nat.add_mul, Nat.one_mul]
    omega
theorem joinN_mem (s : List Nat) : ∀ (r : List (List Nat)) (c : Nat), c ∈ joinN s r → c ∈ s ∨ ∃ x ∈ r, c ∈ x
  | [], c, h => by simp [joinN] at h
  | [x], c, h => .inr ⟨x, by simp, h⟩
  | x :: y :: r, c, h => by
    have h : c ∈ x ++ (s ++ joinN s (y :: r)) := h
    rcases List.mem_append.mp h with h | h
    · exact .inr ⟨x, by simp, h⟩
    · rcases List.mem_append.mp h with h | h
      · exact .inl h
      · rcases joinN_mem s (y :: r) c h with h | ⟨z, hz, h⟩
        · exact .inl h
        · exact .inr ⟨z, List.mem_cons_of_mem _ hz, h⟩
def rJoin (K : PySem.W.Frag) : V → List V → Hp → VK → Prop := fun x xs H Q => ∃ a p, ∃ ys : List Str, x = .str a ∧ xs = [.ref p] ∧ (SqL K H p (ys.map V.str) ∨ SqT K H p (ys.map V.str)) ∧
    (ys.map (·.length)).sum + ys.length * a.length ≤ 16777216 ∧ Q (.str (Txt.join a ys)) H
theorem ref_join : MtRef "str" rJoin pJoin := by
  intro Γ σ κ H env v d vs ds Q Q' I hd hs q k
  match d, ds, vs, hd, hs, q with
  | .str s, [x], _, hd, .cons hx .nil, q =>
    obtain ⟨rfl, hs⟩ := Rep.strE hd
    unfold pJoin at q
    simp only at q
    cases qe : strL x.items with
    | none => rw [qe] at q; exact q.elim
    | some r =>
      rw [qe] at q
      have key : ∀ (p : Addr) (ws : List V), (SqL Γ.K H p ws ∨ SqT Γ.K H p ws) → RepL Γ.K Γ.cls κ H ws x.items → rJoin Γ.K (.str ⟨s.toArray⟩) [.ref p] H Q' := by
        intro p ws hp hr
        obtain ⟨rfl, hall⟩ := strL_rep hr qe
        have e1 : r.map (fun s => V.str ⟨s.toArray⟩) = (r.map fun s => (⟨s.toArray⟩ : Str)).map V.str := by rw [List.map_map]; rfl
        rw [e1] at hp
        refine ⟨_, p, r.map fun s => (⟨s.toArray⟩ : Str), rfl, rfl, hp, ?_, ?_⟩
        · rw [List.map_map, List.length_map, str_len]
          have : ((fun x => x.length) ∘ fun s : List Nat => (⟨s.toArray⟩ : Str)) = List.length := by
            funext s
            exact str_len s
          rw [this]
          exact q.1
        · have e2 : Txt.join ⟨s.toArray⟩ (r.map fun s => (⟨s.toArray⟩ : Str)) = ⟨(joinN s r).toArray⟩ := by
            rw [joinN_eq]
            exact SX.join_S s r
          rw [e2]
          refine k _ κ H (.d (.str (joinN s r))) (.refl ..) I (.str _ ⟨?_, fun c hc => ?_⟩) q.2
          · have h1 := joinN_len s r
            have h2 := q.1
            rw [sizeLine_eq]
            omega
          · rcases joinN_mem s r c hc with h | ⟨y, hy, h⟩
            · exact hs.2 c h
            · exact (hall y hy).2 c h
      cases x with
      | lst ds => obtain ⟨p, ws, rfl, h1, h2, h3⟩ := hx; exact key p ws (.inl (SqL.of h1)) h3
      | tup ds => obtain ⟨p, ws, rfl, h1, h2, h3⟩ := Rep.sqT hx; exact key p ws (.inr h1) h3
      | _ => simp [D.items, strL] at qe
theorem ve_join {apos cpos : Pos} {t : PTR} (ho : VE Y o to) (ha : VR Y [e] t) (hbase : ∀ X : Cx, attributeBase o "join" X.env (eval o X.env) = eval o X.env := by intro _; rfl)
    (hfew : ∀ X : Cx, ((backTo cpos (starEach [e] X.env)).all (fun x => !x.1) && (backToKw cpos (keywordEach [] X.env)).all (fun x => x.1.isSome)
      && decide (([e] : List Expr).length + ([] : List Keyword).length + (if ([] : List Keyword).isEmpty then 0 else 1) < 30)) = true := by intro _; rfl)
    (hline : (apos.endLine == cpos.line) = true := by rfl) (hs : ∀ X : Cx, starEach [e] X.env = (false, eval e X.env) :: starEach [] X.env := by intro _; rfl) :
    VE Y (.Call (.Attribute o "join" apos) [e] [] cpos) (tMeth "str" pJoin to t) :=
  ve_meth PySem.F.plainAttrs_str PySem.F.slot_str_join PySem.F.type_str_join (fun _ => mt_join) ref_join ho ha hbase hfew hline hs
/-- text.index(sign) -/
def ixOf (c : Nat) : List Nat → Nat
  | [] => 0
  | x :: xs => if x = c then 0 else ixOf c xs + 1
theorem ixOf_spec {c : Nat} : ∀ {l : List Nat}, c ∈ l → l[ixOf c l]? = some c ∧ ∀ j, j < ixOf c l → l[j]? ≠ some c
  | [], h => by cases h
  | x :: xs, h => by
    unfold ixOf
    by_cases e : x = c
    · rw [if_pos e]
      exact ⟨by simp [e], fun j hj => absurd hj (Nat.not_lt_zero _)⟩
    · rw [if_neg e]
      rcases List.mem_cons.mp h with h | h
      · exact absurd h.symm e
      · obtain ⟨h1, h2⟩ := ixOf_spec h
        refine ⟨by simpa using h1, fun j hj => ?_⟩
        cases j with
        | zero => simpa using e
        | succ j => simpa using h2 j (by omega)
theorem occ_stay (x y : Str) (hi i : Nat) : ∀ (l : List Nat) (st : Array Nat × Nat), st.fst = #[i] → (forIn l st (StrLaws.occBody x y hi 1)).run.fst = #[i]
  | [], st, h => h
  | a :: l, st, h => by
    rw [List.forIn_cons]
    unfold StrLaws.occBody
    rw [if_neg (by rw [h]; simp)]
    exact occ_stay x y hi i l _ h
theorem occ_first (x y : Str) (hi i : Nat) : ∀ (l : List Nat) (free : Nat), (∀ j ∈ l, free ≤ j) → i ∈ l → (i + y.length ≤ hi ∧ Builtin.Str.subAt x y i = true) → l.Pairwise (· < ·) → (∀ j ∈ l, j < i → ¬ (j + y.length ≤ hi ∧ Builtin.Str.subAt x y j = true)) →
    (forIn l ((#[] : Array Nat), free) (StrLaws.occBody x y hi 1)).run.fst = #[i]
  | [], _, _, h, _, _, _ => by cases h
  | a :: l, free, hf, hm, hc, hp, hn => by
    rw [List.forIn_cons]
    unfold StrLaws.occBody
    by_cases e : a = i
    · subst e
      rw [if_pos ⟨⟨⟨by simp, hf a (by simp)⟩, hc.1⟩, hc.2⟩]
      exact occ_stay x y hi a l _ (by simp)
    · have hil : i ∈ l := by
        rcases List.mem_cons.mp hm with h | h
        · exact absurd h.symm e
        · exact h
      have hai : a < i := (List.pairwise_cons.mp hp).1 i hil
      rw [if_neg (fun z => hn a (by simp) hai ⟨z.1.2, z.2⟩)]
      exact occ_first x y hi i l free (fun j hj => hf j (List.mem_cons_of_mem _ hj)) hil hc (List.pairwise_cons.mp hp).2 fun j hj => hn j (List.mem_cons_of_mem _ hj)
theorem occ_ix {l : List Nat} {c : Nat} (h : c ∈ l) : Builtin.Str.occurrences ⟨l.toArray⟩ ⟨#[c]⟩ 0 (⟨l.toArray⟩ : Str).length 1 = [ixOf c l] := by
  obtain ⟨h1, h2⟩ := ixOf_spec h
  rw [StrLaws.occ_eq, occ_first _ _ _ (ixOf c l)]
  · exact fun j _ => Nat.zero_le _
  · have := (List.getElem?_eq_some_iff.mp h1).1
    rw [str_len]
    simp only [List.mem_range'_1]
    omega
  · exact (StrLaws.subAt_one _ c _).mpr (by simpa using h1)
  · exact List.pairwise_lt_range' ..
  · exact fun j _ hj z => h2 j hj (by simpa using (StrLaws.subAt_one _ c j).mp z)
def pIndexS (d : D) (ds : List D) (Q : R → Prop) : Prop := match d, ds with
  | .str l, [.str [c]] => c ∈ l ∧ Q (.d (.int (ixOf c l)))
  | _, _ => False
theorem ref_indexS : MtRef "str" (fun _ x xs H Q => ∃ a b i rest, x = .str a ∧ xs = [.str b] ∧ Builtin.Str.occurrences a b 0 a.length 1 = i :: rest ∧ Q (.int (i : Nat)) H) pIndexS := by
  intro Γ σ κ H env v d vs ds Q Q' I hd hs q k
  match d, ds, vs, hd, hs, q with
  | .str l, [.str [c]], _, hd, .cons hx .nil, q =>
    obtain ⟨rfl, _⟩ := Rep.strE hd
    obtain ⟨rfl, _⟩ := Rep.strE hx
    exact ⟨_, _, _, _, rfl, rfl, occ_ix q.1, k _ κ H (.d (.int (ixOf c l))) (.refl ..) I (.int _) q.2⟩
theorem ve_indexS {apos cpos : Pos} {t : PTR} (ho : VE Y o to) (ha : VR Y [e] t) (hbase : ∀ X : Cx, attributeBase o "index" X.env (eval o X.env) = eval o X.env := by intro _; rfl)
    (hfew : ∀ X : Cx, ((backTo cpos (starEach [e] X.env)).all (fun x => !x.1) && (backToKw cpos (keywordEach [] X.env)).all (fun x => x.1.isSome)
      && decide (([e] : List Expr).length + ([] : List Keyword).length + (if ([] : List Keyword).isEmpty then 0 else 1) < 30)) = true := by intro _; rfl)
    (hline : (apos.endLine == cpos.line) = true := by rfl) (hs : ∀ X : Cx, starEach [e] X.env = (false, eval e X.env) :: starEach [] X.env := by intro _; rfl) :
    VE Y (.Call (.Attribute o "index" apos) [e] [] cpos) (tMeth "str" pIndexS to t) :=
  ve_meth PySem.F.plainAttrs_str PySem.F.slot_str_index PySem.F.type_str_index (fun _ => mt_sindex) ref_indexS ho ha hbase hfew hline hs
/-- list.index(data) -/
def ixD (d : D) : List D → Nat
  | [] => 0
  | x :: xs => if D.eq x d = true then 0 else ixD d xs + 1
def pIndexL (d : D) (ds : List D) (Q : R → Prop) : Prop := match d, ds with
  | .lst l, [y] => y.ok 64 = true ∧ D.okL l 63 = true ∧ (l.any fun z => D.eq z y) = true ∧ Q (.d (.int (ixD y l)))
  | _, _ => False
end
end Pu
set_option maxRecDepth 100000
set_option maxHeartbeats 4000000
namespace Pu
open PySem L2
section
variable {Γ Γ' : Gm} {κ κ' : Ka} {H H' : Hp} {env env' : En} {σ : Sl} {v : V} {st : Sto} {Y : Fam} {a b e o : Expr} {es : List Expr} {ta tb te to : PTE} {pos : Pos}
def mget : R → En → Option (List D)
  | .nam i, e => match e.sl[i]? with
    | some (.own ds) => some ds
    | _ => none
  | .d (.ref k), e => match e.st[k]? with
    | some (.lst ds) => some ds
    | _ => none
  | _, _ => none
def mset : R → En → List D → En
  | .nam i, e, ds => e.setC i (.own ds)
  | .d (.ref k), e, ds => ⟨e.sl, e.st.set k (.lst ds)⟩
  | _, e, _ => e
theorem Gh.upd_obj {p : Addr} {k : Nat} {o : HO} {so : SO} (g : Gh Γ κ st H) (h : κ p = some (.obj k)) (hr : ∀ H', H' p = some o → Ext κ H κ H' → ObjR Γ κ H' p so) (hk : k < st.length) : Gh Γ κ (st.set k so) (L2.upd H p o) := by
  have x : Ext κ H κ (L2.upd H p o) := ⟨fun _ _ e => e, fun a e => upd_ne fun z => by rw [z, h] at e; cases e⟩
  refine ⟨g.sub, g.new, fun b y e => ?_, fun b e => ?_, fun b e => ?_, fun b j e => ?_, g.inj, fun b u e hk' => ?_, g.tabs.ext x (fun b e => upd_ne fun z => by rw [z, h] at e; cases e) fun _ e => e⟩
  · by_cases hb : b = p
    · rw [hb, upd_same]; simp
    · rw [upd_ne hb]; exact g.trk b y e
  · by_cases hb : b = p
    · rw [hb, upd_same]; simp
    · rw [upd_ne hb]; exact g.trk0 b e
  · rw [upd_ne (fun z => by rw [z, h] at e; cases e)]; exact g.box b e
  · by_cases hb : b = p
    · subst hb
      rw [h] at e
      cases e
      exact ⟨so, by rw [List.getElem?_set_self hk], hr _ upd_same x⟩
    · have hj : j ≠ k := fun z => hb (g.inj b p k (z ▸ e) h)
      obtain ⟨so', h1, h2⟩ := g.obj b j e
      exact ⟨so', by rw [List.getElem?_set_ne (Ne.symm hj)]; exact h1, h2.ext x (upd_ne hb)⟩
  · by_cases hb : b = p
    · subst hb
      rcases g.new b _ h with z | z | ⟨z, _⟩
      · rcases hk' with q | q <;> (rw [q] at z; cases z)
      · rw [e] at z; cases z
      · cases z
    · rw [upd_ne hb]; exact g.base b u e hk'
theorem mut_ok {r : R} {ds : List D} (I : Rl Γ κ env σ H) (h : HeldR Γ κ H σ v r) (e : mget r env = some ds) : ∃ a vs, v = .ref a ∧ H a = some (.lst vs) ∧ vs.length ≤ sizeLine ∧ RepL Γ.K Γ.cls κ H vs ds ∧
    ∀ vs' ds', vs'.length ≤ sizeLine → RepL Γ.K Γ.cls κ H vs' ds' → Ext κ H κ (upd H a (.lst vs')) ∧ Rl Γ κ (mset r env ds') σ (upd H a (.lst vs')) := by
  cases r with
  | nam i =>
    have h : σ[i]? = some (some v) := h
    unfold mget at e
    simp only at e
    cases q : env.sl[i]? with
    | none => rw [q] at e; cases e
    | some c =>
      have s := I.get q
      rw [q] at e
      cases c with
      | own ds' =>
        cases e
        obtain ⟨a, e1, k1, h0, vs, h2, h3, h4⟩ := s
        rw [h] at e1
        cases e1
        refine ⟨a, vs, rfl, h2, h3, h4, fun vs' ds' l' r' => ?_⟩
        have x : Ext κ H κ (L2.upd H a (.lst vs')) := Ext.upd k1
        have hi : i < env.sl.length := (List.getElem?_eq_some_iff.mp q).1
        have own_i : OwnS env σ i a := ⟨h, _, q, rfl⟩
        refine ⟨x, ⟨by rw [I.len]; simp [mset, En.setC], fun j c ec => ?_, fun j l b o1 o2 => ?_, I.gh.upd k1 h0⟩⟩
        · have ec : (env.sl.set i (C.own ds'))[j]? = some c := ec
          by_cases hj : j = i
          · subst hj
            rw [List.getElem?_set_self hi] at ec
            cases ec
            exact ⟨a, h, k1, h0, vs', upd_same, l', r'.mono x⟩
          · rw [List.getElem?_set_ne (Ne.symm hj)] at ec
            have s := I.get ec
            cases hc : c.isOwn with
            | true =>
              obtain ⟨b, e1, hb⟩ := s.own hc
              have hba : b ≠ a := fun z => hj (I.dist j i a ⟨z ▸ e1, c, ec, hc⟩ own_i)
              exact .mk e1 (hb.ext x hb.facts.1 (upd_ne hba))
            | false =>
              cases c with
              | un => trivial
              | d d => obtain ⟨v, e1, r⟩ := s; exact ⟨v, e1, r.mono x⟩
              | _ => cases hc
        · have old : ∀ m, OwnS (env.setC i (.own ds')) σ m b → OwnS env σ m b := fun m ⟨z1, c, z2, z3⟩ => by
            have z2 : (env.sl.set i (C.own ds'))[m]? = some c := z2
            by_cases hm : m = i
            · subst hm
              exact ⟨z1, _, q, rfl⟩
            · rw [List.getElem?_set_ne (Ne.symm hm)] at z2
              exact ⟨z1, c, z2, z3⟩
          exact I.dist j l b (old j o1) (old l o2)
      | _ => cases e
  | d d =>
    cases d with
    | ref k =>
      unfold mget at e
      simp only at e
      cases q : env.st[k]? with
      | none => rw [q] at e; cases e
      | some so =>
        rw [q] at e
        cases so with
        | lst ds' =>
          cases e
          cases h with
          | @ref a _ hk =>
            obtain ⟨so, g1, g2⟩ := I.gh.obj a k hk
            rw [q] at g1
            cases g1
            obtain ⟨vs, h2, h3, h4⟩ := g2
            refine ⟨a, vs, rfl, h2, h3, h4, fun vs' ds' l' r' => ?_⟩
            have x : Ext κ H κ (L2.upd H a (.lst vs')) := ⟨fun _ _ e => e, fun b e => upd_ne fun z => by rw [z, hk] at e; cases e⟩
            refine ⟨x, I.step x (fun i b hb => ?_) (I.gh.upd_obj (so := .lst ds') hk (fun H' e x' => ⟨vs', e, l', r'.mono x'⟩) (List.getElem?_eq_some_iff.mp q).1)⟩
            obtain ⟨c, _, hc⟩ := I.ownS hb
            exact ⟨hc.facts.1, upd_ne fun z => by have := hc.facts.1; rw [z, hk] at this; cases this⟩
        | _ => cases e
    | _ => cases e
  | own _ => cases e
  | dK _ => cases e
  | dT _ => cases e
abbrev PMu := List D → List D → (List D → D → Prop) → Prop
def MutRef (r : V → List V → Hp → VK → Prop) (p : PMu) : Prop :=
  ∀ (Γ : Gm) (κ : Ka) (H : Hp) (a : Addr) (vs ws : List V) (ds as : List D) (K : List D → D → Prop) (Q' : VK), H a = some (.lst vs) → vs.length ≤ sizeLine → RepL Γ.K Γ.cls κ H vs ds → RepL Γ.K Γ.cls κ H ws as → (κ a ≠ some .frz) → p ds as K →
    (∀ y vs' ds' dy, vs'.length ≤ sizeLine → RepL Γ.K Γ.cls κ H vs' ds' → Rep Γ.K Γ.cls κ H y dy → K ds' dy → Q' y (upd H a (.lst vs'))) → r (.ref a) ws H Q'
def tMut (p : PMu) (to : PTE) (t : PTA) : PTE := fun x e Q => to x e fun r e1 => hold r e1 fun r e1 => (mget r e1).isSome = true ∧ t x e1 fun as e2 => match mget r e2 with
  | some ds => p ds as fun ds' y => Q (.d y) (mset r e2 ds')
  | none => False
theorem mut_fin {r : V → List V → Hp → VK → Prop} {p : PMu} {R2' : R} {ws : List V} {as : List D} {Q : R → En → Prop} {Q' : VK} (hr : MutRef r p) (I : Rl Γ κ env σ H) (h : HeldR Γ κ H σ v R2') (ha : RepL Γ.K Γ.cls κ H ws as)
    (q : match mget R2' env with | some ds => p ds as fun ds' y => Q (.d y) (mset R2' env ds') | none => False)
    (k : ∀ v κ' H' r env', Ext κ H κ' H' → Rl Γ κ' env' σ H' → RelR Γ κ' H' env' σ v r → Q r env' → Q' v H') : r v ws H Q' := by
  cases e1 : mget R2' env with
  | none => rw [e1] at q; exact q.elim
  | some ds =>
    rw [e1] at q
    obtain ⟨a, vs, rfl, h1, h2, h3, h4⟩ := mut_ok I h e1
    refine hr Γ κ H a vs ws ds as _ Q' h1 h2 h3 ha ?_ q fun y vs' ds' dy l' r' ry q' => ?_
    · intro z
      cases R2' with
      | nam i =>
        have h : σ[i]? = some (some (V.ref a)) := h
        unfold mget at e1
        simp only at e1
        cases q : env.sl[i]? with
        | none => rw [q] at e1; cases e1
        | some c =>
          rw [q] at e1
          cases c with
          | own ds' =>
            obtain ⟨c, _, hc⟩ := I.ownS (i := i) (a := a) ⟨h, _, q, rfl⟩
            rw [hc.facts.1] at z; cases z
          | _ => cases e1
      | d d =>
        cases d with
        | ref k => cases h with | ref hk => rw [hk] at z; cases z
        | _ => cases e1
      | _ => cases e1
    · obtain ⟨x, J⟩ := h4 vs' ds' l' r'
      exact k y κ _ (.d dy) (mset R2' env ds') x J (ry.mono x) q'
theorem tyV_mut {r : R} (I : Rl Γ κ env σ H) (h : HeldR Γ κ H σ v r) (e : (mget r env).isSome = true) : tyV Γ.K "list" v H := by
  obtain ⟨ds, e1⟩ := Option.isSome_iff_exists.mp e
  obtain ⟨a, vs, rfl, h1, _⟩ := mut_ok I h e1
  exact .inl ⟨rfl, vs, SqL.of h1⟩
theorem ve_mut {id : String} {name : Str} {apos cpos : Pos} {r : V → List V → Hp → VK → Prop} {p : PMu} {t : PTA} (slot : Slot "list" name id) (hty : typeOf (.builtin id) = pure (.type "method_descriptor")) (hm : ∀ i, MtR (Y.X i) id r) (hr : MutRef r p) (ho : VE Y o to) (ha : VA Y (e :: es) t)
    (hbase : ∀ X : Cx, attributeBase o name X.env (eval o X.env) = eval o X.env := by intro _; rfl)
    (hfew : ∀ X : Cx, ((backTo cpos (starEach (e :: es) X.env)).all (fun x => !x.1) && (backToKw cpos (keywordEach [] X.env)).all (fun x => x.1.isSome)
      && decide ((e :: es).length + ([] : List Keyword).length + (if ([] : List Keyword).isEmpty then 0 else 1) < 30)) = true := by intro _; rfl)
    (hline : (apos.endLine == cpos.line) = true := by rfl) (hs : ∀ X : Cx, starEach (e :: es) X.env = (false, eval e X.env) :: starEach es X.env := by intro _; rfl) (hplain : ∀ X : Cx, (backTo cpos (starEach es X.env)).any (·.1) = false := by intro _; rfl) :
    VE Y (.Call (.Attribute o name apos) (e :: es) [] cpos) (tMut p to t) := by
  obtain ⟨ro, po, fo⟩ := ho.ex
  obtain ⟨ra, pa', fa⟩ := ha.ex
  refine ⟨⟨fun E => tBM Y.K "list" r (ro E) (ra E), fun i => ?_, fun Γ σ κ H env Q Q' hK I q k => ?_⟩⟩
  · have h2 := pe_bm PySem.F.plainAttrs_list slot hty (hm i) (po i) (pa' i) (hbase _) (hfew _) hline (hs _) (hplain _)
    rw [Y.hK i] at h2
    exact h2
  · refine fo Γ σ κ H env _ _ hK I q fun v κ1 H1 r1 e1 x1 I1 h1 q1 => ?_
    refine hold_ok I1 h1 q1 fun κ2 r2 x2 I2 h2 q2 => ?_
    rw [← hK.k]
    refine ⟨tyV_mut I2 h2 q2.1, fa Γ σ κ2 H1 e1 _ _ hK I2 q2.2 fun vs κ3 H3 as e3 x3 I3 h3 q3 => ?_⟩
    exact mut_fin hr I3 (h2.ext x3) h3 q3 fun v' κ' H' r e' x => k v' κ' H' r e' (((x1.trans x2).trans x3).trans x)
theorem ve_mut0 {id : String} {name : Str} {apos cpos : Pos} {r : V → List V → Hp → VK → Prop} {p : PMu} (slot : Slot "list" name id) (hty : typeOf (.builtin id) = pure (.type "method_descriptor")) (hm : ∀ i, MtR (Y.X i) id r) (hr : MutRef r p) (ho : VE Y o to)
    (hbase : ∀ X : Cx, attributeBase o name X.env (eval o X.env) = eval o X.env := by intro _; rfl) (hline : (apos.endLine == cpos.line) = true := by rfl) :
    VE Y (.Call (.Attribute o name apos) [] [] cpos) (tMut p to tNil) := by
  obtain ⟨ro, po, fo⟩ := ho.ex
  refine ⟨⟨fun E => tBM0 Y.K "list" r (ro E), fun i => ?_, fun Γ σ κ H env Q Q' hK I q k => ?_⟩⟩
  · have h2 := pe_bm0 PySem.F.plainAttrs_list slot hty (hm i) (po i) (hbase _) hline
    rw [Y.hK i] at h2
    exact h2
  · refine fo Γ σ κ H env _ _ hK I q fun v κ1 H1 r1 e1 x1 I1 h1 q1 => ?_
    refine hold_ok I1 h1 q1 fun κ2 r2 x2 I2 h2 q2 => ?_
    rw [← hK.k]
    refine ⟨tyV_mut I2 h2 q2.1, ?_⟩
    exact mut_fin hr I2 h2 (.nil) q2.2 fun v' κ' H' r e' x => k v' κ' H' r e' ((x1.trans x2).trans x)
def mAppend : PMu := fun ds as K => match as with
  | [y] => ds.length < sizeLine ∧ K (ds ++ [y]) .non
  | _ => False
theorem ref_append : MutRef rAppend mAppend := by
  intro Γ κ H a vs ws ds as K Q' h1 h2 h3 h4 hk q k
  match as, ws, h4, q with
  | [y], _, .cons (v := w) r .nil, q => exact ⟨a, vs, w, rfl, rfl, h1, by rw [h3.length]; exact q.1, k .non (vs ++ [w]) (ds ++ [y]) .non (by rw [List.length_append, h3.length]; exact q.1) (h3.append (.cons r .nil)) .non q.2⟩
@[irreducible] def mPop : PMu := fun ds as K => match as with
  | [] => match ds[ds.length - 1]? with
    | some y => K ds.dropLast y
    | none => False
  | _ => False
theorem ref_pop : MutRef rPop mPop := by
  intro Γ κ H a vs ws ds as K Q' h1 h2 h3 h4 hk q k
  unfold mPop at q
  match as, ws, h4, q with
  | [], _, .nil, q =>
    simp only at q
    cases e : ds[ds.length - 1]? with
    | none => rw [e] at q; exact q.elim
    | some y =>
      rw [e] at q
      obtain ⟨w, e1, r⟩ := h3.get e
      exact ⟨a, vs, w, rfl, rfl, h1, by rw [h3.length]; exact e1, k w vs.dropLast ds.dropLast y (by rw [List.length_dropLast]; omega) h3.dropLast r q⟩
@[irreducible] def mPopAt : PMu := fun ds as K => match as with
  | [.int i] => match ixN ds.length i with
    | some j => match ds[j]? with
      | some y => K (ds.eraseIdx j) y
      | none => False
    | none => False
  | _ => False
theorem ref_popAt : MutRef rPopAt mPopAt := by
  intro Γ κ H a vs ws ds as K Q' h1 h2 h3 h4 hk q k
  unfold mPopAt at q
  match as, ws, h4, q with
  | [.int i], _, .cons r .nil, q =>
    cases r
    simp only at q
    cases e : ixN ds.length i with
    | none => rw [e] at q; exact q.elim
    | some j =>
      rw [e] at q
      simp only at q
      cases e2 : ds[j]? with
      | none => rw [e2] at q; exact q.elim
      | some y =>
        rw [e2] at q
        obtain ⟨s1, s2, s3, s4⟩ := ixN_seq e
        obtain ⟨w, e3, rw'⟩ := h3.get e2
        have hl := line63
        have hl2 := h3.length
        exact ⟨a, vs, i, j, w, rfl, rfl, h1, by omega, by omega, by rw [h3.length]; exact s1, e3, k w (vs.eraseIdx j) (ds.eraseIdx j) y (Nat.le_trans (List.length_eraseIdx_le ..) h2) (h3.eraseIdx j) rw' q⟩
def mExtend : PMu := fun ds as K => match as with
  | [.lst zs] => ds.length + zs.length ≤ sizeLine ∧ K (ds ++ zs) .non
  | _ => False
def mReverse : PMu := fun ds as K => match as with
  | [] => K ds.reverse .non
  | _ => False
section
variable {apos cpos : Pos} {t : PTA}
variable (hbase : ∀ (n : Str) (X : Cx), attributeBase o n X.env (eval o X.env) = eval o X.env)
theorem ve_append (ho : VE Y o to) (ha : VA Y [e] t) (hbase : ∀ X : Cx, attributeBase o "append" X.env (eval o X.env) = eval o X.env := by intro _; rfl)
    (hfew : ∀ X : Cx, ((backTo cpos (starEach [e] X.env)).all (fun x => !x.1) && (backToKw cpos (keywordEach [] X.env)).all (fun x => x.1.isSome)
      && decide (([e] : List Expr).length + ([] : List Keyword).length + (if ([] : List Keyword).isEmpty then 0 else 1) < 30)) = true := by intro _; rfl)
    (hline : (apos.endLine == cpos.line) = true := by rfl) (hs : ∀ X : Cx, starEach [e] X.env = (false, eval e X.env) :: starEach [] X.env := by intro _; rfl) : VE Y (.Call (.Attribute o "append" apos) [e] [] cpos) (tMut mAppend to t) :=
  ve_mut PySem.F.slot_list_append PySem.F.type_list_append (fun _ => mt_append) ref_append ho ha hbase hfew hline hs
theorem ve_popAt (ho : VE Y o to) (ha : VA Y [e] t) (hbase : ∀ X : Cx, attributeBase o "pop" X.env (eval o X.env) = eval o X.env := by intro _; rfl)
    (hfew : ∀ X : Cx, ((backTo cpos (starEach [e] X.env)).all (fun x => !x.1) && (backToKw cpos (keywordEach [] X.env)).all (fun x => x.1.isSome)
      && decide (([e] : List Expr).length + ([] : List Keyword).length + (if ([] : List Keyword).isEmpty then 0 else 1) < 30)) = true := by intro _; rfl)
    (hline : (apos.endLine == cpos.line) = true := by rfl) (hs : ∀ X : Cx, starEach [e] X.env = (false, eval e X.env) :: starEach [] X.env := by intro _; rfl) : VE Y (.Call (.Attribute o "pop" apos) [e] [] cpos) (tMut mPopAt to t) :=
  ve_mut PySem.F.slot_list_pop PySem.F.type_list_pop (fun _ => mt_popAt) ref_popAt ho ha hbase hfew hline hs
theorem ve_pop (ho : VE Y o to) (hbase : ∀ X : Cx, attributeBase o "pop" X.env (eval o X.env) = eval o X.env := by intro _; rfl) (hline : (apos.endLine == cpos.line) = true := by rfl) : VE Y (.Call (.Attribute o "pop" apos) [] [] cpos) (tMut mPop to tNil) :=
  ve_mut0 PySem.F.slot_list_pop PySem.F.type_list_pop (fun _ => mt_pop) ref_pop ho hbase hline
end
/-- list(x) -/
def pList : List D → (R → Prop) → Prop
  | [.lst ds], Q => Q (.own ds)
  | [.tup ds], Q => Q (.own ds)
  | [.str s], Q => Q (.own (signs s))
  | _, _ => False
def rListAll (K : PySem.W.Frag) : List V → Hp → VK → Prop := fun xs H Q => (∃ p ys, xs = [.ref p] ∧ (SqL K H p ys ∨ SqT K H p ys) ∧ ∀ l, H l = none → Q (.ref l) (upd H l (.lst ys))) ∨
  ∃ x : Str, xs = [.str x] ∧ x.length ≤ sizeLine ∧ ∀ l, H l = none → Q (.ref l) (upd H l (.lst (x.cps.toList.map fun c => V.str ⟨#[c]⟩)))
theorem call_listAll {X : Cx} (hc : X.calm = true) : CallR X (.type "list") (rListAll X.K) := CallR.or call_list_of (PuE.call_listS hc)
theorem signs_rep {s : List Nat} (hs : ∀ c ∈ s, c < 1114112) : RepL Γ.K Γ.cls κ H (s.map fun c => V.str ⟨#[c]⟩) (signs s) := by
  induction s with
  | nil => exact .nil
  | cons c s ih => exact .cons (.str [c] ⟨by show 1 ≤ sizeLine; decide, fun d hd => by
      have : d = c := by simpa using hd
      rw [this]; exact hs c (by simp)⟩) (ih fun d hd => hs d (List.mem_cons_of_mem _ hd))
theorem signs_length (s : List Nat) : (signs s).length = s.length := by unfold signs; rw [List.length_map]
theorem ref_list : CallRef rListAll pList := by
  intro Γ σ κ H env vs ds Q Q' I h q k
  match ds, vs, h, q with
  | [.lst ds], _, .cons h .nil, q =>
    obtain ⟨a, ws, rfl, h1, h2, h3⟩ := h
    exact .inl ⟨a, ws, rfl, .inl (SqL.of h1), fun l hl => k _ κ _ (.own ds) (Ext.upd_new I.gh hl) (I.upd_new hl) (new_lst I hl h2 h3) q⟩
  | [.tup ds], _, .cons h .nil, q =>
    obtain ⟨a, ws, rfl, h1, h2, h3⟩ := Rep.sqT h
    exact .inl ⟨a, ws, rfl, .inr h1, fun l hl => k _ κ _ (.own ds) (Ext.upd_new I.gh hl) (I.upd_new hl) (new_lst I hl h2 h3) q⟩
  | [.str s], _, .cons h .nil, q =>
    obtain ⟨rfl, hs⟩ := Rep.strE h
    refine .inr ⟨_, rfl, by rw [str_len]; exact hs.1, fun l hl => ?_⟩
    have hl2 : (s.map fun c => V.str ⟨#[c]⟩).length ≤ sizeLine := by rw [List.length_map]; exact hs.1
    exact k _ κ _ (.own (signs s)) (Ext.upd_new I.gh hl) (I.upd_new hl) (new_lst I hl hl2 (signs_rep hs.2)) q
theorem ve_list {p' : Pos} {t : PTR} (hm : ∀ i, (Y.X i).mg "list" = none) (ha : VR Y [e] t) (hc : ∀ i, (Y.X i).calm = true := by intro _; rfl) (hg : ∀ i, Gl (Y.X i) "list" := by intro _; rfl) (he : ∀ X : Cx, starEach [e] X.env = (false, eval e X.env) :: starEach [] X.env := by intro _; rfl) : VE Y (.Call (.Name "list" p') [e] [] pos) (tCallP pList t) :=
  ve_callTy (fun i => call_listAll (hc i)) ref_list hm ha hg (he := he)
/-- tuple(x) -/
def pTuple : List D → (R → Prop) → Prop
  | [.lst ds], Q => Q (.d (.tup ds))
  | [.tup ds], Q => Q (.d (.tup ds))
  | _, _ => False
/-- min, max of two ints -/
def pMin2 : List D → (R → Prop) → Prop
  | [.int i, .int j], Q => Q (.d (.int (if j < i then j else i)))
  | _, _ => False
def pMax2 : List D → (R → Prop) → Prop
  | [.int i, .int j], Q => Q (.d (.int (if j > i then j else i)))
  | _, _ => False
theorem ref_min2 : CallRef (fun _ xs H Q => ∃ i j, xs = [.int i, .int j] ∧ Q (.int (if j < i then j else i)) H) pMin2 := by
  intro Γ σ κ H env vs ds Q Q' I h q k
  match ds, vs, h, q with
  | [.int i, .int j], _, .cons h (.cons h' .nil), q =>
    cases h; cases h'
    exact ⟨i, j, rfl, k _ κ H (.d (.int _)) (.refl ..) I (.int _) q⟩
theorem ref_max2 : CallRef (fun _ xs H Q => ∃ i j, xs = [.int i, .int j] ∧ Q (.int (if j > i then j else i)) H) pMax2 := by
  intro Γ σ κ H env vs ds Q Q' I h q k
  match ds, vs, h, q with
  | [.int i, .int j], _, .cons h (.cons h' .nil), q =>
    cases h; cases h'
    exact ⟨i, j, rfl, k _ κ H (.d (.int _)) (.refl ..) I (.int _) q⟩
theorem ve_min2 {p' : Pos} {t : PTR} (hm : ∀ i, (Y.X i).mg "min" = none) (ha : VR Y [a, b] t) (hc : ∀ i, (Y.X i).calm = true := by intro _; rfl) (hg : ∀ i, Gl (Y.X i) "min" := by intro _; rfl) (he : ∀ X : Cx, starEach [a, b] X.env = (false, eval a X.env) :: starEach [b] X.env := by intro _; rfl) (hpl : ∀ X : Cx, (backTo pos (starEach [b] X.env)).any (·.1) = false := by intro _; rfl) : VE Y (.Call (.Name "min" p') [a, b] [] pos) (tCallP pMin2 t) :=
  ve_callB (fun i => call_min2 (hc i)) ref_min2 hm ha hg (he := he) (hpl := hpl)
theorem ve_max2 {p' : Pos} {t : PTR} (hm : ∀ i, (Y.X i).mg "max" = none) (ha : VR Y [a, b] t) (hc : ∀ i, (Y.X i).calm = true := by intro _; rfl) (hg : ∀ i, Gl (Y.X i) "max" := by intro _; rfl) (he : ∀ X : Cx, starEach [a, b] X.env = (false, eval a X.env) :: starEach [b] X.env := by intro _; rfl) (hpl : ∀ X : Cx, (backTo pos (starEach [b] X.env)).any (·.1) = false := by intro _; rfl) : VE Y (.Call (.Name "max" p') [a, b] [] pos) (tCallP pMax2 t) :=
  ve_callB (fun i => call_max2 (hc i)) ref_max2 hm ha hg (he := he) (hpl := hpl)
/-- all, any of a list of bools -/
def blL : List D → Option (List Bool)
  | [] => some []
  | .bl b :: ds => match blL ds with
    | some r => some (b :: r)
    | none => none
  | _ => none
@[irreducible] def pAll : List D → (R → Prop) → Prop
  | [.lst ds], Q => match blL ds with
    | some r => Q (.d (.bl (r.all id)))
    | none => False
  | _, _ => False
@[irreducible] def pAny : List D → (R → Prop) → Prop
  | [.lst ds], Q => match blL ds with
    | some r => Q (.d (.bl (r.any id)))
    | none => False
  | _, _ => False
/-- int(b), int(n) -/
def pInt : List D → (R → Prop) → Prop
  | [.int i], Q => Q (.d (.int i))
  | [.bl b], Q => Q (.d (.int (if b then 1 else 0)))
  | _, _ => False
theorem ref_int : CallRef (fun _ xs H Q => (∃ i, xs = [.int i] ∧ Q (.int i) H) ∨ ∃ k, xs = [.bl k] ∧ Q (.int (if k then 1 else 0)) H) pInt := by
  intro Γ σ κ H env vs ds Q Q' I h q k
  match ds, vs, h, q with
  | [.int i], _, .cons h .nil, q => cases h; exact .inl ⟨i, rfl, k _ κ H (.d (.int _)) (.refl ..) I (.int _) q⟩
  | [.bl b], _, .cons h .nil, q => cases h; exact .inr ⟨b, rfl, k _ κ H (.d (.int _)) (.refl ..) I (.int _) q⟩
theorem ve_int1 {p' : Pos} {t : PTR} (hm : ∀ i, (Y.X i).mg "int" = none) (ha : VR Y [e] t) (hg : ∀ i, Gl (Y.X i) "int" := by intro _; rfl) (he : ∀ X : Cx, starEach [e] X.env = (false, eval e X.env) :: starEach [] X.env := by intro _; rfl) : VE Y (.Call (.Name "int" p') [e] [] pos) (tCallP pInt t) :=
  ve_callTy (fun i => call_int1) ref_int hm ha hg (he := he)
/-- reversed(text) -/
def iRevP (te : PTE) : PTI := fun x e Q => te x e fun r e1 => fz r e1 fun d e2 => match d with
  | .str s => Q (signs s).reverse e2
  | _ => False
theorem src_rev {K : PySem.W.Frag} {cl : Cl} {s : List Nat} (hs : SOk s) : Src K cl κ H (PuE.ItvS ⟨s.toArray⟩) (signs s).reverse := by
  intro Γ2 hK hc σ κ1 H1 env i I x
  have hl : (signs s).length = s.length := signs_length s
  refine ⟨fun d e => ?_, fun e => ?_⟩
  · have hi : i < s.length := by
      have := (List.getElem?_eq_some_iff.mp e).1
      rw [List.length_reverse] at this
      omega
    rw [List.getElem?_reverse (by rw [hl]; exact hi), hl] at e
    unfold signs at e
    rw [List.getElem?_map] at e
    cases q : s[s.length - 1 - i]? with
    | none => rw [q] at e; cases e
    | some c =>
      rw [q] at e
      cases e
      refine ⟨by show i < (⟨s.toArray⟩ : Str).length; rw [str_len]; exact hi, fun v H' y => ?_⟩
      obtain ⟨rfl, c', e1, rfl⟩ := y
      rw [str_len] at e1
      have e1 : s.toArray[s.length - 1 - i]? = some c' := e1
      rw [List.getElem?_toArray, q] at e1
      cases e1
      exact ⟨κ1, .refl .., I, .str _ (hs.one (List.mem_of_getElem? q))⟩
  · show (⟨s.toArray⟩ : Str).length ≤ i
    rw [str_len, ← e, List.length_reverse, hl]
    exact Nat.le_refl _
theorem vi_revS {tg : Expr} {p : Pos} (hm : ∀ i, (Y.X i).mg "reversed" = none) (he : VE Y e te) (hg : ∀ i, Gl (Y.X i) "reversed" := by intro _; rfl) (hs : ∀ X : Cx, starEach [e] X.env = (false, eval e X.env) :: starEach [] X.env := by intro _; rfl) : VI Y tg (.Call (.Name "reversed" p) [e] [] pos) (iRevP te) := by
  obtain ⟨ra, pa, fa⟩ := he.ex
  refine ⟨⟨fun E => PuE.iRevS (ra E), fun i => PuE.pi_revS (hg i) (hm i) (pa i) (hs _), fun Γ σ κ H env Q Q' hK I q k => ?_⟩⟩
  refine fa Γ σ κ H env _ _ hK I q fun v κ1 H1 r1 e1 x1 I1 h1 q1 => ?_
  refine fz_ok I1 h1 q1 fun κ2 d e2 x2 I2 h2 q2 => ?_
  cases d with
  | str s =>
    obtain ⟨rfl, hs⟩ := h2.strE
    exact ⟨_, rfl, by rw [str_len]; exact hs.1, k _ κ2 H1 _ e2 (x1.trans x2) I2 (src_rev hs) q2⟩
  | _ => exact False.elim q2
/-- isinstance(x, a built-in type) -/
def D.tyN : D → Option String
  | .non => some "NoneType"
  | .bl _ => some "bool"
  | .int _ => some "int"
  | .str _ => some "str"
  | .lst _ => some "list"
  | .tup _ => some "tuple"
  | _ => none
def tIsi (T : String) (te : PTE) : PTE := fun x e Q => te x e fun r e1 => match rv r e1 with
  | some d => match d.tyN with
    | some u => match kitB u T with
      | some b => Q (.d (.bl b)) e1
      | none => False
    | none => False
  | none => False
end
end Pu
set_option maxRecDepth 100000
set_option maxHeartbeats 1000000
namespace PuE
open PySem L2 PySem.Spec PyProof.Rows
def rRepS : R2 := fun x y H Q => ∃ (s : List Nat) (k : Int), x = .str ⟨s.toArray⟩ ∧ y = .int k ∧ -(2 ^ 63) ≤ k ∧ k < 2 ^ 63 ∧ s.length * k.toNat ≤ 16777216 ∧ Q (.str ⟨(List.replicate k.toNat s).flatten.toArray⟩) H
theorem fold_rep (s : List Nat) : ∀ (m : Nat) (acc : List Nat), (List.replicate m s.toArray).foldl (· ++ ·) acc.toArray = (acc ++ (List.replicate m s).flatten).toArray
  | 0, acc => by simp
  | m + 1, acc => by
    rw [List.replicate_succ, List.foldl_cons, List.append_toArray, fold_rep s m, List.replicate_succ, List.flatten_cons, List.append_assoc]
theorem op_repS {X : Cx} : OpR X (binaryOp .Mult) rRepS := by
  intro pins s σ H x y v u Q I rx ry h
  obtain ⟨l, k, rfl, rfl, h1, h2, hz, q⟩ := h
  obtain ⟨t, rfl⟩ := rx
  obtain ⟨t', rfl⟩ := ry
  have hline : (sizeLine : Nat) = 16777216 := sizeLine_eq
  have hlen : (⟨l.toArray⟩ : Str).length = l.length := rfl
  refine PySem.P.mul_str ?_ ?_ ?_ ?_
  · rw [decide_eq_false (by omega), decide_eq_false (by omega)]; rfl
  · intro hk hn
    rw [hlen]
    intro z
    have hk1 : 1 ≤ k := by omega
    have h3 : (l.length : Int) * k ≤ 16777216 := by
      have : ((l.length * k.toNat : Nat) : Int) ≤ 16777216 := by omega
      rw [Int.natCast_mul, Int.toNat_of_nonneg (by omega)] at this
      exact this
    have h4 : (l.length : Int) ≤ (2 ^ 63 - 1) / k := by
      rw [Int.le_ediv_iff_mul_le (by omega)]
      omega
    omega
  · intro hk hn
    rw [hlen]
    unfold Builtin.Str.tooLong
    simp only [decide_eq_false_iff_not]
    omega
  · have fin : ∀ (y : Str) (s' : Shared), True := fun _ _ => trivial
    by_cases hk : k < 1
    · rw [if_pos hk]
      have e : k.toNat = 0 := by omega
      rw [e] at q
      exact ⟨by decide, .str ⟨([] : List Nat).toArray⟩, H, I.tok _, ⟨_, rfl⟩, q⟩
    · rw [if_neg hk]
      by_cases hb : (k == 1 || (⟨l.toArray⟩ : Str).length == 0) = true
      · rw [if_pos hb]
        have e : (List.replicate k.toNat l).flatten = l := by
          rw [Bool.or_eq_true] at hb
          rcases hb with hb | hb
          · have : k = 1 := by simpa using hb
            subst this
            simp
          · have : l = [] := by
              rw [hlen] at hb
              exact List.eq_nil_of_length_eq_zero (by simpa using hb)
            subst this
            simp
        rw [e] at q
        exact ⟨.str ⟨l.toArray⟩, H, I, ⟨_, rfl⟩, q⟩
      · rw [if_neg hb]
        have e : (⟨(List.replicate k.toNat (⟨l.toArray⟩ : Str).cps).foldl (· ++ ·) #[]⟩ : Str) = ⟨(List.replicate k.toNat l).flatten.toArray⟩ := by
          have := fold_rep l k.toNat []
          rw [List.nil_append] at this
          show (⟨(List.replicate k.toNat l.toArray).foldl (· ++ ·) ([] : List Nat).toArray⟩ : Str) = _
          rw [this]
        rw [e]
        refine ⟨?_, .str ⟨(List.replicate k.toNat l).flatten.toArray⟩, H, I.tok _, ⟨_, rfl⟩, q⟩
        show (List.replicate k.toNat l).flatten.toArray.size ≤ _
        rw [List.size_toArray, List.length_flatten, List.map_replicate, List.sum_replicate_nat, hline, Nat.mul_comm]
        exact hz
end PuE
set_option maxRecDepth 100000
set_option maxHeartbeats 4000000
namespace Pu
open PySem L2
section
variable {Γ Γ' : Gm} {κ κ' : Ka} {H H' : Hp} {env env' : En} {σ : Sl} {v : V} {st : Sto} {Y : Fam} {a b e o : Expr} {es : List Expr} {ta tb te to ti : PTE} {pos : Pos}
def pMul (d e : D) (Q : R → Prop) : Prop := match d, e with
  | .int i, .int j => CMul i j ∧ Q (.d (.int (i * j)))
  | .lst xs, .int k => (-(2 ^ 63) ≤ k ∧ k < 2 ^ 63) ∧ xs.length * k.toNat ≤ sizeLine ∧ Q (.own (List.replicate k.toNat xs).flatten)
  | .str s, .int k => (-(2 ^ 63) ≤ k ∧ k < 2 ^ 63) ∧ s.length * k.toNat ≤ 16777216 ∧ Q (.d (.str (List.replicate k.toNat s).flatten))
  | _, _ => False
def rMulAll : PySem.W.Frag → R2 := fun _ x y H Q => rI CMul (fun i j => .int (i * j)) x y H Q ∨ rRep x y H Q ∨ PuE.rRepS x y H Q
theorem o_mul (X : Cx) : OpR X (binaryOp .Mult) (rMulAll X.K) := OpR.or op_mul (OpR.or op_rep PuE.op_repS)
theorem ref_mul : OpRef rMulAll pMul := by
  intro Γ σ κ H env v u d e Q Q' I hd he q k
  cases d with
  | int i =>
    cases e with
    | int j => cases hd; cases he; exact .inl ⟨i, j, rfl, rfl, q.1, k _ κ H (.d (.int (i * j))) (.refl ..) I (.int _) q.2⟩
    | _ => exact False.elim q
  | lst xs =>
    cases e with
    | int j =>
      cases he
      obtain ⟨a, vs, rfl, h1, h2, h3⟩ := hd
      obtain ⟨⟨q1, q2⟩, q3, q4⟩ := q
      have rr : ∀ n : Nat, RepL Γ.K Γ.cls κ H (List.replicate n vs).flatten (List.replicate n xs).flatten := fun n => by
        induction n with
        | zero => exact .nil
        | succ n ih =>
          rw [List.replicate_succ, List.replicate_succ, List.flatten_cons, List.flatten_cons]
          exact h3.append ih
      refine .inr (.inl ⟨a, j, vs, rfl, rfl, h1, q1, q2, by rw [h3.length]; exact q3, fun p hp => ?_⟩)
      refine k _ κ _ (.own _) (Ext.upd_new I.gh hp) (I.upd_new hp) (new_lst I hp ?_ (rr _)) q4
      rw [List.length_flatten, List.map_replicate, List.sum_replicate_nat, h3.length, Nat.mul_comm]
      exact q3
    | _ => exact False.elim q
  | str s =>
    cases e with
    | int j =>
      cases he
      obtain ⟨rfl, hs⟩ := Rep.strE hd
      obtain ⟨⟨q1, q2⟩, q3, q4⟩ := q
      refine .inr (.inr ⟨s, j, rfl, rfl, q1, q2, q3, k _ κ H (.d (.str _)) (.refl ..) I (.str _ ⟨?_, fun c hc => ?_⟩) q4⟩)
      · rw [List.length_flatten, List.map_replicate, List.sum_replicate_nat, Nat.mul_comm, sizeLine_eq]
        exact q3
      · obtain ⟨l, hl, hc⟩ := List.mem_flatten.mp hc
        rw [(List.mem_replicate.mp hl).2] at hc
        exact hs.2 c hc
    | _ => exact False.elim q
  | _ => exact False.elim q
theorem ve_mul (ha : VE Y a ta) (hb : VE Y b tb) : VE Y (.BinOp a .Mult b pos) (t2 ta tb pMul) := ve_op o_mul ref_mul ha hb
theorem ve_neg (ha : VE Y a ta) : VE Y (.UnaryOp .USub a pos) (t1 ta fun d Q => match d with | .int i => Q (.d (.int (-i))) | _ => False) := by
  obtain ⟨ra, pa, fa⟩ := ha.ex
  refine ⟨⟨fun E => tUn (rU fun i => .int (-i)) (ra E), fun i => pe_un un_neg (pa i), fun Γ σ κ H env Q Q' hK I q k => ?_⟩⟩
  refine fa Γ σ κ H env _ _ hK I q fun v κ1 H1 r1 e1 x1 I1 h1 q1 => ?_
  cases e' : rv r1 e1 with
  | none => rw [e'] at q1; exact q1.elim
  | some d =>
    rw [e'] at q1
    have rt := rv_ok I1 h1 e'
    cases d with
    | int i => cases rt; exact ⟨i, rfl, k _ κ1 H1 (.d (.int (-i))) e1 x1 I1 (.int _) q1⟩
    | _ => exact q1.elim
def setAt (r : R) (dv : D) (i : Int) (e : En) (Q : En → Prop) : Prop := match r with
  | .d .box => (i = 0 ∨ i = 1) ∧ (match dv with | .int _ => Q e | _ => False)
  | r => match mget r e with
    | some ds => match ixN ds.length i with
      | some j => Q (mset r e (ds.set j dv))
      | none => False
    | none => False
def sSetIx (te to ti : PTE) : PTS := fun x P e => te x e fun r0 e1 => fz r0 e1 fun dv e2 => to x e2 fun ro e3 => hold ro e3 fun ro e3 => ti x e3 fun ri e4 => match rv ri e4 with
  | some (.int i) => setAt ro dv i e4 P.nx
  | _ => False
theorem Gh.upd_box {p : Addr} {i j : Int} (g : Gh Γ κ st H) (h : κ p = some .box) : Gh Γ κ st (L2.upd H p (.lst [.int i, .int j])) := by
  have x : Ext κ H κ (L2.upd H p (.lst [.int i, .int j])) := ⟨fun _ _ e => e, fun a e => upd_ne fun z => by rw [z, h] at e; cases e⟩
  refine ⟨g.sub, g.new, fun b y e => ?_, fun b e => ?_, fun b e => ?_, fun b k e => ?_, g.inj, fun b u e hk' => ?_, g.tabs.ext x (fun b e => upd_ne fun z => by rw [z, h] at e; cases e) fun _ e => e⟩
  · by_cases hb : b = p
    · rw [hb, upd_same]; simp
    · rw [upd_ne hb]; exact g.trk b y e
  · by_cases hb : b = p
    · rw [hb, upd_same]; simp
    · rw [upd_ne hb]; exact g.trk0 b e
  · by_cases hb : b = p
    · exact ⟨i, j, by rw [hb, upd_same]⟩
    · rw [upd_ne hb]; exact g.box b e
  · have hb : b ≠ p := fun z => by rw [z, h] at e; cases e
    obtain ⟨so', h1, h2⟩ := g.obj b k e
    exact ⟨so', h1, h2.ext x (upd_ne hb)⟩
  · by_cases hb : b = p
    · subst hb
      rcases g.new b _ h with z | z | ⟨z, _⟩
      · rcases hk' with q | q <;> (rw [q] at z; cases z)
      · rw [e] at z; cases z
      · cases z
    · rw [upd_ne hb]; exact g.base b u e hk'
theorem vs_setIx {i : Expr} {tpos : Pos} (he : VE Y e te) (ho : VE Y o to) (hi : VE Y i ti) (ha : ∀ (X : Cx) v, assign (.Subscript o i tpos) X.env v = (do
      let ov ← holding [v] (eval o X.env)
      let iv ← holding [v, ov] (eval i X.env)
      standAt tpos
      holding [v, ov, iv] (setItem ov iv v)
      release [v, ov, iv] []) := by intro _ _; rfl)
    (hs : ∀ i', swapsWithSole [.Subscript o i tpos] e pos.line (Y.X i').env = pure false := by intro _; rfl) (hw : ∀ i', swappedStores [.Subscript o i tpos] e (Y.X i').env = pure none := by intro _; rfl)
    (h1 : ∀ X : Cx, (assignEach [.Subscript o i tpos] X.env).map (·.2) = [assign (.Subscript o i tpos) X.env] := by intro _; rfl) : VS Y (.Assign [.Subscript o i tpos] e pos) (sSetIx te to ti) := by
  obtain ⟨re, pe, fe⟩ := he.ex
  obtain ⟨ro, po, fo⟩ := ho.ex
  obtain ⟨ri, pi, fi⟩ := hi.ex
  refine ⟨⟨fun E => tAsg (re E) (gSub (ro E) (ri E) rSetL), fun j => ps_asg (pe j) (pg_sub (po j) (pi j) set_list (ha _)) (hs j) (hw j) (h1 _), fun Γ σ κ H env P P' hK I q l => ?_⟩⟩
  refine fe Γ σ κ H env _ _ hK I q fun v κ1 H1 r1 e1 x1 I1 h1 q1 => ?_
  refine fz_ok I1 h1 q1 fun κ2 dv e2 x2 I2 h2 q2 => ?_
  refine fo Γ σ κ2 H1 e2 _ _ hK I2 q2 fun ov κ3 H3 r3 e3 x3 I3 h3 q3 => ?_
  refine hold_ok I3 h3 q3 fun κ4 r4 x4 I4 h4 q4 => ?_
  refine fi Γ σ κ4 H3 e3 _ _ hK I4 q4 fun iv κ5 H5 r5 e5 x5 I5 h5 q5 => ?_
  have hv : Rep Γ.K Γ.cls κ5 H5 v dv := ((h2.mono x3).mono x4).mono x5
  have hr := h4.ext x5
  have x15 := (((x1.trans x2).trans x3).trans x4).trans x5
  cases e' : rv r5 e5 with
  | none => rw [e'] at q5; exact q5.elim
  | some d =>
    rw [e'] at q5
    have rt := rv_ok I5 h5 e'
    cases d with
    | int i =>
      cases rt
      have gen : (match mget r4 e5 with
          | some ds => match ixN ds.length i with
            | some j => P.nx (mset r4 e5 (ds.set j dv))
            | none => False
          | none => False) → rSetL ov (.int i) v H5 fun H6 => P'.nx σ H6 := fun q => by
        cases em : mget r4 e5 with
        | none => rw [em] at q; exact q.elim
        | some ds =>
          rw [em] at q
          simp only at q
          cases en : ixN ds.length i with
          | none => rw [en] at q; exact q.elim
          | some j =>
            rw [en] at q
            obtain ⟨a, vs, rfl, g1, g2, g3, g4⟩ := mut_ok I5 hr em
            obtain ⟨x6, I6⟩ := g4 (vs.set j v) (ds.set j dv) (by rw [List.length_set]; exact g2) (g3.set j hv)
            exact ⟨a, vs, i, j, rfl, rfl, g1, by rw [g3.length]; exact en, l.1 σ κ5 _ _ (x15.trans x6) I6 q⟩
      cases r4 with
      | d z =>
        cases z with
        | box =>
          cases hr with
          | @box a hk =>
            obtain ⟨m, n, hx⟩ := I5.gh.box a hk
            obtain ⟨hi, q5⟩ := q5
            cases dv with
            | int y =>
              cases hv
              have fin : ∀ m' n' : Int, P'.nx σ (upd H5 a (.lst [.int m', .int n'])) := fun m' n' => by
                have x6 : Ext κ5 H5 κ5 (upd H5 a (.lst [.int m', .int n'])) := ⟨fun _ _ e => e, fun b e => upd_ne fun z => by rw [z, hk] at e; cases e⟩
                refine l.1 σ κ5 _ e5 (x15.trans x6) (I5.step (st' := e5.st) x6 (fun j b hb => ?_) (I5.gh.upd_box hk)) q5
                obtain ⟨c, _, hc⟩ := I5.ownS hb
                exact ⟨hc.facts.1, upd_ne fun z => by have := hc.facts.1; rw [z, hk] at this; cases this⟩
              rcases hi with rfl | rfl
              · exact ⟨a, _, 0, 0, rfl, rfl, hx, rfl, fin y n⟩
              · exact ⟨a, _, 1, 1, rfl, rfl, hx, rfl, fin m y⟩
            | _ => exact q5.elim
        | _ => exact gen q5
      | nam _ => exact gen q5
      | own _ => exact gen q5
      | dK _ => exact gen q5
      | dT _ => exact gen q5
    | _ => exact q5.elim
def boxed (m : PM) : PM := fun ds st Q => m ds st fun c st' => ∃ i j, c = .own [.int i, .int j] ∧ Q (.d .box) st'
theorem FnG.boxed {P : Program} {w : World} {K : PySem.W.Frag} {mg : Str → Option Value} {base : Heap} {ps : List Str} {f : Addr} {fd : FuncData} {k : Nat} {cls : Cl} {flds : Nat → List Str} {m : PM}
    (F : FnG P w K mg base CX0 k f fd ps (sp0 K cls flds m)) : FnG P w K mg base CX0 k f fd ps (sp0 K cls flds (boxed m)) :=
  F.imp fun vs H Q E ⟨κ, ds, st, Q', g, r, hm, fin⟩ => ⟨κ, ds, st, _, g, r, hm, fun v κ' H' c st' g' rc ⟨i, j, hc, q⟩ => by
    subst hc
    obtain ⟨a, rfl, h1, h2, vs, h3, h4, h5⟩ := rc
    have x : Ext κ' H' (put κ' a .box) H' := Ext.put h1
    have hx : ∃ i j, H' a = some (.lst [.int i, .int j]) := by
      cases h5 with
      | cons r1 r2 => cases r1; cases r2 with
        | cons r2 r3 => cases r2; cases r3; exact ⟨_, _, h3⟩
    refine fin (.ref a) (put κ' a .box) H' (.d .box) st' ?_ (.box put_same) q
    have ne : ∀ b y, κ' b = some y → b ≠ a := fun b y e z => by rw [z, h1] at e; cases e
    refine ⟨fun b y e => x.1 b y (g'.sub b y e), fun b y e => ?_, fun b y e => ?_, g'.trk0, fun b e => ?_, fun b k e => ?_, fun b c k e1 e2 => ?_, g'.base, g'.tabs.ext x (fun _ _ => rfl) fun b e => by
      by_cases hb : b = a
      · subst hb; rw [put_same] at e; cases e
      · rw [put_ne hb] at e; exact e⟩
    · by_cases hb : b = a
      · subst hb; exact .inr (.inl h2)
      · rw [put_ne hb] at e; exact g'.new b y e
    · by_cases hb : b = a
      · subst hb; rw [h3]; simp
      · rw [put_ne hb] at e; exact g'.trk b y e
    · by_cases hb : b = a
      · subst hb; exact hx
      · rw [put_ne hb] at e; exact g'.box b e
    · by_cases hb : b = a
      · subst hb; rw [put_same] at e; cases e
      · rw [put_ne hb] at e
        obtain ⟨so, g1, g2⟩ := g'.obj b k e
        exact ⟨so, g1, g2.ext x rfl⟩
    · have hb : b ≠ a := fun z => by subst z; rw [put_same] at e1; cases e1
      have hc : c ≠ a := fun z => by subst z; rw [put_same] at e2; cases e2
      rw [put_ne hb] at e1
      rw [put_ne hc] at e2
      exact g'.inj b c k e1 e2⟩
end
end Pu
set_option maxRecDepth 100000
set_option maxHeartbeats 4000000
namespace Pu
open PySem L2 PySem.Spec PyProof.Rows
section
variable {X : Cx} {tg : Expr}
def iAnyH (K : PySem.W.Frag) (tl : TE) : TI := fun σ H R => tl σ H fun x H1 => (∃ a, x = .ref a ∧ (∃ xs, SqL K H1 a xs) ∧ R (Itl K a) H1) ∨ (∃ a, x = .ref a ∧ (∃ xs, SqT K H1 a xs) ∧ R (Itt K a) H1) ∨ ∃ y, x = .str y ∧ R (Its y) H1
theorem pi_any {l : Expr} {tl : TE} (hl : PE X l tl) : PI X tg l (iAnyH X.K tl) := by
  refine ⟨fun pins s σ H R I h => ?_⟩
  refine thn (hl.run pins s σ H _ I h) fun v s1 ⟨x, H1, I1, r1, q1⟩ => ?_
  rcases q1 with ⟨a, e, ⟨xs, hq⟩, q⟩ | ⟨a, e, ⟨xs, hq⟩, q⟩ | ⟨y, e, q⟩
  · subst e
    cases r1
    obtain ⟨its, rv, p, hz⟩ := I1.list hq
    refine wpAny_pyIter_list p.isList ?_
    refine ⟨s1.heap.objs.size, [s1.heap.objs.size], _, _, H1, rfl, I1.kept (t' := s1.toks) fun b o e => Heap.get?_push_of_some _ e, turn_list a _, ⟨_, Heap.get?_push_size _ rfl, rfl, rfl⟩, fun b hb => ?_, q⟩
    have e : b = s1.heap.objs.size := by simpa using hb
    subst e
    exact I1.fpOk (Nat.le_refl _) (I1.hok.fresh (Nat.le_refl _))
  · subst e
    cases r1
    obtain ⟨its, rv, p, hz⟩ := I1.tuple hq
    refine wpAny_pyIter_tuple (show s1.heap.IsTuple a its.toArray from p) ?_
    refine ⟨s1.heap.objs.size, [s1.heap.objs.size], _, _, H1, rfl, I1.kept (t' := s1.toks) fun b o e => Heap.get?_push_of_some _ e, turn_tuple a _, ⟨_, Heap.get?_push_size _ rfl, rfl, rfl⟩, fun b hb => ?_, q⟩
    have e : b = s1.heap.objs.size := by simpa using hb
    subst e
    exact I1.fpOk (Nat.le_refl _) (I1.hok.fresh (Nat.le_refl _))
  · subst e
    obtain ⟨t, rfl⟩ := r1
    cases ha : y.cps.all (· < 128)
    · exact wpAny_pyIter_wide ha (pi_one (tk := s1.toks) I1 _ (turn_str _ y t "str_iterator" (.inr rfl)) ⟨_, Heap.get?_push_size _ rfl, rfl, rfl⟩ q)
    · exact wpAny_pyIter_ascii ha (pi_one (tk := s1.toks) I1 _ (turn_str _ y t "str_ascii_iterator" (.inl rfl)) ⟨_, Heap.get?_push_size _ rfl, rfl, rfl⟩ q)
end
section
variable {Γ Γ' : Gm} {κ κ' : Ka} {H H' : Hp} {env env' : En} {σ : Sl} {v : V} {st : Sto} {Y : Fam} {a b e o : Expr} {es : List Expr} {ta tb te to ti : PTE} {pos : Pos}
/-- the small letters, the capitals -/
def SM : List Nat := [97, 98, 99, 100, 101, 102, 103, 104, 105, 106, 107, 108, 109, 110, 111, 112, 113, 114, 115, 116, 117, 118, 119, 120, 121, 122]
def CP : List Nat := [65, 66, 67, 68, 69, 70, 71, 72, 73, 74, 75, 76, 77, 78, 79, 80, 81, 82, 83, 84, 85, 86, 87, 88, 89, 90]
/-- what one walks in a value -/
def D.walk : D → Option (List D)
  | .lst ds => some ds
  | .tup ds => some ds
  | .str s => some (signs s)
  | _ => none
def iAny (te : PTE) : PTI := fun x e Q => te x e fun r e1 => fz r e1 fun d e2 => match d.walk with
  | some ds => Q ds e2
  | none => False
theorem vi_any {tg : Expr} (he : VE Y e te) : VI Y tg e (iAny te) := by
  obtain ⟨ra, pa, fa⟩ := he.ex
  refine ⟨⟨fun E => iAnyH Y.K (ra E), fun i => by have := pi_any (tg := tg) (pa i); rw [Y.hK i] at this; exact this, fun Γ σ κ H env Q Q' hK I q k => ?_⟩⟩
  refine fa Γ σ κ H env _ _ hK I q fun v κ1 H1 r1 e1 x1 I1 h1 q1 => ?_
  refine fz_ok I1 h1 q1 fun κ2 d e2 x2 I2 h2 q2 => ?_
  rw [← hK.k]
  cases d with
  | lst ds =>
    cases h2 with
    | lst g1 g2 g3 g4 => exact .inl ⟨_, rfl, ⟨_, SqL.of g2⟩, k _ κ2 H1 ds e2 (x1.trans x2) I2 (src_list g1 g2 g4) q2⟩
  | tup ds =>
    obtain ⟨a, vs, rfl, g1, _, _⟩ := h2.sqT
    exact .inr (.inl ⟨a, rfl, ⟨vs, g1⟩, k _ κ2 H1 ds e2 (x1.trans x2) I2 (src_tup (vs := vs) h2) q2⟩)
  | str s =>
    obtain ⟨rfl, hs⟩ := h2.strE
    exact .inr (.inr ⟨_, rfl, k _ κ2 H1 (signs s) e2 (x1.trans x2) I2 (src_str hs) q2⟩)
  | _ => exact False.elim q2
/-- a def of the text behind the top -/
structure DefOk (K : PySem.W.Frag) (mg : Str → Option Value) (x : Str) (st : Stmt) (ps : List Str) (f : Addr) (fd : FuncData) : Prop where
  fn : Fun K x x st f fd
  b : Binds K fd ps []
  g : mg x = some (.ref f)
theorem hu0 {P : Program} {w : World} {K : PySem.W.Frag} {mg : Str → Option Value} {base : Heap} {N : List Str} {qual : Str} {sc : Scope} {f : Addr} {k : Nat} {cls : Cl} {flds : Nat → List Str} : Hu (fam0 P w K mg base N qual sc f k cls flds) := fun i => by
  have h := i.hr.un
  show (i.A.deeper (envOfC qual sc i.s.heap.objs.size f i.cdv)).units + 65 < cLine
  omega
theorem hg0 {P : Program} {w : World} {K : PySem.W.Frag} {mg : Str → Option Value} {base : Heap} {N : List Str} {qual : Str} {sc : Scope} {f : Addr} {k : Nat} {cls : Cl} {flds : Nat → List Str} : ∀ i, ((fam0 P w K mg base N qual sc f k cls flds).X i).A.guards = some [] := fun i => i.gd
theorem hg_blk {sc : Scope} (h : ∀ i, (Y.X i).A.guards = some []) : ∀ i, ((Y.blk sc).X i).A.guards = some [] := fun p => h p.1
theorem hu_blk {sc : Scope} (h : Hu Y) : Hu (Y.blk sc) := fun p => h p.1
abbrev pSub : D → D → (R → Prop) → Prop := pI (fun _ _ => True) fun i j => .int (i - j)
abbrev pMod : D → D → (R → Prop) → Prop := pI (fun _ j => 0 < j) fun i j => .int (i % j)
abbrev pFdiv : D → D → (R → Prop) → Prop := pI CDivW fun i j => .int (i / j)
abbrev pPow : D → D → (R → Prop) → Prop := pI CPow fun i j => .int (i ^ j.toNat)
def pNeg : D → (R → Prop) → Prop := fun d Q => match d with | .int i => Q (.d (.int (-i))) | _ => False
end
end Pu
set_option maxRecDepth 100000
set_option maxHeartbeats 1000000
namespace Pu
open PySem L2 PySem.Spec PyProof.Rows
/-- a sign that a text shows as it is -/
def PlainC (c : Nat) : Prop := 32 ≤ c ∧ c < 127 ∧ c ≠ 39 ∧ c ≠ 92
instance (c : Nat) : Decidable (PlainC c) := by unfold PlainC; infer_instance
mutual
/-- what is shown plainly -/
def D.rok : D → Bool
  | .non => true
  | .bl _ => true
  | .int i => decide (i.natAbs.log2 < 1920)
  | .str s => s.all fun c => decide (PlainC c)
  | .lst ds => D.rokL ds
  | .tup ds => D.rokL ds
  | _ => false
def D.rokL : List D → Bool
  | [] => true
  | d :: ds => d.rok && D.rokL ds
end
mutual
def D.rlen : D → Nat
  | .non => 4
  | .bl _ => 5
  | .int _ => 1921
  | .str s => s.length + 2
  | .lst ds => D.rlenL ds + 2
  | .tup ds => D.rlenL ds + 3
  | _ => 0
def D.rlenL : List D → Nat
  | [] => 0
  | d :: ds => d.rlen + 2 + D.rlenL ds
end
/-- what repr shows -/
def shw (d : D) : List Nat := d.py.shown.cps.toList
end Pu
set_option maxRecDepth 100000
set_option maxHeartbeats 1000000
namespace Pu
open PySem L2 PySem.Spec PyProof.Rows
/-- repr(x) -/
def pRepr : List D → (R → Prop) → Prop
  | [d], Q => d.ok 64 = true ∧ d.rok = true ∧ d.rlen ≤ 16777216 ∧ Q (.d (.str (shw d)))
  | _, _ => False
theorem minD_strs (x : List Nat) : ∀ xs : List (List Nat), PySem.W.minD (.str ⟨x.toArray⟩) (xs.map fun s => .str ⟨s.toArray⟩) = .str ⟨(xs.foldl (fun a y => if y < a then y else a) x).toArray⟩ := by
  intro xs
  unfold PySem.W.minD
  induction xs generalizing x with
  | nil => rfl
  | cons y xs ih =>
    rw [List.map_cons, List.foldl_cons, List.foldl_cons, PySem.W.dataLt_str]
    by_cases h : y < x
    · rw [if_pos (by simpa using h), if_pos h]; exact ih y
    · rw [if_neg (by simpa using h), if_neg h]; exact ih x
def minS (x : List Nat) (r : List (List Nat)) : List Nat := r.foldl (fun a y => if y < a then y else a) x
def vS (s : List Nat) : V := .str ⟨s.toArray⟩
theorem dpAll_strs {K : PySem.W.Frag} {H : Hp} : ∀ r : List (List Nat), DpAll K H (r.map vS) (r.map fun s => PyData.str ⟨s.toArray⟩)
  | [] => .nil
  | x :: r => .cons (.str _) (dpAll_strs r)
theorem alike_strs (r : List (List Nat)) : PySem.W.AlikeAll (r.map fun s => PyData.str ⟨s.toArray⟩) := by
  constructor
  · intro x hx y hy
    obtain ⟨a, _, rfl⟩ := List.mem_map.mp hx
    obtain ⟨b, _, rfl⟩ := List.mem_map.mp hy
    simp [PySem.W.alike]
  · intro x hx
    obtain ⟨a, _, rfl⟩ := List.mem_map.mp hx
    exact fun z => nomatch z
theorem depth_strs (r : List (List Nat)) : PyData.depthAll (r.map fun s => PyData.str ⟨s.toArray⟩) ≤ 1 := by
  induction r with
  | nil => simp [PyData.depthAll]
  | cons x r ih =>
    simp only [List.map_cons, PyData.depthAll, PyData.depth]
    omega
def rMinSq (K : PySem.W.Frag) : List V → Hp → VK → Prop := fun xs H Q => ∃ p x r, xs = [.ref p] ∧ (SqL K H p ((x :: r).map vS) ∨ SqT K H p ((x :: r).map vS)) ∧ Q (vS (minS x r)) H
section
variable {X : Cx}
theorem call_minSq (hc : X.calm = true) (hu : X.A.units + 65 < cLine) : CallR X (.builtin "min") (rMinSq X.K) := by
  intro pins s σ H xs us Q I r h
  obtain ⟨p, x, rr, rfl, hs, q⟩ := h
  have fin : ∀ (v : Value) (h' : Heap) (tk : Tok) (bs : List Addr), Reads h' v (PySem.W.minD (.str ⟨x.toArray⟩) (rr.map fun s => PyData.str ⟨s.toArray⟩)) bs → (∀ b o, s.heap.get? b = some o → h'.get? b = some o) → EP X pins σ Q v { s with heap := h', toks := tk } := by
    intro v h' tk bs rd hk
    rw [minD_strs] at rd
    cases rd
    exact ⟨vS (minS x rr), H, I.kept hk, ⟨_, rfl⟩, q⟩
  have hdep := depth_strs (x :: rr)
  rcases hs with hs | hs
  · obtain ⟨its, rv, hl, _⟩ := I.list hs
    rw [Vals.ref1 r]
    obtain ⟨as, rd⟩ := Dp.readsAll I _ _ _ (dpAll_strs (x :: rr)) rv
    exact PySem.W.min_list_data (I.ok.hd hc) hl.isList rd (alike_strs (x :: rr)) (Nat.lt_of_le_of_lt (Nat.add_le_add_left hdep _) (by omega)) fun i v h' tk bs _ rd hk => fin v h' tk bs rd hk
  · obtain ⟨its, rv, hl, _⟩ := I.tuple hs
    rw [Vals.ref1 r]
    obtain ⟨as, rd⟩ := Dp.readsAll I _ _ _ (dpAll_strs (x :: rr)) rv
    exact PySem.W.min_tuple_data (I.ok.hd hc) hl rd (alike_strs (x :: rr)) (Nat.lt_of_le_of_lt (Nat.add_le_add_left hdep _) (by omega)) fun i v h' tk bs _ rd hk => fin v h' tk bs rd hk
end
theorem minS_mem (x : List Nat) (r : List (List Nat)) : minS x r ∈ x :: r := by
  unfold minS
  induction r generalizing x with
  | nil => simp
  | cons y r ih =>
    rw [List.foldl_cons]
    split
    · exact List.mem_cons_of_mem _ (ih y)
    · have := ih x
      rcases List.mem_cons.mp this with h | h
      · rw [h]; simp
      · exact List.mem_cons_of_mem _ (List.mem_cons_of_mem _ h)
/-- min of a list, of a tuple of texts; of two texts -/
def pMin1 : List D → (R → Prop) → Prop
  | [d], Q => match strL d.items with
    | some (x :: r) => Q (.d (.str (minS x r)))
    | _ => False
  | _, _ => False
def pMin2S : List D → (R → Prop) → Prop
  | [.str x, .str y], Q => Q (.d (.str (if y < x then y else x)))
  | _, _ => False
section
variable {Γ : Gm} {κ : Ka} {H : Hp} {Y : Fam} {e a b : Expr} {pos : Pos}
theorem ref_min1 : CallRef rMinSq pMin1 := by
  intro Γ σ κ H env vs ds Q Q' I h q k
  match ds, vs, h, q with
  | [d], _, .cons (v := v) hd .nil, q =>
    unfold pMin1 at q
    simp only at q
    cases e1 : strL d.items with
    | none => rw [e1] at q; exact q.elim
    | some l =>
      rw [e1] at q
      cases l with
      | nil => exact q.elim
      | cons x r =>
        have fin : ∀ vs' : List V, RepL Γ.K Γ.cls κ H vs' d.items → vs' = (x :: r).map vS ∧ Q' (vS (minS x r)) H := fun vs' hr => by
          obtain ⟨e2, e3⟩ := strL_rep hr e1
          exact ⟨e2, k _ κ H (.d (.str (minS x r))) (.refl ..) I (.str _ (e3 _ (minS_mem x r))) q⟩
        cases d with
        | lst ds =>
          obtain ⟨a, ws, rfl, g1, g2, g3⟩ := hd
          obtain ⟨e2, q2⟩ := fin ws g3
          subst e2
          exact ⟨a, x, r, rfl, .inl (SqL.of g1), q2⟩
        | tup ds =>
          obtain ⟨a, ws, rfl, g1, g2, g3⟩ := Rep.sqT hd
          obtain ⟨e2, q2⟩ := fin ws g3
          subst e2
          exact ⟨a, x, r, rfl, .inr g1, q2⟩
        | _ => simp [D.items, strL] at e1
theorem ve_min1 {p' : Pos} {t : PTR} (hu : Hu Y) (hm : ∀ i, (Y.X i).mg "min" = none) (ha : VR Y [e] t) (hc : ∀ i, (Y.X i).calm = true := by intro _; rfl) (hg : ∀ i, Gl (Y.X i) "min" := by intro _; rfl) (he : ∀ X : Cx, starEach [e] X.env = (false, eval e X.env) :: starEach [] X.env := by intro _; rfl) : VE Y (.Call (.Name "min" p') [e] [] pos) (tCallP pMin1 t) :=
  ve_callB (fun i => call_minSq (hc i) (hu i)) ref_min1 hm ha hg (he := he)
end
end Pu
set_option maxRecDepth 100000
set_option maxHeartbeats 4000000
namespace PuE
open PySem PySem.Spec PyProof.Rows L2 RT PySem.W
section
variable {prog : Program} {w : World} {A : Around} {E : Value → Shared → Prop} {s : Shared}
theorem ks_gather {R : List Value → Shared → Prop} {x : Str} {t : Tok} (hh : A.handled = none) (hn : x.cps.size ≤ sizeLine)
    (h : ∀ (h' : Heap) (tk : Nat) (acc : Array Value), (∀ b o, s.heap.get? b = some o → h'.get? b = some o) → ItemsOf (SignAt x) acc x.cps.size → R acc.toList { s with heap := h', toks := tk }) :
    wpAny (model prog w) A (collect (.str x t)) R E s := by
  unfold collect
  refine wpAny_bind (wpAny_runValue (codeAny_builtin entry_proto_collect' ?_))
  rw [Around.under_plainId PySem.F.plain_proto_collect _]
  show wpAny _ A.in1 (newList [] >>= fun l => again (.builtin "list.__iadd__" ⟨[l, .str x t], []⟩)) _ _ s
  refine wpAny_bind (wpAny_newObj_type ?_)
  refine wpAny_pure ⟨plainId_quiet PySem.F.plain_list_iadd _, codeAny_builtin entry_list_iadd' ?_⟩
  rw [Around.under_plainId PySem.F.plain_list_iadd _]
  have hS₁ : (s.heap.push { cls := .type "list", data := .seq ([] : List Value).toArray }).get? s.heap.objs.size = some { cls := .type "list", data := .seq #[] } := Heap.get?_push_size _ rfl
  show wpAny _ A.in1 (Builtin.List.listExtendWith (.ref s.heap.objs.size) (.str x t) (.ref s.heap.objs.size)) _ _ _
  have key := ks_extend (prog := prog) (w := w) (A := A) (x := x) (t := t) (s := { s with heap := s.heap.push { cls := .type "list", data := .seq ([] : List Value).toArray } })
    (R := fun (q : Result) (s' : Shared) => ∃ (h' : Heap) (tk : Nat) (acc' : Array Value) (c' : Nat), q = .ok (.ret (.ref s.heap.objs.size)) ∧ s' = { s with heap := h', toks := tk } ∧
      (∀ b o, s.heap.get? b = some o → h'.get? b = some o) ∧ h'.get? s.heap.objs.size = some { cls := .type "list", dict := none, data := .seq acc' c', slots := #[] } ∧ ItemsOf (SignAt x) acc' x.cps.size)
    hh s.heap.objs.size (.ref s.heap.objs.size) 0 hS₁
    (fun h' tk acc' c' hk hS' hacc => ⟨h', tk, acc', c', rfl, rfl, fun b o e => hk b o (Nat.ne_of_lt (Heap.lt_size e)) (Heap.get?_push_of_some _ e), hS', hacc⟩) hn
  refine wpAny_mono key (fun fin s' z => ?_) fun e s' z => ?_
  · cases fin with
    | done f =>
      obtain ⟨h', tk, acc', c', e, rfl, hk, hS', hacc⟩ := z
      cases e
      show wpAny _ A (load s.heap.objs.size >>= _) _ _ _
      exact wpAny_bind (wpAny_load hS' (wpAny_pure (h h' tk acc' hk hacc)))
    | again c₁ =>
      refine ⟨z.1, codeAny_mono z.2 fun q s₂ y => ?_⟩
      obtain ⟨h', tk, acc', c', rfl, rfl, hk, hS', hacc⟩ := y
      show wpAny _ A (load s.heap.objs.size >>= _) _ _ _
      exact wpAny_bind (wpAny_load hS' (wpAny_pure (h h' tk acc' hk hacc)))
  · obtain ⟨_, _, _, _, e', _⟩ := z
    cases e'
end
def rSortStr : List V → Hp → VK → Prop := fun xs H Q => ∃ x : Str, xs = [.str x] ∧ x.cps.size < 64 ∧
    ∀ ys p, ys.Perm (x.cps.toList.map fun c => (⟨#[c]⟩ : Str)) → sortedS ys = true → H p = none → Q (.ref p) (upd H p (.lst (ys.map V.str)))
theorem call_sortStr {X : Cx} (hcalm : X.calm = true) : CallR X (.builtin "sorted") rSortStr := by
  intro pins s σ H xs us Q I r q
  obtain ⟨x, ex, h64, q⟩ := q
  subst ex
  obtain ⟨u, rfl, t, rfl⟩ := vals1 r
  have h16 : x.cps.size ≤ sizeLine := by rw [sizeLine_eq]; omega
  refine Calls.call_function_entry PyProof.Rows.kind_sorted PyProof.Rows.plain_sorted PyProof.Rows.entry_sorted (PyProof.Rows.args_sorted1 _) ?_
  unfold Builtin.«sorted»
  refine wpAny_bind (m := checkCount "sorted" 1 1 _) (wpAny_pure ?_)
  refine wpAny_bind (ks_gather (A := X.A.in1) (I.ok.hd hcalm) h16 fun h' tk acc hk hacc => ?_)
  have hl : (x.cps.toList.map fun c => (⟨#[c]⟩ : Str)).length = x.cps.size := by rw [List.length_map, Array.length_toList]
  have hal : acc.toList.length = (x.cps.toList.map fun c => (⟨#[c]⟩ : Str)).length := by rw [Array.length_toList, hacc.1, hl]
  have hS : StrsAre acc.toList (x.cps.toList.map fun c => (⟨#[c]⟩ : Str)) := strs_at hal fun j v e => by
    obtain ⟨c, u, e1, e2⟩ := hacc.2 j v (by rw [← Array.getElem?_toList]; exact e)
    exact ⟨⟨#[c]⟩, u, by rw [List.getElem?_map, Array.getElem?_toList, e1]; rfl, e2⟩
  have I1 : Inv X pins σ H { s with heap := h', toks := tk } := I.kept hk
  refine wpAny_bind (wpAny_newList ?_ (by rw [hal, hl, sizeLine_eq]; omega))
  have hoL : (h'.push (seqObj "list" acc.toList.toArray 0)).get? h'.objs.size = some (seqObj "list" acc.toList.toArray 0) := Heap.get?_push_size _ rfl
  show wpAny _ _ _ _ _ { s with heap := h'.push (seqObj "list" acc.toList.toArray 0), toks := tk }
  refine wpAny_bind (wpAny_holding (wpAny_call_entry PyProof.Rows.slot_list_sort ⟨_, hoL, rfl⟩ PyProof.Rows.entry_list_sort
    (list_sort_treeK strKind_oneLt (s := { s with heap := h'.push (seqObj "list" acc.toList.toArray 0), toks := tk }) hoL hS.keysOf (fun v₁ v₂ rest e => keyKind_strs (by rw [← e]; exact hS)) (by rw [hal, hl]; exact h64) fun st' hp hs => ⟨_, rfl, ?_⟩)
    (PyProof.Rows.args_list_sort _)))
  obtain ⟨ys, g1, g2, g3⟩ := sorted_out_str hS hp hs
  obtain ⟨e', he'⟩ := PyProof.Rows.sortedHeap_at (vs := acc.toList) (out := (arrOf st').map (·.2)) hoL
  have hlen : (ys.map V.str).length ≤ sizeLine := by
    rw [List.length_map, g2.length_eq, hl]
    exact h16
  refine wpAny_pure ⟨_, rfl, .ref h'.objs.size, upd H h'.objs.size (.lst (ys.map V.str)), I1.laid (t' := tk) (fun b u e => ?_) (Nat.le_refl _)
    (show ObjOk X.prog X.w _ _ _ (.lst (ys.map V.str)) from ⟨hlen, ((arrOf st').map (·.2)).toList, e', vals_of_strs g1, by rw [Array.toArray_toList]; exact he'⟩), rfl, q ys _ g2 g3 (I1.hok.fresh (Nat.le_refl _))⟩
  have hb : b < h'.objs.size := Heap.lt_size e
  rw [PyProof.Rows.sortedHeap_old (Nat.ne_of_lt hb) (by rw [size_push']; exact Nat.lt_succ_of_lt hb)]
  exact Heap.get?_push_of_some _ e
end PuE
set_option maxRecDepth 100000
set_option maxHeartbeats 4000000
namespace PuE
open PySem PySem.Spec PyProof.Rows L2 SrtO
end PuE
namespace Pu
open PySem L2 PySem.Spec PyProof.Rows
def pr2 (p : Int × Int) : D := .tup [.int p.1, .int p.2]
def prL : List D → Option (List (Int × Int))
  | [] => some []
  | .tup [.int i, .int j] :: ds => match prL ds with
    | some r => some ((i, j) :: r)
    | none => none
  | _ => none
def D.seqs : D → Option (List D)
  | .lst ds => some ds
  | .tup ds => some ds
  | _ => none
/-- sorted(list or tuple of pairs of ints) -/
def pSortP : List D → (R → Prop) → Prop
  | [d], Q => match d.seqs with
    | some ds => match prL ds with
      | some ps => ∀ qs : List (Int × Int), qs.Perm ps → qs.Pairwise (fun x y => SrtO.lexB y x = false) → Q (.own (qs.map pr2))
      | none => False
    | none => False
  | _, _ => False
end Pu
set_option maxRecDepth 100000
set_option maxHeartbeats 4000000
namespace PuE
open PySem PySem.Spec PyProof.Rows L2 PySem.W
def SqB (K : PySem.W.Frag) (H : Hp) (t : Bool) (a : Addr) (xs : List V) : Prop := if t = true then SqT K H a xs else SqL K H a xs
def ItB (h : Heap) (t : Bool) (it a : Addr) (i : Nat) : Prop := if t = true then h.IsTupleIter it a i else h.IsListIter it a i
theorem ItB.keep {h h' : Heap} {t : Bool} {it a : Addr} {i : Nat} (x : ItB h t it a i) (k : ∀ o, h.get? it = some o → h'.get? it = some o) : ItB h' t it a i := by
  unfold ItB at *
  cases t with
  | true => obtain ⟨o, ho, r⟩ := x; exact ⟨o, k o ho, r⟩
  | false => obtain ⟨o, ho, r⟩ := x; exact ⟨o, k o ho, r⟩
theorem ItB.obj {h : Heap} {t : Bool} {it a : Addr} {i : Nat} (x : ItB h t it a i) : ∃ o, h.get? it = some o ∧ ∀ v, o.data ≠ .cell v := by
  unfold ItB at x
  cases t with
  | true => obtain ⟨o, ho, _, hd⟩ := x; exact ⟨o, ho, fun v q => by rw [hd] at q; cases q⟩
  | false => obtain ⟨o, ho, _, hd⟩ := x; exact ⟨o, ho, fun v q => by rw [hd] at q; cases q⟩
theorem SqB.inj {X : Cx} {pins : List (Addr × Obj)} {σ : L2.St} {H : Hp} {s : Shared} (I : Inv X pins σ H s) {t : Bool} {a : Addr} {xs ys : List V} (h : SqB X.K H t a xs) (g : SqB X.K H t a ys) : xs = ys := by
  unfold SqB at h g
  cases t with
  | true => exact I.tuple_inj h g
  | false => exact I.list_inj h g
end PuE
namespace Pu
open PySem L2 PySem.Spec PyProof.Rows
section
variable {Γ Γ' : Gm} {κ κ' : Ka} {H H' : Hp} {env env' : En} {σ : Sl} {v : V} {st : Sto} {Y : Fam} {a b e o : Expr} {es : List Expr} {ta tb te to ti : PTE} {pos : Pos}
def zipF : List D → List D → List D
  | x :: xs, y :: ys => .tup [x, y] :: zipF xs ys
  | _, _ => []
/-- a list or tuple that stays, as it is walked -/
def D.side : D → Option (Bool × List D)
  | .lst ds => some (false, ds)
  | .tup ds => some (true, ds)
  | _ => none
def iZipP (t : PTR) : PTI := fun x e Q => t x e fun rs e1 => match rs with
  | [r1, r2] => fz r1 e1 fun d1 e2 => fz r2 e2 fun d2 e3 => match d1.side, d2.side with
    | some (_, ds), some (_, es) => (∀ d ∈ ds, isPr d = false) ∧ Q (zipF ds es) e3
    | _, _ => False
  | _ => False
/-- sum of ints -/
def intL : List D → Option (List Int)
  | [] => some []
  | .int i :: ds => match intL ds with
    | some r => some (i :: r)
    | none => none
  | _ => none
def pSum : List D → (R → Prop) → Prop
  | [.lst ds], Q => match intL ds with
    | some r => Q (.d (.int r.sum))
    | none => False
  | _, _ => False
/-- text.count(sign) -/
def pCount (d : D) (ds : List D) (Q : R → Prop) : Prop := match d, ds with
  | .str l, [.str [c]] => Q (.d (.int (l.count c : Nat)))
  | _, _ => False
/-- name += int -/
def sAug (i : Nat) (te : PTE) : PTS := fun x P e => match e.sl[i]? with
  | some (.d (.int a)) => te x e fun r e1 => match rv r e1 with
    | some (.int b) => i < e1.sl.length ∧ P.nx (e1.setC i (.d (.int (a + b))))
    | _ => False
  | _ => False
end
end Pu
set_option maxRecDepth 100000
set_option maxHeartbeats 1000000
namespace Pu
open PySem L2 PySem.Spec PyProof.Rows
/-- sorted(list of texts), sorted(text): some order of them that never falls -/
def pSortT : List D → (R → Prop) → Prop
  | [.lst ds], Q => match strL ds with
    | some r => r.length < 64 ∧ ∀ r' : List (List Nat), r'.Perm r → sortedS (r'.map fun s => (⟨s.toArray⟩ : Str)) = true → Q (.own (r'.map D.str))
    | none => False
  | [.str s], Q => s.length < 64 ∧ ∀ r' : List (List Nat), r'.Perm (s.map fun c => [c]) → sortedS (r'.map fun s => (⟨s.toArray⟩ : Str)) = true → Q (.own (r'.map D.str))
  | _, _ => False
def rSortTS (K : PySem.W.Frag) : List V → Hp → VK → Prop := fun xs H Q => rSortedS K xs H Q ∨ PuE.rSortStr xs H Q
section
variable {Γ : Gm} {κ : Ka} {H : Hp} {Y : Fam} {e a b : Expr} {pos : Pos} {σ : Sl} {env : En}
theorem perm_strs {ys : List Str} {r : List (List Nat)} (hp : ys.Perm (r.map fun s => (⟨s.toArray⟩ : Str))) : ∃ r' : List (List Nat), ys = (r'.map fun s => (⟨s.toArray⟩ : Str)) ∧ r'.Perm r := by
  refine ⟨ys.map fun y => y.cps.toList, ?_, ?_⟩
  · rw [List.map_map]
    conv => lhs; rw [← List.map_id ys]
    apply List.map_congr_left
    intro y _
    show y = ⟨y.cps.toList.toArray⟩
    simp
  · have := hp.map fun y : Str => y.cps.toList
    rw [List.map_map] at this
    have e : (r.map ((fun y : Str => y.cps.toList) ∘ fun s => (⟨s.toArray⟩ : Str))) = r := by
      conv => rhs; rw [← List.map_id r]
      apply List.map_congr_left
      intro y _
      simp
    rw [e] at this
    exact this
theorem rep_strs : ∀ {r' : List (List Nat)}, (∀ s ∈ r', SOk s) → RepL Γ.K Γ.cls κ H (r'.map fun s => V.str ⟨s.toArray⟩) (r'.map D.str)
  | [], _ => .nil
  | x :: r', h => .cons (.str x (h x (by simp))) (rep_strs fun s hs => h s (List.mem_cons_of_mem _ hs))
theorem sort_fin {ys : List Str} {r : List (List Nat)} {p : Addr} {Q : R → Prop} {Q' : VK} (I : Rl Γ κ env σ H) (h64 : r.length < 64) (e3 : ∀ s ∈ r, SOk s) (hp : ys.Perm (r.map fun s => (⟨s.toArray⟩ : Str))) (hs : sortedS ys = true) (hpn : H p = none)
    (q2 : ∀ r' : List (List Nat), r'.Perm r → sortedS (r'.map fun s => (⟨s.toArray⟩ : Str)) = true → Q (.own (r'.map D.str)))
    (k : ∀ v' κ' H' r, Ext κ H κ' H' → Rl Γ κ' env σ H' → RelR Γ κ' H' env σ v' r → Q r → Q' v' H') : Q' (.ref p) (upd H p (.lst (ys.map V.str))) := by
  obtain ⟨r', hr1, hr2⟩ := perm_strs hp
  subst hr1
  rw [List.map_map]
  refine k _ κ _ (.own _) (Ext.upd_new I.gh hpn) (I.upd_new hpn) (new_lst I hpn ?_ (rep_strs fun s hs => e3 s (hr2.mem_iff.mp hs))) (q2 r' hr2 hs)
  rw [List.length_map, hr2.length_eq, sizeLine_eq]
  omega
theorem ref_sortT : CallRef rSortTS pSortT := by
  intro Γ σ κ H env vs ds Q Q' I h q k
  match ds, vs, h, q with
  | [.lst ds], _, .cons (v := v) hd .nil, q =>
    unfold pSortT at q
    simp only at q
    cases e1 : strL ds with
    | none => rw [e1] at q; exact q.elim
    | some r =>
      rw [e1] at q
      obtain ⟨q1, q2⟩ := q
      obtain ⟨a, ws, rfl, g1, g2, g3⟩ := hd
      obtain ⟨e2, e3⟩ := strL_rep g3 e1
      subst e2
      refine .inl ⟨a, r.map fun s => (⟨s.toArray⟩ : Str), rfl, ?_, by rw [List.length_map]; exact q1, fun ys p hp hs hpn => ?_⟩
      · rw [List.map_map]; exact SqL.of g1
      · exact sort_fin I q1 e3 hp hs hpn q2 k
  | [.str s], _, .cons (v := v) hd .nil, q =>
    obtain ⟨q1, q2⟩ := q
    obtain ⟨rfl, hs⟩ := Rep.strE hd
    refine .inr ⟨_, rfl, by simpa using q1, fun ys p hp hss hpn => ?_⟩
    refine sort_fin (r := s.map fun c => [c]) I (by rw [List.length_map]; exact q1) (fun x hx => ?_) ?_ hss hpn q2 k
    · obtain ⟨c, hc, rfl⟩ := List.mem_map.mp hx
      exact hs.one hc
    · rw [List.map_map]
      have e : (⟨s.toArray⟩ : Str).cps.toList = s := by simp
      rw [e] at hp
      exact hp
theorem ve_sortT {p' : Pos} {t : PTR} (hm : ∀ i, (Y.X i).mg "sorted" = none) (ha : VR Y [e] t) (hc : ∀ i, (Y.X i).calm = true := by intro _; rfl) (hg : ∀ i, Gl (Y.X i) "sorted" := by intro _; rfl) (he : ∀ X : Cx, starEach [e] X.env = (false, eval e X.env) :: starEach [] X.env := by intro _; rfl) : VE Y (.Call (.Name "sorted" p') [e] [] pos) (tCallP pSortT t) :=
  ve_callB (r := rSortTS) (fun i => CallR.or cr_sortedS (PuE.call_sortStr (hc i))) ref_sortT hm ha hg (he := he)
end
end Pu
set_option maxRecDepth 100000
set_option maxHeartbeats 4000000
namespace PuE
open PySem PySem.Spec PyProof.Rows L2 PySem.W
theorem meets_enum_any {v : Value} {o : Obj} {H : Heap → Prop} (B : Begins v o H) :
    Meets (Builtin.«enumerate.__new__» ⟨[.type "enumerate", v], []⟩) (fun _ R s => H s.heap ∧
      R (.ok (.ret (.ref (s.heap.push o).objs.size))) { s with heap := (s.heap.push o).push { cls := .type "enumerate", data := .fields #[.none, .bool false, .ref s.heap.objs.size, rawInt 0, .none, .none] } }) :=
  .of_wp fun prog w A R s z => by
    obtain ⟨hp, g, d, tk, os⟩ := s
    obtain ⟨z1, z⟩ := z
    have hs0 := sub_enumerate
    have it1 : ∀ {A' : Around} {E : Value → Shared → Prop} {Q : Value → Shared → Prop}, Q (.ref hp.objs.size) ⟨hp.push o, g, d, tk, os⟩ → wpAny (model prog w) A' (pyIter v) Q E ⟨hp, g, d, tk, os⟩ :=
      fun q => B.iter prog w _ _ ⟨hp, g, d, tk, os⟩ _ z1 q
    wp_walk using it1
    refine wpAny_stack_any fun st => wpAny_pure ?_
    split
    · rename_i c _ _ _ _ _
      cases (c == Value.type "enumerate")
      · wp_walk using it1
        exact ⟨_, rfl, z⟩
      · wp_walk using it1
        exact ⟨_, rfl, z⟩
    · wp_walk using it1
      exact ⟨_, rfl, z⟩
section
variable {prog : Program} {w : World} {A : Around} {E : Value → Shared → Prop} {s : Shared}
theorem call_enum_any {v : Value} {o : Obj} {H : Heap → Prop} {Q : Value → Shared → Prop} (B : Begins v o H) (h1 : H s.heap)
    (h : ∀ h', IsEnum h' (s.heap.objs.size + 1) s.heap.objs.size ((0 : Nat) : Int) .none → h'.get? s.heap.objs.size = some o → (∀ b o, s.heap.get? b = some o → h'.get? b = some o) → Q (.ref (s.heap.objs.size + 1)) { s with heap := h' }) :
    wpAny (model prog w) A (call (.type "enumerate") [v]) Q E s := by
  refine callType_new F.called_enumerate (by decide) (F.typeCall_enumerate_1 _) (F.newCall_enumerate_1 _) (fun obj => F.args_object_init_2 obj _) F.entry_enumerate_new
    (meets_enum_any B) ⟨h1, ?_⟩
  have hz : (s.heap.push o).objs.size = s.heap.objs.size + 1 := Heap.size_push ..
  show _ ∧ _
  rw [hz]
  have e1 := Heap.get?_push_size (s.heap.push o) (o := { cls := .type "enumerate", data := .fields #[.none, .bool false, .ref s.heap.objs.size, rawInt 0, .none, .none] }) rfl
  rw [hz] at e1
  exact ⟨⟨_, e1, rfl⟩, h _ e1 (Heap.get?_push_of_some _ (Heap.get?_push_size _ B.free)) fun b o x => Heap.get?_push_of_some _ (Heap.get?_push_of_some _ x)⟩
end
/-- the signs of x, each in a new pair -/
def Ies (x : Str) : It :=
  ⟨fun i _ => i < x.cps.size, fun i H v H' => ∃ T c, v = .ref T ∧ H T = none ∧ H' = upd H T (.tup [.int (i : Nat), .str ⟨#[c]⟩]) ∧ x.cps[i]? = some c, fun i _ => x.cps.size ≤ i⟩
/-- the items of the tuple at a, each in a new pair -/
def Iet (K : PySem.W.Frag) (a : Addr) : It :=
  ⟨fun i H => ∃ (xs : List V) (x : V), SqT K H a xs ∧ xs[i]? = some x, fun i H v H' => ∃ T x, v = .ref T ∧ H T = none ∧ H' = upd H T (.tup [.int (i : Nat), x]) ∧ ∀ xs, SqT K H a xs → xs[i]? = some x, fun i H => ∃ xs : List V, SqT K H a xs ∧ xs.length ≤ i⟩
/-- one turn, whatever is drawn -/
theorem turn_en {X : Cx} {pins : List (Addr × Obj)} {s : Shared} {σ : L2.St} {H : Hp} {E : Value → Shared → Prop} {e it : Addr} {fp : List Addr} {n i : Nat} {Pd : Nat → Value → Prop} {St : Nat → Heap → Prop} {old : Value} {elts : List Expr} {kk : Nat} {tpos : Pos} {R : V → Hp → Heap → Prop}
    (D : Draws X.prog X.w X.A.in1 it fp n Pd St) (I : Inv X pins σ H s) (hf : ∀ b ∈ [e, it], FpOk X pins H b) (he : IsEnum s.heap e it ((i : Nat) : Int) old) (hst : St i s.heap) (hlt : i < n) (hne : e ≠ it) (hef : e ∉ fp)
    (hR : ∀ u h2, Pd i u → St (i + 1) h2 → ∃ x, RelV x u ∧ ∀ T, H T = none → R (.ref T) (upd H T (.tup [.int (i : Nat), x])) h2) :
    wpAny (model X.prog X.w) X.A (pyNext (.ref e)) (fun r s1 => ∃ u, r = some u ∧
      wpAny (model X.prog X.w) X.A (letOwnedTupleGo (.Tuple elts kk tpos) (.ref e) u) (fun _ s2 => ∃ x H', Inv X pins σ H' s2 ∧ RelV x u ∧ R x H' s2.heap ∧ (∃ old, IsEnum s2.heap e it ((i + 1 : Nat) : Int) old) ∧ St (i + 1) s2.heap ∧ ∀ b ∈ [e, it], H' b = none) E s1) E s := by
  have hel : e < s.heap.objs.size := Heap.lt_size he
  have hil : it < s.heap.objs.size := by obtain ⟨_, y⟩ := D.live _ _ hst; exact Heap.lt_size y
  refine wpAny_pyNext_enum_itemD D he hst hlt hne hef fun u h' tk hP ho hs' hT hsz hk => ?_
  refine ⟨_, rfl, wpAny_letOwnedTupleGo_enum (s := { s with heap := h', toks := tk + 1 }) ho fun h'' he' sb => ?_⟩
  have hs2 : St (i + 1) h'' := D.frame _ _ _ hs' fun b hb o y => (sb.2 b fun q => hef (q ▸ hb)).trans y
  obtain ⟨x, rx, hx⟩ := hR u h'' hP hs2
  have hT2 : h''.get? s.heap.objs.size = some { cls := .type "tuple", data := .seq #[.int i tk, u] } := (sb.2 _ (Nat.ne_of_gt hel)).trans hT
  have new : ObjOk X.prog X.w (upd H s.heap.objs.size (.tup [.int (i : Nat), x])) h'' s.heap.objs.size (.tup [.int (i : Nat), x]) :=
    ⟨by show 2 ≤ sizeLine; decide, [.int i tk, u], .cons ⟨_, rfl⟩ (.cons rx .nil), ⟨_, hT2, rfl, _, rfl⟩⟩
  have I1 : Inv X pins σ (upd H s.heap.objs.size (.tup [.int (i : Nat), x])) { s with heap := h'', toks := tk + 1 } :=
    I.turnedNew (ch := [e, it]) (fun b ob hb q => (sb.2 b (fun z => hb (by simp [z]))).trans (hk b ob (fun z => hb (by simp [z])) (fun z => hb (by simp [z])) q)) hf (Nat.le_refl _) new
  refine ⟨.ref s.heap.objs.size, _, I1, rfl, hx _ (I.hok.fresh (Nat.le_refl _)), ⟨u, ?_⟩, hs2, fun b hb => ?_⟩
  · have e1 : ((i + 1 : Nat) : Int) = (i : Int) + 1 := by omega
    rw [e1]; exact he'
  · have hb' : b < s.heap.objs.size := by
      have e' : b = e ∨ b = it := by simpa using hb
      rcases e' with z | z
      · rw [z]; exact hel
      · rw [z]; exact hil
    rw [upd_ne (Nat.ne_of_lt hb')]
    exact (hf b hb).1
theorem turn_enS {P : Program} {w : World} {K : PySem.W.Frag} {elts : List Expr} {kk : Nat} {tpos : Pos} (e it : Addr) (x : Str) (t : Tok) :
    Turn P w K (.Tuple elts kk tpos) (Ies x) [e, it] e (fun i h => (∃ old, IsEnum h e it ((i : Nat) : Int) old) ∧ h.IsStrIter it (strIterType x) x t i ∧ e ≠ it) where
  mem := by simp
  obj := fun i h st b hb => by
    obtain ⟨⟨old, he⟩, ⟨o, ho, hc, hd⟩, _⟩ := st
    have e' : b = e ∨ b = it := by simpa using hb
    rcases e' with z | z
    · rw [z]; exact ⟨_, he, fun v q => nomatch q⟩
    · rw [z]; exact ⟨o, ho, fun v q => by rw [hd] at q; cases q⟩
  keep := fun i h h' st k => by
    obtain ⟨⟨old, he⟩, ⟨o, ho, r⟩, hne⟩ := st
    exact ⟨⟨old, k e (by simp) _ he⟩, ⟨o, k it (by simp) o ho, r⟩, hne⟩
  item := by
    intro X hP hw hK hc i pins s σ H E I hf st hg
    subst hP hw hK
    obtain ⟨⟨old, he⟩, hit, hne⟩ := st
    have D := Draws.text (prog := X.prog) (w := X.w) (A := X.A.in1) (I.ok.hd hc) it x t
    refine wpAny_mono (turn_en (elts := elts) (kk := kk) (tpos := tpos) (R := fun v H' _ => (Ies x).yld i H v H') D I hf he hit hg hne (by simpa using hne) fun u h2 hP _ => ?_) (fun r s1 ⟨u, e1, q⟩ => ⟨u, e1, wpAny_mono q (fun _ s2 ⟨v, H', a, b, c, d, f, g⟩ => ⟨v, H', a, b, c, ⟨d, f, hne⟩, g⟩) fun _ _ z => z⟩) fun _ _ z => z
    obtain ⟨c, u', hcx, rfl⟩ := hP
    exact ⟨.str ⟨#[c]⟩, ⟨u', rfl⟩, fun T hT => ⟨T, c, rfl, hT, rfl, hcx⟩⟩
  done := by
    intro X hP hw hK hc i pins s σ H E I hf st hg
    subst hP hw hK
    obtain ⟨⟨old, he⟩, hit, hne⟩ := st
    obtain ⟨f0, f1, f2, f3, f4, f5⟩ := hf it (by simp)
    have hg : x.cps.size ≤ i := hg
    have hx : x.cps[i]? = none := by simp; omega
    have hT : s.TypeIs (.ref e) "enumerate" := ⟨_, he, rfl⟩
    unfold pyNext
    refine wpAny_bind (wpAny_attempt (wpAny_callSpecial?_slot (name := Str.ofString "__next__") hT F.slot_enumerate_next
      (wpAny_call_entry F.slot_enumerate_next hT F.entry_enumerate_next ?_ (F.args_enumerate_next_1 _))))
    show wpAny _ _ (field (.ref e) 2 >>= _) _ _ _
    refine wpAny_bind (wpAny_field he rfl (x := .ref it) rfl ?_)
    refine wpAny_bind ?_
    have fin : ∀ (h' : Heap) (b : Addr), Heap.ExtBut it s.heap h' → (∃ o, h'.get? b = some o ∧ o.cls = .type "StopIteration") →
      wpAny (model X.prog X.w) X.A.in1 (Builtin.SmallTypes.nextOf (.ref it)) (fun _ _ => True) (fun _ _ => True) s → True := fun _ _ _ _ _ => trivial
    have go : ∀ {Q : Value → Shared → Prop} {Ee : Value → Shared → Prop}, (∀ h' e, Heap.ExtBut it s.heap h' → (∃ o, h'.get? e = some o ∧ o.cls = .type "StopIteration") → Ee (.ref e) { s with heap := h' }) → wpAny (model X.prog X.w) X.A.in1 (Builtin.SmallTypes.nextOf (.ref it)) Q Ee s := by
      intro Q Ee q
      cases ha : x.cps.all (· < 128)
      · simp only [strIterType, ha, Bool.false_eq_true, if_false] at hit
        exact wpAny_nextOf_wide_end (I.ok.hd hc) hit hx q
      · simp only [strIterType, ha, if_true] at hit
        exact wpAny_nextOf_ascii_end (I.ok.hd hc) hit hx q
    refine go fun h' x' he' hx' => ?_
    obtain ⟨o, ho, hcl⟩ := hx'
    refine wpAny_bind (wpAny_isInstance (T := "StopIteration") (b := true) ⟨o, ho, hcl⟩ isSubtype_stop ?_)
    exact wpAny_pure ⟨rfl, I.turned (t' := s.toks) (fun b o hb q => he' b o hb q) f0 f1 f3 f4 f5⟩
  self := fun A i s Q E st h => let ⟨⟨_, he⟩, _⟩ := st; wpAny_pyIter_enum he h
theorem turn_enT {P : Program} {w : World} {K : PySem.W.Frag} {elts : List Expr} {kk : Nat} {tpos : Pos} (a e it : Addr) :
    Turn P w K (.Tuple elts kk tpos) (Iet K a) [e, it] e (fun i h => (∃ old, IsEnum h e it ((i : Nat) : Int) old) ∧ h.IsTupleIter it a i ∧ e ≠ it ∧ a ≠ it ∧ e ≠ a) where
  mem := by simp
  obj := fun i h st b hb => by
    obtain ⟨⟨old, he⟩, ⟨o, ho, hc, hd⟩, _⟩ := st
    have e' : b = e ∨ b = it := by simpa using hb
    rcases e' with z | z
    · rw [z]; exact ⟨_, he, fun v q => nomatch q⟩
    · rw [z]; exact ⟨o, ho, fun v q => by rw [hd] at q; cases q⟩
  keep := fun i h h' st k => by
    obtain ⟨⟨old, he⟩, ⟨o, ho, r⟩, hne⟩ := st
    exact ⟨⟨old, k e (by simp) _ he⟩, ⟨o, k it (by simp) o ho, r⟩, hne⟩
  item := by
    intro X hP hw hK hc i pins s σ H E I hf st hg
    subst hP hw hK
    obtain ⟨⟨old, he⟩, hit, hne, hne2, hne3⟩ := st
    obtain ⟨xs, x, hq, hx⟩ := hg
    obtain ⟨its, rv, p, hz⟩ := I.tuple hq
    obtain ⟨u, hu, ru⟩ := rv.get hx
    have D := Draws.tuple (prog := X.prog) (w := X.w) (A := X.A.in1) (I.ok.hd hc) it a hne2 its.toArray
    have hlt : i < its.toArray.size := by simpa using (List.getElem?_eq_some_iff.mp hu).1
    refine wpAny_mono (turn_en (elts := elts) (kk := kk) (tpos := tpos) (R := fun v H' _ => (Iet X.K a).yld i H v H') D I hf he ⟨hit, p⟩ hlt hne (by simp [hne, hne3]) fun u' h2 hP _ => ?_) (fun r s1 ⟨u, e1, q⟩ => ⟨u, e1, wpAny_mono q (fun _ s2 ⟨v, H', a, b, c, d, f, g⟩ => ⟨v, H', a, b, c, ⟨d, f.1, hne, hne2, hne3⟩, g⟩) fun _ _ z => z⟩) fun _ _ z => z
    have hP : its.toArray[i]? = some u' := hP
    rw [List.getElem?_toArray, hu] at hP
    cases hP
    exact ⟨x, ru, fun T hT => ⟨T, x, rfl, hT, rfl, fun ys hy => by rw [I.tuple_inj hy hq]; exact hx⟩⟩
  done := by
    intro X hP hw hK hc i pins s σ H E I hf st hg
    subst hP hw hK
    obtain ⟨⟨old, he⟩, hit, hne, hne2, hne3⟩ := st
    obtain ⟨xs, hq, hx⟩ := hg
    obtain ⟨its, rv, p, hz⟩ := I.tuple hq
    obtain ⟨f0, f1, f2, f3, f4, f5⟩ := hf it (by simp)
    have hl := rv.length
    have hxn : its.toArray[i]? = none := by simp; omega
    have hT : s.TypeIs (.ref e) "enumerate" := ⟨_, he, rfl⟩
    unfold pyNext
    refine wpAny_bind (wpAny_attempt (wpAny_callSpecial?_slot (name := Str.ofString "__next__") hT F.slot_enumerate_next
      (wpAny_call_entry F.slot_enumerate_next hT F.entry_enumerate_next ?_ (F.args_enumerate_next_1 _))))
    show wpAny _ _ (field (.ref e) 2 >>= _) _ _ _
    refine wpAny_bind (wpAny_field he rfl (x := .ref it) rfl ?_)
    refine wpAny_bind (wpAny_nextOf_tuple_end (I.ok.hd hc) hit p hxn fun h' x' he' hx' => ?_)
    obtain ⟨o, ho, hcl⟩ := hx'
    refine wpAny_bind (wpAny_isInstance (T := "StopIteration") (b := true) ⟨o, ho, hcl⟩ isSubtype_stop ?_)
    exact wpAny_pure ⟨rfl, I.turned (t' := s.toks) (fun b o hb q => he' b o hb q) f0 f1 f3 f4 f5⟩
  self := fun A i s Q E st h => let ⟨⟨_, he⟩, _⟩ := st; wpAny_pyIter_enum he h
def iEnumA (K : PySem.W.Frag) (ta : TA) : TI := fun σ H R => ta σ H fun vs H1 => (∃ a xs, vs = [.ref a] ∧ SqL K H1 a xs ∧ R (Ite K a) H1) ∨ (∃ a xs, vs = [.ref a] ∧ SqT K H1 a xs ∧ R (Iet K a) H1) ∨ ∃ y, vs = [.str y] ∧ R (Ies y) H1
theorem pi_enumA {X : Cx} {e : Expr} {ta : TA} {p pos tpos : Pos} {elts : List Expr} {kk : Nat} (hg : Gl X "enumerate") (hm : X.mg "enumerate" = none) (ha : PA X [e] ta) (hs : starEach [e] X.env = [(false, eval e X.env)] := by rfl) :
    PI X (.Tuple elts kk tpos) (.Call (.Name "enumerate" p) [e] [] pos) (iEnumA X.K ta) := by
  refine ⟨fun pins s σ H R I h => ?_⟩
  refine Call_ (ld_blt I hg hm boot_enumerate (PyProof.Rows.callWith_type1 (thn (ha.run pos pins s σ H _ I h) fun us s1 ⟨vs, H1, I1, r1, q1⟩ => ?_) hs rfl))
  have fresh : ∀ b ∈ [s1.heap.objs.size + 1, s1.heap.objs.size], FpOk X pins H1 b := fun b hb => by
    have e' : b = s1.heap.objs.size + 1 ∨ b = s1.heap.objs.size := by simpa using hb
    have hle : s1.heap.objs.size ≤ b := by
      rcases e' with z | z
      · rw [z]; exact Nat.le_add_right _ _
      · rw [z]; exact Nat.le_refl _
    exact I1.fpOk hle (I1.hok.fresh hle)
  rcases q1 with ⟨a, xs, ex, hq, q⟩ | ⟨a, xs, ex, hq, q⟩ | ⟨y, ex, q⟩
  · subst ex
    cases r1 with
    | cons r rr =>
      cases rr
      cases r
      obtain ⟨its, rv, p', hz⟩ := I1.list hq
      refine call_enum_any (begins_list a its.toArray) p'.isList fun h' he hit hk => wpAny_pyIter_enum he ?_
      have I2 : Inv X pins σ H1 { s1 with heap := h' } := I1.kept (t' := s1.toks) hk
      exact ⟨s1.heap.objs.size + 1, [s1.heap.objs.size + 1, s1.heap.objs.size], _, _, H1, rfl, I2, turn_enum a (s1.heap.objs.size + 1) s1.heap.objs.size, ⟨⟨.none, he⟩, ⟨_, hit, rfl, rfl⟩, Nat.succ_ne_self _⟩, fresh, q⟩
  · subst ex
    cases r1 with
    | cons r rr =>
      cases rr
      cases r
      obtain ⟨its, rv, p', hz⟩ := I1.tuple hq
      have hal : a < s1.heap.objs.size := by obtain ⟨o, ho, _⟩ := p'; exact Heap.lt_size ho
      refine call_enum_any (begins_tuple a its.toArray) (show s1.heap.IsTuple a its.toArray from p') fun h' he hit hk => wpAny_pyIter_enum he ?_
      have I2 : Inv X pins σ H1 { s1 with heap := h' } := I1.kept (t' := s1.toks) hk
      exact ⟨s1.heap.objs.size + 1, [s1.heap.objs.size + 1, s1.heap.objs.size], _, _, H1, rfl, I2, turn_enT a (s1.heap.objs.size + 1) s1.heap.objs.size, ⟨⟨.none, he⟩, ⟨_, hit, rfl, rfl⟩, Nat.succ_ne_self _, Nat.ne_of_lt hal, Nat.ne_of_gt (Nat.lt_succ_of_lt hal)⟩, fresh, q⟩
  · subst ex
    cases r1 with
    | cons r rr =>
      cases rr
      obtain ⟨t, rfl⟩ := r
      refine call_enum_any (begins_text y t) trivial fun h' he hit hk => wpAny_pyIter_enum he ?_
      have I2 : Inv X pins σ H1 { s1 with heap := h' } := I1.kept (t' := s1.toks) hk
      exact ⟨s1.heap.objs.size + 1, [s1.heap.objs.size + 1, s1.heap.objs.size], _, _, H1, rfl, I2, turn_enS (s1.heap.objs.size + 1) s1.heap.objs.size y t, ⟨⟨.none, he⟩, ⟨_, hit, rfl, rfl⟩, Nat.succ_ne_self _⟩, fresh, q⟩
end PuE
namespace Pu
open PySem L2 PySem.Spec PyProof.Rows
section
variable {Γ Γ' : Gm} {κ κ' : Ka} {H H' : Hp} {env env' : En} {σ : Sl} {v : V} {st : Sto} {Y : Fam} {a b e o : Expr} {es : List Expr} {ta tb te to ti : PTE} {pos : Pos}
def enumF : Nat → List D → List D
  | _, [] => []
  | i, d :: ds => .tup [.int i, d] :: enumF (i + 1) ds
theorem enumF_get : ∀ (ds : List D) (k i : Nat), (enumF k ds)[i]? = ds[i]?.map fun d => .tup [.int ((k + i : Nat) : Int), d]
  | [], _, _ => by simp [enumF]
  | d :: ds, k, 0 => by simp [enumF]
  | d :: ds, k, i + 1 => by
    have e1 : k + 1 + i = k + (i + 1) := by omega
    rw [enumF, List.getElem?_cons_succ, List.getElem?_cons_succ, enumF_get ds (k + 1) i, e1]
theorem enumF_length : ∀ (ds : List D) (k : Nat), (enumF k ds).length = ds.length
  | [], _ => rfl
  | d :: ds, k => by simp [enumF, enumF_length ds]
theorem pair_new {T : Addr} {x : V} {d : D} {i : Nat} (I : Rl Γ κ env σ H) (h : H T = none) (r : Rep Γ.K Γ.cls κ H x d) :
    ∃ κ', Ext κ H κ' (upd H T (.tup [.int (i : Nat), x])) ∧ Rl Γ κ' env σ (upd H T (.tup [.int (i : Nat), x])) ∧ Rep Γ.K Γ.cls κ' (upd H T (.tup [.int (i : Nat), x])) (.ref T) (.tup [.int (i : Nat), d]) :=
  ⟨_, new_tup (by simp [ordL, isPr]) I h (by show 2 ≤ sizeLine; decide) (.cons (.int _) (.cons r .nil))⟩
theorem src_enL {a : Addr} {vs : List V} {ds : List D} (hk : κ a = some .frz) (ha : H a = some (.lst vs)) (r : RepL Γ.K Γ.cls κ H vs ds) : Src Γ.K Γ.cls κ H (Ite Γ.K a) (enumF 0 ds) := by
  intro Γ2 hK hc
  rw [← hK, ← hc] at r
  rw [← hK]
  intro σ κ1 H1 env i I x
  have h1 : SqL Γ2.K H1 a vs := SqL.of ((x.2 a hk).trans ha)
  refine ⟨fun d e => ?_, fun e => ⟨vs, h1, by rw [r.length, ← e, enumF_length]; exact Nat.le_refl _⟩⟩
  rw [enumF_get] at e
  cases q : ds[i]? with
  | none => rw [q] at e; cases e
  | some y =>
    rw [q] at e
    cases e
    obtain ⟨v, e1, r1⟩ := r.get q
    refine ⟨⟨vs, v, h1, e1⟩, fun w H' yy => ?_⟩
    obtain ⟨T, z, rfl, hT, rfl, hz⟩ := yy
    have hz := hz vs h1
    rw [e1] at hz
    cases hz
    rw [Nat.zero_add]
    exact pair_new I hT (r1.mono x)
theorem src_enT {a : Addr} {vs : List V} {ds : List D} (h : Rep Γ.K Γ.cls κ H (.ref a) (.tup ds)) : Src Γ.K Γ.cls κ H (PuE.Iet Γ.K a) (enumF 0 ds) := by
  intro Γ2 hK hc
  rw [← hK, ← hc] at h
  rw [← hK]
  intro σ κ1 H1 env i I x
  obtain ⟨b, vs, e0, h1, _, r⟩ := (h.mono x).sqT
  cases e0
  refine ⟨fun d e => ?_, fun e => ⟨vs, h1, by rw [r.length, ← e, enumF_length]; exact Nat.le_refl _⟩⟩
  rw [enumF_get] at e
  cases q : ds[i]? with
  | none => rw [q] at e; cases e
  | some y =>
    rw [q] at e
    cases e
    obtain ⟨v, e1, r1⟩ := r.get q
    refine ⟨⟨vs, v, h1, e1⟩, fun w H' yy => ?_⟩
    obtain ⟨T, z, rfl, hT, rfl, hz⟩ := yy
    have hz := hz vs h1
    rw [e1] at hz
    cases hz
    rw [Nat.zero_add]
    exact pair_new I hT r1
theorem src_enS {K : PySem.W.Frag} {cl : Cl} {s : List Nat} (hs : SOk s) : Src K cl κ H (PuE.Ies ⟨s.toArray⟩) (enumF 0 (signs s)) := by
  intro Γ2 hK hc σ κ1 H1 env i I x
  have hl : (signs s).length = s.length := signs_length s
  refine ⟨fun d e => ?_, fun e => ?_⟩
  · rw [enumF_get] at e
    unfold signs at e
    rw [List.getElem?_map] at e
    cases q : s[i]? with
    | none => rw [q] at e; cases e
    | some c =>
      rw [q] at e
      cases e
      refine ⟨by show i < (⟨s.toArray⟩ : Str).cps.size; simpa using (List.getElem?_eq_some_iff.mp q).1, fun v H' y => ?_⟩
      obtain ⟨T, c', rfl, hT, rfl, e1⟩ := y
      have e1 : s.toArray[i]? = some c' := e1
      rw [List.getElem?_toArray, q] at e1
      cases e1
      rw [Nat.zero_add]
      exact pair_new I hT (.str _ (hs.one (List.mem_of_getElem? q)))
  · show (⟨s.toArray⟩ : Str).cps.size ≤ i
    rw [← e, enumF_length, hl]
    simp
def D.walkE : D → Option (List D)
  | .lst ds => some ds
  | .tup ds => some ds
  | .str s => some (signs s)
  | _ => none
def iEnumP (t : PTR) : PTI := fun x e Q => t x e fun rs e1 => match rs with
  | [r] => fz r e1 fun d e2 => match d.walkE with
    | some ds => Q (enumF 0 ds) e2
    | none => False
  | _ => False
theorem vi_enum {elts : List Expr} {kk : Nat} {tpos : Pos} {p : Pos} {t : PTR} (hm : ∀ i, (Y.X i).mg "enumerate" = none) (ha : VR Y [e] t) (hg : ∀ i, Gl (Y.X i) "enumerate" := by intro _; rfl) (hs : ∀ X : Cx, starEach [e] X.env = [(false, eval e X.env)] := by intro _; rfl) :
    VI Y (.Tuple elts kk tpos) (.Call (.Name "enumerate" p) [e] [] pos) (iEnumP t) := by
  obtain ⟨ra, pa, fa⟩ := ha.ex
  refine ⟨⟨fun E => PuE.iEnumA Y.K (ra E), fun i => by have := PuE.pi_enumA (elts := elts) (kk := kk) (tpos := tpos) (p := p) (pos := pos) (hg i) (hm i) (pa i) (hs _); rw [Y.hK i] at this; exact this, fun Γ σ κ H env Q Q' hK I q k => ?_⟩⟩
  refine fa Γ σ κ H env _ _ hK I q fun vs κ1 H1 rs e1 x1 I1 h1 q1 => ?_
  match rs, vs, h1, q1 with
  | [r], [v], .cons h1 .nil, q1 =>
    refine fz_ok I1 h1.rel q1 fun κ2 d e2 x2 I2 h2 q2 => ?_
    rw [← hK.k]
    cases d with
    | lst ds =>
      cases h2 with
      | lst g1 g2 g3 g4 => exact .inl ⟨_, _, rfl, SqL.of g2, k _ κ2 H1 _ e2 (x1.trans x2) I2 (src_enL g1 g2 g4) q2⟩
    | tup ds =>
      obtain ⟨a, vs, rfl, g1, _, _⟩ := h2.sqT
      exact .inr (.inl ⟨a, vs, rfl, g1, k _ κ2 H1 _ e2 (x1.trans x2) I2 (src_enT (vs := vs) h2) q2⟩)
    | str s =>
      obtain ⟨rfl, hs⟩ := h2.strE
      exact .inr (.inr ⟨_, rfl, k _ κ2 H1 _ e2 (x1.trans x2) I2 (src_enS hs) q2⟩)
    | _ => exact False.elim q2
  | [], _, _, q1 => exact False.elim q1
  | _ :: _ :: _, _, _, q1 => exact False.elim q1
end
end Pu
set_option maxRecDepth 100000
set_option maxHeartbeats 4000000
namespace Pu
open PySem L2
section
variable {K : PySem.W.Frag} {cl : Cl} {Γ Γ' : Gm} {κ κ' : Ka} {H H' : Hp} {env env' : En} {σ : Sl} {v : V} {st : Sto} {Y : Fam} {a b e o i : Expr} {es : List Expr} {ta tb te to ti : PTE} {pos : Pos}
def keyD : D → Option Key
  | .int i => some (.inl i)
  | .str s => some (.inr ⟨s.toArray⟩)
  | _ => none
theorem keyD_rep {d : D} {k : Key} (h : Rep K cl κ H v d) (e : keyD d = some k) : v = kV k := by
  cases d with
  | int i => cases e; cases h; rfl
  | str s => cases e; obtain ⟨rfl, _⟩ := h.strE; rfl
  | _ => cases e
def getK (kvs : List (Key × D)) (k : Key) : Option D := (kvs.find? fun kv => decide (kv.1 = k)).map (·.2)
def setK (kvs : List (Key × D)) (k : Key) (d : D) : List (Key × D) :=
  if (kvs.any fun kv => decide (kv.1 = k)) = true then kvs.map (fun kv => if kv.1 = k then (kv.1, d) else kv) else kvs ++ [(k, d)]
theorem PR.any : ∀ {ds : List (Key × D)} {vs : List (Key × V)} (k : Key), PR K cl κ H vs ds → (vs.any fun kv => decide (kv.1 = k)) = ds.any fun kv => decide (kv.1 = k)
  | [], _, _, h => by cases h; rfl
  | d :: ds, _, k, h => by cases h with | cons h1 h2 => rw [List.any_cons, List.any_cons, PR.any k h2]
theorem PR.appendP : ∀ {ds es : List (Key × D)} {vs ws : List (Key × V)}, PR K cl κ H vs ds → PR K cl κ H ws es → PR K cl κ H (vs ++ ws) (ds ++ es)
  | [], _, _, _, h, g => by cases h; exact g
  | _ :: _, _, _, _, h, g => by cases h with | cons h1 h2 => exact .cons h1 (PR.appendP h2 g)
theorem PR.repl {v : V} {d : D} (r : Rep K cl κ H v d) (k : Key) : ∀ {ds : List (Key × D)} {vs : List (Key × V)}, PR K cl κ H vs ds → PR K cl κ H (vs.map fun kv => if kv.1 = k then (kv.1, v) else kv) (ds.map fun kv => if kv.1 = k then (kv.1, d) else kv)
  | [], _, h => by cases h; exact .nil
  | (j, y) :: ds, _, h => by
    cases h with
    | cons h1 h2 =>
      rw [List.map_cons, List.map_cons]
      by_cases e : j = k
      · rw [if_pos e, if_pos e]; exact .cons r (PR.repl r k h2)
      · rw [if_neg e, if_neg e]; exact .cons h1 (PR.repl r k h2)
theorem PR.put {v : V} {d : D} (r : Rep K cl κ H v d) (k : Key) {ds : List (Key × D)} {vs : List (Key × V)} (h : PR K cl κ H vs ds) : PR K cl κ H (putK vs k v) (setK ds k d) := by
  unfold putK setK
  rw [PR.any k h]
  by_cases e : (ds.any fun kv => decide (kv.1 = k)) = true
  · rw [if_pos e, if_pos e]; exact PR.repl r k h
  · rw [if_neg e, if_neg e]; exact PR.appendP h (.cons r .nil)
theorem PR.find (k : Key) : ∀ {ds : List (Key × D)} {vs : List (Key × V)}, PR K cl κ H vs ds → (getK ds k = none ∧ valV vs k = none) ∨ ∃ d v, getK ds k = some d ∧ valV vs k = some v ∧ Rep K cl κ H v d
  | [], _, h => by cases h; exact .inl ⟨rfl, rfl⟩
  | (j, y) :: ds, _, h => by
    cases h with
    | @cons _ w _ _ _ h1 h2 =>
      by_cases e : j = k
      · refine .inr ⟨y, w, ?_, valV_pos e, h1⟩
        unfold getK
        rw [List.find?_cons_of_pos (by simpa using e)]
        rfl
      · have e1 : getK ((j, y) :: ds) k = getK ds k := by
          unfold getK
          rw [List.find?_cons_of_neg (by simpa using e)]
        rw [e1, valV_neg e]
        exact PR.find k h2
def kget : R → En → Option (List (Key × D))
  | .nam i, e => match e.sl[i]? with
    | some (.dK ds) => some ds
    | _ => none
  | .d (.ref k), e => match e.st[k]? with
    | some (.dK ds) => some ds
    | _ => none
  | _, _ => none
def kset : R → En → List (Key × D) → En
  | .nam i, e, ds => e.setC i (.dK ds)
  | .d (.ref k), e, ds => ⟨e.sl, e.st.set k (.dK ds)⟩
  | _, e, _ => e
theorem dct_ok {r : R} {ds : List (Key × D)} (I : Rl Γ κ env σ H) (h : HeldR Γ κ H σ v r) (e : kget r env = some ds) : ∃ a vs, v = .ref a ∧ H a = some (.dK vs) ∧ PR Γ.K Γ.cls κ H vs ds ∧
    ∀ vs' ds', PR Γ.K Γ.cls κ H vs' ds' → Ext κ H κ (upd H a (.dK vs')) ∧ Rl Γ κ (kset r env ds') σ (upd H a (.dK vs')) := by
  cases r with
  | nam i =>
    have h : σ[i]? = some (some v) := h
    unfold kget at e
    simp only at e
    cases q : env.sl[i]? with
    | none => rw [q] at e; cases e
    | some c =>
      have s := I.get q
      rw [q] at e
      cases c with
      | dK ds' =>
        cases e
        obtain ⟨a, e1, k1, h0, vs, h2, h4⟩ := s
        rw [h] at e1
        cases e1
        refine ⟨a, vs, rfl, h2, h4, fun vs' ds' r' => ?_⟩
        have x : Ext κ H κ (L2.upd H a (.dK vs')) := Ext.upd k1
        have hi : i < env.sl.length := (List.getElem?_eq_some_iff.mp q).1
        have own_i : OwnS env σ i a := ⟨h, _, q, rfl⟩
        refine ⟨x, ⟨by rw [I.len]; simp [kset, En.setC], fun j c ec => ?_, fun j l b o1 o2 => ?_, I.gh.upd k1 h0⟩⟩
        · have ec : (env.sl.set i (C.dK ds'))[j]? = some c := ec
          by_cases hj : j = i
          · subst hj
            rw [List.getElem?_set_self hi] at ec
            cases ec
            exact ⟨a, h, k1, h0, vs', upd_same, r'.mono x⟩
          · rw [List.getElem?_set_ne (Ne.symm hj)] at ec
            have s := I.get ec
            cases hc : c.isOwn with
            | true =>
              obtain ⟨b, e1, hb⟩ := s.own hc
              have hba : b ≠ a := fun z => hj (I.dist j i a ⟨z ▸ e1, c, ec, hc⟩ own_i)
              exact .mk e1 (hb.ext x hb.facts.1 (upd_ne hba))
            | false =>
              cases c with
              | un => trivial
              | d d => obtain ⟨v, e1, r⟩ := s; exact ⟨v, e1, r.mono x⟩
              | _ => cases hc
        · have old : ∀ m, OwnS (env.setC i (.dK ds')) σ m b → OwnS env σ m b := fun m ⟨z1, c, z2, z3⟩ => by
            have z2 : (env.sl.set i (C.dK ds'))[m]? = some c := z2
            by_cases hm : m = i
            · subst hm
              exact ⟨z1, _, q, rfl⟩
            · rw [List.getElem?_set_ne (Ne.symm hm)] at z2
              exact ⟨z1, c, z2, z3⟩
          exact I.dist j l b (old j o1) (old l o2)
      | _ => cases e
  | d d =>
    cases d with
    | ref k =>
      unfold kget at e
      simp only at e
      cases q : env.st[k]? with
      | none => rw [q] at e; cases e
      | some so =>
        rw [q] at e
        cases so with
        | dK ds' =>
          cases e
          cases h with
          | @ref a _ hk =>
            obtain ⟨so, g1, g2⟩ := I.gh.obj a k hk
            rw [q] at g1
            cases g1
            obtain ⟨vs, h2, h4⟩ := g2
            refine ⟨a, vs, rfl, h2, h4, fun vs' ds' r' => ?_⟩
            have x : Ext κ H κ (L2.upd H a (.dK vs')) := ⟨fun _ _ e => e, fun b e => upd_ne fun z => by rw [z, hk] at e; cases e⟩
            refine ⟨x, I.step x (fun i b hb => ?_) (I.gh.upd_obj (so := .dK ds') hk (fun H' e x' => ⟨vs', e, r'.mono x'⟩) (List.getElem?_eq_some_iff.mp q).1)⟩
            obtain ⟨c, _, hc⟩ := I.ownS hb
            exact ⟨hc.facts.1, upd_ne fun z => by have := hc.facts.1; rw [z, hk] at this; cases this⟩
        | _ => cases e
    | _ => cases e
  | _ => cases e
/-- a dict that is read: one's own, an object's, or data -/
def kgetR : R → En → Option (List (Key × D))
  | .d (.dck ks ds), _ => some (ks.zip ds)
  | r, e => kget r e
theorem dctR_ok {r : R} {ds : List (Key × D)} (I : Rl Γ κ env σ H) (h : HeldR Γ κ H σ v r) (e : kgetR r env = some ds) : ∃ a vs, v = .ref a ∧ H a = some (.dK vs) ∧ PR Γ.K Γ.cls κ H vs ds := by
  have key : kget r env = some ds → ∃ a vs, v = .ref a ∧ H a = some (.dK vs) ∧ PR Γ.K Γ.cls κ H vs ds := fun e => by
    obtain ⟨a, vs, h1, h2, h3, _⟩ := dct_ok I h e
    exact ⟨a, vs, h1, h2, h3⟩
  cases r with
  | d d =>
    cases d with
    | dck ks ds' =>
      cases e
      cases h with
      | dck h1 h2 h3 h4 => exact ⟨_, _, rfl, h2, PR.zipKV h3 h4⟩
    | _ => exact key e
  | _ => exact key e
/-- {} -/
def tDict0 : PTE := fun _ e Q => Q (.dK []) e
theorem ve_dict0 : VE Y (.Dict [] [] pos) tDict0 :=
  ⟨⟨fun _ => tDNewK, fun _ => pe_dnewK, fun Γ σ κ H env Q Q' hK I q k p hp => k _ κ _ (.dK []) env (Ext.upd_new I.gh hp) (I.upd_new hp) (new_dK I hp .nil) q⟩⟩
/-- d[k] -/
def tDG (to ti : PTE) : PTE := fun x e Q => to x e fun r e1 => hold r e1 fun r e1 => ti x e1 fun ri e2 => match kgetR r e2 with
  | some kvs => match rv ri e2 with
    | some kd => match keyD kd with
      | some k => match getK kvs k with
        | some d => Q (.d d) e2
        | none => False
      | none => False
    | none => False
  | none => False
theorem ve_dget (hu : Hu Y) (ho : VE Y o to) (hi : VE Y i ti) (hs : NoSl i := by exact fun _ _ => rfl) : VE Y (.Subscript o i pos) (tDG to ti) := by
  obtain ⟨ro, po, fo⟩ := ho.ex
  obtain ⟨ri, pi, fi⟩ := hi.ex
  refine ⟨⟨fun E => tDGet (ro E) (ri E), fun j => pe_dget (by have := hu j; omega) (po j) (pi j) hs, fun Γ σ κ H env Q Q' hK I q k => ?_⟩⟩
  refine fo Γ σ κ H env _ _ hK I q fun v κ1 H1 r1 e1 x1 I1 h1 q1 => ?_
  refine hold_ok I1 h1 q1 fun κ2 r2 x2 I2 h2 q2 => ?_
  refine fi Γ σ κ2 H1 e1 _ _ hK I2 q2 fun iv κ3 H3 r3 e3 x3 I3 h3 q3 => ?_
  cases e1' : kgetR r2 e3 with
  | none => rw [e1'] at q3; exact q3.elim
  | some kvs =>
    rw [e1'] at q3
    cases e2' : rv r3 e3 with
    | none => rw [e2'] at q3; exact q3.elim
    | some kd =>
      rw [e2'] at q3
      cases e3' : keyD kd with
      | none => simp only [e3'] at q3
      | some kk =>
        simp only [e3'] at q3
        obtain ⟨a, vs, rfl, g1, g2⟩ := dctR_ok I3 (h2.ext x3) e1'
        have ek := keyD_rep (K := Γ.K) (cl := Γ.cls) (κ := κ3) (H := H3) (v := iv) (d := kd) (by
          have := rv_ok I3 h3 e2'
          cases kd with
          | lst _ => cases e3'
          | _ => exact this) e3'
        subst ek
        rcases PR.find kk g2 with ⟨z1, z2⟩ | ⟨d, v, z1, z2, z3⟩
        · rw [z1] at q3; exact q3.elim
        · rw [z1] at q3
          exact ⟨a, v, rfl, z2 ▸ DGet.k g1, k v κ3 H3 (.d d) e3 ((x1.trans x2).trans x3) I3 z3 q3⟩
/-- k in d -/
def tDI (neg : Bool) (ti to : PTE) : PTE := fun x e Q => ti x e fun ri e1 => hold ri e1 fun ri e1 => to x e1 fun r e2 => match kgetR r e2 with
  | some kvs => match rv ri e2 with
    | some kd => match keyD kd with
      | some k => Q (.d (.bl (if neg then !(getK kvs k).isSome else (getK kvs k).isSome))) e2
      | none => False
    | none => False
  | none => False
theorem kget_rel {r : R} {kvs : List (Key × D)} (h : RelR Γ κ H env σ v r) (e : kgetR r env = some kvs) : HeldR Γ κ H σ v r := by
  cases r with
  | nam i => exact h
  | d d => exact h
  | _ => cases e
theorem din_ref {neg : Bool} {ro ri : XK → TE}
    (fi : ∀ (Γ : Gm) (σ : Sl) (κ : Ka) (H : Hp) (env : En) (Q : R → En → Prop) (Q' : VK), GK Y Γ → Rl Γ κ env σ H → ti Γ.x env Q → (∀ v κ' H' r env', Ext κ H κ' H' → Rl Γ κ' env' σ H' → RelR Γ κ' H' env' σ v r → Q r env' → Q' v H') → ri Γ.E σ H Q')
    (fo : ∀ (Γ : Gm) (σ : Sl) (κ : Ka) (H : Hp) (env : En) (Q : R → En → Prop) (Q' : VK), GK Y Γ → Rl Γ κ env σ H → to Γ.x env Q → (∀ v κ' H' r env', Ext κ H κ' H' → Rl Γ κ' env' σ H' → RelR Γ κ' H' env' σ v r → Q r env' → Q' v H') → ro Γ.E σ H Q')
    {Q : R → En → Prop} {Q' : VK} (hK : GK Y Γ) (I : Rl Γ κ env σ H) (q : tDI neg ti to Γ.x env Q)
    (k : ∀ v κ' H' r env', Ext κ H κ' H' → Rl Γ κ' env' σ H' → RelR Γ κ' H' env' σ v r → Q r env' → Q' v H') :
    ri Γ.E σ H fun y H1 => ro Γ.E σ H1 fun x H2 => ∃ a o, x = .ref a ∧ DGet H2 a y o ∧ Q' (.bl (if neg then !o.isSome else o.isSome)) H2 := by
  refine fi Γ σ κ H env _ _ hK I q fun iv κ1 H1 r1 e1 x1 I1 h1 q1 => ?_
  refine hold_ok I1 h1 q1 fun κ2 r2 x2 I2 h2 q2 => ?_
  refine fo Γ σ κ2 H1 e1 _ _ hK I2 q2 fun v κ3 H3 r3 e3 x3 I3 h3 q3 => ?_
  cases e1' : kgetR r3 e3 with
  | none => rw [e1'] at q3; exact q3.elim
  | some kvs =>
    rw [e1'] at q3
    cases e2' : rv r2 e3 with
    | none => rw [e2'] at q3; exact q3.elim
    | some kd =>
      rw [e2'] at q3
      cases e3' : keyD kd with
      | none => simp only [e3'] at q3
      | some kk =>
        simp only [e3'] at q3
        obtain ⟨a, vs, rfl, g1, g2⟩ := dctR_ok I3 (kget_rel h3 e1') e1'
        have ek := keyD_rep (K := Γ.K) (cl := Γ.cls) (κ := κ3) (H := H3) (v := iv) (d := kd) (by
          have := rv_ok I3 (h2.ext x3).rel e2'
          cases kd with
          | lst _ => cases e3'
          | _ => exact this) e3'
        subst ek
        rcases PR.find kk g2 with ⟨z1, z2⟩ | ⟨d, v, z1, z2, z3⟩
        · rw [z1] at q3
          exact ⟨a, none, rfl, z2 ▸ DGet.k g1, k _ κ3 H3 (.d (.bl _)) e3 ((x1.trans x2).trans x3) I3 (.bl _) q3⟩
        · rw [z1] at q3
          exact ⟨a, some v, rfl, z2 ▸ DGet.k g1, k _ κ3 H3 (.d (.bl _)) e3 ((x1.trans x2).trans x3) I3 (.bl _) q3⟩
theorem vt_of_pc {op : CmpOp} {t : PTE} {rd : XK → TE} {o i : Expr} (hm : behindInMarks op o = false) (p : ∀ j, PC (Y.X j) op i o (rd (Y.E j)))
    (f : ∀ (Γ : Gm) (σ : Sl) (κ : Ka) (H : Hp) (env : En) (Q : R → En → Prop) (Q' : VK), GK Y Γ → Rl Γ κ env σ H → t Γ.x env Q → (∀ v κ' H' r env', Ext κ H κ' H' → Rl Γ κ' env' σ H' → RelR Γ κ' H' env' σ v r → Q r env' → Q' v H') → rd Γ.E σ H Q') : VT Y (.Compare i [op] [o] pos) (tB t) := by
  refine ⟨⟨fun E => L2.tB (rd E), fun j => pt_cmp (p j) hm, fun Γ σ κ H env Q Q' hK I q k => ?_⟩⟩
  refine f Γ σ κ H env _ _ hK I q fun v κ1 H1 r1 e1 x1 I1 h1 q1 => ?_
  obtain ⟨c, rfl, q1⟩ := bl_of (P := fun _ => True) I1 h1 q1
  exact ⟨c, rfl, k c κ1 H1 e1 x1 I1 q1⟩
theorem vt_dnin (hu : Hu Y) (hi : VE Y i ti) (ho : VE Y o to) (hm : behindInMarks .NotIn o = false := by rfl) : VT Y (.Compare i [.NotIn] [o] pos) (tB (tDI true ti to)) := by
  obtain ⟨ro, po, fo⟩ := ho.ex
  obtain ⟨ri, pi, fi⟩ := hi.ex
  exact vt_of_pc (rd := fun E => tDNotIn (ri E) (ro E)) hm (fun j => pc_dnotin (by have := hu j; omega) (pi j) (po j)) (fun Γ σ κ H env Q Q' hK I q k => din_ref (neg := true) fi fo hK I q k)
/-- d[k] = v -/
def sDPt (te to ti : PTE) : PTS := fun x P e => te x e fun r0 e1 => fz r0 e1 fun dv e2 => to x e2 fun ro e3 => hold ro e3 fun ro e3 => ti x e3 fun ri e4 => match kget ro e4 with
  | some kvs => match rv ri e4 with
    | some kd => match keyD kd with
      | some k => kvs.length < sizeLine ∧ P.nx (kset ro e4 (setK kvs k dv))
      | none => False
    | none => False
  | none => False
theorem PR.lengthK : ∀ {ds : List (Key × D)} {vs : List (Key × V)}, PR K cl κ H vs ds → vs.length = ds.length
  | [], _, h => by cases h; rfl
  | d :: ds, _, h => by cases h with | cons h1 h2 => simp [PR.lengthK h2]
theorem vs_dput {tpos : Pos} (hu : Hu Y) (he : VE Y e te) (ho : VE Y o to) (hi : VE Y i ti)
    (hs : ∀ j, swapsWith e (some (.Subscript o i tpos)) pos.line (Y.X j).env = pure false := by intro _; rfl) : VS Y (.Assign [.Subscript o i tpos] e pos) (sDPt te to ti) := by
  obtain ⟨re, pe, fe⟩ := he.ex
  obtain ⟨ro, po, fo⟩ := ho.ex
  obtain ⟨ri, pi, fi⟩ := hi.ex
  refine ⟨⟨fun E => sDPut (ro E) (ri E) (re E), fun j => ps_dput (by have := hu j; omega) (po j) (pi j) (pe j) (hs j), fun Γ σ κ H env P P' hK I q l => ?_⟩⟩
  refine fe Γ σ κ H env _ _ hK I q fun v κ1 H1 r1 e1 x1 I1 h1 q1 => ?_
  refine fz_ok I1 h1 q1 fun κ2 dv e2 x2 I2 h2 q2 => ?_
  refine fo Γ σ κ2 H1 e2 _ _ hK I2 q2 fun ov κ3 H3 r3 e3 x3 I3 h3 q3 => ?_
  refine hold_ok I3 h3 q3 fun κ4 r4 x4 I4 h4 q4 => ?_
  refine fi Γ σ κ4 H3 e3 _ _ hK I4 q4 fun iv κ5 H5 r5 e5 x5 I5 h5 q5 => ?_
  have hv : Rep Γ.K Γ.cls κ5 H5 v dv := ((h2.mono x3).mono x4).mono x5
  have x15 := (((x1.trans x2).trans x3).trans x4).trans x5
  cases e1' : kget r4 e5 with
  | none => rw [e1'] at q5; exact q5.elim
  | some kvs =>
    rw [e1'] at q5
    cases e2' : rv r5 e5 with
    | none => rw [e2'] at q5; exact q5.elim
    | some kd =>
      rw [e2'] at q5
      cases e3' : keyD kd with
      | none => simp only [e3'] at q5
      | some kk =>
        simp only [e3'] at q5
        obtain ⟨a, vs, rfl, g1, g2, g3⟩ := dct_ok I5 (h4.ext x5) e1'
        have ek := keyD_rep (K := Γ.K) (cl := Γ.cls) (κ := κ5) (H := H5) (v := iv) (d := kd) (by
          have := rv_ok I5 h5 e2'
          cases kd with
          | lst _ => cases e3'
          | _ => exact this) e3'
        subst ek
        obtain ⟨x6, I6⟩ := g3 _ _ (PR.put hv kk g2)
        exact ⟨a, _, rfl, DPut.k g1 (by rw [PR.lengthK g2]; exact q5.1), l.1 σ κ5 _ _ (x15.trans x6) I6 q5.2⟩
end
end Pu
set_option maxRecDepth 100000
set_option maxHeartbeats 4000000
namespace PuE
open PySem PySem.Spec PyProof.Rows L2 HT
end PuE
namespace Pu
open PySem L2
section
variable {Γ Γ' : Gm} {κ κ' : Ka} {H H' : Hp} {env env' : En} {σ : Sl} {v : V} {st : Sto} {Y : Fam} {a b e o : Expr} {es : List Expr} {ta tb te to ti : PTE} {pos : Pos}
def pBack (d : D) (Q : R → Prop) : Prop := match d with
  | .lst ds => Q (.own ds.reverse)
  | .tup ds => Q (.d (.tup ds.reverse))
  | .str s => Q (.d (.str s.reverse))
  | _ => False
/-- a statement that is never reached -/
def sNever : PTS := fun _ _ _ => False
theorem vs_never {s : Stmt} : VS Y s sNever := ⟨⟨fun _ _ _ _ => False, fun _ => ⟨fun _ _ _ _ _ _ h => h.elim⟩, fun _ _ _ _ _ _ _ _ _ q _ => q⟩⟩
end
end Pu
set_option maxRecDepth 100000
set_option maxHeartbeats 4000000
namespace Pu
open PySem L2
section
variable {Γ Γ' : Gm} {κ κ' : Ka} {H H' : Hp} {env env' : En} {σ : Sl} {v : V} {st : Sto} {Y : Fam} {a b e o i o2 i2 : Expr} {es : List Expr} {ta tb te to ti to2 ti2 : PTE} {pos : Pos}
def subA (to ti : PTE) (dv : D) (x : PX) (e : En) (Q : En → Prop) : Prop := to x e fun ro e3 => hold ro e3 fun ro e3 => ti x e3 fun ri e4 => match rv ri e4 with
  | some (.int i) => setAt ro dv i e4 Q
  | _ => False
def sSwIx (te to ti to2 ti2 : PTE) : PTS := fun x P e => te x e fun r0 e1 => fz r0 e1 fun dv e2 => match dv with
  | .tup [d1, d2] => subA to ti d1 x e2 fun e3 => subA to2 ti2 d2 x e3 P.nx
  | _ => False
end
end Pu
set_option maxRecDepth 100000
set_option maxHeartbeats 4000000
namespace PuE
open PySem PySem.Spec PyProof.Rows L2 SrtO
abbrev Itm := Int ⊕ List Nat
abbrev ltN (a b : List Itm) : Bool := (listOrd itemOrd).blt a b
/-- a tuple of such items in the heap -/
def IsTupS (h : Heap) (shape : Nat → Bool) (v : Value) (l : List Itm) : Prop := ∃ a o xs n, v = .ref a ∧ h.get? a = some o ∧ o.cls = .type "tuple" ∧ o.data = .seq xs n ∧ tupItems shape 0 xs.toList = some l ∧ l ≠ []
theorem IsTupS.keeps {h h' : Heap} {shape : Nat → Bool} {v : Value} {l : List Itm} (x : IsTupS h shape v l) (k : ∀ b o, h.get? b = some o → o.cls = .type "tuple" → h'.get? b = some o) : IsTupS h' shape v l := by
  obtain ⟨a, o, xs, n, e, ho, hc, r⟩ := x
  exact ⟨a, o, xs, n, e, k a o ho hc, hc, r⟩
def isS : Itm → Bool
  | .inl _ => false
  | .inr _ => true
end PuE
namespace Pu
open PySem L2 PySem.Spec PyProof.Rows PuE
def itD : Itm → D
  | .inl i => .int i
  | .inr l => .str l
def itsD : List D → Option (List Itm)
  | [] => some []
  | .int i :: ds => (itsD ds).map (Sum.inl i :: ·)
  | .str l :: ds => (itsD ds).map (Sum.inr l :: ·)
  | _ => none
def tsD : List D → Option (List (List Itm))
  | [] => some []
  | .tup xs :: ds => match itsD xs, tsD ds with
    | some l, some r => some (l :: r)
    | _, _ => none
  | _ => none
def trD (l : List Itm) : D := .tup (l.map itD)
/-- sorted(list or tuple of such tuples) -/
def pSortN : List D → (R → Prop) → Prop
  | [d], Q => match d.seqs with
    | some ds => match tsD ds with
      | some ls => ∃ sh : List Bool, sh ≠ [] ∧ (∀ l ∈ ls, l.map isS = sh) ∧ ∀ qs : List (List Itm), qs.Perm ls → qs.Pairwise (fun x y => ltN y x = false) → Q (.own (qs.map trD))
      | none => False
    | none => False
  | _, _ => False
end Pu
set_option maxRecDepth 100000
set_option maxHeartbeats 4000000
namespace PuE
open PySem PySem.Spec PyProof.Rows L2
end PuE
set_option maxRecDepth 100000
set_option maxHeartbeats 4000000
namespace Pu
open PySem L2 PuE
section
variable {α : Type} [DecidableEq α] {K : PySem.W.Frag} {cl : Cl} {κ : Ka} {H : Hp}
def getA (kvs : List (α × D)) (k : α) : Option D := (kvs.find? fun kv => decide (kv.1 = k)).map (·.2)
def setA (kvs : List (α × D)) (k : α) (d : D) : List (α × D) :=
  if (kvs.any fun kv => decide (kv.1 = k)) = true then kvs.map (fun kv => if kv.1 = k then (kv.1, d) else kv) else kvs ++ [(k, d)]
def mergeA (kvs more : List (α × D)) : List (α × D) := more.foldl (fun acc kv => setA acc kv.1 kv.2) kvs
end
section
variable {K : PySem.W.Frag} {cl : Cl} {Γ Γ' : Gm} {κ κ' : Ka} {H H' : Hp} {env env' : En} {σ : Sl} {v : V} {st : Sto} {Y : Fam} {a b c e o i : Expr} {es : List Expr} {ta tb tc te to ti : PTE} {pos : Pos}
def keyL : List D → Option (List Key)
  | [] => some []
  | d :: ds => match keyD d with
    | some k => match keyL ds with
      | some ks => some (k :: ks)
      | none => none
    | none => none
/-- a tuple's key -/
def tupK : D → Option (List Key)
  | .tup ds => keyL ds
  | _ => none
def tget : R → En → Option (List (List Key × D))
  | .nam i, e => match e.sl[i]? with
    | some (.dT ds) => some ds
    | _ => none
  | .d (.ref k), e => match e.st[k]? with
    | some (.dT ds) => some ds
    | _ => none
  | _, _ => none
def tset : R → En → List (List Key × D) → En
  | .nam i, e, ds => e.setC i (.dT ds)
  | .d (.ref k), e, ds => ⟨e.sl, e.st.set k (.dT ds)⟩
  | _, e, _ => e
def tgetR : R → En → Option (List (List Key × D))
  | .d (.dct ks ds), _ => some (ks.zip ds)
  | r, e => tget r e
/-- {}, to be filled by tuples -/
def tDictT0 : PTE := fun _ e Q => Q (.dT []) e
/-- d[k], k a tuple -/
def tDGT (to ti : PTE) : PTE := fun x e Q => to x e fun r e1 => hold r e1 fun r e1 => ti x e1 fun ri e2 => match tgetR r e2 with
  | some kvs => match rv ri e2 with
    | some kd => match tupK kd with
      | some k => match getA kvs k with
        | some d => Q (.d d) e2
        | none => False
      | none => False
    | none => False
  | none => False
/-- d[k] = v, k a tuple -/
def sDPtT (te to ti : PTE) : PTS := fun x P e => te x e fun r0 e1 => fz r0 e1 fun dv e2 => to x e2 fun ro e3 => hold ro e3 fun ro e3 => ti x e3 fun ri e4 => match tget ro e4 with
  | some kvs => match rv ri e4 with
    | some kd => match tupK kd with
      | some k => kvs.length < sizeLine ∧ P.nx (tset ro e4 (setA kvs k dv))
      | none => False
    | none => False
  | none => False
def tCallT (p : List (List Key × D) → (R → Prop) → Prop) (t : PTR) : PTE := fun x e Q => t x e fun rs e1 => match rs with
  | [r] => match tgetR r e1 with
    | some kvs => p kvs (fun r => Q r e1)
    | none => False
  | _ => False
/-- len(d) -/
def pLenT (kvs : List (List Key × D)) (Q : R → Prop) : Prop := Q (.d (.int kvs.length))
/-- list(d) -/
def invK : Key → D
  | .inl i => .int i
  | .inr s => .str s.cps.toList
def isIK : Key → Bool
  | .inl _ => true
  | .inr _ => false
def pListT (kvs : List (List Key × D)) (Q : R → Prop) : Prop := kvs.length ≤ sizeLine ∧ (∀ kv ∈ kvs, kv.1.length ≤ sizeLine ∧ kv.1.all isIK = true) ∧ Q (.own (kvs.map fun kv => .tup (kv.1.map invK)))
theorem IsKeys.len {H : Hp} {vs : List (List Key × V)} {bs : List Addr} (h : IsKeys H vs bs) : vs.length = bs.length := Paired.length h
def pairsT : List D → Option (List (List Key × D))
  | [] => some []
  | .tup [kd, v] :: r => match tupK kd with
    | some k => match pairsT r with
      | some kvs => some ((k, v) :: kvs)
      | none => none
    | none => none
  | _ => none
def pairsK : List D → Option (List (Key × D))
  | [] => some []
  | .tup [kd, v] :: r => match keyD kd with
    | some k => match pairsK r with
      | some kvs => some ((k, v) :: kvs)
      | none => none
    | none => none
  | _ => none
def pDictT : List D → (R → Prop) → Prop
  | [.lst ds], Q => match pairsT ds with
    | some kvs => Q (.dT (mergeA [] kvs))
    | none => False
  | _, _ => False
def pDictK : List D → (R → Prop) → Prop
  | [.lst ds], Q => match pairsK ds with
    | some kvs => Q (.dK (mergeA [] kvs))
    | none => False
  | _, _ => False
def tChn (g g' : Int → Int → Bool) (ta tb tc : PTE) : PTE := fun x e Q => ta x e fun r0 e1 => match rv r0 e1 with
  | some (.int i) => tb x e1 fun r1 e2 => match rv r1 e2 with
    | some (.int j) => if g i j = true then tc x e2 fun r2 e3 => match rv r2 e3 with
        | some (.int k) => Q (.d (.bl (g' j k))) e3
        | _ => False
      else Q (.d (.bl false)) e2
    | _ => False
  | _ => False
def pMMI (f : Int → List Int → Int) : List D → (R → Prop) → Prop
  | [d], Q => match intL d.items with
    | some (x :: r) => Q (.d (.int (f x r)))
    | _ => False
  | _, _ => False
end
end Pu
set_option maxRecDepth 100000
set_option maxHeartbeats 4000000
namespace PuE
open PySem PySem.Spec PyProof.Rows SS
/-- how many unlike ones of the first so many -/
def unl (xs : List Str) : Nat → Nat
  | 0 => 0
  | i + 1 => if (xs.take i).any (· == xs.getD i Str.empty) then unl xs i else unl xs i + 1
end PuE
namespace PuE
open PySem PySem.Spec PyProof.Rows L2
end PuE
namespace Pu
open PySem L2 PuE
section
variable {Γ Γ' : Gm} {κ κ' : Ka} {H H' : Hp} {env env' : En} {σ : Sl} {v : V} {st : Sto} {Y : Fam} {a b e : Expr} {es : List Expr} {ta tb te : PTE} {pos : Pos}
/-- how many unlike texts -/
def unlT (ls : List (List Nat)) : Nat := unl (ls.map fun l => (⟨l.toArray⟩ : Str)) ls.length
def pLenS (d : D) (Q : R → Prop) : Prop := match d with
  | .lst ds => match strL ds with
    | some ls => ls.length < 64 ∧ Q (.d (.int (unlT ls)))
    | none => False
  | _ => False
end
end Pu
set_option maxRecDepth 100000
set_option maxHeartbeats 4000000
namespace PuE
open PySem PySem.Spec PyProof.Rows L2
end PuE
namespace Pu
open PySem L2 PuE
section
variable {Γ Γ' : Gm} {κ κ' : Ka} {H H' : Hp} {env env' : En} {σ : Sl} {v : V} {st : Sto} {Y : Fam} {a b c d e : Expr} {es : List Expr} {ta tb tc td te : PTE} {pos : Pos}
def tChn3 (g1 g2 g3 : Int → Int → Bool) (ta tb tc td : PTE) : PTE := fun x e Q => ta x e fun r0 e1 => match rv r0 e1 with
  | some (.int i) => tb x e1 fun r1 e2 => match rv r1 e2 with
    | some (.int j) => if g1 i j = true then tc x e2 fun r2 e3 => match rv r2 e3 with
        | some (.int k) => if g2 j k = true then td x e3 fun r3 e4 => match rv r3 e4 with
            | some (.int l) => Q (.d (.bl (g3 k l))) e4
            | _ => False
          else Q (.d (.bl false)) e3
        | _ => False
      else Q (.d (.bl false)) e2
    | _ => False
  | _ => False
end
end Pu
set_option maxRecDepth 100000
set_option maxHeartbeats 4000000
namespace Pu
open PySem L2
section
variable {Γ Γ' : Gm} {κ κ' : Ka} {H H' : Hp} {env env' : En} {σ : Sl} {v : V} {st : Sto} {Y : Fam} {a b c d e : Expr} {es : List Expr} {ta tb tc td te : PTE} {pos : Pos}
def pLtT (d e : D) (Q : R → Prop) : Prop := match d, e with
  | .tup xs, .tup ys => match intL xs, intL ys with
    | some ns, some ms => Q (.d (.bl (HT.lexLt ns ms)))
    | _, _ => False
  | _, _ => False
end
end Pu
set_option maxRecDepth 100000
set_option maxHeartbeats 4000000
namespace Pu
open PySem PySem.Spec PyProof.Rows L2 PuE
mutual
/-- the value v is the key k -/
inductive NV (H : Hp) : NestedKey → V → Prop
  | int (i : Int) : NV H (.num i) (.int i)
  | text (x : Str) : NV H (.text x) (.str x)
  | tup {a : Addr} {ks : List NestedKey} {vs : List V} : Rd H a (.tup vs) → NVs H ks vs → NV H (.tup ks) (.ref a)
inductive NVs (H : Hp) : List NestedKey → List V → Prop
  | nil : NVs H [] []
  | cons {k : NestedKey} {v : V} {ks : List NestedKey} {vs : List V} : NV H k v → NVs H ks vs → NVs H (k :: ks) (v :: vs)
end
section
variable {K : PySem.W.Frag} {cl : Cl} {κ : Ka} {H : Hp}
mutual
theorem NV.of : ∀ (d : D) (v : V) (k : NestedKey), Rep K cl κ H v d → nkD d = some k → NV H k v
  | .int i, _, _, h, e => by cases h; cases e; exact .int i
  | .str s, _, _, h, e => by cases h; cases e; exact .text _
  | .tup ds, _, k, h, e => by
    unfold nkD at e
    cases e1 : nkL ds with
    | none => rw [e1] at e; cases e
    | some ks =>
      rw [e1] at e
      cases e
      cases h with
      | tup _ h0 h1 h2 h3 => exact .tup (.inl h1) (NVs.of ds _ _ h3 e1)
      | tupF _ _ _ h0 h1 h2 h3 => exact .tup (.inr ⟨_, h1⟩) (NVs.of ds _ _ h3 e1)
  | .non, _, _, _, e => by cases e
  | .bl _, _, _, _, e => by cases e
  | .lst _, _, _, _, e => by cases e
  | .scr _, _, _, _, e => by cases e
  | .box, _, _, _, e => by cases e
  | .ref _, _, _, _, e => by cases e
  | .cls _, _, _, _, e => by cases e
  | .exc .., _, _, _, e => by cases e
  | .dct .., _, _, _, e => by cases e
  | .dck .., _, _, _, e => by cases e
  | .dcn .., _, _, _, e => by cases e
theorem NVs.of : ∀ (ds : List D) (vs : List V) (ks : List NestedKey), RepL K cl κ H vs ds → nkL ds = some ks → NVs H ks vs
  | [], _, _, h, e => by cases h; cases e; exact .nil
  | d :: ds, _, ks, h, e => by
    cases h with
    | cons h1 h2 =>
      unfold nkL at e
      cases e1 : nkD d with
      | none => rw [e1] at e; cases e
      | some k =>
        rw [e1] at e
        cases e2 : nkL ds with
        | none => rw [e2] at e; cases e
        | some kr =>
          rw [e2] at e
          cases e
          exact .cons (NV.of d _ _ h1 e1) (NVs.of ds _ _ h2 e2)
end
end
section
variable {X : Cx}
theorem NVs.get {H : Hp} : ∀ {ks : List NestedKey} {vs : List V} {j : Nat} {k : NestedKey}, NVs H ks vs → ks[j]? = some k → ∃ v, vs[j]? = some v ∧ NV H k v
  | [], _, _, _, _, e => by simp at e
  | k :: ks, _, 0, k', h, e => by
    cases h with
    | cons h1 h2 => cases e; exact ⟨_, rfl, h1⟩
  | k :: ks, _, j + 1, k', h, e => by
    cases h with
    | cons h1 h2 =>
      obtain ⟨v, g1, g2⟩ := NVs.get (j := j) h2 (by simpa using e)
      exact ⟨v, by simpa using g1, g2⟩
end
section
variable {Γ Γ' : Gm} {κ κ' : Ka} {H H' : Hp} {env env' : En} {σ : Sl} {v : V} {st : Sto} {Y : Fam} {a b c e o i : Expr} {es : List Expr} {ta tb tc te to ti : PTE} {pos : Pos}
def pairsN : List D → Option (List (NestedKey × D × Int))
  | [] => some []
  | .tup [kd, .int v] :: r => match nkD kd with
    | some k => match pairsN r with
      | some kvs => some ((k, kd, v) :: kvs)
      | none => none
    | none => none
  | _ => none
def pDictN : List D → (R → Prop) → Prop
  | [.lst ds], Q => match pairsN ds with
    | some kvs => (kvs.map (·.1)).Nodup ∧ (∀ p ∈ kvs, p.1.depth ≤ 8 ∧ ∃ ds, p.2.1 = .tup ds) ∧ Q (.d (.dcn (kvs.map (·.2.1)) (kvs.map (·.2.2))))
    | none => False
  | _, _ => False
/-- the number of a key -/
def getN (ks : List D) (is : List Int) (kd : D) : Option Int := match nkD kd with
  | some k => match nkL ks with
    | some nks => ((nks.zip is).find? fun p => decide (p.1 = k)).map (·.2)
    | none => none
  | none => none
def pGN (d kd : D) (Q : R → Prop) : Prop := match d with
  | .dcn ks is => match getN ks is kd with
    | some i => Q (.d (.int i))
    | none => False
  | _ => False
/-- a, b, .. = a list of that length -/
def gLs (n : Nat) (t : PTGs) : PTG := fun d e Q => match d with
  | .lst ds => ds.length = n ∧ t ds e Q
  | _ => False
theorem vg_ls {k : Nat} {vs : List Nat} {n : Nat} {t : PTGs} (h : VGs Y es vs t) (hc : ∀ i, (Y.X i).calm = true := by intro _; rfl) (hn : ∀ X : Cx, (assignEach es X.env).length = n := by intro _; rfl) (hst : ∀ X : Cx, (assignEach es X.env).findIdx? (·.1) = none := by intro _; rfl) : VG Y (.Tuple es k pos) vs (gLs n t) := by
  obtain ⟨ra, pa, fa⟩ := h.ex
  refine ⟨⟨L2.gLst Y.K n ra, fun i => by have := pg_lst (pos := pos) (k := k) (hc i) (pa i) (hn _) (hst _); rw [Y.hK i] at this; exact this, fun Γ σ κ H env v d Q Q' hK I r q k => ?_⟩⟩
  cases d with
  | lst ds =>
    cases r with
    | lst h0 h1 h2 h3 => exact ⟨_, _, rfl, by rw [← hK.k]; exact SqL.of h1, h3.length.trans q.1, fa Γ σ κ H env _ ds Q Q' hK I h3 q.2 k⟩
  | _ => exact False.elim q
end
end Pu
set_option maxRecDepth 100000
set_option maxHeartbeats 4000000
namespace Pu
open PySem PySem.Spec PyProof.Rows L2 PuE
section
variable {Γ Γ' : Gm} {κ κ' : Ka} {H H' : Hp} {Y : Fam} {e : Expr} {te : PTE} {pos : Pos}
def iRevT (te : PTE) : PTI := fun x e Q => te x e fun r e1 => fz r e1 fun d e2 => match d with
  | .tup ds => Q ds.reverse e2
  | _ => False
end
end Pu
set_option maxRecDepth 100000
set_option maxHeartbeats 4000000
namespace Pu
open PySem L2 PuE
section
variable {Γ Γ' : Gm} {κ κ' : Ka} {H H' : Hp} {env env' : En} {σ : Sl} {v : V} {st : Sto} {Y : Fam} {a b c d e : Expr} {es : List Expr} {ta tb tc td te : PTE} {pos : Pos}
def tChS (g g' : List Nat → List Nat → Bool) (ta tb tc : PTE) : PTE := fun x e Q => ta x e fun r0 e1 => match rv r0 e1 with
  | some (.str i) => tb x e1 fun r1 e2 => match rv r1 e2 with
    | some (.str j) => if g i j = true then tc x e2 fun r2 e3 => match rv r2 e3 with
        | some (.str k) => Q (.d (.bl (g' j k))) e3
        | _ => False
      else Q (.d (.bl false)) e2
    | _ => False
  | _ => False
end
end Pu
set_option maxRecDepth 100000
set_option maxHeartbeats 4000000
namespace Pu
open PySem L2 PuE
end Pu
set_option maxRecDepth 100000
set_option maxHeartbeats 4000000
namespace PuE
open PySem PySem.Spec PyProof.Rows L2 RT PySem.W
theorem nolen_rv : typeLookup (.type "reversed") "__len__" = pure none := by rw [typeLookup_type, builtinLookup_eq_fast]; kernel_rfl
theorem hint_rv_look : typeLookup (.type "reversed") "__length_hint__" = pure (some (.builtin "reversed.__length_hint__")) := by rw [typeLookup_type, builtinLookup_eq_fast]; kernel_rfl
theorem sub_rv : isSubtype (.type "reversed") (.type "reversed") = pure true := by rw [isSubtype_type]; kernel_rfl
theorem e_rvh : entryFor table "reversed.__length_hint__" = some Builtin.«reversed.__length_hint__» := by first | rfl | kernel_rfl
theorem a_rvh (a : Value) : argsOk "reversed.__length_hint__" { pos := [a] } := by first | rfl | (unfold argsOk; kernel_rfl)
theorem b_rvh (self : Value) : bindSpecial (Value.builtin "reversed.__length_hint__") self = pure (Value.builtin "reversed.__length_hint__", [self]) := by
  unfold bindSpecial
  first | rfl | kernel_rfl
theorem k_rvh : builtinKind "reversed.__length_hint__" = some .method := by first | rfl | kernel_rfl
theorem s_rvh : splitId "reversed.__length_hint__" = some ("reversed", "__length_hint__") := by decide +kernel
theorem slot_rvh : Slot "reversed" "__length_hint__" "reversed.__length_hint__" := by
  refine ⟨hint_rv_look, b_rvh, fun M A E s self rest kw Q hT ha h => ?_, by decide +kernel⟩
  unfold checkBuiltinCall
  rw [k_rvh, s_rvh]
  dsimp only
  refine wpAny_bind (wpAny_isInstance (T := "reversed") (b := true) hT sub_rv ?_)
  rw [if_neg (by decide)]
  exact wpAny_of_eq ha h
section
variable {prog : Program} {w : World} {A : Around} {E : Value → Shared → Prop} {s : Shared}
theorem hint_rv {it : Addr} {x : Str} {t : Tok} {i : Int} {Q : Bool → Shared → Prop} (hit : IsRs s.heap it x t i) (hz : x.length ≤ sizeLine) (hi : i < x.length) (hi0 : -1 ≤ i) (h : ∀ b tk, Q b { s with toks := tk }) : wpAny (model prog w) A (Builtin.List.listLengthHint (.ref it)) Q E s := by
  have hT := hit.typeIs
  rw [sizeLine_eq] at hz
  have hx : ¬ (x.length : Int) ≥ 2 ^ 63 := by omega
  unfold Builtin.List.listLengthHint
  refine wpAny_bind (wpAny_specialOf hT nolen_rv ?_)
  try dsimp only
  rw [if_neg (by decide +kernel)]
  try dsimp only
  rw [if_neg (by decide +kernel)]
  try dsimp only
  refine wpAny_bind (wpAny_specialOf hT hint_rv_look ?_)
  try dsimp only
  rw [show splitId "reversed.__length_hint__" = some ("reversed", "__length_hint__") from by decide +kernel]
  try dsimp only
  refine wpAny_bind (wpAny_isInstance (T := "reversed") (b := true) hT sub_rv ?_)
  refine wpAny_ite_split (fun hab => absurd hab (by decide)) (fun _ => ?_)
  rw [if_neg (by decide +kernel)]
  refine wpAny_bind (wpAny_rule ?_)
  rw [b_rvh]
  refine wpAny_bind (wpAny_pure ?_)
  try dsimp only
  refine wpAny_bind (wpAny_attempt (wpAny_call_entry slot_rvh hT e_rvh ?_ (a_rvh _)))
  obtain ⟨o, ho, hc, hd⟩ := id hit
  unfold Builtin.«reversed.__length_hint__»
  refine wpAny_bind (wpAny_of_eq (a := Value.ref it) rfl ?_)
  refine wpAny_bind (wpAny_field ho hd (x := .str x t) rfl ?_)
  rw [if_neg (show ¬ (Value.str x t == Value.none) = true from fun z => by cases z)]
  refine wpAny_bind (PyProof.Rows.len_str hx ?_)
  refine wpAny_bind (wpAny_of_eq (a := some ((x.length : Nat) : Int)) rfl ?_)
  dsimp only
  refine wpAny_bind (wpAny_field (s := { s with toks := s.toks + 1 + 1 }) ho hd (x := rawInt i) rfl ?_)
  show wpAny _ _ (if (x.length : Int) < i + 1 then _ else retInt (i + 1)) _ _ _
  rw [if_neg (by omega)]
  unfold retInt
  refine wpAny_bind (wpAny_mkInt ?_)
  refine wpAny_pure ⟨_, rfl, ?_⟩
  dsimp only
  refine wpAny_bind (wpAny_of_eq (a := some (i + 1)) rfl ?_)
  dsimp only
  have f1 : Builtin.List.listFitsIndex (i + 1) = true := by
    unfold Builtin.List.listFitsIndex
    simp
    omega
  rw [if_neg (by rw [f1]; decide), if_neg (by omega)]
  have f2 : Builtin.List.listTooLong (i + 1).toNat = false := by
    unfold Builtin.List.listTooLong
    have := sizeLine_eq
    simp
    omega
  rw [if_neg (by rw [f2]; decide)]
  exact wpAny_pure (h _ _)
/-- a text's sign from its end -/
def SignRv (x : Str) (i : Nat) (v : Value) : Prop := ∃ c u, x.cps[x.length - 1 - i]? = some c ∧ v = .str ⟨#[c]⟩ u
theorem walks_rv {it : Addr} {x : Str} {t : Tok} (hh : A.handled = none) (hz : x.length ≤ sizeLine) : Walks prog w A it [it] [it] x.cps.size (SignRv x) (fun i h => i ≤ x.length ∧ IsRs h it x t ((x.length : Int) - 1 - (i : Nat))) where
  sub := fun b hb => hb
  frame := fun i h h' st k => ⟨st.1, st.2.at fun o e => k it (by simp) o e⟩
  item := fun i s Q E hi st hQ => by
    obtain ⟨hle, hit⟩ := st
    have hi : i < x.length := hi
    have e1 : (x.length : Int) - 1 - ((i : Nat) : Int) = ((x.length - 1 - i : Nat) : Int) := by omega
    rw [e1] at hit
    have hlt : x.length - 1 - i < x.cps.size := by show _ < x.length; omega
    refine next_rs_item hit (c := x.cps[x.length - 1 - i]) (Array.getElem?_eq_getElem hlt) hz fun h' u tk st' sb => ?_
    have e2 : ((x.length - 1 - i : Nat) : Int) - 1 = (x.length : Int) - 1 - ((i + 1 : Nat) : Int) := by omega
    rw [e2] at st'
    exact hQ _ _ _ ⟨_, u, Array.getElem?_eq_getElem hlt, rfl⟩ ⟨hi, st'⟩ fun b o hb e => (sb.2 b (by simpa using hb)).trans e
  done := fun s Q E st hQ => by
    obtain ⟨hle, hit⟩ := st
    have e1 : (x.length : Int) - 1 - ((x.cps.size : Nat) : Int) = -1 := by show (x.length : Int) - 1 - (x.length : Int) = -1; omega
    rw [e1] at hit
    exact next_rs_end hh hit fun h' eb => hQ h' s.toks fun b o hb e => eb b o (by simpa using hb) e
  self := fun i s Q E st h => iter_rs st.2 h
theorem kr_extend {R : Result → Shared → Prop} {it : Addr} {x : Str} {t : Tok} (hh : A.handled = none) (S : Addr) (res : Value) (c₀ : Nat) (hS : s.heap.get? S = some { cls := .type "list", data := .seq #[] c₀ }) (hit : IsRs s.heap it x t ((x.length : Int) - 1))
    (hR : ∀ h' tk acc' c', (∀ b o, b ≠ S → b ≠ it → s.heap.get? b = some o → h'.get? b = some o) → h'.get? S = some { cls := .type "list", dict := none, data := .seq acc' c', slots := #[] } → ItemsOf (SignRv x) acc' x.cps.size → R (.ok (.ret res)) { s with heap := h', toks := tk }) (hn : x.cps.size ≤ sizeLine) :
    wpAny (model prog w) A.in1 (Builtin.List.listExtendWith (.ref S) (.ref it) res)
      (fun fin s' => match fin with | .done f => R (.ok f) s' | .again c' => c'.quiet = true ∧ codeAny (model prog w) A c' R s') (fun e s' => R (.error e) s') s := by
  have hne : S ≠ it := fun z => by
    obtain ⟨o, ho, hc, _⟩ := id hit
    rw [← z, hS] at ho
    have e := Option.some.inj ho
    rw [← e] at hc
    have : ("list" : String) = "reversed" := by injection hc
    exact absurd this (by decide)
  have hSf : S ∉ [it] := by simpa using hne
  unfold Builtin.List.listExtendWith
  refine wpAny_bind (wpAny_typeOf (T := "reversed") hit.typeIs ?_)
  have h1 : Builtin.List.listSameRef (.ref S) (.ref it) = false := by simp [Builtin.List.listSameRef, hne]
  rw [if_neg (by rw [h1]; decide)]
  refine wpAny_bind (iter_rs hit ?_)
  have W := walks_rv (prog := prog) (w := w) (A := A.in1) (it := it) (x := x) (t := t) hh hn
  refine wpAny_bind (wpAny_holding (hint_rv hit hn (by omega) (by omega) fun bb tk0 => ?_))
  have key : ∀ (h : Heap) (c₁ tk : Nat), IsRs h it x t ((x.length : Int) - 1) → (∀ b o, b ≠ S → s.heap.get? b = some o → h.get? b = some o) →
      h.get? S = some { cls := .type "list", data := .seq #[] c₁ } → codeAny (model prog w) A (.builtin "list.extend.loop" ⟨[.ref S, .ref it, res], []⟩) R { s with heap := h, toks := tk } := by
    intro h c₁ tk hst hk hS₁
    refine codeAny_extend_loopS W.toS hn S hSf res x.cps.size 0 _ #[] c₁ rfl (Nat.zero_le _) ⟨Nat.zero_le _, by rw [show ((x.length : Int) - 1 - ((0 : Nat) : Int)) = (x.length : Int) - 1 from by omega]; exact hst⟩ hS₁ (ItemsOf.nil _) fun s' acc' c' hm hS' hacc => ?_
    rw [Moved.eq_with hm]
    refine hR s'.heap s'.toks acc' c' (fun b o hb hb2 e => hm.heap b o (fun hmem => ?_) (hk b o hb e)) hS' hacc
    rcases List.mem_cons.mp hmem with e' | hmem
    · exact hb e'
    · exact hb2 (List.mem_singleton.mp hmem)
  refine wpAny_ite_split (fun _ => ?_) (fun _ => wpAny_pure ⟨plainId_quiet PySem.F.plain_extend_loop _, key _ c₀ _ hit (fun b o _ e => e) hS⟩)
  refine wpAny_bind (wpAny_rule ?_)
  refine wpAny_bind ?_
  show wpAny _ _ (updateSeq S (·.push .none) >>= fun _ => updateSeq S (·.pop)) _ _ _
  refine wpAny_bind (wpAny_updateSeq (s := { s with toks := tk0 }) hS rfl ?_)
  have hS₂ := Heap.get?_update_self (Obj.mapSeq (·.push Value.none)) hS rfl
  refine wpAny_updateSeq (s := { s with heap := s.heap.update S (Obj.mapSeq (·.push Value.none)), toks := tk0 }) (hz := by seq_fits) hS₂ rfl ?_
  have hS₃ := Heap.get?_update_self (Obj.mapSeq (·.pop)) hS₂ rfl
  refine wpAny_pure ⟨plainId_quiet PySem.F.plain_extend_loop _, key _ _ _ ?_ (fun b o hb e => ?_) hS₃⟩
  · exact hit.at fun o e => (Heap.get?_update_other _ _ hne).trans ((Heap.get?_update_other _ _ hne).trans e)
  · exact (Heap.get?_update_other _ _ (Ne.symm hb)).trans ((Heap.get?_update_other _ _ (Ne.symm hb)).trans e)
theorem rv_values {x : Str} {acc : Array Value} (h : ItemsOf (SignRv x) acc x.cps.size) : ∃ l, strValues l = acc.toList ∧ l.map (·.1) = x.cps.toList.reverse.map fun c => (⟨#[c]⟩ : Str) := by
  obtain ⟨l, hl⟩ := exists_strValues acc.toList fun v hv => by
    obtain ⟨j, hj, e⟩ := List.mem_iff_getElem.mp hv
    obtain ⟨c, u, _, e2⟩ := h.2 j v (by rw [← Array.getElem?_toList, List.getElem?_eq_getElem hj, e])
    exact ⟨_, u, e2⟩
  refine ⟨l, hl, ?_⟩
  have ll : l.length = x.cps.size := by
    have := congrArg List.length hl
    unfold strValues at this
    rw [List.length_map] at this
    rw [this, Array.length_toList]
    exact h.1
  refine List.ext_getElem? fun j => ?_
  rw [List.getElem?_map, List.getElem?_map]
  rcases Nat.lt_or_ge j l.length with q | q
  · have e1 : acc.toList[j]? = some (.str l[j].1 l[j].2) := by
      rw [← hl]
      unfold strValues
      rw [List.getElem?_map, List.getElem?_eq_getElem q]
      rfl
    obtain ⟨c, u, e2, e3⟩ := h.2 j _ (by rw [← Array.getElem?_toList, e1])
    have e4 : l[j].1 = ⟨#[c]⟩ := by injection e3
    rw [List.getElem?_eq_getElem q, List.getElem?_reverse (by rw [Array.length_toList]; omega), Array.length_toList, Array.getElem?_toList]
    have e2 : x.cps[x.cps.size - 1 - j]? = some c := e2
    rw [e2]
    show some l[j].1 = some _
    rw [e4]
  · rw [List.getElem?_eq_none (by omega), List.getElem?_eq_none (by rw [List.length_reverse, Array.length_toList]; omega)]
    rfl
end
end PuE
namespace Pu
open PySem L2 PuE
end Pu
set_option maxRecDepth 100000
set_option maxHeartbeats 4000000
namespace PuE
open PySem PySem.Spec PyProof.Rows L2 RT PySem.W
end PuE
namespace Pu
open PySem L2 PuE
end Pu
set_option maxRecDepth 100000
set_option maxHeartbeats 4000000
namespace PuE
open PySem PySem.Spec PyProof.Rows L2
end PuE
namespace Pu
open PySem L2 PuE
end Pu
set_option maxRecDepth 100000
set_option maxHeartbeats 4000000
namespace Pu
open PySem L2 PuE
end Pu
set_option maxRecDepth 100000
set_option maxHeartbeats 1000000
namespace PuE
open PySem PySem.Spec PyProof.Rows L2
end PuE
namespace Pu
open PySem L2 PySem.Spec PyProof.Rows PuE
end Pu
set_option maxRecDepth 100000
set_option maxHeartbeats 4000000
namespace PuE
open PySem PySem.Spec PyProof.Rows L2
end PuE
namespace Pu
open PySem L2 PuE
end Pu
set_option maxRecDepth 100000
set_option maxHeartbeats 4000000
namespace PuE
open PySem PySem.Spec PyProof.Rows L2
end PuE
namespace Pu
open PySem L2 PuE
section
variable {Γ Γ' : Gm} {κ κ' : Ka} {H H' : Hp} {env env' : En} {σ : Sl} {v : V} {st : Sto} {Y : Fam} {a b c d e : Expr} {es : List Expr} {ta tb tc td te : PTE} {pos : Pos}
def pLtN (d e : D) (Q : R → Prop) : Prop := match d, e with
  | .tup xs, .tup ys => match itsD xs, itsD ys with
    | some l, some m => l.map isS = m.map isS ∧ Q (.d (.bl (ltN l m)))
    | _, _ => False
  | _, _ => False
end
end Pu
set_option maxRecDepth 100000
set_option maxHeartbeats 4000000
namespace Pu
open PySem L2
end Pu
set_option maxRecDepth 100000
set_option maxHeartbeats 4000000
namespace Pu
open PySem L2
end Pu
set_option maxRecDepth 100000
set_option maxHeartbeats 4000000
namespace Pu
open PySem L2
end Pu
set_option maxRecDepth 100000
set_option maxHeartbeats 4000000
namespace Pu
open PySem L2 PySem.Spec PyProof.Rows
end Pu
set_option maxRecDepth 100000
set_option maxHeartbeats 4000000
namespace Pu
open PySem L2 PySem.Spec PyProof.Rows
section
variable {Γ Γ' : Gm} {κ κ' : Ka} {H H' : Hp} {env env' : En} {σ : Sl} {v : V} {st : Sto} {Y : Fam} {a b e : Expr} {es : List Expr} {ta tb te : PTE} {pos : Pos}
abbrev PMX := List D → Sto → (C → Sto → Prop) → PX → Prop
theorem Gh.same (g : Gh Γ κ st H) (hK : Γ'.K = Γ.K := by rfl) (hc : Γ'.cls = Γ.cls := by rfl) (h0 : Γ'.H0 = Γ.H0 := by rfl) (hk : Γ'.k0 = Γ.k0 := by rfl) : Gh Γ' κ st H :=
  ⟨by rw [hk]; exact g.sub, by rw [hk, h0]; exact g.new, g.trk, by rw [h0]; exact g.trk0, g.box, fun a k e => let ⟨so, h1, h2⟩ := g.obj a k e; ⟨so, h1, h2.switch hK hc⟩, g.inj, by rw [hk, h0]; exact g.base, by rw [hc]; exact g.tabs⟩
/-- a call of a def that may raise -/
def tCallX (m : PMX) (t : PTA) : PTE := fun x e Q => t x e fun ds e1 => m ds e1.st (fun c st' => Q c.toR ⟨e1.sl, st'⟩) x
def sRaise (c n : Nat) (t : PTA) : PTS := fun x D e => t x e fun ds e1 => ds.length = n ∧ x ⟨c, ds⟩ e1.st
/-- fl: the names of the fields; cb: which classes the clause takes; n: how many slots -/
def sTry (n i : Nat) (fl : Nat → List Str) (cb : Nat → Bool) (tb ts : PTS) : PTS := fun x D e => (e.sl.all fun c => !c.isOwn) = true ∧ i < n ∧
  tb (fun ex st => cb ex.c = true ∧ ts noX { nx := fun e' => D.nx (wipeE [i] e'), rt := D.rt, bk := fun e' => D.bk (wipeE [i] e'), ct := fun e' => D.ct (wipeE [i] e') } ⟨(List.replicate n C.un).set i (.d (.exc ex.c (fl ex.c) ex.ds)), st⟩) D e
theorem RelC.same {c : C} (hK : Γ'.K = Γ.K) (hc : Γ'.cls = Γ.cls) (h0 : ∀ a, Γ.H0 a = none → Γ'.H0 a = none) (h : RelC Γ κ H v c) : RelC Γ' κ H v c := by
  cases c with
  | un => exact h.elim
  | d d => show Rep Γ'.K Γ'.cls κ H v d; rw [hK, hc]; exact h
  | own ds => obtain ⟨a, e, h1⟩ := h; exact ⟨a, e, OwnC.switch hK hc (h0 a h1.facts.2.1) h1⟩
  | dK ds => obtain ⟨a, e, h1⟩ := h; exact ⟨a, e, OwnC.switch hK hc (h0 a h1.facts.2.1) h1⟩
  | dT ds => obtain ⟨a, e, h1⟩ := h; exact ⟨a, e, OwnC.switch hK hc (h0 a h1.facts.2.1) h1⟩
def tIsX (tb : Nat → Option Bool) (te : PTE) : PTE := fun x e Q => te x e fun r e1 => match rv r e1 with
  | some (.exc c _ _) => match tb c with
    | some b => Q (.d (.bl b)) e1
    | none => False
  | _ => False
/-- the class named by x2: one of the program, or a built-in one -/
def NmC (X : Cx) (x : Str) (c : V) (cv : Value) : Prop := (∃ C : Addr, c = .ref C ∧ cv = .ref C ∧ X.mg x = some (.ref C)) ∨ (∃ T, c = .ty T ∧ cv = .type T ∧ X.mg x = none ∧ bootBuiltins x = some (.type T) ∧ x ≠ "__name__")
theorem NmC.rel {X : Cx} {x : Str} {c : V} {cv : Value} (h : NmC X x c cv) : ∀ u, RelV c u → u = cv := by
  rcases h with ⟨C, rfl, rfl, _⟩ | ⟨T, rfl, rfl, _⟩
  · exact fun u r => r
  · exact fun u r => r
/-- names of classes -/
inductive NmCs (X : Cx) : List Expr → List V → List Value → Prop
  | nil : NmCs X [] [] []
  | cons {x : Str} {p : Pos} {es : List Expr} {c : V} {cv : Value} {cs : List V} {cvs : List Value} (hg : Gl X x) (hd : (x == ("__debug__" : Str)) = false) (h : NmC X x c cv) (hs : starEach (.Name x p :: es) X.env = (false, eval (.Name x p) X.env) :: starEach es X.env) (r : NmCs X es cs cvs) : NmCs X (.Name x p :: es) (c :: cs) (cv :: cvs)
theorem NmCs.rel {X : Cx} {es : List Expr} {cs : List V} {cvs : List Value} (h : NmCs X es cs cvs) : ∀ us, Vals cs us → us = cvs := by
  induction h with
  | nil => intro us r; cases r; rfl
  | cons hg hd h hs r ih =>
    intro us q
    cases q with
    | cons q1 q2 => rw [h.rel _ q1, ih _ q2]
/-- e.f -/
def xlk (n : Str) (ns : List Str) (ds : List D) : Option D := ((ns.zip ds).reverse).lookup n
def tXA (n : Str) (cb : Nat → Bool) (te : PTE) : PTE := fun x e Q => te x e fun r e1 => match rv r e1 with
  | some (.exc c ns ds) => cb c = true ∧ match xlk n ns ds with
    | some d => Q (.d d) e1
    | none => False
  | _ => False
theorem PR.zip {K : PySem.W.Frag} {cl : Cl} : ∀ {ns : List Str} {ds : List D} {vs : List V}, RepL K cl κ H vs ds → PR K cl κ H (ns.zip vs) (ns.zip ds)
  | [], _, _, _ => by simp only [List.zip_nil_left]; exact .nil
  | _ :: _, [], _, h => by cases h; exact .nil
  | _ :: ns, d :: ds, _, h => by cases h with | cons h1 h2 => exact .cons h1 (PR.zip h2)
theorem PR.app {α : Type} {K : PySem.W.Frag} {cl : Cl} : ∀ {ds es : List (α × D)} {vs ws : List (α × V)}, PR K cl κ H vs ds → PR K cl κ H ws es → PR K cl κ H (vs ++ ws) (ds ++ es)
  | [], _, _, _, h, g => by cases h; exact g
  | _ :: _, _, _, _, h, g => by cases h with | cons h1 h2 => exact .cons h1 (PR.app h2 g)
theorem PR.rev {α : Type} {K : PySem.W.Frag} {cl : Cl} : ∀ {ds : List (α × D)} {vs : List (α × V)}, PR K cl κ H vs ds → PR K cl κ H vs.reverse ds.reverse
  | [], _, h => by cases h; exact .nil
  | _ :: _, _, h => by
    cases h with
    | cons h1 h2 =>
      rw [List.reverse_cons, List.reverse_cons]
      exact (PR.rev h2).app (.cons h1 .nil)
theorem PR.lookup {K : PySem.W.Frag} {cl : Cl} {n : Str} {d : D} : ∀ {ds : List (Str × D)} {vs : List (Str × V)}, PR K cl κ H vs ds → ds.lookup n = some d → ∃ v, vs.lookup n = some v ∧ Rep K cl κ H v d
  | [], _, h, e => by simp at e
  | (m, y) :: ds, _, h, e => by
    cases h with
    | @cons _ v _ _ _ h1 h2 =>
      rw [List.lookup_cons] at e ⊢
      by_cases z : (n == m) = true
      · rw [z] at e ⊢
        cases e
        exact ⟨_, rfl, h1⟩
      · rw [Bool.eq_false_iff.mpr z] at e ⊢
        exact PR.lookup h2 e
end
end Pu
set_option maxRecDepth 100000
set_option maxHeartbeats 4000000
namespace Pu
open PySem L2 PySem.Spec PyProof.Rows
/-- tables by number -/
def tbl (bs : List Bool) : Nat → Option Bool := fun c => bs[c]?
def cbl (n : Nat) : Nat → Bool := fun c => decide (c < n)
end Pu
set_option maxRecDepth 100000
set_option maxHeartbeats 4000000
namespace Pu
open PySem L2 PySem.Spec PyProof.Rows
section
variable {Γ Γ' : Gm} {κ κ' : Ka} {H H' : Hp} {env env' : En} {σ : Sl} {v : V} {st : Sto} {Y : Fam} {a b e : Expr} {es : List Expr} {ta tb te : PTE} {pos : Pos}
/-- C(e, ..) as a value -/
def tMkX (c : Nat) (ns : List Str) (t : PTA) : PTE := fun x e Q => t x e fun ds e1 => ds.length = ns.length ∧ Q (.d (.exc c ns ds)) e1
def tMk0 (c : Nat) : PTE := fun _ e Q => Q (.d (.exc c [] [])) e
def sRaise0 (c : Nat) : PTS := fun x D e => x ⟨c, []⟩ e.st
end
end Pu
set_option maxRecDepth 100000
set_option maxHeartbeats 4000000
namespace Pu
open PySem L2 PySem.Spec PyProof.Rows
section
variable {Γ Γ' : Gm} {κ κ' : Ka} {H H' : Hp} {env env' : En} {σ : Sl} {v : V} {st : Sto} {Y : Fam} {a b e : Expr} {es : List Expr} {ta tb te : PTE} {pos : Pos}
def sTry0 (n : Nat) (cb : Nat → Bool) (tb ts : PTS) : PTS := fun x D e => (e.sl.all fun c => !c.isOwn) = true ∧
  tb (fun ex st => cb ex.c = true ∧ ts noX D ⟨List.replicate n C.un, st⟩) D e
end
end Pu
set_option maxRecDepth 100000
set_option maxHeartbeats 4000000
namespace Pu
open PySem L2
theorem forR_inv {g : PTG} {tb : PTS} {x : PX} {P : PEn} (I : List D → En → Prop) (h : ∀ d r e, I (d :: r) e → ∀ N : En → Prop, (∀ e', I r e' → N e') → g d e fun e' => tb x { P with nx := N, ct := N, bk := P.nx } e') (hd : ∀ e, I [] e → P.nx e) :
    ∀ (ds : List D) (e : En), I ds e → forR g tb x P ds e
  | [], e, hi => hd e hi
  | d :: r, e, hi => h d r e hi (forR g tb x P r) fun e' hi' => forR_inv I h hd r e' hi'
/-- all related, one by one -/
inductive All2 {α β : Type} (R : α → β → Prop) : List α → List β → Prop
  | nil : All2 R [] []
  | cons {a : α} {b : β} {as : List α} {bs : List β} : R a b → All2 R as bs → All2 R (a :: as) (b :: bs)
theorem All2.length {α β : Type} {R : α → β → Prop} : ∀ {as : List α} {bs : List β}, All2 R as bs → bs.length = as.length
  | _, _, .nil => rfl
  | _, _, .cons _ h => by simp [h.length]
theorem lcR_rel {g : PTG} {te : PTE} {vs : List Nat} {e : En} {Q : List D → En → Prop} (R : D → D → Prop) :
    ∀ (ds acc : List D), (∀ d ∈ ds, ∀ K : D → En → Prop, (∀ y, R d y → K y e) → g d e fun e1 => te noX e1 fun r e3 => fz r e3 fun y e4 => K y (wipeE vs e4)) → (∀ ys, All2 R ds ys → Q (acc ++ ys) e) → lcR g cYes te vs ds acc e Q
  | [], acc, _, k => by have := k [] .nil; rw [List.append_nil] at this; exact this
  | d :: ds, acc, h, k => by
    refine h d (by simp) (fun y e' => lcR g cYes te vs ds (acc ++ [y]) e' Q) fun y r => ?_
    exact lcR_rel R ds (acc ++ [y]) (fun d' hd => h d' (List.mem_cons_of_mem _ hd)) fun ys hy => by
      have := k (y :: ys) (.cons r hy)
      rw [List.append_assoc]
      exact this
theorem lcR_map {g : PTG} {te : PTE} {vs : List Nat} {e : En} {Q : List D → En → Prop} (f : D → D) :
    ∀ (ds acc : List D), (∀ d ∈ ds, ∀ K : D → En → Prop, K (f d) e → g d e fun e1 => te noX e1 fun r e3 => fz r e3 fun y e4 => K y (wipeE vs e4)) → Q (acc ++ ds.map f) e → lcR g cYes te vs ds acc e Q
  | [], acc, _, k => by rw [List.map_nil, List.append_nil] at k; exact k
  | d :: ds, acc, h, k => by
    refine h d (by simp) (fun y e' => lcR g cYes te vs ds (acc ++ [y]) e' Q) ?_
    exact lcR_map f ds (acc ++ [f d]) (fun d' hd => h d' (List.mem_cons_of_mem _ hd)) (by rw [List.append_assoc]; exact k)
/-- with one test -/
theorem lcR_filter {g : PTG} {tt : PTT} {te : PTE} {vs : List Nat} {e : En} {Q : List D → En → Prop} (p : D → Bool) (f : D → D) :
    ∀ (ds acc : List D), (∀ d ∈ ds, ∀ K : Option D → En → Prop, K (if p d = true then some (f d) else none) e → g d e fun e1 => tt noX e1 fun b e2 => if b = true then te noX e2 fun r e3 => fz r e3 fun y e4 => K (some y) (wipeE vs e4) else K none (wipeE vs e2)) →
      Q (acc ++ (ds.filter p).map f) e → lcR g tt te vs ds acc e Q
  | [], acc, _, k => by rw [List.filter_nil, List.map_nil, List.append_nil] at k; exact k
  | d :: ds, acc, h, k => by
    refine h d (by simp) (fun o e' => match o with | some y => lcR g tt te vs ds (acc ++ [y]) e' Q | none => lcR g tt te vs ds acc e' Q) ?_
    by_cases hp : p d = true
    · rw [if_pos hp]
      refine lcR_filter p f ds (acc ++ [f d]) (fun d' hd => h d' (List.mem_cons_of_mem _ hd)) ?_
      rw [List.filter_cons_of_pos hp, List.map_cons] at k
      rw [List.append_assoc]
      exact k
    · rw [if_neg hp]
      refine lcR_filter p f ds acc (fun d' hd => h d' (List.mem_cons_of_mem _ hd)) ?_
      rw [List.filter_cons_of_neg hp] at k
      exact k
theorem rngI_length (lo : Int) (n : Nat) : (rngI lo n).length = n := by unfold rngI; simp
theorem rngI_mem {lo : Int} {n : Nat} {d : D} (h : d ∈ rngI lo n) : ∃ i : Nat, i < n ∧ d = .int (lo + i) := by
  unfold rngI at h
  obtain ⟨i, hi, rfl⟩ := List.mem_map.mp h
  exact ⟨i, List.mem_range.mp hi, rfl⟩
theorem rngI_succ (lo : Int) (n : Nat) : rngI lo (n + 1) = .int lo :: rngI (lo + 1) n := by
  unfold rngI
  rw [List.range_succ_eq_map, List.map_cons, List.map_map]
  congr 1
  · simp
  · apply List.map_congr_left
    intro i _
    simp only [Function.comp, D.int.injEq]
    omega
theorem line_eq : (sizeLine : Nat) = 16777216 := sizeLine_eq
theorem strL_map (r : List (List Nat)) : strL (r.map D.str) = some r := by
  induction r with
  | nil => rfl
  | cons x r ih => simp only [List.map_cons, strL, ih]
theorem joinN_nil (r : List (List Nat)) : joinN [] r = r.flatten := by
  induction r with
  | nil => rfl
  | cons x r ih =>
    cases r with
    | nil => simp [joinN]
    | cons y r => simp only [joinN, List.nil_append, ih, List.flatten_cons]
theorem joinN_signs (w : List Nat) : joinN [] (w.map fun c => [c]) = w := by
  rw [joinN_nil]
  induction w with
  | nil => rfl
  | cons c w ih => simp [ih]
end Pu
set_option maxRecDepth 100000
set_option maxHeartbeats 4000000
namespace Pu
open PySem L2 PySem.Spec PyProof.Rows
/-- the law's promise, at its script -/
def spLaw (K : PySem.W.Frag) : Sp := fun vs H Q _ => ∃ (a : Addr) (ns : List Int), vs = [.ref a] ∧ SqL K H a (ns.map V.int) ∧ ns.length ≤ 63 ∧ ∀ H', Q (.bl true) H'
theorem nofrz {k : Kd} {p : Prop} (e : k = .frz) (h : k ≠ .frz := by intro z; cases z) : p := absurd e h
theorem gh_start {K : PySem.W.Frag} {H : Hp} {κ : Ka} {cls : Cl} {flds : Nat → List Str} {E : XK} {x : PX} (h : ∀ a k, κ a = some k → k = .frz ∧ H a ≠ none) (h0 : cls.tabs = []) : Gh ⟨K, H, κ, cls, flds, E, x⟩ κ [] H :=
  ⟨fun _ _ e => e, fun _ _ e => .inl e, fun a k e => (h a k e).2, fun _ e => e, fun a e => nofrz (h a _ e).1, fun a k e => nofrz (h a _ e).1, fun a b k e _ => nofrz (h a _ e).1, fun a o e _ => e, ⟨fun t ht => (by rw [show cls.tabs = [] from h0] at ht; exact absurd ht List.not_mem_nil), fun a e => nofrz (h a _ e).1⟩⟩
theorem script_rep {K : PySem.W.Frag} {H : Hp} {a : Addr} {ns : List Int} {cls : Cl} (h : SqL K H a (ns.map V.int)) (hl : ns.length ≤ 63) : ∃ κ : Ka, (∀ a k, κ a = some k → k = .frz ∧ H a ≠ none) ∧ Rep K cls κ H (.ref a) (.scr ns.length) := by
  rcases h with h | h
  · refine ⟨fun b => if b = a then some .frz else none, fun b k e => ?_, .scr (.inl ⟨if_pos rfl, h⟩) rfl hl⟩
    have e : (if b = a then some Kd.frz else none) = some k := e
    by_cases hb : b = a
    · rw [if_pos hb] at e
      cases e
      subst hb
      refine ⟨rfl, fun z => ?_⟩
      rcases h with h | ⟨o, h⟩
      · rw [h] at z; cases z
      · rw [h] at z; cases z
    · rw [if_neg hb] at e; cases e
  · exact ⟨fun _ => none, fun a k e => (by cases e), .scr (.inr h) rfl hl⟩
theorem FnG.law {P : Program} {w : World} {K : PySem.W.Frag} {mg : Str → Option Value} {base : Heap} {ps : List Str} {f : Addr} {fd : FuncData} {k : Nat} {cls : Cl} {flds : Nat → List Str} {m : PM}
    (hm : ∀ n s Q, n ≤ 63 → Q (.d (.bl true)) s → m [.scr n] s Q) (F : FnG P w K mg base CX0 k f fd ps (sp0 K cls flds m)) (h0 : cls.tabs = [] := by rfl) : FnG P w K mg base CX0 k f fd ps (spLaw K) :=
  F.imp fun vs H Q E ⟨a, ns, e, hS, hl, q⟩ => by
    subst e
    obtain ⟨κ, hκ, hr⟩ := script_rep (cls := cls) hS hl
    refine ⟨κ, [.scr ns.length], [], fun c _ => c = .d (.bl true), gh_start hκ h0, .cons hr .nil, hm _ _ _ hl rfl, fun v κ' H' c st' g r e => ?_⟩
    subst e
    have r : Rep K cls κ' H' v (.bl true) := r
    cases r
    exact q H'
theorem walk {l : PySem.W.OpenLaw} {q : Program} {loose : List Str} {XP : (Str → Option Value) → Heap → Prop} {YP : World → Heap → Prop} {d : DefRec} {K : Params → PySem.W.Frag} {k : Nat} (hr : Room k callerA) (hn : l.most = some 63) (hdf : d.params.defaults = [])
    (hY : ∀ (w : World) (h : Heap), YP w h → (K w.params).In h)
    (F : ∀ (w : World) (mg : Str → Option Value) (fa : Addr) (h : Heap), (K w.params).In h → h.Ns mainGlobals mg → mg d.name = some (.ref fa) →
      ∃ fd : FuncData, (∀ (s : Shared) (u : Value), BindsTo s fd ⟨[u], []⟩ [("_law_script", u)]) ∧ ∀ base : Heap, (K w.params).In base → base.Ns mainGlobals mg → FnG l.prog w (K w.params) mg base CX0 k fa fd ["_law_script"] (spLaw (K w.params))) :
    PySem.W.WalkO q loose XP YP l.row.toRowW d [] (fun f vs => PySem.call f vs) :=
  walkG (sp := spLaw) hr hn hdf hY F fun _ _ a ns hl hS => ⟨a, ns, rfl, hS, hl, fun _ => rfl⟩
end Pu
set_option maxRecDepth 100000
set_option maxHeartbeats 4000000
namespace Pu
open PySem L2
/-- what rewriting shall not enter -/
def Tg {β : Type} (_ : β) : Type := Unit
structure HB (β : Type) : Type where
  b : β
  h : Tg b := ()
def opt {α : Type} (o : Option α) (h : HB (α → Prop)) : Prop := match o with
  | some a => h.b a
  | none => False
theorem opt_some {α : Type} (a : α) (f : α → Prop) : opt (some a) (HB.mk f ()) = f a := rfl
theorem opt_of {α : Type} {o : Option α} {a : α} {f : α → Prop} (h : o = some a) (q : f a) : opt o (HB.mk f ()) := by rw [h]; exact q
def br (b : Bool) (h : HB (Prop × Prop)) : Prop := if b = true then h.b.1 else h.b.2
theorem br_true (p q : Prop) : br true (HB.mk (p, q) ()) = p := rfl
theorem br_false (p q : Prop) : br false (HB.mk (p, q) ()) = q := rfl
theorem br_intro {b : Bool} {p q : Prop} (h1 : b = true → p) (h2 : b = false → q) : br b (HB.mk (p, q) ()) := by
  cases b
  · exact h2 rfl
  · exact h1 rfl
theorem br_pos {b : Bool} {p q : Prop} (h : b = true) (h1 : p) : br b (HB.mk (p, q) ()) := by rw [h]; exact h1
theorem br_neg {b : Bool} {p q : Prop} (h : b = false) (h1 : q) : br b (HB.mk (p, q) ()) := by rw [h]; exact h1
def nameC (c : C) (h : HB (Nat × En × (R → En → Prop))) : Prop := match c with
  | .un => False
  | .d d => h.b.2.2 (.d d) h.b.2.1
  | _ => h.b.2.2 (.nam h.b.1) h.b.2.1
theorem nameC_d {d i e Q} : nameC (.d d) (HB.mk (i, e, Q) ()) = Q (.d d) e := rfl
theorem nameC_own {d i e Q} : nameC (.own d) (HB.mk (i, e, Q) ()) = Q (.nam i) e := rfl
theorem nameC_dK {d i e Q} : nameC (.dK d) (HB.mk (i, e, Q) ()) = Q (.nam i) e := rfl
theorem nameC_dT {d i e Q} : nameC (.dT d) (HB.mk (i, e, Q) ()) = Q (.nam i) e := rfl
theorem x_name {i x e Q} : tName i x e Q = (opt e.sl[i]? <| HB.mk (fun c => nameC c (HB.mk (i, e, Q) ())) ()) := by
  unfold tName opt
  cases e.sl[i]? with
  | none => rfl
  | some c => cases c <;> rfl
def fzC (c : C) (h : HB (Nat × En × (D → En → Prop))) : Prop := match c with
  | .d d => h.b.2.2 d h.b.2.1
  | .own ds => h.b.2.2 (.lst ds) (h.b.2.1.setC h.b.1 (.d (.lst ds)))
  | .dK kvs => h.b.2.2 (.dck (kvs.map Prod.fst) (kvs.map Prod.snd)) (h.b.2.1.setC h.b.1 (.d (.dck (kvs.map Prod.fst) (kvs.map Prod.snd))))
  | .dT kvs => h.b.2.2 (.dct (kvs.map Prod.fst) (kvs.map Prod.snd)) (h.b.2.1.setC h.b.1 (.d (.dct (kvs.map Prod.fst) (kvs.map Prod.snd))))
  | _ => False
theorem fzC_d {d i e Q} : fzC (.d d) (HB.mk (i, e, Q) ()) = Q d e := rfl
theorem fzC_own {d i e Q} : fzC (.own d) (HB.mk (i, e, Q) ()) = Q (.lst d) (e.setC i (.d (.lst d))) := rfl
theorem fzC_dK {kvs i e Q} : fzC (.dK kvs) (HB.mk (i, e, Q) ()) = Q (.dck (kvs.map Prod.fst) (kvs.map Prod.snd)) (e.setC i (.d (.dck (kvs.map Prod.fst) (kvs.map Prod.snd)))) := rfl
theorem fzC_dT {kvs i e Q} : fzC (.dT kvs) (HB.mk (i, e, Q) ()) = Q (.dct (kvs.map Prod.fst) (kvs.map Prod.snd)) (e.setC i (.d (.dct (kvs.map Prod.fst) (kvs.map Prod.snd)))) := rfl
theorem x_fzn {i e Q} : fz (.nam i) e Q = (opt e.sl[i]? <| HB.mk (fun c => fzC c (HB.mk (i, e, Q) ())) ()) := by
  show (match e.sl[i]? with | some (.d d) => Q d e | some (.own ds) => Q (.lst ds) (e.setC i (.d (.lst ds))) | some (.dK kvs) => Q (.dck (kvs.map Prod.fst) (kvs.map Prod.snd)) (e.setC i (.d (.dck (kvs.map Prod.fst) (kvs.map Prod.snd)))) | some (.dT kvs) => Q (.dct (kvs.map Prod.fst) (kvs.map Prod.snd)) (e.setC i (.d (.dct (kvs.map Prod.fst) (kvs.map Prod.snd)))) | _ => False) = _
  unfold opt
  cases e.sl[i]? with
  | none => rfl
  | some c => cases c <;> rfl
theorem x_fzK {kvs e Q} : fz (.dK kvs) e Q = Q (.dck (kvs.map Prod.fst) (kvs.map Prod.snd)) e := rfl
theorem x_fzT {kvs e Q} : fz (.dT kvs) e Q = Q (.dct (kvs.map Prod.fst) (kvs.map Prod.snd)) e := rfl
theorem x_fzd {d e Q} : fz (.d d) e Q = Q d e := rfl
theorem x_fzo {d e Q} : fz (.own d) e Q = Q (.lst d) e := rfl
def rvC : Option C → Option D
  | some (.d d) => some d
  | some (.own ds) => some (.lst ds)
  | _ => none
theorem rvC_d {d} : rvC (some (.d d)) = some d := rfl
theorem rvC_own {d} : rvC (some (.own d)) = some (.lst d) := rfl
theorem x_rvn {i e} : rv (.nam i) e = rvC e.sl[i]? := by
  show (match e.sl[i]? with | some (.d d) => some d | some (.own ds) => some (.lst ds) | _ => none) = _
  unfold rvC
  cases e.sl[i]? with
  | none => rfl
  | some c => cases c <;> rfl
theorem x_rvd {d e} : rv (.d d) e = some d := rfl
theorem x_rvo {d e} : rv (.own d) e = some (.lst d) := rfl
def retC (c : C) (h : HB (PEn × En)) : Prop := match c with
  | .un => False
  | c => h.b.1.rt c h.b.2
theorem retC_d {D d e} : retC (.d d) (HB.mk (D, e) ()) = D.rt (.d d) e := rfl
theorem retC_own {D d e} : retC (.own d) (HB.mk (D, e) ()) = D.rt (.own d) e := rfl
theorem x_retn {D i e} : retR D (.nam i) e = (opt e.sl[i]? <| HB.mk (fun c => retC c (HB.mk (D, e) ())) ()) := by
  unfold retR opt
  simp only
  cases e.sl[i]? with
  | none => rfl
  | some c => cases c <;> rfl
theorem x_retd {D d e} : retR D (.d d) e = D.rt (.d d) e := rfl
theorem x_reto {D d e} : retR D (.own d) e = D.rt (.own d) e := rfl
theorem x_hd {d e Q} : hold (.d d) e Q = Q (.d d) e := rfl
theorem x_ho {d e Q} : hold (.own d) e Q = Q (.d (.lst d)) e := rfl
theorem x_hn {i e Q} : hold (.nam i) e Q = Q (.nam i) e := rfl
theorem x_ad {i d e Q} : asgR i (.d d) e Q = Q (e.setC i (.d d)) := rfl
theorem x_ao {i d e Q} : asgR i (.own d) e Q = Q (e.setC i (.own d)) := rfl
theorem x_an {i j e Q} : asgR i (.nam j) e Q = fz (.nam j) e fun d e1 => Q (e1.setC i (.d d)) := rfl
theorem x_set {l s i c} : En.setC ⟨l, s⟩ i c = ⟨l.set i c, s⟩ := rfl
/-- statements -/
theorem x_seq {t u x D e} : sSeq t u x D e = t x { D with nx := u x D } e := rfl
theorem x_next {x D e} : sNext x D e = D.nx e := rfl
theorem x_break {x D e} : sBreak x D e = D.bk e := rfl
theorem x_cont {x D e} : sCont x D e = D.ct e := rfl
theorem x_drop {t x D e} : sDrop t x D e = t x e fun _ e1 => D.nx e1 := rfl
theorem x_ret {t x D e} : sRet t x D e = t x e fun r e1 => retR D r e1 := rfl
theorem x_retN {x D e} : sRetN x D e = D.rt (.d .non) e := rfl
theorem x_if {c t u x D e} : sIf c t u x D e = c x e fun b e1 => br b (HB.mk ((t x D e1), (u x D e1)) ()) := rfl
theorem x_asg {i t x D e} : sAsg i t x D e = t x e fun r e1 => i < e1.sl.length ∧ asgR i r e1 D.nx := rfl
theorem x_asgG {g t x D e} : sAsgG g t x D e = t x e fun r e1 => fz r e1 fun d e2 => g d e2 D.nx := rfl
def forH (ds : List D) (e : En) (h : HB (PTG × PTS × PX × PEn)) : Prop := forR h.b.1 h.b.2.1 h.b.2.2.1 h.b.2.2.2 ds e
def whH (e : En) (h : HB (PTT × PTS × PX × PEn)) : Prop := sWhile h.b.1 h.b.2.1 h.b.2.2.1 h.b.2.2.2 e
theorem x_while {c tb x P e} : sWhile c tb x P e = whH e (HB.mk (c, tb, x, P) ()) := rfl
def lcH (ds : List D) (e : En) (h : HB (PTG × PTT × PTE × List Nat × (List D → En → Prop))) : Prop := lcR h.b.1 h.b.2.1 h.b.2.2.1 h.b.2.2.2.1 ds [] e h.b.2.2.2.2
theorem x_for {ti g tb x D e} : sFor ti g tb x D e = ti x e fun items e1 => forH items e1 (HB.mk (g, tb, x, D) ()) := rfl
/-- expressions -/
def k2c (o1 o2 : Option D) (e : En) (h : HB ((D → D → (R → Prop) → Prop) × (R → En → Prop))) : Prop := match o1, o2 with
  | some a, some b => h.b.1 a b fun r => h.b.2 r e
  | _, _ => False
def k2b (r1 r2 : R) (e : En) (h : HB ((D → D → (R → Prop) → Prop) × (R → En → Prop))) : Prop := k2c (rv r1 e) (rv r2 e) e h
def k2a (r : R) (e : En) (h : HB (PTE × PX × (D → D → (R → Prop) → Prop) × (R → En → Prop))) : Prop := hold r e fun r e => h.b.1 h.b.2.1 e fun r2 e2 => k2b r r2 e2 (HB.mk h.b.2.2 ())
theorem x_2 {ta tb p x e Q} : t2 ta tb p x e Q = ta x e fun r1 e1 => k2a r1 e1 (HB.mk (tb, x, p, Q) ()) := by
  unfold t2 k2a k2b k2c
  rfl
theorem x_k2ad {d tb p x e Q} : k2a (.d d) e (HB.mk (tb, x, p, Q) ()) = tb x e fun r2 e2 => k2b (.d d) r2 e2 (HB.mk (p, Q) ()) := rfl
theorem x_k2ao {d tb p x e Q} : k2a (.own d) e (HB.mk (tb, x, p, Q) ()) = tb x e fun r2 e2 => k2b (.d (.lst d)) r2 e2 (HB.mk (p, Q) ()) := rfl
theorem x_k2an {i tb p x e Q} : k2a (.nam i) e (HB.mk (tb, x, p, Q) ()) = tb x e fun r2 e2 => k2b (.nam i) r2 e2 (HB.mk (p, Q) ()) := rfl
theorem x_k2b {r1 r2 e h} : k2b r1 r2 e h = k2c (rv r1 e) (rv r2 e) e h := rfl
theorem x_k2c {a b e p Q} : k2c (some a) (some b) e (HB.mk (p, Q) ()) = p a b fun r => Q r e := rfl
def k1c (o : Option D) (e : En) (h : HB ((D → (R → Prop) → Prop) × (R → En → Prop))) : Prop := match o with
  | some a => h.b.1 a fun r => h.b.2 r e
  | _ => False
theorem x_1 {ta p x e Q} : t1 ta p x e Q = ta x e fun r1 e1 => k1c (rv r1 e1) e1 (HB.mk (p, Q) ()) := by
  unfold t1 k1c
  rfl
theorem x_k1c {a e p Q} : k1c (some a) e (HB.mk (p, Q) ()) = p a fun r => Q r e := rfl
theorem x_D {d x e Q} : tD d x e Q = Q (.d d) e := rfl
def bC (d : D) (h : HB (Bool → Prop)) : Prop := match d with
  | .bl b => h.b b
  | _ => False
theorem bC_b {b f} : bC (.bl b) (HB.mk f ()) = f b := rfl
def kBc (o : Option D) (e : En) (h : HB (Bool → En → Prop)) : Prop := match o with
  | some (.bl b) => h.b b e
  | _ => False
theorem x_B {t x e Q} : tB t x e Q = t x e fun r e1 => kBc (rv r e1) e1 (HB.mk Q ()) := by
  unfold tB kBc
  rfl
theorem x_kBc {b e Q} : kBc (some (.bl b)) e (HB.mk Q ()) = Q b e := rfl
def kAn (c : Bool) (e : En) (h : HB (PTT × PX × (Bool → En → Prop))) : Prop := br c (HB.mk ((h.b.1 h.b.2.1 e h.b.2.2), (h.b.2.2 false e)) ())
theorem x_and {t u x e Q} : tAnd t u x e Q = t x e fun c e1 => kAn c e1 (HB.mk (u, x, Q) ()) := rfl
theorem x_kAn {c u x e Q} : kAn c e (HB.mk (u, x, Q) ()) = br c (HB.mk ((u x e Q), (Q false e)) ()) := rfl
def kOr (c : Bool) (e : En) (h : HB (PTT × PX × (Bool → En → Prop))) : Prop := br c (HB.mk ((h.b.2.2 true e), (h.b.1 h.b.2.1 e h.b.2.2)) ())
theorem x_or {t u x e Q} : tOr t u x e Q = t x e fun c e1 => kOr c e1 (HB.mk (u, x, Q) ()) := rfl
theorem x_kOr {c u x e Q} : kOr c e (HB.mk (u, x, Q) ()) = br c (HB.mk ((Q true e), (u x e Q)) ()) := rfl
def kNo (c : Bool) (e : En) (h : HB (Bool → En → Prop)) : Prop := h.b (!c) e
theorem x_not {t x e Q} : tNot t x e Q = t x e fun c e1 => kNo c e1 (HB.mk Q ()) := rfl
theorem x_kNo {c e Q} : kNo c e (HB.mk Q ()) = Q (!c) e := rfl
def kAV (o : Option D) (e : En) (h : HB (PTE × PX × (R → En → Prop))) : Prop := match o with
  | some (.bl c) => br c (HB.mk ((h.b.1 h.b.2.1 e h.b.2.2), (h.b.2.2 (.d (.bl false)) e)) ())
  | _ => False
theorem x_andV {ta tb x e Q} : tAndV ta tb x e Q = ta x e fun r e1 => kAV (rv r e1) e1 (HB.mk (tb, x, Q) ()) := by
  unfold tAndV kAV br
  rfl
theorem x_kAV {c tb x e Q} : kAV (some (.bl c)) e (HB.mk (tb, x, Q) ()) = br c (HB.mk ((tb x e Q), (Q (.d (.bl false)) e)) ()) := rfl
def kOV (o : Option D) (e : En) (h : HB (PTE × PX × (R → En → Prop))) : Prop := match o with
  | some (.bl c) => br c (HB.mk ((h.b.2.2 (.d (.bl true)) e), (h.b.1 h.b.2.1 e h.b.2.2)) ())
  | _ => False
theorem x_orV {ta tb x e Q} : tOrV ta tb x e Q = ta x e fun r e1 => kOV (rv r e1) e1 (HB.mk (tb, x, Q) ()) := by
  unfold tOrV kOV br
  rfl
theorem x_kOV {c tb x e Q} : kOV (some (.bl c)) e (HB.mk (tb, x, Q) ()) = br c (HB.mk ((Q (.d (.bl true)) e), (tb x e Q)) ()) := rfl
def kNV (o : Option D) (e : En) (h : HB (R → En → Prop)) : Prop := match o with
  | some (.bl c) => h.b (.d (.bl (!c))) e
  | _ => False
theorem x_notV {ta x e Q} : tNotV ta x e Q = ta x e fun r e1 => kNV (rv r e1) e1 (HB.mk Q ()) := by
  unfold tNotV kNV
  rfl
theorem x_kNV {c e Q} : kNV (some (.bl c)) e (HB.mk Q ()) = Q (.d (.bl (!c))) e := rfl
theorem x_tif {t ta tb x e Q} : tIf t ta tb x e Q = t x e fun c e1 => br c (HB.mk ((ta x e1 Q), (tb x e1 Q)) ()) := rfl
theorem x_nil {x e Q} : tNil x e Q = Q [] e := rfl
def kC2 (d : D) (ds : List D) (e : En) (h : HB (List D → En → Prop)) : Prop := h.b (d :: ds) e
theorem x_kC2 {d ds e Q} : kC2 d ds e (HB.mk Q ()) = Q (d :: ds) e := rfl
def kC1 (r : R) (e : En) (h : HB (PTA × PX × (List D → En → Prop))) : Prop := fz r e fun d e2 => h.b.1 h.b.2.1 e2 fun ds e3 => kC2 d ds e3 (HB.mk h.b.2.2 ())
def kC3 (c : Option C) (i : Nat) (e : En) (h : HB (PTA × PX × (List D → En → Prop))) : Prop := match c with
  | some (.d d) => h.b.1 h.b.2.1 e fun ds e3 => kC2 d ds e3 (HB.mk h.b.2.2 ())
  | some (.own d) => h.b.1 h.b.2.1 (e.setC i (.d (.lst d))) fun ds e3 => kC2 (.lst d) ds e3 (HB.mk h.b.2.2 ())
  | some (.dK kvs) => h.b.1 h.b.2.1 (e.setC i (.d (.dck (kvs.map Prod.fst) (kvs.map Prod.snd)))) fun ds e3 => kC2 (.dck (kvs.map Prod.fst) (kvs.map Prod.snd)) ds e3 (HB.mk h.b.2.2 ())
  | some (.dT kvs) => h.b.1 h.b.2.1 (e.setC i (.d (.dct (kvs.map Prod.fst) (kvs.map Prod.snd)))) fun ds e3 => kC2 (.dct (kvs.map Prod.fst) (kvs.map Prod.snd)) ds e3 (HB.mk h.b.2.2 ())
  | _ => False
theorem x_cons {ta tr x e Q} : tCons ta tr x e Q = ta x e fun r e1 => kC1 r e1 (HB.mk (tr, x, Q) ()) := rfl
theorem x_kC1d {d tr x e Q} : kC1 (.d d) e (HB.mk (tr, x, Q) ()) = tr x e fun ds e3 => kC2 d ds e3 (HB.mk Q ()) := rfl
theorem x_kC1o {d tr x e Q} : kC1 (.own d) e (HB.mk (tr, x, Q) ()) = tr x e fun ds e3 => kC2 (.lst d) ds e3 (HB.mk Q ()) := rfl
theorem x_kC1k {kvs tr x e Q} : kC1 (.dK kvs) e (HB.mk (tr, x, Q) ()) = tr x e fun ds e3 => kC2 (.dck (kvs.map Prod.fst) (kvs.map Prod.snd)) ds e3 (HB.mk Q ()) := rfl
theorem x_kC1t {kvs tr x e Q} : kC1 (.dT kvs) e (HB.mk (tr, x, Q) ()) = tr x e fun ds e3 => kC2 (.dct (kvs.map Prod.fst) (kvs.map Prod.snd)) ds e3 (HB.mk Q ()) := rfl
theorem x_kC1n {i tr x e Q} : kC1 (.nam i) e (HB.mk (tr, x, Q) ()) = kC3 e.sl[i]? i e (HB.mk (tr, x, Q) ()) := by
  unfold kC1 kC3
  rw [x_fzn]
  unfold opt fzC
  cases e.sl[i]? with
  | none => rfl
  | some c => cases c <;> rfl
theorem x_kC3d {i d tr x e Q} : kC3 (some (.d d)) i e (HB.mk (tr, x, Q) ()) = tr x e fun ds e3 => kC2 d ds e3 (HB.mk Q ()) := rfl
theorem x_kC3o {i d tr x e Q} : kC3 (some (.own d)) i e (HB.mk (tr, x, Q) ()) = tr x (e.setC i (.d (.lst d))) fun ds e3 => kC2 (.lst d) ds e3 (HB.mk Q ()) := rfl
theorem x_kC3k {i kvs tr x e Q} : kC3 (some (.dK kvs)) i e (HB.mk (tr, x, Q) ()) = tr x (e.setC i (.d (.dck (kvs.map Prod.fst) (kvs.map Prod.snd)))) fun ds e3 => kC2 (.dck (kvs.map Prod.fst) (kvs.map Prod.snd)) ds e3 (HB.mk Q ()) := rfl
theorem x_kC3t {i kvs tr x e Q} : kC3 (some (.dT kvs)) i e (HB.mk (tr, x, Q) ()) = tr x (e.setC i (.d (.dct (kvs.map Prod.fst) (kvs.map Prod.snd)))) fun ds e3 => kC2 (.dct (kvs.map Prod.fst) (kvs.map Prod.snd)) ds e3 (HB.mk Q ()) := rfl
def kTu (ds : List D) (e : En) (h : HB (R → En → Prop)) : Prop := ds.length ≤ sizeLine ∧ h.b (.d (.tup ds)) e
theorem x_tup {t x e Q} : tTup t x e Q = t x e fun ds e1 => kTu ds e1 (HB.mk Q ()) := rfl
theorem x_kTu {ds e Q} : kTu ds e (HB.mk Q ()) = (ds.length ≤ sizeLine ∧ Q (.d (.tup ds)) e) := rfl
def kLs (ds : List D) (e : En) (h : HB (R → En → Prop)) : Prop := ds.length ≤ sizeLine ∧ h.b (.own ds) e
theorem x_lst {t x e Q} : tLst t x e Q = t x e fun ds e1 => kLs ds e1 (HB.mk Q ()) := rfl
theorem x_kLs {ds e Q} : kLs ds e (HB.mk Q ()) = (ds.length ≤ sizeLine ∧ Q (.own ds) e) := rfl
theorem x_rnil {x e Q} : rNil x e Q = Q [] e := rfl
def kR2 (r : R) (rs : List R) (e : En) (h : HB (List R → En → Prop)) : Prop := h.b (r :: rs) e
theorem x_kR2 {r rs e Q} : kR2 r rs e (HB.mk Q ()) = Q (r :: rs) e := rfl
def kR1 (r : R) (e : En) (h : HB (PTR × PX × (List R → En → Prop))) : Prop := hold r e fun r e2 => h.b.1 h.b.2.1 e2 fun rs e3 => kR2 r rs e3 (HB.mk h.b.2.2 ())
theorem x_rcons {ta tr x e Q} : rCons ta tr x e Q = ta x e fun r e1 => kR1 r e1 (HB.mk (tr, x, Q) ()) := rfl
theorem x_kR1d {d tr x e Q} : kR1 (.d d) e (HB.mk (tr, x, Q) ()) = tr x e fun rs e3 => kR2 (.d d) rs e3 (HB.mk Q ()) := rfl
theorem x_kR1o {d tr x e Q} : kR1 (.own d) e (HB.mk (tr, x, Q) ()) = tr x e fun rs e3 => kR2 (.d (.lst d)) rs e3 (HB.mk Q ()) := rfl
theorem x_kR1n {i tr x e Q} : kR1 (.nam i) e (HB.mk (tr, x, Q) ()) = tr x e fun rs e3 => kR2 (.nam i) rs e3 (HB.mk Q ()) := rfl
def kCP (o : Option (List D)) (e : En) (h : HB ((List D → (R → Prop) → Prop) × (R → En → Prop))) : Prop := match o with
  | some ds => h.b.1 ds fun r => h.b.2 r e
  | _ => False
theorem x_callP {p t x e Q} : tCallP p t x e Q = t x e fun rs e1 => kCP (rvL rs e1) e1 (HB.mk (p, Q) ()) := by
  unfold tCallP kCP
  congr 1; funext rs e1
  cases rvL rs e1 <;> rfl
theorem x_kCP {ds e p Q} : kCP (some ds) e (HB.mk (p, Q) ()) = p ds fun r => Q r e := rfl
def consO : Option D → Option (List D) → Option (List D)
  | some a, some l => some (a :: l)
  | _, _ => none
theorem consO_s {a l} : consO (some a) (some l) = some (a :: l) := rfl
theorem x_rvLc {r rs e} : rvL (r :: rs) e = consO (rv r e) (rvL rs e) := by
  simp only [rvL]
  cases rv r e <;> cases rvL rs e <;> rfl
theorem x_rvLn {e} : rvL [] e = some [] := rfl
def kM3 (o : Option D) (os : Option (List D)) (e : En) (h : HB ((D → List D → (R → Prop) → Prop) × (R → En → Prop))) : Prop := match o, os with
  | some d, some ds => h.b.1 d ds fun r => h.b.2 r e
  | _, _ => False
def kM2 (r : R) (rs : List R) (e : En) (h : HB ((D → List D → (R → Prop) → Prop) × (R → En → Prop))) : Prop := kM3 (rv r e) (rvL rs e) e h
def kM1 (o : Option D) (r : R) (e : En) (h : HB (String × PTR × PX × (D → List D → (R → Prop) → Prop) × (R → En → Prop))) : Prop := match o with
  | some d => D.isTy h.b.1 d ∧ h.b.2.1 h.b.2.2.1 e fun rs e2 => kM2 r rs e2 (HB.mk h.b.2.2.2 ())
  | _ => False
def kM0 (r : R) (e : En) (h : HB (String × PTR × PX × (D → List D → (R → Prop) → Prop) × (R → En → Prop))) : Prop := hold r e fun r e => kM1 (rv r e) r e h
theorem x_meth {T p to t x e Q} : tMeth T p to t x e Q = to x e fun r e1 => kM0 r e1 (HB.mk (T, t, x, p, Q) ()) := by
  unfold tMeth kM0 kM1 kM2 kM3
  congr 1; funext r e1; congr 1; funext r e1
  cases rv r e1 with
  | none => simp
  | some d =>
    rfl
theorem x_kM0d {d e h} : kM0 (.d d) e h = kM1 (some d) (.d d) e h := rfl
theorem x_kM0o {d e h} : kM0 (.own d) e h = kM1 (some (.lst d)) (.d (.lst d)) e h := rfl
theorem x_kM0n {i e h} : kM0 (.nam i) e h = kM1 (rv (.nam i) e) (.nam i) e h := rfl
theorem x_kM1 {d r e T t x p Q} : kM1 (some d) r e (HB.mk (T, t, x, p, Q) ()) = (D.isTy T d ∧ t x e fun rs e2 => kM2 r rs e2 (HB.mk (p, Q) ())) := rfl
theorem x_kM2 {r rs e h} : kM2 r rs e h = kM3 (rv r e) (rvL rs e) e h := rfl
theorem x_kM3 {d ds e p Q} : kM3 (some d) (some ds) e (HB.mk (p, Q) ()) = p d ds fun r => Q r e := rfl
theorem x_meth0 {T p to x e Q} : tMeth0 T p to x e Q = to x e fun r e1 => opt (rv r e1) <| HB.mk (fun d => D.isTy T d ∧ p d [] fun r => Q r e1) () := by
  unfold tMeth0 opt
  congr 1; funext r e1
  cases rv r e1 <;> rfl
theorem isTy_s {l} : D.isTy "str" (.str l) = True := by simp [D.isTy]
theorem isTy_l {l} : D.isTy "list" (.lst l) = True := by simp [D.isTy]
def kU3 (o : Option (List D)) (r : R) (ds : List D) (e : En) (h : HB (PMu × (R → En → Prop))) : Prop := match o with
  | some l => h.b.1 l ds fun ds' y => h.b.2 (.d y) (mset r e ds')
  | _ => False
def kU2 (r : R) (ds : List D) (e : En) (h : HB (PMu × (R → En → Prop))) : Prop := kU3 (mget r e) r ds e h
def kU1 (r : R) (e : En) (h : HB (PMu × PTA × PX × (R → En → Prop))) : Prop := hold r e fun r e => (mget r e).isSome = true ∧ h.b.2.1 h.b.2.2.1 e fun as e2 => kU2 r as e2 (HB.mk (h.b.1, h.b.2.2.2) ())
theorem x_mut {p to t x e Q} : tMut p to t x e Q = to x e fun r e1 => kU1 r e1 (HB.mk (p, t, x, Q) ()) := by
  unfold tMut kU1 kU2 kU3
  congr 1; funext r e1; congr 1; funext r e1; congr 2; funext as e2
  cases mget r e2 <;> rfl
theorem x_kU1n {i e p t x Q} : kU1 (.nam i) e (HB.mk (p, t, x, Q) ()) = ((mget (.nam i) e).isSome = true ∧ t x e fun as e2 => kU2 (.nam i) as e2 (HB.mk (p, Q) ())) := rfl
theorem x_kU1d {d e p t x Q} : kU1 (.d d) e (HB.mk (p, t, x, Q) ()) = ((mget (.d d) e).isSome = true ∧ t x e fun as e2 => kU2 (.d d) as e2 (HB.mk (p, Q) ())) := rfl
theorem x_kU2 {r ds e h} : kU2 r ds e h = kU3 (mget r e) r ds e h := rfl
theorem x_kU3 {l r ds e p Q} : kU3 (some l) r ds e (HB.mk (p, Q) ()) = p l ds fun ds' y => Q (.d y) (mset r e ds') := rfl
def mgC : Option C → Option (List D)
  | some (.own ds) => some ds
  | _ => none
theorem mgC_own {ds} : mgC (some (.own ds)) = some ds := rfl
theorem x_mg {i e} : mget (.nam i) e = mgC e.sl[i]? := by
  show (match e.sl[i]? with | some (.own ds) => some ds | _ => none) = _
  unfold mgC
  cases e.sl[i]? with
  | none => rfl
  | some c => cases c <;> rfl
theorem x_ms {i e ds} : mset (.nam i) e ds = e.setC i (.own ds) := rfl
def kS3 (o : Option D) (lo hi : Option Int) (e : En) (h : HB (R → En → Prop)) : Prop := match o with
  | some d => pSl d lo hi fun r => h.b r e
  | _ => False
def kS2 (r : R) (lo hi : Option Int) (e : En) (h : HB (R → En → Prop)) : Prop := kS3 (rv r e) lo hi e h
def kS1 (r : R) (lo : Option Int) (e : En) (h : HB (PTO × PX × (R → En → Prop))) : Prop := h.b.1 h.b.2.1 e fun hi e3 => kS2 r lo hi e3 (HB.mk h.b.2.2 ())
def kS0 (r : R) (e : En) (h : HB (PTO × PTO × PX × (R → En → Prop))) : Prop := hold r e fun r e => h.b.1 h.b.2.2.1 e fun lo e2 => kS1 r lo e2 (HB.mk h.b.2 ())
theorem x_sl {te tl th x e Q} : tSl te tl th x e Q = te x e fun r e1 => kS0 r e1 (HB.mk (tl, th, x, Q) ()) := by
  unfold tSl kS0 kS1 kS2 kS3
  congr 1; funext r e1; congr 1; funext r e1; congr 1; funext lo e2; congr 1; funext hi e3
  cases rv r e3 <;> rfl
theorem x_kS0d {d e tl th x Q} : kS0 (.d d) e (HB.mk (tl, th, x, Q) ()) = tl x e fun lo e2 => kS1 (.d d) lo e2 (HB.mk (th, x, Q) ()) := rfl
theorem x_kS0o {d e tl th x Q} : kS0 (.own d) e (HB.mk (tl, th, x, Q) ()) = tl x e fun lo e2 => kS1 (.d (.lst d)) lo e2 (HB.mk (th, x, Q) ()) := rfl
theorem x_kS0n {i e tl th x Q} : kS0 (.nam i) e (HB.mk (tl, th, x, Q) ()) = tl x e fun lo e2 => kS1 (.nam i) lo e2 (HB.mk (th, x, Q) ()) := rfl
theorem x_kS1 {r lo e th x Q} : kS1 r lo e (HB.mk (th, x, Q) ()) = th x e fun hi e3 => kS2 r lo hi e3 (HB.mk Q ()) := rfl
theorem x_kS2 {r lo hi e h} : kS2 r lo hi e h = kS3 (rv r e) lo hi e h := rfl
theorem x_kS3 {d lo hi e Q} : kS3 (some d) lo hi e (HB.mk Q ()) = pSl d lo hi fun r => Q r e := rfl
theorem x_on {x e Q} : oNone x e Q = Q none e := rfl
def iC (d : D) (h : HB (Int → Prop)) : Prop := match d with
  | .int b => h.b b
  | _ => False
theorem iC_i {b f} : iC (.int b) (HB.mk f ()) = f b := rfl
def kOs (o : Option D) (e : En) (h : HB (Option Int → En → Prop)) : Prop := match o with
  | some (.int i) => h.b (some i) e
  | _ => False
theorem x_os {t x e Q} : oSome t x e Q = t x e fun r e1 => kOs (rv r e1) e1 (HB.mk Q ()) := by
  unfold oSome kOs
  rfl
theorem x_kOs {i e Q} : kOs (some (.int i)) e (HB.mk Q ()) = Q (some i) e := rfl
theorem x_lc {ti g tt te vs x e Q} : cLc ti g tt te vs x e Q = ti x e fun items e1 => items.length ≤ sizeLine ∧ plainC e1.sl vs = true ∧ lcH items (wipeE vs e1) (HB.mk (g, tt, te, vs, fun acc e2 => Q (.own acc) (restE vs e1 e2)) ()) := rfl
theorem x_any {te x e Q} : iAny te x e Q = te x e fun r e1 => fz r e1 fun d e2 => opt d.walk <| HB.mk (fun ds => Q ds e2) () := by
  unfold iAny opt
  congr 1; funext r e1; congr 1; funext d e2
  cases d.walk <;> rfl
theorem walk_l {ds} : D.walk (.lst ds) = some ds := rfl
theorem walk_t {ds} : D.walk (.tup ds) = some ds := rfl
theorem walk_s {s} : D.walk (.str s) = some (signs s) := rfl
theorem x_pure {p t x e Q} : iPure p t x e Q = t x e fun rs e1 => opt (rvL rs e1) <| HB.mk (fun ds => p ds fun l => Q l e1) () := by
  unfold iPure opt
  congr 1; funext rs e1
  cases rvL rs e1 <;> rfl
def sC (d : D) (h : HB (List Nat → Prop)) : Prop := match d with
  | .str s => h.b s
  | _ => False
theorem sC_s {b f} : sC (.str b) (HB.mk f ()) = f b := rfl
theorem x_rev {t x e Q} : iRevP t x e Q = t x e fun r e1 => fz r e1 fun d e2 => sC d <| HB.mk (fun s => Q (signs s).reverse e2) () := by
  unfold iRevP sC
  rfl
def kCa (ds : List D) (e : En) (h : HB (PM × (R → En → Prop))) : Prop := h.b.1 ds e.st fun c st' => h.b.2 c.toR ⟨e.sl, st'⟩
theorem x_call {m t x e Q} : tCall0 m t x e Q = t x e fun ds e1 => kCa ds e1 (HB.mk (m, Q) ()) := rfl
theorem x_kCa {m : PM} {ds e Q} : kCa ds e (HB.mk (m, Q) ()) = m ds e.st fun c st' => Q c.toR ⟨e.sl, st'⟩ := rfl
theorem toR_d {d} : C.toR (.d d) = .d d := rfl
theorem toR_o {d} : C.toR (.own d) = .own d := rfl
theorem x_gn {i d e Q} : gName i d e Q = (i < e.sl.length ∧ Q (e.setC i (.d d))) := rfl
theorem x_gnil {e Q} : gNil [] e Q = Q e := by unfold gNil; exact propext ⟨fun h => h.2, fun h => ⟨rfl, h⟩⟩
theorem x_gcons {t u d ds e Q} : gCons t u (d :: ds) e Q = t d e fun e1 => u ds e1 Q := rfl
theorem x_isi {T te x e Q} : tIsi T te x e Q = te x e fun r e1 => opt (rv r e1) <| HB.mk (fun d => opt d.tyN <| HB.mk (fun u => opt (kitB u T) <| HB.mk (fun b => Q (.d (.bl b)) e1) ()) ()) () := by
  unfold tIsi opt
  congr 1; funext r e1
  cases rv r e1 with
  | none => rfl
  | some d =>
    simp only
    cases d.tyN with
    | none => rfl
    | some u => simp only; cases kitB u T <;> rfl
/-- operators -/
theorem a_ii {i j Q} : pAdd (.int i) (.int j) Q = Q (.d (.int (i + j))) := rfl
theorem a_ss {s t Q} : pAdd (.str s) (.str t) Q = (s.length + t.length ≤ sizeLine ∧ Q (.d (.str (s ++ t)))) := rfl
theorem a_ll {s t Q} : pAdd (.lst s) (.lst t) Q = (s.length + t.length ≤ sizeLine ∧ Q (.own (s ++ t))) := rfl
theorem a_tt {s t Q} : pAdd (.tup s) (.tup t) Q = (s.length + t.length ≤ sizeLine ∧ Q (.d (.tup (s ++ t)))) := rfl
theorem a_I {C f i j Q} : pI C f (.int i) (.int j) Q = (C i j ∧ Q (.d (f i j))) := rfl
theorem a_neg {i Q} : pNeg (.int i) Q = Q (.d (.int (-i))) := rfl
theorem a_mul {i j Q} : pMul (.int i) (.int j) Q = (CMul i j ∧ Q (.d (.int (i * j)))) := rfl
theorem a_mulL {xs k Q} : pMul (.lst xs) (.int k) Q = ((-(2 ^ 63) ≤ k ∧ k < 2 ^ 63) ∧ xs.length * k.toNat ≤ sizeLine ∧ Q (.own (List.replicate k.toNat xs).flatten)) := rfl
theorem a_mulS {xs : List Nat} {k Q} : pMul (.str xs) (.int k) Q = ((-(2 ^ 63) ≤ k ∧ k < 2 ^ 63) ∧ xs.length * k.toNat ≤ 16777216 ∧ Q (.d (.str (List.replicate k.toNat xs).flatten))) := rfl
theorem a_eq {d e Q} : pEq d e Q = (d.ok 64 = true ∧ e.ok 64 = true ∧ Q (.d (.bl (D.eq d e)))) := rfl
theorem a_ne {d e Q} : pNe d e Q = (d.ok 64 = true ∧ e.ok 64 = true ∧ Q (.d (.bl (!D.eq d e)))) := rfl
theorem a_lt {i j Q} : pLt (.int i) (.int j) Q = Q (.d (.bl (decide (i < j)))) := rfl
theorem a_le {i j Q} : pLe (.int i) (.int j) Q = Q (.d (.bl (decide (i ≤ j)))) := rfl
theorem a_gt {i j Q} : pGt (.int i) (.int j) Q = Q (.d (.bl (decide (j < i)))) := rfl
theorem a_ge {i j Q} : pGe (.int i) (.int j) Q = Q (.d (.bl (decide (j ≤ i)))) := rfl
theorem a_ltS {i j Q} : pLt (.str i) (.str j) Q = Q (.d (.bl (decide (i < j)))) := rfl
theorem a_leS {i j Q} : pLe (.str i) (.str j) Q = Q (.d (.bl (!decide (j < i)))) := rfl
theorem a_inS {c l Q} : pIn false (.str [c]) (.str l) Q = Q (.d (.bl (decide (c ∈ l)))) := rfl
theorem a_ninS {c l Q} : pIn true (.str [c]) (.str l) Q = Q (.d (.bl (!decide (c ∈ l)))) := rfl
theorem a_inL {d l Q} : pIn false d (.lst l) Q = (d.ok 64 = true ∧ D.okL l 63 = true ∧ Q (.d (.bl (l.any fun z => D.eq z d)))) := rfl
theorem a_ninL {d l Q} : pIn true d (.lst l) Q = (d.ok 64 = true ∧ D.okL l 63 = true ∧ Q (.d (.bl (!l.any fun z => D.eq z d)))) := rfl
theorem a_inT {d l Q} : pIn false d (.tup l) Q = (d.flat = true ∧ l.all D.flat = true ∧ Q (.d (.bl (l.any fun z => D.eq z d)))) := rfl
theorem a_ninT {d l Q} : pIn true d (.tup l) Q = (d.flat = true ∧ l.all D.flat = true ∧ Q (.d (.bl (!l.any fun z => D.eq z d)))) := rfl
theorem a_ixL {l i Q} : pIx (.lst l) (.int i) Q = (opt (atI l i) <| HB.mk (fun y => Q (.d y)) ()) := by
  show (match atI l i with | some y => Q (.d y) | none => False) = _
  unfold opt
  cases atI l i <;> rfl
theorem a_ixT {l i Q} : pIx (.tup l) (.int i) Q = (opt (atI l i) <| HB.mk (fun y => Q (.d y)) ()) := by
  show (match atI l i with | some y => Q (.d y) | none => False) = _
  unfold opt
  cases atI l i <;> rfl
theorem a_ixS {l i Q} : pIx (.str l) (.int i) Q = (opt (atI l i) <| HB.mk (fun c => Q (.d (.str [c]))) ()) := by
  show (match atI l i with | some y => Q (.d (.str [y])) | none => False) = _
  unfold opt
  cases atI l i <;> rfl
theorem a_ixR {n i Q} : pIx (.scr n) (.int i) Q = ((0 ≤ i ∧ i < n) ∧ ∀ z, Q (.d (.int z))) := rfl
theorem a_ixB {i Q} : pIx .box (.int i) Q = ((i = 0 ∨ i = 1) ∧ ∀ z, Q (.d (.int z))) := rfl
theorem a_slL {l lo hi Q} : pSl (.lst l) lo hi Q = Q (.own (cut l lo hi)) := rfl
theorem a_slT {l lo hi Q} : pSl (.tup l) lo hi Q = Q (.d (.tup (cut l lo hi))) := rfl
theorem a_slS {l lo hi Q} : pSl (.str l) lo hi Q = Q (.d (.str (cut l lo hi))) := rfl
theorem a_lenS {s Q} : pLen [.str s] Q = Q (.d (.int s.length)) := rfl
theorem a_lenL {s Q} : pLen [.lst s] Q = Q (.d (.int s.length)) := rfl
theorem a_lenT {s Q} : pLen [.tup s] Q = Q (.d (.int s.length)) := rfl
theorem a_lenR {n Q} : pLen [.scr n] Q = Q (.d (.int n)) := rfl
theorem a_join {s x Q} : pJoin (.str s) [x] Q = (opt (strL x.items) <| HB.mk (fun r => (r.map List.length).sum + r.length * s.length ≤ 16777216 ∧ Q (.d (.str (joinN s r)))) ()) := by
  show (match strL x.items with | some r => _ | none => False) = _
  unfold opt
  cases strL x.items <;> rfl
theorem items_l {l} : D.items (.lst l) = l := rfl
theorem items_t {l} : D.items (.tup l) = l := rfl
theorem a_ixof {l c Q} : pIndexS (.str l) [.str [c]] Q = (c ∈ l ∧ Q (.d (.int (ixOf c l)))) := rfl
theorem a_ixofL {l y Q} : pIndexL (.lst l) [y] Q = (y.ok 64 = true ∧ D.okL l 63 = true ∧ (l.any fun z => D.eq z y) = true ∧ Q (.d (.int (ixD y l)))) := rfl
theorem a_rng1 {j Q} : pRng1 [.int j] Q = ((-(2 ^ 62) ≤ j ∧ j < 2 ^ 62) ∧ Q (rngI 0 j.toNat)) := rfl
theorem a_rng2 {i j Q} : pRng2 [.int i, .int j] Q = ((-(2 ^ 62) ≤ i ∧ i < 2 ^ 62 ∧ -(2 ^ 62) ≤ j ∧ j < 2 ^ 62) ∧ Q (rngI i (j - i).toNat)) := rfl
theorem a_min2 {i j Q} : pMin2 [.int i, .int j] Q = Q (.d (.int (min i j))) := by
  show Q (.d (.int (if j < i then j else i))) = _
  congr 3; rw [Int.min_def]; split <;> split <;> omega
theorem a_max2 {i j Q} : pMax2 [.int i, .int j] Q = Q (.d (.int (max i j))) := by
  show Q (.d (.int (if j > i then j else i))) = _
  congr 3; rw [Int.max_def]; split <;> split <;> omega
theorem a_lstS {s Q} : pList [.str s] Q = Q (.own (signs s)) := rfl
theorem a_lstL {s Q} : pList [.lst s] Q = Q (.own s) := rfl
theorem a_lstT {s Q} : pList [.tup s] Q = Q (.own s) := rfl
theorem a_int {s Q} : pInt [.int s] Q = Q (.d (.int s)) := rfl
theorem a_intB {s Q} : pInt [.bl s] Q = Q (.d (.int (if s then 1 else 0))) := rfl
theorem a_isN {neg d Q} : pIsN neg d .non Q = Q (.d (.bl (if neg then !d.isNon else d.isNon))) := rfl
def popAtH (ds as : List D) (h : HB (List D → D → Prop)) : Prop := mPopAt ds as h.b
theorem x_popAt {ds as K} : mPopAt ds as K = popAtH ds as (HB.mk K ()) := rfl
def allH (ds : List D) (h : HB (R → Prop)) : Prop := pAll [.lst ds] h.b
theorem x_all {ds Q} : pAll [.lst ds] Q = allH ds (HB.mk Q ()) := rfl
def anyH (ds : List D) (h : HB (R → Prop)) : Prop := pAny [.lst ds] h.b
theorem x_anyB {ds Q} : pAny [.lst ds] Q = anyH ds (HB.mk Q ()) := rfl
theorem a_isB {neg a b Q} : pIsN neg (.bl a) (.bl b) Q = Q (.d (.bl (if neg then !decide (a = b) else decide (a = b)))) := rfl
theorem m_app {ds y K} : mAppend ds [y] K = (ds.length < sizeLine ∧ K (ds ++ [y]) .non) := rfl
theorem a_pop {ds K} : mPop ds [] K = (opt ds[ds.length - 1]? <| HB.mk (fun y => K ds.dropLast y) ()) := by
  unfold mPop opt
  simp only
  cases ds[ds.length - 1]? <;> rfl
/-- data -/
theorem ok_s {s n} : D.ok (.str s) n = true := rfl
theorem ok_i {s n} : D.ok (.int s) n = true := rfl
theorem ok_b {s n} : D.ok (.bl s) n = true := rfl
theorem ok_n {n} : D.ok .non n = true := rfl
theorem ok_l {ds n} : D.ok (.lst ds) (n + 1) = D.okL ds n := rfl
theorem ok_t {ds n} : D.ok (.tup ds) (n + 1) = D.okL ds n := rfl
theorem okL_n {n} : D.okL [] n = true := rfl
theorem okL_c {d ds n} : D.okL (d :: ds) n = (d.ok n && D.okL ds n) := rfl
theorem e_ss {x y} : D.eq (.str x) (.str y) = decide (x = y) := by simp only [D.eq]; rw [Bool.eq_iff_iff]; simp
theorem e_ii {x y} : D.eq (.int x) (.int y) = decide (x = y) := by simp only [D.eq]; rw [Bool.eq_iff_iff]; simp
theorem e_bb {x y} : D.eq (.bl x) (.bl y) = decide (x = y) := by cases x <;> cases y <;> rfl
theorem e_ll {x y} : D.eq (.lst x) (.lst y) = D.eqL x y := by simp only [D.eq]
theorem e_tt {x y} : D.eq (.tup x) (.tup y) = D.eqL x y := by simp only [D.eq]
theorem eL_nn : D.eqL [] [] = true := by simp only [D.eqL]
theorem eL_cc {a x b y} : D.eqL (a :: x) (b :: y) = (D.eq a b && D.eqL x y) := by simp only [D.eqL]
theorem eL_nc {b y} : D.eqL [] (b :: y) = false := by simp only [D.eqL]
theorem eL_cn {b y} : D.eqL (b :: y) [] = false := by simp only [D.eqL]
theorem ty_s {s} : D.tyN (.str s) = some "str" := rfl
theorem ty_i {s} : D.tyN (.int s) = some "int" := rfl
theorem ty_l {s} : D.tyN (.lst s) = some "list" := rfl
theorem ty_b {s} : D.tyN (.bl s) = some "bool" := rfl
theorem sline : (sizeLine : Nat) = 16777216 := sizeLine_eq
end Pu
set_option maxRecDepth 100000
set_option maxHeartbeats 4000000
namespace Pu
open PySem L2
theorem forH_inv {g : PTG} {tb : PTS} {x : PX} {P : PEn} (I : List D → En → Prop) {ds : List D} {e : En} (h0 : I ds e) (hd : ∀ e, I [] e → P.nx e) (h : ∀ d r e, I (d :: r) e → ∀ N : En → Prop, (∀ e', I r e' → N e') → g d e fun e' => tb x { P with nx := N, ct := N, bk := P.nx } e') :
    forH ds e (HB.mk (g, tb, x, P) ()) := forR_inv I h hd ds e h0
/-- over the signs of a text: what is behind, what is to come -/
theorem forH_signs {g : PTG} {tb : PTS} {x : PX} {P : PEn} (w : List Nat) (I : List Nat → List Nat → En → Prop) {e : En} (h0 : I [] w e) (hd : ∀ e, I w [] e → P.nx e) (h : ∀ pre c suf e, pre ++ c :: suf = w → I pre (c :: suf) e → ∀ N : En → Prop, (∀ e', I (pre ++ [c]) suf e' → N e') → g (.str [c]) e fun e' => tb x { P with nx := N, ct := N, bk := P.nx } e') :
    forH (signs w) e (HB.mk (g, tb, x, P) ()) := by
  refine forH_inv (fun rest e => ∃ pre suf, pre ++ suf = w ∧ rest = signs suf ∧ I pre suf e) ⟨[], w, rfl, rfl, h0⟩ ?_ ?_
  · rintro e ⟨pre, suf, h1, h2, h3⟩
    cases suf with
    | nil => rw [List.append_nil] at h1; subst h1; exact hd e h3
    | cons c suf => cases h2
  · rintro d r e ⟨pre, suf, h1, h2, h3⟩ N hN
    cases suf with
    | nil => cases h2
    | cons c suf =>
      cases h2
      exact h pre c suf e h1 h3 N fun e' h' => hN e' ⟨pre ++ [c], suf, by rw [← h1]; simp, rfl, h'⟩
/-- over a range from i on: the turns done -/
theorem forH_rng {g : PTG} {tb : PTS} {x : PX} {P : PEn} (lo : Int) (n : Nat) (I : Nat → En → Prop) {e : En} (h0 : I 0 e) (hd : ∀ e, I n e → P.nx e) (h : ∀ j e, j < n → I j e → ∀ N : En → Prop, (∀ e', I (j + 1) e' → N e') → g (.int (lo + j)) e fun e' => tb x { P with nx := N, ct := N, bk := P.nx } e') :
    forH (rngI lo n) e (HB.mk (g, tb, x, P) ()) := by
  refine forH_inv (fun rest e => ∃ j, j ≤ n ∧ rest = rngI (lo + j) (n - j) ∧ I j e) ⟨0, by omega, by simp, h0⟩ ?_ ?_
  · rintro e ⟨j, h1, h2, h3⟩
    have := congrArg List.length h2
    rw [rngI_length] at this
    simp at this
    have e0 : j = n := by omega
    subst e0
    exact hd e h3
  · rintro d r e ⟨j, h1, h2, h3⟩ N hN
    have hl := congrArg List.length h2
    rw [rngI_length] at hl
    simp at hl
    obtain ⟨z, hz⟩ : ∃ z, n - j = z + 1 := ⟨n - j - 1, by omega⟩
    rw [hz, rngI_succ] at h2
    cases h2
    exact h j e (by omega) h3 N fun e' h' => hN e' ⟨j + 1, by omega, by rw [show n - (j + 1) = z by omega]; congr 1; push_cast; omega, h'⟩
/-- over a mapped list -/
theorem forH_map {α : Type} (f : α → D) {g : PTG} {tb : PTS} {x : PX} {P : PEn} (w : List α) (I : List α → List α → En → Prop) {e : En} (h0 : I [] w e) (hd : ∀ e, I w [] e → P.nx e) (h : ∀ pre c suf e, pre ++ c :: suf = w → I pre (c :: suf) e → ∀ N : En → Prop, (∀ e', I (pre ++ [c]) suf e' → N e') → g (f c) e fun e' => tb x { P with nx := N, ct := N, bk := P.nx } e') :
    forH (w.map f) e (HB.mk (g, tb, x, P) ()) := by
  refine forH_inv (fun rest e => ∃ pre suf, pre ++ suf = w ∧ rest = suf.map f ∧ I pre suf e) ⟨[], w, rfl, rfl, h0⟩ ?_ ?_
  · rintro e ⟨pre, suf, h1, h2, h3⟩
    cases suf with
    | nil => rw [List.append_nil] at h1; subst h1; exact hd e h3
    | cons c suf => cases h2
  · rintro d r e ⟨pre, suf, h1, h2, h3⟩ N hN
    cases suf with
    | nil => cases h2
    | cons c suf =>
      cases h2
      exact h pre c suf e h1 h3 N fun e' h' => hN e' ⟨pre ++ [c], suf, by rw [← h1]; simp, rfl, h'⟩
theorem least_nat {R : Nat → Prop} (h : ∃ n, R n) : ∃ n, R n ∧ ∀ k, R k → n ≤ k := by
  obtain ⟨n, hn⟩ := h
  induction n using Nat.strongRecOn with
  | _ n ih =>
    by_cases z : ∃ k, k < n ∧ R k
    · obtain ⟨k, h1, h2⟩ := z
      exact ih k h1 h2
    · exact ⟨n, hn, fun k hk => Nat.le_of_not_lt fun hl => z ⟨k, hl, hk⟩⟩
theorem wh_on {c : PTT} {tb : PTS} {x : PX} {P : PEn} {e : En} {α : Type} (st : α → En) (W : α → Prop) (μ : α → Nat) (a0 : α) (he : e = st a0) (h0 : W a0)
    (h : ∀ a, W a → ∀ N : En → Prop, (∀ a', W a' → μ a' < μ a → N (st a')) → c x (st a) fun b e1 => br b (HB.mk (tb x { P with nx := N, ct := N, bk := P.nx } e1, P.nx e1) ())) : whH e (HB.mk (c, tb, x, P) ()) := by
  classical
  let R : En → Nat → Prop := fun e n => ∃ a, e = st a ∧ W a ∧ μ a = n
  let m : En → Nat := fun e => if h : ∃ n, R e n then Classical.choose (least_nat h) else 0
  have key : ∀ e, (∃ n, R e n) → R e (m e) ∧ ∀ k, R e k → m e ≤ k := fun e hh => by
    have z : m e = Classical.choose (least_nat hh) := dif_pos hh
    rw [z]
    exact Classical.choose_spec (least_nat hh)
  refine ⟨fun e => ∃ a, e = st a ∧ W a, m, ⟨a0, he, h0⟩, ?_⟩
  intro e ⟨a1, h1, h2⟩
  obtain ⟨⟨a, g1, g2, g3⟩, _⟩ := key e ⟨_, a1, h1, h2, rfl⟩
  subst g1
  exact h a g2 (fun e' => (∃ a, e' = st a ∧ W a) ∧ m e' < m (st a)) fun a' w' l' => ⟨⟨a', rfl, w'⟩, Nat.lt_of_le_of_lt ((key (st a') ⟨_, a', rfl, w', rfl⟩).2 _ ⟨a', rfl, w', rfl⟩) (by rw [← g3]; exact l')⟩
theorem forH_on {g : PTG} {tb : PTS} {x : PX} {P : PEn} {α : Type} (st : α → En) (I : List D → α → Prop) (a0 : α) {ds : List D} {e : En} (he : e = st a0) (h0 : I ds a0) (hd : ∀ a, I [] a → P.nx (st a))
    (h : ∀ d r a, I (d :: r) a → ∀ N : En → Prop, (∀ a', I r a' → N (st a')) → g d (st a) fun e' => tb x { P with nx := N, ct := N, bk := P.nx } e') : forH ds e (HB.mk (g, tb, x, P) ()) := by
  refine forH_inv (fun r e => ∃ a, e = st a ∧ I r a) ⟨a0, he, h0⟩ ?_ ?_
  · rintro e ⟨a, rfl, h1⟩; exact hd a h1
  · rintro d r e ⟨a, rfl, h1⟩ N hN
    exact h d r a h1 N fun a' h' => hN _ ⟨a', rfl, h'⟩
theorem at_last {α : Type} {l : List α} {a : α} {f : α → Prop} (h : l.getLast? = some a) (q : f a) : opt (atI l (-1)) (HB.mk f ()) := by
  refine opt_of ?_ q
  unfold atI ixN
  rw [if_neg (by omega)]
  have hl : l ≠ [] := fun z => by subst z; cases h
  have hp : 0 < l.length := List.length_pos_iff.mpr hl
  rw [if_pos (by omega)]
  have : ((-1 : Int) + (l.length : Int)).toNat = l.length - 1 := by omega
  simp only [Option.bind_some, this]
  rw [List.getLast?_eq_getElem?] at h
  exact h
theorem at_head {α : Type} {l : List α} {a : α} {f : α → Prop} (h : l.head? = some a) (q : f a) : opt (atI l 0) (HB.mk f ()) := by
  refine opt_of ?_ q
  cases l with
  | nil => cases h
  | cons b l => cases h; unfold atI ixN; simp
theorem lcH_map {g : PTG} {te : PTE} {vs : List Nat} {e : En} {Q : List D → En → Prop} {ds : List D} (f : D → D) (h : ∀ d ∈ ds, ∀ K : D → En → Prop, K (f d) e → g d e fun e1 => te noX e1 fun r e3 => fz r e3 fun y e4 => K y (wipeE vs e4)) (q : Q (ds.map f) e) : lcH ds e (HB.mk (g, cYes, te, vs, Q) ()) :=
  lcR_map f ds [] h (by simpa using q)
theorem lcH_rel {g : PTG} {te : PTE} {vs : List Nat} {e : En} {Q : List D → En → Prop} {ds : List D} (R : D → D → Prop) (h : ∀ d ∈ ds, ∀ K : D → En → Prop, (∀ y, R d y → K y e) → g d e fun e1 => te noX e1 fun r e3 => fz r e3 fun y e4 => K y (wipeE vs e4)) (q : ∀ ys, All2 R ds ys → Q ys e) : lcH ds e (HB.mk (g, cYes, te, vs, Q) ()) :=
  lcR_rel R ds [] h (by simpa using q)
theorem lcH_filter {g : PTG} {tt : PTT} {te : PTE} {vs : List Nat} {e : En} {Q : List D → En → Prop} {ds : List D} (p : D → Bool) (f : D → D) (h : ∀ d ∈ ds, ∀ K : Option D → En → Prop, K (if p d = true then some (f d) else none) e → g d e fun e1 => tt noX e1 fun b e2 => if b = true then te noX e2 fun r e3 => fz r e3 fun y e4 => K (some y) (wipeE vs e4) else K none (wipeE vs e2)) (q : Q ((ds.filter p).map f) e) : lcH ds e (HB.mk (g, tt, te, vs, Q) ()) :=
  lcR_filter p f ds [] h (by simpa using q)
theorem x_ite {b : Bool} {p q : Prop} : (if b = true then p else q) = br b (HB.mk (p, q) ()) := rfl
theorem x_gtup {n t ds e Q} : gTup n t (.tup ds) e Q = (ds.length = n ∧ t ds e Q) := rfl
theorem x_yes {x e Q} : cYes x e Q = Q true e := rfl
theorem strL_signs (w : List Nat) : strL (signs w) = some (w.map fun c => [c]) := by
  have e : signs w = (w.map fun c => [c]).map D.str := by unfold signs; rw [List.map_map]; rfl
  rw [e, strL_map]
theorem len_signs {w : List Nat} (h : w.length ≤ 16777216) : ((w.map fun c => [c]).map List.length).sum + (w.map fun c => [c]).length * ([] : List Nat).length ≤ 16777216 := by
  have : ((w.map fun c => [c]).map List.length) = List.replicate w.length 1 := by
    rw [List.map_map, List.eq_replicate_iff]
    refine ⟨by simp, fun b hb => ?_⟩
    obtain ⟨a, _, rfl⟩ := List.mem_map.mp hb
    rfl
  rw [this, List.sum_replicate_nat]
  simp
  exact h
theorem len_signs' {w : List Nat} (h : w.length ≤ 16777216) : ((w.map fun c => [c]).map List.length).sum + (w.map fun c => [c]).length * 0 ≤ 16777216 := len_signs h
theorem signs_len (w : List Nat) : (signs w).length = w.length := by unfold signs; simp
theorem signs_app (v w : List Nat) : signs v ++ signs w = signs (v ++ w) := by unfold signs; rw [List.map_append]
theorem signs_snoc (v : List Nat) (c : Nat) : signs v ++ [.str [c]] = signs (v ++ [c]) := signs_app v [c]
theorem mem_signs {w : List Nat} {d : D} (h : d ∈ signs w) : ∃ c, c ∈ w ∧ d = .str [c] := by
  unfold signs at h
  obtain ⟨c, hc, rfl⟩ := List.mem_map.mp h
  exact ⟨c, hc, rfl⟩
theorem ixN_nat {n : Nat} {i : Int} (h0 : 0 ≤ i) (h1 : i < n) : ixN n i = some i.toNat := by
  unfold ixN
  rw [if_pos h0, if_pos h1]
/-- the last, the first -/
theorem atI_last {α : Type} (l : List α) : atI l (-1) = l.getLast? := by
  unfold atI ixN
  rw [if_neg (by omega)]
  by_cases h : l = []
  · subst h; rfl
  · have hp : 0 < l.length := List.length_pos_iff.mpr h
    rw [if_pos (by omega)]
    have : ((-1 : Int) + (l.length : Int)).toNat = l.length - 1 := by omega
    simp only [Option.bind_some, this]
    rw [List.getLast?_eq_getElem?]
theorem popAt_ok {ds : List D} {i : Int} {K : List D → D → Prop} (h0 : 0 ≤ i) (h1 : i < ds.length) (h : ∀ j (hj : j < ds.length), K (ds.eraseIdx j) ds[j]) : mPopAt ds [.int i] K := by
  unfold mPopAt
  simp only
  rw [ixN_nat h0 h1]
  have hj : i.toNat < ds.length := by omega
  simp only [List.getElem?_eq_getElem hj]
  exact h _ hj
theorem sIx_k (n d k : Nat) : HT.sIx n d (some (k : Int)) = min k n := HT.sIx_nat n d k
theorem cut_take {α : Type} (xs : List α) (k : Nat) : cut xs none (some (k : Int)) = xs.take k := by
  unfold cut
  rw [sIx_k]
  have e1 : HT.sIx xs.length 0 none = 0 := rfl
  rw [e1, List.drop_zero, Nat.sub_zero, List.take_eq_take_iff]
  omega
theorem cut_drop {α : Type} (xs : List α) (k : Nat) : cut xs (some (k : Int)) none = xs.drop k := by
  unfold cut
  rw [sIx_k]
  have e2 : HT.sIx xs.length xs.length none = xs.length := rfl
  rw [e2]
  rw [List.take_of_length_le (by simp)]
  by_cases h : k ≤ xs.length
  · rw [Nat.min_eq_left h]
  · rw [Nat.min_eq_right (by omega), List.drop_length, List.drop_of_length_le (by omega)]
theorem cut_mid {α : Type} (xs : List α) (i j : Nat) : cut xs (some (i : Int)) (some (j : Int)) = (xs.take j).drop i := by
  unfold cut
  rw [sIx_k, sIx_k, List.drop_take]
  by_cases h : i ≤ xs.length
  · rw [Nat.min_eq_left h, List.take_eq_take_iff, List.length_drop]
    omega
  · rw [Nat.min_eq_right (a := i) (by omega), List.drop_length, List.drop_of_length_le (i := i) (by omega)]
    simp
theorem sIx_m1 (n d : Nat) : HT.sIx n d (some (-1)) = n - 1 := by
  show (if ((-1 : Int)) < 0 then ((-1 : Int) + (n : Int)).toNat else min (-1 : Int).toNat n) = _
  rw [if_pos (by omega)]
  omega
theorem cut_inner {α : Type} (xs : List α) : cut xs (some 1) (some (-1)) = xs.tail.dropLast := by
  unfold cut
  have e1 : HT.sIx xs.length 0 (some 1) = min 1 xs.length := HT.sIx_nat _ _ 1
  rw [e1, sIx_m1]
  cases xs with
  | nil => rfl
  | cons a l =>
    rw [List.length_cons, Nat.min_eq_left (by omega), List.dropLast_eq_take]
    simp
theorem a_repr {d Q} : pRepr [d] Q = (d.ok 64 = true ∧ d.rok = true ∧ d.rlen ≤ 16777216 ∧ Q (.d (.str (shw d)))) := rfl
def minH (ds : List D) (h : HB (R → Prop)) : Prop := pMin1 [.lst ds] h.b
theorem x_min1 {ds Q} : pMin1 [.lst ds] Q = minH ds (HB.mk Q ()) := rfl
theorem minH_ok {ds : List D} {x : List Nat} {r : List (List Nat)} {Q : R → Prop} (h : ds = (x :: r).map D.str) (q : Q (.d (.str (minS x r)))) : minH ds (HB.mk Q ()) := by
  subst h
  show (match strL ((x :: r).map D.str) with | some (x :: r) => Q (.d (.str (minS x r))) | _ => False)
  rw [strL_map]
  exact q
theorem a_min2S {x y Q} : pMin2S [.str x, .str y] Q = Q (.d (.str (if y < x then y else x))) := rfl
end Pu
set_option maxRecDepth 100000
set_option maxHeartbeats 4000000
namespace Pu
open PySem L2
theorem x_dict0 {x e Q} : tDict0 x e Q = Q (.dK []) e := rfl
theorem x_aK {i d e Q} : asgR i (.dK d) e Q = Q (e.setC i (.dK d)) := rfl
def kgC : Option C → Option (List (Key × D))
  | some (.dK ds) => some ds
  | _ => none
theorem kgC_dK {ds} : kgC (some (.dK ds)) = some ds := rfl
theorem x_kg {i e} : kget (.nam i) e = kgC e.sl[i]? := by
  show (match e.sl[i]? with | some (.dK ds) => some ds | _ => none) = _
  unfold kgC
  cases e.sl[i]? with
  | none => rfl
  | some c => cases c <;> rfl
theorem x_kgRn {i e} : kgetR (.nam i) e = kget (.nam i) e := rfl
theorem x_kgRf {ks ds e} : kgetR (.d (.dck ks ds)) e = some (ks.zip ds) := rfl
theorem x_zips {α β : Type} {l : List (α × β)} : (l.map Prod.fst).zip (l.map Prod.snd) = l := zip_split l
theorem x_ks {i e ds} : kset (.nam i) e ds = e.setC i (.dK ds) := rfl
/-- keys: ints, texts -/
def kI (i : Int) : Key := .inl i
def kS (s : List Nat) : Key := .inr ⟨s.toArray⟩
theorem key_i {i} : keyD (.int i) = some (kI i) := rfl
theorem key_s {s} : keyD (.str s) = some (kS s) := rfl
theorem kI_eq {i j} : (kI i = kI j) = (i = j) := by unfold kI; simp
theorem kS_eq {i j} : (kS i = kS j) = (i = j) := by unfold kS; simp
theorem x_dg {to ti x e Q} : tDG to ti x e Q = to x e fun r e1 => hold r e1 fun r e1 => ti x e1 fun ri e2 => opt (kgetR r e2) <| HB.mk (fun kvs => opt (rv ri e2) <| HB.mk (fun kd => opt (keyD kd) <| HB.mk (fun k => opt (getK kvs k) <| HB.mk (fun d => Q (.d d) e2) ()) ()) ()) () := by
  unfold tDG opt
  congr 1; funext r e1; congr 1; funext r e1; congr 1; funext ri e2
  cases kgetR r e2 with
  | none => rfl
  | some kvs =>
    simp only
    cases rv ri e2 with
    | none => rfl
    | some kd =>
      simp only
      cases keyD kd with
      | none => rfl
      | some k => simp only; cases getK kvs k <;> rfl
theorem x_di {neg ti to x e Q} : tDI neg ti to x e Q = ti x e fun ri e1 => hold ri e1 fun ri e1 => to x e1 fun r e2 => opt (kgetR r e2) <| HB.mk (fun kvs => opt (rv ri e2) <| HB.mk (fun kd => opt (keyD kd) <| HB.mk (fun k => Q (.d (.bl (if neg then !(getK kvs k).isSome else (getK kvs k).isSome))) e2) ()) ()) () := by
  unfold tDI opt
  congr 1; funext r e1; congr 1; funext r e1; congr 1; funext ri e2
  cases kgetR ri e2 with
  | none => rfl
  | some kvs =>
    simp only
    cases rv r e2 with
    | none => rfl
    | some kd =>
      simp only
      cases keyD kd <;> rfl
theorem x_dpt {te to ti x P e} : sDPt te to ti x P e = te x e fun r0 e1 => fz r0 e1 fun dv e2 => to x e2 fun ro e3 => hold ro e3 fun ro e3 => ti x e3 fun ri e4 => opt (kget ro e4) <| HB.mk (fun kvs => opt (rv ri e4) <| HB.mk (fun kd => opt (keyD kd) <| HB.mk (fun k => kvs.length < sizeLine ∧ P.nx (kset ro e4 (setK kvs k dv))) ()) ()) () := by
  unfold sDPt opt
  congr 1; funext r e1; congr 1; funext r e1; congr 1; funext ri e2; congr 1; funext ri e2; congr 1; funext ri2 e4
  cases kget ri e4 with
  | none => rfl
  | some kvs =>
    simp only
    cases rv ri2 e4 with
    | none => rfl
    | some kd =>
      simp only
      cases keyD kd <;> rfl
def oneR (rs : List R) (h : HB (R → Prop)) : Prop := match rs with
  | [r] => h.b r
  | _ => False
theorem oneR_1 {r f} : oneR [r] (HB.mk f ()) = f r := rfl
theorem x_enum {t x e Q} : iEnumP t x e Q = t x e fun rs e1 => oneR rs <| HB.mk (fun r => fz r e1 fun d e2 => opt d.walkE <| HB.mk (fun ds => Q (enumF 0 ds) e2) ()) () := by
  unfold iEnumP opt oneR
  congr 1; funext rs e1
  match rs with
  | [] => rfl
  | [r] =>
    show fz r e1 _ = fz r e1 _
    congr 1; funext d e2
    cases d.walkE <;> rfl
  | _ :: _ :: _ => rfl
theorem walkE_l {ds} : D.walkE (.lst ds) = some ds := rfl
theorem walkE_t {ds} : D.walkE (.tup ds) = some ds := rfl
theorem walkE_s {s} : D.walkE (.str s) = some (signs s) := rfl
theorem a_backL {ds Q} : pBack (.lst ds) Q = Q (.own ds.reverse) := rfl
theorem a_backS {s Q} : pBack (.str s) Q = Q (.d (.str s.reverse)) := rfl
theorem a_backT {ds Q} : pBack (.tup ds) Q = Q (.d (.tup ds.reverse)) := rfl
theorem x_never {x P e} : sNever x P e = False := rfl
theorem ty_t {s} : D.tyN (.tup s) = some "tuple" := rfl
theorem a_tupL {s Q} : pTuple [.lst s] Q = Q (.d (.tup s)) := rfl
theorem a_tupT {s Q} : pTuple [.tup s] Q = Q (.d (.tup s)) := rfl
/-- sorted, as a list -/
def insS (x : List Nat) : List (List Nat) → List (List Nat)
  | [] => [x]
  | y :: r => if y < x then y :: insS x r else x :: y :: r
def srt : List (List Nat) → List (List Nat)
  | [] => []
  | x :: r => insS x (srt r)
def Asc : List (List Nat) → Prop
  | [] => True
  | x :: r => (∀ y ∈ r, ¬ y < x) ∧ Asc r
theorem insS_perm (x : List Nat) : ∀ r, (insS x r).Perm (x :: r)
  | [] => .refl _
  | y :: r => by
    unfold insS
    split
    · exact ((insS_perm x r).cons y).trans (.swap ..)
    · exact .refl _
theorem srt_perm : ∀ r, (srt r).Perm r
  | [] => .refl _
  | x :: r => (insS_perm x (srt r)).trans ((srt_perm r).cons x)
theorem insS_asc {x : List Nat} : ∀ {r : List (List Nat)}, Asc r → Asc (insS x r)
  | [], _ => ⟨by simp, trivial⟩
  | y :: r, ⟨h1, h2⟩ => by
    unfold insS
    split
    · rename_i h
      refine ⟨fun z hz => ?_, insS_asc h2⟩
      rcases List.mem_cons.mp ((insS_perm x r).mem_iff.mp hz) with e | e
      · rw [e]; exact fun q => List.lt_irrefl _ (List.lt_trans q h)
      · exact h1 z e
    · rename_i h
      refine ⟨fun z hz => ?_, h1, h2⟩
      rcases List.mem_cons.mp hz with e | e
      · rw [e]; exact h
      · exact fun q => absurd (List.lt_of_le_of_lt (List.not_lt.mp (h1 z e)) q) h
theorem srt_asc : ∀ r, Asc (srt r)
  | [] => trivial
  | x :: r => insS_asc (srt_asc r)
theorem asc_unique : ∀ {a b : List (List Nat)}, Asc a → Asc b → a.Perm b → a = b
  | [], b, _, _, p => by rw [List.perm_nil.mp p.symm]
  | x :: r, b, ⟨h1, h2⟩, hb, p => by
    cases b with
    | nil => exact absurd p.length_eq (by simp)
    | cons y t =>
      obtain ⟨g1, g2⟩ := hb
      have e : x = y := by
        have hx : x ∈ y :: t := p.mem_iff.mp (by simp)
        have hy : y ∈ x :: r := p.mem_iff.mpr (by simp)
        rcases List.mem_cons.mp hx with e | e
        · exact e
        · rcases List.mem_cons.mp hy with e' | e'
          · exact e'.symm
          · exact List.le_antisymm (List.not_lt.mp (h1 y e')) (List.not_lt.mp (g1 x e))
      subst e
      rw [asc_unique h2 g2 ((List.perm_cons _).mp p)]
theorem srt_eq {a b : List (List Nat)} (p : a.Perm b) : srt a = srt b := asc_unique (srt_asc a) (srt_asc b) (((srt_perm a).trans p).trans (srt_perm b).symm)
theorem srt_len (r : List (List Nat)) : (srt r).length = r.length := (srt_perm r).length_eq
theorem srt_mem {r : List (List Nat)} {x : List Nat} : x ∈ srt r ↔ x ∈ r := (srt_perm r).mem_iff
theorem asc_cons2 {x y : List Nat} {r : List (List Nat)} (h1 : ¬ y < x) (h2 : Asc (y :: r)) : Asc (x :: y :: r) := by
  refine ⟨fun z hz => ?_, h2⟩
  rcases List.mem_cons.mp hz with e | e
  · rw [e]; exact h1
  · exact fun q => h1 (List.lt_of_le_of_lt (List.not_lt.mp (h2.1 z e)) q)
theorem asc_ris : ∀ {r : List (List Nat)} {x : List Nat}, PyProof.Rows.risingS ⟨x.toArray⟩ (r.map fun s => (⟨s.toArray⟩ : Str)) = true → Asc (x :: r)
  | [], _, _ => ⟨by simp, trivial⟩
  | y :: r, x, h => by
    simp only [List.map_cons, PyProof.Rows.risingS, Bool.and_eq_true] at h
    obtain ⟨h1, h2⟩ := h
    refine asc_cons2 ?_ (asc_ris h2)
    rw [PyProof.Rows.ltCps_eq] at h1
    simpa using h1
theorem asc_of : ∀ {r : List (List Nat)}, PyProof.Rows.sortedS (r.map fun s => (⟨s.toArray⟩ : Str)) = true → Asc r
  | [], _ => trivial
  | x :: r, h => asc_ris h
def sortH (ds : List D) (h : HB (R → Prop)) : Prop := pSortT [.lst ds] h.b
theorem x_sort {ds Q} : pSortT [.lst ds] Q = sortH ds (HB.mk Q ()) := rfl
theorem sort_ok {ds : List D} {r : List (List Nat)} {Q : R → Prop} (h : ds = r.map D.str) (hl : r.length < 64) (q : Q (.own ((srt r).map D.str))) : sortH ds (HB.mk Q ()) := by
  subst h
  show pSortT _ _
  unfold pSortT
  simp only [strL_map]
  refine ⟨hl, fun r' p s => ?_⟩
  rw [asc_unique (asc_of s) (srt_asc r) (p.trans (srt_perm r).symm)]
  exact q
def sortSH (w : List Nat) (h : HB (R → Prop)) : Prop := pSortT [.str w] h.b
theorem x_sortS {w Q} : pSortT [.str w] Q = sortSH w (HB.mk Q ()) := rfl
end Pu
set_option maxRecDepth 100000
set_option maxHeartbeats 4000000
namespace Pu
open PySem L2
theorem m_ext {ds zs K} : mExtend ds [.lst zs] K = (ds.length + zs.length ≤ sizeLine ∧ K (ds ++ zs) .non) := rfl
theorem m_rev {ds K} : mReverse ds [] K = K ds.reverse .non := rfl
def enF {α : Type} : Nat → List α → List (Nat × α)
  | _, [] => []
  | i, a :: l => (i, a) :: enF (i + 1) l
theorem enF_len {α : Type} : ∀ (l : List α) (i : Nat), (enF i l).length = l.length
  | [], _ => rfl
  | a :: l, i => by simp [enF, enF_len l]
theorem enF_get {α : Type} : ∀ (l : List α) (k i : Nat), (enF k l)[i]? = l[i]?.map fun a => (k + i, a)
  | [], _, _ => by simp [enF]
  | a :: l, k, 0 => by simp [enF]
  | a :: l, k, i + 1 => by
    have e1 : k + 1 + i = k + (i + 1) := by omega
    rw [enF, List.getElem?_cons_succ, List.getElem?_cons_succ, enF_get l (k + 1) i, e1]
theorem enF_map {α : Type} (f : α → D) : ∀ (l : List α) (i : Nat), enumF i (l.map f) = (enF i l).map fun p => .tup [.int (p.1 : Nat), f p.2]
  | [], _ => rfl
  | a :: l, i => by
    rw [List.map_cons, enumF, enF, List.map_cons, enF_map f l (i + 1)]
theorem enF_signs (w : List Nat) (i : Nat) : enumF i (signs w) = (enF i w).map fun p => .tup [.int (p.1 : Nat), .str [p.2]] := enF_map (fun c => .str [c]) w i
theorem enF_mem {α : Type} {l : List α} {k : Nat} {p : Nat × α} (h : p ∈ enF k l) : ∃ i, l[i]? = some p.2 ∧ p.1 = k + i := by
  obtain ⟨i, hi⟩ := List.mem_iff_getElem?.mp h
  rw [enF_get] at hi
  cases q : l[i]? with
  | none => rw [q] at hi; cases hi
  | some a => rw [q] at hi; cases hi; exact ⟨i, q, rfl⟩
theorem All2.get {α β : Type} {R : α → β → Prop} : ∀ {as : List α} {bs : List β} {i : Nat} {a : α}, All2 R as bs → as[i]? = some a → ∃ b, bs[i]? = some b ∧ R a b
  | _, _, 0, _, .cons h t, e => by simp at e; subst e; exact ⟨_, rfl, h⟩
  | _, _, i + 1, _, .cons h t, e => by
    obtain ⟨b, h1, h2⟩ := All2.get (i := i) t (by simpa using e)
    exact ⟨b, by simpa using h1, h2⟩
theorem All2.get' {α β : Type} {R : α → β → Prop} : ∀ {as : List α} {bs : List β} {i : Nat} {b : β}, All2 R as bs → bs[i]? = some b → ∃ a, as[i]? = some a ∧ R a b
  | _, _, 0, _, .cons h t, e => by simp at e; subst e; exact ⟨_, rfl, h⟩
  | _, _, i + 1, _, .cons h t, e => by
    obtain ⟨b, h1, h2⟩ := All2.get' (i := i) t (by simpa using e)
    exact ⟨b, by simpa using h1, h2⟩
/-- comprehensions over mapped lists -/
theorem lcR_fm {α : Type} {g : PTG} {tt : PTT} {te : PTE} {vs : List Nat} {e : En} {Q : List D → En → Prop} (g0 : α → D) (p : α → Bool) (f : α → D) :
    ∀ (l : List α) (acc : List D), (∀ a ∈ l, ∀ K : Option D → En → Prop, K (if p a = true then some (f a) else none) e → g (g0 a) e fun e1 => tt noX e1 fun b e2 => if b = true then te noX e2 fun r e3 => fz r e3 fun y e4 => K (some y) (wipeE vs e4) else K none (wipeE vs e2)) →
      Q (acc ++ (l.filter p).map f) e → lcR g tt te vs (l.map g0) acc e Q
  | [], acc, _, k => by rw [List.filter_nil, List.map_nil, List.append_nil] at k; exact k
  | a :: l, acc, h, k => by
    refine h a (by simp) (fun o e' => match o with | some y => lcR g tt te vs (l.map g0) (acc ++ [y]) e' Q | none => lcR g tt te vs (l.map g0) acc e' Q) ?_
    by_cases hp : p a = true
    · rw [if_pos hp]
      refine lcR_fm g0 p f l (acc ++ [f a]) (fun d' hd => h d' (List.mem_cons_of_mem _ hd)) ?_
      rw [List.filter_cons_of_pos hp, List.map_cons] at k
      rw [List.append_assoc]
      exact k
    · rw [if_neg hp]
      refine lcR_fm g0 p f l acc (fun d' hd => h d' (List.mem_cons_of_mem _ hd)) ?_
      rw [List.filter_cons_of_neg hp] at k
      exact k
theorem lcH_mm {α : Type} {g : PTG} {te : PTE} {vs : List Nat} {e : En} {Q : List D → En → Prop} {l : List α} {g0 : α → D} (f : α → D) (h : ∀ a ∈ l, ∀ K : D → En → Prop, K (f a) e → g (g0 a) e fun e1 => te noX e1 fun r e3 => fz r e3 fun y e4 => K y (wipeE vs e4)) (q : Q (l.map f) e) : lcH (l.map g0) e (HB.mk (g, cYes, te, vs, Q) ()) := by
  refine lcR_fm g0 (fun _ => true) f l [] (fun a ha K k => ?_) ?_
  · have k : K (some (f a)) e := k
    exact h a ha (fun y e' => K (some y) e') k
  · have : l.filter (fun _ => true) = l := List.filter_eq_self.mpr fun _ _ => rfl
    rw [this]
    simpa using q
theorem ixOf_lt {c : Nat} {l : List Nat} (h : c ∈ l) : ixOf c l < l.length := (List.getElem?_eq_some_iff.mp (ixOf_spec h).1).1
end Pu
set_option maxRecDepth 100000
set_option maxHeartbeats 4000000
namespace Pu
open PySem L2
def sortPH (d : D) (h : HB (R → Prop)) : Prop := pSortP [d] h.b
theorem x_sortP {d Q} : pSortP [d] Q = sortPH d (HB.mk Q ()) := rfl
end Pu
set_option maxRecDepth 100000
set_option maxHeartbeats 4000000
namespace Pu
open PySem L2
theorem a_slR {n lo hi Q} : pSl (.scr n) lo hi Q = ∀ ns : List Int, ns.length = (cut (List.range n) lo hi).length → Q (.own (ns.map D.int)) := rfl
def twoR (rs : List R) (h : HB (R → R → Prop)) : Prop := match rs with
  | [r1, r2] => h.b r1 r2
  | _ => False
theorem twoR_2 {r1 r2 f} : twoR [r1, r2] (HB.mk f ()) = f r1 r2 := rfl
def sideH (d : D) (h : HB (List D → Prop)) : Prop := match d.side with
  | some (_, ds) => h.b ds
  | none => False
theorem side_l {ds f} : sideH (.lst ds) (HB.mk f ()) = f ds := rfl
theorem side_t {ds f} : sideH (.tup ds) (HB.mk f ()) = f ds := rfl
theorem x_zip {t x e Q} : iZipP t x e Q = t x e fun rs e1 => twoR rs <| HB.mk (fun r1 r2 => fz r1 e1 fun d1 e2 => fz r2 e2 fun d2 e3 => sideH d1 <| HB.mk (fun ds => sideH d2 <| HB.mk (fun es => (∀ d ∈ ds, isPr d = false) ∧ Q (zipF ds es) e3) ()) ()) () := by
  unfold iZipP twoR sideH
  congr 1; funext rs e1
  match rs with
  | [] => rfl
  | [r] => rfl
  | [r1, r2] =>
    show fz r1 e1 _ = fz r1 e1 _
    congr 1; funext d1 e2
    congr 1; funext d2 e3
    cases d1.side with
    | none => cases d2.side <;> rfl
    | some p => cases d2.side <;> rfl
  | _ :: _ :: _ :: _ => rfl
def sumH (ds : List D) (h : HB (R → Prop)) : Prop := pSum [.lst ds] h.b
theorem x_sum {ds Q} : pSum [.lst ds] Q = sumH ds (HB.mk Q ()) := rfl
theorem a_count {l c Q} : pCount (.str l) [.str [c]] Q = Q (.d (.int (l.count c : Nat))) := rfl
def augC (c : C) (h : HB (Nat × PTE × PX × PEn × En)) : Prop := match c with
  | .d (.int a) => h.b.2.1 h.b.2.2.1 h.b.2.2.2.2 fun r e1 => match rv r e1 with
    | some (.int b) => h.b.1 < e1.sl.length ∧ h.b.2.2.2.1.nx (e1.setC h.b.1 (.d (.int (a + b))))
    | _ => False
  | _ => False
theorem augC_i {i te x P e a} : augC (.d (.int a)) (HB.mk (i, te, x, P, e) ()) = te x e fun r e1 => opt (rv r e1) <| HB.mk (fun d => iC d <| HB.mk (fun b => i < e1.sl.length ∧ P.nx (e1.setC i (.d (.int (a + b))))) ()) () := by
  show te x e _ = te x e _
  congr 1; funext r e1
  unfold opt iC
  cases rv r e1 with
  | none => rfl
  | some d => cases d <;> rfl
theorem x_aug {i te x P e} : sAug i te x P e = (opt e.sl[i]? <| HB.mk (fun c => augC c (HB.mk (i, te, x, P, e) ())) ()) := by
  unfold sAug opt augC
  cases e.sl[i]? with
  | none => rfl
  | some c =>
    cases c with
    | d d => cases d <;> rfl
    | _ => rfl
end Pu
set_option maxRecDepth 100000
set_option maxHeartbeats 4000000
namespace Pu
open PySem L2
def twoD (ds : List D) (h : HB (D → D → Prop)) : Prop := match ds with
  | [d1, d2] => h.b d1 d2
  | _ => False
theorem twoD_2 {d1 d2 f} : twoD [d1, d2] (HB.mk f ()) = f d1 d2 := rfl
theorem x_par {i j t x P e} : sPar i j t x P e = t x e fun ds e1 => twoD ds <| HB.mk (fun d1 d2 => i < e1.sl.length ∧ j < e1.sl.length ∧ P.nx ((e1.setC i (.d d1)).setC j (.d d2))) () := by
  unfold sPar twoD
  rfl
theorem x_raise {c n t x D e} : sRaise c n t x D e = t x e fun ds e1 => ds.length = n ∧ x ⟨c, ds⟩ e1.st := rfl
theorem x_callX {m t x e Q} : tCallX m t x e Q = t x e fun ds e1 => m ds e1.st (fun c st' => Q c.toR ⟨e1.sl, st'⟩) x := rfl
/-- what the clause does with an exception -/
def trH (n i : Nat) (fl : Nat → List Str) (cb : Nat → Bool) (h : HB (PTS × PEn)) : PX := fun ex st => cb ex.c = true ∧ h.b.1 noX { nx := fun e' => h.b.2.nx (wipeE [i] e'), rt := h.b.2.rt, bk := fun e' => h.b.2.bk (wipeE [i] e'), ct := fun e' => h.b.2.ct (wipeE [i] e') } ⟨(List.replicate n C.un).set i (.d (.exc ex.c (fl ex.c) ex.ds)), st⟩
def noOwn (l : List C) : Prop := (l.all fun c => !c.isOwn) = true
theorem ow_nil : noOwn [] = True := by simp [noOwn]
theorem ow_un {l} : noOwn (.un :: l) = noOwn l := by simp [noOwn, C.isOwn]
theorem ow_d {d l} : noOwn (.d d :: l) = noOwn l := by simp [noOwn, C.isOwn]
theorem x_try {n i fl cb tb ts x D e} : sTry n i fl cb tb ts x D e = (noOwn e.sl ∧ i < n ∧ tb (trH n i fl cb (HB.mk (ts, D) ())) D e) := rfl
theorem x_subA {to ti dv x e Q} : subA to ti dv x e Q = to x e fun ro e3 => hold ro e3 fun ro e3 => ti x e3 fun ri e4 => opt (rv ri e4) <| HB.mk (fun d => iC d <| HB.mk (fun i => setAt ro dv i e4 Q) ()) () := by
  unfold subA opt iC
  congr 1; funext ro e3; congr 1; funext ro e3; congr 1; funext ri e4
  cases rv ri e4 with
  | none => rfl
  | some d => cases d <;> rfl
theorem x_setN {k dv i e Q} : setAt (.nam k) dv i e Q = (opt (mget (.nam k) e) <| HB.mk (fun ds => opt (ixN ds.length i) <| HB.mk (fun j => Q (mset (.nam k) e (ds.set j dv))) ()) ()) := by
  unfold opt
  show (match mget (.nam k) e with | some ds => (match ixN ds.length i with | some j => Q (mset (.nam k) e (ds.set j dv)) | none => False) | none => False) = _
  cases mget (.nam k) e with
  | none => rfl
  | some ds =>
    simp only
    cases ixN ds.length i <;> rfl
def D.two : D → Option (D × D)
  | .tup [a, b] => some (a, b)
  | _ => none
theorem a_two {a b : D} : D.two (.tup [a, b]) = some (a, b) := rfl
theorem x_swIx {te to ti to2 ti2 x P e} : sSwIx te to ti to2 ti2 x P e = te x e fun r0 e1 => fz r0 e1 fun dv e2 => opt dv.two <| HB.mk (fun p => subA to ti p.1 x e2 fun e3 => subA to2 ti2 p.2 x e3 P.nx) () := by
  unfold sSwIx opt
  congr 1; funext r0 e1; congr 1; funext dv e2
  split
  · rfl
  · rename_i h
    cases hd : D.two dv with
    | none => rfl
    | some p =>
      unfold D.two at hd
      split at hd
      · exact absurd rfl (h _ _)
      · cases hd
theorem x_mkX {c ns t x e Q} : tMkX c ns t x e Q = t x e fun ds e1 => ds.length = ns.length ∧ Q (.d (.exc c ns ds)) e1 := rfl
theorem x_mk0 {c x e Q} : tMk0 c x e Q = Q (.d (.exc c [] [])) e := rfl
theorem x_raise0 {c x D e} : sRaise0 c x D e = x ⟨c, []⟩ e.st := rfl
def D.exB (tb : Nat → Option Bool) : D → Option Bool
  | .exc c _ _ => tb c
  | _ => none
theorem a_exB {tb c ns ds} : D.exB tb (.exc c ns ds) = tb c := rfl
theorem a_tbl {bs c} : tbl bs c = bs[c]? := rfl
theorem a_cbl {n c} : cbl n c = decide (c < n) := rfl
theorem x_isX {tb te x e Q} : tIsX tb te x e Q = te x e fun r e1 => opt (rv r e1) <| HB.mk (fun d => opt (d.exB tb) <| HB.mk (fun b => Q (.d (.bl b)) e1) ()) () := by
  unfold tIsX opt
  congr 1; funext r e1
  cases rv r e1 with
  | none => rfl
  | some d =>
    cases d with
    | exc c ns ds =>
      simp only [D.exB]
      cases tb c <;> rfl
    | _ => rfl
def D.exA (n : Str) (cb : Nat → Bool) : D → Option D
  | .exc c ns ds => if cb c = true then xlk n ns ds else none
  | _ => none
theorem x_xattr {n cb te x e Q} : tXA n cb te x e Q = te x e fun r e1 => opt (rv r e1) <| HB.mk (fun d => opt (d.exA n cb) <| HB.mk (fun y => Q (.d y) e1) ()) () := by
  unfold tXA opt
  congr 1; funext r e1
  cases rv r e1 with
  | none => rfl
  | some d =>
    cases d with
    | exc c ns ds =>
      simp only [D.exA]
      cases cb c with
      | false => exact propext ⟨fun h => absurd h.1 Bool.false_ne_true, fun h => h.elim⟩
      | true =>
        simp only [true_and, if_true]
        cases xlk n ns ds <;> rfl
    | _ => rfl
end Pu
set_option maxRecDepth 100000
set_option maxHeartbeats 4000000
namespace Pu
open PySem L2 PySem.Spec PyProof.Rows PuE
theorem x_dictT0 {x e Q} : tDictT0 x e Q = Q (.dT []) e := rfl
theorem x_aT {i d e Q} : asgR i (.dT d) e Q = Q (e.setC i (.dT d)) := rfl
theorem toR_T {d} : C.toR (.dT d) = .dT d := rfl
theorem toR_K {d} : C.toR (.dK d) = .dK d := rfl
theorem retC_dT {D d e} : retC (.dT d) (HB.mk (D, e) ()) = D.rt (.dT d) e := rfl
theorem retC_dK {D d e} : retC (.dK d) (HB.mk (D, e) ()) = D.rt (.dK d) e := rfl
theorem x_retT {D d e} : retR D (.dT d) e = D.rt (.dT d) e := rfl
theorem x_retK {D d e} : retR D (.dK d) e = D.rt (.dK d) e := rfl
def tgC : Option C → Option (List (List Key × D))
  | some (.dT ds) => some ds
  | _ => none
theorem tgC_dT {ds} : tgC (some (.dT ds)) = some ds := rfl
theorem x_tgg {i e} : tget (.nam i) e = tgC e.sl[i]? := by
  show (match e.sl[i]? with | some (.dT ds) => some ds | _ => none) = _
  unfold tgC
  cases e.sl[i]? with
  | none => rfl
  | some c => cases c <;> rfl
theorem x_tgRn {i e} : tgetR (.nam i) e = tget (.nam i) e := rfl
theorem x_tgRf {ks ds e} : tgetR (.d (.dct ks ds)) e = some (ks.zip ds) := rfl
theorem x_tss {i e ds} : tset (.nam i) e ds = e.setC i (.dT ds) := rfl
theorem tupK_t {ds} : tupK (.tup ds) = keyL ds := rfl
def consK : Option Key → Option (List Key) → Option (List Key)
  | some k, some ks => some (k :: ks)
  | _, _ => none
theorem consK_s {k ks} : consK (some k) (some ks) = some (k :: ks) := rfl
theorem keyL_n : keyL [] = some [] := rfl
theorem keyL_c {d ds} : keyL (d :: ds) = consK (keyD d) (keyL ds) := by
  rw [keyL]
  cases keyD d with
  | none => rfl
  | some k => simp only; cases keyL ds <;> rfl
theorem x_dgT {to ti x e Q} : tDGT to ti x e Q = to x e fun r e1 => hold r e1 fun r e1 => ti x e1 fun ri e2 => opt (tgetR r e2) <| HB.mk (fun kvs => opt (rv ri e2) <| HB.mk (fun kd => opt (tupK kd) <| HB.mk (fun k => opt (getA kvs k) <| HB.mk (fun d => Q (.d d) e2) ()) ()) ()) () := by
  unfold tDGT opt
  congr 1; funext r e1; congr 1; funext r e1; congr 1; funext ri e2
  cases tgetR r e2 with
  | none => rfl
  | some kvs =>
    simp only
    cases rv ri e2 with
    | none => rfl
    | some kd =>
      simp only
      cases tupK kd with
      | none => rfl
      | some k => simp only; cases getA kvs k <;> rfl
theorem x_dptT {te to ti x P e} : sDPtT te to ti x P e = te x e fun r0 e1 => fz r0 e1 fun dv e2 => to x e2 fun ro e3 => hold ro e3 fun ro e3 => ti x e3 fun ri e4 => opt (tget ro e4) <| HB.mk (fun kvs => opt (rv ri e4) <| HB.mk (fun kd => opt (tupK kd) <| HB.mk (fun k => kvs.length < sizeLine ∧ P.nx (tset ro e4 (setA kvs k dv))) ()) ()) () := by
  unfold sDPtT opt
  congr 1; funext r e1; congr 1; funext r e1; congr 1; funext ri e2; congr 1; funext ri e2; congr 1; funext ri2 e4
  cases tget ri e4 with
  | none => rfl
  | some kvs =>
    simp only
    cases rv ri2 e4 with
    | none => rfl
    | some kd =>
      simp only
      cases tupK kd <;> rfl
theorem x_callT {p t x e Q} : tCallT p t x e Q = t x e fun rs e1 => oneR rs <| HB.mk (fun r => opt (tgetR r e1) <| HB.mk (fun kvs => p kvs fun r => Q r e1) ()) () := by
  unfold tCallT opt oneR
  congr 1; funext rs e1
  match rs with
  | [] => rfl
  | [r] => simp only; cases tgetR r e1 <;> rfl
  | _ :: _ :: _ => rfl
theorem a_lenTT {kvs Q} : pLenT kvs Q = Q (.d (.int kvs.length)) := rfl
theorem a_listT {kvs Q} : pListT kvs Q = (kvs.length ≤ sizeLine ∧ (∀ kv ∈ kvs, kv.1.length ≤ sizeLine ∧ kv.1.all isIK = true) ∧ Q (.own (kvs.map fun kv => .tup (kv.1.map invK)))) := rfl
theorem a_dictT {ds Q} : pDictT [.lst ds] Q = (opt (pairsT ds) <| HB.mk (fun kvs => Q (.dT (mergeA [] kvs))) ()) := by
  unfold pDictT opt
  simp only
  cases pairsT ds <;> rfl
theorem a_dictK {ds Q} : pDictK [.lst ds] Q = (opt (pairsK ds) <| HB.mk (fun kvs => Q (.dK (mergeA [] kvs))) ()) := by
  unfold pDictK opt
  simp only
  cases pairsK ds <;> rfl
theorem x_chn {g g' ta tb tc x e Q} : tChn g g' ta tb tc x e Q = ta x e fun r0 e1 => opt (rv r0 e1) <| HB.mk (fun d => iC d <| HB.mk (fun i => tb x e1 fun r1 e2 => opt (rv r1 e2) <| HB.mk (fun d => iC d <| HB.mk (fun j => br (g i j) (HB.mk ((tc x e2 fun r2 e3 => opt (rv r2 e3) <| HB.mk (fun d => iC d <| HB.mk (fun k => Q (.d (.bl (g' j k))) e3) ()) ()), (Q (.d (.bl false)) e2)) ())) ()) ()) ()) () := by
  unfold tChn opt iC br
  congr 1; funext r0 e1
  cases rv r0 e1 with
  | none => rfl
  | some d =>
    cases d with
    | int i =>
      simp only
      congr 1; funext r1 e2
      cases rv r1 e2 with
      | none => rfl
      | some d =>
        cases d with
        | int j =>
          simp only
          congr 1
          congr 1; funext r2 e3
          cases rv r2 e3 with
          | none => rfl
          | some d => cases d <;> rfl
        | _ => rfl
    | _ => rfl
theorem a_mmT {f : Int → List Int → Int} {i j : Int} {Q} : pMMI f [.tup [.int i, .int j]] Q = Q (.d (.int (f i [j]))) := rfl
theorem fold1 {f : Int → Int → Int} {i j : Int} : [j].foldl f i = f i j := rfl
def sortNH (d : D) (h : HB (R → Prop)) : Prop := pSortN [d] h.b
theorem x_sortN {d Q} : pSortN [d] Q = sortNH d (HB.mk Q ()) := rfl
theorem ltN_total {a b : List Itm} (h1 : ltN a b = false) (h2 : ltN b a = false) : a = b := (listOrd itemOrd).total a b h1 h2
theorem ltN_unique : ∀ {a b : List (List Itm)}, a.Pairwise (fun x y => ltN y x = false) → b.Pairwise (fun x y => ltN y x = false) → a.Perm b → a = b
  | [], b, _, _, p => by rw [List.perm_nil.mp p.symm]
  | x :: r, b, ha, hb, p => by
    rw [List.pairwise_cons] at ha
    cases b with
    | nil => exact absurd p.length_eq (by simp)
    | cons y t =>
      rw [List.pairwise_cons] at hb
      have e : x = y := by
        have hx : x ∈ y :: t := p.mem_iff.mp (by simp)
        have hy : y ∈ x :: r := p.mem_iff.mpr (by simp)
        rcases List.mem_cons.mp hx with e | e
        · exact e
        · rcases List.mem_cons.mp hy with e' | e'
          · exact e'.symm
          · exact ltN_total (hb.1 x e) (ha.1 y e')
      subst e
      rw [ltN_unique ha.2 hb.2 ((List.perm_cons _).mp p)]
def nT (l : List Nat) : List Itm := l.map fun n : Nat => (Sum.inl (n : Int) : Itm)
end Pu
set_option maxRecDepth 100000
set_option maxHeartbeats 4000000
namespace Pu
open PySem L2
theorem a_lenSS {ds Q} : pLenS (.lst ds) Q = (opt (strL ds) <| HB.mk (fun ls => ls.length < 64 ∧ Q (.d (.int (unlT ls)))) ()) := by
  unfold opt
  show (match strL ds with | some ls => _ | none => False) = _
  cases strL ds <;> rfl
theorem a_ltT {xs ys Q} : pLtT (.tup xs) (.tup ys) Q = (opt (intL xs) <| HB.mk (fun ns => opt (intL ys) <| HB.mk (fun ms => Q (.d (.bl (HT.lexLt ns ms)))) ()) ()) := by
  unfold opt
  show (match intL xs, intL ys with | some ns, some ms => _ | _, _ => False) = _
  cases intL xs with
  | none => rfl
  | some ns => cases intL ys <;> rfl
theorem intL_n : intL [] = some [] := rfl
def consI (i : Int) : Option (List Int) → Option (List Int)
  | some l => some (i :: l)
  | none => none
theorem consI_s {i l} : consI i (some l) = some (i :: l) := rfl
theorem intL_c {i ds} : intL (.int i :: ds) = consI i (intL ds) := by
  rw [intL]
  cases intL ds <;> rfl
def consS (i : List Nat) : Option (List (List Nat)) → Option (List (List Nat))
  | some l => some (i :: l)
  | none => none
theorem consS_s {i l} : consS i (some l) = some (i :: l) := rfl
theorem strL_n : strL [] = some [] := rfl
theorem strL_c {i ds} : strL (.str i :: ds) = consS i (strL ds) := by
  rw [strL]
  cases strL ds <;> rfl
theorem x_chn3 {g1 g2 g3 ta tb tc td x e Q} : tChn3 g1 g2 g3 ta tb tc td x e Q = ta x e fun r0 e1 => opt (rv r0 e1) <| HB.mk (fun d => iC d <| HB.mk (fun i => tb x e1 fun r1 e2 => opt (rv r1 e2) <| HB.mk (fun d => iC d <| HB.mk (fun j => br (g1 i j) (HB.mk ((tc x e2 fun r2 e3 => opt (rv r2 e3) <| HB.mk (fun d => iC d <| HB.mk (fun k => br (g2 j k) (HB.mk ((td x e3 fun r3 e4 => opt (rv r3 e4) <| HB.mk (fun d => iC d <| HB.mk (fun l => Q (.d (.bl (g3 k l))) e4) ()) ()), (Q (.d (.bl false)) e3)) ())) ()) ()), (Q (.d (.bl false)) e2)) ())) ()) ()) ()) () := by
  unfold tChn3 opt iC br
  congr 1; funext r0 e1
  cases rv r0 e1 with
  | none => rfl
  | some d =>
    cases d with
    | int i =>
      simp only
      congr 1; funext r1 e2
      cases rv r1 e2 with
      | none => rfl
      | some d =>
        cases d with
        | int j =>
          simp only
          congr 1
          congr 1; funext r2 e3
          cases rv r2 e3 with
          | none => rfl
          | some d =>
            cases d with
            | int k =>
              simp only
              congr 1
              congr 1; funext r3 e4
              cases rv r3 e4 with
              | none => rfl
              | some d => cases d <;> rfl
            | _ => rfl
        | _ => rfl
    | _ => rfl
end Pu
set_option maxRecDepth 100000
set_option maxHeartbeats 4000000
namespace Pu
open PySem L2
end Pu
set_option maxRecDepth 100000
set_option maxHeartbeats 4000000
namespace Pu
open PySem L2
theorem a_dictN {ds Q} : pDictN [.lst ds] Q = (opt (pairsN ds) <| HB.mk (fun kvs => (kvs.map (·.1)).Nodup ∧ (∀ p ∈ kvs, p.1.depth ≤ 8 ∧ ∃ ds, p.2.1 = .tup ds) ∧ Q (.d (.dcn (kvs.map (·.2.1)) (kvs.map (·.2.2))))) ()) := by
  unfold pDictN opt
  simp only
  cases pairsN ds <;> rfl
theorem a_gN {ks is kd Q} : pGN (.dcn ks is) kd Q = (opt (getN ks is kd) <| HB.mk (fun i => Q (.d (.int i))) ()) := by
  unfold opt
  show (match getN ks is kd with | some i => Q (.d (.int i)) | none => False) = _
  cases getN ks is kd <;> rfl
theorem x_gls {n t ds e Q} : gLs n t (.lst ds) e Q = (ds.length = n ∧ t ds e Q) := rfl
def tC (d : D) (h : HB (List D → Prop)) : Prop := match d with
  | .tup s => h.b s
  | _ => False
theorem tC_s {b f} : tC (.tup b) (HB.mk f ()) = f b := rfl
theorem x_revT {t x e Q} : iRevT t x e Q = t x e fun r e1 => fz r e1 fun d e2 => tC d <| HB.mk (fun s => Q s.reverse e2) () := by
  unfold iRevT tC
  congr 1
end Pu
set_option maxRecDepth 100000
set_option maxHeartbeats 4000000
namespace Pu
open PySem L2
theorem x_chS {g g' ta tb tc x e Q} : tChS g g' ta tb tc x e Q = ta x e fun r0 e1 => opt (rv r0 e1) <| HB.mk (fun d => sC d <| HB.mk (fun i => tb x e1 fun r1 e2 => opt (rv r1 e2) <| HB.mk (fun d => sC d <| HB.mk (fun j => br (g i j) (HB.mk ((tc x e2 fun r2 e3 => opt (rv r2 e3) <| HB.mk (fun d => sC d <| HB.mk (fun k => Q (.d (.bl (g' j k))) e3) ()) ()), (Q (.d (.bl false)) e2)) ())) ()) ()) ()) () := by
  unfold tChS opt sC br
  congr 1; funext r0 e1
  cases rv r0 e1 with
  | none => rfl
  | some d =>
    cases d with
    | str i =>
      simp only
      congr 1; funext r1 e2
      cases rv r1 e2 with
      | none => rfl
      | some d =>
        cases d with
        | str j =>
          simp only
          congr 1
          congr 1; funext r2 e3
          cases rv r2 e3 with
          | none => rfl
          | some d => cases d <;> rfl
        | _ => rfl
    | _ => rfl
end Pu
set_option maxRecDepth 100000
set_option maxHeartbeats 4000000
namespace Pu
open PySem L2 PuE
def ltNH (d e : D) (h : HB (R → Prop)) : Prop := pLtN d e h.b
theorem x_ltN {d e Q} : pLtN d e Q = ltNH d e (HB.mk Q ()) := rfl
/-- what the clause without a name does with an exception -/
def trH0 (n : Nat) (cb : Nat → Bool) (h : HB (PTS × PEn)) : PX := fun ex st => cb ex.c = true ∧ h.b.1 noX h.b.2 ⟨List.replicate n C.un, st⟩
theorem x_try0 {n cb tb ts x D e} : sTry0 n cb tb ts x D e = (noOwn e.sl ∧ tb (trH0 n cb (HB.mk (ts, D) ())) D e) := rfl
end Pu
set_option maxRecDepth 100000
set_option maxHeartbeats 4000000
namespace Pu
open PySem L2
section
variable {Γ Γ' : Gm} {κ κ' : Ka} {H H' : Hp} {env env' : En} {σ : Sl} {v : V} {st : Sto} {Y : Fam} {e o value : Expr} {te tv : PTE} {pos pos' : Pos}
/-- an attribute of an object of the class c -/
def getF (c : Nat) (f : Str) (st : Sto) : D → Option D
  | .ref k => match st[k]? with
    | some (.ins c' fs) => if c' = c then fs.lookup f else none
    | _ => none
  | _ => none
def tFldP (c : Nat) (f : Str) (te : PTE) : PTE := fun x e Q => te x e fun r e1 => match rv r e1 with
  | some d => match getF c f e1.st d with
    | some y => Q (.d y) e1
    | none => False
  | none => False
/-- what is kept in an object: data, or a new list or dict as an object of its own -/
def kp : R → En → (D → En → Prop) → Prop
  | .d d, e, Q => Q d e
  | .own ds, e, Q => Q (.ref e.st.length) ⟨e.sl, e.st ++ [.lst ds]⟩
  | .dK kvs, e, Q => Q (.ref e.st.length) ⟨e.sl, e.st ++ [.dK kvs]⟩
  | .dT kvs, e, Q => Q (.ref e.st.length) ⟨e.sl, e.st ++ [.dT kvs]⟩
  | .nam i, e, Q => match e.sl[i]? with
    | some (.d d) => Q d e
    | _ => False
def setFD (f : Str) (d : D) : List (Str × D) → List (Str × D)
  | [] => [(f, d)]
  | (g, x) :: r => if g = f then (g, d) :: r else (g, x) :: setFD f d r
def putFS (c : Nat) (f : Str) (d : D) (ro : D) (e : En) (N : En → Prop) : Prop := match ro with
  | .ref k => match e.st[k]? with
    | some (.ins c' fs) => c' = c ∧ fs.length < 1000 ∧ N ⟨e.sl, e.st.set k (.ins c (setFD f d fs))⟩
    | _ => False
  | _ => False
def sFldP (c : Nat) (f : Str) (te tv : PTE) : PTS := fun x P e => tv x e fun r0 e1 => kp r0 e1 fun d e2 => te x e2 fun ro e3 => match rv ro e3 with
  | some o => putFS c f d o e3 P.nx
  | none => False
end
end Pu
set_option maxRecDepth 100000
set_option maxHeartbeats 4000000
namespace Pu
open PySem L2 PySem.Spec PyProof.Rows
section
variable {Γ Γ' : Gm} {κ κ' : Ka} {H H' : Hp} {env env' : En} {σ : Sl} {v : V} {st : Sto} {Y : Fam} {e o value : Expr} {es : List Expr} {to : PTE} {t : PTA} {pos apos p : Pos}
/-- an object of the class c that has no attribute of the name -/
def noF (c : Nat) (f : Str) (st : Sto) (d : D) : Prop := match d with
  | .ref k => match st[k]? with
    | some (.ins c' fs) => c' = c ∧ fs.lookup f = none
    | _ => False
  | _ => False
def tMethP (c : Nat) (nm : Str) (m : PM) (to : PTE) (t : PTA) : PTE := fun x e Q => to x e fun ro e1 => match rv ro e1 with
  | some d => noF c nm e1.st d ∧ t x e1 fun ds e2 => m (d :: ds) e2.st fun c st' => Q c.toR ⟨e2.sl, st'⟩
  | none => False
def tMakeP (c : Nat) (m : PM) (t : PTA) : PTE := fun x e Q => t x e fun ds e1 => m (.ref e1.st.length :: ds) (e1.st ++ [.ins c []]) fun r st' => r = .d .non ∧ Q (.d (.ref e1.st.length)) ⟨e1.sl, st'⟩
end
end Pu
set_option maxRecDepth 100000
set_option maxHeartbeats 4000000
namespace Pu
open PySem L2 PySem.Spec PyProof.Rows
section
variable {Γ Γ' : Gm} {κ κ' : Ka} {H H' : Hp} {env env' : En} {σ : Sl} {v : V} {st : Sto} {Y : Fam} {a b e o value : Expr} {te tv ta tb : PTE} {pos pos' : Pos}
def sFldZ (c : Nat) (f : Str) (te tv : PTE) : PTS := fun x P e => tv x e fun r0 e1 => fz r0 e1 fun d e2 => te x e2 fun ro e3 => match rv ro e3 with
  | some o => putFS c f d o e3 P.nx
  | none => False
/-- what a value reads as: a list of the store as its things -/
def rdO (st : Sto) : D → D
  | .ref k => match st[k]? with
    | some (.lst ds) => .lst ds
    | _ => .ref k
  | d => d
def t2O (ta tb : PTE) (p : D → D → (R → Prop) → Prop) : PTE := fun x env Q => ta x env fun r1 e1 => hold r1 e1 fun r1 e1 => tb x e1 fun r2 e2 =>
  match rv r1 e2, rv r2 e2 with
  | some d1, some d2 => p (rdO e2.st d1) (rdO e2.st d2) (fun r => Q r e2)
  | _, _ => False
end
end Pu
set_option maxRecDepth 100000
set_option maxHeartbeats 4000000
namespace PuE
open PySem PySem.Spec PyProof.Rows L2
end PuE
namespace Pu
open PySem L2 PuE
section
variable {Γ Γ' : Gm} {κ κ' : Ka} {H H' : Hp} {env env' : En} {σ : Sl} {v : V} {st : Sto} {Y : Fam} {a b c d e : Expr} {es : List Expr} {ta tb tc td te : PTE} {pos : Pos}
def pGtN (d e : D) (Q : R → Prop) : Prop := match d, e with
  | .tup xs, .tup ys => match itsD xs, itsD ys with
    | some l, some m => l.map isS = m.map isS ∧ Q (.d (.bl (ltN m l)))
    | _, _ => False
  | _, _ => False
end
end Pu
set_option maxRecDepth 100000
set_option maxHeartbeats 4000000
namespace PuE
open PySem PySem.Spec PyProof.Rows L2
/-- the first place of a pair -/
def ixPr (k : Int × Int) (ps : List (Int × Int)) : Nat := @List.idxOf _ instBEqOfDecidableEq k ps
end PuE
namespace Pu
open PySem L2 PuE
section
variable {Γ Γ' : Gm} {κ κ' : Ka} {H H' : Hp} {env env' : En} {σ : Sl} {v : V} {st : Sto} {Y : Fam} {a b e o : Expr} {es : List Expr} {ta tb te to : PTE} {pos : Pos}
def prI : D → Option (Int × Int)
  | .tup [.int a, .int b] => some (a, b)
  | _ => none
def prsI : List D → Option (List (Int × Int))
  | [] => some []
  | d :: ds => (prI d).bind fun p => (prsI ds).map fun ps => p :: ps
def pIndexT (d : D) (ds : List D) (Q : R → Prop) : Prop := match d, ds with
  | .tup l, [y] => match prsI l, prI y with
    | some ps, some k => k ∈ ps ∧ Q (.d (.int (ixPr k ps : Nat)))
    | _, _ => False
  | _, _ => False
def tMethT (p : D → List D → (R → Prop) → Prop) (to : PTE) (t : PTR) : PTE := fun x e Q => to x e fun r e1 => hold r e1 fun r e1 => (match rv r e1 with
  | some (.tup ds) => ordL ds = true
  | _ => False) ∧ t x e1 fun rs e2 => match rv r e2, rvL rs e2 with
    | some d, some ds => p d ds (fun r => Q r e2)
    | _, _ => False
end
end Pu
set_option maxRecDepth 100000
set_option maxHeartbeats 4000000
namespace PuE
open PySem PySem.Spec PyProof.Rows L2
end PuE
namespace Pu
open PySem L2 PuE
section
variable {Γ Γ' : Gm} {κ κ' : Ka} {H H' : Hp} {env env' : En} {σ : Sl} {v : V} {st : Sto} {Y : Fam} {a b c d e o : Expr} {es : List Expr} {ta tb tc td te to : PTE} {pos : Pos}
def pSplit (d : D) (ds : List D) (Q : R → Prop) : Prop := match d, ds with
  | .str l, [.str s] => s ≠ [] ∧ s.all (· < 256) = true ∧ l.length + 2 ≤ 16777216 ∧ Q (.own ((TL.spl s 0 [] l).map D.str))
  | _, _ => False
def pStrI : List D → (R → Prop) → Prop
  | [.int i], Q => 0 ≤ i ∧ i < 2 ^ 64 ∧ Q (.d (.str (TL.numL i.toNat)))
  | _, _ => False
def pIntS : List D → (R → Prop) → Prop
  | [.str a], Q => a.all (fun c => decide (48 ≤ c) && decide (c ≤ 57)) = true ∧ a ≠ [] ∧ a.length ≤ 640 ∧ Q (.d (.int (NumText.digitsVal a : Nat)))
  | _, _ => False
def f3I (d : D) (h : HB (Int → Prop)) : Prop := match d with
  | .int i => 0 ≤ i ∧ i < 2 ^ 64 ∧ h.b i
  | _ => False
def tFs3P (ta : PTE) (s : List Nat) (tb : PTE) : PTE := fun x e Q => ta x e fun r e1 => fz r e1 fun d1 e2 => f3I d1 (HB.mk (fun i => tb x e2 fun r2 e3 => fz r2 e3 fun d2 e4 => f3I d2 (HB.mk (fun j => Q (.d (.str (TL.numL i.toNat ++ s ++ TL.numL j.toNat))) e4) ())) ())
end
end Pu
set_option maxRecDepth 100000
set_option maxHeartbeats 4000000
namespace PuE
open PySem PySem.Spec PyProof.Rows L2 PySem.W
def Izs (K : PySem.W.Frag) (a : Str) (tb : Bool) (b : Addr) : It :=
  ⟨fun i H => ∃ (c : Nat) (ys : List V) (y : V), SqB K H tb b ys ∧ a.cps[i]? = some c ∧ ys[i]? = some y,
    fun i H v H' => ∃ T c y, v = .ref T ∧ H T = none ∧ H' = upd H T (.tup [.str ⟨#[c]⟩, y]) ∧ a.cps[i]? = some c ∧ ∀ ys, SqB K H tb b ys → ys[i]? = some y,
    fun i H => ∃ ys : List V, SqB K H tb b ys ∧ i ≤ a.cps.size ∧ i ≤ ys.length ∧ (i = a.cps.size ∨ i = ys.length)⟩
def iZipS (K : PySem.W.Frag) (ta : TA) : TI := fun σ H R => ta σ H fun vs H1 => ∃ a b t2 ys, vs = [.str a, .ref b] ∧ SqB K H1 t2 b ys ∧ R (Izs K a t2 b) H1
end PuE
namespace Pu
open PySem L2 PySem.Spec PyProof.Rows
section
variable {Γ Γ' : Gm} {κ κ' : Ka} {H H' : Hp} {env env' : En} {σ : Sl} {v : V} {st : Sto} {Y : Fam} {a b e o : Expr} {es : List Expr} {ta tb te to ti : PTE} {pos : Pos}
def iZipS (t : PTR) : PTI := fun x e Q => t x e fun rs e1 => match rs with
  | [r1, r2] => fz r1 e1 fun d1 e2 => fz r2 e2 fun d2 e3 => match d1, d2.side with
    | .str l, some (_, es) => Q (zipF (signs l) es) e3
    | _, _ => False
  | _ => False
end
end Pu
set_option maxRecDepth 100000
set_option maxHeartbeats 4000000
namespace Pu
open PySem L2 PySem.Spec PyProof.Rows
section
variable {Γ Γ' : Gm} {κ κ' : Ka} {H H' : Hp} {env env' : En} {σ : Sl} {v : V} {st : Sto} {Y : Fam} {a b e o : Expr} {es : List Expr} {ta tb te to ti : PTE} {pos : Pos}
def sParO (i j : Nat) (ta tb : PTE) : PTS := fun x D e => ta x e fun r1 e1 => fz r1 e1 fun d1 e2 => tb x e2 fun r2 e3 => i < e3.sl.length ∧ j < e3.sl.length ∧ asgR j r2 e3 fun e4 => D.nx (e4.setC i (.d d1))
end
end Pu
set_option maxRecDepth 100000
set_option maxHeartbeats 4000000
namespace Pu
open PySem L2 PuE
def kF (r : R) (e : En) (h : HB (Nat × Str × (R → En → Prop))) : Prop := opt (rv r e) (HB.mk (fun d => opt (getF h.b.1 h.b.2.1 e.st d) (HB.mk (fun y => h.b.2.2 (.d y) e) ())) ())
theorem x_fld {c f te x e Q} : tFldP c f te x e Q = te x e fun r e1 => kF r e1 (HB.mk (c, f, Q) ()) := by
  unfold tFldP kF opt
  congr 1; funext r e1
  cases rv r e1 with
  | none => rfl
  | some d =>
    simp only
    cases getF c f e1.st d <;> rfl
theorem x_kF {r e c f Q} : kF r e (HB.mk (c, f, Q) ()) = opt (rv r e) (HB.mk (fun d => opt (getF c f e.st d) (HB.mk (fun y => Q (.d y) e) ())) ()) := rfl
def putH (d : D) (o : D) (e : En) (h : HB (Nat × Str × (En → Prop))) : Prop := putFS h.b.1 h.b.2.1 d o e h.b.2.2
def kSF (d : D) (ro : R) (e : En) (h : HB (Nat × Str × (En → Prop))) : Prop := opt (rv ro e) (HB.mk (fun o => putH d o e h) ())
theorem x_kSF {d ro e h} : kSF d ro e h = opt (rv ro e) (HB.mk (fun o => putH d o e h) ()) := rfl
theorem x_sfldZ {c f te tv x P e} : sFldZ c f te tv x P e = tv x e fun r0 e1 => fz r0 e1 fun d e2 => te x e2 fun ro e3 => kSF d ro e3 (HB.mk (c, f, P.nx) ()) := by
  unfold sFldZ kSF opt putH
  congr 1; funext r0 e1; congr 1; funext d e2; congr 1; funext ro e3
  cases rv ro e3 <;> rfl
theorem x_sfldP {c f te tv x P e} : sFldP c f te tv x P e = tv x e fun r0 e1 => kp r0 e1 fun d e2 => te x e2 fun ro e3 => kSF d ro e3 (HB.mk (c, f, P.nx) ()) := by
  unfold sFldP kSF opt putH
  congr 1; funext r0 e1; congr 1; funext d e2; congr 1; funext ro e3
  cases rv ro e3 <;> rfl
theorem x_kpd {d e Q} : kp (.d d) e Q = Q d e := rfl
theorem x_kpo {ds e Q} : kp (.own ds) e Q = Q (.ref e.st.length) ⟨e.sl, e.st ++ [.lst ds]⟩ := rfl
theorem x_kpK {ds e Q} : kp (.dK ds) e Q = Q (.ref e.st.length) ⟨e.sl, e.st ++ [.dK ds]⟩ := rfl
theorem x_kpT {ds e Q} : kp (.dT ds) e Q = Q (.ref e.st.length) ⟨e.sl, e.st ++ [.dT ds]⟩ := rfl
def kpC (c : C) (h : HB (En × (D → En → Prop))) : Prop := match c with
  | .d d => h.b.2 d h.b.1
  | _ => False
theorem x_kpC {d e Q} : kpC (.d d) (HB.mk (e, Q) ()) = Q d e := rfl
theorem x_kpn {i e Q} : kp (.nam i) e Q = opt e.sl[i]? (HB.mk (fun c => kpC c (HB.mk (e, Q) ())) ()) := by
  show (match e.sl[i]? with | some (.d d) => Q d e | _ => False) = _
  unfold opt
  cases e.sl[i]? with
  | none => rfl
  | some c => cases c <;> rfl
def k2cO (o1 o2 : Option D) (e : En) (h : HB ((D → D → (R → Prop) → Prop) × (R → En → Prop))) : Prop := match o1, o2 with
  | some a, some b => h.b.1 (rdO e.st a) (rdO e.st b) fun r => h.b.2 r e
  | _, _ => False
def k2bO (r1 r2 : R) (e : En) (h : HB ((D → D → (R → Prop) → Prop) × (R → En → Prop))) : Prop := k2cO (rv r1 e) (rv r2 e) e h
def k2aO (r : R) (e : En) (h : HB (PTE × PX × (D → D → (R → Prop) → Prop) × (R → En → Prop))) : Prop := hold r e fun r e => h.b.1 h.b.2.1 e fun r2 e2 => k2bO r r2 e2 (HB.mk h.b.2.2 ())
theorem x_2O {ta tb p x e Q} : t2O ta tb p x e Q = ta x e fun r1 e1 => k2aO r1 e1 (HB.mk (tb, x, p, Q) ()) := by
  unfold t2O k2aO k2bO k2cO
  rfl
theorem x_k2adO {d tb p x e Q} : k2aO (.d d) e (HB.mk (tb, x, p, Q) ()) = tb x e fun r2 e2 => k2bO (.d d) r2 e2 (HB.mk (p, Q) ()) := rfl
theorem x_k2aoO {d tb p x e Q} : k2aO (.own d) e (HB.mk (tb, x, p, Q) ()) = tb x e fun r2 e2 => k2bO (.d (.lst d)) r2 e2 (HB.mk (p, Q) ()) := rfl
theorem x_k2anO {i tb p x e Q} : k2aO (.nam i) e (HB.mk (tb, x, p, Q) ()) = tb x e fun r2 e2 => k2bO (.nam i) r2 e2 (HB.mk (p, Q) ()) := rfl
theorem x_k2bO {r1 r2 e h} : k2bO r1 r2 e h = k2cO (rv r1 e) (rv r2 e) e h := rfl
theorem x_k2cO {a b e p Q} : k2cO (some a) (some b) e (HB.mk (p, Q) ()) = p (rdO e.st a) (rdO e.st b) fun r => Q r e := rfl
def kIM (ro : R) (e : En) (h : HB (Nat × Str × PTA × PX × PM × (R → En → Prop))) : Prop := opt (rv ro e) (HB.mk (fun d => noF h.b.1 h.b.2.1 e.st d ∧ h.b.2.2.1 h.b.2.2.2.1 e fun ds e2 => kCa (d :: ds) e2 (HB.mk h.b.2.2.2.2 ())) ())
theorem x_im {c nm m to t x e Q} : tMethP c nm m to t x e Q = to x e fun ro e1 => kIM ro e1 (HB.mk (c, nm, t, x, m, Q) ()) := by
  unfold tMethP kIM opt kCa
  congr 1; funext ro e1
  cases rv ro e1 <;> rfl
theorem x_kIM {ro e c nm t x m Q} : kIM ro e (HB.mk (c, nm, t, x, m, Q) ()) = opt (rv ro e) (HB.mk (fun d => noF c nm e.st d ∧ t x e fun ds e2 => kCa (d :: ds) e2 (HB.mk (m, Q) ())) ()) := rfl
def kMk (ds : List D) (e : En) (h : HB (Nat × PM × (R → En → Prop))) : Prop := h.b.2.1 (.ref e.st.length :: ds) (e.st ++ [.ins h.b.1 []]) fun r st' => r = .d .non ∧ h.b.2.2 (.d (.ref e.st.length)) ⟨e.sl, st'⟩
theorem x_make {c m t x e Q} : tMakeP c m t x e Q = t x e fun ds e1 => kMk ds e1 (HB.mk (c, m, Q) ()) := rfl
theorem x_kMk {m : PM} {ds e c Q} : kMk ds e (HB.mk (c, m, Q) ()) = m (.ref e.st.length :: ds) (e.st ++ [.ins c []]) fun r st' => r = .d .non ∧ Q (.d (.ref e.st.length)) ⟨e.sl, st'⟩ := rfl
def gtNH (d e : D) (h : HB (R → Prop)) : Prop := pGtN d e h.b
theorem x_gtN {d e Q} : pGtN d e Q = gtNH d e (HB.mk Q ()) := rfl
def mT1 (o : Option D) (r : R) (e : En) (h : HB (PTR × PX × (D → List D → (R → Prop) → Prop) × (R → En → Prop))) : Prop := match o with
  | some (.tup ds) => ordL ds = true ∧ h.b.1 h.b.2.1 e fun rs e2 => kM2 r rs e2 (HB.mk h.b.2.2 ())
  | _ => False
def kMT (r : R) (e : En) (h : HB (PTR × PX × (D → List D → (R → Prop) → Prop) × (R → En → Prop))) : Prop := hold r e fun r e => mT1 (rv r e) r e h
theorem x_methT {p to t x e Q} : tMethT p to t x e Q = to x e fun r e1 => kMT r e1 (HB.mk (t, x, p, Q) ()) := by
  unfold tMethT kMT mT1 kM2 kM3
  congr 1; funext r e1; congr 1; funext r e1
  cases rv r e1 with
  | none => simp
  | some d =>
    cases d with
    | tup ds => rfl
    | _ => simp
theorem x_kMTd {d : D} {e h} : kMT (.d d) e h = mT1 (some d) (.d d) e h := rfl
theorem x_mT1 {ds r e t x p Q} : mT1 (some (.tup ds)) r e (HB.mk (t, x, p, Q) ()) = (ordL ds = true ∧ t x e fun rs e2 => kM2 r rs e2 (HB.mk (p, Q) ())) := rfl
def prK (o : Option (Int × Int)) (h : HB (List (Int × Int) × (R → Prop))) : Prop := match o with
  | some k => k ∈ h.b.1 ∧ h.b.2 (.d (.int (ixPr k h.b.1 : Nat)))
  | none => False
theorem x_prK {k ps Q} : prK (some k) (HB.mk (ps, Q) ()) = (k ∈ ps ∧ Q (.d (.int (ixPr k ps : Nat)))) := rfl
theorem x_ixT {l y Q} : pIndexT (.tup l) [y] Q = opt (prsI l) (HB.mk (fun ps => prK (prI y) (HB.mk (ps, Q) ())) ()) := by
  unfold pIndexT opt prK
  cases h1 : prsI l with
  | none => simp only [h1]
  | some ps => cases h2 : prI y <;> simp only [h1, h2]
theorem x_prI {a b : Int} : prI (.tup [.int a, .int b]) = some (a, b) := rfl
theorem x_splitA {l s Q} : pSplit (.str l) [.str s] Q = (s ≠ [] ∧ s.all (· < 256) = true ∧ l.length + 2 ≤ 16777216 ∧ Q (.own ((TL.spl s 0 [] l).map D.str))) := rfl
theorem x_strI {i Q} : pStrI [.int i] Q = (0 ≤ i ∧ i < 2 ^ 64 ∧ Q (.d (.str (TL.numL i.toNat)))) := rfl
theorem x_intS {a Q} : pIntS [.str a] Q = (a.all (fun c => decide (48 ≤ c) && decide (c ≤ 57)) = true ∧ a ≠ [] ∧ a.length ≤ 640 ∧ Q (.d (.int (PySem.NumText.digitsVal a : Nat)))) := rfl
theorem x_fs3 {ta s tb x e Q} : tFs3P ta s tb x e Q = ta x e fun r e1 => fz r e1 fun d1 e2 => f3I d1 (HB.mk (fun i => tb x e2 fun r2 e3 => fz r2 e3 fun d2 e4 => f3I d2 (HB.mk (fun j => Q (.d (.str (TL.numL i.toNat ++ s ++ TL.numL j.toNat))) e4) ())) ()) := rfl
theorem x_f3I {i p} : f3I (.int i) (HB.mk p ()) = (0 ≤ i ∧ i < 2 ^ 64 ∧ p i) := rfl
theorem x_zipS {t x e Q} : iZipS t x e Q = t x e fun rs e1 => twoR rs <| HB.mk (fun r1 r2 => fz r1 e1 fun d1 e2 => fz r2 e2 fun d2 e3 => sC d1 <| HB.mk (fun l => sideH d2 <| HB.mk (fun es => Q (zipF (signs l) es) e3) ()) ()) () := by
  unfold iZipS twoR sideH sC
  congr 1; funext rs e1
  match rs with
  | [] => rfl
  | [r] => rfl
  | [r1, r2] =>
    show fz r1 e1 _ = fz r1 e1 _
    congr 1; funext d1 e2
    congr 1; funext d2 e3
    cases d1 with
    | str l => cases d2.side <;> rfl
    | _ => rfl
  | _ :: _ :: _ :: _ => rfl
theorem x_parO {i j ta tb x D e} : sParO i j ta tb x D e = ta x e fun r1 e1 => fz r1 e1 fun d1 e2 => tb x e2 fun r2 e3 => i < e3.sl.length ∧ j < e3.sl.length ∧ asgR j r2 e3 fun e4 => D.nx (e4.setC i (.d d1)) := rfl
end Pu
set_option maxRecDepth 100000
set_option maxHeartbeats 4000000
namespace Pu
open PySem L2 PySem.Spec PyProof.Rows
section
variable {Γ Γ' : Gm} {κ κ' : Ka} {H H' : Hp} {env env' : En} {σ : Sl} {v : V} {st : Sto} {Y : Fam} {a b e o i : Expr} {es : List Expr} {ta tb te to ti : PTE} {pos : Pos}
/-- name = e, the value data from then on -/
def sAsgZ (i : Nat) (te : PTE) : PTS := fun x D e => te x e fun r e1 => fz r e1 fun d e2 => i < e2.sl.length ∧ D.nx (e2.setC i (.d d))
/-- name = e, a new list or dict an object of the store from then on -/
def sAsgK (i : Nat) (te : PTE) : PTS := fun x D e => te x e fun r e1 => kp r e1 fun d e2 => i < e2.sl.length ∧ D.nx (e2.setC i (.d d))
def lkT (kvs : List (List Nat × Int)) (s : List Nat) : Option Int := (kvs.find? fun p => p.1 == s).map (·.2)
def tGD (kvs : List (List Nat × Int)) (ti : PTE) : PTE := fun x e Q => ti x e fun r e1 => match rv r e1 with
  | some (.str s) => match lkT kvs s with
    | some n => Q (.d (.int n)) e1
    | none => False
  | _ => False
def pCase (f : Nat → Nat) (d : D) (ds : List D) (Q : R → Prop) : Prop := match d, ds with
  | .str l, [] => l.all (· < 128) = true ∧ l.length ≤ 5592405 ∧ (∀ c ∈ l, f c < 1114112) ∧ Q (.d (.str (l.map f)))
  | _, _ => False
end
end Pu
set_option maxRecDepth 100000
set_option maxHeartbeats 4000000
namespace Pu
open PySem L2 PySem.Spec PyProof.Rows
end Pu
set_option maxRecDepth 100000
set_option maxHeartbeats 4000000
namespace Pu
open PySem L2 PySem.Spec PyProof.Rows
section
variable {Γ Γ' : Gm} {κ κ' : Ka} {H H' : Hp} {env env' : En} {σ : Sl} {v : V} {st : Sto} {Y : Fam} {a b e o : Expr} {es : List Expr} {ta tb te to : PTE} {t : PTA} {pos apos p : Pos}
def tMethX (c : Nat) (nm : Str) (m : PMX) (to : PTE) (t : PTA) : PTE := fun x e Q => to x e fun ro e1 => match rv ro e1 with
  | some d => noF c nm e1.st d ∧ t x e1 fun ds e2 => m (d :: ds) e2.st (fun c st' => Q c.toR ⟨e2.sl, st'⟩) x
  | none => False
def lcRx (x : PX) (g : PTG) (tt : PTT) (te : PTE) (vs : List Nat) : List D → List D → En → (List D → En → Prop) → Prop
  | [], acc, e, Q => Q acc e
  | d :: ds, acc, e, Q => g d e fun e1 => tt x e1 fun b e2 => if b = true then te x e2 fun r e3 => fz r e3 fun y e4 => lcRx x g tt te vs ds (acc ++ [y]) (wipeE vs e4) Q else lcRx x g tt te vs ds acc (wipeE vs e2) Q
def cLcX (ti : PTI) (g : PTG) (tt : PTT) (te : PTE) (vs : List Nat) : PTE := fun x e Q => ti x e fun items e1 => items.length ≤ sizeLine ∧ plainC e1.sl vs = true ∧
  lcRx x g tt te vs items [] (wipeE vs e1) fun acc e2 => Q (.own acc) (restE vs e1 e2)
end
end Pu
set_option maxRecDepth 100000
set_option maxHeartbeats 4000000
namespace Pu
open PySem L2 PySem.Spec PyProof.Rows
section
variable {Γ Γ' : Gm} {κ κ' : Ka} {H H' : Hp} {env env' : En} {σ : Sl} {v : V} {st : Sto} {Y : Fam} {a b c d e f o i : Expr} {es : List Expr} {ta tb tc td te tf to ti : PTE} {pos apos cpos : Pos}
def dck2 (k1 k2 : Key) (d1 d2 : D) : D := .dck ((setK (setK [] k1 d1) k2 d2).map (·.1)) ((setK (setK [] k1 d1) k2 d2).map (·.2))
def tDisp2 (ta tb tc td : PTE) : PTE := fun x e Q => ta x e fun r1 e1 => fz r1 e1 fun y1 e1 => tb x e1 fun r2 e2 => fz r2 e2 fun y2 e2 => tc x e2 fun r3 e3 => fz r3 e3 fun y3 e3 => td x e3 fun r4 e4 => fz r4 e4 fun y4 e4 => match keyD y1, keyD y3 with
  | some k1, some k2 => Q (.d (dck2 k1 k2 y2 y4)) e4
  | _, _ => False
/-- d.get(k, x) -/
def tDGK2 (to ti tf : PTE) : PTE := fun x e Q => to x e fun r e1 => hold r e1 fun r e1 => (kgetR r e1).isSome = true ∧ ti x e1 fun ri e2 => fz ri e2 fun kd e2 => tf x e2 fun rd e3 => fz rd e3 fun dd e3 => match kgetR r e3 with
  | some kvs => match keyD kd with
    | some k => Q (.d ((getK kvs k).getD dd)) e3
    | none => False
  | none => False
def mClear : PMu := fun ds as K => match as with
  | [] => K [] .non
  | _ => False
end
end Pu
set_option maxRecDepth 100000
set_option maxHeartbeats 4000000
namespace Pu
open PySem L2 PuE
theorem x_asgZ {i t x D e} : sAsgZ i t x D e = t x e fun r e1 => fz r e1 fun d e2 => i < e2.sl.length ∧ D.nx (e2.setC i (.d d)) := rfl
theorem x_asgK {i t x D e} : sAsgK i t x D e = t x e fun r e1 => kp r e1 fun d e2 => i < e2.sl.length ∧ D.nx (e2.setC i (.d d)) := rfl
def kGD (o : Option D) (e : En) (h : HB (List (List Nat × Int) × (R → En → Prop))) : Prop := match o with
  | some (.str s) => opt (lkT h.b.1 s) (HB.mk (fun n => h.b.2 (.d (.int n)) e) ())
  | _ => False
theorem x_gd {kvs ti x e Q} : tGD kvs ti x e Q = ti x e fun r e1 => kGD (rv r e1) e1 (HB.mk (kvs, Q) ()) := by
  unfold tGD kGD opt
  congr 1; funext r e1
  cases rv r e1 with
  | none => rfl
  | some d =>
    cases d with
    | str s => simp only; cases lkT kvs s <;> rfl
    | _ => rfl
theorem x_kGD {s e kvs Q} : kGD (some (.str s)) e (HB.mk (kvs, Q) ()) = opt (lkT kvs s) (HB.mk (fun n => Q (.d (.int n)) e) ()) := rfl
theorem x_case {f l Q} : pCase f (.str l) [] Q = (l.all (· < 128) = true ∧ l.length ≤ 5592405 ∧ (∀ c ∈ l, f c < 1114112) ∧ Q (.d (.str (l.map f)))) := rfl
def kIMX (ro : R) (e : En) (h : HB (Nat × Str × PTA × PX × PMX × (R → En → Prop))) : Prop := opt (rv ro e) (HB.mk (fun d => noF h.b.1 h.b.2.1 e.st d ∧ h.b.2.2.1 h.b.2.2.2.1 e fun ds e2 => h.b.2.2.2.2.1 (d :: ds) e2.st (fun c st' => h.b.2.2.2.2.2 c.toR ⟨e2.sl, st'⟩) h.b.2.2.2.1) ())
theorem x_imX {c nm m to t x e Q} : tMethX c nm m to t x e Q = to x e fun ro e1 => kIMX ro e1 (HB.mk (c, nm, t, x, m, Q) ()) := by
  unfold tMethX kIMX opt
  congr 1; funext ro e1
  cases rv ro e1 <;> rfl
theorem x_kIMX {ro e c nm t x m Q} : kIMX ro e (HB.mk (c, nm, t, x, m, Q) ()) = opt (rv ro e) (HB.mk (fun d => noF c nm e.st d ∧ t x e fun ds e2 => m (d :: ds) e2.st (fun c st' => Q c.toR ⟨e2.sl, st'⟩) x) ()) := rfl
def lcXH (ds : List D) (e : En) (h : HB (PX × PTG × PTT × PTE × List Nat × (List D → En → Prop))) : Prop := lcRx h.b.1 h.b.2.1 h.b.2.2.1 h.b.2.2.2.1 h.b.2.2.2.2.1 ds [] e h.b.2.2.2.2.2
theorem x_lcX {ti g tt te vs x e Q} : cLcX ti g tt te vs x e Q = ti x e fun items e1 => items.length ≤ sizeLine ∧ plainC e1.sl vs = true ∧ lcXH items (wipeE vs e1) (HB.mk (x, g, tt, te, vs, fun acc e2 => Q (.own acc) (restE vs e1 e2)) ()) := rfl
theorem x_ksr {k e ds} : kset (.d (.ref k)) e ds = ⟨e.sl, e.st.set k (.dK ds)⟩ := rfl
theorem x_msr {k e ds} : mset (.d (.ref k)) e ds = ⟨e.sl, e.st.set k (.lst ds)⟩ := rfl
theorem mg_of {k : Nat} {e : En} {ds : List D} (h : e.st[k]? = some (.lst ds)) : mget (.d (.ref k)) e = some ds := by
  unfold mget
  simp only [h]
def kD2 (o1 o2 : Option Key) (y2 y4 : D) (e : En) (h : HB (R → En → Prop)) : Prop := match o1, o2 with
  | some k1, some k2 => h.b (.d (dck2 k1 k2 y2 y4)) e
  | _, _ => False
theorem x_disp2 {ta tb tc td x e Q} : tDisp2 ta tb tc td x e Q = ta x e fun r1 e1 => fz r1 e1 fun y1 e1 => tb x e1 fun r2 e2 => fz r2 e2 fun y2 e2 => tc x e2 fun r3 e3 => fz r3 e3 fun y3 e3 => td x e3 fun r4 e4 => fz r4 e4 fun y4 e4 => kD2 (keyD y1) (keyD y3) y2 y4 e4 (HB.mk Q ()) := by
  unfold tDisp2 kD2
  rfl
theorem x_kD2 {k1 k2 y2 y4 e Q} : kD2 (some k1) (some k2) y2 y4 e (HB.mk Q ()) = Q (.d (dck2 k1 k2 y2 y4)) e := rfl
def kG2 (o1 : Option (List (Key × D))) (o2 : Option Key) (dd : D) (e : En) (h : HB (R → En → Prop)) : Prop := match o1, o2 with
  | some kvs, some k => h.b (.d ((getK kvs k).getD dd)) e
  | _, _ => False
theorem x_dgk2 {to ti tf x e Q} : tDGK2 to ti tf x e Q = to x e fun r e1 => hold r e1 fun r e1 => (kgetR r e1).isSome = true ∧ ti x e1 fun ri e2 => fz ri e2 fun kd e2 => tf x e2 fun rd e3 => fz rd e3 fun dd e3 => kG2 (kgetR r e3) (keyD kd) dd e3 (HB.mk Q ()) := by
  unfold tDGK2 kG2
  congr 1; funext r e1; congr 1; funext r e1; congr 2; funext ri e2; congr 1; funext kd e2; congr 1; funext rd e3; congr 1; funext dd e3
  cases kgetR r e3 with
  | none => rfl
  | some kvs => cases keyD kd <;> rfl
theorem x_kG2 {kvs k dd e Q} : kG2 (some kvs) (some k) dd e (HB.mk Q ()) = Q (.d ((getK kvs k).getD dd)) e := rfl
theorem x_clear {ds K} : mClear ds [] K = K [] .non := rfl
end Pu
set_option maxRecDepth 100000
set_option maxHeartbeats 4000000
namespace Pu
open PySem L2 PySem.Spec PyProof.Rows
/-- at a a tuple of these texts -/
def KTup (K : PySem.W.Frag) (a : Addr) (ws : List (List Nat)) : Prop := (∃ (o : Obj) (its : Array Value) (n : Nat), K.lookup a = some o ∧ o.cls = .type "tuple" ∧ o.data = .seq its n ∧ its.size ≤ sizeLine ∧ Vals (ws.map fun w => V.str ⟨w.toArray⟩) its.toList) ∧ ∀ w ∈ ws, SOk w
section
variable {Γ Γ' : Gm} {κ κ' : Ka} {H H' : Hp} {env env' : En} {σ : Sl} {v : V} {st : Sto} {Y : Fam} {a b e o i : Expr} {es : List Expr} {ta tb te to ti : PTE} {pos : Pos} {K : PySem.W.Frag}
def lkL (kvs : List (List Nat × List (List Nat))) (s : List Nat) : Option (List (List Nat)) := (kvs.find? fun p => p.1 == s).map (·.2)
def GT (K : PySem.W.Frag) (w : World) (d : Addr) (kvs : List (List Nat × List (List Nat))) : Prop := ∀ p ∈ kvs, ∃ a, KDct K w d ⟨p.1.toArray⟩ (.ref a) ∧ KTup K a p.2
theorem GT.get {w : World} {d : Addr} {kvs : List (List Nat × List (List Nat))} {s : List Nat} {ws : List (List Nat)} (h : GT K w d kvs) (g : lkL kvs s = some ws) : ∃ a, KDct K w d ⟨s.toArray⟩ (.ref a) ∧ KTup K a ws := by
  unfold lkL at g
  obtain ⟨p, hp, ep⟩ := Option.map_eq_some_iff.mp g
  have h1 := List.find?_some hp
  have z := h p (List.mem_of_find?_eq_some hp)
  rw [show p.1 = s from by simpa using h1, ep] at z
  exact z
/-- for x in NAME[e] -/
def iGT (kvs : List (List Nat × List (List Nat))) (ti : PTE) : PTI := fun x e Q => ti x e fun r e1 => match rv r e1 with
  | some (.str s) => match lkL kvs s with
    | some ws => Q (ws.map D.str) e1
    | none => False
  | _ => False
/-- for x, y in zip(NAME[e], f) -/
def iZipG (kvs : List (List Nat × List (List Nat))) (ti tb : PTE) : PTI := fun x e Q => ti x e fun r e1 => match rv r e1 with
  | some (.str s) => match lkL kvs s with
    | some ws => tb x e1 fun r2 e2 => fz r2 e2 fun d2 e3 => match d2.side with
      | some (_, es) => Q (zipF (ws.map D.str) es) e3
      | _ => False
    | none => False
  | _ => False
/-- e in NAME, a tuple of texts -/
def tKIn (neg : Bool) (ws : List (List Nat)) (ta : PTE) : PTE := fun x e Q => ta x e fun r e1 => match rv r e1 with
  | some (.str s) => Q (.d (.bl (if neg then !decide (s ∈ ws) else decide (s ∈ ws)))) e1
  | _ => False
/-- e in NAME, a dict of the module with text keys; asked of what is in it alone -/
def tKHas (ks : List (List Nat)) (ta : PTE) : PTE := fun x e Q => ta x e fun r e1 => match rv r e1 with
  | some (.str s) => s ∈ ks ∧ Q (.d (.bl true)) e1
  | _ => False
end
end Pu
set_option maxRecDepth 100000
set_option maxHeartbeats 4000000
namespace PuE
open PySem PySem.Spec PyProof.Rows L2
end PuE
namespace Pu
open PySem L2 PuE
section
variable {Γ Γ' : Gm} {κ κ' : Ka} {H H' : Hp} {env env' : En} {σ : Sl} {v : V} {st : Sto} {Y : Fam} {a b c d e e2 o : Expr} {es : List Expr} {ta tb tc td te to : PTE} {pos : Pos}
def par1 (s l : List Nat) : List (List Nat) := match TL.par s [] l with
  | some (a, b) => [a, b]
  | none => [l]
def pSplit1 (d : D) (ds : List D) (Q : R → Prop) : Prop := match d, ds with
  | .str l, [.str s, .int k] => k = 1 ∧ s ≠ [] ∧ s.all (· < 256) = true ∧ l.length + 2 ≤ 16777216 ∧ Q (.own ((par1 s l).map D.str))
  | _, _ => False
def pStrA : List D → (R → Prop) → Prop
  | [.int i], Q => 0 ≤ i ∧ i < 2 ^ 64 ∧ Q (.d (.str (TL.numL i.toNat)))
  | [.str s], Q => Q (.d (.str s))
  | _, _ => False
end
end Pu
set_option maxRecDepth 100000
set_option maxHeartbeats 4000000
namespace PySem
open PySem.Spec PyProof.Rows PySem.W
section
variable {prog : Program} {w : World} {A : Around} {E : Value → Shared → Prop} {s : Shared} {z TI TO i1 i2 l1 l2 S : Addr} {xs ys : Array Value} {i n : Nat}
def ZSt (h : Heap) (z TI TO i1 i2 l1 l2 S : Addr) (i : Nat) : Prop := IsPair h TI (.ref i1) (.ref i2) ∧ (∃ a b, IsPair h TO a b) ∧ h.IsListIter i1 l1 i ∧ h.IsListIter i2 l2 i ∧
  (IsZip h z TI TO .none ∨ ∃ T f oT, IsZipHeld h z TI TO T f ∧ h.get? T = some oT ∧ T ≠ z ∧ T ≠ i1 ∧ T ≠ i2 ∧ T ≠ TO ∧ T ≠ S)
theorem iter_keep {h h' : Heap} {it l : Addr} {k : Nat} (x : h.IsListIter it l k) (q : ∀ o, h.get? it = some o → h'.get? it = some o) : h'.IsListIter it l k := by
  obtain ⟨o, ho, r⟩ := x; exact ⟨o, q o ho, r⟩
theorem ZSt.keep {h h' : Heap} (x : ZSt h z TI TO i1 i2 l1 l2 S i) (k : ∀ b o, b ≠ S → h.get? b = some o → h'.get? b = some o) (hz : z ≠ S) (hTI : TI ≠ S) (hTO : TO ≠ S) (h1 : i1 ≠ S) (h2 : i2 ≠ S) : ZSt h' z TI TO i1 i2 l1 l2 S i := by
  obtain ⟨a1, ⟨a, b, a2⟩, a3, a4, a5⟩ := x
  refine ⟨k _ _ hTI a1, ⟨a, b, k _ _ hTO a2⟩, iter_keep a3 (k _ · h1), iter_keep a4 (k _ · h2), ?_⟩
  rcases a5 with e | ⟨T, f, oT, e1, e2, e3, e4, e5, e6, e7⟩
  · exact .inl (k _ _ hz e)
  · exact .inr ⟨T, f, oT, k _ _ hz e1, k _ _ e7 e2, e3, e4, e5, e6, e7⟩
end
end PySem
namespace PuE
open PySem PySem.Spec PyProof.Rows L2 PySem.W
end PuE
namespace Pu
open PySem L2 PySem.Spec PyProof.Rows
section
variable {Γ Γ' : Gm} {κ κ' : Ka} {H H' : Hp} {env env' : En} {σ : Sl} {v : V} {st : Sto} {Y : Fam} {a b e o : Expr} {es : List Expr} {ta tb te to : PTE} {pos : Pos}
def tTZ (t : PTR) : PTE := fun x e Q => t x e fun rs e1 => match rs with
  | [r1, r2] => fz r1 e1 fun d1 e2 => fz r2 e2 fun d2 e3 => match d1, d2 with
    | .lst ds, .lst es => (∀ d ∈ ds, ∃ s, d = .str s) ∧ Q (.d (.tup (zipF ds es))) e3
    | _, _ => False
  | _ => False
end
end Pu
set_option maxRecDepth 100000
set_option maxHeartbeats 4000000
namespace PuE
open PySem PySem.Spec PyProof.Rows L2 RT PySem.W
end PuE
namespace Pu
open PySem L2 PySem.Spec PyProof.Rows
end Pu
set_option maxRecDepth 100000
set_option maxHeartbeats 4000000
namespace Pu
open PySem L2 PuE
def kKI (o : Option D) (e : En) (h : HB (Bool × List (List Nat) × (R → En → Prop))) : Prop := match o with
  | some (.str s) => h.b.2.2 (.d (.bl (if h.b.1 then !decide (s ∈ h.b.2.1) else decide (s ∈ h.b.2.1)))) e
  | _ => False
theorem x_kin {neg ws ta x e Q} : tKIn neg ws ta x e Q = ta x e fun r e1 => kKI (rv r e1) e1 (HB.mk (neg, ws, Q) ()) := by
  unfold tKIn kKI
  congr 1
theorem x_kKI {s e ws Q} : kKI (some (.str s)) e (HB.mk (false, ws, Q) ()) = Q (.d (.bl (decide (s ∈ ws)))) e := rfl
def kKH (o : Option D) (e : En) (h : HB (List (List Nat) × (R → En → Prop))) : Prop := match o with
  | some (.str s) => s ∈ h.b.1 ∧ h.b.2 (.d (.bl true)) e
  | _ => False
theorem x_khas {ks ta x e Q} : tKHas ks ta x e Q = ta x e fun r e1 => kKH (rv r e1) e1 (HB.mk (ks, Q) ()) := by
  unfold tKHas kKH
  congr 1
theorem x_kKH {s e ks Q} : kKH (some (.str s)) e (HB.mk (ks, Q) ()) = (s ∈ ks ∧ Q (.d (.bl true)) e) := rfl
def kIG (o : Option D) (e : En) (h : HB (List (List Nat × List (List Nat)) × (List (List Nat) → En → Prop))) : Prop := match o with
  | some (.str s) => opt (lkL h.b.1 s) (HB.mk (fun ws => h.b.2 ws e) ())
  | _ => False
theorem x_igt {kvs ti x e Q} : iGT kvs ti x e Q = ti x e fun r e1 => kIG (rv r e1) e1 (HB.mk (kvs, fun ws e2 => Q (ws.map D.str) e2) ()) := by
  unfold iGT kIG opt
  congr 1; funext r e1
  cases rv r e1 with
  | none => rfl
  | some d =>
    cases d with
    | str s => simp only; cases lkL kvs s <;> rfl
    | _ => rfl
theorem x_izg {kvs ti tb x e Q} : iZipG kvs ti tb x e Q = ti x e fun r e1 => kIG (rv r e1) e1 (HB.mk (kvs, fun ws e2 => tb x e2 fun r2 e3 => fz r2 e3 fun d2 e4 => sideH d2 (HB.mk (fun es => Q (zipF (ws.map D.str) es) e4) ())) ()) := by
  unfold iZipG kIG opt
  congr 1; funext r e1
  cases rv r e1 with
  | none => rfl
  | some d =>
    cases d with
    | str s =>
      simp only
      cases lkL kvs s with
      | none => rfl
      | some ws =>
        simp only
        congr 1; funext r2 e3
        congr 1; funext d2 e4
        unfold sideH
        cases d2.side with
        | none => rfl
        | some p => rfl
    | _ => rfl
theorem x_kIG {s e kvs Q} : kIG (some (.str s)) e (HB.mk (kvs, Q) ()) = opt (lkL kvs s) (HB.mk (fun ws => Q ws e) ()) := rfl
def tzC (d1 d2 : D) (h : HB (List D → List D → Prop)) : Prop := match d1, d2 with
  | .lst ds, .lst es => h.b ds es
  | _, _ => False
theorem x_tzC {ds es f} : tzC (.lst ds) (.lst es) (HB.mk f ()) = f ds es := rfl
theorem x_tz {t x e Q} : tTZ t x e Q = t x e fun rs e1 => twoR rs <| HB.mk (fun r1 r2 => fz r1 e1 fun d1 e2 => fz r2 e2 fun d2 e3 => tzC d1 d2 <| HB.mk (fun ds es => (∀ d ∈ ds, ∃ s, d = .str s) ∧ Q (.d (.tup (zipF ds es))) e3) ()) () := by
  unfold tTZ twoR tzC
  congr 1
theorem x_split1 {l s k Q} : pSplit1 (.str l) [.str s, .int k] Q = (k = 1 ∧ s ≠ [] ∧ s.all (· < 256) = true ∧ l.length + 2 ≤ 16777216 ∧ Q (.own ((par1 s l).map D.str))) := rfl
theorem x_strAi {i Q} : pStrA [.int i] Q = (0 ≤ i ∧ i < 2 ^ 64 ∧ Q (.d (.str (TL.numL i.toNat)))) := rfl
theorem x_strAs {s Q} : pStrA [.str s] Q = Q (.d (.str s)) := rfl
end Pu
set_option maxRecDepth 100000
set_option maxHeartbeats 4000000
namespace L2
open PySem PySem.Spec PyProof.Rows RT
end L2
namespace Pu
open PySem L2 PySem.Spec PyProof.Rows
section
variable {Γ : Gm} {κ : Ka} {H : Hp} {Y : Fam} {e a b o : Expr} {es : List Expr} {to : PTE} {pos : Pos} {σ : Sl} {env : En} {v : V}
def mRemD : PMu := fun ds as K => match as with
  | [y] => y.ok 64 = true ∧ D.okL ds 63 = true ∧ (ds.any fun z => D.eq z y) = true ∧ K (ds.eraseIdx (ixD y ds)) .non
  | _ => False
end
end Pu
set_option maxRecDepth 100000
set_option maxHeartbeats 4000000
namespace Pu
open PySem L2 PySem.Spec PyProof.Rows
section
variable {Γ Γ' : Gm} {κ κ' : Ka} {H H' : Hp} {env env' : En} {σ : Sl} {v : V} {st : Sto} {Y : Fam} {a b e o i : Expr} {es : List Expr} {ta tb te to ti : PTE} {pos : Pos} {body : List Stmt} {t : PTS}
/-- a list of the store read where it stands -/
def rvD (d : D) (e : En) : Option D := match d with
  | .ref k => match e.st[k]? with
    | some (.lst ds) => some (.lst ds)
    | _ => some d
  | _ => some d
def rvS (r : R) (e : En) : Option D := match rv r e with
  | some d => rvD d e
  | none => none
def rvLS : List R → En → Option (List D)
  | [], _ => some []
  | r :: rs, e => match rvS r e with
    | none => none
    | some d => match rvLS rs e with
      | none => none
      | some ds => some (d :: ds)
def tCallPS (p : List D → (R → Prop) → Prop) (t : PTR) : PTE := fun x e Q => t x e fun rs e1 => match rvLS rs e1 with
  | some ds => p ds (fun r => Q r e1)
  | none => False
def forL (k : Nat) (ds0 : List D) (g : PTG) (tb : PTS) (x : PX) (P : PEn) : List D → En → Prop
  | [], e => e.st[k]? = some (.lst ds0) ∧ P.nx e
  | d :: ds, e => e.st[k]? = some (.lst ds0) ∧ g d e fun e' => tb x { P with nx := forL k ds0 g tb x P ds, ct := forL k ds0 g tb x P ds, bk := P.nx } e'
def refL (r : R) (e : En) : Option (Nat × List D) := match r with
  | .d (.ref k) => match e.st[k]? with
    | some (.lst ds) => some (k, ds)
    | _ => none
  | _ => none
def sForL (te : PTE) (g : PTG) (tb : PTS) : PTS := fun x D e => te x e fun r e1 => match refL r e1 with
  | some (k, ds) => forL k ds g tb x D ds e1
  | none => False
end
end Pu
set_option maxRecDepth 100000
set_option maxHeartbeats 4000000
namespace Pu
open PySem L2 PySem.Spec PyProof.Rows
section
variable {Γ Γ' : Gm} {κ κ' : Ka} {H H' : Hp} {env env' : En} {σ : Sl} {v : V} {Y : Fam} {a b e o i : Expr} {es : List Expr} {ta tb te to ti : PTE} {pos : Pos}
def lcRL (k : Nat) (ds0 : List D) (g : PTG) (tt : PTT) (te : PTE) (vs : List Nat) : List D → List D → En → (List D → En → Prop) → Prop
  | [], acc, e, Q => e.st[k]? = some (.lst ds0) ∧ Q acc e
  | d :: ds, acc, e, Q => e.st[k]? = some (.lst ds0) ∧ g d e fun e1 => tt noX e1 fun b e2 => if b = true then te noX e2 fun r e3 => fz r e3 fun y e4 => lcRL k ds0 g tt te vs ds (acc ++ [y]) (wipeE vs e4) Q else lcRL k ds0 g tt te vs ds acc (wipeE vs e2) Q
theorem lcRL.st {k : Nat} {ds0 : List D} {g : PTG} {tt : PTT} {te : PTE} {vs : List Nat} {ds acc : List D} {e : En} {Q : List D → En → Prop} (h : lcRL k ds0 g tt te vs ds acc e Q) : e.st[k]? = some (.lst ds0) := by
  cases ds with
  | nil => exact h.1
  | cons d ds => exact h.1
def cLcL (ta : PTE) (g : PTG) (tt : PTT) (te : PTE) (vs : List Nat) : PTE := fun x e Q => ta x e fun r e1 => match refL r e1 with
  | some (k, ds) => ds.length ≤ sizeLine ∧ plainC e1.sl vs = true ∧ lcRL k ds g tt te vs ds [] (wipeE vs e1) fun acc e2 => Q (.own acc) (restE vs e1 e2)
  | none => False
end
end Pu
set_option maxRecDepth 100000
set_option maxHeartbeats 4000000
namespace Pu
open PySem L2 PuE
def forLH (k : Nat) (ds : List D) (e : En) (h : HB (PTG × PTS × PX × PEn)) : Prop := forL k ds h.b.1 h.b.2.1 h.b.2.2.1 h.b.2.2.2 ds e
theorem x_forL {te g tb x D e} : sForL te g tb x D e = te x e fun r e1 => opt (refL r e1) <| HB.mk (fun p => forLH p.1 p.2 e1 (HB.mk (g, tb, x, D) ())) () := by
  unfold sForL opt forLH
  congr 1; funext r e1
  cases refL r e1 <;> rfl
theorem x_callPS {p t x e Q} : tCallPS p t x e Q = t x e fun rs e1 => opt (rvLS rs e1) <| HB.mk (fun ds => p ds fun r => Q r e1) () := by
  unfold tCallPS opt
  congr 1; funext rs e1
  cases rvLS rs e1 <;> rfl
def lcLH (k : Nat) (ds : List D) (e : En) (h : HB (PTG × PTT × PTE × List Nat × (List D → En → Prop))) : Prop := lcRL k ds h.b.1 h.b.2.1 h.b.2.2.1 h.b.2.2.2.1 ds [] e h.b.2.2.2.2
theorem x_lcL {ta g tt te vs x e Q} : cLcL ta g tt te vs x e Q = ta x e fun r e1 => opt (refL r e1) <| HB.mk (fun p => p.2.length ≤ sizeLine ∧ plainC e1.sl vs = true ∧ lcLH p.1 p.2 (wipeE vs e1) (HB.mk (g, tt, te, vs, fun acc e2 => Q (.own acc) (restE vs e1 e2)) ())) () := by
  unfold cLcL opt lcLH
  congr 1; funext r e1
  cases refL r e1 <;> rfl
def remDH (ds as : List D) (h : HB (List D → D → Prop)) : Prop := mRemD ds as h.b
theorem x_remD {ds as K} : mRemD ds as K = remDH ds as (HB.mk K ()) := rfl
end Pu
set_option maxRecDepth 100000
set_option maxHeartbeats 4000000
namespace PuL
open PySem PySem.Spec PyProof.Rows L2 PySem.W
/-- what the table at P and the abstract heap come to -/
def TblTo (H H2 : Hp) (P : Addr) (q : Str) (ps : Array Value) : Prop := H2 = H ∨ ∃ (more : Array Value) (d : Addr), H d = none ∧ H2 = upd (upd H P (.tbl (ps ++ more))) d (LamX.CodeO d q) ∧ TriplesOk (ps ++ more).toList ∧
  ∀ (pos : Pos) (v : Value), codeAmong pos (ps ++ more).toList = some v → codeAmong pos ps.toList = some v ∨ v = .ref d
theorem TblTo.keep {H H2 : Hp} {P b : Addr} {q : Str} {ps : Array Value} {o : HO} (t : TblTo H H2 P q ps) (hP : H P = some (.tbl ps)) (h : H b = some o) (hn : ∀ zs, o ≠ .tbl zs) : H2 b = some o := by
  rcases t with rfl | ⟨more, d, nd, rfl, _⟩
  · exact h
  · have n1 : b ≠ d := fun z => by rw [z, nd] at h; cases h
    have n2 : b ≠ P := fun z => by rw [z, hP] at h; exact hn ps (Option.some.inj h).symm
    rw [upd_ne n1, upd_ne n2]
    exact h
end PuL
set_option maxRecDepth 100000
set_option maxHeartbeats 4000000
namespace Pu
open PySem L2 PySem.Spec PyProof.Rows PuL
def ltLW (a b : List Nat) : Prop := a.length < b.length ∨ (a.length = b.length ∧ ¬ b < a)
def tSLW (te : PTE) : PTE := fun x e Q => te x e fun r e1 => match rv r e1 with
  | some (.lst ds) => match strL ds with
    | some r => r.length ≤ sizeLine ∧ ∀ r' : List (List Nat), r'.Perm r → r'.Pairwise ltLW → Q (.own (r'.map D.str)) e1
    | none => False
  | _ => False
end Pu
set_option maxRecDepth 100000
set_option maxHeartbeats 2000000
namespace Pu
open PySem L2 PySem.Spec PyProof.Rows
end Pu
set_option maxRecDepth 100000
set_option maxHeartbeats 4000000
namespace Pu
open PySem L2 PySem.Spec PyProof.Rows
section
variable {Γ : Gm} {κ κ' : Ka} {H H' : Hp} {env env' : En} {σ : Sl} {v : V} {Y : Fam} {e : Expr} {es : List Expr} {pos : Pos}
def tListK (t : PTR) : PTE := fun x e Q => t x e fun rs e1 => match rs with
  | [r] => match kgetR r e1 with
    | some kvs => kvs.length ≤ sizeLine ∧ (∀ kv ∈ kvs, ∀ s, kv.1 = .inr s → SOk s.cps.toList) ∧ Q (.own (kvs.map fun kv => invK kv.1)) e1
    | none => False
  | _ => False
end
end Pu
set_option maxRecDepth 100000
set_option maxHeartbeats 4000000
namespace Pu
open PySem L2 PuE
def slwH (o : Option D) (e : En) (h : HB (R → En → Prop)) : Prop := match o with
  | some (.lst ds) => match strL ds with
    | some r => r.length ≤ sizeLine ∧ ∀ r' : List (List Nat), r'.Perm r → r'.Pairwise ltLW → h.b (.own (r'.map D.str)) e
    | none => False
  | _ => False
theorem x_slw {te x e Q} : tSLW te x e Q = te x e fun r e1 => slwH (rv r e1) e1 (HB.mk Q ()) := rfl
def lkH (o : Option (List (Key × D))) (e : En) (h : HB (R → En → Prop)) : Prop := match o with
  | some kvs => kvs.length ≤ sizeLine ∧ (∀ kv ∈ kvs, ∀ s, kv.1 = .inr s → SOk s.cps.toList) ∧ h.b (.own (kvs.map fun kv => invK kv.1)) e
  | none => False
theorem x_listK {t x e Q} : tListK t x e Q = t x e fun rs e1 => oneR rs <| HB.mk (fun r => lkH (kgetR r e1) e1 (HB.mk Q ())) () := by
  rfl
theorem x_lkH {kvs e Q} : lkH (some kvs) e (HB.mk Q ()) = (kvs.length ≤ sizeLine ∧ (∀ kv ∈ kvs, ∀ s, kv.1 = .inr s → SOk s.cps.toList) ∧ Q (.own (kvs.map fun kv => invK kv.1)) e) := rfl
end Pu
set_option maxRecDepth 100000
set_option maxHeartbeats 4000000
namespace PuL
open PySem PySem.Spec PyProof.Rows L2 PySem.W
end PuL
set_option maxRecDepth 100000
set_option maxHeartbeats 4000000
namespace Pu
open PySem L2 PySem.Spec PyProof.Rows PuL
def tSLWD (te : PTE) : PTE := fun x e Q => te x e fun r e1 => hold r e1 fun r e1 => match kgetR r e1 with
  | some kvs => ∃ ks : List (List Nat), kvs.map (·.1) = ks.map (fun s => (.inr ⟨s.toArray⟩ : Key)) ∧ ks.length ≤ sizeLine ∧ (∀ s ∈ ks, SOk s) ∧ ∀ r' : List (List Nat), r'.Perm ks → r'.Pairwise ltLW → Q (.own (r'.map D.str)) e1
  | none => False
end Pu
set_option maxRecDepth 100000
set_option maxHeartbeats 4000000
namespace Pu
open PySem L2 PuE
def slwDH (o : Option (List (Key × D))) (e : En) (h : HB (R → En → Prop)) : Prop := match o with
  | some kvs => ∃ ks : List (List Nat), kvs.map (·.1) = ks.map (fun s => (.inr ⟨s.toArray⟩ : Key)) ∧ ks.length ≤ sizeLine ∧ (∀ s ∈ ks, SOk s) ∧ ∀ r' : List (List Nat), r'.Perm ks → r'.Pairwise ltLW → h.b (.own (r'.map D.str)) e
  | none => False
theorem x_slwD {te x e Q} : tSLWD te x e Q = te x e fun r e1 => hold r e1 fun r e1 => slwDH (kgetR r e1) e1 (HB.mk Q ()) := rfl
end Pu
set_option maxRecDepth 100000
set_option maxHeartbeats 4000000
namespace Pu
open PySem L2 PySem.Spec PyProof.Rows
section
variable {Γ Γ' : Gm} {κ κ' : Ka} {H H' : Hp} {env env' : En} {σ : Sl} {v : V} {st : Sto} {Y : Fam} {a b e o i : Expr} {es : List Expr} {ta tb te to ti : PTE} {t u : PTS} {s : Stmt} {ss body : List Stmt} {pos apos p2 cp : Pos}
structure VSsT (Y : Fam) (s : List Stmt) (t : PTS) : Prop where
  ex : ∃ rd : XK → TS, (∀ i, PSsT (Y.X i) s (rd (Y.E i))) ∧ ∀ (Γ : Gm) (σ : Sl) (κ : Ka) (H : Hp) (env : En) (D : PEn) (D' : Ends), GK Y Γ → Rl Γ κ env σ H → t Γ.x D env → LiftTo Γ κ H D D' → rd Γ.E D' σ H
theorem VSsT.of (h : VSs Y ss t) : VSsT Y ss t := by
  obtain ⟨rd, p, f⟩ := h.ex
  exact ⟨rd, fun i => PSsT.of (p i), f⟩
/-- return e.replace('..', '..') -/
def sRetRep (y z : List Nat) (to : PTE) : PTS := fun x D e => to x e fun r e1 => match rv r e1 with
  | some (.str s) => s.length + (s.length + 1) * z.length ≤ 16777216 ∧ SOk (Txt.replace ⟨s.toArray⟩ ⟨y.toArray⟩ ⟨z.toArray⟩).cps.toList ∧ D.rt (.d (.str (Txt.replace ⟨s.toArray⟩ ⟨y.toArray⟩ ⟨z.toArray⟩).cps.toList)) e1
  | _ => False
end
end Pu
set_option maxRecDepth 100000
set_option maxHeartbeats 4000000
namespace Pu
open PySem L2 PuE PySem.Spec PyProof.Rows
def repT (y z s : List Nat) : List Nat := (Txt.replace ⟨s.toArray⟩ ⟨y.toArray⟩ ⟨z.toArray⟩).cps.toList
theorem x_retRep {y z to x D e} : sRetRep y z to x D e = to x e fun r e1 => opt (rv r e1) <| HB.mk (fun d => sC d <| HB.mk (fun s => s.length + (s.length + 1) * z.length ≤ 16777216 ∧ SOk (repT y z s) ∧ D.rt (.d (.str (repT y z s))) e1) ()) () := by
  unfold sRetRep opt sC
  congr 1; funext r e1
  cases rv r e1 with
  | none => rfl
  | some d => cases d <;> rfl
end Pu
set_option maxRecDepth 100000
set_option maxHeartbeats 4000000
namespace PuE
open PySem PySem.Spec PyProof.Rows L2 RT PySem.W
theorem nolen_lri : typeLookup (.type "list_reverseiterator") "__len__" = pure none := by rw [typeLookup_type, builtinLookup_eq_fast]; kernel_rfl
theorem hint_lri_look : typeLookup (.type "list_reverseiterator") "__length_hint__" = pure (some (.builtin "list_reverseiterator.__length_hint__")) := by rw [typeLookup_type, builtinLookup_eq_fast]; kernel_rfl
theorem sub_lri : isSubtype (.type "list_reverseiterator") (.type "list_reverseiterator") = pure true := by rw [isSubtype_type]; kernel_rfl
section
variable {prog : Program} {w : World} {A : Around} {E : Value → Shared → Prop} {s : Shared}
theorem hint_lri {it l : Addr} {i : Int} {Q : Bool → Shared → Prop} (hit : s.heap.IsRevIter it l i) (h : Q false s) : wpAny (model prog w) A (Builtin.List.listLengthHint (.ref it)) Q E s := by
  have hT := hit.typeIs
  unfold Builtin.List.listLengthHint
  refine wpAny_bind (wpAny_specialOf hT nolen_lri ?_)
  try dsimp only
  rw [if_neg (by decide +kernel)]
  try dsimp only
  rw [if_neg (by decide +kernel)]
  try dsimp only
  refine wpAny_bind (wpAny_specialOf hT hint_lri_look ?_)
  try dsimp only
  rw [show splitId "list_reverseiterator.__length_hint__" = some ("list_reverseiterator", "__length_hint__") from by decide +kernel]
  try dsimp only
  refine wpAny_bind (wpAny_isInstance (T := "list_reverseiterator") (b := true) hT sub_lri ?_)
  refine wpAny_ite_split (fun hab => absurd hab (by decide)) (fun _ => ?_)
  rw [if_pos (by decide +kernel)]
  rw [if_neg (by decide +kernel)]
  exact wpAny_pure h
theorem extend_lri {R : Result → Shared → Prop} (hh : A.handled = none) (S it l : Addr) (items : Array Value) (res : Value) (c₀ : Nat) (hS : s.heap.get? S = some { cls := .type "list", data := .seq #[] c₀ })
    (hit : s.heap.IsRevIter it l ((items.size : Int) - 1)) (hl : s.heap.IsList l items) (hne : l ≠ it) (hSl : S ≠ l) (hSi : S ≠ it)
    (hR : ∀ h' tk acc' c', (∀ b o, b ≠ S → b ≠ it → s.heap.get? b = some o → h'.get? b = some o) → h'.get? S = some { cls := .type "list", dict := none, data := .seq acc' c', slots := #[] } →
      ItemsOf (fun i v => items[items.size - 1 - i]? = some v) acc' items.size → R (.ok (.ret res)) { s with heap := h', toks := tk }) (hn : items.size ≤ sizeLine) :
    wpAny (model prog w) A.in1 (Builtin.List.listExtendWith (.ref S) (.ref it) res)
      (fun fin s' => match fin with | .done f => R (.ok f) s' | .again c' => c'.quiet = true ∧ codeAny (model prog w) A c' R s') (fun e s' => R (.error e) s') s := by
  have hSf : S ∉ [it, l] := by simp [hSi, hSl]
  unfold Builtin.List.listExtendWith
  refine wpAny_bind (wpAny_typeOf (T := "list_reverseiterator") hit.typeIs ?_)
  have h1 : Builtin.List.listSameRef (.ref S) (.ref it) = false := by simp [Builtin.List.listSameRef, hSi]
  rw [if_neg (by rw [h1]; decide)]
  refine wpAny_bind (wpAny_pyIter_revIter hit ?_)
  refine wpAny_bind (wpAny_holding (hint_lri hit ?_))
  rw [if_neg (by first | decide | decide +kernel)]
  have W := Walks.listRev (prog := prog) (w := w) (A := A.in1) hh it l hne items
  refine wpAny_pure ⟨plainId_quiet PySem.F.plain_extend_loop _, codeAny_extend_loopS W.toS hn _ hSf _ items.size 0 _ _ _ rfl (Nat.zero_le _) ⟨Nat.zero_le _, by rw [show ((items.size : Int) - 1 - ((0 : Nat) : Int)) = (items.size : Int) - 1 from by omega]; exact hit, hl⟩ hS (ItemsOf.nil _) fun s' acc' c' hm hS' hacc => ?_⟩
  rw [Moved.eq_with hm]
  refine hR s'.heap s'.toks acc' c' (fun b ob hb hb2 e => hm.heap b ob (fun hmem => ?_) e) hS' hacc
  rcases List.mem_cons.mp hmem with e' | hmem
  · exact hb e'
  · exact hb2 (List.mem_singleton.mp hmem)
/-- list(it), it any object of which listExtendWith is known -/
theorem call_list_ext {it : Addr} {P : Nat → Value → Prop} {n : Nat} {Q : Value → Shared → Prop}
    (ext : ∀ (R : Result → Shared → Prop) (s1 : Shared) (S : Addr) (res : Value) (c₀ : Nat), s1.heap.get? S = some { cls := .type "list", data := .seq #[] c₀ } → (∀ b o, s.heap.get? b = some o → b ≠ S → s1.heap.get? b = some o) → (S = s.heap.objs.size) →
      (∀ h' tk acc' c', (∀ b o, b ≠ S → b ≠ it → s1.heap.get? b = some o → h'.get? b = some o) → h'.get? S = some { cls := .type "list", dict := none, data := .seq acc' c', slots := #[] } → ItemsOf P acc' n → R (.ok (.ret res)) { s1 with heap := h', toks := tk }) →
      wpAny (model prog w) A.in1.in1 (Builtin.List.listExtendWith (.ref S) (.ref it) res) (fun fin s' => match fin with | .done f => R (.ok f) s' | .again c' => c'.quiet = true ∧ codeAny (model prog w) A.in1 c' R s') (fun e s' => R (.error e) s') s1)
    (hQ : ∀ h' tk acc' c', (∀ b o, b ≠ it → s.heap.get? b = some o → h'.get? b = some o) →
      h'.get? s.heap.objs.size = some { cls := .type "list", dict := none, data := .seq acc' c', slots := #[] } → ItemsOf P acc' n → Q (.ref s.heap.objs.size) { s with heap := h', toks := tk }) :
    wpAny (model prog w) A (call (.type "list") [.ref it]) Q E s := by
  refine callType_codes (Q₁ := fun obj s₁ => obj = .ref s.heap.objs.size ∧ s₁ = { s with heap := s.heap.push { cls := .type "list", data := .seq #[] } }) PySem.F.called_list (PySem.F.typeCall_list_1 _) PySem.F.entry_list_init
    (code_list_new _ ⟨rfl, rfl⟩) fun obj s₁ h₁ => ?_
  obtain ⟨rfl, rfl⟩ := h₁
  have hS : (s.heap.push { cls := .type "list", data := .seq #[] }).get? s.heap.objs.size = some { cls := .type "list", data := .seq #[] } := Heap.get?_push_size _ rfl
  refine ⟨⟨_, hS, rfl⟩, PySem.F.args_list_init_2 _ _, ?_⟩
  show wpAny _ A.in1.in1 (do let old ← Builtin.List.listItems (.ref s.heap.objs.size); Builtin.List.listUpdate (.ref s.heap.objs.size) (fun _ => #[]); letGo old.toList.reverse; Builtin.List.listExtendWith (.ref s.heap.objs.size) (.ref it) .none) _ _ _
  refine wpAny_bind ?_
  unfold Builtin.List.listItems
  refine wpAny_bind (wpAny_seqItems hS rfl (wpAny_pure ?_))
  show wpAny _ _ (updateSeq s.heap.objs.size (fun _ => #[]) >>= fun _ => letGo (#[] : Array Value).toList.reverse >>= fun _ => Builtin.List.listExtendWith (.ref s.heap.objs.size) (.ref it) .none) _ _ _
  refine wpAny_bind (wpAny_updateSeq hS rfl ?_)
  have hS₂ := Heap.get?_update_self (Obj.mapSeq (fun _ => (#[] : Array Value))) hS rfl
  have oth : ∀ b o, s.heap.get? b = some o → b ≠ s.heap.objs.size → ((s.heap.push { cls := .type "list", data := .seq #[] }).update s.heap.objs.size (Obj.mapSeq (fun _ => (#[] : Array Value)))).get? b = some o :=
    fun b o e hb => (Heap.get?_update_other _ _ (Ne.symm hb)).trans (Heap.get?_push_of_some _ e)
  refine wpAny_bind (wpAny_letGo ?_)
  refine ext _ _ _ _ _ hS₂ (fun b o e hb => oth b o e hb) rfl fun h' tk acc' c' hk hS' hacc => ?_
  exact ⟨rfl, hQ h' tk acc' c' (fun b o hb e => hk b o (Nat.ne_of_lt (Heap.lt_size e)) hb (oth b o e (Nat.ne_of_lt (Heap.lt_size e)))) hS' hacc⟩
theorem call_list_lri {it l : Addr} {items : Array Value} {Q : Value → Shared → Prop} (hh : A.handled = none) (hit : s.heap.IsRevIter it l ((items.size : Int) - 1)) (hl : s.heap.IsList l items) (hne : l ≠ it) (hn : items.size ≤ sizeLine)
    (hQ : ∀ h' tk acc' c', (∀ b o, b ≠ it → s.heap.get? b = some o → h'.get? b = some o) →
      h'.get? s.heap.objs.size = some { cls := .type "list", dict := none, data := .seq acc' c', slots := #[] } → ItemsOf (fun i v => items[items.size - 1 - i]? = some v) acc' items.size → Q (.ref s.heap.objs.size) { s with heap := h', toks := tk }) :
    wpAny (model prog w) A (call (.type "list") [.ref it]) Q E s := by
  obtain ⟨ol, hol, hcl⟩ := id hl
  obtain ⟨oi, hoi, hci⟩ := id hit
  refine call_list_ext (fun R s1 S res c₀ hS oth eS hR => ?_) hQ
  have n1 : S ≠ l := fun z => absurd (Heap.lt_size hol) (by rw [← z, eS]; exact Nat.lt_irrefl _)
  have n2 : S ≠ it := fun z => absurd (Heap.lt_size hoi) (by rw [← z, eS]; exact Nat.lt_irrefl _)
  exact extend_lri (A := A.in1) hh S it l items res c₀ hS (hit.at fun o e => oth it o e n2.symm) (hl.at fun o e => oth l o e n1.symm) hne n1 n2 hR hn
theorem call_list_rvs {it : Addr} {x : Str} {t : Tok} {Q : Value → Shared → Prop} (hh : A.handled = none) (hn : x.length ≤ sizeLine) (hit : IsRs s.heap it x t ((x.length : Int) - 1))
    (hQ : ∀ h' tk acc' c', (∀ b o, b ≠ it → s.heap.get? b = some o → h'.get? b = some o) →
      h'.get? s.heap.objs.size = some { cls := .type "list", dict := none, data := .seq acc' c', slots := #[] } → ItemsOf (SignRv x) acc' x.cps.size → Q (.ref s.heap.objs.size) { s with heap := h', toks := tk }) :
    wpAny (model prog w) A (call (.type "list") [.ref it]) Q E s := by
  obtain ⟨oi, hoi, hci⟩ := id hit
  refine call_list_ext (fun R s1 S res c₀ hS oth eS hR => ?_) hQ
  have n2 : S ≠ it := fun z => absurd (Heap.lt_size hoi) (by rw [← z, eS]; exact Nat.lt_irrefl _)
  exact kr_extend (A := A.in1) hh S res c₀ hS (hit.at fun o e => oth it o e n2.symm) hR hn
end
/-- list(reversed(x)) -/
def tLrv (K : PySem.W.Frag) (te : TE) : TE := fun σ H Q => te σ H fun v H1 => (∃ (a : Addr) (xs : List V), v = .ref a ∧ SqL K H1 a xs ∧ ∀ q, H1 q = none → Q (.ref q) (upd H1 q (.lst xs.reverse))) ∨
  ∃ x : Str, v = .str x ∧ x.length ≤ sizeLine ∧ ∀ q, H1 q = none → Q (.ref q) (upd H1 q (.lst (x.cps.toList.reverse.map fun c => V.str ⟨#[c]⟩)))
theorem pe_listRv {X : Cx} {e : Expr} {te : TE} {p p2 pos pos2 : Pos} (hc : X.calm = true) (hg : Gl X "list") (hm : X.mg "list" = none) (hg2 : Gl X "reversed") (hm2 : X.mg "reversed" = none) (he : PE X e te)
    (hs : starEach [e] X.env = (false, eval e X.env) :: starEach [] X.env := by rfl)
    (hs2 : starEach [.Call (.Name "reversed" p2) [e] [] pos2] X.env = (false, eval (.Call (.Name "reversed" p2) [e] [] pos2) X.env) :: starEach [] X.env := by rfl) :
    PE X (.Call (.Name "list" p) [.Call (.Name "reversed" p2) [e] [] pos2] [] pos) (tLrv X.K te) := by
  refine ⟨fun pins s σ H Q I h => ?_⟩
  refine Call_ (ld_blt I hg hm boot_list (PyProof.Rows.callWith_type1 (args_cons (Call_ (ld_blt I hg2 hm2 PyProof.Rows.boot_reversed (PyProof.Rows.callWith_type1 (args_cons (thn (he.run pins s σ H _ I h) fun u s1 ⟨v, H1, I1, r1, q1⟩ => args_nil ?_) hs) hs rfl))) hs2) hs2 rfl))
  rcases q1 with ⟨a, xs, ev, hq, q⟩ | ⟨x, ev, hz, q⟩
  · subst ev
    obtain rfl : u = Value.ref a := r1
    obtain ⟨its, rv, p', hz⟩ := I1.list hq
    refine call_reversed_list p'.isList (args_nil ?_)
    have k0 : ∀ b o, s1.heap.get? b = some o → (s1.heap.push (revObj a ((its.toArray.size : Int) - 1))).get? b = some o := fun b o e => Heap.get?_push_of_some _ e
    have I2 : Inv X pins σ H1 { s1 with heap := s1.heap.push (revObj a ((its.toArray.size : Int) - 1)) } := I1.kept (t' := s1.toks) k0
    obtain ⟨f0, f1, f2, f3, f4, f5⟩ := I1.fpOk (H' := H1) (b := s1.heap.objs.size) (Nat.le_refl _) (I1.hok.fresh (Nat.le_refl _))
    have hl := p'.isList
    obtain ⟨ol, hol, _⟩ := id hl
    have hne : a ≠ s1.heap.objs.size := Nat.ne_of_lt (Heap.lt_size hol)
    have hn : its.toArray.size ≤ sizeLine := by rw [List.size_toArray, ← rv.length]; exact hz
    refine call_list_lri (s := { s1 with heap := s1.heap.push (revObj a ((its.toArray.size : Int) - 1)) }) (I1.ok.hd hc) ⟨_, Heap.get?_push_size _ rfl, rfl, rfl⟩ (hl.push _) hne hn fun h' tk acc c' hk e' hi => ?_
    have sz : (s1.heap.push (revObj a ((its.toArray.size : Int) - 1))).objs.size = s1.heap.objs.size + 1 := by simp [Heap.push]
    have hk1 : ∀ b o, s1.heap.get? b = some o → h'.get? b = some o := fun b o e => hk b o (Nat.ne_of_lt (Heap.lt_size e)) (k0 b o e)
    refine ⟨.ref (s1.heap.push (revObj a ((its.toArray.size : Int) - 1))).objs.size, upd H1 (s1.heap.push (revObj a ((its.toArray.size : Int) - 1))).objs.size (.lst xs.reverse), I1.laid (t' := tk) hk1 (by rw [sz]; omega) (show ObjOk X.prog X.w _ _ _ (.lst xs.reverse) from ⟨by rw [List.length_reverse]; exact hz, acc.toList, c', vals_rev rv hi, ?_⟩), rfl, q _ (I1.hok.fresh (by rw [sz]; omega))⟩
    rw [Array.toArray_toList]
    exact e'
  · subst ev
    obtain ⟨t, rfl⟩ := r1
    have hn := line63
    refine call_reversed_str (by omega) (args_nil ?_)
    refine call_list_rvs (x := x) (t := t) (I1.ok.hd hc) hz ⟨_, Heap.get?_push_size _ rfl, rfl, rfl⟩ fun h' tk acc c' hk e' hi => ?_
    have k0 : ∀ b o, s1.heap.get? b = some o → (s1.heap.push (rsObj x t ((x.length : Int) - 1))).get? b = some o := fun b o e => Heap.get?_push_of_some _ e
    have sz : (s1.heap.push (rsObj x t ((x.length : Int) - 1))).objs.size = s1.heap.objs.size + 1 := by simp [Heap.push]
    have hk1 : ∀ b o, s1.heap.get? b = some o → h'.get? b = some o := fun b o e => hk b o (Nat.ne_of_lt (Heap.lt_size e)) (k0 b o e)
    obtain ⟨l, el, em⟩ := rv_values hi
    have rv : Vals (x.cps.toList.reverse.map fun c => V.str ⟨#[c]⟩) acc.toList := by
      have e1 : (x.cps.toList.reverse.map fun c => V.str ⟨#[c]⟩) = l.map fun p => V.str p.1 := by
        have : (l.map (·.1)).map V.str = (x.cps.toList.reverse.map fun c => (⟨#[c]⟩ : Str)).map V.str := by rw [em]
        rw [List.map_map, List.map_map] at this
        exact this.symm
      rw [e1, ← el]
      unfold strValues
      clear el em e1
      induction l with
      | nil => exact .nil
      | cons p l ih => exact .cons ⟨p.2, rfl⟩ ih
    refine ⟨.ref (s1.heap.push (rsObj x t ((x.length : Int) - 1))).objs.size, upd H1 (s1.heap.push (rsObj x t ((x.length : Int) - 1))).objs.size (.lst (x.cps.toList.reverse.map fun c => V.str ⟨#[c]⟩)), I1.laid (t' := tk) hk1 (by rw [sz]; omega) (show ObjOk X.prog X.w _ _ _ (.lst (x.cps.toList.reverse.map fun c => V.str ⟨#[c]⟩)) from ⟨by rw [List.length_map, List.length_reverse, Array.length_toList]; exact hz, acc.toList, c', rv, ?_⟩), rfl, q _ (I1.hok.fresh (by rw [sz]; omega))⟩
    rw [Array.toArray_toList]
    exact e'
end PuE
namespace Pu
open PySem L2 PuE
section
variable {Γ Γ' : Gm} {κ κ' : Ka} {H H' : Hp} {env env' : En} {σ : Sl} {v : V} {st : Sto} {Y : Fam} {e : Expr} {te : PTE} {pos pos2 : Pos}
/-- list(reversed(x)), a new list -/
def tListRv (te : PTE) : PTE := fun x e Q => te x e fun r e1 => match rv r e1 with
  | some (.lst ds) => Q (.own ds.reverse) e1
  | some (.str l) => Q (.own (signs l.reverse)) e1
  | _ => False
theorem repL_signsX {K : PySem.W.Frag} {cl : Cl} : ∀ {l : List Nat}, (∀ c ∈ l, c < 1114112) → RepL K cl κ H (l.map fun c => V.str ⟨#[c]⟩) (signs l)
  | [], _ => .nil
  | c :: l, h => .cons (.str [c] ⟨by show 1 ≤ _; decide, fun d hd => by rw [List.mem_singleton] at hd; exact hd ▸ h c (by simp)⟩) (repL_signsX fun d hd => h d (List.mem_cons_of_mem _ hd))
theorem ve_listRv {p p2 : Pos} (hm : ∀ i, (Y.X i).mg "list" = none) (hm2 : ∀ i, (Y.X i).mg "reversed" = none) (he : VE Y e te) (hcalm : ∀ i, (Y.X i).calm = true := by intro _; rfl) (hg : ∀ i, Gl (Y.X i) "list" := by intro _; rfl) (hg2 : ∀ i, Gl (Y.X i) "reversed" := by intro _; rfl)
    (hs : ∀ X : Cx, starEach [e] X.env = (false, eval e X.env) :: starEach [] X.env := by intro _; rfl)
    (hs2 : ∀ X : Cx, starEach [.Call (.Name "reversed" p2) [e] [] pos2] X.env = (false, eval (.Call (.Name "reversed" p2) [e] [] pos2) X.env) :: starEach [] X.env := by intro _; rfl) :
    VE Y (.Call (.Name "list" p) [.Call (.Name "reversed" p2) [e] [] pos2] [] pos) (tListRv te) := by
  obtain ⟨re, pe, fe⟩ := he.ex
  refine ⟨⟨fun E => tLrv Y.K (re E), fun i => by have := pe_listRv (p := p) (pos := pos) (hcalm i) (hg i) (hm i) (hg2 i) (hm2 i) (pe i) (hs _) (hs2 _); rw [Y.hK i] at this; exact this, fun Γ σ κ H env Q Q' hK I q k => ?_⟩⟩
  refine fe Γ σ κ H env _ _ hK I q fun v κ1 H1 r1 e1 x1 I1 h1 q1 => ?_
  cases e1' : rv r1 e1 with
  | none => rw [e1'] at q1; exact q1.elim
  | some d =>
    rw [e1'] at q1
    have rt := rv_ok I1 h1 e1'
    cases d with
    | lst ds =>
      obtain ⟨a, vs, rfl, h2, h3, h4⟩ := rt
      refine .inl ⟨a, vs, rfl, SqL.of h2, fun q hq => ?_⟩
      have r := h4.reverse
      have hl : vs.reverse.length ≤ sizeLine := by rw [List.length_reverse]; exact h3
      exact k _ κ1 _ (.own ds.reverse) e1 (x1.trans (Ext.upd_new I1.gh hq)) (I1.upd_new hq) (new_lst I1 hq hl r) q1
    | str l =>
      obtain ⟨rfl, so⟩ := Rep.strE rt
      refine .inr ⟨_, rfl, by rw [str_len]; exact so.1, fun q hq => ?_⟩
      have r : RepL Γ.K Γ.cls κ1 H1 (l.reverse.map fun c => V.str ⟨#[c]⟩) (signs l.reverse) := repL_signsX fun c hc => so.2 c (List.mem_reverse.mp hc)
      have hl : (l.reverse.map fun c => V.str ⟨#[c]⟩).length ≤ sizeLine := by rw [List.length_map, List.length_reverse]; exact so.1
      exact k _ κ1 _ (.own (signs l.reverse)) e1 (x1.trans (Ext.upd_new I1.gh hq)) (I1.upd_new hq) (new_lst I1 hq hl r) q1
    | _ => exact q1.elim
end
end Pu
set_option maxRecDepth 100000
set_option maxHeartbeats 4000000
namespace Pu
open PySem L2 PuE
def lrC (o : Option D) (e : En) (h : HB (R → En → Prop)) : Prop := match o with
  | some (.lst ds) => h.b (.own ds.reverse) e
  | some (.str l) => h.b (.own (signs l.reverse)) e
  | _ => False
theorem x_listRv {te x e Q} : tListRv te x e Q = te x e fun r e1 => lrC (rv r e1) e1 (HB.mk Q ()) := rfl
theorem x_lrCl {ds e Q} : lrC (some (.lst ds)) e (HB.mk Q ()) = Q (.own ds.reverse) e := rfl
theorem x_lrCs {l e Q} : lrC (some (.str l)) e (HB.mk Q ()) = Q (.own (signs l.reverse)) e := rfl
end Pu
set_option maxRecDepth 100000
set_option maxHeartbeats 4000000
namespace PuE
open PySem PySem.Calls PyProof.Rows PyProof.V PySem.Spec
theorem entry_contains_iter : entryFor table "proto.contains_iter" = some Builtin.«proto.contains_iter» := entryFor_of_fast (by kernel_rfl)
theorem plain_contains_iter : plainId "proto.contains_iter" = true := by decide +kernel
theorem no_contains : typeLookup (.type "dict_values") (Str.ofString "__contains__") = pure none := by kernel_rfl
section
variable {prog : Program} {w : World} {A : Around} {E : Value → Shared → Prop}
theorem citer_loop {it d : Addr} {es : Array DictEntry} {ep : Nat} {x : Str} {t : Tok} {R : Result → Shared → Prop} (ys : List Str) (hl : ys.length = es.size) (hys : ∀ i (hi : i < es.size), ∃ u, es[i].val = .str (ys[i]'(by omega)) u) (ne : d ≠ it) (hh : A.handled = none) : ∀ (n i : Nat) (s : Shared), i + n = es.size → s.heap.IsValIter it d i es.size ep → s.heap.DictRaw d es ep →
    (∀ h' tk, (∀ b o, b ≠ it → s.heap.get? b = some o → h'.get? b = some o) → R (.ok (.ret (.bool (decide (x ∈ ys.drop i))))) { s with heap := h', toks := tk }) →
    codeAny (model prog w) A (.builtin "proto.contains_iter" ⟨[.ref it, .str x t], []⟩) R s := by
  intro n
  induction n with
  | zero =>
    intro i s e hit hm q
    refine codeAny_builtin entry_contains_iter ?_
    rw [Around.under_plainId plain_contains_iter]
    unfold Builtin.«proto.contains_iter»
    show wpAny _ A.in1 (pyNext (.ref it) >>= _) _ _ s
    refine wpAny_bind (wpAny_pyNext_values_end_raw hh hit hm (by omega) fun h' hx => ?_)
    refine wpAny_bind (wpAny_rule ?_)
    have e0 : ys.drop i = [] := List.drop_eq_nil_of_le (by omega)
    have q0 := q h' s.toks fun b o hb ho => hx b o hb ho
    rw [e0] at q0
    exact wpAny_pure q0
  | succ n ih =>
    intro i s e hit hm q
    refine codeAny_builtin entry_contains_iter ?_
    rw [Around.under_plainId plain_contains_iter]
    unfold Builtin.«proto.contains_iter»
    show wpAny _ A.in1 (pyNext (.ref it) >>= _) _ _ s
    have hi : i < es.size := by omega
    refine wpAny_bind (wpAny_pyNext_values_item_raw hit hm hi fun h' hit' same => ?_)
    obtain ⟨u, hu⟩ := hys i hi
    rw [hu]
    have ed : ys.drop i = ys[i]'(by omega) :: ys.drop (i + 1) := List.drop_eq_getElem_cons (by omega)
    refine wpAny_bind (wpAny_eqBool_str ?_)
    by_cases hx : ys[i]'(by omega) = x
    · rw [decide_eq_true hx]
      refine wpAny_bind (wpAny_rule ?_)
      have q0 := q h' s.toks fun b o hb ho => same.extBut b o hb ho
      rw [ed, decide_eq_true (by rw [hx]; simp)] at q0
      exact wpAny_pure q0
    · rw [decide_eq_false hx]
      refine wpAny_pure ⟨plainId_quiet plain_contains_iter _, ?_⟩
      have hm' : h'.DictRaw d es ep := hm.at fun o ho => same.extBut d o ne ho
      refine ih (i + 1) { s with heap := h' } (by omega) hit' hm' fun h2 tk k2 => ?_
      have q0 := q h2 tk fun b o hb ho => k2 b o hb (same.extBut b o hb ho)
      rw [ed] at q0
      have e2 : decide (x ∈ ys[i]'(by omega) :: ys.drop (i + 1)) = decide (x ∈ ys.drop (i + 1)) := decide_eq_decide.mpr ⟨fun z => (List.mem_cons.mp z).elim (fun z => absurd z.symm hx) id, List.mem_cons_of_mem _⟩
      rw [e2] at q0
      exact q0
theorem contains_values {s : Shared} {v d : Addr} {es : Array DictEntry} {ep : Nat} {x : Str} {t : Tok} {Q : Bool → Shared → Prop} (ys : List Str) (hl : ys.length = es.size) (hys : ∀ i (hi : i < es.size), ∃ u, es[i].val = .str (ys[i]'(by omega)) u) (hh : A.handled = none) (hv : s.heap.IsValuesView v d) (hm : s.heap.DictRaw d es ep)
    (q : ∀ h' tk, (∀ b o, s.heap.get? b = some o → h'.get? b = some o) → Q (decide (x ∈ ys)) { s with heap := h', toks := tk }) : wpAny (model prog w) A (contains (.ref v) (.str x t)) Q E s := by
  have hT := hv.typeIs (s := s)
  unfold contains
  refine wpAny_holding ?_
  rw [stdlibNamesSay?_of_typeIs hT]
  refine wpAny_bind (wpAny_specialOf hT no_contains ?_)
  rw [if_neg (by decide)]
  refine wpAny_bind (wpAny_callSpecialUnlessNone?_none hT no_contains ?_)
  refine wpAny_bind (wpAny_rule ?_)
  refine wpAny_bind (wpAny_tryCatch (wpAny_pyIter_values_raw hv hm ?_))
  have hd : d < s.heap.objs.size := by
    obtain ⟨o, ho, _⟩ := id hm
    exact Heap.lt_size ho
  refine wpAny_bind (wpAny_runValue ?_)
  refine citer_loop (it := s.heap.objs.size) (d := d) (es := es) (ep := ep) ys hl hys (Nat.ne_of_lt hd) (by exact hh) es.size 0 _ (by omega) ?_ ?_ ?_
  · exact ⟨_, Heap.get?_push_size _ rfl, rfl, rfl⟩
  · exact hm.at fun o ho => Heap.get?_push_of_some _ ho
  · intro h' tk k
    rw [List.drop_zero] at *
    refine wpAny_pure (q h' tk fun b o ho => k b o (Nat.ne_of_lt (Heap.lt_size ho)) (Heap.get?_push_of_some _ ho))
end
section
open L2
theorem KV_strs : ∀ {kvs : List (Key × V)} {vs : List (Key × Value)} (ws : List Str), KV kvs vs → kvs.map (·.2) = ws.map V.str → ws.length = vs.length ∧ ∀ (i : Nat) (p : Key × Value), vs[i]? = some p → ∃ (x : Str) (u : Tok), ws[i]? = some x ∧ p.2 = Value.str x u
  | _, _, ws, .nil, e => by
    have : ws = [] := by simpa using e.symm
    subst this
    exact ⟨rfl, fun i p h => by simp at h⟩
  | a :: kvs, b :: vs, ws, .cons h t, e => by
    match ws, e with
    | [], e => simp at e
    | w :: ws, e =>
      rw [List.map_cons, List.map_cons] at e
      injection e with e1 e2
      obtain ⟨l, r⟩ := KV_strs ws t e2
      refine ⟨by simp [l], fun i p hp => ?_⟩
      cases i with
      | zero =>
        simp only [List.getElem?_cons_zero, Option.some.injEq] at hp
        subst hp
        have h2 := h.2
        rw [e1] at h2
        obtain ⟨u, hu⟩ := h2
        exact ⟨w, u, rfl, hu⟩
      | succ i => exact r i p (by simpa using hp)
def tDNotVal (ty td : TE) : TE := fun σ H Q => ty σ H fun y H1 => td σ H1 fun x H2 => ∃ (a : Addr) (kvs : List (Key × V)) (yt : Str) (ws : List Str), x = .ref a ∧ H2 a = some (.dK kvs) ∧ y = .str yt ∧ kvs.map (·.2) = ws.map V.str ∧ Q (.bl (!decide (yt ∈ ws))) H2
variable {X : Cx} {o i : Expr} {apos cpos : Pos} {td ty : TE}
theorem pc_dnotval (hc : X.calm = true) (hi : PE X i ty) (ho : PE X o td) (hbase : attributeBase o "values" X.env (eval o X.env) = eval o X.env := by rfl) (hline : (apos.endLine == cpos.line) = true := by rfl) : PC X .NotIn i (.Call (.Attribute o "values" apos) [] [] cpos) (tDNotVal ty td) := by
  refine ⟨fun pins s σ H Q I h => ?_⟩
  refine thn (hi.run pins s σ H _ I h) fun iv s1 ⟨y, H1, I1, ry, q1⟩ => ?_
  refine wpAny_Call_method0_late hbase hline (thn (ho.run pins s1 σ H1 _ I1 q1) fun u s2 ⟨x, H2, I2, rx, a, kvs, yt, ws, ex, ha, ey, hw, q2⟩ => ?_)
  subst ex ey
  obtain rfl : u = Value.ref a := rx
  obtain ⟨t, rfl⟩ : ∃ t, iv = .str yt t := ry
  obtain ⟨_, hd, vs, rel, dd⟩ := dk_of I2.hok ha
  obtain ⟨t1, t2, _⟩ := isD_at I2 (.inl ⟨kvs, .inl ha⟩)
  obtain ⟨es, ep, hraw, hsz, hval⟩ := dd.raw
  obtain ⟨wl, wv⟩ := KV_strs ws rel hw
  refine ⟨"dict", _, PySem.F.plainAttrs_dict, PySem.F.slot_dict_values, PySem.F.type_dict_values, t1, t2, Calls.callWith_builtin rfl (PySem.evalArgs_none ?_)⟩
  refine call_meetsIn PySem.F.slot_dict_values t1 PySem.F.entry_dict_values (PySem.F.args_dict_values_1 _) (meets_dict_values_raw a hd) ⟨⟨es, ep, hraw⟩, ?_⟩
  show wpAny _ _ (contains (.ref s2.heap.objs.size) (.str yt t) >>= fun b => pure (Value.bool (!b))) _ _ _
  refine wpAny_bind (contains_values (es := es) (ep := ep) (d := a) ws (by omega) (fun j hj => ?_) (I2.ok.hd hc) ⟨_, Heap.get?_push_size _ rfl, rfl, rfl⟩ (hraw.at fun o ho => Heap.get?_push_of_some _ ho) fun h' tk k => ?_)
  · have hj' : j < vs.length := by omega
    obtain ⟨x, v, hx, hv⟩ := wv j vs[j] (List.getElem?_eq_getElem hj')
    have e := (hval j hj _ _ (List.getElem?_eq_getElem hj')).2
    rw [List.getElem?_eq_getElem (by omega)] at hx
    exact ⟨v, e.trans (Eq.trans hv (by rw [← Option.some.inj hx]))⟩
  · exact wpAny_pure ⟨.bl (!decide (yt ∈ ws)), H2, I2.kept (t' := tk) fun b o e => k b o (Heap.get?_push_of_some _ e), rfl, q2⟩
end
end PuE
namespace Pu
open PySem L2 PySem.Spec PyProof.Rows PuE
section
variable {Γ : Gm} {κ κ' : Ka} {H H' : Hp} {env env' : En} {σ : Sl} {v : V} {Y : Fam} {o i : Expr} {apos cpos pos : Pos} {ti to : PTE}
/-- y not in d.values(), y a text, the values texts -/
def tDNV (ti to : PTE) : PTE := fun x e Q => ti x e fun ri e1 => hold ri e1 fun ri e1 => to x e1 fun r e2 => match kgetR r e2 with
  | some kvs => match rv ri e2, strL (kvs.map (·.2)) with
    | some (.str y), some ws => Q (.d (.bl (!decide (y ∈ ws)))) e2
    | _, _ => False
  | none => False
theorem strs_rep {K : PySem.W.Frag} {cl : Cl} : ∀ {vs : List (Key × V)} {ds : List (Key × D)} {ws : List (List Nat)}, PR K cl κ H vs ds → strL (ds.map (·.2)) = some ws → vs.map (·.2) = (ws.map fun w => (⟨w.toArray⟩ : Str)).map V.str
  | _, _, ws, .nil, e => by cases e; rfl
  | _, _, ws, .cons (d := d) (ds := ds) h t, e => by
    cases d with
    | str l =>
      rw [List.map_cons] at e
      unfold strL at e
      cases e2 : strL (ds.map (·.2)) with
      | none => rw [e2] at e; cases e
      | some r =>
        rw [e2] at e
        cases e
        cases h
        rw [List.map_cons, strs_rep t e2]
        rfl
    | _ => cases e
theorem vt_dnotval (hc : ∀ j, (Y.X j).calm = true := by intro _; rfl) (hi : VE Y i ti) (ho : VE Y o to) (hm : behindInMarks .NotIn (.Call (.Attribute o "values" apos) [] [] cpos) = false := by rfl)
    (hbase : ∀ X : Cx, attributeBase o "values" X.env (eval o X.env) = eval o X.env := by intro _; rfl) (hline : (apos.endLine == cpos.line) = true := by rfl) :
    VT Y (.Compare i [.NotIn] [.Call (.Attribute o "values" apos) [] [] cpos] pos) (tB (tDNV ti to)) := by
  obtain ⟨ro, po, fo⟩ := ho.ex
  obtain ⟨ri, pi, fi⟩ := hi.ex
  refine vt_of_pc (rd := fun E => tDNotVal (ri E) (ro E)) hm (fun j => pc_dnotval (hc j) (pi j) (po j) (hbase _) hline) fun Γ σ κ H env Q Q' hK I q k => ?_
  refine fi Γ σ κ H env _ _ hK I q fun iv κ1 H1 r1 e1 x1 I1 h1 q1 => ?_
  refine hold_ok I1 h1 q1 fun κ2 r2 x2 I2 h2 q2 => ?_
  refine fo Γ σ κ2 H1 e1 _ _ hK I2 q2 fun v κ3 H3 r3 e3 x3 I3 h3 q3 => ?_
  cases e1' : kgetR r3 e3 with
  | none => rw [e1'] at q3; exact q3.elim
  | some kvs =>
    rw [e1'] at q3
    simp only at q3
    cases e2' : rv r2 e3 with
    | none => rw [e2'] at q3; exact q3.elim
    | some kd =>
      cases e3' : strL (kvs.map (·.2)) with
      | none => rw [e2', e3'] at q3; cases kd <;> exact q3.elim
      | some ws =>
        rw [e2', e3'] at q3
        cases kd with
        | str y =>
          obtain ⟨a, vs, rfl, g1, g2⟩ := dctR_ok I3 (kget_rel h3 e1') e1'
          have hy := rv_ok I3 (h2.ext x3).rel e2'
          cases hy with
          | str _ hy =>
            refine ⟨a, vs, ⟨y.toArray⟩, ws.map fun w => ⟨w.toArray⟩, rfl, g1, rfl, strs_rep g2 e3', ?_⟩
            have e : decide ((⟨y.toArray⟩ : Str) ∈ ws.map fun w => (⟨w.toArray⟩ : Str)) = decide (y ∈ ws) := decide_eq_decide.mpr ⟨fun z => by
              obtain ⟨w, hw, e⟩ := List.mem_map.mp z
              have : w = y := by
                have := congrArg (fun s : Str => s.cps.toList) e
                simpa using this
              exact this ▸ hw, fun z => List.mem_map_of_mem z⟩
            rw [e]
            exact k _ κ3 H3 (.d (.bl _)) e3 ((x1.trans x2).trans x3) I3 (.bl _) q3
        | _ => exact q3.elim
end
end Pu
set_option maxRecDepth 100000
set_option maxHeartbeats 4000000
namespace Pu
open PySem L2
def IsL (c : Nat) : Prop := (65 ≤ c ∧ c ≤ 90) ∨ (97 ≤ c ∧ c ≤ 122)
instance (c : Nat) : Decidable (IsL c) := by unfold IsL; infer_instance
def con (c : Nat) : Nat := if 97 ≤ c then c - 32 else c + 32
theorem con_con {c : Nat} (h : IsL c) : con (con c) = c := by unfold con IsL at *; split <;> split <;> omega
theorem con_L {c : Nat} (h : IsL c) : IsL (con c) := by unfold con IsL at *; split <;> omega
theorem con_ne {c : Nat} (h : IsL c) : con c ≠ c := by unfold con IsL at *; split <;> omega
def m_contrary : PM := fun ds st Q => match ds with
  | [.str [c]] => IsL c ∧ Q (.d (.str [con c])) st
  | _ => False
/-- contrary: slots letter -/
def t_contrary : PTS := sRet (t2 (t2 (tD (.str CP)) (tD (.str SM)) pAdd) (tMeth "str" pIndexS (t2 (tD (.str SM)) (tD (.str CP)) pAdd) (rCons (tName 0) (rNil))) pIx)
abbrev N_contrary : List Str := ["letter"]
theorem ixOf_SMCP {c : Nat} (h : IsL c) : c ∈ SM ++ CP ∧ atI (CP ++ SM) (ixOf c (SM ++ CP) : Nat) = some (con c) := by
  have key : ∀ n : Nat, n < 123 → IsL n → n ∈ SM ++ CP ∧ atI (CP ++ SM) (ixOf n (SM ++ CP) : Nat) = some (con n) := by decide +kernel
  exact key c (by unfold IsL at h; omega) h
theorem len_contrary (ds : List D) (s : Sto) (Q : C → Sto → Prop) (h : m_contrary ds s Q) : ds.length = 1 := by
  unfold m_contrary at h
  split at h
  · rfl
  · exact h.elim
theorem p_contrary (ds : List D) (s : Sto) (Q : C → Sto → Prop) (h : m_contrary ds s Q) : t_contrary noX { nx := fun e => Q (.d .non) e.st, rt := fun c e => Q c e.st } ⟨startC N_contrary ds, s⟩ := by
  unfold m_contrary at h
  split at h
  · rename_i c
    obtain ⟨hc, q⟩ := h
    obtain ⟨h1, h2⟩ := ixOf_SMCP hc
    refine ⟨by decide +kernel, by decide +kernel, rfl, h1, ?_⟩
    show (match atI (CP ++ SM) (ixOf c (SM ++ CP) : Nat) with | some c => Q (.d (.str [c])) s | none => False)
    rw [h2]
    exact q
  · exact h.elim
end Pu
set_option maxRecDepth 100000
set_option maxHeartbeats 4000000
namespace Pu
open PySem L2
def m_law_take : PM := fun ds st Q => match ds with
  | [.box, .int n] => 0 < n ∧ n < 2 ^ 64 ∧ ∀ d : Int, 0 ≤ d → d < n → Q (.d (.int d)) st
  | _ => False
/-- _law_take: slots _law_box_here, _law_many, _law_one, _law_digit -/
def t_law_take : PTS := sSeq (sIf (tB (t2 (t2 (tName 0) (tD (.int 0)) pIx) (tD (.int 0)) pGt)) (sSeq (sAsg 3 (t2 (t2 (tName 0) (tD (.int 0)) pIx) (tName 1) pMod)) (sSeq (sSetIx (t2 (t2 (tName 0) (tD (.int 0)) pIx) (tName 1) pFdiv) (tName 0) (tD (.int 0))) (sRet (tName 3)))) (sNext)) (sSeq (sAsg 2 (t2 (t2 (t2 (tName 0) (tD (.int 1)) pIx) (tD (.int 69623)) pMul) (tD (.int 2147483647)) pMod)) (sSeq (sSetIx (t2 (t2 (t2 (t2 (tName 2) (tD (.int 48271)) pMul) (tD (.int 30103)) pAdd) (tD (.int 2147483629)) pMod) (tD (.int 1)) pAdd) (tName 0) (tD (.int 1))) (sRet (t2 (t2 (t2 (t2 (tName 2) (tD (.int 2147483647)) pMul) (t2 (tName 0) (tD (.int 1)) pIx) pAdd) (tD (.int 8191)) pFdiv) (tName 1) pMod))))
abbrev N_law_take : List Str := ["_law_box_here", "_law_many", "_law_one", "_law_digit"]
theorem len_law_take (ds : List D) (s : Sto) (Q : C → Sto → Prop) (h : m_law_take ds s Q) : ds.length = 2 := by
  unfold m_law_take at h
  split at h
  · rfl
  · exact h.elim
theorem small_log {n : Int} (h0 : 0 < n) (h : n < 2 ^ 64) : CDivW 0 n := by
  refine ⟨h0, ?_⟩
  have : n.natAbs.log2 < 64 := (Nat.log2_lt (by omega)).mpr (by omega)
  omega
theorem cmul_r (i j : Int) (h1 : -(2 ^ 64) < j := by decide) (h2 : j < 2 ^ 64 := by decide) : CMul i j := .inr ⟨h1, h2⟩
theorem cmul_l (i j : Int) (h1 : -(2 ^ 64) < i := by decide) (h2 : i < 2 ^ 64 := by decide) : CMul i j := .inl ⟨h1, h2⟩
theorem lt_of (a b : Nat) (h : a < b := by decide) : a < b := h
theorem p0 (a : Nat) (h : 0 < a := by decide) : (0 : Int) < (a : Int) := by omega
theorem ite_intro {c : Prop} [Decidable c] {a b : Prop} (h1 : c → a) (h2 : ¬ c → b) : if c then a else b := by
  by_cases h : c
  · rw [if_pos h]; exact h1 h
  · rw [if_neg h]; exact h2 h
theorem le_line (n : Nat) (h : n ≤ 16777216 := by decide) : n ≤ sizeLine := by rw [line_eq]; exact h
theorem p_law_take (ds : List D) (s : Sto) (Q : C → Sto → Prop) (h : m_law_take ds s Q) : t_law_take noX { nx := fun e => Q (.d .non) e.st, rt := fun c e => Q c e.st } ⟨startC N_law_take ds, s⟩ := by
  unfold m_law_take at h
  split at h
  · rename_i n
    obtain ⟨h0, h1, q⟩ := h
    have hq : ∀ i : Int, Q (.d (.int (i % n))) s := fun i => q _ (Int.emod_nonneg _ (by omega)) (Int.emod_lt_of_pos _ h0)
    refine ⟨.inl rfl, fun z => ?_⟩
    show if decide (z > 0) = true then _ else _
    split
    · refine ⟨.inl rfl, fun z1 => ⟨h0, lt_of 3 4, ?_⟩⟩
      refine ⟨.inl rfl, fun z2 => ⟨⟨h0, (small_log h0 h1).2⟩, ⟨.inl rfl, ?_⟩⟩⟩
      exact hq z1
    · refine ⟨.inr rfl, fun z1 => ⟨cmul_r _ _, p0 2147483647, lt_of 2 4, ?_⟩⟩
      refine ⟨cmul_r _ _, p0 2147483629, ⟨.inr rfl, ?_⟩⟩
      refine ⟨cmul_r _ _, .inr rfl, fun z2 => ⟨⟨by decide, by decide⟩, h0, ?_⟩⟩
      exact hq _
  · exact h.elim
def mb_law_box : PM := fun ds st Q => match ds with
  | [.scr n, .int k] => 0 ≤ k ∧ k < 2 ^ 40 ∧ ∀ i j : Int, Q (.own [.int i, .int j]) st
  | _ => False
def m_law_box : PM := fun ds st Q => match ds with
  | [.scr n, .int k] => 0 ≤ k ∧ k < 2 ^ 40 ∧ Q (.d .box) st
  | _ => False
theorem len_law_box (ds : List D) (s : Sto) (Q : C → Sto → Prop) (h : mb_law_box ds s Q) : ds.length = 2 := by
  unfold mb_law_box at h
  split at h
  · rfl
  · exact h.elim
theorem box_law_box (ds : List D) (s : Sto) (Q : C → Sto → Prop) (h : m_law_box ds s Q) : boxed mb_law_box ds s Q := by
  unfold m_law_box at h
  split at h
  · exact ⟨h.1, h.2.1, fun i j => ⟨i, j, rfl, h.2.2⟩⟩
  · exact h.elim
def t_law_box : PTS := sSeq (sAsg 2 (t2 (t2 (tD (.int 7919)) (tName 1) pMul) (tD (.int 11)) pAdd)) (sSeq (sIf (tB (t2 (tName 1) (tCallP pLen (rCons (tName 0) (rNil))) pLt)) (sAsg 2 (t2 (tName 0) (tName 1) pIx)) (sIf (tB (t2 (tCallP pLen (rCons (tName 0) (rNil))) (tD (.int 0)) pGt)) (sAsg 2 (t2 (tName 2) (t2 (t2 (t2 (tName 0) (t2 (tName 1) (tCallP pLen (rCons (tName 0) (rNil))) pMod) pIx) (tD (.int 2147483629)) pMod) (tD (.int 69623)) pMul) pAdd)) (sNext))) (sSeq (sAsg 3 (t2 (t2 (t2 (t2 (t2 (tName 2) (tD (.int 2147483629)) pMod) (t2 (tD (.int 104729)) (tName 1) pMul) pAdd) (tD (.int 1)) pAdd) (tD (.int 5)) pPow) (tD (.int 2147483647)) pMod)) (sRet (tLst (tCons (t2 (tLst (tCons (tD (.int 0)) (tCons (tName 2) (tNil)))) (tCallP pInt (rCons (t2 (tName 2) (t2 (tD (.int 10)) (tD (.int 18)) pPow) pGe) (rNil))) pIx) (tCons (t2 (t2 (tName 3) (tD (.int 2147483646)) pMod) (tD (.int 1)) pAdd) (tNil)))))))
abbrev N_law_box : List Str := ["_law_script", "_law_k", "_law_cell", "_law_seed"]
theorem p_law_box (ds : List D) (s : Sto) (Q : C → Sto → Prop) (h : mb_law_box ds s Q) : t_law_box noX { nx := fun e => Q (.d .non) e.st, rt := fun c e => Q c e.st } ⟨startC N_law_box ds, s⟩ := by
  unfold mb_law_box at h
  split at h
  · rename_i n k
    obtain ⟨h0, h1, q⟩ := h
    have tail : ∀ z : Int, sSeq (sAsg 3 (t2 (t2 (t2 (t2 (t2 (tName 2) (tD (.int 2147483629)) pMod) (t2 (tD (.int 104729)) (tName 1) pMul) pAdd) (tD (.int 1)) pAdd) (tD (.int 5)) pPow) (tD (.int 2147483647)) pMod)) (sRet (tLst (tCons (t2 (tLst (tCons (tD (.int 0)) (tCons (tName 2) (tNil)))) (tCallP pInt (rCons (t2 (tName 2) (t2 (tD (.int 10)) (tD (.int 18)) pPow) pGe) (rNil))) pIx) (tCons (t2 (t2 (tName 3) (tD (.int 2147483646)) pMod) (tD (.int 1)) pAdd) (tNil))))) noX { nx := fun e => Q (.d .non) e.st, rt := fun c e => Q c e.st } ⟨[.d (.scr n), .d (.int k), .d (.int z), .un], s⟩ := by
      intro z
      have m0 := Int.emod_nonneg z (b := 2147483629) (by omega)
      have m1 := Int.emod_lt_of_pos z (b := 2147483629) (by omega)
      refine ⟨p0 2147483629, cmul_l _ _, ⟨by decide, by decide, ?_⟩, p0 2147483647, lt_of 3 4, ?_⟩
      · omega
      refine ⟨le_line 2, ⟨by decide, by decide, by decide⟩, ?_⟩
      show (match atI [D.int 0, D.int z] (if decide (10 ^ 18 ≤ z) then 1 else 0) with | some y => _ | none => _)
      cases decide (10 ^ 18 ≤ z)
      · refine ⟨p0 2147483646, le_line 2, ?_⟩
        exact q 0 _
      · refine ⟨p0 2147483646, le_line 2, ?_⟩
        exact q z _
    refine ⟨cmul_l _ _, lt_of 2 4, ?_⟩
    refine ite_intro (fun c => ?_) fun c => ?_
    · have c := of_decide_eq_true c
      exact ⟨⟨h0, c⟩, fun z => ⟨lt_of 2 4, tail z⟩⟩
    · refine ite_intro (fun c' => ?_) fun c' => tail _
      have c' : (0 : Int) < n := of_decide_eq_true c'
      refine ⟨c', ⟨Int.emod_nonneg _ (by omega), Int.emod_lt_of_pos _ c'⟩, fun z => ⟨p0 2147483629, cmul_r _ _, lt_of 2 4, tail _⟩⟩
  · exact h.elim
def m_law_other : PM := m_contrary
def t_law_other : PTS := sSeq (sAsg 1 (tD (.str SM))) (sSeq (sAsg 2 (tD (.str CP))) (sSeq (sIf (tB (t2 (tName 0) (tName 1) (pIn false))) (sRet (t2 (tName 2) (tMeth "str" pIndexS (tName 1) (rCons (tName 0) (rNil))) pIx)) (sNext)) (sRet (t2 (tName 1) (tMeth "str" pIndexS (tName 2) (rCons (tName 0) (rNil))) pIx))))
abbrev N_law_other : List Str := ["_law_letter", "_law_small", "_law_capital"]
theorem len_law_other (ds : List D) (s : Sto) (Q : C → Sto → Prop) (h : m_law_other ds s Q) : ds.length = 1 := len_contrary ds s Q h
theorem other_fact {c : Nat} (h : IsL c) : (c ∈ SM ∧ atI CP (ixOf c SM : Nat) = some (con c)) ∨ (¬ c ∈ SM ∧ c ∈ CP ∧ atI SM (ixOf c CP : Nat) = some (con c)) := by
  have key : ∀ n : Nat, n < 123 → IsL n → (n ∈ SM ∧ atI CP (ixOf n SM : Nat) = some (con n)) ∨ (¬ n ∈ SM ∧ n ∈ CP ∧ atI SM (ixOf n CP : Nat) = some (con n)) := by decide +kernel
  exact key c (by unfold IsL at h; omega) h
theorem p_law_other (ds : List D) (s : Sto) (Q : C → Sto → Prop) (h : m_law_other ds s Q) : t_law_other noX { nx := fun e => Q (.d .non) e.st, rt := fun c e => Q c e.st } ⟨startC N_law_other ds, s⟩ := by
  unfold m_law_other m_contrary at h
  split at h
  · rename_i c
    obtain ⟨hc, q⟩ := h
    refine ⟨lt_of 1 3, lt_of 2 3, ?_⟩
    refine ite_intro (fun c' => ?_) fun c' => ?_
    · have c' : c ∈ SM := of_decide_eq_true c'
      rcases other_fact hc with ⟨h1, h2⟩ | ⟨h1, _⟩
      · refine ⟨rfl, h1, ?_⟩
        show (match atI CP (ixOf c SM : Nat) with | some c => Q (.d (.str [c])) s | none => False)
        rw [h2]
        exact q
      · exact absurd c' h1
    · have c' : ¬ c ∈ SM := fun z => c' (decide_eq_true z)
      rcases other_fact hc with ⟨h1, h2⟩ | ⟨h1, h2, h3⟩
      · exact absurd h1 c'
      · refine ⟨rfl, h2, ?_⟩
        show (match atI SM (ixOf c CP : Nat) with | some c => Q (.d (.str [c])) s | none => False)
        rw [h3]
        exact q
  · exact h.elim
def turn (w : List Nat) : List Nat := (w.map con).reverse
def IsW (w : List Nat) : Prop := ∀ c ∈ w, IsL c
def m_turned : PM := fun ds st Q => match ds with
  | [.str w] => IsW w ∧ w.length ≤ 16777216 ∧ Q (.d (.str (turn w))) st
  | _ => False
def t_turned : PTS := sRet (tMeth "str" pJoin (tD (.str [])) (rCons (cLc (iRevP (tName 0)) (gName 1) (cYes) (tCall0 m_contrary (tCons (tName 1) (tNil))) [1]) (rNil)))
abbrev N_turned : List Str := ["word", "letter"]
theorem len_turned (ds : List D) (s : Sto) (Q : C → Sto → Prop) (h : m_turned ds s Q) : ds.length = 1 := by
  unfold m_turned at h
  split at h
  · rfl
  · exact h.elim
theorem p_turned (ds : List D) (s : Sto) (Q : C → Sto → Prop) (h : m_turned ds s Q) : t_turned noX { nx := fun e => Q (.d .non) e.st, rt := fun c e => Q c e.st } ⟨startC N_turned ds, s⟩ := by
  unfold m_turned at h
  split at h
  · rename_i w
    obtain ⟨hw, hl, q⟩ := h
    refine ⟨rfl, ?_⟩
    refine ⟨by rw [List.length_reverse, signs_len, line_eq]; exact hl, rfl, ?_⟩
    refine lcR_map (fun d => match d with | .str [c] => .str [con c] | d => d) _ _ (fun d hd K k => ?_) ?_
    · have hd := List.mem_reverse.mp hd
      unfold signs at hd
      obtain ⟨c, hc, rfl⟩ := List.mem_map.mp hd
      exact ⟨lt_of 1 2, hw c hc, k⟩
    · have e : (signs w).reverse.map (fun d => match d with | .str [c] => D.str [con c] | d => d) = signs (turn w) := by
        unfold signs turn
        rw [← List.map_reverse, List.map_map, ← List.map_reverse, List.map_map]
        rfl
      rw [List.nil_append, e]
      show (match strL (signs (turn w)) with | some r => _ | none => _)
      rw [strL_signs]
      refine ⟨len_signs (by unfold turn; simpa using hl), ?_⟩
      show Q (.d (.str (joinN [] ((turn w).map fun c => [c])))) s
      rw [joinN_signs]
      exact q
  · exact h.elim
theorem turn_turn {w : List Nat} (h : IsW w) : turn (turn w) = w := by
  unfold turn
  rw [List.map_reverse, List.reverse_reverse, List.map_map]
  conv => rhs; rw [← List.map_id w]
  exact List.map_congr_left fun c hc => con_con (h c hc)
theorem turn_W {w : List Nat} (h : IsW w) : IsW (turn w) := fun c hc => by
  unfold turn at hc
  rw [List.mem_reverse, List.mem_map] at hc
  obtain ⟨d, hd, rfl⟩ := hc
  exact con_L (h d hd)
theorem turn_len (w : List Nat) : (turn w).length = w.length := by unfold turn; simp
theorem turn_app (v w : List Nat) : turn (v ++ w) = turn w ++ turn v := by unfold turn; rw [List.map_append, List.reverse_append]
end Pu
set_option maxRecDepth 100000
set_option maxHeartbeats 4000000
namespace Pu
open PySem L2
theorem signs_erase (w : List Nat) (j : Nat) : (signs w).eraseIdx j = signs (w.eraseIdx j) := by
  unfold signs
  induction w generalizing j with
  | nil => rfl
  | cons c w ih => cases j with
    | zero => rfl
    | succ j => simp only [List.map_cons, List.eraseIdx_cons_succ, ih]
theorem signs_pop {w : List Nat} {i : Int} {K : List D → D → Prop} (h0 : 0 ≤ i) (h1 : i < w.length) (h : ∀ j (hj : j < w.length), K (signs (w.eraseIdx j)) (.str [w[j]])) : mPopAt (signs w) [.int i] K := by
  refine popAt_ok h0 (by rw [signs_len]; exact h1) fun j hj => ?_
  rw [signs_erase]
  have hj' : j < w.length := by rw [signs_len] at hj; exact hj
  have e : (signs w)[j] = .str [w[j]] := List.getElem_map (f := fun c => D.str [c]) (l := w) (i := j) (h := hj)
  rw [e]
  exact h j hj'
structure YardOk (y : List Nat) : Prop where
  nd : y.Nodup
  let_ : ∀ c ∈ y, IsL c
  con_ : ∀ c ∈ y, con c ∈ y
def m_law_yard : PM := fun ds st Q => match ds with
  | [.box, .int few, .int top] => 0 ≤ few ∧ few ≤ top ∧ top ≤ 26 ∧ ∀ y : List Nat, YardOk y → 2 * few ≤ y.length → y.length ≤ 2 * top → Q (.d (.str y)) st
  | _ => False
def t_law_yard : PTS := sSeq (sAsg 3 (tCallP pList (rCons (tD (.str SM)) (rNil)))) (sSeq (sAsg 4 (tLst (tNil))) (sSeq (sFor (iPure pRng1 (rCons (t2 (tName 1) (tCall0 m_law_take (tCons (tName 0) (tCons (t2 (t2 (tName 2) (tName 1) pSub) (tD (.int 1)) pAdd) (tNil)))) pAdd) (rNil))) (gName 5) (sSeq (sAsg 7 (tMut mPopAt (tName 3) (tCons (tCall0 m_law_take (tCons (tName 0) (tCons (tCallP pLen (rCons (tName 3) (rNil))) (tNil)))) (tNil)))) (sAsg 4 (t2 (tName 4) (tLst (tCons (tName 7) (tCons (tCall0 m_law_other (tCons (tName 7) (tNil))) (tNil)))) pAdd)))) (sSeq (sAsg 6 (tD (.str []))) (sSeq (sWhile (tB (t2 (tCallP pLen (rCons (tName 4) (rNil))) (tD (.int 0)) pGt)) (sAsg 6 (t2 (tName 6) (tMut mPopAt (tName 4) (tCons (tCall0 m_law_take (tCons (tName 0) (tCons (tCallP pLen (rCons (tName 4) (rNil))) (tNil)))) (tNil))) pAdd))) (sRet (tName 6))))))
abbrev N_law_yard : List Str := ["_law_box_here", "_law_few", "_law_top", "_law_left", "_law_ends", "_law_k", "_law_found", "_law_letter"]
theorem len_law_yard (ds : List D) (s : Sto) (Q : C → Sto → Prop) (h : m_law_yard ds s Q) : ds.length = 3 := by
  unfold m_law_yard at h
  split at h
  · rfl
  · exact h.elim
/-- the letters that are left, the ends that are taken -/
structure Yi (left ends : List Nat) (j : Nat) : Prop where
  nl : left.Nodup
  sm : ∀ c ∈ left, 97 ≤ c ∧ c ≤ 122
  ne : ends.Nodup
  le : ∀ c ∈ ends, IsL c ∧ con c ∈ ends ∧ c ∉ left ∧ con c ∉ left
  l1 : left.length + j = 26
  l2 : ends.length = 2 * j
theorem not_mem_erase {l : List Nat} (h : l.Nodup) {j : Nat} (hj : j < l.length) : l[j] ∉ l.eraseIdx j := by
  induction l generalizing j with
  | nil => simp at hj
  | cons a l ih =>
    rw [List.nodup_cons] at h
    cases j with
    | zero => simpa using h.1
    | succ j =>
      simp only [List.getElem_cons_succ, List.eraseIdx_cons_succ, List.mem_cons, not_or]
      have hj' : j < l.length := by simpa using hj
      exact ⟨fun e => h.1 (e ▸ List.getElem_mem hj'), ih h.2 hj'⟩
theorem mem_of_erase {l : List Nat} {j c : Nat} (h : c ∈ l.eraseIdx j) : c ∈ l := List.mem_of_mem_eraseIdx h
theorem Yi.step {left ends : List Nat} {j k : Nat} (h : Yi left ends j) (hk : k < left.length) : Yi (left.eraseIdx k) (ends ++ [left[k], con left[k]]) (j + 1) := by
  have hm : left[k] ∈ left := List.getElem_mem hk
  have hs := h.sm _ hm
  generalize hc : left[k] = c at hm hs
  have hcl : IsL c := .inr hs
  have hcon : con c < 97 := by unfold con; split <;> omega
  have nc : ∀ l : List Nat, (∀ x ∈ l, x ∈ left) → con c ∉ l := fun l hl z => by have := h.sm _ (hl _ z); omega
  have n1 : c ∉ ends := fun z => (h.le c z).2.2.1 hm
  have n2 : con c ∉ ends := fun z => by
    have := (h.le _ z).2.2.2
    rw [con_con hcl] at this
    exact this hm
  have e1 : c ∉ left.eraseIdx k := by rw [← hc]; exact not_mem_erase h.nl hk
  refine ⟨h.nl.sublist (List.eraseIdx_sublist ..), fun c hc => h.sm c (mem_of_erase hc), ?_, fun x hx => ?_, ?_, ?_⟩
  · rw [List.nodup_append]
    refine ⟨h.ne, ?_, ?_⟩
    · simp only [List.nodup_cons, List.mem_singleton, List.not_mem_nil, not_false_eq_true, List.nodup_nil, and_true]
      exact fun z => con_ne hcl z.symm
    · intro a ha b hb z
      subst z
      simp only [List.mem_cons, List.not_mem_nil, or_false] at hb
      rcases hb with rfl | rfl
      · exact n1 ha
      · exact n2 ha
  · rw [List.mem_append] at hx
    rcases hx with hx | hx
    · obtain ⟨g1, g2, g3, g4⟩ := h.le x hx
      exact ⟨g1, List.mem_append_left _ g2, fun z => g3 (mem_of_erase z), fun z => g4 (mem_of_erase z)⟩
    · simp only [List.mem_cons, List.not_mem_nil, or_false] at hx
      rcases hx with rfl | rfl
      · exact ⟨hcl, by simp, e1, nc _ fun x hx => mem_of_erase hx⟩
      · exact ⟨con_L hcl, by rw [con_con hcl]; simp, nc _ fun x hx => mem_of_erase hx, by rw [con_con hcl]; exact e1⟩
  · rw [List.length_eraseIdx_of_lt hk]; have := h.l1; omega
  · rw [List.length_append]; have := h.l2; simp; omega
theorem yi0 : Yi SM [] 0 := ⟨by decide +kernel, by decide +kernel, by simp, by simp, by decide, rfl⟩
theorem perm_erase {l : List Nat} {j : Nat} (hj : j < l.length) : l.Perm (l[j] :: l.eraseIdx j) := by
  induction l generalizing j with
  | nil => simp at hj
  | cons a l ih =>
    cases j with
    | zero => exact .refl _
    | succ j =>
      have hj' : j < l.length := by simpa using hj
      simp only [List.getElem_cons_succ, List.eraseIdx_cons_succ]
      exact ((ih hj').cons a).trans (.swap ..)
theorem p_law_yard (ds : List D) (s : Sto) (Q : C → Sto → Prop) (h : m_law_yard ds s Q) : t_law_yard noX { nx := fun e => Q (.d .non) e.st, rt := fun c e => Q c e.st } ⟨startC N_law_yard ds, s⟩ := by
  unfold m_law_yard at h
  split at h
  · rename_i few top
    obtain ⟨h0, h1, h2, q⟩ := h
    refine ⟨lt_of 3 8, le_line 0, lt_of 4 8, trivial, by omega, by omega, fun d hd0 hd1 => ?_⟩
    refine ⟨⟨by omega, by omega⟩, ?_⟩
    refine forR_inv (fun rest e => ∃ (left ends : List Nat) (j : Nat) (c5 c7 : C), e = ⟨[.d .box, .d (.int few), .d (.int top), .own (signs left), .own (signs ends), c5, .un, c7], s⟩ ∧ Yi left ends j ∧ j + rest.length = (few + d).toNat) ?_ ?_ _ _ ?_
    · rintro x r e ⟨left, ends, j, c5, c7, rfl, hy, hj⟩ N hN
      simp only [List.length_cons] at hj
      have l1 := hy.l1
      refine ⟨lt_of 5 8, rfl, ?_⟩
      refine ⟨by rw [signs_len]; omega, by rw [signs_len]; omega, fun i hi0 hi1 => ?_⟩
      rw [signs_len] at hi1
      refine signs_pop hi0 hi1 fun k hk => ?_
      refine ⟨lt_of 7 8, hy.sm _ (List.getElem_mem hk) |> .inr, le_line 2, ?_⟩
      refine ⟨?_, lt_of 4 8, ?_⟩
      · rw [signs_len, hy.l2, line_eq]
        simp
        omega
      · refine hN _ ⟨left.eraseIdx k, ends ++ [left[k], con left[k]], j + 1, .d x, .d (.str [left[k]]), ?_, hy.step hk, by omega⟩
        rw [← signs_app]
        rfl
    · rintro e ⟨left, ends, j, c5, c7, rfl, hy, hj⟩
      simp only [List.length_nil, Nat.add_zero] at hj
      refine ⟨lt_of 6 8, ?_⟩
      refine ⟨fun e => ∃ (rem found : List Nat), e = ⟨[.d .box, .d (.int few), .d (.int top), .own (signs left), .own (signs rem), c5, .d (.str found), c7], s⟩ ∧ (found ++ rem).Perm ends,
        fun e => match e.sl[4]? with | some (C.own l) => l.length | _ => 0, ⟨ends, [], rfl, .refl _⟩, ?_⟩
      rintro e ⟨rem, found, rfl, hp⟩
      have hlen : found.length + rem.length = 2 * j := by rw [← List.length_append, hp.length_eq, hy.l2]
      have l1 := hy.l1
      refine ite_intro (fun c => ?_) fun c => ?_
      · have c : (0 : Int) < (signs rem).length := of_decide_eq_true c
        rw [signs_len] at c
        refine ⟨rfl, ?_⟩
        refine ⟨by rw [signs_len]; exact c, by rw [signs_len]; omega, fun i hi0 hi1 => ?_⟩
        rw [signs_len] at hi1
        refine signs_pop hi0 hi1 fun k hk => ?_
        refine ⟨by rw [line_eq]; simp; omega, lt_of 6 8, ⟨rem.eraseIdx k, found ++ [rem[k]], rfl, ?_⟩, ?_⟩
        · rw [List.append_assoc]
          exact ((perm_erase hk).symm.append_left found).trans hp
        · show (signs (rem.eraseIdx k)).length < (signs rem).length
          rw [signs_len, signs_len, List.length_eraseIdx_of_lt hk]
          omega
      · have c : ¬ (0 : Int) < (signs rem).length := fun z => c (decide_eq_true z)
        rw [signs_len] at c
        have e0 : rem = [] := List.eq_nil_of_length_eq_zero (by omega)
        subst e0
        rw [List.append_nil] at hp
        simp only [List.length_nil] at hlen
        refine q found ⟨hp.nodup_iff.mpr hy.ne, fun c hc => (hy.le c (hp.mem_iff.mp hc)).1, fun c hc => hp.mem_iff.mpr (hy.le c (hp.mem_iff.mp hc)).2.1⟩ (by omega) (by omega)
    · exact ⟨SM, [], 0, _, _, rfl, yi0, by rw [rngI_length]; omega⟩
  · exact h.elim
end Pu
set_option maxRecDepth 100000
set_option maxHeartbeats 4000000
namespace Pu
open PySem L2
local macro_rules | `(tactic| simpa! only [$xs,*]) => `(tactic| simp -dsimp only [↓opt_some, ↓br_true, ↓br_false, ↓nameC_d, ↓nameC_own, ↓nameC_dK, ↓nameC_dT, ↓x_name, ↓fzC_d, ↓fzC_own, ↓fzC_dK, ↓fzC_dT, ↓x_fzn, ↓x_fzK, ↓x_fzT, ↓x_fzd, ↓x_fzo, ↓x_rvn, ↓x_rvd, ↓x_rvo, ↓retC_d, ↓retC_own, ↓x_retn, ↓x_retd, ↓x_reto, ↓x_hd, ↓x_ho, ↓x_hn, ↓x_ad, ↓x_ao, ↓x_an, ↓x_set, ↓x_seq, ↓x_next, ↓x_break, ↓x_cont, ↓x_drop, ↓x_ret, ↓x_retN, ↓x_if, ↓x_asg, ↓x_asgG, ↓x_while, ↓x_for, ↓x_2, ↓x_k2ad, ↓x_k2ao, ↓x_k2an, ↓x_k2b, ↓x_k2c, ↓x_1, ↓x_k1c, ↓x_D, ↓bC_b, ↓x_B, ↓x_kBc, ↓x_and, ↓x_kAn, ↓x_or, ↓x_kOr, ↓x_not, ↓x_kNo, ↓x_andV, ↓x_kAV, ↓x_orV, ↓x_kOV, ↓x_notV, ↓x_kNV, ↓x_tif, ↓x_nil, ↓x_kC2, ↓x_cons, ↓x_kC1d, ↓x_kC1o, ↓x_kC1k, ↓x_kC1t, ↓x_kC1n, ↓x_kC3d, ↓x_kC3o, ↓x_kC3k, ↓x_kC3t, ↓x_tup, ↓x_kTu, ↓x_lst, ↓x_kLs, ↓x_rnil, ↓x_kR2, ↓x_rcons, ↓x_kR1d, ↓x_kR1o, ↓x_kR1n, ↓x_callP, ↓x_kCP, ↓x_rvLc, ↓x_rvLn, ↓x_meth, ↓x_kM0d, ↓x_kM0o, ↓x_kM0n, ↓x_kM1, ↓x_kM2, ↓x_kM3, ↓x_meth0, ↓x_mut, ↓x_kU1n, ↓x_kU1d, ↓x_kU2, ↓x_kU3, ↓x_mg, ↓x_ms, ↓x_sl, ↓x_kS0d, ↓x_kS0o, ↓x_kS0n, ↓x_kS1, ↓x_kS2, ↓x_kS3, ↓x_on, ↓iC_i, ↓x_os, ↓x_kOs, ↓x_lc, ↓x_any, ↓x_pure, ↓sC_s, ↓x_rev, ↓x_call, ↓x_kCa, ↓x_gn, ↓x_gnil, ↓x_gcons, ↓x_isi, ↓a_ii, ↓a_ss, ↓a_ll, ↓a_tt, ↓a_I, ↓a_neg, ↓a_mul, ↓a_mulL, ↓a_mulS, ↓a_eq, ↓a_ne, ↓a_lt, ↓a_le, ↓a_gt, ↓a_ge, ↓a_ltS, ↓a_leS, ↓a_inS, ↓a_ninS, ↓a_inL, ↓a_ninL, ↓a_inT, ↓a_ninT, ↓a_ixL, ↓a_ixT, ↓a_ixS, ↓a_ixR, ↓a_ixB, ↓a_slL, ↓a_slT, ↓a_slS, ↓a_lenS, ↓a_lenL, ↓a_lenT, ↓a_lenR, ↓a_join, ↓a_ixof, ↓a_ixofL, ↓a_rng1, ↓a_rng2, ↓a_min2, ↓a_max2, ↓a_lstS, ↓a_lstL, ↓a_lstT, ↓a_int, ↓a_intB, ↓a_isN, ↓x_popAt, ↓x_all, ↓x_anyB, ↓a_isB, ↓a_pop, ↓x_dict0, ↓x_aK, ↓x_kg, ↓x_kgRn, ↓x_kgRf, ↓x_zips, ↓x_ks, ↓x_dg, ↓x_di, ↓x_dpt, ↓x_enum, ↓a_backL, ↓a_backS, ↓a_backT, ↓x_never, ↓a_tupL, ↓a_tupT, ↓x_sort, ↓x_sortS, ↓x_sortP, ↓a_slR, ↓x_zip, ↓x_sum, ↓a_count, ↓augC_i, ↓x_aug, ↓x_par, ↓x_raise, ↓x_callX, ↓x_try, ↓x_subA, ↓x_setN, ↓a_two, ↓x_swIx, ↓x_mkX, ↓x_mk0, ↓x_raise0, ↓a_exB, ↓a_tbl, ↓a_cbl, ↓x_isX, ↓x_xattr, ↓x_dictT0, ↓x_aT, ↓retC_dT, ↓retC_dK, ↓x_retT, ↓x_retK, ↓x_tgg, ↓x_tgRn, ↓x_tgRf, ↓x_tss, ↓x_dgT, ↓x_dptT, ↓x_callT, ↓a_lenTT, ↓a_listT, ↓a_dictT, ↓a_dictK, ↓x_chn, ↓a_mmT, ↓x_sortN, ↓a_lenSS, ↓a_ltT, ↓x_chn3, ↓a_dictN, ↓a_gN, ↓x_gls, ↓x_revT, ↓x_chS, ↓x_ltN, ↓x_try0, rvC_d, rvC_own, consO_s, isTy_s, isTy_l, mgC_own, walk_l, walk_t, walk_s, toR_d, toR_o, items_l, items_t, ok_s, ok_i, ok_b, ok_n, ok_l, ok_t, okL_n, okL_c, e_ss, e_ii, e_bb, e_ll, e_tt, eL_nn, eL_cc, eL_nc, eL_cn, ty_s, ty_i, ty_l, ty_b, kgC_dK, key_i, key_s, kI_eq, kS_eq, oneR_1, walkE_l, walkE_t, walkE_s, ty_t, twoR_2, side_l, side_t, twoD_2, ow_nil, ow_un, ow_d, toR_T, toR_K, tgC_dT, tupK_t, consK_s, keyL_n, keyL_c, fold1, intL_n, consI_s, intL_c, consS_s, strL_n, strL_c, tC_s, m_app, m_ext, m_rev, sline, startC, restE, restC, wipeE, wipeC, plainC, List.getElem?_cons_zero, List.getElem?_cons_succ, List.getD_cons_zero, List.getD_cons_succ, List.set_cons_zero, List.set_cons_succ, List.length_cons, List.length_nil, List.map_cons, List.map_nil, List.replicate_succ, List.replicate_zero, List.cons_append, List.nil_append, Nat.reduceAdd, Nat.reduceMul, Int.reduceAdd, Int.reduceSub, Int.reduceMul, Nat.reduceSub, Nat.reduceLT, Nat.reduceLeDiff, Nat.lt_add_one, Int.reduceNeg, Int.reduceLT, Int.reduceLE, Int.reduceToNat, Int.reducePow, Nat.reducePow, List.flatten_cons, List.flatten_nil, List.append_nil, true_and, and_true, true_or, or_true, eq_self, and_self, decide_true, decide_false, Bool.not_true, Bool.not_false, Bool.not_not, Option.isSome_some, Bool.and_true, Bool.true_and, Bool.and_self, reduceIte, ↓reduceIte, Bool.false_eq_true, ite_self, reduceCtorEq, ne_eq, not_false_eq_true, forall_const, ↓x_gtup, ↓a_repr, ↓x_min1, ↓a_min2S, ↓x_yes, ↓x_ite, x_gnil, $xs,*])
local macro_rules | `(tactic| simpa?! only [$xs,*]) => `(tactic| simpa! only [$xs,*])
def rpush (r : List Nat) (c : Nat) : List Nat := match r with
  | [] => [c]
  | x :: r' => if x = con c then r' else c :: x :: r'
def redR (r w : List Nat) : List Nat := w.foldl rpush r
def red (w : List Nat) : List Nat := (redR [] w).reverse
theorem rpush_W {r : List Nat} {c : Nat} (h : IsW r) (hc : IsL c) : IsW (rpush r c) := by
  unfold rpush
  cases r with
  | nil => intro d hd; rw [List.mem_singleton] at hd; subst hd; exact hc
  | cons x r =>
    simp only
    split
    · exact fun d hd => h d (List.mem_cons_of_mem _ hd)
    · intro d hd
      rcases List.mem_cons.mp hd with rfl | hd
      · exact hc
      · exact h d hd
theorem redR_W {r w : List Nat} (h : IsW r) (hw : IsW w) : IsW (redR r w) := by
  induction w generalizing r with
  | nil => exact h
  | cons c w ih => exact ih (rpush_W h (hw c (by simp))) fun d hd => hw d (List.mem_cons_of_mem _ hd)
theorem rev_W {w : List Nat} (h : IsW w) : IsW w.reverse := fun c hc => h c (List.mem_reverse.mp hc)
theorem red_W {w : List Nat} (hw : IsW w) : IsW (red w) := rev_W (redR_W (by intro c hc; cases hc) hw)
theorem rpush_len (r : List Nat) (c : Nat) : (rpush r c).length ≤ r.length + 1 := by
  unfold rpush
  cases r with
  | nil => simp
  | cons x r => simp only; split <;> simp; omega
theorem redR_len (r w : List Nat) : (redR r w).length ≤ r.length + w.length := by
  induction w generalizing r with
  | nil => simp [redR]
  | cons c w ih =>
    have h1 := ih (rpush r c)
    have h2 := rpush_len r c
    show (redR (rpush r c) w).length ≤ _
    simp only [List.length_cons]
    omega
theorem red_len (w : List Nat) : (red w).length ≤ w.length := by
  unfold red
  rw [List.length_reverse]
  have := redR_len [] w
  simpa using this
theorem redR_app (r v w : List Nat) : redR r (v ++ w) = redR (redR r v) w := by unfold redR; rw [List.foldl_append]
def m_shortened : PM := fun ds st Q => match ds with
  | [.str w] => IsW w ∧ w.length ≤ 16777216 ∧ Q (.d (.str (red w))) st
  | _ => False
theorem e_shortened {w s Q} : m_shortened [.str w] s Q = (IsW w ∧ w.length ≤ 16777216 ∧ Q (.d (.str (red w))) s) := rfl
theorem con_inj {a b : Nat} (ha : IsL a) (hb : IsL b) (h : con a = con b) : a = b := by rw [← con_con ha, h, con_con hb]
theorem e_contrary {c s Q} : m_contrary [.str [c]] s Q = (IsL c ∧ Q (.d (.str [con c])) s) := rfl
theorem e_take {n s Q} : m_law_take [.box, .int n] s Q = (0 < n ∧ n < 2 ^ 64 ∧ ∀ d : Int, 0 ≤ d → d < n → Q (.d (.int d)) s) := rfl
theorem e_box {n k s Q} : m_law_box [.scr n, .int k] s Q = (0 ≤ k ∧ k < 2 ^ 40 ∧ Q (.d .box) s) := rfl
theorem e_yard {few top : Int} {s Q} : m_law_yard [.box, .int few, .int top] s Q = (0 ≤ few ∧ few ≤ top ∧ top ≤ 26 ∧ ∀ y : List Nat, YardOk y → 2 * few ≤ y.length → y.length ≤ 2 * top → Q (.d (.str y)) s) := rfl
theorem e_turned {w s Q} : m_turned [.str w] s Q = (IsW w ∧ w.length ≤ 16777216 ∧ Q (.d (.str (turn w))) s) := rfl
def t_shortened : PTS := sSeq (sAsg 1 (tLst (tNil))) (sSeq (sFor (iAny (tName 0)) (gName 2) (sIf (tAnd (tB (t2 (tCallP pLen (rCons (tName 1) (rNil))) (tD (.int 0)) pGt)) (tB (t2 (t2 (tName 1) (t1 (tD (.int 1)) pNeg) pIx) (tCall0 m_contrary (tCons (tName 2) (tNil))) pEq))) (sDrop (tMut mPop (tName 1) tNil)) (sDrop (tMut mAppend (tName 1) (tCons (tName 2) (tNil)))))) (sRet (tMeth "str" pJoin (tD (.str [])) (rCons (tName 1) (rNil)))))
abbrev N_shortened : List Str := ["word", "left", "letter"]
theorem len_shortened (ds : List D) (s : Sto) (Q : C → Sto → Prop) (h : m_shortened ds s Q) : ds.length = 1 := by
  unfold m_shortened at h
  split at h
  · rfl
  · exact h.elim
theorem signs_last {r : List Nat} {c : Nat} : (signs (c :: r).reverse)[(signs (c :: r).reverse).length - 1]? = some (.str [c]) := by
  unfold signs
  simp
theorem signs_drop (r : List Nat) : (signs r).dropLast = signs r.dropLast := by unfold signs; rw [List.map_dropLast]
theorem rev_drop (c : Nat) (r : List Nat) : (c :: r).reverse.dropLast = r.reverse := by simp
theorem p_shortened (ds : List D) (s : Sto) (Q : C → Sto → Prop) (h : m_shortened ds s Q) : t_shortened noX { nx := fun e => Q (.d .non) e.st, rt := fun c e => Q c e.st } ⟨startC N_shortened ds, s⟩ := by
  unfold m_shortened at h
  split at h
  · rename_i w
    obtain ⟨hw, hl, q⟩ := h
    unfold t_shortened
    simpa?! only []
    refine forH_signs w (fun pre suf e => ∃ c2, e = ⟨[.d (.str w), .own (signs (redR [] pre).reverse), c2], s⟩) ⟨_, rfl⟩ ?_ ?_
    · rintro e ⟨c2, rfl⟩
      simpa?! only [strL_signs, joinN_signs]
      exact ⟨len_signs' (Nat.le_trans (red_len w) hl), q⟩
    · rintro pre c suf e hp ⟨c2, rfl⟩ N hN
      have hc : IsL c := hw c (by rw [← hp]; simp)
      have hpw : IsW pre := fun d hd => hw d (by rw [← hp]; simp [hd])
      have hrl := redR_len [] pre
      have hpl : pre.length + (suf.length + 1) = w.length := by rw [← hp]; simp
      have fin : ∀ r', r' = redR [] (pre ++ [c]) → N ⟨[.d (.str w), .own (signs r'.reverse), .d (.str [c])], s⟩ := fun r' h => by subst h; exact hN _ ⟨_, rfl⟩
      rw [redR_app] at fin
      generalize redR [] pre = r at hrl fin
      have fin : N ⟨[.d (.str w), .own (signs (rpush r c).reverse), .d (.str [c])], s⟩ := fin _ rfl
      have app : (signs r.reverse).length < 16777216 ∧ (rpush r c = c :: r → N ⟨[.d (.str w), .own (signs r.reverse ++ [.str [c]]), .d (.str [c])], s⟩) := by
        refine ⟨by rw [signs_len, List.length_reverse]; simp at hrl; omega, fun e => ?_⟩
        rw [signs_snoc, ← List.reverse_cons, ← e]
        exact fin
      simpa?! only []
      cases r with
      | nil =>
        refine br_neg (by decide) ?_
        simpa?! only []
        exact ⟨app.1, app.2 rfl⟩
      | cons x r =>
        refine br_pos (decide_eq_true ?_) ?_
        · rw [signs_len]; simp
        simpa?! only [atI_last]
        refine opt_of (a := .str [x]) (by unfold signs; simp) ?_
        simpa?! only [e_contrary]
        refine ⟨hc, ?_⟩
        by_cases hx : x = con c
        · refine br_pos (decide_eq_true (by rw [hx])) ?_
          simpa?! only []
          refine opt_of signs_last ?_
          simpa?! only []
          rw [signs_drop, rev_drop]
          unfold rpush at fin
          simp only [hx, if_pos] at fin
          exact fin
        · refine br_neg (decide_eq_false (by simpa using hx)) ?_
          simpa?! only []
          exact ⟨app.1, app.2 (by unfold rpush; simp only; rw [if_neg hx])⟩
  · exact h.elim
def cyc (w : List Nat) : List Nat := if 1 < w.length ∧ w.head? = w.getLast?.map con then cyc w.tail.dropLast else w
termination_by w.length
decreasing_by simp; omega
def m_shortest : PM := fun ds st Q => match ds with
  | [.str w] => IsW w ∧ w.length ≤ 16777216 ∧ Q (.d (.str (cyc (red w)))) st
  | _ => False
theorem e_shortest {w s Q} : m_shortest [.str w] s Q = (IsW w ∧ w.length ≤ 16777216 ∧ Q (.d (.str (cyc (red w)))) s) := rfl
def t_shortest : PTS := sSeq (sAsg 1 (tCall0 m_shortened (tCons (tName 0) (tNil)))) (sSeq (sWhile (tAnd (tB (t2 (tCallP pLen (rCons (tName 1) (rNil))) (tD (.int 1)) pGt)) (tB (t2 (t2 (tName 1) (tD (.int 0)) pIx) (tCall0 m_contrary (tCons (t2 (tName 1) (t1 (tD (.int 1)) pNeg) pIx) (tNil))) pEq))) (sAsg 1 (tSl (tName 1) (oSome (tD (.int 1))) (oSome (t1 (tD (.int 1)) pNeg))))) (sRet (tName 1)))
abbrev N_shortest : List Str := ["word", "left"]
theorem len_shortest (ds : List D) (s : Sto) (Q : C → Sto → Prop) (h : m_shortest ds s Q) : ds.length = 1 := by
  unfold m_shortest at h
  split at h
  · rfl
  · exact h.elim
theorem ends_of {v : List Nat} (h : 0 < v.length) : ∃ a b, v.head? = some a ∧ v.getLast? = some b ∧ a ∈ v ∧ b ∈ v := by
  have hv : v ≠ [] := List.length_pos_iff.mp h
  refine ⟨v.head hv, v.getLast hv, List.head?_eq_some_head hv, List.getLast?_eq_some_getLast hv, List.head_mem hv, List.getLast_mem hv⟩
theorem cyc_in {v : List Nat} {a b : Nat} (h : 1 < v.length) (ha : v.head? = some a) (hb : v.getLast? = some b) (e : a = con b) : cyc v = cyc v.tail.dropLast := by
  rw [cyc, if_pos ⟨h, by rw [ha, hb, e]; rfl⟩]
theorem cyc_out {v : List Nat} {a b : Nat} (ha : v.head? = some a) (hb : v.getLast? = some b) (e : a ≠ con b) : cyc v = v := by
  rw [cyc, if_neg]
  rw [ha, hb]
  simp
  exact fun _ => e
theorem cyc_one {v : List Nat} (h : ¬ 1 < v.length) : cyc v = v := by rw [cyc, if_neg (fun z => h z.1)]
theorem inner_W {v : List Nat} (h : IsW v) : IsW v.tail.dropLast := fun c hc => h c (List.mem_of_mem_tail (List.dropLast_subset _ hc))
theorem cyc_W {v : List Nat} (h : IsW v) : IsW (cyc v) := by
  generalize hn : v.length = n
  induction n using Nat.strongRecOn generalizing v with
  | _ n ih =>
    rw [cyc]
    split
    · rename_i hc
      exact ih _ (by simp; omega) (inner_W h) rfl
    · exact h
theorem cyc_len (v : List Nat) : (cyc v).length ≤ v.length := by
  generalize hn : v.length = n
  induction n using Nat.strongRecOn generalizing v with
  | _ n ih =>
    rw [cyc]
    split
    · rename_i hc
      have := ih v.tail.dropLast.length (by simp; omega) _ rfl
      simp at this
      omega
    · omega
theorem p_shortest (ds : List D) (s : Sto) (Q : C → Sto → Prop) (h : m_shortest ds s Q) : t_shortest noX { nx := fun e => Q (.d .non) e.st, rt := fun c e => Q c e.st } ⟨startC N_shortest ds, s⟩ := by
  unfold m_shortest at h
  split at h
  · rename_i w
    obtain ⟨hw, hl, q⟩ := h
    unfold t_shortest
    simpa?! only [e_shortened]
    refine ⟨hw, hl, ?_⟩
    refine wh_on (fun v : List Nat => ⟨[.d (.str w), .d (.str v)], s⟩) (fun v => IsW v ∧ cyc v = cyc (red w)) List.length (red w) rfl ⟨red_W hw, rfl⟩ ?_
    rintro v ⟨hv, hc⟩ N hN
    simpa?! only []
    by_cases h1 : 1 < v.length
    · refine br_pos (decide_eq_true (by omega)) ?_
      obtain ⟨a, b, ha, hb, ma, mb⟩ := ends_of (v := v) (by omega)
      simpa?! only []
      refine at_head ha ?_
      simpa?! only []
      refine at_last hb ?_
      simpa?! only [e_contrary]
      refine ⟨hv b mb, ?_⟩
      by_cases e : a = con b
      · refine br_pos (decide_eq_true (by rw [e])) ?_
        simpa?! only [cut_inner]
        exact hN _ ⟨inner_W hv, by rw [← hc, cyc_in h1 ha hb e]⟩ (by simp; omega)
      · refine br_neg (decide_eq_false (by simpa using e)) ?_
        simpa?! only []
        rw [← hc, cyc_out ha hb e] at q
        exact q
    · refine br_neg (decide_eq_false (by omega)) ?_
      simpa?! only []
      rw [← hc, cyc_one h1] at q
      exact q
  · exact h.elim
set_option maxRecDepth 100000
set_option maxHeartbeats 1000000
def m_law_order : PM := fun ds st Q => match ds with
  | [.box, d] => match d.walkE with
    | some xs => xs.length < 2 ^ 20 ∧ ∀ ys : List D, ys.Perm xs → Q (.own ys) st
    | none => False
  | _ => False
theorem e_orderS {w s Q} : m_law_order [.box, .str w] s Q = ((signs w).length < 2 ^ 20 ∧ ∀ ys : List D, ys.Perm (signs w) → Q (.own ys) s) := rfl
def t_law_order : PTS := sSeq (sAsg 2 (tCallP pList (rCons (tName 1) (rNil)))) (sSeq (sAsg 3 (tLst (tNil))) (sSeq (sWhile (tB (t2 (tCallP pLen (rCons (tName 2) (rNil))) (tD (.int 0)) pGt)) (sDrop (tMut mAppend (tName 3) (tCons (tMut mPopAt (tName 2) (tCons (tCall0 m_law_take (tCons (tName 0) (tCons (tCallP pLen (rCons (tName 2) (rNil))) (tNil)))) (tNil))) (tNil))))) (sRet (tName 3))))
abbrev N_law_order : List Str := ["_law_box_here", "_law_things", "_law_left", "_law_found"]
theorem len_law_order (ds : List D) (s : Sto) (Q : C → Sto → Prop) (h : m_law_order ds s Q) : ds.length = 2 := by
  unfold m_law_order at h
  split at h
  · rfl
  · exact h.elim
theorem perm_eraseD {l : List D} {j : Nat} (hj : j < l.length) : l.Perm (l[j] :: l.eraseIdx j) := by
  induction l generalizing j with
  | nil => simp at hj
  | cons a l ih =>
    cases j with
    | zero => exact .refl _
    | succ j =>
      have hj' : j < l.length := by simpa using hj
      simp only [List.getElem_cons_succ, List.eraseIdx_cons_succ]
      exact ((ih hj').cons a).trans (.swap ..)
theorem p_law_order (ds : List D) (s : Sto) (Q : C → Sto → Prop) (h : m_law_order ds s Q) : t_law_order noX { nx := fun e => Q (.d .non) e.st, rt := fun c e => Q c e.st } ⟨startC N_law_order ds, s⟩ := by
  unfold m_law_order at h
  split at h
  · rename_i d
    have key : ∀ xs : List D, xs.length < 2 ^ 20 → (∀ ys : List D, ys.Perm xs → Q (.own ys) s) → whH ⟨[.d .box, .d d, .own xs, .own []], s⟩ (HB.mk ((tB (t2 (tCallP pLen (rCons (tName 2) (rNil))) (tD (.int 0)) pGt)), (sDrop (tMut mAppend (tName 3) (tCons (tMut mPopAt (tName 2) (tCons (tCall0 m_law_take (tCons (tName 0) (tCons (tCallP pLen (rCons (tName 2) (rNil))) (tNil)))) (tNil))) (tNil)))), noX, { nx := sRet (tName 3) noX { nx := fun e => Q (.d .non) e.st, rt := fun c e => Q c e.st }, rt := fun c e => Q c e.st }) ()) := by
      intro xs hl q
      refine wh_on (fun p : List D × List D => ⟨[.d .box, .d d, .own p.1, .own p.2], s⟩) (fun p => (p.2 ++ p.1).Perm xs) (fun p => p.1.length) (xs, []) rfl (.refl _) ?_
      rintro ⟨l, f⟩ hp N hN
      have hlen := hp.length_eq
      rw [List.length_append] at hlen
      have hlen : f.length + l.length = xs.length := hlen
      simpa?! only []
      by_cases h0 : 0 < l.length
      · refine br_pos (decide_eq_true (by omega)) ?_
        simpa?! only [e_take]
        refine ⟨by omega, by omega, fun i i0 i1 => ?_⟩
        refine popAt_ok i0 i1 fun j hj => ?_
        simpa?! only []
        refine ⟨by omega, hN (l.eraseIdx j, f ++ [l[j]]) ?_ ?_⟩
        · show ((f ++ [l[j]]) ++ l.eraseIdx j).Perm xs
          rw [List.append_assoc]
          exact ((perm_eraseD hj).symm.append_left f).trans hp
        · show (l.eraseIdx j).length < l.length
          rw [List.length_eraseIdx_of_lt hj]
          omega
      · refine br_neg (decide_eq_false (by omega)) ?_
        simpa?! only []
        have e0 : l = [] := List.eq_nil_of_length_eq_zero (by omega)
        subst e0
        have hp : (f ++ []).Perm xs := hp
        rw [List.append_nil] at hp
        exact q f hp
    cases d with
    | lst xs => exact ⟨lt_of 2 4, ⟨le_line 0, lt_of 3 4, key xs h.1 h.2⟩⟩
    | tup xs => exact ⟨lt_of 2 4, ⟨le_line 0, lt_of 3 4, key xs h.1 h.2⟩⟩
    | str w => exact ⟨lt_of 2 4, ⟨le_line 0, lt_of 3 4, key (signs w) h.1 h.2⟩⟩
    | _ => exact h.elim
  · exact h.elim
theorem perm_signs : ∀ {ys : List D} {w : List Nat}, ys.Perm (signs w) → ∃ v : List Nat, ys = signs v ∧ v.Perm w := by
  intro ys w p
  have h : ∀ y ∈ ys, ∃ c, y = D.str [c] := fun y hy => by
    obtain ⟨c, _, rfl⟩ := mem_signs (p.mem_iff.mp hy)
    exact ⟨c, rfl⟩
  let g : D → Nat := fun d => match d with | .str (c :: _) => c | _ => 0
  refine ⟨ys.map g, ?_, ?_⟩
  · unfold signs
    rw [List.map_map]
    conv => lhs; rw [← List.map_id ys]
    apply List.map_congr_left
    intro y hy
    obtain ⟨c, rfl⟩ := h y hy
    rfl
  · have := p.map g
    have e : (signs w).map g = w := by
      unfold signs
      rw [List.map_map]
      conv => rhs; rw [← List.map_id w]
      rfl
    rw [e] at this
    exact this
def sml (c : Nat) : Bool := decide (c ∈ SM)
def bandW (y : List Nat) : List Nat := (srt ((y.filter sml).map fun c => [c])).flatten
theorem sing_flat : ∀ {L : List (List Nat)}, (∀ x ∈ L, ∃ c, x = [c]) → L = L.flatten.map fun c => [c]
  | [], _ => rfl
  | x :: L, h => by
    obtain ⟨c, rfl⟩ := h x (by simp)
    rw [List.flatten_cons, List.map_append, ← sing_flat fun x hx => h x (List.mem_cons_of_mem _ hx)]
    rfl
theorem band_sing (y : List Nat) : srt ((y.filter sml).map fun c => [c]) = (bandW y).map fun c => [c] := sing_flat fun x hx => by
  obtain ⟨c, _, rfl⟩ := List.mem_map.mp (srt_mem.mp hx)
  exact ⟨c, rfl⟩
theorem band_perm (y : List Nat) : (bandW y).Perm (y.filter sml) := by
  have h := srt_perm ((y.filter sml).map fun c => [c])
  rw [band_sing] at h
  have := h.map (fun l : List Nat => l.headD 0)
  rw [List.map_map, List.map_map] at this
  have e : ((fun l : List Nat => l.headD 0) ∘ fun c => [c]) = id := rfl
  rw [e, List.map_id, List.map_id] at this
  exact this
theorem band_eq {y z : List Nat} (p : y.Perm z) : bandW y = bandW z := by
  unfold bandW
  rw [srt_eq ((p.filter sml).map _)]
theorem band_len (y : List Nat) : (bandW y).length ≤ y.length := by rw [(band_perm y).length_eq]; exact List.length_filter_le _ _
theorem band_strs (y : List Nat) : (srt ((y.filter sml).map fun c => [c])).map D.str = signs (bandW y) := by rw [band_sing, List.map_map]; rfl
def smlD (d : D) : Bool := match d with | .str [c] => sml c | _ => false
theorem sml_filter (y : List Nat) : ((signs y).filter smlD).map id = (((y.filter sml).map fun c => [c]).map D.str) := by
  rw [List.map_id, List.map_map]
  unfold signs
  induction y with
  | nil => rfl
  | cons c y ih =>
    rw [List.map_cons, List.filter_cons, List.filter_cons]
    show (if sml c = true then _ else _) = List.map _ (if sml c = true then _ else _)
    split
    · rw [ih]; rfl
    · exact ih
def m_bands : PM := fun ds st Q => match ds with
  | [.str y] => y.length < 64 ∧ Q (.d (.str (bandW y))) st
  | _ => False
theorem e_bands {y s Q} : m_bands [.str y] s Q = (y.length < 64 ∧ Q (.d (.str (bandW y))) s) := rfl
def t_bands : PTS := sRet (tMeth "str" pJoin (tD (.str [])) (rCons (tCallP pSortT (rCons (cLc (iAny (tName 0)) (gName 1) (tB (t2 (tName 1) (tD (.str SM)) (pIn false))) (tName 1) [1]) (rNil))) (rNil)))
abbrev N_bands : List Str := ["yard", "sign"]
theorem len_bands (ds : List D) (s : Sto) (Q : C → Sto → Prop) (h : m_bands ds s Q) : ds.length = 1 := by
  unfold m_bands at h
  split at h
  · rfl
  · exact h.elim
theorem p_bands (ds : List D) (s : Sto) (Q : C → Sto → Prop) (h : m_bands ds s Q) : t_bands noX { nx := fun e => Q (.d .non) e.st, rt := fun c e => Q c e.st } ⟨startC N_bands ds, s⟩ := by
  unfold m_bands at h
  split at h
  · rename_i y
    obtain ⟨hl, q⟩ := h
    unfold t_bands
    simpa?! only []
    refine ⟨by rw [signs_len]; omega, ?_⟩
    refine lcH_filter smlD id (fun d hd K k => ?_) ?_
    · obtain ⟨c, hc, rfl⟩ := mem_signs hd
      have k : K (if sml c = true then some (.str [c]) else none) ⟨[.d (.str y), .un], s⟩ := k
      simpa?! only []
      unfold sml at k
      refine br_intro (fun z => ?_) fun z => ?_
      · rw [z] at k
        simpa?! only []
        exact k
      · rw [z] at k
        simpa?! only []
        exact k
    · rw [sml_filter]
      simpa?! only []
      refine sort_ok rfl ?_ ?_
      · rw [List.length_map]
        exact Nat.lt_of_le_of_lt (List.length_filter_le _ _) hl
      · rw [band_strs]
        simpa?! only [strL_signs, joinN_signs]
        exact ⟨len_signs' (by have := band_len y; omega), q⟩
  · exact h.elim
set_option maxRecDepth 100000
set_option maxHeartbeats 1000000
abbrev Sd := Nat × Nat
def sd (p : Sd) : D := .tup [.int (p.1 : Nat), .int (p.2 : Nat)]
def oD (o : List Sd) : D := .tup (o.map sd)
def strandsW (b c : Nat) (w : List Nat) : List Sd := ((enF 0 w).filter fun p => decide (p.2 = b) || decide (p.2 = con b)).map fun p => (c, p.1)
def strands (ws : List (List Nat)) (b : Nat) : List Sd := (enF 0 ws).flatMap fun p => strandsW b p.1 p.2
def OrdOk (ws : List (List Nat)) (nm : List Nat) (os : List (List Sd)) : Prop := All2 (fun b o => o.Perm (strands ws b)) nm os
theorem strandsW_len (b c : Nat) (w : List Nat) : (strandsW b c w).length ≤ w.length := by
  unfold strandsW
  rw [List.length_map]
  exact Nat.le_trans (List.length_filter_le _ _) (by rw [enF_len]; exact Nat.le_refl _)
theorem flat_len {α β : Type} (f : Nat × α → List β) (g : α → Nat) (h : ∀ p, (f p).length ≤ g p.2) : ∀ (l : List α) (i : Nat), ((enF i l).flatMap f).length ≤ (l.map g).sum
  | [], _ => by simp [enF]
  | a :: l, i => by
    rw [enF, List.flatMap_cons, List.length_append, List.map_cons, List.sum_cons]
    have h1 := flat_len f g h l (i + 1)
    have h2 : (f (i, a)).length ≤ g a := h (i, a)
    omega
theorem strands_len (ws : List (List Nat)) (b : Nat) : (strands ws b).length ≤ (ws.map List.length).sum := flat_len _ _ (fun p => strandsW_len b p.1 p.2) ws 0
theorem le_sum_of {n : Nat} : ∀ {l : List Nat}, n ∈ l → n ≤ l.sum
  | [], h => by cases h
  | a :: l, h => by
    rw [List.sum_cons]
    rcases List.mem_cons.mp h with e | e
    · omega
    · have := le_sum_of e; omega
set_option maxRecDepth 100000
set_option maxHeartbeats 1000000
abbrev Pt := Nat × Nat × Nat
def ordAt (os : List (List Sd)) (nm : List Nat) (c : Nat) : List Sd := os.getD (ixOf c nm) []
def ptsOf (nm : List Nat) (os : List (List Sd)) (c : Nat) : List Pt :=
  if c ∈ nm then (ordAt os nm c).map fun p => (p.1, p.2, c) else (ordAt os nm (con c)).reverse.map fun p => (p.1, p.2, c)
def pts (y : List Nat) (os : List (List Sd)) : List Pt := y.flatMap (ptsOf (bandW y) os)
/-- a yard with orders for its bands -/
structure DrOk (y : List Nat) (os : List (List Sd)) : Prop where
  yd : YardOk y
  few8 : y.length ≤ 16
  len : os.length = (bandW y).length
  some_ : ∀ o ∈ os, o.length ≤ 64
  bnd : ∀ o ∈ os, ∀ p ∈ o, p.1 < 2 ^ 20 ∧ p.2 < 2 ^ 20
theorem DrOk.few {y : List Nat} {os : List (List Sd)} (h : DrOk y os) : y.length < 64 := by have := h.few8; omega
theorem strands_mem {ws : List (List Nat)} {b : Nat} {p : Sd} (h : p ∈ strands ws b) : ∃ w, ws[p.1]? = some w ∧ ∃ c, w[p.2]? = some c ∧ (c = b ∨ c = con b) := by
  obtain ⟨q, hq, hp⟩ := List.mem_flatMap.mp h
  obtain ⟨r, hr, rfl⟩ := List.mem_map.mp hp
  obtain ⟨i, hi, e⟩ := enF_mem hq
  rw [Nat.zero_add] at e
  obtain ⟨hr1, hr2⟩ := List.mem_filter.mp hr
  obtain ⟨j, hj, e'⟩ := enF_mem hr1
  rw [Nat.zero_add] at e'
  refine ⟨q.2, by rw [e]; exact hi, r.2, by rw [e']; exact hj, by simpa using hr2⟩
theorem drOk_of {y : List Nat} {ws : List (List Nat)} {os : List (List Sd)} (hy : YardOk y) (hl : y.length ≤ 16) (hw : ws.length ≤ 64) (hs : (ws.map List.length).sum ≤ 64) (h : OrdOk ws (bandW y) os) : DrOk y os := by
  refine ⟨hy, hl, h.length, fun o ho => ?_, fun o ho p hp => ?_⟩
  · obtain ⟨i, hi⟩ := List.mem_iff_getElem?.mp ho
    obtain ⟨b, _, hb⟩ := h.get' hi
    rw [hb.length_eq]
    exact Nat.le_trans (strands_len ws b) hs
  · obtain ⟨i, hi⟩ := List.mem_iff_getElem?.mp ho
    obtain ⟨b, _, hb⟩ := h.get' hi
    obtain ⟨w, h1, c, h2, _⟩ := strands_mem (hb.mem_iff.mp hp)
    have g1 := (List.getElem?_eq_some_iff.mp h1).1
    have g2 := (List.getElem?_eq_some_iff.mp h2).1
    have g3 : w.length ≤ (ws.map List.length).sum := le_sum_of (List.mem_map_of_mem (List.mem_of_getElem? h1))
    constructor <;> omega
theorem YardOk.perm {y z : List Nat} (h : YardOk y) (p : z.Perm y) : YardOk z :=
  ⟨p.nodup_iff.mpr h.nd, fun c hc => h.let_ c (p.mem_iff.mp hc), fun c hc => p.mem_iff.mpr (h.con_ c (p.mem_iff.mp hc))⟩
theorem DrOk.perm {y z : List Nat} {os : List (List Sd)} (h : DrOk y os) (p : z.Perm y) : DrOk z os :=
  ⟨h.yd.perm p, by rw [p.length_eq]; exact h.few8, by rw [band_eq p]; exact h.len, h.some_, h.bnd⟩
set_option maxRecDepth 100000
set_option maxHeartbeats 1000000
theorem ixOf_app_mem {c : Nat} : ∀ {l m : List Nat}, c ∈ l → ixOf c (l ++ m) = ixOf c l
  | [], _, h => by cases h
  | x :: l, m, h => by
    show (if x = c then 0 else ixOf c (l ++ m) + 1) = if x = c then 0 else ixOf c l + 1
    by_cases e : x = c
    · rw [if_pos e, if_pos e]
    · rw [if_neg e, if_neg e, ixOf_app_mem ((List.mem_cons.mp h).resolve_left fun z => e z.symm)]
theorem ixOf_app_not {c : Nat} : ∀ {l m : List Nat}, c ∉ l → ixOf c (l ++ m) = l.length + ixOf c m
  | [], m, _ => by simp
  | x :: l, m, h => by
    show (if x = c then 0 else ixOf c (l ++ m) + 1) = _
    rw [if_neg (fun z => h (by simp [z])), ixOf_app_not (fun z => h (List.mem_cons_of_mem _ z)), List.length_cons]
    omega
theorem ixOf_inj {a b : Nat} {l : List Nat} (ha : a ∈ l) (hb : b ∈ l) (h : ixOf a l = ixOf b l) : a = b := by
  have h1 := (ixOf_spec ha).1
  have h2 := (ixOf_spec hb).1
  rw [h, h2] at h1
  exact (Option.some.inj h1).symm
theorem ixOf_pre {c k : Nat} {l : List Nat} (h : c ∈ l) (hk : ixOf c l < k) : c ∈ l.take k ∧ ixOf c (l.take k) = ixOf c l := by
  have h1 : c ∈ l.take k := List.mem_of_getElem? (i := ixOf c l) (by rw [List.getElem?_take_of_lt hk]; exact (ixOf_spec h).1)
  refine ⟨h1, ?_⟩
  have := ixOf_app_mem (m := l.drop k) h1
  rw [List.take_append_drop] at this
  exact this.symm
theorem ixOf_post {c k : Nat} {l : List Nat} (h : c ∈ l) (hk : k ≤ ixOf c l) : c ∉ l.take k ∧ c ∈ l.drop k ∧ ixOf c l = k + ixOf c (l.drop k) := by
  have hl := ixOf_lt h
  have h1 : c ∉ l.take k := fun z => by
    have := ixOf_app_mem (m := l.drop k) z
    rw [List.take_append_drop] at this
    have := ixOf_lt z
    rw [List.length_take] at this
    omega
  have h2 := ixOf_app_not (m := l.drop k) h1
  rw [List.take_append_drop, List.length_take] at h2
  refine ⟨h1, ?_, by omega⟩
  have : c ∈ l.take k ++ l.drop k := by rw [List.take_append_drop]; exact h
  exact (List.mem_append.mp this).resolve_left h1
theorem take_drop_dis {l : List Nat} (h : l.Nodup) {c k : Nat} (h1 : c ∈ l.take k) : c ∉ l.drop k := fun h2 => by
  have : (l.take k ++ l.drop k).Nodup := by rw [List.take_append_drop]; exact h
  rw [List.nodup_append] at this
  exact this.2.2 c h1 c h2 rfl
/-- what is behind the i-th round the text -/
theorem rest_ix {y : List Nat} (h : y.Nodup) {i b : Nat} (hi : i < y.length) (hb : b ∈ y) (ne : ixOf b y ≠ i) :
    b ∈ y.drop (i + 1) ++ y.take i ∧ ixOf b (y.drop (i + 1) ++ y.take i) = if i < ixOf b y then ixOf b y - i - 1 else y.length - i - 1 + ixOf b y := by
  by_cases c : i < ixOf b y
  · obtain ⟨_, h2, h3⟩ := ixOf_post (k := i + 1) hb c
    refine ⟨List.mem_append_left _ h2, ?_⟩
    rw [ixOf_app_mem h2, if_pos c]
    omega
  · have c' : ixOf b y < i := by omega
    obtain ⟨h2, h3⟩ := ixOf_pre hb c'
    have h4 : b ∉ y.drop (i + 1) := take_drop_dis h (ixOf_pre hb (k := i + 1) (by omega)).1
    refine ⟨List.mem_append_right _ h2, ?_⟩
    rw [ixOf_app_not h4, if_neg c, h3, List.length_drop]
    omega
/-- whether q comes ahead of r, from p on -/
def cyc3 (p q r : Nat) : Bool := decide ((p < q ∧ q < r) ∨ (q < r ∧ r < p) ∨ (r < p ∧ p < q))
theorem cyc3_turn (p q r : Nat) : cyc3 q r p = cyc3 p q r := by unfold cyc3; rw [Bool.eq_iff_iff]; simp only [decide_eq_true_eq]; omega
theorem cyc3_swap {p q r : Nat} (h1 : p ≠ q) (h2 : q ≠ r) (h3 : p ≠ r) : cyc3 p r q = !cyc3 p q r := by
  unfold cyc3
  rw [Bool.eq_iff_iff]
  simp only [Bool.not_eq_true', decide_eq_true_eq, decide_eq_false_iff_not]
  omega
def m_goes_round : PM := fun ds st Q => match ds with
  | [.str y, .str [a], .str [b], .str [c]] => y.Nodup ∧ y.length ≤ 64 ∧ a ∈ y ∧ b ∈ y ∧ c ∈ y ∧ a ≠ b ∧ a ≠ c ∧ Q (.d (.bl (cyc3 (ixOf a y) (ixOf b y) (ixOf c y)))) st
  | _ => False
theorem e_goes {y a b c s Q} : m_goes_round [.str y, .str [a], .str [b], .str [c]] s Q = (y.Nodup ∧ y.length ≤ 64 ∧ a ∈ y ∧ b ∈ y ∧ c ∈ y ∧ a ≠ b ∧ a ≠ c ∧ Q (.d (.bl (cyc3 (ixOf a y) (ixOf b y) (ixOf c y)))) s) := rfl
def t_goes_round : PTS := sSeq (sAsg 4 (tMeth "str" pIndexS (tName 0) (rCons (tName 1) (rNil)))) (sSeq (sAsg 5 (t2 (tSl (tName 0) (oSome (t2 (tName 4) (tD (.int 1)) pAdd)) (oNone)) (tSl (tName 0) (oNone) (oSome (tName 4))) pAdd)) (sRet (t2 (tMeth "str" pIndexS (tName 5) (rCons (tName 2) (rNil))) (tMeth "str" pIndexS (tName 5) (rCons (tName 3) (rNil))) pLt)))
abbrev N_goes_round : List Str := ["yard", "x", "y", "z", "at", "rest"]
theorem len_goes_round (ds : List D) (s : Sto) (Q : C → Sto → Prop) (h : m_goes_round ds s Q) : ds.length = 4 := by
  unfold m_goes_round at h
  split at h
  · rfl
  · exact h.elim
theorem p_goes_round (ds : List D) (s : Sto) (Q : C → Sto → Prop) (h : m_goes_round ds s Q) : t_goes_round noX { nx := fun e => Q (.d .non) e.st, rt := fun c e => Q c e.st } ⟨startC N_goes_round ds, s⟩ := by
  unfold m_goes_round at h
  split at h
  · rename_i y a b c
    obtain ⟨hn, hl, ha, hb, hc, ab, ac, q⟩ := h
    have hi := ixOf_lt ha
    obtain ⟨b1, b2⟩ := rest_ix hn hi hb (fun z => ab (ixOf_inj ha hb z.symm))
    obtain ⟨c1, c2⟩ := rest_ix hn hi hc (fun z => ac (ixOf_inj ha hc z.symm))
    unfold t_goes_round
    simpa?! only []
    refine ⟨ha, ?_⟩
    have e1 : ((ixOf a y : Nat) : Int) + 1 = ((ixOf a y + 1 : Nat) : Int) := by omega
    rw [e1]
    simpa?! only [cut_take, cut_drop]
    refine ⟨by rw [List.length_drop, List.length_take]; omega, b1, c1, ?_⟩
    have e2 : decide ((ixOf b (y.drop (ixOf a y + 1) ++ y.take (ixOf a y)) : Int) < (ixOf c (y.drop (ixOf a y + 1) ++ y.take (ixOf a y)) : Nat)) = cyc3 (ixOf a y) (ixOf b y) (ixOf c y) := by
      have n1 : ixOf b y ≠ ixOf a y := fun z => ab (ixOf_inj ha hb z.symm)
      have n2 : ixOf c y ≠ ixOf a y := fun z => ac (ixOf_inj ha hc z.symm)
      have l1 := ixOf_lt hb
      have l2 := ixOf_lt hc
      rw [b2, c2]
      unfold cyc3
      rw [Bool.eq_iff_iff]
      simp only [decide_eq_true_eq]
      split <;> split <;> omega
    rw [e2]
    exact q
  · exact h.elim
def wth (y z : List Nat) : List Nat := y.filter fun c => decide (c ∈ z) || decide (con c ∈ z)
theorem perm_nd : ∀ {a b : List Nat}, a.Nodup → b.Nodup → (∀ x, x ∈ a ↔ x ∈ b) → a.Perm b
  | [], b, _, _, h => by
    cases b with
    | nil => exact .refl _
    | cons y b => exact absurd ((h y).mpr (by simp)) (by simp)
  | x :: a, b, ha, hb, h => by
    rw [List.nodup_cons] at ha
    have hx : x ∈ b := (h x).mp (by simp)
    refine ((perm_nd (a := a) (b := b.erase x) ha.2 (hb.erase x) fun z => ?_).cons x).trans (List.perm_cons_erase hx).symm
    rw [hb.mem_erase_iff]
    constructor
    · intro hz
      exact ⟨fun e => ha.1 (e ▸ hz), (h z).mp (List.mem_cons_of_mem _ hz)⟩
    · rintro ⟨h1, h2⟩
      exact (List.mem_cons.mp ((h z).mpr h2)).resolve_left h1
theorem L_SMCP {c : Nat} (h : IsL c) : c ∈ SM ++ CP := by
  have key : ∀ n : Nat, n < 123 → IsL n → n ∈ SM ++ CP := by decide +kernel
  exact key c (by unfold IsL at h; omega) h
theorem enF_split {α : Type} {y : List α} {pre suf : List (Nat × α)} {p : Nat × α} {k : Nat} (h : pre ++ p :: suf = enF k y) : p.1 = k + pre.length ∧ y[pre.length]? = some p.2 := by
  have h1 : (enF k y)[pre.length]? = some p := by rw [← h]; simp
  rw [enF_get] at h1
  cases q : y[pre.length]? with
  | none => rw [q] at h1; cases h1
  | some a => rw [q] at h1; cases h1; exact ⟨rfl, rfl⟩
set_option maxRecDepth 100000
set_option maxHeartbeats 1000000
set_option maxRecDepth 100000
set_option maxHeartbeats 4000000
def RedS : List Nat → Prop
  | [] => True
  | [_] => True
  | a :: b :: l => b ≠ con a ∧ RedS (b :: l)
theorem RedS.tail {a : Nat} {l : List Nat} (h : RedS (a :: l)) : RedS l := by
  cases l with
  | nil => trivial
  | cons b l => exact h.2
theorem rpush_red {r : List Nat} {c : Nat} (h : RedS r) : RedS (rpush r c) := by
  unfold rpush
  cases r with
  | nil => trivial
  | cons x r =>
    simp only
    split
    · exact h.tail
    · rename_i hx; exact ⟨hx, h⟩
theorem redR_red {r w : List Nat} (h : RedS r) : RedS (redR r w) := by
  induction w generalizing r with
  | nil => exact h
  | cons c w ih => exact ih (rpush_red h)
theorem rpush_undo {r : List Nat} {a b : Nat} (h : RedS r) (ha : IsL a) (hb : IsL b) (e : a = con b) : rpush (rpush r a) b = r := by
  have e' : b = con a := by rw [e, con_con hb]
  cases r with
  | nil => show rpush [a] b = []; unfold rpush; simp only; rw [if_pos e]
  | cons x r =>
    by_cases hx : x = con a
    · have : rpush (x :: r) a = r := by unfold rpush; simp only; rw [if_pos hx]
      rw [this]
      have hxb : x = b := by rw [hx, ← e']
      subst hxb
      cases r with
      | nil => rfl
      | cons y r =>
        show rpush (y :: r) x = _
        unfold rpush
        simp only
        rw [if_neg h.1]
    · have : rpush (x :: r) a = a :: x :: r := by unfold rpush; simp only; rw [if_neg hx]
      rw [this]
      show rpush (a :: x :: r) b = _
      unfold rpush
      simp only
      rw [if_pos e]
theorem red_pair {u v : List Nat} {a b : Nat} (ha : IsL a) (hb : IsL b) (e : a = con b) : red (u ++ a :: b :: v) = red (u ++ v) := by
  unfold red
  rw [redR_app, redR_app]
  show (redR (rpush (rpush (redR [] u) a) b) v).reverse = _
  rw [rpush_undo (redR_red (by trivial)) ha hb e]
/-- no two that cancel stand together -/
def NoAdj : List Nat → Prop
  | [] => True
  | [_] => True
  | a :: b :: l => a ≠ con b ∧ NoAdj (b :: l)
theorem redR_noadj {r w : List Nat} (h : NoAdj w) (hh : ∀ x c, r.head? = some x → w.head? = some c → x ≠ con c) : redR r w = w.reverse ++ r := by
  induction w generalizing r with
  | nil => rfl
  | cons c w ih =>
    have e : rpush r c = c :: r := by
      unfold rpush
      cases r with
      | nil => rfl
      | cons x r => simp only; rw [if_neg (hh x c rfl rfl)]
    show redR (rpush r c) w = _
    rw [e]
    cases w with
    | nil => rfl
    | cons d w =>
      rw [ih h.2 fun x y hx hy => by cases hx; cases hy; exact h.1]
      simp
theorem red_noadj {w : List Nat} (h : NoAdj w) : red w = w := by
  unfold red
  rw [redR_noadj h fun x c hx => by cases hx]
  simp
theorem noadj_of {w : List Nat} (h : ∀ k a b, w[k]? = some a → w[k + 1]? = some b → a ≠ con b) : NoAdj w := by
  induction w with
  | nil => trivial
  | cons a w ih =>
    cases w with
    | nil => trivial
    | cons b w => exact ⟨h 0 a b rfl rfl, ih fun k x y hx hy => h (k + 1) x y hx hy⟩
theorem noadj_get {w : List Nat} (h : NoAdj w) : ∀ k a b, w[k]? = some a → w[k + 1]? = some b → a ≠ con b := by
  induction w with
  | nil => intro k a b ha; simp at ha
  | cons x w ih =>
    intro k a b ha hb
    cases w with
    | nil => simp at hb
    | cons y w =>
      cases k with
      | zero => simp at ha hb; subst ha; subst hb; exact h.1
      | succ k => exact ih h.2 k a b (by simpa using ha) (by simpa using hb)
theorem noadj_rev {l : List Nat} (hl : IsW l) (h : RedS l) : NoAdj l.reverse := by
  refine noadj_of fun k a b ha hb => ?_
  have key : ∀ (l : List Nat), RedS l → ∀ k x y, l[k]? = some x → l[k + 1]? = some y → y ≠ con x := by
    intro l
    induction l with
    | nil => intro _ k x y hx; simp at hx
    | cons c l ih =>
      intro h k x y hx hy
      cases l with
      | nil => simp at hy
      | cons d l =>
        cases k with
        | zero => simp at hx hy; subst hx; subst hy; exact h.1
        | succ k => exact ih h.2 k x y (by simpa using hx) (by simpa using hy)
  have hk : k + 1 < l.length := by
    have := (List.getElem?_eq_some_iff.mp hb).1
    simpa using this
  rw [List.getElem?_reverse (by omega)] at ha hb
  refine key l h (l.length - 1 - (k + 1)) b a hb ?_
  rw [show l.length - 1 - (k + 1) + 1 = l.length - 1 - k by omega]
  exact ha
theorem red_noadj' {w : List Nat} (hw : IsW w) : NoAdj (red w) := noadj_rev (redR_W (by intro c hc; cases hc) hw) (redR_red (by trivial))
theorem noadj_inner {v : List Nat} (h : NoAdj v) : NoAdj v.tail.dropLast := by
  refine noadj_of fun k a b ha hb => ?_
  have g : ∀ j x, v.tail.dropLast[j]? = some x → v[j + 1]? = some x := by
    intro j x hx
    rw [List.getElem?_dropLast] at hx
    split at hx
    · rw [List.getElem?_tail] at hx; exact hx
    · cases hx
  exact noadj_get h (k + 1) a b (g k a ha) (g (k + 1) b hb)
theorem cyc_noadj {v : List Nat} (h : NoAdj v) : NoAdj (cyc v) := by
  generalize hn : v.length = n
  induction n using Nat.strongRecOn generalizing v with
  | _ n ih =>
    rw [cyc]
    split
    · rename_i hc
      exact ih _ (by simp; omega) (noadj_inner h) rfl
    · exact h
theorem cyc_cyc (v : List Nat) : cyc (cyc v) = cyc v := by
  generalize hn : v.length = n
  induction n using Nat.strongRecOn generalizing v with
  | _ n ih =>
    by_cases hc : 1 < v.length ∧ v.head? = v.getLast?.map con
    · have e : cyc v = cyc v.tail.dropLast := by rw [cyc, if_pos hc]
      rw [e]
      exact ih _ (by simp; omega) _ rfl
    · have e : cyc v = v := by rw [cyc, if_neg hc]
      rw [e, e]
theorem red_cyc {w : List Nat} (hw : IsW w) : red (cyc (red w)) = cyc (red w) := red_noadj (cyc_noadj (red_noadj' hw))
theorem cyc_red_cyc {w : List Nat} (hw : IsW w) : cyc (red (cyc (red w))) = cyc (red w) := by rw [red_cyc hw, cyc_cyc]
set_option maxRecDepth 100000
set_option maxHeartbeats 1000000
def rot (l : List Nat) (k : Nat) : List Nat := l.drop k ++ l.take k
def rotL (l : List Nat) : List (List Nat) := (List.range l.length).map (rot l)
def ringL (l : List Nat) : List Nat := match rotL l with
  | [] => []
  | x :: r => minS x r
def ring (w : List Nat) : List Nat := ringL (cyc (red w))
def loop (w : List Nat) : List Nat := if ring (turn w) < ring w then ring (turn w) else ring w
theorem rot_W {l : List Nat} (h : IsW l) (k : Nat) : IsW (rot l k) := fun c hc => (List.mem_append.mp hc).elim (fun z => h c (List.mem_of_mem_drop z)) fun z => h c (List.mem_of_mem_take z)
theorem rot_len (l : List Nat) (k : Nat) : (rot l k).length = l.length := by
  unfold rot
  rw [List.length_append, Nat.add_comm, ← List.length_append, List.take_append_drop]
theorem ringL_rot {l : List Nat} (h : l ≠ []) : ∃ k, k < l.length ∧ ringL l = rot l k := by
  unfold ringL
  cases e : rotL l with
  | nil =>
    unfold rotL at e
    rw [List.map_eq_nil_iff, List.range_eq_nil] at e
    exact absurd (List.eq_nil_of_length_eq_zero e) h
  | cons x r =>
    have hm := minS_mem x r
    rw [← e] at hm
    obtain ⟨k, hk, hr⟩ := List.mem_map.mp hm
    exact ⟨k, List.mem_range.mp hk, hr.symm⟩
theorem ringL_W {l : List Nat} (h : IsW l) : IsW (ringL l) := by
  by_cases e : l = []
  · subst e; intro c hc; cases hc
  · obtain ⟨k, _, hr⟩ := ringL_rot e
    rw [hr]
    exact rot_W h k
theorem ringL_len (l : List Nat) : (ringL l).length = l.length := by
  by_cases e : l = []
  · subst e; rfl
  · obtain ⟨k, _, hr⟩ := ringL_rot e
    rw [hr, rot_len]
theorem core_len (w : List Nat) : (cyc (red w)).length ≤ w.length := Nat.le_trans (cyc_len _) (red_len w)
theorem core_W {w : List Nat} (h : IsW w) : IsW (cyc (red w)) := cyc_W (red_W h)
def rotD (l : List Nat) (d : D) : D := match d with
  | .int i => .str (rot l i.toNat)
  | d => d
theorem rots_map (l : List Nat) : (rngI 0 l.length).map (rotD l) = (rotL l).map D.str := by
  unfold rngI rotL
  rw [List.map_map, List.map_map]
  apply List.map_congr_left
  intro i _
  show D.str (rot l ((0 : Int) + (i : Nat)).toNat) = D.str (rot l i)
  congr 2
  omega
theorem rotL_cons {l : List Nat} (h : l ≠ []) : ∃ x r, rotL l = x :: r ∧ ringL l = minS x r := by
  unfold ringL
  cases e : rotL l with
  | nil =>
    unfold rotL at e
    rw [List.map_eq_nil_iff, List.range_eq_nil] at e
    exact absurd (List.eq_nil_of_length_eq_zero e) h
  | cons x r => exact ⟨x, r, rfl, rfl⟩
def m_ring : PM := fun ds st Q => match ds with
  | [.str w] => IsW w ∧ w.length ≤ 65536 ∧ Q (.d (.str (ring w))) st
  | _ => False
theorem e_ring {w s Q} : m_ring [.str w] s Q = (IsW w ∧ w.length ≤ 65536 ∧ Q (.d (.str (ring w))) s) := rfl
def t_ring : PTS := sSeq (sAsg 1 (tCall0 m_shortest (tCons (tName 0) (tNil)))) (sSeq (sIf (tB (t2 (tName 1) (tD (.str [])) pEq)) (sRet (tD (.str []))) (sNext)) (sRet (tCallP pMin1 (rCons (cLc (iPure pRng1 (rCons (tCallP pLen (rCons (tName 1) (rNil))) (rNil))) (gName 2) (cYes) (t2 (tSl (tName 1) (oSome (tName 2)) (oNone)) (tSl (tName 1) (oNone) (oSome (tName 2))) pAdd) [2]) (rNil)))))
abbrev N_ring : List Str := ["word", "left", "k"]
theorem len_ring (ds : List D) (s : Sto) (Q : C → Sto → Prop) (h : m_ring ds s Q) : ds.length = 1 := by
  unfold m_ring at h
  split at h
  · rfl
  · exact h.elim
theorem p_ring (ds : List D) (s : Sto) (Q : C → Sto → Prop) (h : m_ring ds s Q) : t_ring noX { nx := fun e => Q (.d .non) e.st, rt := fun c e => Q c e.st } ⟨startC N_ring ds, s⟩ := by
  unfold m_ring at h
  split at h
  · rename_i w
    obtain ⟨hw, hl, q⟩ := h
    unfold t_ring
    simpa?! only [e_shortest]
    have hcl := core_len w
    refine ⟨hw, by omega, ?_⟩
    unfold ring at q
    generalize cyc (red w) = l at q hcl
    by_cases e : l = []
    · refine br_pos (decide_eq_true e) ?_
      simpa?! only []
      subst e
      exact q
    · refine br_neg (decide_eq_false e) ?_
      simpa?! only []
      refine ⟨⟨by omega, by omega⟩, by rw [rngI_length]; omega, ?_⟩
      rw [Int.toNat_natCast]
      refine lcH_map (rotD l) (fun d hd K k => ?_) ?_
      · obtain ⟨i, hi, rfl⟩ := rngI_mem hd
        rw [Int.zero_add] at k ⊢
        simpa?! only [cut_take, cut_drop]
        have := rot_len l i
        unfold rot at this
        rw [List.length_append] at this
        refine ⟨by omega, ?_⟩
        have k : K (.str (rot l (i : Int).toNat)) ⟨[.d (.str w), .d (.str l), .un], s⟩ := k
        rw [Int.toNat_natCast] at k
        exact k
      · rw [rots_map]
        obtain ⟨x, r, h1, h2⟩ := rotL_cons e
        rw [h2] at q
        simpa?! only []
        exact minH_ok (by rw [h1]) q
  · exact h.elim
set_option maxRecDepth 100000
set_option maxHeartbeats 1000000
def Per (l : List Nat) (k : Nat) : Prop := ∀ i, i < l.length → l[(i + k) % l.length]? = l[i]?
theorem Per.add {l : List Nat} {a b : Nat} (h : Per l a) (g : Per l b) : Per l (a + b) := fun i hi => by
  have hm : (i + a) % l.length < l.length := Nat.mod_lt _ (by omega)
  have := g _ hm
  rw [Nat.mod_add_mod] at this
  rw [← Nat.add_assoc, this, h i hi]
theorem Per.mul {l : List Nat} {a : Nat} (h : Per l a) : ∀ q, Per l (q * a)
  | 0 => fun i hi => by rw [Nat.zero_mul, Nat.add_zero, Nat.mod_eq_of_lt hi]
  | q + 1 => by rw [Nat.succ_mul]; exact (Per.mul h q).add h
theorem Per.sub {l : List Nat} {a r : Nat} (h : Per l a) (e : (a + r) % l.length = 0) : Per l r := fun i hi => by
  have hm : (i + r) % l.length < l.length := Nat.mod_lt _ (by omega)
  have := h _ hm
  rw [Nat.mod_add_mod] at this
  have e2 : (i + r + a) % l.length = i := by
    have : i + r + a = i + (a + r) := by omega
    rw [this, Nat.add_mod, e, Nat.add_zero, Nat.mod_mod, Nat.mod_eq_of_lt hi]
  rw [e2] at this
  exact this.symm
/-- the least turn that gives the same -/
def rootK (l : List Nat) : Nat := (((List.range l.length).map (· + 1)).find? fun k => decide (rot l k = l)).getD 0
theorem rot_full (l : List Nat) : rot l l.length = l := by unfold rot; simp
theorem rootK_spec {l : List Nat} (h : l ≠ []) : 1 ≤ rootK l ∧ rootK l ≤ l.length ∧ rot l (rootK l) = l ∧ (∀ k, 1 ≤ k → k < rootK l → rot l k ≠ l) ∧ ((List.range l.length).map (· + 1)).find? (fun k => decide (rot l k = l)) = some (rootK l) := by
  have hp := List.length_pos_iff.mpr h
  unfold rootK
  cases e : ((List.range l.length).map (· + 1)).find? fun k => decide (rot l k = l) with
  | none =>
    rw [List.find?_eq_none] at e
    have := e l.length (List.mem_map.mpr ⟨l.length - 1, List.mem_range.mpr (by omega), by omega⟩)
    simp [rot_full] at this
  | some k =>
    simp only [Option.getD_some]
    have hm := List.mem_of_find?_eq_some e
    obtain ⟨j, hj, rfl⟩ := List.mem_map.mp hm
    have hj := List.mem_range.mp hj
    have hs : rot l (j + 1) = l := of_decide_eq_true (p := rot l (j + 1) = l) (List.find?_some (p := fun k => decide (rot l k = l)) e)
    refine ⟨by omega, by omega, hs, fun k hk1 hk2 hr => ?_, by simp⟩
    rw [List.find?_eq_some_iff_append] at e
    obtain ⟨_, as, bs, heq, hno⟩ := e
    have hlen : as.length = j := by
      have h1 : ((List.range l.length).map (· + 1))[as.length]? = some (j + 1) := by rw [heq]; simp
      rw [List.getElem?_map] at h1
      have hlt : as.length < l.length := by
        have := congrArg List.length heq
        simp at this
        omega
      rw [List.getElem?_range hlt] at h1
      simp at h1
      exact h1
    have hk : k ∈ as := by
      have h2 : ((List.range l.length).map (· + 1))[k - 1]? = some k := by
        rw [List.getElem?_map, List.getElem?_range (by omega)]
        simp
        omega
      rw [heq, List.getElem?_append_left (by omega)] at h2
      exact List.mem_of_getElem? h2
    have := hno k hk
    simp [hr] at this
set_option maxRecDepth 100000
set_option maxHeartbeats 1000000
set_option maxRecDepth 100000
set_option maxHeartbeats 1000000
theorem redR_snoc (r v : List Nat) (c : Nat) : redR r (v ++ [c]) = rpush (redR r v) c := by rw [redR_app]; rfl
theorem redR_nil_W {v : List Nat} (h : IsW v) : IsW (redR [] v) := redR_W (fun c hc => by cases hc) h
theorem redR_nil_red (v : List Nat) : RedS (redR [] v) := redR_red (by trivial)
theorem snoc_ind {P : List Nat → Prop} (h0 : P []) (h1 : ∀ v c, P v → P (v ++ [c])) : ∀ w, P w := fun w => by
  have key : ∀ n (w : List Nat), w.length = n → P w := fun n => by
    induction n with
    | zero => intro w hw; rw [List.eq_nil_of_length_eq_zero hw]; exact h0
    | succ n ih =>
      intro w hw
      have hne : w ≠ [] := fun z => by subst z; simp at hw
      rw [← List.dropLast_concat_getLast hne]
      exact h1 _ _ (ih _ (by simp; omega))
  exact key _ w rfl
theorem redR_red_eq {r : List Nat} (hr : RedS r) : ∀ v, IsW v → redR r (red v) = redR r v := by
  refine snoc_ind (fun _ => rfl) fun v c ih hv => ?_
  have hvv : IsW v := fun d hd => hv d (by simp [hd])
  have hc : IsL c := hv c (by simp)
  have ih := ih hvv
  have hs := redR_nil_W hvv
  rw [redR_snoc, ← ih]
  unfold red at *
  rw [redR_snoc]
  cases e : redR [] v with
  | nil => rfl
  | cons x s =>
    rw [e] at hs
    have hx : IsL x := hs x (by simp)
    by_cases hxc : x = con c
    · have e1 : rpush (x :: s) c = s := by unfold rpush; simp only; rw [if_pos hxc]
      rw [e1, List.reverse_cons, redR_snoc, rpush_undo (redR_red hr) hx hc hxc]
    · have e1 : rpush (x :: s) c = c :: x :: s := by unfold rpush; simp only; rw [if_neg hxc]
      rw [e1, List.reverse_cons, redR_snoc]
theorem red_mid {u v w : List Nat} (hv : IsW v) : red (u ++ (red v ++ w)) = red (u ++ (v ++ w)) := by
  unfold red
  rw [redR_app, redR_app, redR_app, redR_app]
  have := redR_red_eq (redR_nil_red u) v hv
  unfold red at this
  rw [this]
theorem red_right {u v : List Nat} (hv : IsW v) : red (u ++ red v) = red (u ++ v) := by
  have := red_mid (u := u) (w := []) hv
  simpa using this
/-- one is a turn of the other -/
def Rt (a b : List Nat) : Prop := ∃ k, k ≤ a.length ∧ b = rot a k
theorem Rt.refl (a : List Nat) : Rt a a := ⟨0, by omega, by unfold rot; simp⟩
theorem Rt.of_eq {a b : List Nat} (h : a = b) : Rt a b := h ▸ Rt.refl a
theorem Rt.len {a b : List Nat} (h : Rt a b) : b.length = a.length := by obtain ⟨k, _, rfl⟩ := h; exact rot_len a k
theorem Rt.app (u v : List Nat) : Rt (u ++ v) (v ++ u) := ⟨u.length, by simp, by unfold rot; simp⟩
theorem Rt.split {a b : List Nat} (h : Rt a b) : ∃ u v, a = u ++ v ∧ b = v ++ u := by
  obtain ⟨k, _, rfl⟩ := h
  exact ⟨a.take k, a.drop k, (List.take_append_drop k a).symm, rfl⟩
theorem Rt.symm {a b : List Nat} (h : Rt a b) : Rt b a := by
  obtain ⟨u, v, rfl, rfl⟩ := h.split
  exact Rt.app v u
theorem Rt.trans {a b c : List Nat} (h : Rt a b) (g : Rt b c) : Rt a c := by
  obtain ⟨u, v, rfl, rfl⟩ := h.split
  obtain ⟨p, q, e, rfl⟩ := g.split
  rcases List.append_eq_append_iff.mp e with ⟨t, e1, e2⟩ | ⟨t, e1, e2⟩
  · subst e1
    subst e2
    have z := Rt.app t (q ++ v)
    simpa [List.append_assoc] using z
  · subst e1
    subst e2
    have z := Rt.app (u ++ p) t
    simpa [List.append_assoc] using z
theorem Rt.rot_ {a : List Nat} {k : Nat} (h : k ≤ a.length) : Rt a (rot a k) := ⟨k, h, rfl⟩
/-- the least turn hangs on the class alone -/
theorem minS_le (x : List Nat) (r : List (List Nat)) : ∀ z ∈ x :: r, ¬ z < minS x r := by
  unfold minS
  induction r generalizing x with
  | nil => intro z hz; rw [List.mem_singleton] at hz; subst hz; exact List.lt_irrefl z
  | cons y r ih =>
    intro z hz
    rw [List.foldl_cons]
    by_cases h : y < x
    · rw [if_pos h]
      rcases List.mem_cons.mp hz with rfl | hz
      · intro q
        exact ih y y (by simp) (List.lt_trans h q)
      · exact ih y z hz
    · rw [if_neg h]
      rcases List.mem_cons.mp hz with rfl | hz
      · exact ih z z (by simp)
      · rcases List.mem_cons.mp hz with rfl | hz
        · intro q
          have h2 := ih x x (by simp)
          exact h2 (List.lt_of_le_of_lt (List.not_lt.mp h) q)
        · exact ih x z (List.mem_cons_of_mem _ hz)
theorem minS_same {x y : List Nat} {r s : List (List Nat)} (h : ∀ z, z ∈ x :: r ↔ z ∈ y :: s) : minS x r = minS y s := by
  have h1 := minS_le x r (minS y s) ((h _).mpr (minS_mem y s))
  have h2 := minS_le y s (minS x r) ((h _).mp (minS_mem x r))
  exact List.le_antisymm (List.not_lt.mp h1) (List.not_lt.mp h2)
theorem mem_rotL {l z : List Nat} (h : l ≠ []) : z ∈ rotL l ↔ Rt l z := by
  unfold rotL
  have hp := List.length_pos_iff.mpr h
  constructor
  · intro hz
    obtain ⟨k, hk, rfl⟩ := List.mem_map.mp hz
    exact Rt.rot_ (by have := List.mem_range.mp hk; omega)
  · rintro ⟨k, hk, rfl⟩
    by_cases e : k = l.length
    · refine List.mem_map.mpr ⟨0, List.mem_range.mpr hp, ?_⟩
      rw [e, rot_full]
      unfold rot
      simp
    · exact List.mem_map.mpr ⟨k, List.mem_range.mpr (by omega), rfl⟩
theorem ringL_same {a b : List Nat} (h : Rt a b) : ringL a = ringL b := by
  by_cases ha : a = []
  · subst ha
    have := h.len
    rw [List.eq_nil_of_length_eq_zero this]
  · have hb : b ≠ [] := fun z => by
      have := h.len
      rw [z] at this
      exact ha (List.eq_nil_of_length_eq_zero this.symm)
    obtain ⟨x, r, e1, e2⟩ := rotL_cons ha
    obtain ⟨y, s, e3, e4⟩ := rotL_cons hb
    rw [e2, e4]
    refine minS_same fun z => ?_
    rw [← e1, ← e3, mem_rotL ha, mem_rotL hb]
    exact ⟨fun g => h.symm.trans g, fun g => h.trans g⟩
def core (w : List Nat) : List Nat := cyc (red w)
theorem ring_core (w : List Nat) : ring w = ringL (core w) := rfl
theorem noadj_snoc {s : List Nat} {a : Nat} (h : NoAdj s) (hl : ∀ b, s.getLast? = some b → b ≠ con a) : NoAdj (s ++ [a]) := by
  induction s with
  | nil => trivial
  | cons x s ih =>
    cases s with
    | nil => exact ⟨hl x rfl, trivial⟩
    | cons y s => exact ⟨h.1, ih h.2 fun b hb => hl b (by rw [List.getLast?_cons_cons]; exact hb)⟩
theorem noadj_cons {s : List Nat} {a : Nat} (h : NoAdj s) (hh : ∀ b, s.head? = some b → a ≠ con b) : NoAdj (a :: s) := by
  cases s with
  | nil => trivial
  | cons x s => exact ⟨hh x rfl, h⟩
theorem noadj_tail {a : Nat} {s : List Nat} (h : NoAdj (a :: s)) : NoAdj s := by
  cases s with
  | nil => trivial
  | cons b s => exact h.2
theorem noadj_init {s : List Nat} {a : Nat} (h : NoAdj (s ++ [a])) : NoAdj s := by
  refine noadj_of fun k x y hx hy => ?_
  have h1 := (List.getElem?_eq_some_iff.mp hy).1
  exact noadj_get h k x y (by rw [List.getElem?_append_left (by omega)]; exact hx) (by rw [List.getElem?_append_left h1]; exact hy)
theorem cyc_stop {v : List Nat} (h : ∀ a b, v.head? = some a → v.getLast? = some b → 1 < v.length → a ≠ con b) : cyc v = v := by
  by_cases h1 : 1 < v.length
  · obtain ⟨a, b, ha, hb, _, _⟩ := ends_of (v := v) (by omega)
    exact cyc_out ha hb (h a b ha hb h1)
  · exact cyc_one h1
theorem last_snoc (l : List Nat) (a : Nat) : (l ++ [a]).getLast? = some a := by simp
/-- a letter put round a word that cannot be shortened -/
theorem conj_one {a : Nat} {r : List Nat} (ha : IsL a) (hr : IsW r) (hn : NoAdj r) : Rt (cyc r) (cyc (red (con a :: (r ++ [a])))) := by
  have hca := con_L ha
  have pair : ∀ u v : List Nat, red (u ++ con a :: a :: v) = red (u ++ v) := fun u v => red_pair hca ha rfl
  have pair' : ∀ u v : List Nat, red (u ++ a :: con a :: v) = red (u ++ v) := fun u v => red_pair ha hca (con_con ha).symm
  by_cases h0 : r = []
  · subst h0
    have := pair [] []
    simp only [List.nil_append] at this
    show Rt _ (cyc (red [con a, a]))
    rw [this]
    exact .of_eq rfl
  cases r with
  | nil => exact absurd rfl h0
  | cons h s =>
  have hh : IsL h := hr h (by simp)
  have hs : IsW s := fun c hc => hr c (List.mem_cons_of_mem _ hc)
  by_cases e : h = a
  · subst e
    have e1 : red (con h :: ((h :: s) ++ [h])) = red (s ++ [h]) := pair [] (s ++ [h])
    rw [e1]
    by_cases l : ∃ m, s = m ++ [con h]
    · obtain ⟨m, rfl⟩ := l
      have hm : NoAdj m := noadj_init (noadj_tail hn)
      have e2 : red (m ++ [con h] ++ [h]) = m := by
        have := pair m []
        rw [List.append_nil] at this
        rw [List.append_assoc]
        show red (m ++ con h :: [h]) = m
        rw [this, red_noadj hm]
      rw [e2]
      have e3 : cyc (h :: (m ++ [con h])) = cyc m := by
        rw [cyc_in (v := h :: (m ++ [con h])) (a := h) (b := con h) (by simp) rfl (last_snoc (h :: m) (con h)) (con_con hh).symm]
        congr 1
        simp
      rw [e3]
      exact .refl _
    · have hlast : ∀ b, s.getLast? = some b → b ≠ con h := fun b hb z => by
        have hne : s ≠ [] := fun y => by subst y; cases hb
        have g := List.dropLast_concat_getLast hne
        rw [List.getLast?_eq_some_getLast hne] at hb
        have hb : s.getLast hne = b := by simpa using hb
        rw [hb, z] at g
        exact l ⟨_, g.symm⟩
      have hns := noadj_snoc (noadj_tail hn) hlast
      rw [red_noadj hns]
      have c1 : cyc (h :: s) = h :: s := cyc_stop fun x b hx hb hl => by
        have hx : h = x := by simpa using hx
        subst hx
        cases s with
        | nil => simp at hl
        | cons y s =>
          rw [List.getLast?_cons_cons] at hb
          have hbl : IsL b := hs b (List.mem_of_getLast? hb)
          intro z
          exact hlast b hb (by rw [z, con_con hbl])
      have c2 : cyc (s ++ [h]) = s ++ [h] := cyc_stop fun x b hx hb hl => by
        have hb : h = b := by simpa using hb
        subst hb
        cases s with
        | nil => simp at hl
        | cons y s =>
          have hx : y = x := by simpa using hx
          subst hx
          have hy : IsL y := hs y (by simp)
          intro z
          exact hn.1 (by rw [z, con_con hh])
      rw [c1, c2]
      exact Rt.app [h] s
  · by_cases l : ∃ m, h :: s = m ++ [con a]
    · obtain ⟨m, hm⟩ := l
      have hmW : IsW m := fun c hc => hr c (by rw [hm]; simp [hc])
      have e2 : red (con a :: ((h :: s) ++ [a])) = red (con a :: m) := by
        rw [hm]
        have := pair (con a :: m) []
        rw [List.append_nil] at this
        rw [List.append_assoc]
        exact this
      have hnm : NoAdj m := noadj_init (by rw [← hm]; exact hn)
      have hc : NoAdj (con a :: m) := noadj_cons hnm fun b hb z => by
        cases m with
        | nil => cases hb
        | cons y m =>
          have hy : y = b := by simpa using hb
          subst hy
          have hy : h = y := by simpa using congrArg List.head? hm
          subst hy
          exact e (con_inj ha hh z).symm
      rw [e2, red_noadj hc, hm]
      have c1 : cyc (m ++ [con a]) = m ++ [con a] := cyc_stop fun x b hx hb hl => by
        have hb : con a = b := by simpa using hb
        subst hb
        rw [con_con ha]
        rw [← hm] at hx
        have hx : h = x := by simpa using hx
        rw [← hx]
        exact e
      have c2 : cyc (con a :: m) = con a :: m := cyc_stop fun x b hx hb hl => by
        have hx : con a = x := by simpa using hx
        subst hx
        cases m with
        | nil => simp at hl
        | cons y m =>
          rw [List.getLast?_cons_cons] at hb
          have hbl : IsL b := hmW b (List.mem_of_getLast? hb)
          intro z
          have hab := con_inj ha hbl z
          have hne : (y :: m) ≠ [] := by simp
          have g := List.dropLast_concat_getLast hne
          rw [List.getLast?_eq_some_getLast hne] at hb
          have hb : (y :: m).getLast hne = b := by simpa using hb
          rw [hb, ← hab] at g
          rw [hm, ← g] at hn
          refine noadj_get hn (y :: m).dropLast.length a (con a) ?_ ?_ (con_con ha).symm
          · rw [List.append_assoc, List.getElem?_append_right (by omega)]; simp
          · rw [List.append_assoc, List.getElem?_append_right (by omega)]; simp
      rw [c1, c2]
      exact Rt.app m [con a]
    · have hlast : ∀ b, (h :: s).getLast? = some b → b ≠ con a := fun b hb z => by
        have hne : (h :: s) ≠ [] := by simp
        have g := List.dropLast_concat_getLast hne
        rw [List.getLast?_eq_some_getLast hne] at hb
        have hb : (h :: s).getLast hne = b := by simpa using hb
        rw [hb, z] at g
        exact l ⟨_, g.symm⟩
      have h1 := noadj_snoc hn hlast
      have h2 : NoAdj (con a :: ((h :: s) ++ [a])) := noadj_cons h1 fun b hb z => by
        have hb : h = b := by simpa using hb
        subst hb
        exact e (con_inj ha hh z).symm
      rw [red_noadj h2]
      have c2 : cyc (con a :: ((h :: s) ++ [a])) = cyc (h :: s) := by
        rw [cyc_in (v := con a :: ((h :: s) ++ [a])) (a := con a) (b := a) (by simp) rfl (last_snoc (con a :: h :: s) a) rfl]
        congr 1
        exact List.dropLast_concat (l₁ := h :: s) (b := a)
      rw [c2]
      exact .refl _
theorem core_rot1 {a : Nat} {t : List Nat} (h : IsW (a :: t)) : Rt (core (a :: t)) (core (t ++ [a])) := by
  have ha : IsL a := h a (by simp)
  have hc := conj_one (r := red (a :: t)) ha (red_W h) (red_noadj' h)
  have e : red (con a :: (red (a :: t) ++ [a])) = red (t ++ [a]) := by
    have h1 := red_mid (u := [con a]) (v := a :: t) (w := [a]) h
    rw [List.singleton_append, List.singleton_append] at h1
    rw [h1]
    exact red_pair (u := []) (v := t ++ [a]) (con_L ha) ha rfl
  rw [e] at hc
  exact hc
theorem core_conj : ∀ (u v : List Nat), IsW (u ++ v) → Rt (core (u ++ v)) (core (v ++ u))
  | [], v, _ => by simp; exact .refl _
  | a :: u, v, h => by
    have h1 := core_rot1 (a := a) (t := u ++ v) h
    have hW : IsW (u ++ (v ++ [a])) := fun c hc => h c (by simp at hc ⊢; rcases hc with z | z | z <;> simp [z])
    have h2 := core_conj u (v ++ [a]) hW
    rw [← List.append_assoc] at h2
    have h3 := h1.trans h2
    rw [List.append_assoc] at h3
    exact h3
theorem ring_conj {u v : List Nat} (h : IsW (u ++ v)) : ring (u ++ v) = ring (v ++ u) := by
  rw [ring_core, ring_core]
  exact ringL_same (core_conj u v h)
theorem ring_rot {a b : List Nat} (h : IsW a) (r : Rt a b) : ring a = ring b := by
  obtain ⟨u, v, rfl, rfl⟩ := r.split
  exact ring_conj h
set_option maxRecDepth 100000
set_option maxHeartbeats 1000000
def itr (f : Nat → Nat) : Nat → Nat → Nat
  | 0, x => x
  | k + 1, x => f (itr f k x)
theorem itr_add (f : Nat → Nat) (j : Nat) : ∀ k x, itr f (k + j) x = itr f k (itr f j x)
  | 0, x => by rw [Nat.zero_add]; rfl
  | k + 1, x => by rw [Nat.succ_add]; show f _ = f _; rw [itr_add f j k x]
def fstK (p : Nat → Bool) : Nat → Nat → Nat
  | 0, k => k
  | m + 1, k => if p k = true then k else fstK p m (k + 1)
theorem fstK_spec (p : Nat → Bool) : ∀ (m k j : Nat), k ≤ j → j < k + m → p j = true → p (fstK p m k) = true ∧ k ≤ fstK p m k ∧ fstK p m k ≤ j ∧ ∀ i, k ≤ i → i < fstK p m k → p i = false
  | 0, k, j, h1, h2, _ => by omega
  | m + 1, k, j, h1, h2, h3 => by
    unfold fstK
    by_cases h : p k = true
    · rw [if_pos h]
      exact ⟨h, Nat.le_refl _, h1, fun i a b => by omega⟩
    · rw [if_neg h]
      have hj : k ≠ j := fun e => h (e ▸ h3)
      obtain ⟨a, b, c, d⟩ := fstK_spec p m (k + 1) j (by omega) (by omega) h3
      refine ⟨a, by omega, c, fun i i1 i2 => ?_⟩
      by_cases e : i = k
      · subst e; simpa using h
      · exact d i (by omega) i2
def per (f : Nat → Nat) (n x : Nat) : Nat := fstK (fun k => decide (itr f k x = x)) n 1
def cyw (f : Nat → Nat) (n x : Nat) : List Nat := (List.range (per f n x)).map fun k => itr f k x
/-- f goes about within l, one to one -/
structure About (f : Nat → Nat) (l : List Nat) : Prop where
  maps : ∀ x ∈ l, f x ∈ l
  inj : ∀ x ∈ l, ∀ z ∈ l, f x = f z → x = z
theorem nodup_le : ∀ {a b : List Nat}, a.Nodup → (∀ x ∈ a, x ∈ b) → a.length ≤ b.length
  | [], _, _, _ => Nat.zero_le _
  | x :: a, b, h, s => by
    rw [List.nodup_cons] at h
    have hx := s x (by simp)
    have := nodup_le (b := b.erase x) h.2 fun z hz => by
      have ne : z ≠ x := fun e => h.1 (by rw [← e]; exact hz)
      exact (List.mem_erase_of_ne ne).mpr (s z (List.mem_cons_of_mem _ hz))
    rw [List.length_erase_of_mem hx] at this
    have hp := List.length_pos_of_mem hx
    rw [List.length_cons]
    omega
section
variable {f : Nat → Nat} {l : List Nat} {x : Nat}
theorem About.it (A : About f l) (hx : x ∈ l) : ∀ k, itr f k x ∈ l
  | 0 => hx
  | k + 1 => A.maps _ (A.it hx k)
theorem About.itinj (A : About f l) {x z : Nat} (hx : x ∈ l) (hz : z ∈ l) : ∀ k, itr f k x = itr f k z → x = z
  | 0, h => h
  | k + 1, h => A.itinj hx hz k (A.inj _ (A.it hx k) _ (A.it hz k) h)
theorem About.back (A : About f l) (hx : x ∈ l) {i j : Nat} (hij : i < j) (h : itr f i x = itr f j x) : itr f (j - i) x = x := by
  have e : j = i + (j - i) := by omega
  rw [e, itr_add] at h
  exact (A.itinj hx (A.it hx _) i h).symm
theorem About.ret (A : About f l) (hx : x ∈ l) : ∃ k, 1 ≤ k ∧ k ≤ l.length ∧ itr f k x = x := by
  by_cases h : ((List.range (l.length + 1)).map fun k => itr f k x).Nodup
  · have := nodup_le h fun z hz => by
      obtain ⟨k, _, rfl⟩ := List.mem_map.mp hz
      exact A.it hx k
    simp at this
    omega
  · have : ∃ i j, i < j ∧ j ≤ l.length ∧ itr f i x = itr f j x := by
      refine Classical.byContradiction fun hn => h ?_
      rw [List.nodup_iff_pairwise_ne, List.pairwise_map]
      refine List.Pairwise.imp_of_mem ?_ List.pairwise_lt_range
      intro a b ha hb hab e
      have := List.mem_range.mp hb
      exact hn ⟨a, b, hab, by omega, e⟩
    obtain ⟨i, j, h1, h2, h3⟩ := this
    exact ⟨j - i, by omega, by omega, A.back hx h1 h3⟩
theorem About.pero (A : About f l) (hx : x ∈ l) : 1 ≤ per f l.length x ∧ per f l.length x ≤ l.length ∧ itr f (per f l.length x) x = x ∧ ∀ i, 1 ≤ i → i < per f l.length x → itr f i x ≠ x := by
  obtain ⟨k, k1, k2, k3⟩ := A.ret hx
  obtain ⟨a, b, c, d⟩ := fstK_spec (fun k => decide (itr f k x = x)) l.length 1 k k1 (by omega) (by simpa using k3)
  refine ⟨b, Nat.le_trans c k2, of_decide_eq_true a, fun i i1 i2 => ?_⟩
  have := d i i1 i2
  simpa using this
theorem About.mod (A : About f l) (hx : x ∈ l) (k : Nat) : itr f k x = itr f (k % per f l.length x) x := by
  obtain ⟨h1, _, h3, _⟩ := A.pero hx
  generalize per f l.length x = p at h1 h3
  have e : ∀ m, itr f (m * p) x = x := fun m => by
    induction m with
    | zero => rw [Nat.zero_mul]; rfl
    | succ m ih => rw [Nat.succ_mul, itr_add, h3, ih]
  conv => lhs; rw [← Nat.mod_add_div k p, Nat.mul_comm]
  rw [itr_add, e]
theorem About.mem (A : About f l) (hx : x ∈ l) {z : Nat} : z ∈ cyw f l.length x ↔ ∃ k, z = itr f k x := by
  unfold cyw
  rw [List.mem_map]
  constructor
  · rintro ⟨k, _, rfl⟩; exact ⟨k, rfl⟩
  · rintro ⟨k, rfl⟩
    obtain ⟨h1, _, _, _⟩ := A.pero hx
    exact ⟨k % per f l.length x, List.mem_range.mpr (Nat.mod_lt _ (by omega)), (A.mod hx k).symm⟩
theorem About.sub (A : About f l) (hx : x ∈ l) {z : Nat} (h : z ∈ cyw f l.length x) : z ∈ l := by
  obtain ⟨k, rfl⟩ := (A.mem hx).mp h
  exact A.it hx k
theorem About.self (A : About f l) (hx : x ∈ l) : x ∈ cyw f l.length x := (A.mem hx).mpr ⟨0, rfl⟩
theorem About.symm (A : About f l) (hx : x ∈ l) {z : Nat} (h : z ∈ cyw f l.length x) : x ∈ cyw f l.length z := by
  obtain ⟨k, rfl⟩ := (A.mem hx).mp h
  obtain ⟨h1, _, h3, _⟩ := A.pero hx
  refine (A.mem (A.it hx k)).mpr ⟨per f l.length x * k - k, ?_⟩
  rw [← itr_add]
  have e : per f l.length x * k - k + k = per f l.length x * k := by
    have : k ≤ per f l.length x * k := Nat.le_mul_of_pos_left k (by omega)
    omega
  rw [e, A.mod hx, Nat.mul_mod_right]
  rfl
theorem About.trans (A : About f l) (hx : x ∈ l) {z w : Nat} (h : z ∈ cyw f l.length x) (g : w ∈ cyw f l.length z) : w ∈ cyw f l.length x := by
  obtain ⟨k, rfl⟩ := (A.mem hx).mp h
  obtain ⟨j, rfl⟩ := (A.mem (A.it hx k)).mp g
  exact (A.mem hx).mpr ⟨j + k, (itr_add f k j x).symm⟩
theorem About.same (A : About f l) (hx : x ∈ l) {z : Nat} (h : z ∈ cyw f l.length x) (w : Nat) : w ∈ cyw f l.length z ↔ w ∈ cyw f l.length x :=
  ⟨fun g => A.trans hx h g, fun g => A.trans (A.sub hx h) (A.symm hx h) g⟩
theorem About.nodup (A : About f l) (hx : x ∈ l) : (cyw f l.length x).Nodup := by
  unfold cyw
  obtain ⟨_, _, _, h4⟩ := A.pero hx
  rw [List.nodup_iff_pairwise_ne, List.pairwise_map]
  refine List.Pairwise.imp_of_mem ?_ List.pairwise_lt_range
  intro a b ha hb hab e
  have := List.mem_range.mp hb
  exact h4 (b - a) (by omega) (by omega) (A.back hx hab e)
theorem cyw_len (f : Nat → Nat) (n x : Nat) : (cyw f n x).length = per f n x := by unfold cyw; simp
/-- from another of its letters the cycle is it begun there -/
theorem About.rt (A : About f l) (hx : x ∈ l) {z : Nat} (h : z ∈ cyw f l.length x) : Rt (cyw f l.length x) (cyw f l.length z) := by
  unfold cyw at h
  obtain ⟨k, hk, rfl⟩ := List.mem_map.mp h
  have hk := List.mem_range.mp hk
  have hz := A.it hx k
  obtain ⟨p1, p2, p3, p4⟩ := A.pero hx
  obtain ⟨q1, q2, q3, q4⟩ := A.pero hz
  have e : per f l.length (itr f k x) = per f l.length x := by
    have h1 : itr f (per f l.length x) (itr f k x) = itr f k x := by
      rw [← itr_add, Nat.add_comm, itr_add, p3]
    have h2 : itr f (per f l.length (itr f k x)) x = x := by
      have h := q3
      rw [← itr_add, Nat.add_comm, itr_add] at h
      exact A.itinj (A.it hx _) hx k h
    have g1 : ¬ per f l.length x < per f l.length (itr f k x) := fun c => q4 _ p1 c h1
    have g2 : ¬ per f l.length (itr f k x) < per f l.length x := fun c => p4 _ q1 c h2
    omega
  refine ⟨k, by rw [cyw_len]; omega, ?_⟩
  unfold cyw
  rw [e]
  generalize per f l.length x = p at hk p3
  apply List.ext_getElem?
  intro i
  unfold rot
  by_cases hi : i < p - k
  · rw [List.getElem?_append_left (by simp; omega), List.getElem?_drop, List.getElem?_map, List.getElem?_map, List.getElem?_range (by omega), List.getElem?_range (by omega)]
    show some (itr f i (itr f k x)) = some (itr f (k + i) x)
    rw [← itr_add, Nat.add_comm]
  · rw [List.getElem?_append_right (by simp; omega), List.length_drop, List.length_map, List.length_range]
    by_cases hp : i < p
    · rw [List.getElem?_take_of_lt (by omega), List.getElem?_map, List.getElem?_map, List.getElem?_range (by omega), List.getElem?_range (by omega)]
      show some (itr f i (itr f k x)) = some (itr f (i - (p - k)) x)
      rw [← itr_add]
      have e2 : i + k = (i - (p - k)) + p := by omega
      rw [e2, itr_add, p3]
    · rw [List.getElem?_eq_none (by simp; omega), List.getElem?_eq_none (by simp; omega)]
end
/-- one of each cycle, by the order of a list -/
def reps (g : Nat → List Nat) : List Nat → List Nat
  | [] => []
  | x :: l => x :: reps g (l.filter fun z => !decide (z ∈ g x))
termination_by l => l.length
decreasing_by
  simp only [List.length_unattach, List.length_cons]
  exact Nat.lt_succ_of_le (Nat.le_trans (List.length_filter_le _ _) (by rw [List.length_attach]; exact Nat.le_refl _))
theorem mff {p : Nat → Bool} {l : List Nat} {z : Nat} (h : z ∈ l.filter p) : z ∈ l := (List.mem_filter.mp h).1
theorem reps_nil (g : Nat → List Nat) : reps g [] = [] := by rw [reps]
theorem reps_cons (g : Nat → List Nat) (x : Nat) (l : List Nat) : reps g (x :: l) = x :: reps g (l.filter fun z => !decide (z ∈ g x)) := by rw [reps]
theorem filt_comm (p q : Nat → Bool) (l : List Nat) : (l.filter p).filter q = (l.filter q).filter p := by
  rw [List.filter_filter, List.filter_filter]
  apply List.filter_congr
  intro x _
  exact Bool.and_comm _ _
theorem reps_mem (g : Nat → List Nat) {z : Nat} : ∀ {l : List Nat}, z ∈ reps g l → z ∈ l := by
  intro l
  generalize hn : l.length = n
  induction n using Nat.strongRecOn generalizing l with
  | _ n ih =>
    cases l with
    | nil => rw [reps_nil]; exact id
    | cons x l =>
      rw [reps_cons]
      intro h
      rcases List.mem_cons.mp h with e | h
      · simp [e]
      · exact List.mem_cons_of_mem _ (mff (ih _ (by simp at hn; have := List.length_filter_le (fun z => !decide (z ∈ g x)) l; omega) rfl h))
/-- g tells classes of what is in S -/
structure Cls (S : List Nat) (g : Nat → List Nat) : Prop where
  self : ∀ x ∈ S, x ∈ g x
  symm : ∀ x ∈ S, ∀ z ∈ g x, x ∈ g z
  sub : ∀ x ∈ S, ∀ z ∈ g x, z ∈ S
  same : ∀ x ∈ S, ∀ z ∈ g x, ∀ w, w ∈ g z ↔ w ∈ g x
theorem reps_take {β : Type} {S : List Nat} {g : Nat → List Nat} (G : Cls S g) {h : Nat → β} (hh : ∀ x ∈ S, ∀ z ∈ g x, h z = h x) : ∀ {l : List Nat} {x : Nat}, (∀ z ∈ l, z ∈ S) → x ∈ l →
    ((reps g l).map h).Perm (h x :: (reps g (l.filter fun z => !decide (z ∈ g x))).map h) := by
  intro l
  generalize hn : l.length = n
  induction n using Nat.strongRecOn generalizing l with
  | _ n ih =>
    intro x hl hx
    cases l with
    | nil => cases hx
    | cons y l =>
      have hy := hl y (by simp)
      have hxS := hl x hx
      rw [reps_cons, List.map_cons]
      by_cases c : y ∈ g x
      · rw [List.filter_cons_of_neg (by simp [c]), hh x hxS y c]
        have e : (l.filter fun z => !decide (z ∈ g y)) = l.filter fun z => !decide (z ∈ g x) := by
          apply List.filter_congr
          intro z _
          rw [Bool.eq_iff_iff]
          simp [G.same x hxS y c z]
        rw [e]
      · have hxl : x ∈ l := by
          rcases List.mem_cons.mp hx with e | e
          · subst e; exact absurd (G.self _ hy) c
          · exact e
        have cx : x ∉ g y := fun q => c (G.symm y hy x q)
        rw [List.filter_cons_of_pos (by simp [c]), reps_cons, List.map_cons, filt_comm]
        have hlen := List.length_filter_le (fun z => !decide (z ∈ g y)) l
        have := ih _ (by simp at hn; omega) (l := l.filter fun z => !decide (z ∈ g y)) rfl (x := x) (fun z hz => hl z (List.mem_cons_of_mem _ (mff hz))) (List.mem_filter.mpr ⟨hxl, by simp [cx]⟩)
        exact (this.cons (h y)).trans (.swap ..)
theorem reps_perm {β : Type} {S : List Nat} {g : Nat → List Nat} (G : Cls S g) {h : Nat → β} (hh : ∀ x ∈ S, ∀ z ∈ g x, h z = h x) : ∀ {l m : List Nat}, (∀ z ∈ l, z ∈ S) → l.Perm m → ((reps g l).map h).Perm ((reps g m).map h) := by
  intro l
  generalize hn : l.length = n
  induction n using Nat.strongRecOn generalizing l with
  | _ n ih =>
    intro m hl p
    cases l with
    | nil => rw [List.perm_nil.mp p.symm]
    | cons x l =>
      have hx : x ∈ m := p.mem_iff.mp (by simp)
      refine List.Perm.trans ?_ (reps_take G hh (fun z hz => hl z (p.mem_iff.mpr hz)) hx).symm
      rw [reps_cons, List.map_cons]
      refine List.Perm.cons _ (ih _ (by simp at hn; have := List.length_filter_le (fun z => !decide (z ∈ g x)) l; omega) rfl (fun z hz => hl z (List.mem_cons_of_mem _ (mff hz))) ?_)
      have := p.filter fun z => !decide (z ∈ g x)
      rw [List.filter_cons_of_neg (by simp [G.self x (hl x (by simp))])] at this
      exact this
/-- one by one, what is in a word told already left out -/
def told (g : Nat → List Nat) : List Nat → List Nat → List Nat
  | _, [] => []
  | W, x :: l => if x ∈ W then told g W l else x :: told g (W ++ g x) l
theorem told_reps (g : Nat → List Nat) : ∀ (l W : List Nat), told g W l = reps g (l.filter fun z => !decide (z ∈ W))
  | [], W => by rw [List.filter_nil, reps_nil]; rfl
  | x :: l, W => by
    unfold told
    by_cases h : x ∈ W
    · rw [if_pos h, List.filter_cons_of_neg (by simp [h]), told_reps g l W]
    · rw [if_neg h, List.filter_cons_of_pos (by simp [h]), reps_cons, told_reps g l (W ++ g x), List.filter_filter]
      congr 2
      apply List.filter_congr
      intro z _
      rw [Bool.eq_iff_iff]
      simp
      exact And.comm
set_option maxRecDepth 100000
set_option maxHeartbeats 1000000
def nxt (y : List Nat) (i : Nat) : Nat := y.getD ((i + 1) % y.length) 0
def gs (y : List Nat) (c : Nat) : Nat := nxt y (ixOf (con c) y)
def rimW (y : List Nat) (x : Nat) : List Nat := cyw (gs y) y.length x
def rimsL (y : List Nat) : List (List Nat) := srt ((reps (rimW y) y).map fun x => ringL (rimW y x))
section
variable {y : List Nat}
theorem nxt_get (h : 0 < y.length) (i : Nat) : y[(i + 1) % y.length]? = some (nxt y i) := by
  have hl : (i + 1) % y.length < y.length := Nat.mod_lt _ h
  unfold nxt
  rw [List.getElem?_eq_getElem hl, List.getD_eq_getElem?_getD, List.getElem?_eq_getElem hl]
  rfl
theorem nxt_mem (h : 0 < y.length) (i : Nat) : nxt y i ∈ y := List.mem_of_getElem? (nxt_get h i)
theorem succ_mod {n i : Nat} (h : i < n) : (i + 1) % n = if i + 1 = n then 0 else i + 1 := by
  split
  · rename_i e; rw [e, Nat.mod_self]
  · exact Nat.mod_eq_of_lt (by omega)
theorem nxt_inj (hn : y.Nodup) {i j : Nat} (hi : i < y.length) (hj : j < y.length) (h : nxt y i = nxt y j) : i = j := by
  have e1 := nxt_get (y := y) (by omega) i
  have e2 := nxt_get (y := y) (by omega) j
  rw [h, ← e2] at e1
  have := (List.getElem?_inj (Nat.mod_lt _ (by omega)) hn).mp e1
  rw [succ_mod hi, succ_mod hj] at this
  split at this <;> split at this <;> omega
theorem ix_get (hn : y.Nodup) {i c : Nat} (h : y[i]? = some c) : ixOf c y = i := by
  have hm := List.mem_of_getElem? h
  have h1 := (ixOf_spec hm).1
  rw [← h] at h1
  exact (List.getElem?_inj (ixOf_lt hm) hn).mp h1
variable (hy : YardOk y) (h2 : 2 ≤ y.length)
include hy h2
theorem gs_about : About (gs y) y := by
  refine ⟨fun x _ => nxt_mem (by omega) _, fun a ha b hb h => ?_⟩
  have ca := hy.con_ a ha
  have cb := hy.con_ b hb
  have := ixOf_inj ca cb (nxt_inj hy.nd (ixOf_lt ca) (ixOf_lt cb) h)
  exact con_inj (hy.let_ a ha) (hy.let_ b hb) this
theorem gs_ne {a : Nat} (ha : a ∈ y) : gs y a ≠ con a := by
  have ca := hy.con_ a ha
  intro e
  have h1 := nxt_get (y := y) (by omega) (ixOf (con a) y)
  have e : nxt y (ixOf (con a) y) = con a := e
  rw [e] at h1
  have := ix_get hy.nd h1
  rw [succ_mod (ixOf_lt ca)] at this
  have := ixOf_lt ca
  split at * <;> omega
theorem rim_cls : Cls y (rimW y) :=
  have A := gs_about hy h2
  ⟨fun x hx => A.self hx, fun x hx z hz => A.symm hx hz, fun x hx z hz => A.sub hx hz, fun x hx z hz w => A.same hx hz w⟩
theorem rim_sub {x : Nat} (hx : x ∈ y) : ∀ z ∈ rimW y x, z ∈ y := fun z hz => (gs_about hy h2).sub hx hz
theorem rim_W {x : Nat} (hx : x ∈ y) : IsW (rimW y x) := fun z hz => hy.let_ z (rim_sub hy h2 hx z hz)
theorem rim_len {x : Nat} (hx : x ∈ y) : 1 ≤ (rimW y x).length ∧ (rimW y x).length ≤ y.length := by
  unfold rimW
  rw [cyw_len]
  obtain ⟨a, b, _, _⟩ := (gs_about hy h2).pero hx
  exact ⟨a, b⟩
theorem rim_core {x : Nat} (hx : x ∈ y) : ring (rimW y x) = ringL (rimW y x) := by
  obtain ⟨p1, p2, p3, p4⟩ := (gs_about hy h2).pero hx
  have A := gs_about hy h2
  have hna : NoAdj (rimW y x) := noadj_of fun k a b ha hb e => by
    unfold rimW cyw at ha hb
    rw [List.getElem?_map] at ha hb
    have k1 : k + 1 < per (gs y) y.length x := by
      apply Classical.byContradiction
      intro z
      rw [List.getElem?_eq_none (by simp; omega)] at hb
      cases hb
    rw [List.getElem?_range (by omega)] at ha
    rw [List.getElem?_range k1] at hb
    cases ha
    cases hb
    have hm := A.it hx k
    have h := gs_ne hy h2 hm
    apply h
    show itr (gs y) (k + 1) x = con (itr (gs y) k x)
    have e : itr (gs y) k x = con (itr (gs y) (k + 1) x) := e
    rw [e, con_con (hy.let_ _ (A.it hx (k + 1)))]
  unfold ring
  rw [red_noadj hna, cyc_stop fun a b ha hb _ e => ?_]
  unfold rimW cyw at ha hb
  have ea : a = x := by
    cases hp : per (gs y) y.length x with
    | zero => omega
    | succ p =>
      rw [hp, List.range_succ_eq_map] at ha
      simp only [List.map_cons, List.head?_cons, Option.some.injEq] at ha
      exact ha.symm
  have eb : b = itr (gs y) (per (gs y) y.length x - 1) x := by
    rw [List.getLast?_eq_getElem?, List.getElem?_map, List.length_map, List.length_range, List.getElem?_range (by omega)] at hb
    cases hb
    rfl
  have hm := A.it hx (per (gs y) y.length x - 1)
  have h := gs_ne hy h2 hm
  rw [← eb] at h
  apply h
  rw [← e, ea]
  have : itr (gs y) (per (gs y) y.length x - 1 + 1) x = x := by
    rw [show per (gs y) y.length x - 1 + 1 = per (gs y) y.length x by omega]; exact p3
  rw [eb]
  exact this
theorem rim_same {x : Nat} (hx : x ∈ y) {z : Nat} (hz : z ∈ rimW y x) : ringL (rimW y z) = ringL (rimW y x) := (ringL_same ((gs_about hy h2).rt hx hz)).symm
theorem rims_of {l : List Nat} (p : l.Perm y) : srt ((reps (rimW y) l).map fun x => ringL (rimW y x)) = rimsL y :=
  srt_eq (reps_perm (rim_cls hy h2) (h := fun x => ringL (rimW y x)) (fun x hx z hz => rim_same hy h2 hx hz) (fun z hz => p.mem_iff.mp hz) p)
theorem rim_next {x z : Nat} (hx : x ∈ y) : (z ∈ rimW y x) ↔ ∃ e ∈ rimW y x, gs y e = z := by
  have A := gs_about hy h2
  obtain ⟨p1, p2, p3, p4⟩ := A.pero hx
  constructor
  · intro h
    obtain ⟨k, rfl⟩ := (A.mem hx).mp h
    refine ⟨itr (gs y) (k + per (gs y) y.length x - 1) x, (A.mem hx).mpr ⟨_, rfl⟩, ?_⟩
    show itr (gs y) (k + per (gs y) y.length x - 1 + 1) x = _
    rw [show k + per (gs y) y.length x - 1 + 1 = k + per (gs y) y.length x by omega, itr_add, p3]
  · rintro ⟨e, he, rfl⟩
    obtain ⟨k, rfl⟩ := (A.mem hx).mp he
    exact (A.mem hx).mpr ⟨k + 1, rfl⟩
end
theorem reps_len (g : Nat → List Nat) (l : List Nat) : (reps g l).length ≤ l.length := by
  generalize hn : l.length = n
  induction n using Nat.strongRecOn generalizing l with
  | _ n ih =>
    cases l with
    | nil => rw [reps_nil]; simp
    | cons x l =>
      rw [reps_cons]
      have h1 := List.length_filter_le (fun z => !decide (z ∈ g x)) l
      simp at hn
      have := ih _ (by omega) (l.filter fun z => !decide (z ∈ g x)) rfl
      simp
      omega
theorem rimsL_len (y : List Nat) : (rimsL y).length ≤ y.length := by
  unfold rimsL
  rw [srt_len, List.length_map]
  exact reps_len _ _
theorem rimsL_mem {y w : List Nat} (hy : YardOk y) (h2 : 2 ≤ y.length) (h : w ∈ rimsL y) : IsW w ∧ w.length ≤ y.length := by
  unfold rimsL at h
  obtain ⟨x, hx, rfl⟩ := List.mem_map.mp (srt_mem.mp h)
  have hx := reps_mem _ hx
  refine ⟨ringL_W (rim_W hy h2 hx), ?_⟩
  rw [ringL_len]
  exact (rim_len hy h2 hx).2
theorem emod_nat (a b : Nat) : ((a : Int) + 1) % (b : Int) = (((a + 1) % b : Nat) : Int) := by
  rw [Int.natCast_emod]; rfl
def m_rim_from : PM := fun ds st Q => match ds with
  | [.str y, .int at_] => YardOk y ∧ 2 ≤ y.length ∧ y.length ≤ 64 ∧ 0 ≤ at_ ∧ at_ < y.length ∧ Q (.d (.str (rimW y (nxt y at_.toNat)))) st
  | _ => False
theorem e_rimf {y : List Nat} {at_ : Int} {s Q} : m_rim_from [.str y, .int at_] s Q = (YardOk y ∧ 2 ≤ y.length ∧ y.length ≤ 64 ∧ 0 ≤ at_ ∧ at_ < y.length ∧ Q (.d (.str (rimW y (nxt y at_.toNat)))) s) := rfl
def t_rim_from : PTS := sSeq (sAsg 2 (tD (.str []))) (sSeq (sAsg 3 (tName 1)) (sSeq (sWhile (tOr (tB (t2 (tName 2) (tD (.str [])) pEq)) (tB (t2 (tName 3) (tName 1) pNe))) (sSeq (sAsg 4 (t2 (tName 0) (t2 (t2 (tName 3) (tD (.int 1)) pAdd) (tCallP pLen (rCons (tName 0) (rNil))) pMod) pIx)) (sSeq (sAsg 2 (t2 (tName 2) (tName 4) pAdd)) (sAsg 3 (tMeth "str" pIndexS (tName 0) (rCons (tCall0 m_contrary (tCons (tName 4) (tNil))) (rNil))))))) (sRet (tName 2))))
abbrev N_rim_from : List Str := ["yard", "at", "found", "here", "end"]
theorem len_rim_from (ds : List D) (s : Sto) (Q : C → Sto → Prop) (h : m_rim_from ds s Q) : ds.length = 2 := by
  unfold m_rim_from at h
  split at h
  · rfl
  · exact h.elim
def hereN (y : List Nat) (i x : Nat) : Nat → Nat
  | 0 => i
  | j + 1 => ixOf (con (itr (gs y) j x)) y
def endC (y : List Nat) (x : Nat) : Nat → C
  | 0 => .un
  | j + 1 => .d (.str [itr (gs y) j x])
theorem p_rim_from (ds : List D) (s : Sto) (Q : C → Sto → Prop) (h : m_rim_from ds s Q) : t_rim_from noX { nx := fun e => Q (.d .non) e.st, rt := fun c e => Q c e.st } ⟨startC N_rim_from ds, s⟩ := by
  unfold m_rim_from at h
  split at h
  · rename_i y at_
    obtain ⟨hy, h2, hl, a0, a1, q⟩ := h
    obtain ⟨i, rfl⟩ : ∃ i : Nat, at_ = (i : Int) := ⟨at_.toNat, by omega⟩
    rw [Int.toNat_natCast] at q
    have hi : i < y.length := by omega
    have A := gs_about hy h2
    have hx := nxt_mem (y := y) (by omega) i
    obtain ⟨p1, p2, p3, p4⟩ := A.pero hx
    unfold t_rim_from
    simpa?! only []
    have hr : ∀ j, nxt y (hereN y i (nxt y i) j) = itr (gs y) j (nxt y i) := fun j => by cases j <;> rfl
    have hrl : ∀ j, hereN y i (nxt y i) j < y.length := fun j => by
      cases j with
      | zero => exact hi
      | succ j => exact ixOf_lt (hy.con_ _ (A.it hx j))
    refine wh_on (fun j : Nat => ⟨[.d (.str y), .d (.int (i : Nat)), .d (.str ((List.range j).map fun k => itr (gs y) k (nxt y i))), .d (.int (hereN y i (nxt y i) j : Nat)), endC y (nxt y i) j], s⟩) (fun j => j ≤ per (gs y) y.length (nxt y i)) (fun j => per (gs y) y.length (nxt y i) - j) 0 rfl (Nat.zero_le _) ?_
    intro j hj N hN
    have body : j < per (gs y) y.length (nxt y i) → (sSeq (sAsg 4 (t2 (tName 0) (t2 (t2 (tName 3) (tD (.int 1)) pAdd) (tCallP pLen (rCons (tName 0) (rNil))) pMod) pIx)) (sSeq (sAsg 2 (t2 (tName 2) (tName 4) pAdd)) (sAsg 3 (tMeth "str" pIndexS (tName 0) (rCons (tCall0 m_contrary (tCons (tName 4) (tNil))) (rNil)))))) noX { nx := N, rt := fun c e => Q c e.st, ct := N, bk := (sRet (tName 2)) noX { nx := fun e => Q (.d .non) e.st, rt := fun c e => Q c e.st } } ⟨[.d (.str y), .d (.int (i : Nat)), .d (.str ((List.range j).map fun k => itr (gs y) k (nxt y i))), .d (.int (hereN y i (nxt y i) j : Nat)), endC y (nxt y i) j], s⟩ := by
      intro hlt
      simpa?! only []
      refine ⟨by omega, ?_⟩
      rw [emod_nat]
      refine opt_of (atI_nat (nxt_get (by omega) _)) ?_
      rw [hr]
      simpa?! only [e_contrary]
      have hm := A.it hx j
      refine ⟨by rw [List.length_map, List.length_range]; omega, hy.let_ _ hm, hy.con_ _ hm, ?_⟩
      have := hN (j + 1) (by omega) (by omega)
      have e : (List.range (j + 1)).map (fun k => itr (gs y) k (nxt y i)) = (List.range j).map (fun k => itr (gs y) k (nxt y i)) ++ [itr (gs y) j (nxt y i)] := by
        rw [List.range_succ, List.map_append]; rfl
      rw [e] at this
      exact this
    simpa?! only []
    by_cases j0 : j = 0
    · subst j0
      refine br_pos (by simp) ?_
      exact body (by omega)
    · refine br_neg (by simp; omega) ?_
      simpa?! only []
      by_cases je : j = per (gs y) y.length (nxt y i)
      · have e : hereN y i (nxt y i) j = i := nxt_inj hy.nd (hrl j) hi (by rw [hr, je, p3])
        refine br_neg (by rw [e]; simp) ?_
        simpa?! only []
        subst je
        exact q
      · have e : hereN y i (nxt y i) j ≠ i := fun z => p4 j (by omega) (by omega) (by rw [← hr, z])
        refine br_pos (by simp; omega) ?_
        exact body (by omega)
  · exact h.elim
set_option maxRecDepth 100000
set_option maxHeartbeats 1000000
theorem getK_map (k j : Key) (d : D) : ∀ kvs : List (Key × D), getK (kvs.map fun kv => if kv.1 = k then (kv.1, d) else kv) j = (getK kvs j).map fun x => if j = k then d else x
  | [] => rfl
  | (a, x) :: r => by
    have ih := getK_map k j d r
    unfold getK at ih ⊢
    rw [List.map_cons, List.find?_cons, List.find?_cons]
    by_cases h1 : a = k
    · rw [if_pos h1]
      by_cases h2 : a = j
      · simp [h2.symm.trans h1, h2]
      · simp only [h2, decide_false]; exact ih
    · rw [if_neg h1]
      by_cases h2 : a = j
      · have : ¬ j = k := fun z => h1 (h2.trans z)
        simp [h2, this]
      · simp only [h2, decide_false]; exact ih
theorem getK_snoc (k j : Key) (d : D) : ∀ kvs : List (Key × D), getK (kvs ++ [(k, d)]) j = match getK kvs j with | some x => some x | none => if j = k then some d else none
  | [] => by
    unfold getK
    rw [List.nil_append, List.find?_cons]
    by_cases h : k = j
    · simp [h]
    · have : ¬ j = k := fun z => h z.symm
      simp [h, this]
  | (a, x) :: r => by
    have ih := getK_snoc k j d r
    unfold getK at ih ⊢
    rw [List.cons_append, List.find?_cons, List.find?_cons]
    by_cases h2 : a = j
    · simp [h2]
    · simp only [h2, decide_false]; exact ih
theorem anyK (k : Key) : ∀ kvs : List (Key × D), (kvs.any fun kv => decide (kv.1 = k)) = (getK kvs k).isSome
  | [] => rfl
  | (a, x) :: r => by
    have ih := anyK k r
    unfold getK at ih ⊢
    rw [List.any_cons, List.find?_cons]
    by_cases h : a = k
    · simp [h]
    · simp only [h, decide_false, Bool.false_or]; exact ih
theorem getK_set (kvs : List (Key × D)) (k j : Key) (d : D) : getK (setK kvs k d) j = if j = k then some d else getK kvs j := by
  unfold setK
  rw [anyK]
  cases h : getK kvs k with
  | some x =>
    rw [if_pos (by rfl), getK_map]
    by_cases e : j = k
    · rw [e, h]; simp
    · rw [if_neg e]
      cases getK kvs j with
      | none => rfl
      | some y => simp [e]
  | none =>
    rw [if_neg (by simp), getK_snoc]
    by_cases e : j = k
    · subst e; rw [h]
    · rw [if_neg e, if_neg e]
      cases getK kvs j <;> rfl
theorem setK_len (kvs : List (Key × D)) (k : Key) (d : D) : (setK kvs k d).length ≤ kvs.length + 1 := by
  unfold setK
  split
  · simp
  · simp
theorem told_snoc (g : Nat → List Nat) (x : Nat) : ∀ (l W : List Nat), told g W (l ++ [x]) = told g W l ++ if x ∈ W ++ (told g W l).flatMap g then [] else [x]
  | [], W => by
    show (if x ∈ W then told g W [] else x :: told g (W ++ g x) []) = _
    by_cases h : x ∈ W
    · simp [told, h]
    · simp [told, h]
  | a :: l, W => by
    show (if a ∈ W then told g W (l ++ [x]) else a :: told g (W ++ g a) (l ++ [x])) = (if a ∈ W then told g W l else a :: told g (W ++ g a) l) ++ _
    by_cases h : a ∈ W
    · have e : told g W (a :: l) = told g W l := by rw [told, if_pos h]
      rw [if_pos h, if_pos h, told_snoc g x l W, e]
    · rw [if_neg h, if_neg h, told_snoc g x l (W ++ g a)]
      have e : told g W (a :: l) = a :: told g (W ++ g a) l := by rw [told, if_neg h]
      rw [e, List.flatMap_cons, List.append_assoc, List.cons_append]
/-- the letters behind the places, place by place -/
def nxts (y : List Nat) : List Nat := (List.range y.length).map (nxt y)
theorem nxts_perm {y : List Nat} (hy : YardOk y) (h2 : 2 ≤ y.length) : (nxts y).Perm y := by
  refine perm_nd ?_ hy.nd fun c => ?_
  · unfold nxts
    rw [List.nodup_iff_pairwise_ne, List.pairwise_map]
    refine List.Pairwise.imp_of_mem ?_ List.pairwise_lt_range
    intro a b ha hb hab e
    have := nxt_inj hy.nd (List.mem_range.mp ha) (List.mem_range.mp hb) e
    omega
  · unfold nxts
    constructor
    · intro h
      obtain ⟨i, _, rfl⟩ := List.mem_map.mp h
      exact nxt_mem (by omega) i
    · intro h
      have hi := ixOf_lt h
      have hg := (ixOf_spec h).1
      by_cases z : ixOf c y = 0
      · refine List.mem_map.mpr ⟨y.length - 1, List.mem_range.mpr (by omega), ?_⟩
        have := nxt_get (y := y) (by omega) (y.length - 1)
        rw [show y.length - 1 + 1 = y.length by omega, Nat.mod_self, ← z, hg] at this
        exact (Option.some.inj this).symm
      · refine List.mem_map.mpr ⟨ixOf c y - 1, List.mem_range.mpr (by omega), ?_⟩
        have := nxt_get (y := y) (by omega) (ixOf c y - 1)
        rw [show ixOf c y - 1 + 1 = ixOf c y by omega, Nat.mod_eq_of_lt hi, hg] at this
        exact (Option.some.inj this).symm
def m_rims : PM := fun ds st Q => match ds with
  | [.str y] => YardOk y ∧ 2 ≤ y.length ∧ y.length ≤ 16 ∧ Q (.own ((rimsL y).map D.str)) st
  | _ => False
theorem e_rims {y s Q} : m_rims [.str y] s Q = (YardOk y ∧ 2 ≤ y.length ∧ y.length ≤ 16 ∧ Q (.own ((rimsL y).map D.str)) s) := rfl
def t_rims : PTS := sSeq (sAsg 1 (tLst (tNil))) (sSeq (sAsg 2 (tDict0)) (sSeq (sFor (iPure pRng1 (rCons (tCallP pLen (rCons (tName 0) (rNil))) (rNil))) (gName 3) (sIf (tB (tDI true (tName 3) (tName 2))) (sSeq (sAsg 4 (tCall0 m_rim_from (tCons (tName 0) (tCons (tName 3) (tNil))))) (sSeq (sFor (iAny (tName 4)) (gName 5) (sDPt (tD (.bl true)) (tName 2) (tMeth "str" pIndexS (tName 0) (rCons (tCall0 m_contrary (tCons (tName 5) (tNil))) (rNil))))) (sDrop (tMut mAppend (tName 1) (tCons (tCall0 m_ring (tCons (tName 4) (tNil))) (tNil)))))) (sNext))) (sRet (tCallP pSortT (rCons (tName 1) (rNil))))))
abbrev N_rims : List Str := ["yard", "found", "met", "at", "word", "end"]
theorem len_rims (ds : List D) (s : Sto) (Q : C → Sto → Prop) (h : m_rims ds s Q) : ds.length = 1 := by
  unfold m_rims at h
  split at h
  · rfl
  · exact h.elim
theorem told_len (g : Nat → List Nat) : ∀ (l W : List Nat), (told g W l).length ≤ l.length
  | [], _ => Nat.le_refl _
  | x :: l, W => by
    unfold told
    split
    · have := told_len g l W; simp; omega
    · have := told_len g l (W ++ g x); simp; omega
theorem p_rims (ds : List D) (s : Sto) (Q : C → Sto → Prop) (h : m_rims ds s Q) : t_rims noX { nx := fun e => Q (.d .non) e.st, rt := fun c e => Q c e.st } ⟨startC N_rims ds, s⟩ := by
  unfold m_rims at h
  split at h
  · rename_i y
    obtain ⟨hy, h2, hl, q⟩ := h
    have A := gs_about hy h2
    unfold t_rims
    simpa?! only []
    refine ⟨⟨by omega, by omega⟩, ?_⟩
    refine forH_rng 0 _ (fun j e => ∃ (kvs : List (Key × D)) (c3 c4 c5 : C), e = ⟨[.d (.str y), .own ((told (rimW y) [] ((nxts y).take j)).map fun x => .str (ringL (rimW y x))), .dK kvs, c3, c4, c5], s⟩ ∧
      kvs.length ≤ 16 * j ∧ ∀ p, p < y.length → ((getK kvs (kI (p : Nat))).isSome = true ↔ nxt y p ∈ (told (rimW y) [] ((nxts y).take j)).flatMap (rimW y))) ⟨[], .un, .un, .un, by simp [told], by simp, by simp [told, getK]⟩ ?_ ?_
    · rintro e ⟨kvs, c3, c4, c5, rfl, h3, h4⟩
      simpa?! only []
      have e1 : (nxts y).take (Int.toNat (y.length : Nat)) = nxts y := by
        rw [Int.toNat_natCast]
        exact List.take_of_length_le (by unfold nxts; simp)
      rw [e1, told_reps]
      have e2 : (nxts y).filter (fun z => !decide (z ∈ ([] : List Nat))) = nxts y := List.filter_eq_self.mpr fun z _ => by simp
      rw [e2]
      refine sort_ok (r := (reps (rimW y) (nxts y)).map fun x => ringL (rimW y x)) (by rw [List.map_map]; rfl) ?_ ?_
      · rw [List.length_map]
        have := reps_len (rimW y) (nxts y)
        have : (nxts y).length = y.length := by unfold nxts; simp
        omega
      · rw [rims_of hy h2 (nxts_perm hy h2)]
        simpa?! only []
        exact q
    · rintro j e hj ⟨kvs, c3, c4, c5, rfl, h3, h4⟩ N hN
      have hj : j < y.length := by omega
      have hx := nxt_mem (y := y) (by omega) j
      have et : (nxts y).take (j + 1) = (nxts y).take j ++ [nxt y j] := by
        rw [List.take_succ]
        unfold nxts
        rw [List.getElem?_map, List.getElem?_range hj]
        rfl
      have ts := told_snoc (rimW y) (nxt y j) ((nxts y).take j) []
      rw [← et, List.nil_append] at ts
      have tl := told_len (rimW y) ((nxts y).take j) []
      rw [List.length_take] at tl
      have hpj := h4 j hj
      generalize told (rimW y) [] ((nxts y).take j) = T at h4 ts tl hpj
      simpa?! only []
      have ej : (0 : Int) + (j : Nat) = (j : Nat) := by omega
      rw [ej]
      by_cases c : nxt y j ∈ T.flatMap (rimW y)
      · rw [if_pos c, List.append_nil] at ts
        refine br_neg (by simp [hpj.mpr c]) ?_
        simpa?! only []
        exact hN _ ⟨kvs, _, _, _, by rw [ts], by omega, by rw [ts]; exact h4⟩
      · rw [if_neg c] at ts
        have cn : (getK kvs (kI (j : Nat))).isSome = false := by
          cases z : (getK kvs (kI (j : Nat))).isSome with
          | false => rfl
          | true => exact absurd (hpj.mp z) c
        refine br_pos (by simp [cn]) ?_
        simpa?! only [e_rimf]
        refine ⟨hy, h2, by omega, by omega, by omega, ?_⟩
        rw [Int.toNat_natCast]
        have rl := rim_len hy h2 hx
        have rs := rim_sub hy h2 hx
        have rn := fun z => rim_next hy h2 (z := z) hx
        have rW := rim_W hy h2 hx
        have rc := rim_core hy h2 hx
        refine forH_signs (rimW y (nxt y j)) (fun pre suf e => ∃ (kvs : List (Key × D)) (c5 : C), e = ⟨[.d (.str y), .own (T.map fun x => .str (ringL (rimW y x))), .dK kvs, .d (.int (j : Nat)), .d (.str (rimW y (nxt y j))), c5], s⟩ ∧
          kvs.length ≤ 16 * j + pre.length ∧ ∀ p, p < y.length → ((getK kvs (kI (p : Nat))).isSome = true ↔ nxt y p ∈ T.flatMap (rimW y) ∨ ∃ e ∈ pre, gs y e = nxt y p)) ⟨kvs, _, rfl, by simpa using h3, fun p hp => by rw [h4 p hp]; simp⟩ ?_ ?_
        · rintro e ⟨kvs, c5, rfl, g3, g4⟩
          simpa?! only [e_ring]
          refine ⟨rW, by omega, by rw [List.length_map]; omega, ?_⟩
          rw [rc]
          refine hN _ ⟨kvs, .d (.int (j : Nat)), .d (.str (rimW y (nxt y j))), c5, ?_, by omega, fun p hp => ?_⟩
          · rw [ts, List.map_append]
            rfl
          · rw [g4 p hp, ts, List.flatMap_append, List.mem_append]
            simp only [List.flatMap_cons, List.flatMap_nil, List.append_nil]
            rw [rn]
        · rintro pre c suf e hp ⟨kvs, c5, rfl, g3, g4⟩ M hM
          have hc : c ∈ rimW y (nxt y j) := by rw [← hp]; simp
          have hcy := rs c hc
          have hcc := hy.con_ c hcy
          have pl : pre.length < (rimW y (nxt y j)).length := by rw [← hp]; simp
          simpa?! only [e_contrary]
          refine ⟨hy.let_ c hcy, hcc, by omega, ?_⟩
          refine hM _ ⟨_, _, rfl, ?_, fun p hpp => ?_⟩
          · have := setK_len kvs (kI (ixOf (con c) y : Nat)) (.bl true)
            simp
            omega
          · rw [getK_set]
            by_cases e : p = ixOf (con c) y
            · rw [if_pos (by rw [e])]
              simp only [Option.isSome_some, true_iff]
              exact .inr ⟨c, by simp, by rw [e]; rfl⟩
            · rw [if_neg (by rw [kI_eq]; omega), g4 p hpp]
              constructor
              · rintro (h | ⟨e', he, h⟩)
                · exact .inl h
                · exact .inr ⟨e', by simp [he], h⟩
              · rintro (h | ⟨e', he, h⟩)
                · exact .inl h
                · rcases List.mem_append.mp he with he | he
                  · exact .inr ⟨e', he, h⟩
                  · have he : e' = c := by simpa using he
                    subst he
                    exact absurd (nxt_inj hy.nd (ixOf_lt hcc) hpp (show nxt y (ixOf (con e') y) = _ from h)).symm e
  · exact h.elim
def hands (y : List Nat) : Int := ((y.length : Int) / 2 + 1 - (rimsL y).length) / 2
def m_handles : PM := fun ds st Q => match ds with
  | [.str y] => YardOk y ∧ 2 ≤ y.length ∧ y.length ≤ 16 ∧ Q (.d (.int (hands y))) st
  | _ => False
theorem e_handles {y s Q} : m_handles [.str y] s Q = (YardOk y ∧ 2 ≤ y.length ∧ y.length ≤ 16 ∧ Q (.d (.int (hands y))) s) := rfl
def t_handles : PTS := sRet (t2 (t2 (t2 (t2 (tCallP pLen (rCons (tName 0) (rNil))) (tD (.int 2)) pFdiv) (tD (.int 1)) pAdd) (tCallP pLen (rCons (tCall0 m_rims (tCons (tName 0) (tNil))) (rNil))) pSub) (tD (.int 2)) pFdiv)
abbrev N_handles : List Str := ["yard"]
theorem len_handles (ds : List D) (s : Sto) (Q : C → Sto → Prop) (h : m_handles ds s Q) : ds.length = 1 := by
  unfold m_handles at h
  split at h
  · rfl
  · exact h.elim
theorem p_handles (ds : List D) (s : Sto) (Q : C → Sto → Prop) (h : m_handles ds s Q) : t_handles noX { nx := fun e => Q (.d .non) e.st, rt := fun c e => Q c e.st } ⟨startC N_handles ds, s⟩ := by
  unfold m_handles at h
  split at h
  · rename_i y
    obtain ⟨hy, h2, hl, q⟩ := h
    unfold t_handles
    simpa?! only [e_rims]
    have cd : ∀ i : Int, CDivW i 2 := fun i => ⟨by omega, by decide⟩
    refine ⟨cd _, hy, h2, hl, cd _, ?_⟩
    rw [List.length_map]
    exact q
  · exact h.elim
set_option maxRecDepth 100000
set_option maxHeartbeats 1000000
set_option maxRecDepth 100000
set_option maxHeartbeats 1000000
set_option maxRecDepth 100000
set_option maxHeartbeats 1000000
def two : List Int := [-1, 1]
set_option maxRecDepth 100000
set_option maxHeartbeats 1000000
set_option maxRecDepth 100000
set_option maxHeartbeats 1000000
set_option maxRecDepth 100000
set_option maxHeartbeats 1000000
set_option maxRecDepth 100000
set_option maxHeartbeats 1000000
set_option maxRecDepth 100000
set_option maxHeartbeats 1000000
set_option maxRecDepth 100000
set_option maxHeartbeats 1000000
theorem turn_snoc (v : List Nat) (c : Nat) : turn (v ++ [c]) = con c :: turn v := by rw [turn_app]; rfl
theorem turn_get {v : List Nat} {k : Nat} (hk : k < v.length) : (turn v)[k]? = (v[v.length - 1 - k]?).map con := by
  unfold turn
  rw [List.getElem?_reverse (by simpa using hk), List.length_map, List.getElem?_map]
theorem noadj_turn {v : List Nat} (hv : IsW v) (h : NoAdj v) : NoAdj (turn v) := by
  refine noadj_of fun k x y hx hy => ?_
  have hk : k + 1 < v.length := by
    have := (List.getElem?_eq_some_iff.mp hy).1
    rwa [turn_len] at this
  rw [turn_get (by omega)] at hx hy
  obtain ⟨a, ha, rfl⟩ := Option.map_eq_some_iff.mp hx
  obtain ⟨b, hb, rfl⟩ := Option.map_eq_some_iff.mp hy
  have e : v.length - 1 - (k + 1) + 1 = v.length - 1 - k := by omega
  have g := noadj_get h (v.length - 1 - (k + 1)) b a hb (by rw [e]; exact ha)
  have hbl := hv b (List.mem_of_getElem? hb)
  intro z
  rw [con_con hbl] at z
  exact g z.symm
theorem red_turn' : ∀ w, IsW w → red (turn w) = red (turn (red w)) := by
  refine snoc_ind (fun _ => rfl) fun v c ih hv => ?_
  have hvv : IsW v := fun d hd => hv d (by simp [hd])
  have hc : IsL c := hv c (by simp)
  have ih := ih hvv
  have hs := redR_nil_W hvv
  have step : red (turn (v ++ [c])) = red (con c :: turn (red v)) := by
    rw [turn_snoc]
    have h1 := red_right (u := [con c]) (v := turn v) (turn_W hvv)
    have h2 := red_right (u := [con c]) (v := turn (red v)) (turn_W (red_W hvv))
    rw [ih, h2] at h1
    exact h1.symm
  rw [step]
  have e0 : red v = (redR [] v).reverse := rfl
  have e1 : red (v ++ [c]) = (rpush (redR [] v) c).reverse := by unfold red; rw [redR_snoc]
  rw [e0, e1]
  cases e : redR [] v with
  | nil => rfl
  | cons x s =>
    rw [e] at hs
    have hx : IsL x := hs x (by simp)
    by_cases hxc : x = con c
    · have e2 : rpush (x :: s) c = s := by unfold rpush; simp only; rw [if_pos hxc]
      rw [e2, List.reverse_cons, turn_snoc]
      exact red_pair (u := []) (con_L hc) (con_L hx) (by rw [hxc, con_con hc])
    · have e2 : rpush (x :: s) c = c :: x :: s := by unfold rpush; simp only; rw [if_neg hxc]
      rw [e2, List.reverse_cons (a := c), turn_snoc]
theorem red_turn {w : List Nat} (h : IsW w) : red (turn w) = turn (red w) := by
  rw [red_turn' w h, red_noadj (noadj_turn (red_W h) (red_noadj' h))]
theorem head_turn {v : List Nat} : (turn v).head? = v.getLast?.map con := by unfold turn; rw [List.head?_reverse, List.getLast?_map]
theorem last_turn {v : List Nat} : (turn v).getLast? = v.head?.map con := by unfold turn; rw [List.getLast?_reverse, List.head?_map]
theorem inner_turn (v : List Nat) : (turn v).tail.dropLast = turn v.tail.dropLast := by
  unfold turn
  rw [List.tail_reverse, List.dropLast_reverse, List.map_dropLast, List.map_tail]
  rw [List.tail_dropLast]
theorem cyc_turn {v : List Nat} (h : IsW v) : cyc (turn v) = turn (cyc v) := by
  generalize hn : v.length = n
  induction n using Nat.strongRecOn generalizing v with
  | _ n ih =>
    by_cases h1 : 1 < v.length
    · obtain ⟨a, b, ha, hb, ma, mb⟩ := ends_of (v := v) (by omega)
      have hal := h a ma
      have hbl := h b mb
      have ha' : (turn v).head? = some (con b) := by rw [head_turn, hb]; rfl
      have hb' : (turn v).getLast? = some (con a) := by rw [last_turn, ha]; rfl
      by_cases e : a = con b
      · rw [cyc_in h1 ha hb e, cyc_in (by rw [turn_len]; exact h1) ha' hb' (by rw [con_con hal, e]), inner_turn]
        exact ih _ (by simp; omega) (inner_W h) rfl
      · rw [cyc_out ha hb e, cyc_out ha' hb' (by rw [con_con hal]; exact fun z => e z.symm)]
    · rw [cyc_one h1, cyc_one (by rw [turn_len]; exact h1)]
theorem core_turn {w : List Nat} (h : IsW w) : core (turn w) = turn (core w) := by
  unfold core
  rw [red_turn h, cyc_turn (red_W h)]
theorem core_idem {w : List Nat} (h : IsW w) : core (core w) = core w := cyc_red_cyc h
theorem core_Wc {w : List Nat} (h : IsW w) : IsW (core w) := core_W h
theorem rt_ring (w : List Nat) : Rt (core w) (ring w) := by
  rw [ring_core]
  by_cases e : core w = []
  · rw [e]; exact .of_eq rfl
  · obtain ⟨k, hk, hr⟩ := ringL_rot e
    rw [hr]
    exact Rt.rot_ (by omega)
theorem ring_of_core {w : List Nat} (h : IsW w) : ring (core w) = ring w := by rw [ring_core, core_idem h, ← ring_core]
theorem ring_ring {w : List Nat} (h : IsW w) : ring (ring w) = ring w := by
  rw [← ring_rot (core_Wc h) (rt_ring w), ring_of_core h]
theorem Rt.turn {a b : List Nat} (h : Rt a b) : Rt (turn a) (turn b) := by
  obtain ⟨u, v, rfl, rfl⟩ := h.split
  rw [turn_app, turn_app]
  exact Rt.app _ _
theorem ring_turn_core {w : List Nat} (h : IsW w) : ring (turn (core w)) = ring (turn w) := by
  rw [ring_core, ring_core, core_turn (core_Wc h), core_idem h, core_turn h]
theorem ring_turn_ring {w : List Nat} (h : IsW w) : ring (turn (ring w)) = ring (turn w) := by
  rw [← ring_rot (turn_W (core_Wc h)) (rt_ring w).turn, ring_turn_core h]
def minT (x y : List Nat) : List Nat := if y < x then y else x
theorem loop_min (w : List Nat) : loop w = minT (ring w) (ring (turn w)) := rfl
theorem loop_ring {w : List Nat} (h : IsW w) : loop (ring w) = loop w := by
  rw [loop_min, loop_min, ring_ring h, ring_turn_ring h]
set_option maxRecDepth 100000
set_option maxHeartbeats 1000000
set_option maxRecDepth 100000
set_option maxHeartbeats 1000000
theorem rootK_eq {l : List Nat} {k : Nat} (hl : l ≠ []) (h1 : 1 ≤ k) (h2 : k ≤ l.length) (h3 : rot l k = l) (h4 : ∀ j, 1 ≤ j → j < k → rot l j ≠ l) : rootK l = k := by
  obtain ⟨g1, g2, g3, g4, _⟩ := rootK_spec hl
  rcases Nat.lt_trichotomy (rootK l) k with h | h | h
  · exact absurd g3 (h4 _ g1 h)
  · exact h
  · exact absurd h3 (g4 k h1 h)
set_option maxRecDepth 100000
set_option maxHeartbeats 1000000
/-- a drawing of words in a yard -/
structure Dr (y : List Nat) (ws : List (List Nat)) (os : List (List Sd)) : Prop where
  yd : YardOk y
  few : y.length ≤ 16
  ws1 : ws.length ≤ 64
  ws2 : (ws.map List.length).sum ≤ 64
  lets : ∀ w ∈ ws, ∀ c ∈ w, c ∈ y
  ord : OrdOk ws (bandW y) os
theorem Dr.ok {y : List Nat} {ws : List (List Nat)} {os : List (List Sd)} (h : Dr y ws os) : DrOk y os := drOk_of h.yd h.few h.ws1 h.ws2 h.ord
set_option maxRecDepth 100000
set_option maxHeartbeats 1000000
def lr (w : List Nat) (i : Int) : Nat := w.getD (i % (w.length : Int)).toNat 0
theorem lr_get {w : List Nat} (h : w ≠ []) (i : Int) : w[(i % (w.length : Int)).toNat]? = some (lr w i) ∧ (i % (w.length : Int)).toNat < w.length := by
  have hp : 0 < w.length := List.length_pos_iff.mpr h
  have h1 : 0 ≤ i % (w.length : Int) := Int.emod_nonneg _ (by omega)
  have h2 : i % (w.length : Int) < w.length := Int.emod_lt_of_pos _ (by omega)
  have h3 : (i % (w.length : Int)).toNat < w.length := by omega
  refine ⟨?_, h3⟩
  unfold lr
  rw [List.getD_eq_getElem?_getD, List.getElem?_eq_getElem h3]
  rfl
theorem lr_mem {w : List Nat} (h : w ≠ []) (i : Int) : lr w i ∈ w := List.mem_of_getElem? (lr_get h i).1
theorem lr_nat {w : List Nat} {k c : Nat} (h : w[k]? = some c) : lr w k = c := by
  have hk := (List.getElem?_eq_some_iff.mp h).1
  unfold lr
  rw [Int.emod_eq_of_lt (by omega) (by omega), Int.toNat_natCast, List.getD_eq_getElem?_getD, h]
  rfl
theorem lr_add (w : List Nat) (i : Int) : lr w (i + w.length) = lr w i := by unfold lr; rw [Int.add_emod_right]
theorem lr_mod (w : List Nat) (i : Int) : lr w (i % (w.length : Int)) = lr w i := by unfold lr; rw [Int.emod_emod_of_dvd _ (Int.dvd_refl _)]
/-- a shortest word of a yard -/
structure CrW (y w : List Nat) : Prop where
  ne : w ≠ []
  mem : ∀ c ∈ w, c ∈ y
  cr : ∀ i : Int, lr w (i + 1) ≠ con (lr w i)
theorem CrW.at {y w : List Nat} (h : CrW y w) (i : Int) : lr w i ∈ y := h.mem _ (lr_mem h.ne i)
theorem CrW.cr' {y w : List Nat} (h : CrW y w) (i : Int) : lr w i ≠ con (lr w (i - 1)) := by
  have := h.cr (i - 1)
  rw [Int.sub_add_cancel] at this
  exact this
theorem crW_of {y w : List Nat} (h0 : w ≠ []) (hm : ∀ c ∈ w, c ∈ y) (ha : ∀ k a b, w[k]? = some a → w[k + 1]? = some b → b ≠ con a) (he : ∀ a b, w[0]? = some a → w[w.length - 1]? = some b → a ≠ con b) : CrW y w := by
  refine ⟨h0, hm, fun i => ?_⟩
  have hp : 0 < w.length := List.length_pos_iff.mpr h0
  obtain ⟨g1, g2⟩ := lr_get h0 i
  have e := lr_mod w (i + 1)
  have e2 : (i + 1) % (w.length : Int) = ((i % (w.length : Int)).toNat + 1 : Int) % (w.length : Int) := by
    have h1 : 0 ≤ i % (w.length : Int) := Int.emod_nonneg _ (by omega)
    rw [Int.toNat_of_nonneg h1, Int.emod_add_emod]
  rw [e2, lr_mod] at e
  generalize (i % (w.length : Int)).toNat = k at *
  by_cases hk : k + 1 < w.length
  · have g3 : w[k + 1]? = some w[k + 1] := List.getElem?_eq_getElem hk
    have := ha k _ _ g1 g3
    rw [← lr_nat g3] at this
    rw [← e]
    push_cast at this
    exact this
  · have hk : k + 1 = w.length := by omega
    have g3 : w[0]? = some w[0] := List.getElem?_eq_getElem hp
    have g4 : w[w.length - 1]? = some (lr w i) := by rw [← g1]; congr 1; omega
    have := he _ _ g3 g4
    rw [← lr_nat g3] at this
    have e3 : lr w ((k : Int) + 1) = lr w ((0 : Nat) : Int) := by
      have h5 : (k : Int) + 1 = 0 + (w.length : Int) := by omega
      rw [h5, lr_add]
      rfl
    rw [← e, e3]
    exact this
theorem CrW.adj {y w : List Nat} (h : CrW y w) {k a b : Nat} (h1 : w[k]? = some a) (h2 : w[k + 1]? = some b) : b ≠ con a := by
  have := h.cr k
  rw [lr_nat h1] at this
  have e : lr w ((k : Int) + 1) = b := by
    have := lr_nat h2
    push_cast at this
    exact this
  rw [e] at this
  exact this
theorem CrW.ends {y w : List Nat} (h : CrW y w) {a b : Nat} (h1 : w[0]? = some a) (h2 : w[w.length - 1]? = some b) : a ≠ con b := by
  have hp : 0 < w.length := List.length_pos_iff.mpr h.ne
  have := h.cr ((w.length - 1 : Nat) : Int)
  rw [lr_nat h2] at this
  have e : (((w.length - 1 : Nat) : Int) + 1) = 0 + (w.length : Int) := by omega
  rw [e, lr_add] at this
  have e2 : lr w 0 = a := lr_nat h1
  rw [e2] at this
  exact this
theorem lr_rot {w : List Nat} (k : Nat) (hk : k ≤ w.length) (i : Int) : lr (w.drop k ++ w.take k) i = lr w (i + k) := by
  by_cases h0 : w = []
  · subst h0; simp [lr]
  have hp : 0 < w.length := List.length_pos_iff.mpr h0
  have hl : (w.drop k ++ w.take k).length = w.length := by rw [List.length_append, List.length_drop, List.length_take]; omega
  have hn : w.drop k ++ w.take k ≠ [] := fun z => by rw [z] at hl; simp at hl; omega
  obtain ⟨g1, g2⟩ := lr_get hn i
  rw [hl] at g1 g2
  have h1 : 0 ≤ i % (w.length : Int) := Int.emod_nonneg _ (by omega)
  have e2 : lr w (i + k) = lr w (((i % (w.length : Int)).toNat : Int) + k) := by
    rw [Int.toNat_of_nonneg h1, ← lr_mod w (i + k), ← lr_mod w (i % _ + k), Int.emod_add_emod]
  rw [e2]
  generalize (i % (w.length : Int)).toNat = j at *
  by_cases hj : j + k < w.length
  · rw [List.getElem?_append_left (by rw [List.length_drop]; omega), List.getElem?_drop] at g1
    have := lr_nat g1
    rw [← this]
    congr 1
    omega
  · rw [List.getElem?_append_right (by rw [List.length_drop]; omega), List.length_drop, List.getElem?_take] at g1
    split at g1
    · have := lr_nat g1
      rw [← this, ← lr_add w (((j - (w.length - k) : Nat)) : Int)]
      congr 1
      omega
    · cases g1
theorem CrW.rot_ {y w : List Nat} (h : CrW y w) (k : Nat) (hk : k ≤ w.length) : CrW y (w.drop k ++ w.take k) := by
  refine ⟨fun z => h.ne ?_, fun c hc => ?_, fun i => ?_⟩
  · have := congrArg List.length z
    rw [List.length_append, List.length_drop, List.length_take, List.length_nil] at this
    exact List.eq_nil_of_length_eq_zero (by omega)
  · rcases List.mem_append.mp hc with q | q
    · exact h.mem c (List.mem_of_mem_drop q)
    · exact h.mem c (List.mem_of_mem_take q)
  · rw [lr_rot k hk, lr_rot k hk]
    have := h.cr (i + k)
    have e : i + 1 + (k : Int) = i + k + 1 := by omega
    rw [e]
    exact this
theorem lr_turn {w : List Nat} (h0 : w ≠ []) (i : Int) : lr (turn w) i = con (lr w (-1 - i)) := by
  have hp : 0 < w.length := List.length_pos_iff.mpr h0
  have hl : (turn w).length = w.length := turn_len w
  have hn : turn w ≠ [] := fun z => by rw [z] at hl; simp at hl; omega
  obtain ⟨g1, g2⟩ := lr_get hn i
  rw [hl] at g1 g2
  have h1 : 0 ≤ i % (w.length : Int) := Int.emod_nonneg _ (by omega)
  have e2 : lr w (-1 - i) = lr w (-1 - ((i % (w.length : Int)).toNat : Int)) := by
    rw [Int.toNat_of_nonneg h1, ← lr_mod w (-1 - i), ← lr_mod w (-1 - i % _), Int.sub_emod_emod]
  rw [e2]
  generalize (i % (w.length : Int)).toNat = j at *
  unfold turn at g1
  rw [List.getElem?_reverse (by rw [List.length_map]; omega), List.length_map, List.getElem?_map] at g1
  have g3 : w[w.length - 1 - j]? = some w[w.length - 1 - j] := List.getElem?_eq_getElem (by omega)
  rw [g3] at g1
  have g1 := Option.some.inj g1
  show lr (w.map con).reverse i = _
  rw [← g1]
  congr 1
  rw [← lr_nat g3, ← lr_add w (-1 - (j : Int))]
  congr 1
  omega
theorem CrW.turn_ {y w : List Nat} (hy : YardOk y) (h : CrW y w) : CrW y (turn w) := by
  refine ⟨fun z => h.ne ?_, fun c hc => ?_, fun i => ?_⟩
  · have := congrArg List.length z
    rw [turn_len] at this
    exact List.eq_nil_of_length_eq_zero this
  · unfold turn at hc
    obtain ⟨d, hd, rfl⟩ := List.mem_map.mp (List.mem_reverse.mp hc)
    exact hy.con_ d (h.mem d hd)
  · rw [lr_turn h.ne, lr_turn h.ne, con_con (hy.let_ _ (h.at _))]
    intro e
    have := h.cr (-1 - (i + 1))
    have e2 : -1 - (i + 1) + 1 = -1 - i := by omega
    rw [e2] at this
    exact this e.symm
set_option maxRecDepth 100000
set_option maxHeartbeats 1000000
def gr (y : List Nat) (a b c : Nat) : Bool := cyc3 (ixOf a y) (ixOf b y) (ixOf c y)
def agr (f g : Int → Nat) : Nat → Nat → Nat
  | 0, m => m
  | k + 1, m => if f m = g m then agr f g k (m + 1) else m
theorem agr_spec (f g : Int → Nat) : ∀ k m, m ≤ agr f g k m ∧ agr f g k m ≤ m + k ∧ (∀ j : Nat, m ≤ j → j < agr f g k m → f j = g j) ∧ (agr f g k m < m + k → f (agr f g k m : Nat) ≠ g (agr f g k m : Nat))
  | 0, m => ⟨Nat.le_refl _, Nat.le_refl _, fun j h1 h2 => by unfold agr at h2; omega, fun h => by unfold agr at h; omega⟩
  | k + 1, m => by
    unfold agr
    by_cases e : f m = g m
    · rw [if_pos e]
      obtain ⟨h1, h2, h3, h4⟩ := agr_spec f g k (m + 1)
      refine ⟨by omega, by omega, fun j h5 h6 => ?_, fun h5 => h4 (by omega)⟩
      by_cases z : j = m
      · subst z; exact e
      · exact h3 j (by omega) h6
    · rw [if_neg e]
      exact ⟨Nat.le_refl _, by omega, fun j h1 h2 => by omega, fun _ => e⟩
def agree (f g : Int → Nat) (n : Nat) : Nat := agr f g n 0
theorem agree_spec (f g : Int → Nat) (n : Nat) : agree f g n ≤ n ∧ (∀ j : Nat, j < agree f g n → f j = g j) ∧ (agree f g n < n → f (agree f g n : Nat) ≠ g (agree f g n : Nat)) := by
  obtain ⟨_, h2, h3, h4⟩ := agr_spec f g n 0
  refine ⟨by unfold agree; omega, fun j hj => h3 j (by omega) hj, fun h => h4 (by unfold agree at h; omega)⟩
theorem agree_unique {f g : Int → Nat} {n m : Nat} (h1 : m ≤ n) (h2 : ∀ j : Nat, j < m → f j = g j) (h3 : m < n → f (m : Nat) ≠ g (m : Nat)) : agree f g n = m := by
  obtain ⟨g1, g2, g3⟩ := agree_spec f g n
  rcases Nat.lt_trichotomy (agree f g n) m with h | h | h
  · exact absurd (h2 _ h) (g3 (by omega))
  · exact h
  · exact absurd (g2 _ h) (h3 (by omega))
/-- how many letters two lines share from a place on, where they part so that they must meet -/
def mt3 (y : List Nat) (f g : Int → Nat) (n : Nat) : Nat :=
  if agree f g n = 0 ∨ f (-1) = g (-1) then 0
  else agree f g n * (if gr y (con (f (-1))) (con (g (-1))) (f 0) = gr y (f (agree f g n : Nat)) (g (agree f g n : Nat)) (con (f ((agree f g n : Nat) - 1))) then 1 else 0)
def fwd (w : List Nat) (i k : Int) : Nat := lr w (i + k)
def bwd (w : List Nat) (i k : Int) : Nat := con (lr w (i - k))
def along (y w : List Nat) (i : Int) (v : List Nat) (j : Int) : Nat := mt3 y (fwd w i) (fwd v j) (w.length + v.length)
def against (y w : List Nat) (i : Int) (v : List Nat) (j : Int) : Nat := mt3 y (fwd w i) (bwd v j) (w.length + v.length)
def across (y w : List Nat) (i : Int) (v : List Nat) (j : Int) : Bool :=
  if con (lr v (j - 1)) = con (lr w (i - 1)) ∨ con (lr v (j - 1)) = lr w i ∨ lr v j = con (lr w (i - 1)) ∨ lr v j = lr w i ∨ con (lr v (j - 1)) = lr v j then false
  else gr y (con (lr w (i - 1))) (con (lr v (j - 1))) (lr w i) != gr y (con (lr w (i - 1))) (lr v j) (lr w i)
/-- lines that never part share what is ahead, too -/
theorem per_all {f g : Int → Nat} {n k : Nat} (hn : 0 < n) (hk : 0 < k) (hf : ∀ i, f (i + n) = f i) (hg : ∀ i, g (i + k) = g i) (h : ∀ j : Nat, j < n + k → f j = g j) : f (-1) = g (-1) := by
  have h1 := h (n - 1) (by omega)
  have h2 := h (n + k - 1) (by omega)
  have h3 := h (k - 1) (by omega)
  have e1 : f (-1) = f ((n - 1 : Nat) : Int) := by rw [← hf (-1)]; congr 1; omega
  have e2 : g (-1) = g ((k - 1 : Nat) : Int) := by rw [← hg (-1)]; congr 1; omega
  have e3 : f ((n + k - 1 : Nat) : Int) = f ((k - 1 : Nat) : Int) := by rw [← hf ((k - 1 : Nat) : Int)]; congr 1; omega
  have e4 : g ((n + k - 1 : Nat) : Int) = g ((n - 1 : Nat) : Int) := by rw [← hg ((n - 1 : Nat) : Int)]; congr 1; omega
  rw [e1, h1, ← e4, ← h2, e3, h3, ← e2]
theorem fwd_per (w : List Nat) (i k : Int) : fwd w i (k + w.length) = fwd w i k := by
  unfold fwd
  have : i + (k + (w.length : Int)) = i + k + w.length := by omega
  rw [this, lr_add]
theorem bwd_per (w : List Nat) (i k : Int) : bwd w i (k + w.length) = bwd w i k := by
  unfold bwd
  have : i - k = i - (k + (w.length : Int)) + w.length := by omega
  rw [this, lr_add]
theorem never_along {w v : List Nat} (hw : w ≠ []) (hv : v ≠ []) (i j : Int) (h : agree (fwd w i) (fwd v j) (w.length + v.length) = w.length + v.length) : fwd w i (-1) = fwd v j (-1) :=
  per_all (List.length_pos_iff.mpr hw) (List.length_pos_iff.mpr hv) (fwd_per w i) (fwd_per v j) fun k hk => (agree_spec _ _ _).2.1 k (by rw [h]; exact hk)
theorem never_against {w v : List Nat} (hw : w ≠ []) (hv : v ≠ []) (i j : Int) (h : agree (fwd w i) (bwd v j) (w.length + v.length) = w.length + v.length) : fwd w i (-1) = bwd v j (-1) :=
  per_all (List.length_pos_iff.mpr hw) (List.length_pos_iff.mpr hv) (fwd_per w i) (bwd_per v j) fun k hk => (agree_spec _ _ _).2.1 k (by rw [h]; exact hk)
structure WOk (y w : List Nat) : Prop where
  cr : CrW y w
  few : w.length ≤ 64
theorem con_eq {c : Nat} (h : IsL c) {s Q} : m_contrary [.str [c]] s Q = Q (.d (.str [con c])) s := by
  rw [e_contrary]
  exact propext ⟨fun z => z.2, fun z => ⟨h, z⟩⟩
set_option maxRecDepth 100000
set_option maxHeartbeats 1000000
structure YOk (y : List Nat) : Prop where
  yd : YardOk y
  few : y.length ≤ 64
set_option maxRecDepth 100000
set_option maxHeartbeats 1000000
def wAt (ws : List (List Nat)) (c : Nat) : List Nat := ws.getD c []
theorem wAt_some {ws : List (List Nat)} {c : Nat} (h : c < ws.length) : ws[c]? = some (wAt ws c) := by
  unfold wAt
  rw [List.getD_eq_getElem?_getD, List.getElem?_eq_getElem h]
  rfl
theorem wAt_mem {ws : List (List Nat)} {c : Nat} (h : c < ws.length) : wAt ws c ∈ ws := List.mem_of_getElem? (wAt_some h)
set_option maxRecDepth 100000
set_option maxHeartbeats 1000000
abbrev Th := Nat × Nat × Nat × Nat × Nat × List Nat
def thI (t : Th) : List PuE.Itm := [.inl (t.1 : Nat), .inl (t.2.1 : Nat), .inl (t.2.2.1 : Nat), .inl (t.2.2.2.1 : Nat), .inl (t.2.2.2.2.1 : Nat), .inr t.2.2.2.2.2]
abbrev tAc : List Nat := [97, 99, 114, 111, 115, 115]
abbrev tAl : List Nat := [97, 108, 111, 110, 103]
abbrev tAg : List Nat := [97, 103, 97, 105, 110, 115, 116]
def agIn (w v : List Nat) (c i d j ag : Nat) : Bool := decide (0 < ag) && (decide (c < d) || (decide (c = d) && HT.lexLt [(i : Int), (j : Int)] [((j : Int) - ag + 1) % (v.length : Int), ((i : Int) + ag - 1) % (w.length : Int)]))
def thAt (y : List Nat) (ws : List (List Nat)) (c i d j : Nat) : List Th :=
  (if HT.lexLt [(c : Int), (i : Int)] [(d : Int), (j : Int)] = true then (if across y (wAt ws c) i (wAt ws d) j = true then [(c, i, d, j, 0, tAc)] else []) ++ (if 0 < along y (wAt ws c) i (wAt ws d) j then [(c, i, d, j, along y (wAt ws c) i (wAt ws d) j, tAl)] else []) else []) ++
  (if agIn (wAt ws c) (wAt ws d) c i d j (against y (wAt ws c) i (wAt ws d) j) = true then [(c, i, d, j, against y (wAt ws c) i (wAt ws d) j, tAg)] else [])
theorem thAt_len (y : List Nat) (ws : List (List Nat)) (c i d j : Nat) : (thAt y ws c i d j).length ≤ 3 := by
  unfold thAt
  rw [List.length_append]
  have h1 : ∀ (b : Prop) [Decidable b] (t : Th), (if b then [t] else []).length ≤ 1 := fun b _ t => by split <;> simp
  have h2 := h1 (agIn (wAt ws c) (wAt ws d) c i d j (against y (wAt ws c) i (wAt ws d) j) = true) (c, i, d, j, against y (wAt ws c) i (wAt ws d) j, tAg)
  have h3 := h1 (across y (wAt ws c) i (wAt ws d) j = true) (c, i, d, j, 0, tAc)
  have h4 := h1 (0 < along y (wAt ws c) i (wAt ws d) j) (c, i, d, j, along y (wAt ws c) i (wAt ws d) j, tAl)
  split
  · rw [List.length_append]
    omega
  · simp only [List.length_nil]
    omega
structure WsOk (y : List Nat) (ws : List (List Nat)) : Prop where
  yk : YOk y
  wk : ∀ w ∈ ws, WOk y w
  few : ws.length ≤ 64
theorem WsOk.at {y : List Nat} {ws : List (List Nat)} (h : WsOk y ws) {c : Nat} (hc : c < ws.length) : WOk y (wAt ws c) := h.wk _ (wAt_mem hc)
set_option maxRecDepth 100000
set_option maxHeartbeats 1000000
theorem fm_app {α β : Type} (m : List α) (f g : α → List β) : (m.flatMap fun b => f b ++ g b).Perm (m.flatMap f ++ m.flatMap g) := by
  induction m with
  | nil => exact List.Perm.refl _
  | cons a m ih =>
    simp only [List.flatMap_cons]
    have h1 := (ih.append_left (f a ++ g a))
    refine h1.trans ?_
    simp only [List.append_assoc]
    refine List.Perm.append_left _ ?_
    rw [← List.append_assoc, ← List.append_assoc]
    exact List.Perm.append_right _ List.perm_append_comm
theorem fm_len {α β : Type} (l : List α) (f : α → List β) (k : Nat) (h : ∀ a ∈ l, (f a).length ≤ k) : (l.flatMap f).length ≤ l.length * k := by
  induction l with
  | nil => simp
  | cons a l ih =>
    rw [List.flatMap_cons, List.length_append, List.length_cons, Nat.succ_mul]
    have := h a (by simp)
    have := ih fun b hb => h b (by simp [hb])
    omega
def rowJ (y : List Nat) (ws : List (List Nat)) (c i d : Nat) : List Th := (List.range (wAt ws d).length).flatMap (thAt y ws c i d)
def rowI (y : List Nat) (ws : List (List Nat)) (c d : Nat) : List Th := (List.range (wAt ws c).length).flatMap fun i => rowJ y ws c i d
def rowD (y : List Nat) (ws : List (List Nat)) (c : Nat) : List Th := (List.range (ws.length - c)).flatMap fun k => rowI y ws c (c + k)
def allTh (y : List Nat) (ws : List (List Nat)) : List Th := (List.range ws.length).flatMap (rowD y ws)
def plc (ws : List (List Nat)) : List (Nat × Nat) := (List.range ws.length).flatMap fun c => (List.range (wAt ws c).length).map fun i => (c, i)
def lawTh (y : List Nat) (ws : List (List Nat)) : List Th := (plc ws).flatMap fun p => (plc ws).flatMap fun q => thAt y ws p.1 p.2 q.1 q.2
theorem plc_len (ws : List (List Nat)) : (plc ws).length = (ws.map List.length).sum := by
  unfold plc
  rw [List.length_flatMap]
  congr 1
  simp only [List.length_map, List.length_range]
  refine List.ext_getElem (by simp) fun k h1 h2 => ?_
  have hk : k < ws.length := by simpa using h2
  rw [List.getElem_map, List.getElem_map, List.getElem_range]
  congr 1
  have := wAt_some hk
  simpa [List.getElem?_eq_getElem hk] using this.symm
theorem law_len (y : List Nat) (ws : List (List Nat)) : (lawTh y ws).length ≤ (ws.map List.length).sum * ((ws.map List.length).sum * 3) := by
  unfold lawTh
  rw [← plc_len]
  refine fm_len _ _ _ fun p _ => fm_len _ _ _ fun q _ => thAt_len _ _ _ _ _ _
structure WsL (y : List Nat) (ws : List (List Nat)) : Prop where
  ok : WsOk y ws
  tot : (ws.map List.length).sum ≤ 24
theorem WsL.len {y : List Nat} {ws : List (List Nat)} (h : WsL y ws) : (lawTh y ws).length ≤ 1728 :=
  Nat.le_trans (law_len y ws) (Nat.le_trans (Nat.mul_le_mul h.tot (Nat.mul_le_mul_right 3 h.tot)) (by omega))
structure Srt (L : List Th) (qs : List (List PuE.Itm)) : Prop where
  perm : qs.Perm (L.map thI)
  up : qs.Pairwise fun x y => PuE.ltN y x = false
theorem Srt.of {L M : List Th} {qs : List (List PuE.Itm)} (h : Srt L qs) (p : L.Perm M) : Srt M qs := ⟨h.perm.trans (p.map _), h.up⟩
set_option maxRecDepth 100000
set_option maxHeartbeats 1000000
theorem CrW.W {y w : List Nat} (hy : YardOk y) (h : CrW y w) : IsW w := fun c hc => hy.let_ c (h.mem c hc)
theorem CrW.core_ {y w : List Nat} (hy : YardOk y) (h : CrW y w) : core w = w := by
  have hW := h.W hy
  have hn : NoAdj w := noadj_of fun k a b h1 h2 e => by
    have ha := hW a (List.mem_of_getElem? h1)
    have hb := hW b (List.mem_of_getElem? h2)
    exact h.adj h1 h2 (by rw [e, con_con hb])
  unfold core
  rw [red_noadj hn]
  refine cyc_stop fun a b h1 h2 h3 => ?_
  rw [List.head?_eq_getElem?] at h1
  rw [List.getLast?_eq_getElem?] at h2
  exact h.ends h1 h2
theorem CrW.ring_ {y w : List Nat} (hy : YardOk y) (h : CrW y w) : ring w = ringL w := by rw [ring_core, h.core_ hy]
/-- how often a word goes round its root -/
def tm (w : List Nat) : Nat := w.length / rootK w
/-- the least number of meetings -/
def lst (y : List Nat) (ws : List (List Nat)) : Int := ((allTh y ws).length : Nat) + (ws.map fun w => ((tm w : Nat) : Int) - 1).sum
/-- how many forced meetings are between two -/
def btw (y v w : List Nat) : Nat := (rowI y [v, w] 0 1).length
theorem gr_swap {y : List Nat} {a b c : Nat} (ha : a ∈ y) (hb : b ∈ y) (hc : c ∈ y) (h1 : a ≠ b) (h2 : b ≠ c) (h3 : a ≠ c) : gr y b a c = !gr y a b c := by
  have i1 : ixOf a y ≠ ixOf b y := fun z => h1 (ixOf_inj ha hb z)
  have i2 : ixOf b y ≠ ixOf c y := fun z => h2 (ixOf_inj hb hc z)
  have i3 : ixOf a y ≠ ixOf c y := fun z => h3 (ixOf_inj ha hc z)
  unfold gr
  rw [← cyc3_turn (ixOf b y) (ixOf a y) (ixOf c y), cyc3_swap i1 i2 i3]
theorem con_inj' {a b : Nat} (ha : IsL a) (hb : IsL b) (h : con a = con b) : a = b := by rw [← con_con ha, ← con_con hb, h]
/-- a line through a yard: no letter behind its contrary -/
structure Wk (y : List Nat) (f : Int → Nat) : Prop where
  yd : YardOk y
  mem : ∀ k, f k ∈ y
  cr : ∀ k, f (k + 1) ≠ con (f k)
theorem Wk.L {y : List Nat} {f : Int → Nat} (h : Wk y f) (k : Int) : IsL (f k) := h.yd.let_ _ (h.mem k)
theorem Wk.cmem {y : List Nat} {f : Int → Nat} (h : Wk y f) (k : Int) : con (f k) ∈ y := h.yd.con_ _ (h.mem k)
theorem Wk.cr' {y : List Nat} {f : Int → Nat} (h : Wk y f) (k : Int) : con (f (k - 1)) ≠ f k := fun e => by
  have := h.cr (k - 1)
  rw [Int.sub_add_cancel] at this
  exact this e.symm
theorem CrW.fwd_ {y w : List Nat} (hy : YardOk y) (h : CrW y w) (i : Int) : Wk y (fwd w i) :=
  ⟨hy, fun k => h.at _, fun k => by unfold fwd; rw [show i + (k + 1) = i + k + 1 from by omega]; exact h.cr _⟩
theorem CrW.bwd_ {y w : List Nat} (hy : YardOk y) (h : CrW y w) (j : Int) : Wk y (bwd w j) :=
  ⟨hy, fun k => hy.con_ _ (h.at _), fun k e => by
    unfold bwd at e
    rw [con_con (hy.let_ _ (h.at _))] at e
    have := h.cr (j - (k + 1))
    rw [show j - (k + 1) + 1 = j - k from by omega] at this
    exact this e.symm⟩
structure Meet (y : List Nat) (f g : Int → Nat) (m : Nat) : Prop where
  pos : 1 ≤ m
  same : ∀ j : Nat, j < m → f j = g j
  ahead : f (m : Nat) ≠ g (m : Nat)
  back : f (-1) ≠ g (-1)
  turn : gr y (con (f (-1))) (con (g (-1))) (f 0) = gr y (f (m : Nat)) (g (m : Nat)) (con (f ((m : Int) - 1)))
theorem meet_of {y : List Nat} {f g : Int → Nat} {n m : Nat} (hn : agree f g n = n → f (-1) = g (-1)) : (mt3 y f g n = m ∧ 0 < m) ↔ Meet y f g m := by
  obtain ⟨a1, a2, a3⟩ := agree_spec f g n
  constructor
  · rintro ⟨e, h0⟩
    unfold mt3 at e
    split at e
    · omega
    · rename_i h
      split at e
      · rename_i ht
        rw [Nat.mul_one] at e
        have hb : f (-1) ≠ g (-1) := fun z => h (.inr z)
        have hlt : agree f g n < n := Nat.lt_of_le_of_ne a1 fun z => hb (hn z)
        rw [e] at a2 a3 hlt ht
        exact ⟨h0, a2, a3 hlt, hb, ht⟩
      · omega
  · intro h
    have hm : m ≤ n := Decidable.byContradiction fun z => by
      refine h.back (hn ?_)
      exact agree_unique (Nat.le_refl _) (fun j hj => h.same j (by omega)) (fun z => absurd z (Nat.lt_irrefl _))
    have e := agree_unique hm h.same fun _ => h.ahead
    refine ⟨?_, h.pos⟩
    unfold mt3
    rw [e, if_neg (by rintro (z | z); exact absurd z (by have := h.pos; omega); exact h.back z), if_pos h.turn, Nat.mul_one]
theorem Meet.symm {y : List Nat} {f g : Int → Nat} {m : Nat} (hf : Wk y f) (hg : Wk y g) (h : Meet y f g m) : Meet y g f m := by
  have s0 : f 0 = g 0 := h.same 0 h.pos
  have s1 : f ((m : Int) - 1) = g ((m : Int) - 1) := by
    have := h.same (m - 1) (by have := h.pos; omega)
    rw [show (((m - 1 : Nat)) : Int) = (m : Int) - 1 from by have := h.pos; omega] at this
    exact this
  refine ⟨h.pos, fun j hj => (h.same j hj).symm, fun z => h.ahead z.symm, fun z => h.back z.symm, ?_⟩
  have fb := hf.cr' 0
  have gb := hg.cr' 0
  have fm := hf.cr' (m : Nat)
  have gm := hg.cr' (m : Nat)
  rw [show (0 : Int) - 1 = -1 from rfl] at fb gb
  rw [gr_swap (hf.cmem _) (hg.cmem _) (hg.mem _) (fun z => h.back (con_inj' (hf.L _) (hg.L _) z)) gb (by rw [← s0]; exact fb)]
  rw [gr_swap (hf.mem _) (hg.mem _) (hg.cmem _) h.ahead (fun z => gm z.symm) (by rw [← s1]; exact fun z => fm z.symm)]
  rw [← s0, ← s1, h.turn]
/-- a line gone the other way, from m on -/
def rv_ (f : Int → Nat) (m : Nat) (k : Int) : Nat := con (f ((m : Int) - 1 - k))
theorem Meet.rev {y : List Nat} {f g : Int → Nat} {m : Nat} (hf : Wk y f) (hg : Wk y g) (h : Meet y f g m) : Meet y (rv_ f m) (rv_ g m) m := by
  refine ⟨h.pos, fun j hj => ?_, fun z => ?_, fun z => ?_, ?_⟩
  · unfold rv_
    rw [show (m : Int) - 1 - (j : Int) = ((m - 1 - j : Nat) : Int) from by omega, h.same _ (by omega)]
  · unfold rv_ at z
    rw [show (m : Int) - 1 - (m : Int) = -1 from by omega] at z
    exact h.back (con_inj' (hf.L _) (hg.L _) z)
  · unfold rv_ at z
    rw [show (m : Int) - 1 - (-1) = (m : Int) from by omega] at z
    exact h.ahead (con_inj' (hf.L _) (hg.L _) z)
  · unfold rv_
    rw [show (m : Int) - 1 - (-1) = (m : Int) from by omega, show (m : Int) - 1 - (m : Int) = -1 from by omega, show (m : Int) - 1 - ((m : Int) - 1) = 0 from by omega, show (m : Int) - 1 - 0 = (m : Int) - 1 from by omega]
    rw [con_con (hf.L _), con_con (hg.L _), con_con (hf.L _), h.turn]
theorem along_iff {y w v : List Nat} (hw : w ≠ []) (hv : v ≠ []) {i j : Int} {m : Nat} : (along y w i v j = m ∧ 0 < m) ↔ Meet y (fwd w i) (fwd v j) m := meet_of (never_along hw hv i j)
theorem against_iff {y w v : List Nat} (hw : w ≠ []) (hv : v ≠ []) {i j : Int} {m : Nat} : (against y w i v j = m ∧ 0 < m) ↔ Meet y (fwd w i) (bwd v j) m := meet_of (never_against hw hv i j)
theorem along_symm {y w v : List Nat} (hy : YardOk y) (hw : CrW y w) (hv : CrW y v) {i j : Int} (h : 0 < along y w i v j) : along y v j w i = along y w i v j := by
  have m := (along_iff hw.ne hv.ne).mp ⟨rfl, h⟩
  exact ((along_iff hv.ne hw.ne).mpr (m.symm (hw.fwd_ hy i) (hv.fwd_ hy j))).1
theorem against_symm {y w v : List Nat} (hy : YardOk y) (hw : CrW y w) (hv : CrW y v) {i j : Int} {m : Nat} (h : against y w i v j = m) (h0 : 0 < m) : against y v (j - m + 1) w (i + m - 1) = m := by
  have M := (against_iff hw.ne hv.ne).mp ⟨h, h0⟩
  have M2 := (M.rev (hw.fwd_ hy i) (hv.bwd_ hy j))
  have e1 : rv_ (fwd w i) m = bwd w (i + m - 1) := by
    funext k
    unfold rv_ fwd bwd
    rw [show i + ((m : Int) - 1 - k) = i + m - 1 - k from by omega]
  have e2 : rv_ (bwd v j) m = fwd v (j - m + 1) := by
    funext k
    unfold rv_ fwd bwd
    rw [con_con (hy.let_ _ (hv.at _)), show j - ((m : Int) - 1 - k) = j - m + 1 + k from by omega]
  rw [e1, e2] at M2
  exact ((against_iff hv.ne hw.ne).mpr (M2.symm (hw.bwd_ hy _) (hv.fwd_ hy _))).1
theorem fwd_mod (w : List Nat) (i : Int) : fwd w (i % (w.length : Int)) = fwd w i := by
  funext k
  unfold fwd lr
  rw [Int.emod_add_emod]
theorem bwd_mod (w : List Nat) (i : Int) : bwd w (i % (w.length : Int)) = bwd w i := by
  funext k
  unfold bwd lr
  rw [Int.emod_sub_emod]
theorem against_mod (y w v : List Nat) (i j : Int) : against y w (i % (w.length : Int)) v (j % (v.length : Int)) = against y w i v j := by
  unfold against
  rw [fwd_mod, bwd_mod]
theorem cross4 {a b p q : Nat} (h1 : a ≠ b) (h2 : a ≠ p) (h3 : a ≠ q) (h4 : b ≠ p) (h5 : b ≠ q) (h6 : p ≠ q) : (cyc3 p a q != cyc3 p b q) = (cyc3 a p b != cyc3 a q b) := by
  have key : ∀ x y z w : Bool, ((x = true ↔ y = true) ↔ (z = true ↔ w = true)) → (x != y) = (z != w) := by decide
  refine key _ _ _ _ ?_
  unfold cyc3
  simp only [decide_eq_true_eq]
  omega
theorem across_symm {y w v : List Nat} (hy : YardOk y) (hw : CrW y w) (hv : CrW y v) (i j : Int) : across y v j w i = across y w i v j := by
  have c1 := hw.cr' i
  have c2 := hv.cr' j
  have m1 := hy.con_ _ (hw.at (i - 1))
  have m2 := hw.at i
  have m3 := hy.con_ _ (hv.at (j - 1))
  have m4 := hv.at j
  unfold across
  generalize con (lr w (i - 1)) = a at *
  generalize lr w i = b at *
  generalize con (lr v (j - 1)) = p at *
  generalize lr v j = q at *
  by_cases h : p = a ∨ p = b ∨ q = a ∨ q = b ∨ p = q
  · rw [if_pos h, if_pos]
    rcases h with h | h | h | h | h
    · exact .inl h.symm
    · exact .inr (.inr (.inl h.symm))
    · exact .inr (.inl h.symm)
    · exact .inr (.inr (.inr (.inl h.symm)))
    · exact absurd h.symm c2
  · rw [if_neg h, if_neg (by rintro (z | z | z | z | z); exact h (.inl z.symm); exact h (.inr (.inr (.inl z.symm))); exact h (.inr (.inl z.symm)); exact h (.inr (.inr (.inr (.inl z.symm)))); exact c1 z.symm)]
    have ne : ∀ {x z : Nat}, x ∈ y → z ∈ y → x ≠ z → ixOf x y ≠ ixOf z y := fun hx hz h e => h (ixOf_inj hx hz e)
    exact cross4 (ne m1 m2 fun z => c1 z.symm) (ne m1 m3 fun z => h (.inl z.symm)) (ne m1 m4 fun z => h (.inr (.inr (.inl z.symm)))) (ne m2 m3 fun z => h (.inr (.inl z.symm))) (ne m2 m4 fun z => h (.inr (.inr (.inr (.inl z.symm))))) (ne m3 m4 fun z => c2 z.symm)
def prs (n m : Nat) : List (Nat × Nat) := (List.range n).flatMap fun i => (List.range m).map fun j => (i, j)
theorem prs_mem {n m : Nat} {p : Nat × Nat} : p ∈ prs n m ↔ p.1 < n ∧ p.2 < m := by
  unfold prs
  simp only [List.mem_flatMap, List.mem_map, List.mem_range]
  constructor
  · rintro ⟨i, hi, j, hj, rfl⟩; exact ⟨hi, hj⟩
  · rintro ⟨h1, h2⟩; exact ⟨p.1, h1, p.2, h2, rfl⟩
theorem prs_nodup (n m : Nat) : (prs n m).Nodup := by
  unfold prs
  rw [List.nodup_iff_pairwise_ne, List.pairwise_flatMap]
  refine ⟨fun i _ => ?_, ?_⟩
  · rw [List.pairwise_map]
    exact (List.nodup_range (n := m)).imp fun h z => h (by injection z)
  · refine (List.nodup_range (n := n)).imp fun {a b} h x hx y hy z => ?_
    obtain ⟨j, _, rfl⟩ := List.mem_map.mp hx
    obtain ⟨k, _, rfl⟩ := List.mem_map.mp hy
    injection z with z1
    exact h z1
theorem nodup_leP {α : Type} [DecidableEq α] : ∀ {a b : List α}, a.Nodup → (∀ x ∈ a, x ∈ b) → a.length ≤ b.length
  | [], _, _, _ => Nat.zero_le _
  | x :: a, b, h, s => by
    rw [List.nodup_cons] at h
    have hx := s x (by simp)
    have := nodup_leP (b := b.erase x) h.2 fun z hz => by
      have ne : z ≠ x := fun e => h.1 (by rw [← e]; exact hz)
      exact (List.mem_erase_of_ne ne).mpr (s z (List.mem_cons_of_mem _ hz))
    rw [List.length_erase_of_mem hx] at this
    have hp := List.length_pos_of_mem hx
    rw [List.length_cons]
    omega
theorem count_le {α β : Type} [DecidableEq β] {A : List α} {B : List β} {p : α → Bool} {q : β → Bool} (F : α → β) (hA : A.Nodup) (h1 : ∀ x ∈ A, p x = true → F x ∈ B ∧ q (F x) = true) (h2 : ∀ x ∈ A, ∀ z ∈ A, p x = true → p z = true → F x = F z → x = z) : (A.filter p).length ≤ (B.filter q).length := by
  have hn : ((A.filter p).map F).Nodup := by
    rw [List.nodup_iff_pairwise_ne, List.pairwise_map]
    have := (hA.filter p)
    refine List.Pairwise.imp_of_mem (fun {a b} ha hb hne e => ?_) this
    exact hne (h2 a (List.mem_filter.mp ha).1 b (List.mem_filter.mp hb).1 (List.mem_filter.mp ha).2 (List.mem_filter.mp hb).2 e)
  have := nodup_leP (b := B.filter q) hn fun x hx => by
    obtain ⟨a, ha, rfl⟩ := List.mem_map.mp hx
    have ha := List.mem_filter.mp ha
    exact List.mem_filter.mpr (h1 a ha.1 ha.2)
  rwa [List.length_map] at this
def acF (y v w : List Nat) (p : Nat × Nat) : Bool := across y v p.1 w p.2
def alF (y v w : List Nat) (p : Nat × Nat) : Bool := decide (0 < along y v p.1 w p.2)
def agF (y v w : List Nat) (p : Nat × Nat) : Bool := decide (0 < against y v p.1 w p.2)
theorem if_len {α β : Type} (l : List α) (p : α → Bool) (f : α → β) : (l.flatMap fun a => if p a = true then [f a] else []).length = (l.filter p).length := by
  induction l with
  | nil => rfl
  | cons a l ih =>
    rw [List.flatMap_cons, List.length_append, ih, List.filter_cons]
    split
    · simp; omega
    · simp
theorem btw_count (y v w : List Nat) : btw y v w = ((prs v.length w.length).filter (acF y v w)).length + ((prs v.length w.length).filter (alF y v w)).length + ((prs v.length w.length).filter (agF y v w)).length := by
  have e1 : btw y v w = ((prs v.length w.length).flatMap fun p => (if acF y v w p = true then [(0, p.1, 1, p.2, 0, tAc)] else []) ++ ((if alF y v w p = true then [(0, p.1, 1, p.2, along y v p.1 w p.2, tAl)] else []) ++ (if agF y v w p = true then [(0, p.1, 1, p.2, against y v p.1 w p.2, tAg)] else []) : List Th)).length := by
    unfold btw rowI rowJ prs
    rw [List.flatMap_assoc]
    congr 2
    funext i
    rw [List.flatMap_map]
    show (List.range w.length).flatMap _ = _
    congr 1
    funext j
    have hl : HT.lexLt [((0 : Nat) : Int), (i : Int)] [((1 : Nat) : Int), (j : Int)] = true := by
      unfold HT.lexLt
      rw [decide_eq_true (by omega)]
      rfl
    unfold thAt agIn acF alF agF
    rw [if_pos hl]
    show _ ++ _ = _
    simp only [wAt, decide_eq_true_eq, Bool.and_eq_true, Bool.or_eq_true, List.append_assoc]
    simp
  rw [e1, (fm_app _ _ _).length_eq, List.length_append, (fm_app _ _ _).length_eq, List.length_append, if_len, if_len, if_len]
  omega
set_option maxRecDepth 100000
set_option maxHeartbeats 1000000
theorem lexLt_one (i j : Nat) : HT.lexLt [(i : Int)] [(j : Int)] = decide (i < j) := by
  unfold HT.lexLt
  by_cases h : i < j
  · rw [decide_eq_true h, decide_eq_true (by omega), if_neg (by omega)]
  · rw [decide_eq_false h, decide_eq_false (by omega)]
    split
    · simp [HT.lexLt]
    · rfl
theorem lexLt_same (c i j : Nat) : HT.lexLt [(c : Int), (i : Int)] [(c : Int), (j : Int)] = decide (i < j) := by
  unfold HT.lexLt
  rw [if_pos rfl, lexLt_one]
theorem if_l {p : Prop} [Decidable p] {α : Type} (a : α) : (if p then [a] else []).length = if p then 1 else 0 := by split <;> rfl
def nAt (y w v : List Nat) (i j : Nat) (lt lt2 : Bool) : Nat :=
  (if lt = true then (if across y w i v j = true then 1 else 0) + (if 0 < along y w i v j then 1 else 0) else 0) + (if (decide (0 < against y w i v j) && lt2) = true then 1 else 0)
theorem thAt_n (y : List Nat) (ws : List (List Nat)) (c i d j : Nat) : (thAt y ws c i d j).length = nAt y (wAt ws c) (wAt ws d) i j (HT.lexLt [(c : Int), (i : Int)] [(d : Int), (j : Int)]) (decide (c < d) || (decide (c = d) && HT.lexLt [(i : Int), (j : Int)] [((j : Int) - against y (wAt ws c) i (wAt ws d) j + 1) % ((wAt ws d).length : Int), ((i : Int) + against y (wAt ws c) i (wAt ws d) j - 1) % ((wAt ws c).length : Int)])) := by
  unfold thAt nAt agIn
  rw [List.length_append, if_l]
  congr 1
  split
  · rw [List.length_append, if_l, if_l]
  · rfl
/-- how many forced meetings a word has with itself -/
def ownN (y w : List Nat) : Nat := (rowI y [w] 0 0).length
theorem flatN {α β γ : Type} {l : List α} {f : α → List β} {g : α → List γ} (h : ∀ a ∈ l, (f a).length = (g a).length) : (l.flatMap f).length = (l.flatMap g).length := by
  rw [List.length_flatMap, List.length_flatMap]
  congr 1
  exact List.map_congr_left h
theorem all_one (y w : List Nat) : (allTh y [w]).length = ownN y w := by
  have e1 : allTh y [w] = rowI y [w] 0 0 := by
    unfold allTh rowD
    simp [List.range_succ]
  rw [e1]
  rfl
theorem lst_one (y w : List Nat) : lst y [w] = (ownN y w : Nat) + (((tm w : Nat) : Int) - 1) := by
  unfold lst
  rw [all_one]
  simp
set_option maxRecDepth 100000
set_option maxHeartbeats 1000000
structure IsRim (z r : List Nat) : Prop where
  ne : r ≠ []
  mem : ∀ c ∈ r, c ∈ z
  nd : r.Nodup
  step : ∀ i : Int, lr r (i + 1) = gs z (lr r i)
theorem IsRim.rot_ {z r : List Nat} (h : IsRim z r) {k : Nat} (hk : k ≤ r.length) : IsRim z (rot r k) := by
  refine ⟨fun e => ?_, fun c hc => ?_, ?_, fun i => ?_⟩
  · have := rot_len r k
    rw [e] at this
    exact h.ne (List.eq_nil_of_length_eq_zero this.symm)
  · rcases List.mem_append.mp hc with q | q
    · exact h.mem c (List.mem_of_mem_drop q)
    · exact h.mem c (List.mem_of_mem_take q)
  · have p : (rot r k).Perm r := by
      unfold rot
      exact List.perm_append_comm.trans (by rw [List.take_append_drop])
    exact p.nodup_iff.mpr h.nd
  · unfold rot
    rw [lr_rot k hk, lr_rot k hk, show i + 1 + (k : Int) = i + k + 1 from by omega]
    exact h.step _
theorem rimW_is {z : List Nat} (hz : YardOk z) (h2 : 2 ≤ z.length) {x : Nat} (hx : x ∈ z) : IsRim z (rimW z x) := by
  have A := gs_about hz h2
  obtain ⟨p1, p2, p3, p4⟩ := A.pero hx
  have hl : (rimW z x).length = per (gs z) z.length x := cyw_len _ _ _
  have get : ∀ k, k < per (gs z) z.length x → lr (rimW z x) (k : Nat) = itr (gs z) k x := fun k hk => lr_nat (by
    unfold rimW cyw
    rw [List.getElem?_map, List.getElem?_range hk]
    rfl)
  have ne : rimW z x ≠ [] := fun e => by rw [e] at hl; simp at hl; omega
  refine ⟨ne, rim_sub hz h2 hx, A.nodup hx, fun i => ?_⟩
  have hp : (0 : Int) < ((rimW z x).length : Nat) := by omega
  obtain ⟨k, hk⟩ := Int.eq_ofNat_of_zero_le (Int.emod_nonneg i (show ((rimW z x).length : Int) ≠ 0 by omega))
  have hk2 := Int.emod_lt_of_pos i hp
  have hk3 : k < per (gs z) z.length x := by omega
  have e1 : lr (rimW z x) i = itr (gs z) k x := by rw [← lr_mod, hk]; exact get k hk3
  have e2 : lr (rimW z x) (i + 1) = lr (rimW z x) ((k + 1 : Nat) : Int) := by
    rw [← lr_mod (rimW z x) (i + 1), ← lr_mod (rimW z x) ((k + 1 : Nat) : Int), ← Int.emod_add_emod, hk]
    rfl
  have e3 : itr (gs z) (k + 1) x = gs z (itr (gs z) k x) := by
    rw [Nat.add_comm, itr_add]
    rfl
  rw [e1, e2, ← e3]
  by_cases q : k + 1 < per (gs z) z.length x
  · exact get (k + 1) q
  · have q : k + 1 = per (gs z) z.length x := by omega
    rw [q, p3, ← hl, show ((rimW z x).length : Int) = 0 + ((rimW z x).length : Int) from by omega, lr_add]
    exact get 0 (by omega)
theorem IsRim.crz {z r : List Nat} (hz : YardOk z) (h : IsRim z r) : CrW z r := by
  have h2 : 2 ≤ z.length := by
    obtain ⟨c, hc⟩ := List.exists_mem_of_ne_nil _ h.ne
    have h1 := h.mem c hc
    have h3 := hz.con_ c h1
    have ne : ixOf c z ≠ ixOf (con c) z := fun e => con_ne (hz.let_ c h1) (ixOf_inj h1 h3 e).symm
    have := ixOf_lt h1
    have := ixOf_lt h3
    omega
  exact ⟨h.ne, h.mem, fun i => by rw [h.step]; exact gs_ne hz h2 (h.mem _ (lr_mem h.ne i))⟩
set_option maxRecDepth 100000
set_option maxHeartbeats 1000000
def rs (f : Int → Nat) : Nat → Nat
  | 0 => 0
  | n + 1 => rs f n + f n
def Prd (n : Nat) (f : Int → Nat) : Prop := ∀ i : Int, f (i + n) = f i
theorem rs_congr {f g : Int → Nat} {n : Nat} (h : ∀ i : Nat, i < n → f i = g i) : rs f n = rs g n := by
  induction n with
  | zero => rfl
  | succ n ih =>
    show rs f n + f n = rs g n + g n
    rw [ih fun i hi => h i (by omega), h n (by omega)]
theorem Prd.mul {n : Nat} {f : Int → Nat} (h : Prd n f) (p : Nat) (i : Int) : f (((p * n : Nat) : Int) + i) = f i := by
  induction p with
  | zero => rw [Nat.zero_mul]; congr 1; omega
  | succ p ih =>
    rw [show (((p + 1) * n : Nat) : Int) + i = (((p * n : Nat) : Int) + i) + (n : Int) from by rw [Nat.add_mul, Nat.one_mul]; omega, h, ih]
/-- both ways -/
def r2 (f : Int → Int → Nat) (n m : Nat) : Nat := rs (fun i => rs (f i) m) n
theorem r2_congr {f g : Int → Int → Nat} {n m : Nat} (h : ∀ i j, f i j = g i j) : r2 f n m = r2 g n m := rs_congr fun i _ => rs_congr fun j _ => h i j
theorem r2_filter (P : Int → Int → Bool) (n m : Nat) : r2 (fun i j => if P i j = true then 1 else 0) n m = ((prs n m).filter fun p => P p.1 p.2).length := by
  have h1 : ∀ (f : Int → Nat) n, rs f n = ((List.range n).map fun k : Nat => f k).sum := fun f n => by
    induction n with
    | zero => rfl
    | succ n ih =>
      rw [List.range_succ, List.map_append, List.sum_append, ← ih]
      simp [rs]
  unfold prs
  rw [List.filter_flatMap, List.length_flatMap]
  unfold r2
  rw [h1]
  congr 1
  refine List.map_congr_left fun i _ => ?_
  rw [h1, List.filter_map, List.length_map]
  induction m with
  | zero => rfl
  | succ m ih =>
    rw [List.range_succ, List.map_append, List.sum_append, ih, List.filter_append, List.length_append]
    congr 1
    simp only [List.map_cons, List.map_nil, List.sum_cons, List.sum_nil, List.filter_cons, List.filter_nil, Function.comp]
    split <;> simp
def acN (y v w : List Nat) (i j : Int) : Nat := if across y v i w j = true then 1 else 0
def alN (y v w : List Nat) (i j : Int) : Nat := if decide (0 < along y v i w j) = true then 1 else 0
def agN (y v w : List Nat) (i j : Int) : Nat := if decide (0 < against y v i w j) = true then 1 else 0
theorem btw_r2 (y v w : List Nat) : btw y v w = r2 (acN y v w) v.length w.length + r2 (alN y v w) v.length w.length + r2 (agN y v w) v.length w.length := by
  rw [btw_count]
  have e1 := r2_filter (fun i j => across y v i w j) v.length w.length
  have e2 := r2_filter (fun i j => decide (0 < along y v i w j)) v.length w.length
  have e3 := r2_filter (fun i j => decide (0 < against y v i w j)) v.length w.length
  have f1 : r2 (acN y v w) v.length w.length = _ := e1
  have f2 : r2 (alN y v w) v.length w.length = _ := e2
  have f3 : r2 (agN y v w) v.length w.length = _ := e3
  rw [f1, f2, f3]
  rfl
theorem pos_meet {y : List Nat} {f g : Int → Nat} {n : Nat} (hn : agree f g n = n → f (-1) = g (-1)) : 0 < mt3 y f g n ↔ ∃ m, Meet y f g m :=
  ⟨fun h => ⟨_, (meet_of hn).mp ⟨rfl, h⟩⟩, fun ⟨m, h⟩ => by
    have := (meet_of hn).mpr h
    omega⟩
theorem alN_iff {y v w : List Nat} (hv : v ≠ []) (hw : w ≠ []) (i j : Int) : (0 < along y v i w j) ↔ ∃ m, Meet y (fwd v i) (fwd w j) m := pos_meet (never_along hv hw i j)
theorem agN_iff {y v w : List Nat} (hv : v ≠ []) (hw : w ≠ []) (i j : Int) : (0 < against y v i w j) ↔ ∃ m, Meet y (fwd v i) (bwd w j) m := pos_meet (never_against hv hw i j)
theorem one_of {p q : Prop} [Decidable p] [Decidable q] (h : p ↔ q) : (if decide p = true then 1 else 0 : Nat) = if decide q = true then 1 else 0 := by
  by_cases hp : p
  · rw [decide_eq_true hp, decide_eq_true (h.mp hp)]
  · rw [decide_eq_false hp, decide_eq_false fun z => hp (h.mpr z)]
set_option maxRecDepth 100000
set_option maxHeartbeats 1000000
theorem turn_ne {v : List Nat} (h : v ≠ []) : turn v ≠ [] := fun e => h (by have := turn_len v; rw [e] at this; exact List.eq_nil_of_length_eq_zero this.symm)
/-- both lines gone the other way -/
def bb (y v w : List Nat) (i j : Int) : Nat := mt3 y (bwd v i) (bwd w j) (v.length + w.length)
theorem across_same (y w : List Nat) (i : Int) : across y w i w i = false := by
  unfold across
  rw [if_pos (.inl rfl)]
theorem along_same (y w : List Nat) (i : Int) : along y w i w i = 0 := by
  unfold along mt3
  rw [if_pos (.inr rfl)]
def fstB (p : Nat × Nat) : Bool := decide (p.1 < p.2)
/-- what holds of pairs either way about, and of none alike, holds half as often of those in order -/
theorem half_count {n : Nat} (P : Nat × Nat → Bool) (h1 : ∀ p, P p = P (p.2, p.1)) (h2 : ∀ i, P (i, i) = false) : ((prs n n).filter P).length = 2 * ((prs n n).filter fun p => P p && fstB p).length := by
  have e1 : ((prs n n).filter P).length = ((prs n n).filter fun p => P p && fstB p).length + ((prs n n).filter fun p => P p && !fstB p).length := by
    generalize prs n n = l
    induction l with
    | nil => rfl
    | cons p l ih =>
      rw [List.filter_cons, List.filter_cons, List.filter_cons]
      cases P p <;> cases fstB p <;> simp <;> omega
  have le : ∀ (P Q : Nat × Nat → Bool), (∀ p, P p = true → Q (p.2, p.1) = true) → ((prs n n).filter P).length ≤ ((prs n n).filter Q).length := fun P Q h =>
    count_le (fun x => (x.2, x.1)) (prs_nodup _ _) (fun x hx hp => ⟨prs_mem.mpr ⟨(prs_mem.mp hx).2, (prs_mem.mp hx).1⟩, h x hp⟩) fun x _ z _ _ _ e => by
      injection e with e1 e2
      exact Prod.ext e2 e1
  have e2 : ((prs n n).filter fun p => P p && !fstB p).length = ((prs n n).filter fun p => P p && fstB p).length := by
    refine Nat.le_antisymm (le _ _ fun p hp => ?_) (le _ _ fun p hp => ?_)
    · rw [Bool.and_eq_true] at hp ⊢
      obtain ⟨a, b⟩ := hp
      refine ⟨by rw [← h1]; exact a, ?_⟩
      unfold fstB at b ⊢
      have b : ¬ p.1 < p.2 := by simpa using b
      refine decide_eq_true ?_
      show p.2 < p.1
      rcases Nat.lt_trichotomy p.1 p.2 with q | q | q
      · exact absurd q b
      · have := h2 p.1
        rw [show ((p.1, p.1) : Nat × Nat) = p from Prod.ext rfl q, a] at this
        cases this
      · exact q
    · rw [Bool.and_eq_true] at hp ⊢
      obtain ⟨a, b⟩ := hp
      refine ⟨by rw [← h1]; exact a, ?_⟩
      unfold fstB at b ⊢
      have b := of_decide_eq_true b
      have : decide (p.2 < p.1) = false := decide_eq_false (by omega)
      show (!decide (p.2 < p.1)) = true
      rw [this]
      rfl
  omega
theorem pal_none {y w : List Nat} (hy : YardOk y) (hw : CrW y w) {i j : Int} {m : Nat} (h : Meet y (fwd w i) (bwd w j) m) (e : (j - i - m + 1) % (w.length : Int) = 0) : False := by
  have hp := List.length_pos_iff.mpr hw.ne
  obtain ⟨c, hc⟩ := Int.dvd_of_emod_eq_zero e
  have lc : ∀ k : Int, lr w (j - k) = lr w (i + m - 1 - k) := fun k => by
    rw [← lr_mod w (j - k), ← lr_mod w (i + m - 1 - k)]
    congr 1
    rw [show j - k = i + m - 1 - k + (w.length : Int) * c from by omega, Int.add_mul_emod_self_left]
  have s : ∀ k : Nat, k < m → lr w (i + k) = con (lr w (i + m - 1 - k)) := fun k hk => by
    have := h.same k hk
    unfold fwd bwd at this
    rw [this, lc]
  have h0 := h.pos
  rcases Nat.mod_two_eq_zero_or_one m with q | q
  · have := s (m / 2 - 1) (by omega)
    rw [show i + (m : Int) - 1 - ((m / 2 - 1 : Nat) : Int) = i + ((m / 2 - 1 : Nat) : Int) + 1 from by omega] at this
    refine hw.cr (i + ((m / 2 - 1 : Nat) : Int)) ?_
    rw [this, con_con (hy.let_ _ (hw.at _))]
  · have := s (m / 2) (by omega)
    rw [show i + (m : Int) - 1 - ((m / 2 : Nat) : Int) = i + ((m / 2 : Nat) : Int) from by omega] at this
    exact con_ne (hy.let_ _ (hw.at _)) this.symm
def lexB (w : List Nat) (m : Nat) (p : Nat × Nat) : Bool := HT.lexLt [(p.1 : Int), (p.2 : Int)] [((p.2 : Int) - m + 1) % (w.length : Int), ((p.1 : Int) + m - 1) % (w.length : Int)]
theorem lexLt_iff (a b c d : Int) : HT.lexLt [a, b] [c, d] = decide (a < c ∨ (a = c ∧ b < d)) := by
  unfold HT.lexLt
  by_cases h : a = c
  · subst h
    rw [if_pos rfl]
    unfold HT.lexLt
    by_cases h2 : b = d
    · subst h2
      rw [if_pos rfl, decide_eq_false (by omega)]
      rfl
    · rw [if_neg h2]
      rw [Bool.eq_iff_iff, decide_eq_true_eq, decide_eq_true_eq]
      omega
  · rw [if_neg h]
    rw [Bool.eq_iff_iff, decide_eq_true_eq, decide_eq_true_eq]
    omega
theorem ag_half {y w : List Nat} (hy : YardOk y) (hw : CrW y w) : ((prs w.length w.length).filter (agF y w w)).length = 2 * ((prs w.length w.length).filter fun p => agF y w w p && lexB w (against y w p.1 w p.2) p).length := by
  have hp := List.length_pos_iff.mpr hw.ne
  have e1 : ((prs w.length w.length).filter (agF y w w)).length = ((prs w.length w.length).filter fun p => agF y w w p && lexB w (against y w p.1 w p.2) p).length + ((prs w.length w.length).filter fun p => agF y w w p && !lexB w (against y w p.1 w p.2) p).length := by
    generalize prs w.length w.length = l
    induction l with
    | nil => rfl
    | cons p l ih =>
      rw [List.filter_cons, List.filter_cons, List.filter_cons]
      cases agF y w w p <;> cases lexB w (against y w p.1 w p.2) p <;> simp <;> omega
  let back : Nat × Nat → Nat × Nat := fun p => ((((p.2 : Int) - against y w p.1 w p.2 + 1) % (w.length : Int)).toNat, (((p.1 : Int) + against y w p.1 w p.2 - 1) % (w.length : Int)).toNat)
  have nn : ∀ z : Int, ((z % (w.length : Int)).toNat : Int) = z % (w.length : Int) := fun z => Int.toNat_of_nonneg (Int.emod_nonneg _ (by omega))
  have hb : ∀ p, agF y w w p = true → against y w (back p).1 w (back p).2 = against y w p.1 w p.2 := fun p h => by
    unfold agF at h
    have h := of_decide_eq_true h
    show against y w ((((p.2 : Int) - against y w p.1 w p.2 + 1) % (w.length : Int)).toNat : Nat) w ((((p.1 : Int) + against y w p.1 w p.2 - 1) % (w.length : Int)).toNat : Nat) = _
    rw [nn, nn, against_mod]
    exact against_symm hy hw hw rfl h
  have bb_ : ∀ p, p ∈ prs w.length w.length → agF y w w p = true → back (back p) = p := fun p hpm h => by
    have e := hb p h
    obtain ⟨h1, h2⟩ := prs_mem.mp hpm
    have b1 : (back (back p)).1 = (((((back p).2 : Nat) : Int) - against y w (back p).1 w (back p).2 + 1) % (w.length : Int)).toNat := rfl
    have b2 : (back (back p)).2 = (((((back p).1 : Nat) : Int) + against y w (back p).1 w (back p).2 - 1) % (w.length : Int)).toNat := rfl
    rw [e] at b1 b2
    have c1 : (((back p).2 : Nat) : Int) = ((p.1 : Int) + against y w p.1 w p.2 - 1) % (w.length : Int) := nn _
    have c2 : (((back p).1 : Nat) : Int) = ((p.2 : Int) - against y w p.1 w p.2 + 1) % (w.length : Int) := nn _
    rw [c1] at b1
    rw [c2] at b2
    generalize against y w p.1 w p.2 = m at *
    have d1 : ((((p.1 : Int) + m - 1) % (w.length : Int)) - m + 1) % (w.length : Int) = p.1 := by
      rw [show (((p.1 : Int) + m - 1) % (w.length : Int)) - m + 1 = (((p.1 : Int) + m - 1) % (w.length : Int)) + (1 - m) from by omega, Int.emod_add_emod, show (p.1 : Int) + m - 1 + (1 - m) = p.1 from by omega]
      exact Int.emod_eq_of_lt (by omega) (by omega)
    have d2 : ((((p.2 : Int) - m + 1) % (w.length : Int)) + m - 1) % (w.length : Int) = p.2 := by
      rw [show (((p.2 : Int) - m + 1) % (w.length : Int)) + m - 1 = (((p.2 : Int) - m + 1) % (w.length : Int)) + (m - 1) from by omega, Int.emod_add_emod, show (p.2 : Int) - m + 1 + (m - 1) = p.2 from by omega]
      exact Int.emod_eq_of_lt (by omega) (by omega)
    rw [d1] at b1
    rw [d2] at b2
    exact Prod.ext (by omega) (by omega)
  have bm : ∀ p, back p ∈ prs w.length w.length := fun p => by
    refine prs_mem.mpr ⟨?_, ?_⟩
    · have := Int.emod_lt_of_pos ((p.2 : Int) - against y w p.1 w p.2 + 1) (show (0 : Int) < w.length by omega)
      have := nn ((p.2 : Int) - against y w p.1 w p.2 + 1)
      show (_ : Int).toNat < _
      omega
    · have := Int.emod_lt_of_pos ((p.1 : Int) + against y w p.1 w p.2 - 1) (show (0 : Int) < w.length by omega)
      have := nn ((p.1 : Int) + against y w p.1 w p.2 - 1)
      show (_ : Int).toNat < _
      omega
  have ne : ∀ p, p ∈ prs w.length w.length → agF y w w p = true → back p ≠ p := fun p hpm h e => by
    obtain ⟨h1, h2⟩ := prs_mem.mp hpm
    unfold agF at h
    have h := of_decide_eq_true h
    have M := (against_iff hw.ne hw.ne).mp ⟨rfl, h⟩
    refine pal_none hy hw M ?_
    have c2 : (((back p).1 : Nat) : Int) = ((p.2 : Int) - against y w p.1 w p.2 + 1) % (w.length : Int) := nn _
    rw [e] at c2
    have : (((p.2 : Int) - against y w p.1 w p.2 + 1) - (p.1 : Int)) % (w.length : Int) = 0 := by
      rw [Int.sub_emod, ← c2]
      simp
    rw [show (p.2 : Int) - p.1 - against y w p.1 w p.2 + 1 = ((p.2 : Int) - against y w p.1 w p.2 + 1) - (p.1 : Int) from by omega]
    exact this
  have lx : ∀ p, p ∈ prs w.length w.length → lexB w (against y w p.1 w p.2) p = decide (p.1 < (back p).1 ∨ (p.1 = (back p).1 ∧ p.2 < (back p).2)) := fun p _ => by
    have c1 : (((back p).2 : Nat) : Int) = ((p.1 : Int) + against y w p.1 w p.2 - 1) % (w.length : Int) := nn _
    have c2 : (((back p).1 : Nat) : Int) = ((p.2 : Int) - against y w p.1 w p.2 + 1) % (w.length : Int) := nn _
    unfold lexB
    rw [lexLt_iff, ← c1, ← c2, Bool.eq_iff_iff, decide_eq_true_eq, decide_eq_true_eq]
    omega
  have flip : ∀ p, p ∈ prs w.length w.length → agF y w w p = true → lexB w (against y w (back p).1 w (back p).2) (back p) = !lexB w (against y w p.1 w p.2) p := fun p hpm h => by
    rw [lx _ hpm, lx _ (bm p), bb_ p hpm h]
    have := ne p hpm h
    have n : ¬ ((back p).1 = p.1 ∧ (back p).2 = p.2) := fun z => this (Prod.ext z.1 z.2)
    rw [Bool.eq_iff_iff]
    simp only [Bool.not_eq_true', decide_eq_true_eq, decide_eq_false_iff_not]
    omega
  have agb : ∀ p, agF y w w p = true → agF y w w (back p) = true := fun p h => by
    have := hb p h
    unfold agF at h ⊢
    rw [this]
    exact h
  have inj : ∀ x ∈ prs w.length w.length, ∀ z ∈ prs w.length w.length, agF y w w x = true → agF y w w z = true → back x = back z → x = z := fun x hx z hz px pz e => by
    rw [← bb_ x hx px, ← bb_ z hz pz, e]
  have e2 : ((prs w.length w.length).filter fun p => agF y w w p && !lexB w (against y w p.1 w p.2) p).length = ((prs w.length w.length).filter fun p => agF y w w p && lexB w (against y w p.1 w p.2) p).length := by
    refine Nat.le_antisymm (count_le back (prs_nodup _ _) (fun x hx h => ⟨bm x, ?_⟩) fun x hx z hz px pz => inj x hx z hz ?_ ?_) (count_le back (prs_nodup _ _) (fun x hx h => ⟨bm x, ?_⟩) fun x hx z hz px pz => inj x hx z hz ?_ ?_)
    · rw [Bool.and_eq_true] at h ⊢
      exact ⟨agb x h.1, by rw [flip x hx h.1]; exact h.2⟩
    · exact (Bool.and_eq_true _ _ ▸ px).1
    · exact (Bool.and_eq_true _ _ ▸ pz).1
    · rw [Bool.and_eq_true] at h ⊢
      exact ⟨agb x h.1, by rw [flip x hx h.1, h.2]; rfl⟩
    · exact (Bool.and_eq_true _ _ ▸ px).1
    · exact (Bool.and_eq_true _ _ ▸ pz).1
  omega
theorem own_count (y w : List Nat) : ownN y w = ((prs w.length w.length).filter fun p => acF y w w p && fstB p).length + ((prs w.length w.length).filter fun p => alF y w w p && fstB p).length + ((prs w.length w.length).filter fun p => agF y w w p && lexB w (against y w p.1 w p.2) p).length := by
  have e1 : ownN y w = ((prs w.length w.length).flatMap fun p => (if (acF y w w p && fstB p) = true then [()] else []) ++ ((if (alF y w w p && fstB p) = true then [()] else []) ++ (if (agF y w w p && lexB w (against y w p.1 w p.2) p) = true then [()] else []))).length := by
    unfold ownN rowI rowJ prs
    rw [List.flatMap_assoc]
    refine flatN fun i _ => ?_
    rw [List.flatMap_map]
    refine flatN fun j _ => ?_
    have e5 : wAt [w] 0 = w := rfl
    rw [thAt_n, lexLt_same, List.length_append, List.length_append, if_l, if_l, if_l, e5]
    unfold nAt acF alF agF fstB lexB
    have e3 : decide (0 < 0) = false := rfl
    have e4 : decide (0 = 0) = true := rfl
    rw [e3, e4, Bool.false_or, Bool.true_and]
    show (if decide (i < j) = true then _ else 0) + (if _ then 1 else 0) = _
    by_cases h : i < j
    · simp only [h, decide_true, if_true, Bool.and_true, decide_eq_true_eq]
      omega
    · simp only [h, decide_false, Bool.and_false]
      simp
  rw [e1, (fm_app _ _ _).length_eq, List.length_append, (fm_app _ _ _).length_eq, List.length_append, if_len, if_len, if_len]
  omega
theorem btw_self {y w : List Nat} (hy : YardOk y) (hw : CrW y w) : btw y w w = 2 * ownN y w := by
  rw [btw_count, own_count, ag_half hy hw]
  rw [half_count (acF y w w) (fun p => by unfold acF; exact (across_symm hy hw hw _ _).symm) (fun i => across_same y w i)]
  rw [half_count (alF y w w) (fun p => by
    unfold alF
    rw [Bool.eq_iff_iff, decide_eq_true_eq, decide_eq_true_eq]
    exact ⟨fun h => by rw [along_symm hy hw hw h]; exact h, fun h => by rw [along_symm hy hw hw h]; exact h⟩) (fun i => by unfold alF; rw [along_same]; rfl)]
  omega
set_option maxRecDepth 100000
set_option maxHeartbeats 1000000
/-- v goes k times along u's cord, either way about -/
structure Tw (y u v : List Nat) (k : Nat) : Prop where
  cr : CrW y v
  len : v.length = k * u.length
  ln : (∃ a : Nat, ∀ i, lr v i = lr u (i + a)) ∨ ∃ a : Nat, ∀ i, lr v i = lr (turn u) (i + a)
theorem Tw.turn_ {y u v : List Nat} {k : Nat} (hy : YardOk y) (hu : CrW y u) (h : Tw y u v k) : Tw y u (turn v) k := by
  have up := List.length_pos_iff.mpr hu.ne
  have nat : ∀ (a : Nat) (f : Int → Nat), Prd u.length f → ∃ b : Nat, ∀ i, f (i - a) = f (i + b) := fun a f hf => ⟨a * u.length - a, fun i => by
    have h1 := hf.mul a (i - a)
    rw [← h1]
    have : a ≤ a * u.length := Nat.le_mul_of_pos_right _ up
    congr 1
    omega⟩
  refine ⟨h.cr.turn_ hy, by rw [turn_len]; exact h.len, ?_⟩
  rcases h.ln with ⟨a, ha⟩ | ⟨a, ha⟩
  · obtain ⟨b, hb⟩ := nat a (lr (turn u)) (fun i => by have := lr_add (turn u) i; rw [turn_len] at this; exact this)
    refine .inr ⟨b, fun i => ?_⟩
    rw [← hb, lr_turn h.cr.ne, ha, lr_turn hu.ne]
    congr 2
    omega
  · obtain ⟨b, hb⟩ := nat a (lr u) (fun i => lr_add u i)
    refine .inl ⟨b, fun i => ?_⟩
    rw [← hb, lr_turn h.cr.ne, ha, lr_turn hu.ne, con_con (hy.let_ _ (hu.at _))]
    congr 1
    omega
set_option maxRecDepth 100000
set_option maxHeartbeats 1000000
structure Iso (y z : List Nat) (φ : Nat → Nat) (fl : Bool) : Prop where
  mem : ∀ c ∈ y, φ c ∈ z
  inj : ∀ a ∈ y, ∀ b ∈ y, φ a = φ b → a = b
  con_ : ∀ c ∈ y, φ (con c) = con (φ c)
  gr_ : ∀ a ∈ y, ∀ b ∈ y, ∀ c ∈ y, a ≠ b → b ≠ c → a ≠ c → gr z (φ a) (φ b) (φ c) = (gr y a b c != fl)
section
variable {y z : List Nat} {φ : Nat → Nat} {fl : Bool}
theorem lr_map (φ : Nat → Nat) {w : List Nat} (h : w ≠ []) (i : Int) : lr (w.map φ) i = φ (lr w i) := by
  obtain ⟨g1, g2⟩ := lr_get h i
  have h2 : w.map φ ≠ [] := fun e => h (List.map_eq_nil_iff.mp e)
  obtain ⟨g3, g4⟩ := lr_get h2 i
  rw [List.length_map, List.getElem?_map, g1] at g3
  exact (Option.some.inj g3).symm
theorem Iso.ne (I : Iso y z φ fl) {a b : Nat} (ha : a ∈ y) (hb : b ∈ y) (h : a ≠ b) : φ a ≠ φ b := fun e => h (I.inj a ha b hb e)
theorem Iso.eq (I : Iso y z φ fl) {a b : Nat} (ha : a ∈ y) (hb : b ∈ y) : (φ a = φ b) = (a = b) := propext ⟨I.inj a ha b hb, fun e => e ▸ rfl⟩
theorem Iso.cr (I : Iso y z φ fl) (hy : YardOk y) {w : List Nat} (hw : CrW y w) : CrW z (w.map φ) := by
  refine ⟨fun e => hw.ne (List.map_eq_nil_iff.mp e), fun c hc => ?_, fun i e => ?_⟩
  · obtain ⟨a, ha, rfl⟩ := List.mem_map.mp hc
    exact I.mem a (hw.mem a ha)
  · rw [lr_map φ hw.ne, lr_map φ hw.ne, ← I.con_ _ (hw.at i)] at e
    exact hw.cr i (I.inj _ (hw.at _) _ (hy.con_ _ (hw.at i)) e)
theorem Iso.fwd (I : Iso y z φ fl) {w : List Nat} (hw : CrW y w) (i : Int) : fwd (w.map φ) i = fun k => φ (fwd w i k) := by
  funext k
  unfold Pu.fwd
  rw [lr_map φ hw.ne]
theorem Iso.bwd (I : Iso y z φ fl) {w : List Nat} (hw : CrW y w) (i : Int) : bwd (w.map φ) i = fun k => φ (bwd w i k) := by
  funext k
  unfold Pu.bwd
  rw [lr_map φ hw.ne, I.con_ _ (hw.at _)]
theorem Iso.meet (I : Iso y z φ fl) {f g : Int → Nat} (F : Wk y f) (G : Wk y g) (m : Nat) : Meet z (fun k => φ (f k)) (fun k => φ (g k)) m ↔ Meet y f g m := by
  have key : 1 ≤ m → (∀ j : Nat, j < m → f j = g j) → f (m : Nat) ≠ g (m : Nat) → f (-1) ≠ g (-1) →
      ((gr z (con (φ (f (-1)))) (con (φ (g (-1)))) (φ (f 0)) = gr z (φ (f (m : Nat))) (φ (g (m : Nat))) (con (φ (f ((m : Int) - 1))))) ↔ (gr y (con (f (-1))) (con (g (-1))) (f 0) = gr y (f (m : Nat)) (g (m : Nat)) (con (f ((m : Int) - 1))))) := fun h1 h2 h3 h4 => by
    have e0 : f 0 = g 0 := h2 0 h1
    have em : f ((m : Int) - 1) = g ((m : Int) - 1) := by
      have := h2 (m - 1) (by omega)
      rw [show ((m - 1 : Nat) : Int) = (m : Int) - 1 from by omega] at this
      exact this
    have a1 := F.cr' 0
    have a2 := G.cr' 0
    have b1 := F.cr' m
    have b2 := G.cr' m
    rw [show (0 : Int) - 1 = -1 from rfl] at a1 a2
    have cne : con (f (-1)) ≠ con (g (-1)) := fun e => h4 (con_inj (F.L _) (G.L _) e)
    rw [← I.con_ _ (F.mem _), ← I.con_ _ (G.mem _), ← I.con_ _ (F.mem _), I.gr_ _ (F.cmem _) _ (G.cmem _) _ (F.mem _) cne (by rw [e0]; exact a2) a1,
      I.gr_ _ (F.mem _) _ (G.mem _) _ (F.cmem _) h3 (by rw [em]; exact b2.symm) b1.symm]
    cases gr y (con (f (-1))) (con (g (-1))) (f 0) <;> cases gr y (f (m : Nat)) (g (m : Nat)) (con (f ((m : Int) - 1))) <;> cases fl <;> simp
  constructor
  · rintro ⟨h1, h2, h3, h4, h5⟩
    have h2 : ∀ j : Nat, j < m → f j = g j := fun j hj => I.inj _ (F.mem _) _ (G.mem _) (h2 j hj)
    have h3 : f (m : Nat) ≠ g (m : Nat) := fun e => h3 (congrArg φ e)
    have h4 : f (-1) ≠ g (-1) := fun e => h4 (congrArg φ e)
    exact ⟨h1, h2, h3, h4, (key h1 h2 h3 h4).mp h5⟩
  · rintro ⟨h1, h2, h3, h4, h5⟩
    exact ⟨h1, fun j hj => congrArg φ (h2 j hj), I.ne (F.mem _) (G.mem _) h3, I.ne (F.mem _) (G.mem _) h4, (key h1 h2 h3 h4).mpr h5⟩
theorem Iso.across (I : Iso y z φ fl) (hy : YardOk y) {v w : List Nat} (hv : CrW y v) (hw : CrW y w) (i j : Int) : across z (v.map φ) i (w.map φ) j = across y v i w j := by
  have ma := hy.con_ _ (hv.at (i - 1))
  have mb := hv.at i
  have mp := hy.con_ _ (hw.at (j - 1))
  have mx := hw.at j
  have ba := hv.cr' i
  have xp := hw.cr' j
  unfold Pu.across
  rw [lr_map φ hv.ne, lr_map φ hv.ne, lr_map φ hw.ne, lr_map φ hw.ne, ← I.con_ _ (hv.at _), ← I.con_ _ (hw.at _)]
  generalize con (lr v (i - 1)) = a at *
  generalize lr v i = b at *
  generalize con (lr w (j - 1)) = p at *
  generalize lr w j = x at *
  have hi : (φ p = φ a ∨ φ p = φ b ∨ φ x = φ a ∨ φ x = φ b ∨ φ p = φ x) ↔ (p = a ∨ p = b ∨ x = a ∨ x = b ∨ p = x) := by
    rw [I.eq mp ma, I.eq mp mb, I.eq mx ma, I.eq mx mb, I.eq mp mx]
  by_cases h : p = a ∨ p = b ∨ x = a ∨ x = b ∨ p = x
  · rw [if_pos (hi.mpr h), if_pos h]
  · rw [if_neg fun z => h (hi.mp z), if_neg h]
    have n1 : a ≠ p := fun e => h (.inl e.symm)
    have n2 : p ≠ b := fun e => h (.inr (.inl e))
    have n3 : a ≠ x := fun e => h (.inr (.inr (.inl e.symm)))
    have n4 : x ≠ b := fun e => h (.inr (.inr (.inr (.inl e))))
    rw [I.gr_ a ma p mp b mb n1 n2 ba.symm, I.gr_ a ma x mx b mb n3 n4 ba.symm]
    cases gr y a p b <;> cases gr y a x b <;> cases fl <;> rfl
theorem Iso.btw (I : Iso y z φ fl) (hy : YardOk y) {v w : List Nat} (hv : CrW y v) (hw : CrW y w) : btw z (v.map φ) (w.map φ) = btw y v w := by
  have hv' := I.cr hy hv
  have hw' := I.cr hy hw
  rw [btw_r2, btw_r2, List.length_map, List.length_map]
  have e1 : ∀ i j, acN z (v.map φ) (w.map φ) i j = acN y v w i j := fun i j => by unfold acN; rw [I.across hy hv hw]
  have e2 : ∀ i j, alN z (v.map φ) (w.map φ) i j = alN y v w i j := fun i j => by
    unfold alN
    refine one_of ?_
    rw [alN_iff hv'.ne hw'.ne, alN_iff hv.ne hw.ne, I.fwd hv, I.fwd hw]
    exact exists_congr fun m => I.meet (hv.fwd_ hy i) (hw.fwd_ hy j) m
  have e3 : ∀ i j, agN z (v.map φ) (w.map φ) i j = agN y v w i j := fun i j => by
    unfold agN
    refine one_of ?_
    rw [agN_iff hv'.ne hw'.ne, agN_iff hv.ne hw.ne, I.fwd hv, I.bwd hw]
    exact exists_congr fun m => I.meet (hv.fwd_ hy i) (hw.bwd_ hy j) m
  rw [r2_congr e1, r2_congr e2, r2_congr e3]
theorem Iso.own (I : Iso y z φ fl) (hy : YardOk y) (hz : YardOk z) {w : List Nat} (hw : CrW y w) : ownN z (w.map φ) = ownN y w := by
  have h1 := btw_self hz (I.cr hy hw)
  have h2 := btw_self hy hw
  rw [I.btw hy hw hw] at h1
  omega
theorem Iso.map_inj (I : Iso y z φ fl) : ∀ {v w : List Nat}, (∀ c ∈ v, c ∈ y) → (∀ c ∈ w, c ∈ y) → v.map φ = w.map φ → v = w
  | [], [], _, _, _ => rfl
  | [], _ :: _, _, _, e => by cases e
  | _ :: _, [], _, _, e => by cases e
  | a :: v, b :: w, hv, hw, e => by
    rw [List.map_cons, List.map_cons] at e
    injection e with e1 e2
    rw [I.inj a (hv a (by simp)) b (hw b (by simp)) e1, I.map_inj (fun c hc => hv c (List.mem_cons_of_mem _ hc)) (fun c hc => hw c (List.mem_cons_of_mem _ hc)) e2]
theorem Iso.root (I : Iso y z φ fl) {w : List Nat} (hw : CrW y w) : rootK (w.map φ) = rootK w := by
  obtain ⟨r1, r2, r3, r4, _⟩ := rootK_spec hw.ne
  have rm : ∀ k, rot (w.map φ) k = (rot w k).map φ := fun k => by unfold rot; rw [List.map_append, List.map_drop, List.map_take]
  refine rootK_eq (fun e => hw.ne (List.map_eq_nil_iff.mp e)) r1 (by rw [List.length_map]; exact r2) (by rw [rm, r3]) fun j j1 j2 e => r4 j j1 j2 ?_
  rw [rm] at e
  refine I.map_inj (fun c hc => hw.mem c ?_) hw.mem e
  unfold rot at hc
  rcases List.mem_append.mp hc with h | h
  · exact List.mem_of_mem_drop h
  · exact List.mem_of_mem_take h
theorem Iso.lst (I : Iso y z φ fl) (hy : YardOk y) (hz : YardOk z) {w : List Nat} (hw : CrW y w) : lst z [w.map φ] = lst y [w] := by
  rw [lst_one, lst_one, I.own hy hz hw]
  unfold tm
  rw [I.root hw, List.length_map]
end
theorem isoRot {y : List Nat} (hn : y.Nodup) (k : Nat) (hk : k ≤ y.length) : Iso y (y.drop k ++ y.take k) id false := by
  have ix : ∀ c ∈ y, (k ≤ ixOf c y ∧ ixOf c (y.drop k ++ y.take k) + k = ixOf c y) ∨ (ixOf c y < k ∧ ixOf c (y.drop k ++ y.take k) + k = ixOf c y + y.length) := fun c hc => by
    by_cases h : k ≤ ixOf c y
    · obtain ⟨_, h2, h3⟩ := ixOf_post hc h
      refine .inl ⟨h, ?_⟩
      rw [ixOf_app_mem h2]
      omega
    · obtain ⟨h2, h3⟩ := ixOf_pre hc (Nat.lt_of_not_le h)
      refine .inr ⟨by omega, ?_⟩
      have n : c ∉ y.drop k := fun z => by
        have := (List.nodup_append.mp (by rw [List.take_append_drop]; exact hn : (y.take k ++ y.drop k).Nodup)).2.2
        exact this c h2 c z rfl
      rw [ixOf_app_not n, h3, List.length_drop]
      omega
  refine ⟨fun c h => by
    rw [id, List.mem_append, Or.comm, ← List.mem_append, List.take_append_drop]
    exact h, fun _ _ _ _ e => e, fun _ _ => rfl, fun a ha b hb c hc _ _ _ => ?_⟩
  have i1 := ix a ha
  have i2 := ix b hb
  have i3 := ix c hc
  have l1 := ixOf_lt ha
  have l2 := ixOf_lt hb
  have l3 := ixOf_lt hc
  unfold gr cyc3
  rw [Bool.bne_false, Bool.eq_iff_iff]
  simp only [decide_eq_true_eq, id]
  omega
theorem isoRev {y : List Nat} (hn : y.Nodup) : Iso y y.reverse id true := by
  have ix : ∀ (l : List Nat), l.Nodup → ∀ c ∈ l, ixOf c l.reverse + ixOf c l + 1 = l.length := by
    intro l
    induction l with
    | nil => intro _ c h; cases h
    | cons a l ih =>
      intro hn c h
      have hn := List.nodup_cons.mp hn
      rw [List.reverse_cons, List.length_cons]
      show _ + (if a = c then 0 else ixOf c l + 1) + 1 = _
      by_cases e : a = c
      · rw [if_pos e, ixOf_app_not (by rw [List.mem_reverse, ← e]; exact hn.1), List.length_reverse]
        show l.length + (if a = c then 0 else _) + 0 + 1 = _
        rw [if_pos e]
      · have hm : c ∈ l := by
          rcases List.mem_cons.mp h with z | z
          · exact absurd z.symm e
          · exact z
        rw [if_neg e, ixOf_app_mem (by rw [List.mem_reverse]; exact hm)]
        have := ih hn.2 c hm
        omega
  refine ⟨fun c h => List.mem_reverse.mpr h, fun _ _ _ _ e => e, fun _ _ => rfl, fun a ha b hb c hc h1 h2 h3 => ?_⟩
  have i1 := ix y hn a ha
  have i2 := ix y hn b hb
  have i3 := ix y hn c hc
  have n1 : ixOf a y ≠ ixOf b y := fun e => h1 (ixOf_inj ha hb e)
  have n2 : ixOf b y ≠ ixOf c y := fun e => h2 (ixOf_inj hb hc e)
  have n3 : ixOf a y ≠ ixOf c y := fun e => h3 (ixOf_inj ha hc e)
  unfold gr cyc3
  rw [Bool.bne_true, Bool.eq_iff_iff]
  simp only [decide_eq_true_eq, id, Bool.not_eq_true', decide_eq_false_iff_not]
  omega
theorem Iso.trans {x y z : List Nat} {φ ψ : Nat → Nat} {f g : Bool} (I : Iso x y φ f) (J : Iso y z ψ g) : Iso x z (fun c => ψ (φ c)) (f != g) := by
  refine ⟨fun c h => J.mem _ (I.mem c h), fun a ha b hb e => I.inj a ha b hb (J.inj _ (I.mem a ha) _ (I.mem b hb) e), fun c h => by
    show ψ (φ (con c)) = _
    rw [I.con_ c h, J.con_ _ (I.mem c h)], fun a ha b hb c hc h1 h2 h3 => ?_⟩
  show gr z (ψ (φ a)) (ψ (φ b)) (ψ (φ c)) = _
  rw [J.gr_ _ (I.mem a ha) _ (I.mem b hb) _ (I.mem c hc) (I.ne ha hb h1) (I.ne hb hc h2) (I.ne ha hc h3), I.gr_ a ha b hb c hc h1 h2 h3]
  cases gr x a b c <;> cases f <;> cases g <;> rfl
set_option maxRecDepth 100000
set_option maxHeartbeats 1000000
def m_own : PM := fun ds st Q => match ds with
  | [.str y, .str w] => WsL y [w] ∧ Q (.d (.int (lst y [w]))) st
  | _ => False
theorem own_i {y w : List Nat} {s : Sto} {Q : C → Sto → Prop} (h : WsL y [w]) (q : Q (.d (.int (lst y [w]))) s) : m_own [.str y, .str w] s Q := ⟨h, q⟩
set_option maxRecDepth 100000
set_option maxHeartbeats 1000000
theorem redR_mem : ∀ (w s : List Nat) (c : Nat), c ∈ redR s w → c ∈ s ∨ c ∈ w
  | [], s, c, h => .inl h
  | a :: w, s, c, h => by
    rcases redR_mem w (rpush s a) c h with h | h
    · unfold rpush at h
      split at h
      · exact .inr (by rw [List.mem_singleton.mp h]; simp)
      · split at h
        · exact .inl (List.mem_cons_of_mem _ h)
        · rcases List.mem_cons.mp h with h | h
          · exact .inr (by rw [h]; simp)
          · exact .inl h
    · exact .inr (List.mem_cons_of_mem _ h)
theorem red_mem {w : List Nat} {c : Nat} (h : c ∈ red w) : c ∈ w := by
  unfold red at h
  rcases redR_mem w [] c (List.mem_reverse.mp h) with h | h
  · cases h
  · exact h
theorem cyc_mem (v : List Nat) : ∀ c ∈ cyc v, c ∈ v := by
  induction v using cyc.induct with
  | case1 v h ih =>
    rw [cyc, if_pos h]
    exact fun c hc => List.mem_of_mem_tail ((List.dropLast_sublist _).subset (ih c hc))
  | case2 v h =>
    rw [cyc, if_neg h]
    exact fun c hc => hc
theorem core_len_ (w : List Nat) : (core w).length ≤ w.length := core_len w
theorem core_cr {y w : List Nat} (hy : YardOk y) (hw : ∀ c ∈ w, c ∈ y) (h : core w ≠ []) : CrW y (core w) := by
  have hW : IsW w := fun c hc => hy.let_ _ (hw c hc)
  have na : NoAdj (core w) := cyc_noadj (red_noadj' hW)
  have nc : cyc (core w) = core w := cyc_cyc _
  have hm : ∀ c ∈ core w, c ∈ y := fun c hc => hw _ (red_mem (cyc_mem _ _ hc))
  refine crW_of h hm (fun k a b ha hb e => ?_) fun a b ha hb e => ?_
  · refine noadj_get na k a b ha hb ?_
    rw [e, con_con (hy.let_ _ (hm _ (List.mem_of_getElem? ha)))]
  · by_cases l : 1 < (core w).length
    · have h1 : (core w).head? = some a := by rw [List.head?_eq_getElem?]; exact ha
      have h2 : (core w).getLast? = some b := by rw [List.getLast?_eq_getElem?]; exact hb
      have := cyc_in l h1 h2 e
      rw [nc] at this
      have l2 := congrArg List.length this
      have l3 := cyc_len (core w).tail.dropLast
      rw [List.length_dropLast, List.length_tail] at l3
      omega
    · have l1 : (core w).length - 1 = 0 := by omega
      rw [l1, ha] at hb
      have : a = b := Option.some.inj hb
      rw [← this] at e
      exact con_ne (hy.let_ _ (hm _ (List.mem_of_getElem? ha))) e.symm
structure Ln (y w : List Nat) : Prop where
  yk : YOk y
  mem : ∀ c ∈ w, c ∈ y
  few : w.length ≤ 24
theorem Ln.W {y w : List Nat} (h : Ln y w) : IsW w := fun c hc => h.yk.yd.let_ _ (h.mem c hc)
theorem Ln.wk {y w : List Nat} (h : Ln y w) (h0 : core w ≠ []) : WOk y (core w) := ⟨core_cr h.yk.yd h.mem h0, by have := core_len_ w; have := h.few; omega⟩
set_option maxRecDepth 100000
set_option maxHeartbeats 1000000
structure Ap (y : List Nat) (ws : List (List Nat)) : Prop where
  yk : YOk y
  mem : ∀ w ∈ ws, ∀ c ∈ w, c ∈ y
  few : ∀ w ∈ ws, w.length ≤ 24
  many : ws.length ≤ 24
theorem Ap.ln {y : List Nat} {ws : List (List Nat)} (h : Ap y ws) {w : List Nat} (hw : w ∈ ws) : Ln y w := ⟨h.yk, h.mem w hw, h.few w hw⟩
theorem Ln.core {y w : List Nat} (h : Ln y w) : Ln y (core w) := ⟨h.yk, fun c hc => h.mem c (red_mem (cyc_mem _ c hc)), Nat.le_trans (core_len_ w) h.few⟩
set_option maxRecDepth 100000
set_option maxHeartbeats 1000000
set_option maxRecDepth 100000
set_option maxHeartbeats 1000000
set_option maxRecDepth 100000
set_option maxHeartbeats 1000000
/-- a rim is gone round from any of its letters -/
theorem IsRim.word {z r : List Nat} (hz : YardOk z) (h2 : 2 ≤ z.length) (h : IsRim z r) : r = rimW z (lr r 0) := by
  have A := gs_about hz h2
  have hx := h.mem _ (lr_mem h.ne 0)
  obtain ⟨p1, p2, p3, p4⟩ := A.pero hx
  have it : ∀ k : Nat, lr r k = itr (gs z) k (lr r 0) := fun k => by
    induction k with
    | zero => rfl
    | succ k ih =>
      show lr r ((k : Nat) + 1 : Int) = gs z (itr (gs z) k (lr r 0))
      rw [h.step, ih]
  have hp : 0 < r.length := List.length_pos_iff.mpr h.ne
  have get : ∀ k : Nat, k < r.length → r[k]? = some (lr r k) := fun k hk => by
    rw [List.getElem?_eq_getElem hk, lr_nat (List.getElem?_eq_getElem hk)]
  have e1 : per (gs z) z.length (lr r 0) = r.length := by
    have a1 : itr (gs z) r.length (lr r 0) = lr r 0 := by
      rw [← it, show ((r.length : Nat) : Int) = 0 + (r.length : Nat) by omega, lr_add]
    by_cases q : per (gs z) z.length (lr r 0) < r.length
    · exfalso
      have g0 := get 0 hp
      have g1 := get _ q
      rw [it, p3] at g1
      have g0 : r[0]? = some (lr r 0) := g0
      have := (List.getElem?_inj hp h.nd).mp (g0.trans g1.symm)
      omega
    · by_cases q2 : r.length < per (gs z) z.length (lr r 0)
      · exact absurd a1 (p4 _ (by omega) q2)
      · omega
  unfold rimW cyw
  rw [e1]
  refine List.ext_getElem? fun k => ?_
  rw [List.getElem?_map]
  by_cases hk : k < r.length
  · rw [get k hk, List.getElem?_range hk, it]
    rfl
  · rw [List.getElem?_eq_none (by omega), List.getElem?_eq_none (by simp; omega)]
    rfl
theorem rimsL_of {z : List Nat} (hz : YardOk z) (h2 : 2 ≤ z.length) {x : Nat} (hx : x ∈ z) : ringL (rimW z x) ∈ rimsL z := by
  rw [← rims_of hz h2 (List.perm_cons_erase hx).symm]
  refine srt_mem.mpr ?_
  rw [reps_cons, List.map_cons]
  exact List.mem_cons_self ..
theorem IsRim.told {z r : List Nat} (hz : YardOk z) (h2 : 2 ≤ z.length) (h : IsRim z r) : ringL r ∈ rimsL z := by
  rw [h.word hz h2]
  exact rimsL_of hz h2 (h.mem _ (lr_mem h.ne 0))
theorem rims_form {z r : List Nat} (hz : YardOk z) (h2 : 2 ≤ z.length) (h : r ∈ rimsL z) : ∃ x ∈ z, r = ringL (rimW z x) := by
  unfold rimsL at h
  obtain ⟨x, hx, rfl⟩ := List.mem_map.mp (srt_mem.mp h)
  exact ⟨x, reps_mem _ hx, rfl⟩
theorem mem_ringL {w : List Nat} {c : Nat} : c ∈ ringL w ↔ c ∈ w := by
  by_cases e : w = []
  · subst e; rfl
  · obtain ⟨k, _, hr⟩ := ringL_rot e
    rw [hr]
    unfold rot
    rw [List.mem_append]
    constructor
    · rintro (h | h)
      · exact List.mem_of_mem_drop h
      · exact List.mem_of_mem_take h
    · intro h
      rw [← List.take_append_drop k w] at h
      exact (List.mem_append.mp h).symm
section
variable {z r : List Nat} (hz : YardOk z) (h2 : 2 ≤ z.length) (h : IsRim z r)
include hz h
theorem rim_isW : IsW r := fun c hc => hz.let_ c (h.mem c hc)
end
set_option maxRecDepth 100000
set_option maxHeartbeats 1000000
def yk (y : List Nat) (k : Nat) : List Nat := wth y ((bandW y).take k)
set_option maxRecDepth 100000
set_option maxHeartbeats 1000000
theorem IsRim.at_ {z r : List Nat} (hz : YardOk z) (h2 : 2 ≤ z.length) (hr : IsRim z r) {x : Nat} (hx : x ∈ r) : loop r = loop (rimW z x) := by
  have hi := ixOf_lt hx
  have hg := (ixOf_spec hx).1
  have h1 := hr.rot_ (k := ixOf x r) (by omega)
  have e0 : lr (rot r (ixOf x r)) 0 = x := by
    unfold rot
    rw [lr_rot _ (by omega), Int.zero_add]
    exact lr_nat hg
  have h3 := h1.word hz h2
  rw [e0] at h3
  have hh := ring_rot (rim_isW hz hr) (Rt.rot_ (a := r) (k := ixOf x r) (by omega))
  rw [← h3, ← loop_ring (rim_isW hz hr), ← loop_ring (rim_isW hz h1), hh]
set_option maxRecDepth 100000
set_option maxHeartbeats 1000000
def inB (ns : List Nat) (w : List Nat) : Bool := w.all fun c => decide (c ∈ ns) || decide (con c ∈ ns)
set_option maxRecDepth 100000
set_option maxHeartbeats 1000000
set_option maxRecDepth 100000
set_option maxHeartbeats 1000000
set_option maxRecDepth 100000
set_option maxHeartbeats 1000000
set_option maxRecDepth 100000
set_option maxHeartbeats 1000000
set_option maxRecDepth 100000
set_option maxHeartbeats 1000000
set_option maxRecDepth 100000
set_option maxHeartbeats 1000000
set_option maxRecDepth 100000
set_option maxHeartbeats 1000000
theorem mt3_le (y : List Nat) (f g : Int → Nat) (n : Nat) : mt3 y f g n ≤ n := by
  have h := (agree_spec f g n).1
  unfold mt3
  split
  · exact Nat.zero_le _
  · split
    · rw [Nat.mul_one]; exact h
    · rw [Nat.mul_zero]; exact Nat.zero_le _
structure ThB (t : Th) : Prop where
  a : t.1 < 2 ^ 20
  b : t.2.1 < 2 ^ 20
  c : t.2.2.1 < 2 ^ 20
  d : t.2.2.2.1 < 2 ^ 20
  e : t.2.2.2.2.1 < 2 ^ 20
  f : t.2.2.2.2.2 = tAc ∨ t.2.2.2.2.2 = tAl ∨ t.2.2.2.2.2 = tAg
theorem thAt_b {y : List Nat} {ws : List (List Nat)} {c i d j : Nat} (hc : c < 2 ^ 20) (hd : d < 2 ^ 20) (hi : i < 2 ^ 20) (hj : j < 2 ^ 20) (hn : (wAt ws c).length + (wAt ws d).length < 2 ^ 20) {t : Th} (ht : t ∈ thAt y ws c i d j) : ThB t := by
  have l1 : along y (wAt ws c) i (wAt ws d) j < 2 ^ 20 := Nat.lt_of_le_of_lt (mt3_le _ _ _ _) hn
  have l2 : against y (wAt ws c) i (wAt ws d) j < 2 ^ 20 := Nat.lt_of_le_of_lt (mt3_le _ _ _ _) hn
  have one : ∀ (b : Prop) [Decidable b] (u : Th), t ∈ (if b then [u] else []) → t = u := fun b _ u h => by
    split at h
    · exact List.mem_singleton.mp h
    · cases h
  unfold thAt at ht
  rcases List.mem_append.mp ht with h | h
  · split at h
    · rcases List.mem_append.mp h with h | h
      · rw [one _ _ h]
        exact ⟨hc, hi, hd, hj, by show 0 < 2 ^ 20; omega, .inl rfl⟩
      · rw [one _ _ h]
        exact ⟨hc, hi, hd, hj, l1, .inr (.inl rfl)⟩
    · cases h
  · rw [one _ _ h]
    exact ⟨hc, hi, hd, hj, l2, .inr (.inr rfl)⟩
theorem WsL.b {y : List Nat} {ws : List (List Nat)} (h : WsL y ws) {t : Th} (ht : t ∈ allTh y ws) : ThB t := by
  have few := h.ok.few
  unfold allTh at ht
  obtain ⟨c, hc, ht⟩ := List.mem_flatMap.mp ht
  have hc := List.mem_range.mp hc
  unfold rowD at ht
  obtain ⟨k, hk, ht⟩ := List.mem_flatMap.mp ht
  have hk := List.mem_range.mp hk
  have hd : c + k < ws.length := by omega
  unfold rowI at ht
  obtain ⟨i, hi, ht⟩ := List.mem_flatMap.mp ht
  have hi := List.mem_range.mp hi
  unfold rowJ at ht
  obtain ⟨j, hj, ht⟩ := List.mem_flatMap.mp ht
  have hj := List.mem_range.mp hj
  have l1 := (h.ok.at hc).few
  have l2 := (h.ok.at hd).few
  exact thAt_b (by omega) (by omega) (by omega) (by omega) (by omega) ht
theorem Srt.same {L : List Th} {p q : List (List PuE.Itm)} (h : Srt L p) (g : Srt L q) : p = q := ltN_unique h.up g.up (h.perm.trans g.perm.symm)
set_option maxRecDepth 100000
set_option maxHeartbeats 1000000
set_option maxRecDepth 100000
set_option maxHeartbeats 1000000
set_option maxRecDepth 100000
set_option maxHeartbeats 1000000
set_option maxRecDepth 100000
set_option maxHeartbeats 1000000
set_option maxRecDepth 100000
set_option maxHeartbeats 1000000
/-- the loops of a yard told by another one's -/
structure Bse (y0 z : List Nat) (φ : Nat → Nat) : Prop where
  iso : Iso y0 z φ false
  hy : YardOk y0
  hz : YardOk z
  sur : ∀ c ∈ z, ∃ d ∈ y0, φ d = c
section
variable {y0 z : List Nat} {φ : Nat → Nat} (B : Bse y0 z φ)
include B
theorem Bse.turn_ {w : List Nat} (hw : ∀ c ∈ w, c ∈ y0) : (turn w).map φ = turn (w.map φ) := by
  unfold turn
  rw [List.map_reverse, List.map_map, List.map_map]
  congr 1
  exact List.map_congr_left fun c hc => B.iso.con_ c (hw c hc)
end
set_option maxRecDepth 100000
set_option maxHeartbeats 1000000
set_option maxRecDepth 100000
set_option maxHeartbeats 1000000
theorem ixOf_mapI {φ : Nat → Nat} : ∀ {l : List Nat} {c : Nat}, (∀ a ∈ l, ∀ b ∈ l, φ a = φ b → a = b) → c ∈ l → ixOf (φ c) (l.map φ) = ixOf c l
  | [], _, _, h => by cases h
  | a :: l, c, hi, h => by
    show (if φ a = φ c then 0 else ixOf (φ c) (l.map φ) + 1) = if a = c then 0 else ixOf c l + 1
    by_cases e : a = c
    · rw [if_pos e, if_pos (congrArg φ e)]
    · rw [if_neg e, if_neg fun z => e (hi a (by simp) c h z)]
      have : c ∈ l := (List.mem_cons.mp h).resolve_left fun z => e z.symm
      rw [ixOf_mapI (fun a ha b hb => hi a (List.mem_cons_of_mem _ ha) b (List.mem_cons_of_mem _ hb)) this]
section
variable {d : List Nat} {φ : Nat → Nat} (hd : YardOk d) (inj : ∀ a ∈ d, ∀ b ∈ d, φ a = φ b → a = b) (hc : ∀ c ∈ d, φ (con c) = con (φ c))
include hd inj hc
theorem gs_mapI {c : Nat} (h : c ∈ d) : gs (d.map φ) (φ c) = φ (gs d c) := by
  have cd := hd.con_ c h
  have pos : 0 < d.length := List.length_pos_of_mem h
  unfold gs
  rw [← hc c h, ixOf_mapI inj cd]
  have g1 := nxt_get (y := d) pos (ixOf (con c) d)
  have g2 := nxt_get (y := d.map φ) (by rw [List.length_map]; exact pos) (ixOf (con c) d)
  rw [List.length_map, List.getElem?_map, g1] at g2
  exact (Option.some.inj g2).symm
theorem rim_mapI {r : List Nat} (hr : ∀ c ∈ r, c ∈ d) : IsRim (d.map φ) (r.map φ) ↔ IsRim d r := by
  constructor
  · intro h
    have ne : r ≠ [] := fun e => h.ne (by rw [e]; rfl)
    refine ⟨ne, hr, ?_, fun i => ?_⟩
    · have := h.nd
      exact List.Pairwise.of_map φ (fun a b hab e => hab (congrArg φ e)) this
    · have := h.step i
      rw [lr_map φ ne, lr_map φ ne, gs_mapI hd inj hc (hr _ (lr_mem ne i))] at this
      have m := hr _ (lr_mem ne i)
      exact inj _ (hr _ (lr_mem ne (i + 1))) _ (nxt_mem (List.length_pos_of_mem m) _) this
  · intro h
    refine ⟨fun e => h.ne (List.map_eq_nil_iff.mp e), fun c hc' => ?_, ?_, fun i => ?_⟩
    · obtain ⟨x, hx, rfl⟩ := List.mem_map.mp hc'
      exact List.mem_map_of_mem (hr x hx)
    · rw [List.Nodup, List.pairwise_map]
      exact List.Pairwise.imp_of_mem (fun ha hb hab e => hab (inj _ (hr _ ha) _ (hr _ hb) e)) h.nd
    · rw [lr_map φ h.ne, lr_map φ h.ne, gs_mapI hd inj hc (hr _ (lr_mem h.ne i)), h.step]
end
set_option maxRecDepth 100000
set_option maxHeartbeats 4000000
set_option maxRecDepth 100000
set_option maxHeartbeats 1000000
local macro_rules | `(tactic| simpa?! only [$xs,*]) => `(tactic| simpa! only [↓x_fld, ↓x_kF, ↓x_kSF, ↓x_sfldZ, ↓x_sfldP, ↓x_kpd, ↓x_kpo, ↓x_kpK, ↓x_kpT, ↓x_kpC, ↓x_kpn, ↓x_2O, ↓x_k2adO, ↓x_k2aoO, ↓x_k2anO, ↓x_k2bO, ↓x_k2cO, ↓x_im, ↓x_kIM, ↓x_make, ↓x_kMk, ↓x_gtN, ↓x_methT, ↓x_kMTd, ↓x_mT1, ↓x_prK, ↓x_ixT, ↓x_prI, ↓x_splitA, ↓x_strI, ↓x_intS, ↓x_fs3, ↓x_f3I, ↓x_zipS, ↓x_parO, ↓x_asgZ, ↓x_asgK, ↓x_gd, ↓x_kGD, ↓x_case, ↓x_imX, ↓x_kIMX, ↓x_lcX, ↓x_ksr, ↓x_msr, ↓x_disp2, ↓x_kD2, ↓x_dgk2, ↓x_kG2, ↓x_clear, ↓x_kin, ↓x_kKI, ↓x_khas, ↓x_kKH, ↓x_igt, ↓x_izg, ↓x_kIG, ↓x_tzC, ↓x_tz, ↓x_split1, ↓x_strAi, ↓x_strAs, ↓x_forL, ↓x_callPS, ↓x_lcL, ↓x_remD, ↓x_slw, ↓x_listK, ↓x_lkH, $xs,*])
set_option maxRecDepth 100000
set_option maxHeartbeats 1000000
local macro_rules | `(tactic| simpa?! only [$xs,*]) => `(tactic| simpa! only [$xs,*])
set_option maxRecDepth 100000
set_option maxHeartbeats 1000000
set_option maxRecDepth 100000
set_option maxHeartbeats 1000000
theorem nd_len {α : Type} [DecidableEq α] : ∀ {l m : List α}, l.Nodup → (∀ a ∈ l, a ∈ m) → l.length ≤ m.length
  | [], _, _, _ => Nat.zero_le _
  | a :: l, m, h, s => by
    have h' := List.nodup_cons.mp h
    have am : a ∈ m := s a (by simp)
    have := nd_len (l := l) (m := m.erase a) h'.2 fun b hb => (List.mem_erase_of_ne (fun z => h'.1 (by rw [← z]; exact hb))).mpr (s b (List.mem_cons_of_mem _ hb))
    rw [List.length_erase_of_mem am] at this
    have := List.length_pos_of_mem am
    simp only [List.length_cons]
    omega
theorem okL_strs (l : List (List Nat)) (n : Nat) : D.okL (l.map D.str) n = true := by
  induction l with
  | nil => rfl
  | cons a l ih => rw [List.map_cons]; simp only [D.okL, ih, Bool.and_true]; rfl
abbrev KwT := List (List Nat × List Nat)
def lk (K : KwT) (n : List Nat) : Option (List Nat) := (K.find? fun p => p.1 == n).map (·.2)
set_option maxRecDepth 100000
set_option maxHeartbeats 1000000
set_option maxRecDepth 100000
set_option maxHeartbeats 1000000
set_option maxRecDepth 100000
set_option maxHeartbeats 1000000
local macro_rules | `(tactic| simpa?! only [$xs,*]) => `(tactic| simpa! only [↓x_fld, ↓x_kF, ↓x_kSF, ↓x_sfldZ, ↓x_sfldP, ↓x_kpd, ↓x_kpo, ↓x_kpK, ↓x_kpT, ↓x_kpC, ↓x_kpn, ↓x_2O, ↓x_k2adO, ↓x_k2aoO, ↓x_k2anO, ↓x_k2bO, ↓x_k2cO, ↓x_im, ↓x_kIM, ↓x_make, ↓x_kMk, ↓x_gtN, ↓x_methT, ↓x_kMTd, ↓x_mT1, ↓x_prK, ↓x_ixT, ↓x_prI, ↓x_splitA, ↓x_strI, ↓x_intS, ↓x_fs3, ↓x_f3I, ↓x_zipS, ↓x_parO, ↓x_asgZ, ↓x_asgK, ↓x_gd, ↓x_kGD, ↓x_case, ↓x_imX, ↓x_kIMX, ↓x_lcX, ↓x_ksr, ↓x_msr, ↓x_disp2, ↓x_kD2, ↓x_dgk2, ↓x_kG2, ↓x_clear, ↓x_kin, ↓x_kKI, ↓x_khas, ↓x_kKH, ↓x_igt, ↓x_izg, ↓x_kIG, ↓x_tzC, ↓x_tz, ↓x_split1, ↓x_strAi, ↓x_strAs, ↓x_forL, ↓x_callPS, ↓x_lcL, ↓x_remD, ↓x_slw, ↓x_listK, ↓x_lkH, $xs,*])
theorem rot_at {z : List Nat} {k p : Nat} (hk : k ≤ z.length) (hp : p < z.length) : (rot z k)[p]? = z[(p + k) % z.length]? := by
  unfold rot
  have hd : (z.drop k).length = z.length - k := List.length_drop
  by_cases h : p < z.length - k
  · rw [List.getElem?_append_left (by omega), List.getElem?_drop, Nat.mod_eq_of_lt (by omega), Nat.add_comm]
  · rw [List.getElem?_append_right (by omega), hd, List.getElem?_take_of_lt (by omega), Nat.mod_eq_sub_mod (by omega), Nat.mod_eq_of_lt (by omega)]
    congr 1
    omega
theorem rot_permY (z : List Nat) (k : Nat) : (rot z k).Perm z := by
  unfold rot
  exact List.perm_append_comm.trans (by rw [List.take_append_drop])
theorem rot_yard {z : List Nat} (hz : YardOk z) (k : Nat) : YardOk (rot z k) := by
  have p := rot_permY z k
  exact ⟨p.nodup_iff.mpr hz.nd, fun c hc => hz.let_ c (p.mem_iff.mp hc), fun c hc => p.mem_iff.mpr (hz.con_ c (p.mem_iff.mp hc))⟩
theorem nxt_rot {z : List Nat} (hz : YardOk z) {k a : Nat} (hk : k ≤ z.length) (ha : a ∈ z) : nxt (rot z k) (ixOf a (rot z k)) = nxt z (ixOf a z) := by
  have ar : a ∈ rot z k := (rot_permY z k).mem_iff.mpr ha
  have rl := rot_len z k
  have hp := ixOf_lt ar
  have hg := (ixOf_spec ar).1
  generalize ixOf a (rot z k) = p at hp hg
  rw [rl] at hp
  rw [rot_at hk hp] at hg
  have hq := ix_get hz.nd hg
  have pos : 0 < z.length := by omega
  have n1 := nxt_get (y := rot z k) (by omega) p
  rw [rl, rot_at hk (Nat.mod_lt _ pos)] at n1
  have n2 := nxt_get (y := z) pos (ixOf a z)
  rw [hq] at n2 ⊢
  have e : ((p + 1) % z.length + k) % z.length = ((p + k) % z.length + 1) % z.length := by
    rw [Nat.mod_add_mod, Nat.mod_add_mod]
    congr 1
    omega
  rw [e, n2] at n1
  exact (Option.some.inj n1).symm
theorem rim_rot {z r : List Nat} (hz : YardOk z) {k : Nat} (hk : k ≤ z.length) : IsRim (rot z k) r ↔ IsRim z r := by
  have p := rot_permY z k
  have st : ∀ c ∈ z, gs (rot z k) c = gs z c := fun c hc => nxt_rot hz hk (hz.con_ c hc)
  constructor
  · intro h
    refine ⟨h.ne, fun c hc => p.mem_iff.mp (h.mem c hc), h.nd, fun i => ?_⟩
    rw [h.step]
    exact st _ (p.mem_iff.mp (h.mem _ (lr_mem h.ne i)))
  · intro h
    refine ⟨h.ne, fun c hc => p.mem_iff.mpr (h.mem c hc), h.nd, fun i => ?_⟩
    rw [h.step]
    exact (st _ (h.mem _ (lr_mem h.ne i))).symm
set_option maxRecDepth 100000
set_option maxHeartbeats 1000000
theorem rev_yard {z : List Nat} (hz : YardOk z) : YardOk z.reverse :=
  ⟨(List.reverse_perm z).nodup_iff.mpr hz.nd, fun c hc => hz.let_ c (List.mem_reverse.mp hc), fun c hc => List.mem_reverse.mpr (hz.con_ c (List.mem_reverse.mp hc))⟩
theorem nxt_rev {z : List Nat} (hz : YardOk z) {a : Nat} (ha : a ∈ z) : nxt z (ixOf (nxt z.reverse (ixOf a z.reverse)) z) = a := by
  have ar : a ∈ z.reverse := List.mem_reverse.mpr ha
  have hp := ixOf_lt ar
  have hg := (ixOf_spec ar).1
  generalize ixOf a z.reverse = p at hp hg
  rw [List.length_reverse] at hp
  rw [List.getElem?_reverse hp] at hg
  have n1 := nxt_get (y := z.reverse) (by rw [List.length_reverse]; omega) p
  rw [List.length_reverse] at n1
  have hm : (p + 1) % z.length < z.length := Nat.mod_lt _ (by omega)
  rw [List.getElem?_reverse hm] at n1
  rw [ix_get hz.nd n1]
  have n2 := nxt_get (y := z) (by omega) (z.length - 1 - (p + 1) % z.length)
  have e : (z.length - 1 - (p + 1) % z.length + 1) % z.length = z.length - 1 - p := by
    by_cases h : p + 1 = z.length
    · rw [h, Nat.mod_self]
      have : z.length - 1 - 0 + 1 = z.length := by omega
      rw [this, Nat.mod_self]
      omega
    · rw [Nat.mod_eq_of_lt (show p + 1 < z.length by omega), Nat.mod_eq_of_lt (by omega)]
      omega
  rw [e, hg] at n2
  exact (Option.some.inj n2).symm
theorem gs_rev {z : List Nat} (hz : YardOk z) {c : Nat} (hc : c ∈ z) : gs z (con (gs z.reverse c)) = con c := by
  have cc := hz.con_ c hc
  have pos : 0 < z.length := List.length_pos_of_mem hc
  have bm : gs z.reverse c ∈ z := List.mem_reverse.mp (nxt_mem (by rw [List.length_reverse]; exact pos) _)
  show nxt z (ixOf (con (con (gs z.reverse c))) z) = con c
  rw [con_con (hz.let_ _ bm)]
  exact nxt_rev hz cc
theorem rim_rev1 {z r : List Nat} (hz : YardOk z) (h : IsRim z.reverse r) : IsRim z (turn r) := by
  have hm : ∀ c ∈ r, c ∈ z := fun c hc => List.mem_reverse.mp (h.mem c hc)
  have W : IsW r := fun c hc => hz.let_ c (hm c hc)
  refine ⟨turn_ne h.ne, fun c hc => ?_, ?_, fun i => ?_⟩
  · unfold turn at hc
    rw [List.mem_reverse] at hc
    obtain ⟨d, hd, rfl⟩ := List.mem_map.mp hc
    exact hz.con_ d (hm d hd)
  · unfold turn
    rw [(List.reverse_perm _).nodup_iff]
    exact List.Pairwise.map _ (fun a b (hab : a ≠ b ∧ IsL a ∧ IsL b) e => hab.1 (con_inj hab.2.1 hab.2.2 e)) (by
      have := h.nd
      exact List.Pairwise.imp_of_mem (fun ha hb hab => ⟨hab, W _ ha, W _ hb⟩) this)
  · rw [lr_turn h.ne, lr_turn h.ne]
    have st := h.step (-1 - (i + 1))
    rw [show -1 - (i + 1) + 1 = -1 - i by omega] at st
    have g := gs_rev hz (hm _ (lr_mem h.ne (-1 - (i + 1))))
    rw [← st] at g
    exact g.symm
theorem rim_rev {z r : List Nat} (hz : YardOk z) (W : IsW r) : IsRim z.reverse r ↔ IsRim z (turn r) := by
  refine ⟨rim_rev1 hz, fun h => ?_⟩
  have h2 : IsRim z.reverse.reverse (turn r) := by rw [List.reverse_reverse]; exact h
  have := rim_rev1 (rev_yard hz) h2
  rw [turn_turn W] at this
  exact this
theorem rims_mem {z l : List Nat} (hz : YardOk z) (h2 : 2 ≤ z.length) : l ∈ rimsL z ↔ ∃ r, IsRim z r ∧ l = ringL r := by
  constructor
  · intro h
    obtain ⟨x, hx, e⟩ := rims_form hz h2 h
    exact ⟨_, rimW_is hz h2 hx, e⟩
  · rintro ⟨r, hr, rfl⟩
    exact hr.told hz h2
theorem reps_pw (g : Nat → List Nat) : ∀ (n : Nat) (l : List Nat), l.length = n → (reps g l).Pairwise fun a b => b ∉ g a := by
  intro n
  induction n using Nat.strongRecOn with
  | ind n ih =>
    intro l hl
    cases l with
    | nil => rw [reps_nil]; exact .nil
    | cons a l =>
      rw [reps_cons]
      have fl : (l.filter fun z => !decide (z ∈ g a)).length ≤ l.length := List.length_filter_le _ _
      refine .cons (fun b hb => ?_) (ih _ (by rw [List.length_cons] at hl; omega) _ rfl)
      have := (List.mem_filter.mp (reps_mem g hb)).2
      simpa using this
theorem rims_nd {z : List Nat} (hz : YardOk z) (h2 : 2 ≤ z.length) : (rimsL z).Nodup := by
  unfold rimsL
  refine (srt_perm _).nodup_iff.mpr ?_
  have C := rim_cls hz h2
  have pw := reps_pw (rimW z) _ z rfl
  have mm : ∀ a ∈ reps (rimW z) z, a ∈ z := fun a ha => reps_mem _ ha
  refine List.Pairwise.map _ (fun a b (hab : b ∉ rimW z a ∧ a ∈ z ∧ b ∈ z) e => hab.1 ?_) (pw.imp_of_mem fun ha hb hab => ⟨hab, mm _ ha, mm _ hb⟩)
  have hb : b ∈ rimW z b := C.self _ hab.2.2
  have w1 := (rimW_is hz h2 hab.2.1).ne
  have w2 := (rimW_is hz h2 hab.2.2).ne
  obtain ⟨k, hk, e1⟩ := ringL_rot w1
  obtain ⟨j, hj, e2⟩ := ringL_rot w2
  have p1 : (ringL (rimW z a)).Perm (rimW z a) := by rw [e1]; unfold rot; exact List.perm_append_comm.trans (by rw [List.take_append_drop])
  have p2 : (ringL (rimW z b)).Perm (rimW z b) := by rw [e2]; unfold rot; exact List.perm_append_comm.trans (by rw [List.take_append_drop])
  have : b ∈ ringL (rimW z b) := p2.mem_iff.mpr hb
  rw [← e] at this
  exact p1.mem_iff.mp this
/-- two yards' rims, told from one another -/
theorem rims_eq {y z : List Nat} (hy : YardOk y) (hz : YardOk z) (y2 : 2 ≤ y.length) (z2 : 2 ≤ z.length) {F : List Nat → List Nat} (h1 : ∀ r, IsRim y r → ∃ s, IsRim z s ∧ F (ringL r) = ringL s) (h2 : ∀ s, IsRim z s → ∃ r, IsRim y r ∧ F (ringL r) = ringL s) (inj : ∀ r s, IsRim y r → IsRim y s → F (ringL r) = F (ringL s) → ringL r = ringL s) :
    srt ((rimsL y).map F) = rimsL z ∧ (rimsL z).length = (rimsL y).length := by
  have nd : ((rimsL y).map F).Nodup := by
    refine List.Pairwise.map _ (fun a b (hab : a ≠ b ∧ a ∈ rimsL y ∧ b ∈ rimsL y) e => hab.1 ?_) ((rims_nd hy y2).imp_of_mem fun ha hb hab => ⟨hab, ha, hb⟩)
    obtain ⟨r, hr, rfl⟩ := (rims_mem hy y2).mp hab.2.1
    obtain ⟨s, hs, rfl⟩ := (rims_mem hy y2).mp hab.2.2
    exact inj r s hr hs e
  have pm : ((rimsL y).map F).Perm (rimsL z) := by
    refine (List.perm_ext_iff_of_nodup nd (rims_nd hz z2)).mpr fun l => ?_
    rw [rims_mem hz z2]
    constructor
    · intro h
      obtain ⟨a, ha, rfl⟩ := List.mem_map.mp h
      obtain ⟨r, hr, rfl⟩ := (rims_mem hy y2).mp ha
      exact h1 r hr
    · rintro ⟨s, hs, rfl⟩
      obtain ⟨r, hr, e⟩ := h2 s hs
      exact List.mem_map.mpr ⟨_, (rims_mem hy y2).mpr ⟨r, hr, rfl⟩, e⟩
  refine ⟨?_, by have := pm.length_eq; rw [List.length_map] at this; exact this.symm⟩
  exact asc_unique (srt_asc _) (by unfold rimsL; exact srt_asc _) ((srt_perm _).trans pm)
theorem rims_rot {y : List Nat} (hy : YardOk y) (y2 : 2 ≤ y.length) {k : Nat} (hk : k ≤ y.length) : rimsL (rot y k) = rimsL y := by
  have rl := rot_len y k
  have h := rims_eq (F := id) hy (rot_yard hy k) y2 (by omega) (fun r hr => ⟨r, (rim_rot hy hk).mpr hr, rfl⟩) (fun s hs => ⟨s, (rim_rot hy hk).mp hs, rfl⟩) fun r s _ _ e => e
  rw [List.map_id] at h
  rw [← h.1]
  unfold rimsL
  exact asc_unique (srt_asc _) (srt_asc _) (srt_perm _)
theorem rim_at {z r : List Nat} (hz : YardOk z) (h2 : 2 ≤ z.length) (hr : IsRim z r) {x : Nat} (hx : x ∈ r) : ringL r = ringL (rimW z x) := by
  have hi := ixOf_lt hx
  have hg := (ixOf_spec hx).1
  have h1 := hr.rot_ (k := ixOf x r) (by omega)
  have e0 : lr (rot r (ixOf x r)) 0 = x := by
    unfold rot
    rw [lr_rot _ (by omega), Int.zero_add]
    exact lr_nat hg
  have h3 := h1.word hz h2
  rw [e0] at h3
  rw [← h3]
  exact ringL_same (Rt.rot_ (by omega))
theorem rims_over {y : List Nat} (hy : YardOk y) (y2 : 2 ≤ y.length) : rimsL y.reverse = srt ((rimsL y).map fun w => ring (turn w)) ∧ (rimsL y.reverse).length = (rimsL y).length := by
  have hr := rev_yard hy
  have r2 : 2 ≤ y.reverse.length := by rw [List.length_reverse]; exact y2
  have F1 : ∀ r, IsRim y r → ring (turn (ringL r)) = ringL (turn r) := fun r h => by
    have c := h.crz hy
    have W := c.W hy
    rw [← c.ring_ hy, ring_turn_ring W, (c.turn_ hy).ring_ hy]
  have h := rims_eq (F := fun w => ring (turn w)) hy hr y2 r2 (fun r h => ?_) (fun s h => ?_) (fun r s h1 h2 e => ?_)
  · exact ⟨h.1.symm, h.2⟩
  · have W := (h.crz hy).W hy
    refine ⟨turn r, (rim_rev hy (turn_W W)).mpr (by rw [turn_turn W]; exact h), F1 r h⟩
  · have W : IsW s := fun c hc => hr.let_ c (h.mem c hc)
    have t := rim_rev1 hy h
    refine ⟨turn s, t, ?_⟩
    show ring (turn (ringL (turn s))) = ringL s
    rw [F1 _ t, turn_turn W]
  · have e : ring (turn (ringL r)) = ring (turn (ringL s)) := e
    have W1 := (h1.crz hy).W hy
    have W2 := (h2.crz hy).W hy
    have c1 := h1.crz hy
    have c2 := h2.crz hy
    rw [← c1.ring_ hy, ← c2.ring_ hy, ring_turn_ring W1, ring_turn_ring W2] at e
    have k : ∀ w, IsW w → ring (turn (ring (turn w))) = ring w := fun w hw => by
      rw [ring_turn_ring (turn_W hw), turn_turn hw]
    rw [← c1.ring_ hy, ← c2.ring_ hy, ← k r W1, ← k s W2, e]
theorem map_yard {y : List Nat} {φ : Nat → Nat} (hy : YardOk y) (inj : ∀ a ∈ y, ∀ b ∈ y, φ a = φ b → a = b) (hc : ∀ c ∈ y, φ (con c) = con (φ c)) (hl : ∀ c ∈ y, IsL (φ c)) : YardOk (y.map φ) := by
  refine ⟨?_, fun c h => ?_, fun c h => ?_⟩
  · exact List.Pairwise.map _ (fun a b (hab : a ≠ b ∧ a ∈ y ∧ b ∈ y) e => hab.1 (inj a hab.2.1 b hab.2.2 e)) ((show y.Pairwise (· ≠ ·) from hy.nd).imp_of_mem fun ha hb hab => ⟨hab, ha, hb⟩)
  · obtain ⟨d, hd, rfl⟩ := List.mem_map.mp h
    exact hl d hd
  · obtain ⟨d, hd, rfl⟩ := List.mem_map.mp h
    rw [← hc d hd]
    exact List.mem_map_of_mem (hy.con_ d hd)
theorem rims_called {y : List Nat} {φ : Nat → Nat} (hy : YardOk y) (y2 : 2 ≤ y.length) (inj : ∀ a ∈ y, ∀ b ∈ y, φ a = φ b → a = b) (hc : ∀ c ∈ y, φ (con c) = con (φ c)) (hl : ∀ c ∈ y, IsL (φ c)) : rimsL (y.map φ) = srt ((rimsL y).map fun w => ring (w.map φ)) ∧ (rimsL (y.map φ)).length = (rimsL y).length := by
  have hm := map_yard hy inj hc hl
  have m2 : 2 ≤ (y.map φ).length := by rw [List.length_map]; exact y2
  have rm : ∀ (v : List Nat) (k : Nat), (rot v k).map φ = rot (v.map φ) k := fun v k => by
    unfold rot
    rw [List.map_append, List.map_drop, List.map_take]
  have F1 : ∀ r, IsRim y r → IsRim (y.map φ) (r.map φ) ∧ ring ((ringL r).map φ) = ringL (r.map φ) := fun r h => by
    have h' := (rim_mapI hy inj hc h.mem).mpr h
    have c := h'.crz hm
    have W := c.W hm
    obtain ⟨k, hk, e⟩ := ringL_rot h.ne
    refine ⟨h', ?_⟩
    rw [e, rm, ← ring_rot W (Rt.rot_ (a := r.map φ) (k := k) (by rw [List.length_map]; omega)), c.ring_ hm]
  have pull : ∀ s : List Nat, (∀ c ∈ s, c ∈ y.map φ) → ∃ r : List Nat, (∀ c ∈ r, c ∈ y) ∧ r.map φ = s := fun s => by
    induction s with
    | nil => intro _; exact ⟨[], by simp, rfl⟩
    | cons a s ih =>
      intro h
      obtain ⟨d, hd, e⟩ := List.mem_map.mp (h a (by simp))
      obtain ⟨r, h1, h2⟩ := ih fun c hc => h c (List.mem_cons_of_mem _ hc)
      exact ⟨d :: r, fun c hc => (List.mem_cons.mp hc).elim (fun z => z ▸ hd) (h1 c), by rw [List.map_cons, e, h2]⟩
  have h := rims_eq (F := fun w => ring (w.map φ)) hy hm y2 m2 (fun r h => ⟨_, F1 r h⟩) (fun s h => ?_) (fun r s h1 h2 e => ?_)
  · exact ⟨h.1.symm, h.2⟩
  · obtain ⟨r, h1, rfl⟩ := pull s h.mem
    have hr := (rim_mapI hy inj hc h1).mp h
    exact ⟨r, hr, (F1 r hr).2⟩
  · have e : ring ((ringL r).map φ) = ring ((ringL s).map φ) := e
    rw [(F1 r h1).2, (F1 s h2).2] at e
    obtain ⟨x, hx⟩ := List.exists_mem_of_ne_nil r h1.ne
    obtain ⟨k, hk, e1⟩ := ringL_rot (F1 r h1).1.ne
    obtain ⟨j, hj, e2⟩ := ringL_rot (F1 s h2).1.ne
    have mr : ∀ (l : List Nat) (k c : Nat), c ∈ rot l k ↔ c ∈ l := fun l k c => (rot_permY l k).mem_iff
    have : φ x ∈ s.map φ := by
      rw [← mr _ j, ← e2, ← e, e1, mr]
      exact List.mem_map_of_mem hx
    obtain ⟨x', hx', ex⟩ := List.mem_map.mp this
    have := inj x' (h2.mem _ hx') x (h1.mem _ hx) ex
    subst this
    rw [rim_at hy y2 h1 hx, rim_at hy y2 h2 hx']
set_option maxRecDepth 100000
set_option maxHeartbeats 1000000
def dnvC (a : Option D) (b : Option (List (List Nat))) (e : En) (h : HB (R → En → Prop)) : Prop := match a, b with
  | some (.str y), some ws => h.b (.d (.bl (!decide (y ∈ ws)))) e
  | _, _ => False
theorem x_dnv {ti to x e Q} : tDNV ti to x e Q = ti x e fun ri e1 => hold ri e1 fun ri e1 => to x e1 fun r e2 => opt (kgetR r e2) (HB.mk (fun kvs => dnvC (rv ri e2) (strL (kvs.map (·.2))) e2 (HB.mk Q ())) ()) := by
  unfold tDNV opt dnvC
  congr 1; funext ri e1
  congr 1; funext ri e1
  congr 1; funext r e2
  cases kgetR r e2 <;> rfl
theorem x_dnvC {y ws e Q} : dnvC (some (.str y)) (some ws) e (HB.mk Q ()) = Q (.d (.bl (!decide (y ∈ ws)))) e := rfl
def dmp (pre : List Nat) (c : Nat) : Prop := c ∈ pre ∨ con c ∈ pre
structure Nv (y z pre : List Nat) (kvs : List (Key × D)) (ws : List Nat) (φ : Nat → Nat) : Prop where
  vs : kvs.map (·.2) = ws.map fun c => D.str [c]
  few : kvs.length ≤ (y.filter fun c => decide (c ∈ pre) || decide (con c ∈ pre)).length
  yes : ∀ c, IsL c → dmp pre c → getK kvs (kS [c]) = some (.str [φ c])
  no : ∀ c, IsL c → ¬ dmp pre c → getK kvs (kS [c]) = none
  im : ∀ c, IsL c → dmp pre c → φ c ∈ ws ∧ φ (con c) = con (φ c)
  sub : ∀ c ∈ ws, c ∈ z ∧ con c ∈ ws
  inj : ∀ c d, IsL c → IsL d → dmp pre c → dmp pre d → φ c = φ d → c = d
theorem setK_none {l : List (Key × D)} {k : Key} {d : D} (h : getK l k = none) : setK l k d = l ++ [(k, d)] := by
  unfold setK
  rw [if_neg]
  unfold getK at h
  have h : l.find? (fun kv => decide (kv.1 = k)) = none := by
    cases e : l.find? (fun kv => decide (kv.1 = k)) with
    | none => rfl
    | some a => rw [e] at h; cases h
  rw [List.find?_eq_none] at h
  intro z
  obtain ⟨a, ha, e⟩ := List.any_eq_true.mp z
  exact h a ha e
theorem Nv.nil (y z : List Nat) : Nv y z [] [] [] id := by
  have no : ∀ c, ¬ dmp [] c := fun c z => by unfold dmp at z; simp at z
  exact ⟨rfl, Nat.zero_le _, fun c _ h => absurd h (no c), fun _ _ _ => rfl, fun c _ h => absurd h (no c), fun c h => by simp at h, fun c _ _ _ h => absurd h (no c)⟩
theorem dmp_con {pre : List Nat} {c : Nat} (hc : IsL c) : dmp pre (con c) ↔ dmp pre c := by
  unfold dmp
  rw [con_con hc]
  exact Or.comm
theorem dmp_snoc {pre : List Nat} {c d : Nat} (hc : IsL c) (hd : IsL d) : dmp (pre ++ [c]) d ↔ (dmp pre d ∨ d = c ∨ d = con c) := by
  unfold dmp
  simp only [List.mem_append, List.mem_singleton]
  have : (con d = c) ↔ d = con c := ⟨fun e => by rw [← e, con_con hd], fun e => by rw [e, con_con hc]⟩
  rw [this]
  constructor
  · rintro ((h | h) | (h | h))
    · exact .inl (.inl h)
    · exact .inr (.inl h)
    · exact .inl (.inr h)
    · exact .inr (.inr h)
  · rintro ((h | h) | h | h)
    · exact .inl (.inl h)
    · exact .inr (.inl h)
    · exact .inl (.inr h)
    · exact .inr (.inr h)
theorem fil_mono {y pre : List Nat} {c : Nat} : (y.filter fun d => decide (d ∈ pre) || decide (con d ∈ pre)).length ≤ (y.filter fun d => decide (d ∈ pre ++ [c]) || decide (con d ∈ pre ++ [c])).length := by
  rw [← List.countP_eq_length_filter, ← List.countP_eq_length_filter]
  refine List.countP_mono_left fun d _ h => ?_
  simp only [Bool.or_eq_true, decide_eq_true_eq, List.mem_append] at h ⊢
  rcases h with h | h
  · exact .inl (.inl h)
  · exact .inr (.inl h)
theorem Nv.skip {y z pre : List Nat} {kvs : List (Key × D)} {ws : List Nat} {φ : Nat → Nat} (h : Nv y z pre kvs ws φ) {c : Nat} (hc : IsL c) (hd : dmp pre c) : Nv y z (pre ++ [c]) kvs ws φ := by
  have key : ∀ d, IsL d → (dmp (pre ++ [c]) d ↔ dmp pre d) := fun d hl => by
    rw [dmp_snoc hc hl]
    constructor
    · rintro (z | z | z)
      · exact z
      · rw [z]; exact hd
      · rw [z]; exact (dmp_con hc).mpr hd
    · exact .inl
  exact ⟨h.vs, Nat.le_trans h.few fil_mono, fun d hl hd => h.yes d hl ((key d hl).mp hd), fun d hl hd => h.no d hl fun z => hd ((key d hl).mpr z), fun d hl hd => h.im d hl ((key d hl).mp hd), h.sub,
    fun d e hl he hd h2 => h.inj d e hl he ((key d hl).mp hd) ((key e he).mp h2)⟩
theorem kS1v {a b : Nat} : (kS [a] = kS [b]) = (a = b) := by rw [kS_eq]; simp
/-- at a band that has no name yet fewer than eight are given -/
theorem Nv.room {y z pre : List Nat} {kvs : List (Key × D)} {ws : List Nat} {φ : Nat → Nat} (h : Nv y z pre kvs ws φ) (hy : YardOk y) {c : Nat} (hc : c ∈ y) (hd : ¬ dmp pre c) : ws.length + 2 ≤ y.length := by
  have e : ws.length = kvs.length := by have := congrArg List.length h.vs; simpa using this.symm
  have L := hy.let_ c hc
  have key : (y.filter fun d => decide (d ∈ pre) || decide (con d ∈ pre)).length + ([c, con c] : List Nat).length ≤ y.length := by
    rw [← List.length_append]
    refine nd_len ?_ ?_
    · rw [List.nodup_append]
      refine ⟨hy.nd.filter _, by simp; exact fun z => con_ne L z.symm, fun a ha b hb => ?_⟩
      have ha := (List.mem_filter.mp ha).2
      simp only [Bool.or_eq_true, decide_eq_true_eq] at ha
      simp only [List.mem_cons, List.not_mem_nil, or_false] at hb
      rintro rfl
      rcases hb with rfl | rfl
      · exact hd ha
      · exact hd ((dmp_con L).mp ha)
    · intro a ha
      rcases List.mem_append.mp ha with ha | ha
      · exact (List.mem_filter.mp ha).1
      · simp only [List.mem_cons, List.not_mem_nil, or_false] at ha
        rcases ha with rfl | rfl
        · exact hc
        · exact hy.con_ _ hc
  have := h.few
  simp at key
  omega
theorem Nv.step {y z pre : List Nat} {kvs : List (Key × D)} {ws : List Nat} {φ : Nat → Nat} (h : Nv y z pre kvs ws φ) (hy : YardOk y) (hz : YardOk z) {c m : Nat} (hcy : c ∈ y) (hd : ¬ dmp pre c) (hm : m ∈ z) (mw : m ∉ ws) :
    Nv y z (pre ++ [c]) (setK (setK kvs (kS [c]) (.str [m])) (kS [con c]) (.str [con m])) (ws ++ [m, con m]) (fun x => if x = c then m else if x = con c then con m else φ x) := by
  have hc := hy.let_ c hcy
  have mL := hz.let_ m hm
  have cc := con_ne hc
  have cl := con_L hc
  have dc : ¬ dmp pre (con c) := fun z => hd ((dmp_con hc).mp z)
  have n1 := h.no c hc hd
  have n2 := h.no (con c) cl dc
  have s1 : setK kvs (kS [c]) (.str [m]) = kvs ++ [(kS [c], .str [m])] := setK_none n1
  have n3 : getK (setK kvs (kS [c]) (.str [m])) (kS [con c]) = none := by
    rw [getK_set]
    simp only [kS1v]
    rw [if_neg cc, n2]
  have s2 : setK (setK kvs (kS [c]) (.str [m])) (kS [con c]) (.str [con m]) = kvs ++ [(kS [c], .str [m]), (kS [con c], .str [con m])] := by
    rw [setK_none n3, s1, List.append_assoc]
    rfl
  have gk : ∀ d, getK (setK (setK kvs (kS [c]) (.str [m])) (kS [con c]) (.str [con m])) (kS [d]) = if d = con c then some (.str [con m]) else if d = c then some (.str [m]) else getK kvs (kS [d]) := fun d => by
    rw [getK_set, getK_set]
    simp only [kS1v]
  have cmw : con m ∉ ws := fun z => by
    have := (h.sub _ z).2
    rw [con_con mL] at this
    exact mw this
  have old : ∀ d, IsL d → dmp pre d → φ d ≠ m ∧ φ d ≠ con m := fun d hl h1 => ⟨fun e => mw (e ▸ (h.im d hl h1).1), fun e => cmw (e ▸ (h.im d hl h1).1)⟩
  have ph : ∀ d, dmp pre d → (if d = c then m else if d = con c then con m else φ d) = φ d := fun d h1 => by
    rw [if_neg (fun e : d = c => hd (by rw [← e]; exact h1)), if_neg (fun e : d = con c => dc (by rw [← e]; exact h1))]
  refine ⟨?_, ?_, fun d hl h1 => ?_, fun d hl h1 => ?_, fun d hl h1 => ?_, fun d h1 => ?_, fun d e hl he h1 h2 eq => ?_⟩
  · rw [s2, List.map_append, List.map_append, h.vs]
    rfl
  · have key : (y.filter fun d => decide (d ∈ pre) || decide (con d ∈ pre)).length + ([c, con c] : List Nat).length ≤ (y.filter fun d => decide (d ∈ pre ++ [c]) || decide (con d ∈ pre ++ [c])).length := by
      rw [← List.length_append]
      refine nd_len ?_ ?_
      · rw [List.nodup_append]
        refine ⟨hy.nd.filter _, by simp; exact fun z => cc z.symm, fun a ha b hb => ?_⟩
        have ha := (List.mem_filter.mp ha).2
        simp only [Bool.or_eq_true, decide_eq_true_eq] at ha
        simp only [List.mem_cons, List.not_mem_nil, or_false] at hb
        rintro rfl
        rcases hb with rfl | rfl
        · exact hd ha
        · exact dc ha
      · intro a ha
        rw [List.mem_filter]
        rcases List.mem_append.mp ha with ha | ha
        · have ha := List.mem_filter.mp ha
          refine ⟨ha.1, ?_⟩
          have h2 := ha.2
          simp only [Bool.or_eq_true, decide_eq_true_eq, List.mem_append] at h2 ⊢
          rcases h2 with h2 | h2
          · exact .inl (.inl h2)
          · exact .inr (.inl h2)
        · simp only [List.mem_cons, List.not_mem_nil, or_false] at ha
          rcases ha with rfl | rfl
          · exact ⟨hcy, by simp⟩
          · exact ⟨hy.con_ _ hcy, by simp [con_con hc]⟩
    have hf := h.few
    rw [s2, List.length_append]
    simp only [List.length_cons, List.length_nil] at key ⊢
    omega
  · rw [gk]
    rcases (dmp_snoc hc hl).mp h1 with h1 | rfl | rfl
    · rw [if_neg (fun e : d = con c => dc (e ▸ h1)), if_neg (fun e : d = c => hd (e ▸ h1)), h.yes d hl h1, ph d h1]
    · rw [if_neg cc.symm, if_pos rfl, if_pos rfl]
    · rw [if_pos rfl, if_neg cc, if_pos rfl]
  · have h2 : ¬ dmp pre d := fun z => h1 ((dmp_snoc hc hl).mpr (.inl z))
    have e1 : ¬ d = c := fun z => h1 ((dmp_snoc hc hl).mpr (.inr (.inl z)))
    have e2 : ¬ d = con c := fun z => h1 ((dmp_snoc hc hl).mpr (.inr (.inr z)))
    rw [gk, if_neg e2, if_neg e1, h.no d hl h2]
  · rcases (dmp_snoc hc hl).mp h1 with h1 | rfl | rfl
    · have h3 := (dmp_con hl).mpr h1
      rw [ph d h1, ph (con d) h3]
      exact ⟨List.mem_append_left _ (h.im d hl h1).1, (h.im d hl h1).2⟩
    · rw [if_pos rfl, if_neg cc, if_pos rfl]
      exact ⟨by simp, rfl⟩
    · rw [if_neg cc, if_pos rfl, con_con hc, if_pos rfl, con_con mL]
      exact ⟨by simp, rfl⟩
  · rcases List.mem_append.mp h1 with h1 | h1
    · exact ⟨(h.sub d h1).1, List.mem_append_left _ (h.sub d h1).2⟩
    · simp only [List.mem_cons, List.not_mem_nil, or_false] at h1
      rcases h1 with rfl | rfl
      · exact ⟨hm, by simp⟩
      · exact ⟨hz.con_ _ hm, by simp [con_con mL]⟩
  · have mc := con_ne mL
    have g1 := (dmp_snoc hc hl).mp h1
    have g2 := (dmp_snoc hc he).mp h2
    clear h1 h2
    rcases g1 with h1 | e1 | e1 <;> rcases g2 with h2 | e2 | e2
    · rw [ph d h1, ph e h2] at eq
      exact h.inj d e hl he h1 h2 eq
    · rw [ph d h1, e2, if_pos rfl] at eq
      exact absurd eq (old d hl h1).1
    · rw [ph d h1, e2, if_neg cc, if_pos rfl] at eq
      exact absurd eq (old d hl h1).2
    · rw [ph e h2, e1, if_pos rfl] at eq
      exact absurd eq.symm (old e he h2).1
    · rw [e1, e2]
    · rw [e1, e2, if_pos rfl, if_neg cc, if_pos rfl] at eq
      exact absurd eq.symm mc
    · rw [ph e h2, e1, if_neg cc, if_pos rfl] at eq
      exact absurd eq.symm (old e he h2).2
    · rw [e1, e2, if_neg cc, if_pos rfl, if_pos rfl] at eq
      exact absurd eq mc
    · rw [e1, e2]
set_option maxRecDepth 100000
set_option maxHeartbeats 1000000
local macro_rules | `(tactic| simpa?! only [$xs,*]) => `(tactic| simpa! only [↓x_fld, ↓x_kF, ↓x_kSF, ↓x_sfldZ, ↓x_sfldP, ↓x_kpd, ↓x_kpo, ↓x_kpK, ↓x_kpT, ↓x_kpC, ↓x_kpn, ↓x_2O, ↓x_k2adO, ↓x_k2aoO, ↓x_k2anO, ↓x_k2bO, ↓x_k2cO, ↓x_im, ↓x_kIM, ↓x_make, ↓x_kMk, ↓x_gtN, ↓x_methT, ↓x_kMTd, ↓x_mT1, ↓x_prK, ↓x_ixT, ↓x_prI, ↓x_splitA, ↓x_strI, ↓x_intS, ↓x_fs3, ↓x_f3I, ↓x_zipS, ↓x_parO, ↓x_asgZ, ↓x_asgK, ↓x_gd, ↓x_kGD, ↓x_case, ↓x_imX, ↓x_kIMX, ↓x_lcX, ↓x_ksr, ↓x_msr, ↓x_disp2, ↓x_kD2, ↓x_dgk2, ↓x_kG2, ↓x_clear, ↓x_kin, ↓x_kKI, ↓x_khas, ↓x_kKH, ↓x_igt, ↓x_izg, ↓x_kIG, ↓x_tzC, ↓x_tz, ↓x_split1, ↓x_strAi, ↓x_strAs, ↓x_forL, ↓x_callPS, ↓x_lcL, ↓x_remD, ↓x_slw, ↓x_listK, ↓x_lkH, ↓x_slwD, ↓x_retRep, ↓x_listRv, ↓x_lrCl, ↓x_lrCs, $xs,*])
def m_law_called : PM := fun ds st Q => match ds with
  | [.box, .str y] => YardOk y ∧ y.length ≤ 8 ∧ ∀ (kvs : List (Key × D)) (φ : Nat → Nat), (∀ c ∈ y, getK kvs (kS [c]) = some (.str [φ c])) → (∀ a ∈ y, ∀ b ∈ y, φ a = φ b → a = b) → (∀ c ∈ y, φ (con c) = con (φ c)) → (∀ c ∈ y, IsL (φ c)) → Q (.dK kvs) st
  | _ => False
theorem called11_i {y : List Nat} {st : Sto} {Q : C → Sto → Prop} (hy : YardOk y) (h8 : y.length ≤ 8) (q : ∀ (kvs : List (Key × D)) (φ : Nat → Nat), (∀ c ∈ y, getK kvs (kS [c]) = some (.str [φ c])) → (∀ a ∈ y, ∀ b ∈ y, φ a = φ b → a = b) → (∀ c ∈ y, φ (con c) = con (φ c)) → (∀ c ∈ y, IsL (φ c)) → Q (.dK kvs) st) : m_law_called [.box, .str y] st Q := ⟨hy, h8, q⟩
def t_law_called : PTS := sSeq (sAsg 2 (tCall0 m_law_yard (tCons (tName 0) (tCons (tD (.int 4)) (tCons (tD (.int 4)) (tNil)))))) (sSeq (sAsg 3 (tDict0)) (sSeq (sFor (iAny (tName 1)) (gName 4) (sIf (tB (tDI true (tName 4) (tName 3))) (sSeq (sAsg 5 (cLc (iAny (tName 2)) (gName 6) (tB (tDNV (tName 6) (tName 3))) (tName 6) [6])) (sSeq (sDPt (t2 (tName 5) (tCall0 m_law_take (tCons (tName 0) (tCons (tCallP pLen (rCons (tName 5) (rNil))) (tNil)))) pIx) (tName 3) (tName 4)) (sDPt (tCall0 m_law_other (tCons (tDG (tName 3) (tName 4)) (tNil))) (tName 3) (tCall0 m_law_other (tCons (tName 4) (tNil)))))) (sNext))) (sRet (tName 3))))
abbrev N_law_called : List Str := ["_law_box_here", "_law_yard_here", "_law_fresh", "_law_found", "_law_end", "_law_left", "_law_letter"]
theorem len_law_called (ds : List D) (s : Sto) (Q : C → Sto → Prop) (h : m_law_called ds s Q) : ds.length = 2 := by
  unfold m_law_called at h
  split at h
  · rfl
  · exact h.elim
theorem p_law_called (ds : List D) (s : Sto) (Q : C → Sto → Prop) (h : m_law_called ds s Q) : t_law_called noX { nx := fun e => Q (.d .non) e.st, rt := fun c e => Q c e.st } ⟨startC N_law_called ds, s⟩ := by
  unfold m_law_called at h
  split at h
  · rename_i y
    obtain ⟨hy, y8, q⟩ := h
    unfold t_law_called
    simpa?! only [e_yard]
    intro z hz z1 z2
    refine forH_signs y (fun pre suf e => ∃ (kvs : List (Key × D)) (ws : List Nat) (φ : Nat → Nat) (c4 c5 : C), e = ⟨[.d .box, .d (.str y), .d (.str z), .dK kvs, c4, c5, .un], s⟩ ∧ Nv y z pre kvs ws φ) ⟨[], [], id, _, _, rfl, Nv.nil y z⟩ ?_ ?_
    · rintro e ⟨kvs, ws, φ, c4, c5, rfl, hn⟩
      simpa?! only []
      have L := hy.let_
      refine q kvs φ (fun c hc => hn.yes c (L c hc) (.inl hc)) (fun a ha b hb e => hn.inj a b (L a ha) (L b hb) (.inl ha) (.inl hb) e) (fun c hc => (hn.im c (L c hc) (.inl hc)).2) fun c hc => ?_
      exact hz.let_ _ (hn.sub _ (hn.im c (L c hc) (.inl hc)).1).1
    · rintro pre c suf e hps ⟨kvs, ws, φ, c4, c5, rfl, hn⟩ N hN
      have hcy : c ∈ y := by rw [← hps]; simp
      have hc := hy.let_ c hcy
      simpa?! only []
      by_cases hd : dmp pre c
      · rw [hn.yes c hc hd]
        refine br_neg rfl ?_
        simpa?! only []
        exact hN _ ⟨kvs, ws, φ, _, _, rfl, hn.skip hc hd⟩
      · rw [hn.no c hc hd]
        refine br_pos rfl ?_
        have rm := hn.room hy hcy hd
        have hs : strL (kvs.map (·.2)) = some (ws.map fun c => [c]) := by
          rw [hn.vs, show (ws.map fun c => D.str [c]) = (ws.map fun c => [c]).map D.str by rw [List.map_map]; rfl]
          exact strL_map _
        simpa?! only []
        refine ⟨by rw [signs_len]; omega, ?_⟩
        refine lcH_filter (fun d => match d with | .str [c] => !decide (c ∈ ws) | _ => false) (fun d => d) (fun d hd2 K kk => ?_) ?_
        · obtain ⟨l, hl, rfl⟩ := List.mem_map.mp hd2
          have el : decide ([l] ∈ ws.map fun c => [c]) = decide (l ∈ ws) := by
            refine decide_eq_decide.mpr ⟨fun z => ?_, fun z => List.mem_map_of_mem z⟩
            obtain ⟨a, ha, e⟩ := List.mem_map.mp z
            cases e
            exact ha
          simpa?! only [x_dnv, hs, x_dnvC, el]
          by_cases hw : l ∈ ws
          · refine br_neg (by rw [decide_eq_true hw]; rfl) ?_
            have kk : K (if (!decide (l ∈ ws)) = true then some (.str [l]) else none) _ := kk
            rw [decide_eq_true hw] at kk
            exact kk
          · refine br_pos (by rw [decide_eq_false hw]; rfl) ?_
            have kk : K (if (!decide (l ∈ ws)) = true then some (.str [l]) else none) _ := kk
            rw [decide_eq_false hw] at kk
            simpa?! only []
            exact kk
        rw [List.map_id']
        have hF : ∀ d ∈ (signs z).filter (fun d => match d with | .str [c] => !decide (c ∈ ws) | _ => false), ∃ m, d = .str [m] ∧ m ∈ z ∧ m ∉ ws := fun d hd3 => by
          obtain ⟨h1, h2⟩ := List.mem_filter.mp hd3
          obtain ⟨m, hm, rfl⟩ := List.mem_map.mp h1
          refine ⟨m, rfl, hm, fun z => ?_⟩
          have h2 : (!decide (m ∈ ws)) = true := h2
          rw [decide_eq_true z] at h2
          cases h2
        have hp : 0 < ((signs z).filter (fun d => match d with | .str [c] => !decide (c ∈ ws) | _ => false)).length := by
          refine List.length_pos_iff.mpr fun e => ?_
          rw [List.filter_eq_nil_iff] at e
          have all : ∀ m ∈ z, m ∈ ws := fun m hm => by
            have := e (.str [m]) (List.mem_map_of_mem hm)
            have h3 : ¬ (!decide (m ∈ ws)) = true := this
            by_cases hw : m ∈ ws
            · exact hw
            · exact absurd (by rw [decide_eq_false hw]; rfl) h3
          have := nd_len hz.nd all
          omega
        have hq : ((signs z).filter (fun d => match d with | .str [c] => !decide (c ∈ ws) | _ => false)).length ≤ 8 := Nat.le_trans (List.length_filter_le _ _) (by rw [signs_len]; omega)
        generalize (signs z).filter (fun d => match d with | .str [c] => !decide (c ∈ ws) | _ => false) = F at hF hp hq ⊢
        simpa?! only [e_take]
        refine ⟨by omega, by omega, fun i i0 i1 => ?_⟩
        obtain ⟨k, rfl⟩ := Int.eq_ofNat_of_zero_le i0
        have hk : k < F.length := by omega
        obtain ⟨m, em, hm, mw⟩ := hF _ (List.getElem_mem hk)
        have eg : F[k]? = some (.str [m]) := by rw [List.getElem?_eq_getElem hk, em]
        refine opt_of (atI_nat eg) ?_
        have mL := hz.let_ m hm
        have cm : ∀ {s Q}, m_law_other [.str [m]] s Q = Q (.d (.str [con m])) s := fun {s Q} => @con_eq _ mL s Q
        have cc : ∀ {s Q}, m_law_other [.str [c]] s Q = Q (.d (.str [con c])) s := fun {s Q} => @con_eq _ hc s Q
        have wl : ws.length = kvs.length := by have := congrArg List.length hn.vs; simpa using this.symm
        have sl := setK_len kvs (kS [c]) (.str [m])
        simpa?! only [cm, cc]
        refine ⟨by omega, opt_of (a := .str [m]) (by rw [getK_set, if_pos rfl]) ?_⟩
        simpa?! only [cm, cc]
        refine ⟨by omega, hN _ ⟨_, _, _, _, _, rfl, hn.step hy hz hcy hd hm mw⟩⟩
  · exact h.elim
set_option maxRecDepth 100000
set_option maxHeartbeats 1000000
def Three (y : List Nat) (d : D) : Prop := ∃ a b c : Nat, d = .lst [.str [a], .str [b], .str [c]] ∧ a ∈ y ∧ b ∈ y ∧ c ∈ y ∧ a ≠ b ∧ b ≠ c ∧ a ≠ c
def m_law_threes : PM := fun ds st Q => match ds with
  | [.box, .str y] => YardOk y ∧ y.length ≤ 8 ∧ ∀ L : List D, L.length ≤ 8 → (∀ d ∈ L, Three y d) → Q (.own L) st
  | _ => False
theorem threes_i {y : List Nat} {st : Sto} {Q : C → Sto → Prop} (hy : YardOk y) (h8 : y.length ≤ 8) (q : ∀ L : List D, L.length ≤ 8 → (∀ d ∈ L, Three y d) → Q (.own L) st) : m_law_threes [.box, .str y] st Q := ⟨hy, h8, q⟩
theorem three_at {ws : List Nat} {k : Nat} (h : k + 2 < ws.length) : (List.take (k + 3) (signs ws)).drop k = [.str [ws[k]], .str [ws[k + 1]], .str [ws[k + 2]]] := by
  have e : (ws.take (k + 3)).drop k = [ws[k], ws[k + 1], ws[k + 2]] := by
    rw [List.drop_take, show k + 3 - k = 3 by omega, List.drop_eq_getElem_cons (by omega), List.drop_eq_getElem_cons (by omega), List.drop_eq_getElem_cons (by omega)]
    rfl
  unfold signs
  rw [← List.map_take, ← List.map_drop, e]
  rfl
def t_law_threes : PTS := sSeq (sAsg 2 (tCall0 m_law_order (tCons (tName 0) (tCons (tName 1) (tNil))))) (sRet (cLc (iPure pRng1 (rCons (t2 (tCallP pLen (rCons (tName 2) (rNil))) (tD (.int 2)) pSub) (rNil))) (gName 3) (cYes) (tSl (tName 2) (oSome (tName 3)) (oSome (t2 (tName 3) (tD (.int 3)) pAdd))) [3]))
abbrev N_law_threes : List Str := ["_law_box_here", "_law_yard_here", "_law_ends", "_law_k"]
theorem len_law_threes (ds : List D) (s : Sto) (Q : C → Sto → Prop) (h : m_law_threes ds s Q) : ds.length = 2 := by
  unfold m_law_threes at h
  split at h
  · rfl
  · exact h.elim
theorem p_law_threes (ds : List D) (s : Sto) (Q : C → Sto → Prop) (h : m_law_threes ds s Q) : t_law_threes noX { nx := fun e => Q (.d .non) e.st, rt := fun c e => Q c e.st } ⟨startC N_law_threes ds, s⟩ := by
  unfold m_law_threes at h
  split at h
  · rename_i y
    obtain ⟨hy, y8, q⟩ := h
    unfold t_law_threes
    simpa?! only [e_orderS]
    refine ⟨by rw [signs_len]; omega, fun ys hp => ?_⟩
    obtain ⟨ws, rfl, hw⟩ := perm_signs hp
    have wl := hw.length_eq
    have wn : ws.Nodup := hw.nodup_iff.mpr hy.nd
    rw [signs_len]
    refine ⟨by omega, by rw [rngI_length]; omega, ?_⟩
    refine lcH_rel (fun _ d => Three y d) (fun d hd K k => ?_) fun L hL => ?_
    · obtain ⟨i, hi, rfl⟩ := rngI_mem hd
      have hi : i + 2 < ws.length := by omega
      rw [show (0 : Int) + (i : Int) = (i : Int) by omega]
      simpa?! only []
      have e3 : (i : Int) + 3 = ((i + 3 : Nat) : Int) := by omega
      have ec : cut (signs ws) (some (i : Int)) (some ((i : Int) + 3)) = [.str [ws[i]], .str [ws[i + 1]], .str [ws[i + 2]]] := by
        rw [e3, cut_mid, three_at hi]
      simpa?! only [ec]
      refine k _ ⟨_, _, _, rfl, hw.mem_iff.mp (List.getElem_mem _), hw.mem_iff.mp (List.getElem_mem _), hw.mem_iff.mp (List.getElem_mem _), fun z => ?_, fun z => ?_, fun z => ?_⟩
      · exact (List.pairwise_iff_getElem.mp wn i (i + 1) (by omega) (by omega) (by omega)) z
      · exact (List.pairwise_iff_getElem.mp wn (i + 1) (i + 2) (by omega) (by omega) (by omega)) z
      · exact (List.pairwise_iff_getElem.mp wn i (i + 2) (by omega) (by omega) (by omega)) z
    · simpa?! only []
      have hl := hL.length
      rw [rngI_length] at hl
      refine q L (by omega) fun d hd => ?_
      obtain ⟨i, hi⟩ := List.mem_iff_getElem?.mp hd
      obtain ⟨_, _, h⟩ := hL.get' hi
      exact h
  · exact h.elim
set_option maxRecDepth 100000
set_option maxHeartbeats 1000000
local macro_rules | `(tactic| simpa?! only [$xs,*]) => `(tactic| simpa! only [$xs,*])
def m_look_yard : PM := fun ds st Q => match ds with
  | [.str y] => YardOk y ∧ y ≠ [] ∧ y.length ≤ 8 ∧ Q (.d (.bl true)) st
  | _ => False
theorem e_look {y s Q} : m_look_yard [.str y] s Q = (YardOk y ∧ y ≠ [] ∧ y.length ≤ 8 ∧ Q (.d (.bl true)) s) := rfl
def t_look_yard : PTS := sSeq (sIf (tB (t2 (tName 0) (tD (.str [])) pEq)) (sNever) (sNext)) (sSeq (sFor (iEnumP (rCons (tName 0) (rNil))) (gTup 2 (gCons (gName 1) (gCons (gName 2) (gNil)))) (sIf (tOr (tB (t2 (tName 2) (t2 (tD (.str SM)) (tD (.str CP)) pAdd) (pIn true))) (tOr (tB (t2 (tName 2) (tSl (tName 0) (oNone) (oSome (tName 1))) (pIn false))) (tB (t2 (tName 1) (tD (.int 8)) pEq)))) (sNever) (sNext))) (sSeq (sFor (iEnumP (rCons (tName 0) (rNil))) (gTup 2 (gCons (gName 1) (gCons (gName 2) (gNil)))) (sIf (tB (t2 (tCall0 m_contrary (tCons (tName 2) (tNil))) (tName 0) (pIn true))) (sNever) (sNext))) (sRet (tD (.bl true)))))
abbrev N_look_yard : List Str := ["text", "at", "sign"]
theorem len_look_yard (ds : List D) (s : Sto) (Q : C → Sto → Prop) (h : m_look_yard ds s Q) : ds.length = 1 := by
  unfold m_look_yard at h
  split at h
  · rfl
  · exact h.elim
theorem p_look_yard (ds : List D) (s : Sto) (Q : C → Sto → Prop) (h : m_look_yard ds s Q) : t_look_yard noX { nx := fun e => Q (.d .non) e.st, rt := fun c e => Q c e.st } ⟨startC N_look_yard ds, s⟩ := by
  unfold m_look_yard at h
  split at h
  · rename_i y
    obtain ⟨hy, h0, hl, q⟩ := h
    unfold t_look_yard
    simpa?! only []
    refine br_neg (decide_eq_false h0) ?_
    simpa?! only []
    rw [enF_signs]
    refine forH_map (fun p : Nat × Nat => .tup [.int (p.1 : Nat), .str [p.2]]) (enF 0 y) (fun pr su e => ∃ c1 c2 : C, e = ⟨[.d (.str y), c1, c2], s⟩) ⟨_, _, rfl⟩ ?_ ?_
    · rintro e ⟨c1, c2, rfl⟩
      simpa?! only []
      rw [enF_signs]
      refine forH_map (fun p : Nat × Nat => .tup [.int (p.1 : Nat), .str [p.2]]) (enF 0 y) (fun pr su e => ∃ c1 c2 : C, e = ⟨[.d (.str y), c1, c2], s⟩) ⟨_, _, rfl⟩ ?_ ?_
      · rintro e ⟨c1, c2, rfl⟩
        simpa?! only []
        exact q
      · rintro pr p su e hp ⟨c1, c2, rfl⟩ N hN
        obtain ⟨g1, g2⟩ := enF_split hp
        have hc := List.mem_of_getElem? g2
        simpa?! only [e_contrary]
        refine ⟨hy.let_ _ hc, br_neg (by simp [hy.con_ _ hc]) ?_⟩
        simpa?! only []
        exact hN _ ⟨_, _, rfl⟩
    · rintro pr p su e hp ⟨c1, c2, rfl⟩ N hN
      obtain ⟨g1, g2⟩ := enF_split hp
      have hc := List.mem_of_getElem? g2
      have hi := (List.getElem?_eq_some_iff.mp g2).1
      rw [Nat.zero_add] at g1
      simpa?! only []
      refine ⟨by decide, br_neg (by simp only [L_SMCP (hy.let_ _ hc), decide_true, Bool.not_true]) ?_⟩
      simpa?! only [cut_take]
      have hd : p.2 ∈ y.drop p.1 := by
        rw [g1]
        exact List.mem_of_getElem? (i := 0) (by rw [List.getElem?_drop]; exact g2)
      refine br_neg (decide_eq_false fun z => take_drop_dis hy.nd z hd) ?_
      simpa?! only []
      refine br_neg (decide_eq_false (by omega)) ?_
      simpa?! only []
      exact hN _ ⟨_, _, rfl⟩
  · exact h.elim
set_option maxRecDepth 100000
set_option maxHeartbeats 1000000
def ixA {α : Type} [DecidableEq α] (a : α) : List α → Nat
  | [] => 0
  | b :: l => if b = a then 0 else ixA a l + 1
def lastI (i n : Nat) : Nat := if i = 0 then n - 1 else i - 1
set_option maxRecDepth 100000
set_option maxHeartbeats 1000000
set_option maxRecDepth 100000
set_option maxHeartbeats 1000000
theorem Dr.perm {y z : List Nat} {ws : List (List Nat)} {os : List (List Sd)} (h : Dr y ws os) (p : z.Perm y) : Dr z ws os :=
  ⟨h.yd.perm p, by rw [p.length_eq]; exact h.few, h.ws1, h.ws2, fun w hw c hc => p.mem_iff.mpr (h.lets w hw c hc), by rw [band_eq p]; exact h.ord⟩
set_option maxRecDepth 100000
set_option maxHeartbeats 1000000
def lAt (ws : List (List Nat)) (x : Sd) : Nat := (wAt ws x.1).getD x.2 0
def prevC (ws : List (List Nat)) (x : Sd) : Sd := (x.1, lastI x.2 (wAt ws x.1).length)
def inP (ws : List (List Nat)) (x : Sd) : Pt := (x.1, (prevC ws x).2, con (lAt ws (prevC ws x)))
def outP (ws : List (List Nat)) (x : Sd) : Pt := (x.1, x.2, lAt ws x)
def chord (pl : List Pt) (ws : List (List Nat)) (x : Sd) : Nat × Nat := (ixA (inP ws x) pl, ixA (outP ws x) pl)
set_option maxRecDepth 100000
set_option maxHeartbeats 1000000
section
variable {y : List Nat} {ws : List (List Nat)} {os : List (List Sd)}
def pos (y : List Nat) (os : List (List Sd)) (p : Pt) : Nat := ixA p (pts y os)
def mkP (a : Nat) (s : Sd) : Pt := (s.1, s.2, a)
end
set_option maxRecDepth 100000
set_option maxHeartbeats 1000000
section
variable {y : List Nat} {ws : List (List Nat)} {os : List (List Sd)}
theorem ix_ne {a b : Nat} (ha : a ∈ y) (hb : b ∈ y) (h : a ≠ b) : ixOf a y ≠ ixOf b y := fun e => h (ixOf_inj ha hb e)
variable {s t : Int → Sd} {f g : Int → Nat}
def od (y : List Nat) (os : List (List Sd)) (s : Int → Sd) (f : Int → Nat) (t : Int → Sd) (k : Int) : Bool := decide (pos y os (mkP (f k) (s k)) < pos y os (mkP (f k) (t k)))
end
set_option maxRecDepth 100000
set_option maxHeartbeats 1000000
section
variable {y : List Nat} {ws : List (List Nat)} {os : List (List Sd)}
def cr_ (ws : List (List Nat)) (c : Nat) (i : Int) : Sd := (c, (i % ((wAt ws c).length : Int)).toNat)
def ch (y : List Nat) (ws : List (List Nat)) (os : List (List Sd)) (x : Sd) : Nat × Nat := chord (pts y os) ws x
def AlP (ws : List (List Nat)) (c : Nat) (i : Int) (d : Nat) (j : Int) (m : Nat) (x z : Sd) : Prop := ∃ k : Nat, k ≤ m ∧ x = cr_ ws c (i + k) ∧ z = cr_ ws d (j + k)
def AgP (ws : List (List Nat)) (c : Nat) (i : Int) (d : Nat) (j : Int) (m : Nat) (x z : Sd) : Prop := ∃ k : Nat, k ≤ m ∧ x = cr_ ws c (i + k) ∧ z = cr_ ws d (j - k + 1)
variable {c d : Nat} {i j : Int} {m : Nat}
end
set_option maxRecDepth 100000
set_option maxHeartbeats 1000000
section
variable {y : List Nat} {ws : List (List Nat)} {os : List (List Sd)} {c d c' d' : Nat} {i j i' j' : Int} {m m' : Nat} {x z : Sd}
theorem AlP.swap (h : AlP ws c i d j m x z) : AlP ws d j c i m z x := by
  obtain ⟨k, hk, h1, h2⟩ := h
  exact ⟨k, hk, h2, h1⟩
theorem AgP.swap (h : AgP ws c i d j m x z) : AgP ws d (j - m + 1) c (i + m - 1) m z x := by
  obtain ⟨k, hk, h1, h2⟩ := h
  refine ⟨m - k, by omega, ?_, ?_⟩
  · rw [h2]
    congr 1
    omega
  · rw [h1]
    congr 1
    omega
/-- corners that go on alike for ever -/
def NpP (ws : List (List Nat)) (x z : Sd) : Prop := ∃ (c : Nat) (i j : Int), x = cr_ ws c i ∧ z = cr_ ws c j ∧ ∀ k, lr (wAt ws c) (i + k) = lr (wAt ws c) (j + k)
theorem NpP.swap (h : NpP ws x z) : NpP ws z x := by
  obtain ⟨c, i, j, h1, h2, h3⟩ := h
  exact ⟨c, j, i, h2, h1, fun k => (h3 k).symm⟩
end
set_option maxRecDepth 100000
set_option maxHeartbeats 1000000
set_option maxRecDepth 100000
set_option maxHeartbeats 1000000
set_option maxRecDepth 100000
set_option maxHeartbeats 1000000
theorem gr_flip {y : List Nat} {p q r : Nat} (hp : p ∈ y) (hq : q ∈ y) (hr : r ∈ y) (h1 : p ≠ q) (h2 : q ≠ r) (h3 : p ≠ r) : gr y p r q = !gr y p q r := cyc3_swap (ix_ne hp hq h1) (ix_ne hq hr h2) (ix_ne hp hr h3)
/-- a line's letters ahead and back by turns -/
def tw_ (f : Int → Nat) (n : Nat) : Nat := if n % 2 = 0 then f ((n / 2 : Nat) + 1) else f (-((n / 2 : Nat) + 1))
theorem tw_even (f : Int → Nat) (k : Nat) : tw_ f (2 * k) = f ((k : Int) + 1) := by
  unfold tw_
  rw [if_pos (by omega), show 2 * k / 2 = k from by omega]
theorem tw_odd (f : Int → Nat) (k : Nat) : tw_ f (2 * k + 1) = f (-((k : Int) + 1)) := by
  unfold tw_
  rw [if_neg (by omega), show (2 * k + 1) / 2 = k from by omega]
def cmpL (y : List Nat) (f : Int → Nat) (n u v : Nat) : Bool := if n % 2 = 0 then gr y (con (f (n / 2 : Nat))) u v else gr y (f (-((n / 2 : Nat) : Int))) (con v) (con u)
/-- the first of these at which two lines part -/
structure FD (f g : Int → Nat) (n : Nat) : Prop where
  same : ∀ m, m < n → tw_ f m = tw_ g m
  ne : tw_ f n ≠ tw_ g n
theorem FD.symm {f g : Int → Nat} {n : Nat} (h : FD f g n) : FD g f n := ⟨fun m hm => (h.same m hm).symm, h.ne.symm⟩
/-- what is ahead of the place at which they part is the same -/
theorem pre_same {f g : Int → Nat} (h0 : f 0 = g 0) {n : Nat} (h : ∀ m, m < n → tw_ f m = tw_ g m) : (n % 2 = 0 → f ((n / 2 : Nat) : Int) = g ((n / 2 : Nat) : Int)) ∧ (n % 2 = 1 → f (-((n / 2 : Nat) : Int)) = g (-((n / 2 : Nat) : Int))) := by
  constructor
  · intro e
    rcases Nat.eq_zero_or_pos (n / 2) with q | q
    · rw [q]; exact h0
    · have := h (2 * (n / 2 - 1)) (by omega)
      rw [tw_even, tw_even, show ((n / 2 - 1 : Nat) : Int) + 1 = ((n / 2 : Nat) : Int) from by omega] at this
      exact this
  · intro e
    rcases Nat.eq_zero_or_pos (n / 2) with q | q
    · rw [q]; exact h0
    · have := h (2 * (n / 2 - 1) + 1) (by omega)
      rw [tw_odd, tw_odd, show -(((n / 2 - 1 : Nat) : Int) + 1) = -((n / 2 : Nat) : Int) from by omega] at this
      exact this
theorem cmp_pre {y : List Nat} {f g : Int → Nat} (h0 : f 0 = g 0) {n : Nat} (h : ∀ m, m < n → tw_ f m = tw_ g m) (u v : Nat) : cmpL y f n u v = cmpL y g n u v := by
  obtain ⟨a, b⟩ := pre_same h0 h
  unfold cmpL
  split
  · rename_i e; rw [a e]
  · rename_i e; rw [b (by omega)]
section
variable {y : List Nat} {f g e : Int → Nat}
theorem cyc3_trans {p a b c : Nat} (h1 : cyc3 p a b = true) (h2 : cyc3 p b c = true) : cyc3 p a c = true := by
  unfold cyc3 at *
  simp only [decide_eq_true_eq] at *
  omega
theorem gr_trans {p a b c : Nat} (h1 : gr y p a b = true) (h2 : gr y p b c = true) : gr y p a c = true := cyc3_trans h1 h2
theorem gr_ne {p a b : Nat} (h : gr y p a b = true) : a ≠ b := fun z => by
  subst z
  unfold gr cyc3 at h
  simp only [decide_eq_true_eq] at h
  omega
/-- a line stands ahead of another one that parts from it -/
def Lt (y : List Nat) (f g : Int → Nat) : Prop := ∃ n, FD f g n ∧ cmpL y f n (tw_ f n) (tw_ g n) = true
theorem Lt.trans (h1 : f 0 = g 0) (h2 : g 0 = e 0) (a : Lt y f g) (b : Lt y g e) : Lt y f e := by
  obtain ⟨n, hn, cn⟩ := a
  obtain ⟨m, hm, cm⟩ := b
  rcases Nat.lt_trichotomy n m with q | q | q
  · refine ⟨n, ⟨fun k hk => (hn.same k hk).trans (hm.same k (by omega)), ?_⟩, ?_⟩
    · rw [← hm.same n q]; exact hn.ne
    · rw [← hm.same n q]; exact cn
  · subst q
    rw [← cmp_pre h1 hn.same] at cm
    have c3 : cmpL y f n (tw_ f n) (tw_ e n) = true := by
      unfold cmpL at cn cm ⊢
      split
      · rename_i q
        rw [if_pos q] at cn cm
        exact gr_trans cn cm
      · rename_i q
        rw [if_neg q] at cn cm
        exact gr_trans cm cn
    refine ⟨n, ⟨fun k hk => (hn.same k hk).trans (hm.same k hk), fun z => ?_⟩, c3⟩
    unfold cmpL at c3
    split at c3
    · exact gr_ne c3 z
    · exact gr_ne c3 (by rw [z])
  · refine ⟨m, ⟨fun k hk => (hn.same k (by omega)).trans (hm.same k hk), ?_⟩, ?_⟩
    · rw [hn.same m q]; exact hm.ne
    · rw [hn.same m q, cmp_pre h1 fun k hk => hn.same k (by omega)]; exact cm
/-- where they part first ahead, or back -/
structure Pa (f g : Int → Nat) (a b : Nat) : Prop where
  a1 : 1 ≤ a
  b1 : 1 ≤ b
  same : ∀ k : Int, -(b : Int) < k → k < (a : Int) → f k = g k
  ahead : f (a : Int) ≠ g (a : Int)
  back : f (-(b : Int)) ≠ g (-(b : Int))
theorem Pa.fd_le {a b : Nat} (h : Pa f g a b) (q : a ≤ b) : FD f g (2 * (a - 1)) := by
  have := h.a1
  refine ⟨fun m hm => ?_, ?_⟩
  · unfold tw_
    split
    · exact h.same _ (by omega) (by omega)
    · exact h.same _ (by omega) (by omega)
  · rw [tw_even, tw_even, show ((a - 1 : Nat) : Int) + 1 = (a : Int) from by omega]
    exact h.ahead
theorem Pa.fd_gt {a b : Nat} (h : Pa f g a b) (q : b < a) : FD f g (2 * (b - 1) + 1) := by
  have := h.b1
  refine ⟨fun m hm => ?_, ?_⟩
  · unfold tw_
    split
    · exact h.same _ (by omega) (by omega)
    · exact h.same _ (by omega) (by omega)
  · rw [tw_odd, tw_odd, show -(((b - 1 : Nat) : Int) + 1) = -(b : Int) from by omega]
    exact h.back
theorem Pa.some {a b : Nat} (h : Pa f g a b) : ∃ n, FD f g n := by
  rcases Nat.lt_or_ge b a with q | q
  · exact ⟨_, h.fd_gt q⟩
  · exact ⟨_, h.fd_le q⟩
end
set_option maxRecDepth 100000
set_option maxHeartbeats 1000000
local macro_rules | `(tactic| simpa?! only [$xs,*]) => `(tactic| simpa! only [↓x_fld, ↓x_kF, ↓x_kSF, ↓x_sfldZ, ↓x_sfldP, ↓x_kpd, ↓x_kpo, ↓x_kpK, ↓x_kpT, ↓x_kpC, ↓x_kpn, ↓x_2O, ↓x_k2adO, ↓x_k2aoO, ↓x_k2anO, ↓x_k2bO, ↓x_k2cO, ↓x_im, ↓x_kIM, ↓x_make, ↓x_kMk, ↓x_gtN, ↓x_methT, ↓x_kMTd, ↓x_mT1, ↓x_prK, ↓x_ixT, ↓x_prI, ↓x_splitA, ↓x_strI, ↓x_intS, ↓x_fs3, ↓x_f3I, ↓x_zipS, ↓x_parO, ↓x_asgZ, ↓x_asgK, ↓x_gd, ↓x_kGD, ↓x_case, ↓x_imX, ↓x_kIMX, ↓x_lcX, ↓x_ksr, ↓x_msr, ↓x_disp2, ↓x_kD2, ↓x_dgk2, ↓x_kG2, ↓x_clear, ↓x_kin, ↓x_kKI, ↓x_khas, ↓x_kKH, ↓x_igt, ↓x_izg, ↓x_kIG, ↓x_tzC, ↓x_tz, ↓x_split1, ↓x_strAi, ↓x_strAs, ↓x_forL, ↓x_callPS, ↓x_lcL, ↓x_remD, ↓x_slw, ↓x_listK, ↓x_lkH, ↓x_slwD, ↓x_retRep, ↓x_listRv, ↓x_lrCl, ↓x_lrCs, $xs,*])
def m_law_right : PM := fun ds st Q => match ds with
  | [.box, .str y, .int a] => YardOk y ∧ 2 ≤ y.length ∧ y.length ≤ 8 ∧ 0 ≤ a ∧ a < y.length ∧ Q (.d (.bl true)) st
  | _ => False
theorem e_right11 {y a s Q} : m_law_right [.box, .str y, .int a] s Q = (YardOk y ∧ 2 ≤ y.length ∧ y.length ≤ 8 ∧ 0 ≤ a ∧ a < y.length ∧ Q (.d (.bl true)) s) := rfl
theorem eqL_same : ∀ l : List (List Nat), D.eqL (l.map D.str) (l.map D.str) = true
  | [] => rfl
  | a :: l => by
    rw [List.map_cons, eL_cc, e_ss, eqL_same l]
    simp
def t_law_right : PTS := sSeq (sAsg 3 (t2 (tSl (tName 1) (oSome (tName 2)) (oNone)) (tSl (tName 1) (oNone) (oSome (tName 2))) pAdd)) (sSeq (sAsg 4 (tMeth "str" pJoin (tD (.str [])) (rCons (tListRv (tName 1)) (rNil)))) (sSeq (sAsg 5 (tCall0 m_law_called (tCons (tName 0) (tCons (tName 1) (tNil))))) (sSeq (sAsg 6 (tMeth "str" pJoin (tD (.str [])) (rCons (cLc (iAny (tName 1)) (gName 12) (cYes) (tDG (tName 5) (tName 12)) [12]) (rNil)))) (sSeq (sIf (tOr (tB (t2 (cLc (iAny (tTup (tCons (tName 3) (tCons (tName 4) (tCons (tName 6) (tNil)))))) (gName 13) (cYes) (tCall0 m_look_yard (tCons (tName 13) (tNil))) [13]) (t2 (tLst (tCons (tD (.bl true)) (tNil))) (tD (.int 3)) pMul) pNe)) (tB (t2 (tCall0 m_bands (tCons (tName 3) (tNil))) (tCall0 m_bands (tCons (tName 1) (tNil))) pNe))) (sRet (tD (.bl false))) (sNext)) (sSeq (sAsg 7 (tCall0 m_rims (tCons (tName 1) (tNil)))) (sSeq (sIf (tOr (tB (t2 (tCall0 m_rims (tCons (tName 3) (tNil))) (tName 7) pNe)) (tB (t2 (tCall0 m_rims (tCons (tName 4) (tNil))) (tCallP pSortT (rCons (cLc (iAny (tName 7)) (gName 14) (cYes) (tCall0 m_ring (tCons (tCall0 m_turned (tCons (tName 14) (tNil))) (tNil))) [14]) (rNil))) pNe))) (sRet (tD (.bl false))) (sNext)) (sSeq (sIf (tB (t2 (tCall0 m_rims (tCons (tName 6) (tNil))) (tCallP pSortT (rCons (cLc (iAny (tName 7)) (gName 14) (cYes) (tCall0 m_ring (tCons (tMeth "str" pJoin (tD (.str [])) (rCons (cLc (iAny (tName 14)) (gName 12) (cYes) (tDG (tName 5) (tName 12)) [12]) (rNil))) (tNil))) [14]) (rNil))) pNe)) (sRet (tD (.bl false))) (sNext)) (sSeq (sIf (tB (t2 (cLc (iAny (tTup (tCons (tName 3) (tCons (tName 4) (tCons (tName 6) (tNil)))))) (gName 13) (cYes) (tCall0 m_handles (tCons (tName 13) (tNil))) [13]) (t2 (tLst (tCons (tCall0 m_handles (tCons (tName 1) (tNil))) (tNil))) (tD (.int 3)) pMul) pNe)) (sRet (tD (.bl false))) (sNext)) (sSeq (sFor (iAny (tCall0 m_law_threes (tCons (tName 0) (tCons (tName 1) (tNil))))) (gLs 3 (gCons (gName 8) (gCons (gName 9) (gCons (gName 10) (gNil))))) (sSeq (sAsg 11 (tCall0 m_goes_round (tCons (tName 1) (tCons (tName 8) (tCons (tName 9) (tCons (tName 10) (tNil))))))) (sIf (tOr (tB (t2 (tCall0 m_goes_round (tCons (tName 3) (tCons (tName 8) (tCons (tName 9) (tCons (tName 10) (tNil)))))) (tName 11) pNe)) (tB (t2 (tCall0 m_goes_round (tCons (tName 4) (tCons (tName 8) (tCons (tName 10) (tCons (tName 9) (tNil)))))) (tName 11) pNe))) (sRet (tD (.bl false))) (sNext)))) (sRet (tD (.bl true))))))))))))
abbrev N_law_right : List Str := ["_law_box_here", "_law_yard_here", "_law_at", "_law_around", "_law_over", "_law_names", "_law_called_here", "_law_words", "_law_x", "_law_y", "_law_z", "_law_due", "_law_end", "_law_one", "_law_word"]
theorem len_law_right (ds : List D) (s : Sto) (Q : C → Sto → Prop) (h : m_law_right ds s Q) : ds.length = 3 := by
  unfold m_law_right at h
  split at h
  · rfl
  · exact h.elim
theorem p_law_right (ds : List D) (s : Sto) (Q : C → Sto → Prop) (h : m_law_right ds s Q) : t_law_right noX { nx := fun e => Q (.d .non) e.st, rt := fun c e => Q c e.st } ⟨startC N_law_right ds, s⟩ := by
  unfold m_law_right at h
  split at h
  · rename_i y a
    obtain ⟨hy, y2, y8, a0, a1, q⟩ := h
    obtain ⟨k, rfl⟩ := Int.eq_ofNat_of_zero_le a0
    have hk : k ≤ y.length := by omega
    have yne : y ≠ [] := fun z => by rw [z] at y2; simp at y2
    have hrY := rot_yard hy k
    have hrl := rot_len y k
    have hvY := rev_yard hy
    have hvl : y.reverse.length = y.length := List.length_reverse
    unfold t_law_right
    simpa?! only [x_listRv, x_lrCs]
    rw [cut_drop, cut_take, show y.drop k ++ y.take k = rot y k from rfl]
    simpa?! only [strL_signs, joinN_signs]
    refine ⟨by rw [List.length_drop, List.length_take]; omega, len_signs' (by omega), called11_i hy y8 fun kvs φ hg inj hc hl => ?_⟩
    have hmY := map_yard hy inj hc hl
    have hml : (y.map φ).length = y.length := List.length_map ..
    have hmn : y.map φ ≠ [] := fun z => yne (List.map_eq_nil_iff.mp z)
    have hrn : rot y k ≠ [] := fun z => by rw [z] at hrl; simp at hrl; omega
    have hvn : y.reverse ≠ [] := fun z => yne (List.reverse_eq_nil_iff.mp z)
    simpa?! only []
    refine ⟨by rw [signs_len]; omega, ?_⟩
    refine lcH_mm (fun c => .str [φ c]) (fun c hcy K kk => ?_) ?_
    · simpa?! only []
      refine opt_of (hg c hcy) ?_
      simpa?! only []
      exact kk
    have hs : strL (y.map fun c => D.str [φ c]) = some ((y.map φ).map fun c => [c]) := by
      rw [show (y.map fun c => D.str [φ c]) = ((y.map φ).map fun c => [c]).map D.str by rw [List.map_map, List.map_map]; rfl]
      exact strL_map _
    simpa?! only [hs, joinN_signs]
    refine ⟨len_signs' (by omega), ?_⟩
    refine lcH_mm (l := [rot y k, y.reverse, y.map φ]) (g0 := D.str) (fun _ => .bl true) (fun w hw K kk => ?_) ?_
    · have hw3 : YardOk w ∧ w ≠ [] ∧ w.length ≤ 8 := by
        rcases List.mem_cons.mp hw with rfl | hw
        · exact ⟨hrY, hrn, by omega⟩
        rcases List.mem_cons.mp hw with rfl | hw
        · exact ⟨hvY, hvn, by omega⟩
        · cases List.mem_singleton.mp hw
          exact ⟨hmY, hmn, by omega⟩
      simpa?! only [e_look]
      exact ⟨hw3.1, hw3.2.1, hw3.2.2, kk⟩
    simpa?! only [e_bands, e_rims, e_handles]
    have rp : (rot y k).Perm y := by
      have : (y.drop k ++ y.take k).Perm (y.take k ++ y.drop k) := List.perm_append_comm
      rw [List.take_append_drop] at this
      exact this
    refine ⟨by omega, by omega, br_neg (by rw [band_eq rp]; simp) ?_⟩
    have RR := rims_rot hy y2 hk
    have RV := rims_over hy y2
    have RC := rims_called hy y2 inj hc hl
    have rl := rimsL_len y
    simpa?! only [e_rims, e_handles]
    refine ⟨hy, y2, by omega, hrY, by omega, by omega, okL_strs _ _, okL_strs _ _, br_neg (by rw [RR, eqL_same]; rfl) ?_⟩
    simpa?! only [e_rims, e_handles, e_ring, e_turned]
    refine ⟨hvY, by omega, by omega, ?_⟩
    refine ⟨by rw [List.length_map]; omega, ?_⟩
    refine lcH_mm (fun w => .str (ring (turn w))) (fun w hw K kk => ?_) ?_
    · obtain ⟨w1, w2⟩ := rimsL_mem hy y2 hw
      simpa?! only [e_ring, e_turned]
      exact ⟨w1, by omega, turn_W w1, by rw [turn_len]; omega, kk⟩
    rw [show ((rimsL y).map fun w => D.str (ring (turn w))) = ((rimsL y).map fun w => ring (turn w)).map D.str by rw [List.map_map]; rfl]
    simpa?! only []
    refine sort_ok rfl (by rw [List.length_map]; omega) ?_
    simpa?! only []
    refine ⟨okL_strs _ _, okL_strs _ _, br_neg (by rw [RV.1, eqL_same]; rfl) ?_⟩
    simpa?! only [e_rims, e_handles]
    refine ⟨hmY, by omega, by omega, ?_⟩
    refine ⟨by rw [List.length_map]; omega, ?_⟩
    refine lcH_mm (fun w => .str (ring (w.map φ))) (fun w hw K kk => ?_) ?_
    · obtain ⟨w1, w2⟩ := rimsL_mem hy y2 hw
      obtain ⟨r, hr, rfl⟩ := (rims_mem hy y2).mp hw
      have wm : ∀ c ∈ ringL r, c ∈ y := fun c hc => hr.mem c (mem_ringL.mp hc)
      generalize ringL r = w at w1 w2 wm kk hw ⊢
      simpa?! only []
      refine ⟨by rw [signs_len]; omega, ?_⟩
      refine lcH_mm (fun c => .str [φ c]) (fun c hcw K kk => ?_) ?_
      · simpa?! only []
        refine opt_of (hg c (wm c hcw)) ?_
        simpa?! only []
        exact kk
      have hs : strL (w.map fun c => D.str [φ c]) = some ((w.map φ).map fun c => [c]) := by
        rw [show (w.map fun c => D.str [φ c]) = ((w.map φ).map fun c => [c]).map D.str by rw [List.map_map, List.map_map]; rfl]
        exact strL_map _
      have hwl : (w.map φ).length = w.length := List.length_map ..
      simpa?! only [hs, joinN_signs, e_ring]
      refine ⟨len_signs' (by omega), fun c hc => ?_, by omega, kk⟩
      obtain ⟨d, hd, rfl⟩ := List.mem_map.mp hc
      exact hl d (wm d hd)
    rw [show ((rimsL y).map fun w => D.str (ring (w.map φ))) = ((rimsL y).map fun w => ring (w.map φ)).map D.str by rw [List.map_map]; rfl]
    simpa?! only []
    refine sort_ok rfl (by rw [List.length_map]; omega) ?_
    simpa?! only []
    refine ⟨okL_strs _ _, okL_strs _ _, br_neg (by rw [RC.1, eqL_same]; rfl) ?_⟩
    have H1 : hands (rot y k) = hands y := by unfold hands; rw [RR, hrl]
    have H2 : hands y.reverse = hands y := by unfold hands; rw [RV.2, hvl]
    have H3 : hands (y.map φ) = hands y := by unfold hands; rw [RC.2, hml]
    simpa?! only []
    refine lcH_mm (l := [rot y k, y.reverse, y.map φ]) (g0 := D.str) (fun _ => .int (hands y)) (fun w hw K kk => ?_) ?_
    · have hw3 : YardOk w ∧ w.length = y.length ∧ hands w = hands y := by
        rcases List.mem_cons.mp hw with rfl | hw
        · exact ⟨hrY, hrl, H1⟩
        rcases List.mem_cons.mp hw with rfl | hw
        · exact ⟨hvY, hvl, H2⟩
        · cases List.mem_singleton.mp hw
          exact ⟨hmY, hml, H3⟩
      simpa?! only [e_handles]
      exact ⟨hw3.1, by omega, by omega, by rw [hw3.2.2]; exact kk⟩
    simpa?! only [e_handles]
    refine ⟨hy, y2, by omega, threes_i hy y8 fun L hL hT => ?_⟩
    simpa?! only []
    refine forH_on (fun p : C × C × C × C => ⟨[.d .box, .d (.str y), .d (.int k), .d (.str (rot y k)), .d (.str y.reverse), .dK kvs, .d (.str (y.map φ)), .d (.lst ((rimsL y).map D.str)), p.1, p.2.1, p.2.2.1, p.2.2.2, .un, .un, .un], s⟩) (fun r _ => ∀ d ∈ r, Three y d) (.un, .un, .un, .un) rfl hT (fun p _ => ?_) ?_
    · simpa?! only []
      exact q
    · rintro d r ⟨c1, c2, c3, c4⟩ hr N hN
      obtain ⟨a, b, c, rfl, ha, hb, hc', ab, bc, ac⟩ := hr d (List.mem_cons_self ..)
      have g1 := (isoRot hy.nd k hk).gr_ a ha b hb c hc' ab bc ac
      have g2 := (isoRev hy.nd).gr_ a ha c hc' b hb ac (fun z => bc z.symm) ab
      rw [gr_flip ha hb hc' ab bc ac] at g2
      have g1 : gr (rot y k) a b c = gr y a b c := by rw [show gr (rot y k) a b c = _ from g1]; simp
      have g2 : gr y.reverse a c b = gr y a b c := by rw [show gr y.reverse a c b = _ from g2]; simp
      have mr : ∀ x ∈ y, x ∈ rot y k := fun x hx => rp.mem_iff.mpr hx
      have mv : ∀ x ∈ y, x ∈ y.reverse := fun x hx => List.mem_reverse.mpr hx
      have E1 : cyc3 (ixOf a (rot y k)) (ixOf b (rot y k)) (ixOf c (rot y k)) = cyc3 (ixOf a y) (ixOf b y) (ixOf c y) := g1
      have E2 : cyc3 (ixOf a y.reverse) (ixOf c y.reverse) (ixOf b y.reverse) = cyc3 (ixOf a y) (ixOf b y) (ixOf c y) := g2
      have rn : (rot y k).Nodup := rp.nodup_iff.mpr hy.nd
      have vn : y.reverse.Nodup := hvY.nd
      simpa?! only [x_gls, e_goes, E1, E2]
      refine ⟨hy.nd, by omega, ha, hb, hc', ab, ac, rn, by omega, mr a ha, mr b hb, mr c hc', ab, ac, vn, by omega, mv a ha, mv c hc', mv b hb, ac, ab, hN (_, _, _, _) fun d hd => hr d (List.mem_cons_of_mem _ hd)⟩
  · exact h.elim
def m_law : PM := fun ds st Q => match ds with
  | [.scr n] => n ≤ 63 ∧ Q (.d (.bl true)) st
  | _ => False
def t_law : PTS := sSeq (sFor (iPure pRng1 (rCons (tCallP pMax2 (rCons (tD (.int 1)) (rCons (tCallP pMin2 (rCons (tD (.int 4)) (rCons (tCallP pLen (rCons (tName 0) (rNil))) (rNil)))) (rNil)))) (rNil))) (gName 1) (sSeq (sAsg 2 (tCall0 m_law_box (tCons (tName 0) (tCons (tName 1) (tNil))))) (sSeq (sAsg 3 (tCall0 m_law_take (tCons (tName 2) (tCons (tD (.int 8)) (tNil))))) (sSeq (sAsg 4 (tCall0 m_law_yard (tCons (tName 2) (tCons (tD (.int 1)) (tCons (tD (.int 4)) (tNil)))))) (sIf (tNot (tB (tCall0 m_law_right (tCons (tName 2) (tCons (tName 4) (tCons (t2 (tName 3) (tCallP pLen (rCons (tName 4) (rNil))) pMod) (tNil))))))) (sRet (tD (.bl false))) (sNext)))))) (sRet (tD (.bl true)))
abbrev N_law : List Str := ["_law_script", "_law_k", "_law_box_here", "_law_at", "_law_yard_here"]
theorem len_law (ds : List D) (s : Sto) (Q : C → Sto → Prop) (h : m_law ds s Q) : ds.length = 1 := by
  unfold m_law at h
  split at h
  · rfl
  · exact h.elim
theorem law_m (n : Nat) (s : Sto) (Q : C → Sto → Prop) (h : n ≤ 63) (q : Q (.d (.bl true)) s) : m_law [.scr n] s Q := ⟨h, q⟩
theorem p_law (ds : List D) (s : Sto) (Q : C → Sto → Prop) (h : m_law ds s Q) : t_law noX { nx := fun e => Q (.d .non) e.st, rt := fun c e => Q c e.st } ⟨startC N_law ds, s⟩ := by
  unfold m_law at h
  split at h
  · rename_i n
    obtain ⟨hn, q⟩ := h
    unfold t_law
    simpa?! only []
    refine ⟨⟨by omega, by omega⟩, ?_⟩
    refine forH_on (fun p : C × C × C × C => ⟨[.d (.scr n), p.1, p.2.1, p.2.2.1, p.2.2.2], s⟩) (fun r _ => ∀ d ∈ r, ∃ i : Nat, d = .int (i : Int) ∧ i < 63) (.un, .un, .un, .un) rfl (fun d hd => ?_) (fun p _ => ?_) ?_
    · obtain ⟨i, hi, rfl⟩ := rngI_mem hd
      exact ⟨i, by rw [Int.zero_add], by omega⟩
    · simpa?! only []
      exact q
    · rintro d r ⟨c1, c2, c3, c4⟩ hr N hN
      obtain ⟨i, rfl, hi⟩ := hr d (List.mem_cons_self ..)
      simpa?! only [e_box, e_take, e_yard]
      refine ⟨by omega, by omega, fun t t0 t8 y hy y2 y8 => ⟨by omega, ?_⟩⟩
      have ra := Int.emod_nonneg t (show (y.length : Int) ≠ 0 by omega)
      have rb := Int.emod_lt_of_pos t (show 0 < (y.length : Int) by omega)
      rw [e_right11]
      refine ⟨hy, by omega, by omega, ra, rb, ?_⟩
      simpa?! only []
      exact hN (_, _, _, _) fun d hd => hr d (List.mem_cons_of_mem _ hd)
  · exact h.elim
end Pu
set_option maxRecDepth 100000
set_option maxHeartbeats 4000000
namespace Lw
open PySem L2 Pu
def top (i : Nat) : Stmt := PySem.Challenge.pw_mustmeet_k11_whole_yards_told_otherwise.main.body.getD i (.Pass ⟨0, 0, 0, 0⟩)
abbrev s_contrary : Stmt := top 3
def t_contrary : PTS := sRet (t2 (t2 (tD (.str CP)) (tD (.str SM)) pAdd) (tMeth "str" pIndexS (t2 (tD (.str SM)) (tD (.str CP)) pAdd) (rCons (tName 0) (rNil))) pIx)
abbrev N_contrary : List Str := ["letter"]
theorem sc_contrary : FnScope N_contrary ["letter"] (defScope s_contrary) := ⟨rfl, rfl, rfl, by decide +kernel, rfl, by decide +kernel, by decide +kernel⟩
abbrev s_turned : Stmt := top 4
def t_turned : PTS := sRet (tMeth "str" pJoin (tD (.str [])) (rCons (cLc (iRevP (tName 0)) (gName 1) (cYes) (tCall0 m_contrary (tCons (tName 1) (tNil))) [1]) (rNil)))
abbrev N_turned : List Str := ["word", "letter"]
theorem sc_turned : FnScope N_turned ["word"] (defScope s_turned) := ⟨rfl, rfl, rfl, by decide +kernel, rfl, by decide +kernel, by decide +kernel⟩
abbrev s_shortened : Stmt := top 6
def t_shortened : PTS := sSeq (sAsg 1 (tLst (tNil))) (sSeq (sFor (iAny (tName 0)) (gName 2) (sIf (tAnd (tB (t2 (tCallP pLen (rCons (tName 1) (rNil))) (tD (.int 0)) pGt)) (tB (t2 (t2 (tName 1) (t1 (tD (.int 1)) pNeg) pIx) (tCall0 m_contrary (tCons (tName 2) (tNil))) pEq))) (sDrop (tMut mPop (tName 1) tNil)) (sDrop (tMut mAppend (tName 1) (tCons (tName 2) (tNil)))))) (sRet (tMeth "str" pJoin (tD (.str [])) (rCons (tName 1) (rNil)))))
abbrev N_shortened : List Str := ["word", "left", "letter"]
theorem sc_shortened : FnScope N_shortened ["word"] (defScope s_shortened) := ⟨rfl, rfl, rfl, by decide +kernel, rfl, by decide +kernel, by decide +kernel⟩
abbrev s_shortest : Stmt := top 7
def t_shortest : PTS := sSeq (sAsg 1 (tCall0 m_shortened (tCons (tName 0) (tNil)))) (sSeq (sWhile (tAnd (tB (t2 (tCallP pLen (rCons (tName 1) (rNil))) (tD (.int 1)) pGt)) (tB (t2 (t2 (tName 1) (tD (.int 0)) pIx) (tCall0 m_contrary (tCons (t2 (tName 1) (t1 (tD (.int 1)) pNeg) pIx) (tNil))) pEq))) (sAsg 1 (tSl (tName 1) (oSome (tD (.int 1))) (oSome (t1 (tD (.int 1)) pNeg))))) (sRet (tName 1)))
abbrev N_shortest : List Str := ["word", "left"]
theorem sc_shortest : FnScope N_shortest ["word"] (defScope s_shortest) := ⟨rfl, rfl, rfl, by decide +kernel, rfl, by decide +kernel, by decide +kernel⟩
abbrev s_ring : Stmt := top 8
def t_ring : PTS := sSeq (sAsg 1 (tCall0 m_shortest (tCons (tName 0) (tNil)))) (sSeq (sIf (tB (t2 (tName 1) (tD (.str [])) pEq)) (sRet (tD (.str []))) (sNext)) (sRet (tCallP pMin1 (rCons (cLc (iPure pRng1 (rCons (tCallP pLen (rCons (tName 1) (rNil))) (rNil))) (gName 2) (cYes) (t2 (tSl (tName 1) (oSome (tName 2)) (oNone)) (tSl (tName 1) (oNone) (oSome (tName 2))) pAdd) [2]) (rNil)))))
abbrev N_ring : List Str := ["word", "left", "k"]
theorem sc_ring : FnScope N_ring ["word"] (defScope s_ring) := ⟨rfl, rfl, rfl, by decide +kernel, rfl, by decide +kernel, by decide +kernel⟩
abbrev s_rim_from : Stmt := top 10
def t_rim_from : PTS := sSeq (sAsg 2 (tD (.str []))) (sSeq (sAsg 3 (tName 1)) (sSeq (sWhile (tOr (tB (t2 (tName 2) (tD (.str [])) pEq)) (tB (t2 (tName 3) (tName 1) pNe))) (sSeq (sAsg 4 (t2 (tName 0) (t2 (t2 (tName 3) (tD (.int 1)) pAdd) (tCallP pLen (rCons (tName 0) (rNil))) pMod) pIx)) (sSeq (sAsg 2 (t2 (tName 2) (tName 4) pAdd)) (sAsg 3 (tMeth "str" pIndexS (tName 0) (rCons (tCall0 m_contrary (tCons (tName 4) (tNil))) (rNil))))))) (sRet (tName 2))))
abbrev N_rim_from : List Str := ["yard", "at", "found", "here", "end"]
theorem sc_rim_from : FnScope N_rim_from ["yard", "at"] (defScope s_rim_from) := ⟨rfl, rfl, rfl, by decide +kernel, rfl, by decide +kernel, by decide +kernel⟩
abbrev s_rims : Stmt := top 11
def t_rims : PTS := sSeq (sAsg 1 (tLst (tNil))) (sSeq (sAsg 2 (tDict0)) (sSeq (sFor (iPure pRng1 (rCons (tCallP pLen (rCons (tName 0) (rNil))) (rNil))) (gName 3) (sIf (tB (tDI true (tName 3) (tName 2))) (sSeq (sAsg 4 (tCall0 m_rim_from (tCons (tName 0) (tCons (tName 3) (tNil))))) (sSeq (sFor (iAny (tName 4)) (gName 5) (sDPt (tD (.bl true)) (tName 2) (tMeth "str" pIndexS (tName 0) (rCons (tCall0 m_contrary (tCons (tName 5) (tNil))) (rNil))))) (sDrop (tMut mAppend (tName 1) (tCons (tCall0 m_ring (tCons (tName 4) (tNil))) (tNil)))))) (sNext))) (sRet (tCallP pSortT (rCons (tName 1) (rNil))))))
abbrev N_rims : List Str := ["yard", "found", "met", "at", "word", "end"]
theorem sc_rims : FnScope N_rims ["yard"] (defScope s_rims) := ⟨rfl, rfl, rfl, by decide +kernel, rfl, by decide +kernel, by decide +kernel⟩
abbrev s_handles : Stmt := top 12
def t_handles : PTS := sRet (t2 (t2 (t2 (t2 (tCallP pLen (rCons (tName 0) (rNil))) (tD (.int 2)) pFdiv) (tD (.int 1)) pAdd) (tCallP pLen (rCons (tCall0 m_rims (tCons (tName 0) (tNil))) (rNil))) pSub) (tD (.int 2)) pFdiv)
abbrev N_handles : List Str := ["yard"]
theorem sc_handles : FnScope N_handles ["yard"] (defScope s_handles) := ⟨rfl, rfl, rfl, by decide +kernel, rfl, by decide +kernel, by decide +kernel⟩
abbrev s_look_yard : Stmt := top 18
def t_look_yard : PTS := sSeq (sIf (tB (t2 (tName 0) (tD (.str [])) pEq)) (sNever) (sNext)) (sSeq (sFor (iEnumP (rCons (tName 0) (rNil))) (gTup 2 (gCons (gName 1) (gCons (gName 2) (gNil)))) (sIf (tOr (tB (t2 (tName 2) (t2 (tD (.str SM)) (tD (.str CP)) pAdd) (pIn true))) (tOr (tB (t2 (tName 2) (tSl (tName 0) (oNone) (oSome (tName 1))) (pIn false))) (tB (t2 (tName 1) (tD (.int 8)) pEq)))) (sNever) (sNext))) (sSeq (sFor (iEnumP (rCons (tName 0) (rNil))) (gTup 2 (gCons (gName 1) (gCons (gName 2) (gNil)))) (sIf (tB (t2 (tCall0 m_contrary (tCons (tName 2) (tNil))) (tName 0) (pIn true))) (sNever) (sNext))) (sRet (tD (.bl true)))))
abbrev N_look_yard : List Str := ["text", "at", "sign"]
theorem sc_look_yard : FnScope N_look_yard ["text"] (defScope s_look_yard) := ⟨rfl, rfl, rfl, by decide +kernel, rfl, by decide +kernel, by decide +kernel⟩
abbrev s_bands : Stmt := top 19
def t_bands : PTS := sRet (tMeth "str" pJoin (tD (.str [])) (rCons (tCallP pSortT (rCons (cLc (iAny (tName 0)) (gName 1) (tB (t2 (tName 1) (tD (.str SM)) (pIn false))) (tName 1) [1]) (rNil))) (rNil)))
abbrev N_bands : List Str := ["yard", "sign"]
theorem sc_bands : FnScope N_bands ["yard"] (defScope s_bands) := ⟨rfl, rfl, rfl, by decide +kernel, rfl, by decide +kernel, by decide +kernel⟩
abbrev s_goes_round : Stmt := top 20
def t_goes_round : PTS := sSeq (sAsg 4 (tMeth "str" pIndexS (tName 0) (rCons (tName 1) (rNil)))) (sSeq (sAsg 5 (t2 (tSl (tName 0) (oSome (t2 (tName 4) (tD (.int 1)) pAdd)) (oNone)) (tSl (tName 0) (oNone) (oSome (tName 4))) pAdd)) (sRet (t2 (tMeth "str" pIndexS (tName 5) (rCons (tName 2) (rNil))) (tMeth "str" pIndexS (tName 5) (rCons (tName 3) (rNil))) pLt)))
abbrev N_goes_round : List Str := ["yard", "x", "y", "z", "at", "rest"]
theorem sc_goes_round : FnScope N_goes_round ["yard", "x", "y", "z"] (defScope s_goes_round) := ⟨rfl, rfl, rfl, by decide +kernel, rfl, by decide +kernel, by decide +kernel⟩
abbrev s_law_box : Stmt := top 22
def t_law_box : PTS := sSeq (sAsg 2 (t2 (t2 (tD (.int 7919)) (tName 1) pMul) (tD (.int 11)) pAdd)) (sSeq (sIf (tB (t2 (tName 1) (tCallP pLen (rCons (tName 0) (rNil))) pLt)) (sAsg 2 (t2 (tName 0) (tName 1) pIx)) (sIf (tB (t2 (tCallP pLen (rCons (tName 0) (rNil))) (tD (.int 0)) pGt)) (sAsg 2 (t2 (tName 2) (t2 (t2 (t2 (tName 0) (t2 (tName 1) (tCallP pLen (rCons (tName 0) (rNil))) pMod) pIx) (tD (.int 2147483629)) pMod) (tD (.int 69623)) pMul) pAdd)) (sNext))) (sSeq (sAsg 3 (t2 (t2 (t2 (t2 (t2 (tName 2) (tD (.int 2147483629)) pMod) (t2 (tD (.int 104729)) (tName 1) pMul) pAdd) (tD (.int 1)) pAdd) (tD (.int 5)) pPow) (tD (.int 2147483647)) pMod)) (sRet (tLst (tCons (t2 (tLst (tCons (tD (.int 0)) (tCons (tName 2) (tNil)))) (tCallP pInt (rCons (t2 (tName 2) (t2 (tD (.int 10)) (tD (.int 18)) pPow) pGe) (rNil))) pIx) (tCons (t2 (t2 (tName 3) (tD (.int 2147483646)) pMod) (tD (.int 1)) pAdd) (tNil)))))))
abbrev N_law_box : List Str := ["_law_script", "_law_k", "_law_cell", "_law_seed"]
theorem sc_law_box : FnScope N_law_box ["_law_script", "_law_k"] (defScope s_law_box) := ⟨rfl, rfl, rfl, by decide +kernel, rfl, by decide +kernel, by decide +kernel⟩
abbrev s_law_take : Stmt := top 23
def t_law_take : PTS := sSeq (sIf (tB (t2 (t2 (tName 0) (tD (.int 0)) pIx) (tD (.int 0)) pGt)) (sSeq (sAsg 3 (t2 (t2 (tName 0) (tD (.int 0)) pIx) (tName 1) pMod)) (sSeq (sSetIx (t2 (t2 (tName 0) (tD (.int 0)) pIx) (tName 1) pFdiv) (tName 0) (tD (.int 0))) (sRet (tName 3)))) (sNext)) (sSeq (sAsg 2 (t2 (t2 (t2 (tName 0) (tD (.int 1)) pIx) (tD (.int 69623)) pMul) (tD (.int 2147483647)) pMod)) (sSeq (sSetIx (t2 (t2 (t2 (t2 (tName 2) (tD (.int 48271)) pMul) (tD (.int 30103)) pAdd) (tD (.int 2147483629)) pMod) (tD (.int 1)) pAdd) (tName 0) (tD (.int 1))) (sRet (t2 (t2 (t2 (t2 (tName 2) (tD (.int 2147483647)) pMul) (t2 (tName 0) (tD (.int 1)) pIx) pAdd) (tD (.int 8191)) pFdiv) (tName 1) pMod))))
abbrev N_law_take : List Str := ["_law_box_here", "_law_many", "_law_one", "_law_digit"]
theorem sc_law_take : FnScope N_law_take ["_law_box_here", "_law_many"] (defScope s_law_take) := ⟨rfl, rfl, rfl, by decide +kernel, rfl, by decide +kernel, by decide +kernel⟩
abbrev s_law_other : Stmt := top 24
def t_law_other : PTS := sSeq (sAsg 1 (tD (.str SM))) (sSeq (sAsg 2 (tD (.str CP))) (sSeq (sIf (tB (t2 (tName 0) (tName 1) (pIn false))) (sRet (t2 (tName 2) (tMeth "str" pIndexS (tName 1) (rCons (tName 0) (rNil))) pIx)) (sNext)) (sRet (t2 (tName 1) (tMeth "str" pIndexS (tName 2) (rCons (tName 0) (rNil))) pIx))))
abbrev N_law_other : List Str := ["_law_letter", "_law_small", "_law_capital"]
theorem sc_law_other : FnScope N_law_other ["_law_letter"] (defScope s_law_other) := ⟨rfl, rfl, rfl, by decide +kernel, rfl, by decide +kernel, by decide +kernel⟩
abbrev s_law_yard : Stmt := top 25
def t_law_yard : PTS := sSeq (sAsg 3 (tCallP pList (rCons (tD (.str SM)) (rNil)))) (sSeq (sAsg 4 (tLst (tNil))) (sSeq (sFor (iPure pRng1 (rCons (t2 (tName 1) (tCall0 m_law_take (tCons (tName 0) (tCons (t2 (t2 (tName 2) (tName 1) pSub) (tD (.int 1)) pAdd) (tNil)))) pAdd) (rNil))) (gName 5) (sSeq (sAsg 7 (tMut mPopAt (tName 3) (tCons (tCall0 m_law_take (tCons (tName 0) (tCons (tCallP pLen (rCons (tName 3) (rNil))) (tNil)))) (tNil)))) (sAsg 4 (t2 (tName 4) (tLst (tCons (tName 7) (tCons (tCall0 m_law_other (tCons (tName 7) (tNil))) (tNil)))) pAdd)))) (sSeq (sAsg 6 (tD (.str []))) (sSeq (sWhile (tB (t2 (tCallP pLen (rCons (tName 4) (rNil))) (tD (.int 0)) pGt)) (sAsg 6 (t2 (tName 6) (tMut mPopAt (tName 4) (tCons (tCall0 m_law_take (tCons (tName 0) (tCons (tCallP pLen (rCons (tName 4) (rNil))) (tNil)))) (tNil))) pAdd))) (sRet (tName 6))))))
abbrev N_law_yard : List Str := ["_law_box_here", "_law_few", "_law_top", "_law_left", "_law_ends", "_law_k", "_law_found", "_law_letter"]
theorem sc_law_yard : FnScope N_law_yard ["_law_box_here", "_law_few", "_law_top"] (defScope s_law_yard) := ⟨rfl, rfl, rfl, by decide +kernel, rfl, by decide +kernel, by decide +kernel⟩
abbrev s_law_order : Stmt := top 26
def t_law_order : PTS := sSeq (sAsg 2 (tCallP pList (rCons (tName 1) (rNil)))) (sSeq (sAsg 3 (tLst (tNil))) (sSeq (sWhile (tB (t2 (tCallP pLen (rCons (tName 2) (rNil))) (tD (.int 0)) pGt)) (sDrop (tMut mAppend (tName 3) (tCons (tMut mPopAt (tName 2) (tCons (tCall0 m_law_take (tCons (tName 0) (tCons (tCallP pLen (rCons (tName 2) (rNil))) (tNil)))) (tNil))) (tNil))))) (sRet (tName 3))))
abbrev N_law_order : List Str := ["_law_box_here", "_law_things", "_law_left", "_law_found"]
theorem sc_law_order : FnScope N_law_order ["_law_box_here", "_law_things"] (defScope s_law_order) := ⟨rfl, rfl, rfl, by decide +kernel, rfl, by decide +kernel, by decide +kernel⟩
abbrev s_law_called : Stmt := top 27
def t_law_called : PTS := sSeq (sAsg 2 (tCall0 m_law_yard (tCons (tName 0) (tCons (tD (.int 4)) (tCons (tD (.int 4)) (tNil)))))) (sSeq (sAsg 3 (tDict0)) (sSeq (sFor (iAny (tName 1)) (gName 4) (sIf (tB (tDI true (tName 4) (tName 3))) (sSeq (sAsg 5 (cLc (iAny (tName 2)) (gName 6) (tB (tDNV (tName 6) (tName 3))) (tName 6) [6])) (sSeq (sDPt (t2 (tName 5) (tCall0 m_law_take (tCons (tName 0) (tCons (tCallP pLen (rCons (tName 5) (rNil))) (tNil)))) pIx) (tName 3) (tName 4)) (sDPt (tCall0 m_law_other (tCons (tDG (tName 3) (tName 4)) (tNil))) (tName 3) (tCall0 m_law_other (tCons (tName 4) (tNil)))))) (sNext))) (sRet (tName 3))))
abbrev N_law_called : List Str := ["_law_box_here", "_law_yard_here", "_law_fresh", "_law_found", "_law_end", "_law_left", "_law_letter"]
theorem sc_law_called : FnScope N_law_called ["_law_box_here", "_law_yard_here"] (defScope s_law_called) := ⟨rfl, rfl, rfl, by decide +kernel, rfl, by decide +kernel, by decide +kernel⟩
abbrev s_law_threes : Stmt := top 28
def t_law_threes : PTS := sSeq (sAsg 2 (tCall0 m_law_order (tCons (tName 0) (tCons (tName 1) (tNil))))) (sRet (cLc (iPure pRng1 (rCons (t2 (tCallP pLen (rCons (tName 2) (rNil))) (tD (.int 2)) pSub) (rNil))) (gName 3) (cYes) (tSl (tName 2) (oSome (tName 3)) (oSome (t2 (tName 3) (tD (.int 3)) pAdd))) [3]))
abbrev N_law_threes : List Str := ["_law_box_here", "_law_yard_here", "_law_ends", "_law_k"]
theorem sc_law_threes : FnScope N_law_threes ["_law_box_here", "_law_yard_here"] (defScope s_law_threes) := ⟨rfl, rfl, rfl, by decide +kernel, rfl, by decide +kernel, by decide +kernel⟩
abbrev s_law_right : Stmt := top 29
def t_law_right : PTS := sSeq (sAsg 3 (t2 (tSl (tName 1) (oSome (tName 2)) (oNone)) (tSl (tName 1) (oNone) (oSome (tName 2))) pAdd)) (sSeq (sAsg 4 (tMeth "str" pJoin (tD (.str [])) (rCons (tListRv (tName 1)) (rNil)))) (sSeq (sAsg 5 (tCall0 m_law_called (tCons (tName 0) (tCons (tName 1) (tNil))))) (sSeq (sAsg 6 (tMeth "str" pJoin (tD (.str [])) (rCons (cLc (iAny (tName 1)) (gName 12) (cYes) (tDG (tName 5) (tName 12)) [12]) (rNil)))) (sSeq (sIf (tOr (tB (t2 (cLc (iAny (tTup (tCons (tName 3) (tCons (tName 4) (tCons (tName 6) (tNil)))))) (gName 13) (cYes) (tCall0 m_look_yard (tCons (tName 13) (tNil))) [13]) (t2 (tLst (tCons (tD (.bl true)) (tNil))) (tD (.int 3)) pMul) pNe)) (tB (t2 (tCall0 m_bands (tCons (tName 3) (tNil))) (tCall0 m_bands (tCons (tName 1) (tNil))) pNe))) (sRet (tD (.bl false))) (sNext)) (sSeq (sAsg 7 (tCall0 m_rims (tCons (tName 1) (tNil)))) (sSeq (sIf (tOr (tB (t2 (tCall0 m_rims (tCons (tName 3) (tNil))) (tName 7) pNe)) (tB (t2 (tCall0 m_rims (tCons (tName 4) (tNil))) (tCallP pSortT (rCons (cLc (iAny (tName 7)) (gName 14) (cYes) (tCall0 m_ring (tCons (tCall0 m_turned (tCons (tName 14) (tNil))) (tNil))) [14]) (rNil))) pNe))) (sRet (tD (.bl false))) (sNext)) (sSeq (sIf (tB (t2 (tCall0 m_rims (tCons (tName 6) (tNil))) (tCallP pSortT (rCons (cLc (iAny (tName 7)) (gName 14) (cYes) (tCall0 m_ring (tCons (tMeth "str" pJoin (tD (.str [])) (rCons (cLc (iAny (tName 14)) (gName 12) (cYes) (tDG (tName 5) (tName 12)) [12]) (rNil))) (tNil))) [14]) (rNil))) pNe)) (sRet (tD (.bl false))) (sNext)) (sSeq (sIf (tB (t2 (cLc (iAny (tTup (tCons (tName 3) (tCons (tName 4) (tCons (tName 6) (tNil)))))) (gName 13) (cYes) (tCall0 m_handles (tCons (tName 13) (tNil))) [13]) (t2 (tLst (tCons (tCall0 m_handles (tCons (tName 1) (tNil))) (tNil))) (tD (.int 3)) pMul) pNe)) (sRet (tD (.bl false))) (sNext)) (sSeq (sFor (iAny (tCall0 m_law_threes (tCons (tName 0) (tCons (tName 1) (tNil))))) (gLs 3 (gCons (gName 8) (gCons (gName 9) (gCons (gName 10) (gNil))))) (sSeq (sAsg 11 (tCall0 m_goes_round (tCons (tName 1) (tCons (tName 8) (tCons (tName 9) (tCons (tName 10) (tNil))))))) (sIf (tOr (tB (t2 (tCall0 m_goes_round (tCons (tName 3) (tCons (tName 8) (tCons (tName 9) (tCons (tName 10) (tNil)))))) (tName 11) pNe)) (tB (t2 (tCall0 m_goes_round (tCons (tName 4) (tCons (tName 8) (tCons (tName 10) (tCons (tName 9) (tNil)))))) (tName 11) pNe))) (sRet (tD (.bl false))) (sNext)))) (sRet (tD (.bl true))))))))))))
abbrev N_law_right : List Str := ["_law_box_here", "_law_yard_here", "_law_at", "_law_around", "_law_over", "_law_names", "_law_called_here", "_law_words", "_law_x", "_law_y", "_law_z", "_law_due", "_law_end", "_law_one", "_law_word"]
theorem sc_law_right : FnScope N_law_right ["_law_box_here", "_law_yard_here", "_law_at"] (defScope s_law_right) := ⟨rfl, rfl, rfl, by decide +kernel, rfl, by decide +kernel, by decide +kernel⟩
abbrev s_law : Stmt := top 30
def t_law : PTS := sSeq (sFor (iPure pRng1 (rCons (tCallP pMax2 (rCons (tD (.int 1)) (rCons (tCallP pMin2 (rCons (tD (.int 4)) (rCons (tCallP pLen (rCons (tName 0) (rNil))) (rNil)))) (rNil)))) (rNil))) (gName 1) (sSeq (sAsg 2 (tCall0 m_law_box (tCons (tName 0) (tCons (tName 1) (tNil))))) (sSeq (sAsg 3 (tCall0 m_law_take (tCons (tName 2) (tCons (tD (.int 8)) (tNil))))) (sSeq (sAsg 4 (tCall0 m_law_yard (tCons (tName 2) (tCons (tD (.int 1)) (tCons (tD (.int 4)) (tNil)))))) (sIf (tNot (tB (tCall0 m_law_right (tCons (tName 2) (tCons (tName 4) (tCons (t2 (tName 3) (tCallP pLen (rCons (tName 4) (rNil))) pMod) (tNil))))))) (sRet (tD (.bl false))) (sNext)))))) (sRet (tD (.bl true)))
abbrev N_law : List Str := ["_law_script", "_law_k", "_law_box_here", "_law_at", "_law_yard_here"]
theorem sc_law : FnScope N_law ["_law_script"] (defScope s_law) := ⟨rfl, rfl, rfl, by decide +kernel, rfl, by decide +kernel, by decide +kernel⟩
structure Tx (K : PySem.W.Frag) (mg : Str → Option Value) where
  f_contrary : Addr
  fd_contrary : FuncData
  d_contrary : DefOk K mg "contrary" s_contrary ["letter"] f_contrary fd_contrary
  f_turned : Addr
  fd_turned : FuncData
  d_turned : DefOk K mg "turned" s_turned ["word"] f_turned fd_turned
  f_shortened : Addr
  fd_shortened : FuncData
  d_shortened : DefOk K mg "shortened" s_shortened ["word"] f_shortened fd_shortened
  f_shortest : Addr
  fd_shortest : FuncData
  d_shortest : DefOk K mg "shortest" s_shortest ["word"] f_shortest fd_shortest
  f_ring : Addr
  fd_ring : FuncData
  d_ring : DefOk K mg "ring" s_ring ["word"] f_ring fd_ring
  f_rim_from : Addr
  fd_rim_from : FuncData
  d_rim_from : DefOk K mg "rim_from" s_rim_from ["yard", "at"] f_rim_from fd_rim_from
  f_rims : Addr
  fd_rims : FuncData
  d_rims : DefOk K mg "rims" s_rims ["yard"] f_rims fd_rims
  f_handles : Addr
  fd_handles : FuncData
  d_handles : DefOk K mg "handles" s_handles ["yard"] f_handles fd_handles
  f_look_yard : Addr
  fd_look_yard : FuncData
  d_look_yard : DefOk K mg "look_yard" s_look_yard ["text"] f_look_yard fd_look_yard
  f_bands : Addr
  fd_bands : FuncData
  d_bands : DefOk K mg "bands" s_bands ["yard"] f_bands fd_bands
  f_goes_round : Addr
  fd_goes_round : FuncData
  d_goes_round : DefOk K mg "goes_round" s_goes_round ["yard", "x", "y", "z"] f_goes_round fd_goes_round
  f_law_box : Addr
  fd_law_box : FuncData
  d_law_box : DefOk K mg "_law_box" s_law_box ["_law_script", "_law_k"] f_law_box fd_law_box
  f_law_take : Addr
  fd_law_take : FuncData
  d_law_take : DefOk K mg "_law_take" s_law_take ["_law_box_here", "_law_many"] f_law_take fd_law_take
  f_law_other : Addr
  fd_law_other : FuncData
  d_law_other : DefOk K mg "_law_other" s_law_other ["_law_letter"] f_law_other fd_law_other
  f_law_yard : Addr
  fd_law_yard : FuncData
  d_law_yard : DefOk K mg "_law_yard" s_law_yard ["_law_box_here", "_law_few", "_law_top"] f_law_yard fd_law_yard
  f_law_order : Addr
  fd_law_order : FuncData
  d_law_order : DefOk K mg "_law_order" s_law_order ["_law_box_here", "_law_things"] f_law_order fd_law_order
  f_law_called : Addr
  fd_law_called : FuncData
  d_law_called : DefOk K mg "_law_called" s_law_called ["_law_box_here", "_law_yard_here"] f_law_called fd_law_called
  f_law_threes : Addr
  fd_law_threes : FuncData
  d_law_threes : DefOk K mg "_law_threes" s_law_threes ["_law_box_here", "_law_yard_here"] f_law_threes fd_law_threes
  f_law_right : Addr
  fd_law_right : FuncData
  d_law_right : DefOk K mg "_law_right" s_law_right ["_law_box_here", "_law_yard_here", "_law_at"] f_law_right fd_law_right
  f_law : Addr
  fd_law : FuncData
  d_law : DefOk K mg "law" s_law ["_law_script"] f_law fd_law
  n_enumerate : mg "enumerate" = none
  n_int : mg "int" = none
  n_len : mg "len" = none
  n_list : mg "list" = none
  n_max : mg "max" = none
  n_min : mg "min" = none
  n_range : mg "range" = none
  n_reversed : mg "reversed" = none
  n_sorted : mg "sorted" = none
  tk_SMALL : Tok
  c_SMALL : mg "SMALL" = some (.str "abcdefghijklmnopqrstuvwxyz" tk_SMALL)
  tk_CAPITALS : Tok
  c_CAPITALS : mg "CAPITALS" = some (.str "ABCDEFGHIJKLMNOPQRSTUVWXYZ" tk_CAPITALS)
  tk_MOST_ENDS : Tok
  c_MOST_ENDS : mg "MOST_ENDS" = some (.int 8 tk_MOST_ENDS)
section
variable {P : Program} {w : World} {K : PySem.W.Frag} {mg : Str → Option Value} {base : Heap} (T : Tx K mg)
abbrev cls0 (P : Program) (w : World) : Cl := ⟨fun _ => 0, P, w, []⟩
abbrev flds0 : Nat → List Str := fun _ => []
theorem w_contrary : VSs (fam0 P w K mg base N_contrary "contrary" (defScope s_contrary) T.f_contrary 0 (cls0 P w) flds0) (defBody s_contrary) t_contrary :=
  vss_one (vs_ret (ve_ix (ve_add (ve_globS CP (fun _ => T.c_CAPITALS)) (ve_globS SM (fun _ => T.c_SMALL))) (ve_indexS (ve_add (ve_globS SM (fun _ => T.c_SMALL)) (ve_globS CP (fun _ => T.c_CAPITALS))) (vr_cons (ve_name 0) (vr_nil)))))
theorem ok_contrary : FnG P w K mg base CX0 1 T.f_contrary T.fd_contrary ["letter"] (sp0 K (cls0 P w) flds0 m_contrary) := fn0 T.d_contrary.fn sc_contrary (w_contrary T) len_contrary p_contrary
theorem w_turned : VSs (fam0 P w K mg base N_turned "turned" (defScope s_turned) T.f_turned 1 (cls0 P w) flds0) (defBody s_turned) t_turned :=
  vss_one (vs_ret (ve_join (ve_str []) (vr_cons (ve_lc (fun _ => sc_turned.nd) (vi_revS (fun _ => T.n_reversed) (ve_name 0)) (fun _ => blkOk_by (own := [("letter", 1)]) (by show blkC N_turned (defScope s_turned) _ _ = true; decide +kernel)) (vg_name (i := 1) (fun _ => sc_turned.nd)) (vts_nil) (ve_call0 (fun _ => ok_contrary T) (fun p => p.1.hr.mono (by decide)) (hg_blk hg0) (fun _ => T.d_contrary.g) T.d_contrary.fn.kp T.d_contrary.b (va_cons (ve_name 1) (va_nil)))) (vr_nil))))
theorem ok_turned : FnG P w K mg base CX0 2 T.f_turned T.fd_turned ["word"] (sp0 K (cls0 P w) flds0 m_turned) := fn0 T.d_turned.fn sc_turned (w_turned T) len_turned p_turned
theorem w_shortened : VSs (fam0 P w K mg base N_shortened "shortened" (defScope s_shortened) T.f_shortened 1 (cls0 P w) flds0) (defBody s_shortened) t_shortened :=
  vss_cons (vs_set (i := 1) (fun _ => sc_shortened.nd) (ve_lst (va_nil))) (vss_cons (vs_for (fun _ => PassesOwn.never) (vi_any (ve_name 0)) (vg_name (i := 2) (fun _ => sc_shortened.nd)) (vss_one (vs_if (VW.vt (vw_and (vt_gt (ve_len (fun _ => T.n_len) (vr_cons (ve_name 1) (vr_nil))) (ve_int)) (vw_and1 (vt_eq hu0 (ve_ix (ve_name 1) (ve_neg (ve_int))) (ve_call0 (fun _ => ok_contrary T) (fun p => p.hr.mono (by decide)) hg0 (fun _ => T.d_contrary.g) T.d_contrary.fn.kp T.d_contrary.b (va_cons (ve_name 2) (va_nil))))))) (vss_one (vs_expr (ve_pop (ve_name 1)))) (vss_one (vs_expr (ve_append (ve_name 1) (va_cons (ve_name 2) (va_nil)))))))) (vss_one (vs_ret (ve_join (ve_str []) (vr_cons (ve_name 1) (vr_nil))))))
theorem ok_shortened : FnG P w K mg base CX0 2 T.f_shortened T.fd_shortened ["word"] (sp0 K (cls0 P w) flds0 m_shortened) := fn0 T.d_shortened.fn sc_shortened (w_shortened T) len_shortened p_shortened
theorem w_shortest : VSs (fam0 P w K mg base N_shortest "shortest" (defScope s_shortest) T.f_shortest 2 (cls0 P w) flds0) (defBody s_shortest) t_shortest :=
  vss_cons (vs_set (i := 1) (fun _ => sc_shortest.nd) (ve_call0 (fun _ => ok_shortened T) (fun p => p.hr.mono (by decide)) hg0 (fun _ => T.d_shortened.g) T.d_shortened.fn.kp T.d_shortened.b (va_cons (ve_name 0) (va_nil)))) (vss_cons (vs_while (fun _ => PassesOwn.never) (VW.vt (vw_and (vt_gt (ve_len (fun _ => T.n_len) (vr_cons (ve_name 1) (vr_nil))) (ve_int)) (vw_and1 (vt_eq hu0 (ve_ix (ve_name 1) (ve_int)) (ve_call0 (fun _ => ok_contrary T) (fun p => p.hr.mono (by decide)) hg0 (fun _ => T.d_contrary.g) T.d_contrary.fn.kp T.d_contrary.b (va_cons (ve_ix (ve_name 1) (ve_neg (ve_int))) (va_nil))))))) (vss_one (vs_set (i := 1) (fun _ => sc_shortest.nd) (ve_slice (ve_name 1) (vo_some (ve_int)) (vo_some (ve_neg (ve_int))))))) (vss_one (vs_ret (ve_name 1))))
theorem ok_shortest : FnG P w K mg base CX0 3 T.f_shortest T.fd_shortest ["word"] (sp0 K (cls0 P w) flds0 m_shortest) := fn0 T.d_shortest.fn sc_shortest (w_shortest T) len_shortest p_shortest
theorem w_ring : VSs (fam0 P w K mg base N_ring "ring" (defScope s_ring) T.f_ring 3 (cls0 P w) flds0) (defBody s_ring) t_ring :=
  vss_cons (vs_set (i := 1) (fun _ => sc_ring.nd) (ve_call0 (fun _ => ok_shortest T) (fun p => p.hr.mono (by decide)) hg0 (fun _ => T.d_shortest.g) T.d_shortest.fn.kp T.d_shortest.b (va_cons (ve_name 0) (va_nil)))) (vss_cons (vs_if (vt_eq hu0 (ve_name 1) (ve_str [])) (vss_one (vs_ret (ve_str []))) (vss_nil)) (vss_one (vs_ret (ve_min1 hu0 (fun _ => T.n_min) (vr_cons (ve_lc (fun _ => sc_ring.nd) (vi_range1 (fun _ => T.n_range) (vr_cons (ve_len (fun _ => T.n_len) (vr_cons (ve_name 1) (vr_nil))) (vr_nil))) (fun _ => blkOk_by (own := [("k", 2)]) (by show blkC N_ring (defScope s_ring) _ _ = true; decide +kernel)) (vg_name (i := 2) (fun _ => sc_ring.nd)) (vts_nil) (ve_add (ve_slice (ve_name 1) (vo_some (ve_name 2)) (vo_none)) (ve_slice (ve_name 1) (vo_none) (vo_some (ve_name 2))))) (vr_nil))))))
theorem ok_ring : FnG P w K mg base CX0 4 T.f_ring T.fd_ring ["word"] (sp0 K (cls0 P w) flds0 m_ring) := fn0 T.d_ring.fn sc_ring (w_ring T) len_ring p_ring
theorem w_rim_from : VSs (fam0 P w K mg base N_rim_from "rim_from" (defScope s_rim_from) T.f_rim_from 1 (cls0 P w) flds0) (defBody s_rim_from) t_rim_from :=
  vss_cons (vs_set (i := 2) (fun _ => sc_rim_from.nd) (ve_str [])) (vss_cons (vs_set (i := 3) (fun _ => sc_rim_from.nd) (ve_name 1)) (vss_cons (vs_while (fun _ => PassesOwn.never) (VW.vt (vw_or (vt_eq hu0 (ve_name 2) (ve_str [])) (vw_or1 (vt_ne hu0 (ve_name 3) (ve_name 1))))) (vss_cons (vs_set (i := 4) (fun _ => sc_rim_from.nd) (ve_ix (ve_name 0) (ve_mod (ve_add (ve_name 3) (ve_int)) (ve_len (fun _ => T.n_len) (vr_cons (ve_name 0) (vr_nil)))))) (vss_cons (vs_set (i := 2) (fun _ => sc_rim_from.nd) (ve_add (ve_name 2) (ve_name 4))) (vss_one (vs_set (i := 3) (fun _ => sc_rim_from.nd) (ve_indexS (ve_name 0) (vr_cons (ve_call0 (fun _ => ok_contrary T) (fun p => p.hr.mono (by decide)) hg0 (fun _ => T.d_contrary.g) T.d_contrary.fn.kp T.d_contrary.b (va_cons (ve_name 4) (va_nil))) (vr_nil)))))))) (vss_one (vs_ret (ve_name 2)))))
theorem ok_rim_from : FnG P w K mg base CX0 2 T.f_rim_from T.fd_rim_from ["yard", "at"] (sp0 K (cls0 P w) flds0 m_rim_from) := fn0 T.d_rim_from.fn sc_rim_from (w_rim_from T) len_rim_from p_rim_from
theorem w_rims : VSs (fam0 P w K mg base N_rims "rims" (defScope s_rims) T.f_rims 4 (cls0 P w) flds0) (defBody s_rims) t_rims :=
  vss_cons (vs_set (i := 1) (fun _ => sc_rims.nd) (ve_lst (va_nil))) (vss_cons (vs_set (i := 2) (fun _ => sc_rims.nd) (ve_dict0)) (vss_cons (vs_for (fun _ => PassesOwn.never) (vi_range1 (fun _ => T.n_range) (vr_cons (ve_len (fun _ => T.n_len) (vr_cons (ve_name 0) (vr_nil))) (vr_nil))) (vg_name (i := 3) (fun _ => sc_rims.nd)) (vss_one (vs_if (vt_dnin hu0 (ve_name 3) (ve_name 2)) (vss_cons (vs_set (i := 4) (fun _ => sc_rims.nd) (ve_call0 (fun _ => ok_rim_from T) (fun p => p.hr.mono (by decide)) hg0 (fun _ => T.d_rim_from.g) T.d_rim_from.fn.kp T.d_rim_from.b (va_cons (ve_name 0) (va_cons (ve_name 3) (va_nil))))) (vss_cons (vs_for (fun _ => PassesOwn.never) (vi_any (ve_name 4)) (vg_name (i := 5) (fun _ => sc_rims.nd)) (vss_one (vs_dput hu0 (ve_bl) (ve_name 2) (ve_indexS (ve_name 0) (vr_cons (ve_call0 (fun _ => ok_contrary T) (fun p => p.hr.mono (by decide)) hg0 (fun _ => T.d_contrary.g) T.d_contrary.fn.kp T.d_contrary.b (va_cons (ve_name 5) (va_nil))) (vr_nil)))))) (vss_one (vs_expr (ve_append (ve_name 1) (va_cons (ve_call0 (fun _ => ok_ring T) (fun p => p.hr.mono (by decide)) hg0 (fun _ => T.d_ring.g) T.d_ring.fn.kp T.d_ring.b (va_cons (ve_name 4) (va_nil))) (va_nil))))))) (vss_nil)))) (vss_one (vs_ret (ve_sortT (fun _ => T.n_sorted) (vr_cons (ve_name 1) (vr_nil)))))))
theorem ok_rims : FnG P w K mg base CX0 5 T.f_rims T.fd_rims ["yard"] (sp0 K (cls0 P w) flds0 m_rims) := fn0 T.d_rims.fn sc_rims (w_rims T) len_rims p_rims
theorem w_handles : VSs (fam0 P w K mg base N_handles "handles" (defScope s_handles) T.f_handles 5 (cls0 P w) flds0) (defBody s_handles) t_handles :=
  vss_one (vs_ret (ve_fdiv (ve_sub (ve_add (ve_fdiv (ve_len (fun _ => T.n_len) (vr_cons (ve_name 0) (vr_nil))) (ve_int)) (ve_int)) (ve_len (fun _ => T.n_len) (vr_cons (ve_call0 (fun _ => ok_rims T) (fun p => p.hr.mono (by decide)) hg0 (fun _ => T.d_rims.g) T.d_rims.fn.kp T.d_rims.b (va_cons (ve_name 0) (va_nil))) (vr_nil)))) (ve_int)))
theorem ok_handles : FnG P w K mg base CX0 6 T.f_handles T.fd_handles ["yard"] (sp0 K (cls0 P w) flds0 m_handles) := fn0 T.d_handles.fn sc_handles (w_handles T) len_handles p_handles
theorem w_look_yard : VSs (fam0 P w K mg base N_look_yard "look_yard" (defScope s_look_yard) T.f_look_yard 1 (cls0 P w) flds0) (defBody s_look_yard) t_look_yard :=
  vss_cons (vs_if (vt_eq hu0 (ve_name 0) (ve_str [])) (vss_one (vs_never)) (vss_nil)) (vss_cons (vs_for (fun _ => PassesOwn.never) (vi_enum (fun _ => T.n_enumerate) (vr_cons (ve_name 0) (vr_nil))) (vg_tup (vgs_cons (vg_name (i := 1) (fun _ => sc_look_yard.nd)) (vgs_cons (vg_name (i := 2) (fun _ => sc_look_yard.nd)) (vgs_nil)))) (vss_one (vs_if (VW.vt (vw_or (vt_notIn hu0 (ve_name 2) (ve_add (ve_globS SM (fun _ => T.c_SMALL)) (ve_globS CP (fun _ => T.c_CAPITALS)))) (vw_or (vt_in hu0 (ve_name 2) (ve_slice (ve_name 0) (vo_none) (vo_some (ve_name 1)))) (vw_or1 (vt_eq hu0 (ve_name 1) (ve_globI (fun _ => T.c_MOST_ENDS))))))) (vss_one (vs_never)) (vss_nil)))) (vss_cons (vs_for (fun _ => PassesOwn.never) (vi_enum (fun _ => T.n_enumerate) (vr_cons (ve_name 0) (vr_nil))) (vg_tup (vgs_cons (vg_name (i := 1) (fun _ => sc_look_yard.nd)) (vgs_cons (vg_name (i := 2) (fun _ => sc_look_yard.nd)) (vgs_nil)))) (vss_one (vs_if (vt_notIn hu0 (ve_call0 (fun _ => ok_contrary T) (fun p => p.hr.mono (by decide)) hg0 (fun _ => T.d_contrary.g) T.d_contrary.fn.kp T.d_contrary.b (va_cons (ve_name 2) (va_nil))) (ve_name 0)) (vss_one (vs_never)) (vss_nil)))) (vss_one (vs_ret (ve_bl)))))
theorem ok_look_yard : FnG P w K mg base CX0 2 T.f_look_yard T.fd_look_yard ["text"] (sp0 K (cls0 P w) flds0 m_look_yard) := fn0 T.d_look_yard.fn sc_look_yard (w_look_yard T) len_look_yard p_look_yard
theorem w_bands : VSs (fam0 P w K mg base N_bands "bands" (defScope s_bands) T.f_bands 0 (cls0 P w) flds0) (defBody s_bands) t_bands :=
  vss_one (vs_ret (ve_join (ve_str []) (vr_cons (ve_sortT (fun _ => T.n_sorted) (vr_cons (ve_lc (fun _ => sc_bands.nd) (vi_any (ve_name 0)) (fun _ => blkOk_by (own := [("sign", 1)]) (by show blkC N_bands (defScope s_bands) _ _ = true; decide +kernel)) (vg_name (i := 1) (fun _ => sc_bands.nd)) (vts_one (vt_in (hu_blk hu0) (ve_name 1) (ve_globS SM (fun _ => T.c_SMALL)))) (ve_name 1)) (vr_nil))) (vr_nil))))
theorem ok_bands : FnG P w K mg base CX0 1 T.f_bands T.fd_bands ["yard"] (sp0 K (cls0 P w) flds0 m_bands) := fn0 T.d_bands.fn sc_bands (w_bands T) len_bands p_bands
theorem w_goes_round : VSs (fam0 P w K mg base N_goes_round "goes_round" (defScope s_goes_round) T.f_goes_round 0 (cls0 P w) flds0) (defBody s_goes_round) t_goes_round :=
  vss_cons (vs_set (i := 4) (fun _ => sc_goes_round.nd) (ve_indexS (ve_name 0) (vr_cons (ve_name 1) (vr_nil)))) (vss_cons (vs_set (i := 5) (fun _ => sc_goes_round.nd) (ve_add (ve_slice (ve_name 0) (vo_some (ve_add (ve_name 4) (ve_int))) (vo_none)) (ve_slice (ve_name 0) (vo_none) (vo_some (ve_name 4))))) (vss_one (vs_ret (ve_lt (ve_indexS (ve_name 5) (vr_cons (ve_name 2) (vr_nil))) (ve_indexS (ve_name 5) (vr_cons (ve_name 3) (vr_nil)))))))
theorem ok_goes_round : FnG P w K mg base CX0 1 T.f_goes_round T.fd_goes_round ["yard", "x", "y", "z"] (sp0 K (cls0 P w) flds0 m_goes_round) := fn0 T.d_goes_round.fn sc_goes_round (w_goes_round T) len_goes_round p_goes_round
theorem w_law_box : VSs (fam0 P w K mg base N_law_box "_law_box" (defScope s_law_box) T.f_law_box 0 (cls0 P w) flds0) (defBody s_law_box) t_law_box :=
  vss_cons (vs_set (i := 2) (fun _ => sc_law_box.nd) (ve_add (ve_mul (ve_int) (ve_name 1)) (ve_int))) (vss_cons (vs_if (vt_lt (ve_name 1) (ve_len (fun _ => T.n_len) (vr_cons (ve_name 0) (vr_nil)))) (vss_one (vs_set (i := 2) (fun _ => sc_law_box.nd) (ve_ix (ve_name 0) (ve_name 1)))) (vss_one (vs_if (vt_gt (ve_len (fun _ => T.n_len) (vr_cons (ve_name 0) (vr_nil))) (ve_int)) (vss_one (vs_set (i := 2) (fun _ => sc_law_box.nd) (ve_add (ve_name 2) (ve_mul (ve_mod (ve_ix (ve_name 0) (ve_mod (ve_name 1) (ve_len (fun _ => T.n_len) (vr_cons (ve_name 0) (vr_nil))))) (ve_int)) (ve_int))))) (vss_nil)))) (vss_cons (vs_set (i := 3) (fun _ => sc_law_box.nd) (ve_mod (ve_pow (ve_add (ve_add (ve_mod (ve_name 2) (ve_int)) (ve_mul (ve_int) (ve_name 1))) (ve_int)) (ve_int)) (ve_int))) (vss_one (vs_ret (ve_lst (va_cons (ve_ix (ve_lst (va_cons (ve_int) (va_cons (ve_name 2) (va_nil)))) (ve_int1 (fun _ => T.n_int) (vr_cons (ve_ge (ve_name 2) (ve_pow (ve_int) (ve_int))) (vr_nil)))) (va_cons (ve_add (ve_mod (ve_name 3) (ve_int)) (ve_int)) (va_nil))))))))
theorem ok_law_box0 : FnG P w K mg base CX0 1 T.f_law_box T.fd_law_box ["_law_script", "_law_k"] (sp0 K (cls0 P w) flds0 mb_law_box) := fn0 T.d_law_box.fn sc_law_box (w_law_box T) len_law_box p_law_box
theorem ok_law_box : FnG P w K mg base CX0 1 T.f_law_box T.fd_law_box ["_law_script", "_law_k"] (sp0 K (cls0 P w) flds0 m_law_box) := Pu.FnG.imp0 (Pu.FnG.boxed (ok_law_box0 T)) box_law_box
theorem w_law_take : VSs (fam0 P w K mg base N_law_take "_law_take" (defScope s_law_take) T.f_law_take 0 (cls0 P w) flds0) (defBody s_law_take) t_law_take :=
  vss_cons (vs_if (vt_gt (ve_ix (ve_name 0) (ve_int)) (ve_int)) (vss_cons (vs_set (i := 3) (fun _ => sc_law_take.nd) (ve_mod (ve_ix (ve_name 0) (ve_int)) (ve_name 1))) (vss_cons (vs_setIx (ve_fdiv (ve_ix (ve_name 0) (ve_int)) (ve_name 1)) (ve_name 0) (ve_int)) (vss_one (vs_ret (ve_name 3))))) (vss_nil)) (vss_cons (vs_set (i := 2) (fun _ => sc_law_take.nd) (ve_mod (ve_mul (ve_ix (ve_name 0) (ve_int)) (ve_int)) (ve_int))) (vss_cons (vs_setIx (ve_add (ve_mod (ve_add (ve_mul (ve_name 2) (ve_int)) (ve_int)) (ve_int)) (ve_int)) (ve_name 0) (ve_int)) (vss_one (vs_ret (ve_mod (ve_fdiv (ve_add (ve_mul (ve_name 2) (ve_int)) (ve_ix (ve_name 0) (ve_int))) (ve_int)) (ve_name 1))))))
theorem ok_law_take : FnG P w K mg base CX0 1 T.f_law_take T.fd_law_take ["_law_box_here", "_law_many"] (sp0 K (cls0 P w) flds0 m_law_take) := fn0 T.d_law_take.fn sc_law_take (w_law_take T) len_law_take p_law_take
theorem w_law_other : VSs (fam0 P w K mg base N_law_other "_law_other" (defScope s_law_other) T.f_law_other 0 (cls0 P w) flds0) (defBody s_law_other) t_law_other :=
  vss_cons (vs_set (i := 1) (fun _ => sc_law_other.nd) (ve_str SM)) (vss_cons (vs_set (i := 2) (fun _ => sc_law_other.nd) (ve_str CP)) (vss_cons (vs_if (vt_in hu0 (ve_name 0) (ve_name 1)) (vss_one (vs_ret (ve_ix (ve_name 2) (ve_indexS (ve_name 1) (vr_cons (ve_name 0) (vr_nil)))))) (vss_nil)) (vss_one (vs_ret (ve_ix (ve_name 1) (ve_indexS (ve_name 2) (vr_cons (ve_name 0) (vr_nil))))))))
theorem ok_law_other : FnG P w K mg base CX0 1 T.f_law_other T.fd_law_other ["_law_letter"] (sp0 K (cls0 P w) flds0 m_law_other) := fn0 T.d_law_other.fn sc_law_other (w_law_other T) len_law_other p_law_other
theorem w_law_yard : VSs (fam0 P w K mg base N_law_yard "_law_yard" (defScope s_law_yard) T.f_law_yard 1 (cls0 P w) flds0) (defBody s_law_yard) t_law_yard :=
  vss_cons (vs_set (i := 3) (fun _ => sc_law_yard.nd) (ve_list (fun _ => T.n_list) (vr_cons (ve_str SM) (vr_nil)))) (vss_cons (vs_set (i := 4) (fun _ => sc_law_yard.nd) (ve_lst (va_nil))) (vss_cons (vs_for (fun _ => PassesOwn.never) (vi_range1 (fun _ => T.n_range) (vr_cons (ve_add (ve_name 1) (ve_call0 (fun _ => ok_law_take T) (fun p => p.hr.mono (by decide)) hg0 (fun _ => T.d_law_take.g) T.d_law_take.fn.kp T.d_law_take.b (va_cons (ve_name 0) (va_cons (ve_add (ve_sub (ve_name 2) (ve_name 1)) (ve_int)) (va_nil))))) (vr_nil))) (vg_name (i := 5) (fun _ => sc_law_yard.nd)) (vss_cons (vs_set (i := 7) (fun _ => sc_law_yard.nd) (ve_popAt (ve_name 3) (va_cons (ve_call0 (fun _ => ok_law_take T) (fun p => p.hr.mono (by decide)) hg0 (fun _ => T.d_law_take.g) T.d_law_take.fn.kp T.d_law_take.b (va_cons (ve_name 0) (va_cons (ve_len (fun _ => T.n_len) (vr_cons (ve_name 3) (vr_nil))) (va_nil)))) (va_nil)))) (vss_one (vs_set (i := 4) (fun _ => sc_law_yard.nd) (ve_add (ve_name 4) (ve_lst (va_cons (ve_name 7) (va_cons (ve_call0 (fun _ => ok_law_other T) (fun p => p.hr.mono (by decide)) hg0 (fun _ => T.d_law_other.g) T.d_law_other.fn.kp T.d_law_other.b (va_cons (ve_name 7) (va_nil))) (va_nil))))))))) (vss_cons (vs_set (i := 6) (fun _ => sc_law_yard.nd) (ve_str [])) (vss_cons (vs_while (fun _ => PassesOwn.never) (vt_gt (ve_len (fun _ => T.n_len) (vr_cons (ve_name 4) (vr_nil))) (ve_int)) (vss_one (vs_set (i := 6) (fun _ => sc_law_yard.nd) (ve_add (ve_name 6) (ve_popAt (ve_name 4) (va_cons (ve_call0 (fun _ => ok_law_take T) (fun p => p.hr.mono (by decide)) hg0 (fun _ => T.d_law_take.g) T.d_law_take.fn.kp T.d_law_take.b (va_cons (ve_name 0) (va_cons (ve_len (fun _ => T.n_len) (vr_cons (ve_name 4) (vr_nil))) (va_nil)))) (va_nil))))))) (vss_one (vs_ret (ve_name 6)))))))
theorem ok_law_yard : FnG P w K mg base CX0 2 T.f_law_yard T.fd_law_yard ["_law_box_here", "_law_few", "_law_top"] (sp0 K (cls0 P w) flds0 m_law_yard) := fn0 T.d_law_yard.fn sc_law_yard (w_law_yard T) len_law_yard p_law_yard
theorem w_law_order : VSs (fam0 P w K mg base N_law_order "_law_order" (defScope s_law_order) T.f_law_order 1 (cls0 P w) flds0) (defBody s_law_order) t_law_order :=
  vss_cons (vs_set (i := 2) (fun _ => sc_law_order.nd) (ve_list (fun _ => T.n_list) (vr_cons (ve_name 1) (vr_nil)))) (vss_cons (vs_set (i := 3) (fun _ => sc_law_order.nd) (ve_lst (va_nil))) (vss_cons (vs_while (fun _ => PassesOwn.never) (vt_gt (ve_len (fun _ => T.n_len) (vr_cons (ve_name 2) (vr_nil))) (ve_int)) (vss_one (vs_expr (ve_append (ve_name 3) (va_cons (ve_popAt (ve_name 2) (va_cons (ve_call0 (fun _ => ok_law_take T) (fun p => p.hr.mono (by decide)) hg0 (fun _ => T.d_law_take.g) T.d_law_take.fn.kp T.d_law_take.b (va_cons (ve_name 0) (va_cons (ve_len (fun _ => T.n_len) (vr_cons (ve_name 2) (vr_nil))) (va_nil)))) (va_nil))) (va_nil)))))) (vss_one (vs_ret (ve_name 3)))))
theorem ok_law_order : FnG P w K mg base CX0 2 T.f_law_order T.fd_law_order ["_law_box_here", "_law_things"] (sp0 K (cls0 P w) flds0 m_law_order) := fn0 T.d_law_order.fn sc_law_order (w_law_order T) len_law_order p_law_order
theorem w_law_called : VSs (fam0 P w K mg base N_law_called "_law_called" (defScope s_law_called) T.f_law_called 2 (cls0 P w) flds0) (defBody s_law_called) t_law_called :=
  vss_cons (vs_set (i := 2) (fun _ => sc_law_called.nd) (ve_call0 (fun _ => ok_law_yard T) (fun p => p.hr.mono (by decide)) hg0 (fun _ => T.d_law_yard.g) T.d_law_yard.fn.kp T.d_law_yard.b (va_cons (ve_name 0) (va_cons (ve_int) (va_cons (ve_int) (va_nil)))))) (vss_cons (vs_set (i := 3) (fun _ => sc_law_called.nd) (ve_dict0)) (vss_cons (vs_for (fun _ => PassesOwn.never) (vi_any (ve_name 1)) (vg_name (i := 4) (fun _ => sc_law_called.nd)) (vss_one (vs_if (vt_dnin hu0 (ve_name 4) (ve_name 3)) (vss_cons (vs_setLc (i := 5) (fun _ => sc_law_called.nd) (vi_any (ve_name 2)) (fun _ => blkOk_by (own := [("_law_letter", 6)]) (by show blkC N_law_called (defScope s_law_called) _ _ = true; decide +kernel)) (vg_name (i := 6) (fun _ => sc_law_called.nd)) (vts_one (vt_dnotval (by intro _; rfl) (ve_name 6) (ve_name 3))) (ve_name 6)) (vss_cons (vs_dput hu0 (ve_ix (ve_name 5) (ve_call0 (fun _ => ok_law_take T) (fun p => p.hr.mono (by decide)) hg0 (fun _ => T.d_law_take.g) T.d_law_take.fn.kp T.d_law_take.b (va_cons (ve_name 0) (va_cons (ve_len (fun _ => T.n_len) (vr_cons (ve_name 5) (vr_nil))) (va_nil))))) (ve_name 3) (ve_name 4)) (vss_one (vs_dput hu0 (ve_call0 (fun _ => ok_law_other T) (fun p => p.hr.mono (by decide)) hg0 (fun _ => T.d_law_other.g) T.d_law_other.fn.kp T.d_law_other.b (va_cons (ve_dget hu0 (ve_name 3) (ve_name 4)) (va_nil))) (ve_name 3) (ve_call0 (fun _ => ok_law_other T) (fun p => p.hr.mono (by decide)) hg0 (fun _ => T.d_law_other.g) T.d_law_other.fn.kp T.d_law_other.b (va_cons (ve_name 4) (va_nil))))))) (vss_nil)))) (vss_one (vs_ret (ve_name 3)))))
theorem ok_law_called : FnG P w K mg base CX0 3 T.f_law_called T.fd_law_called ["_law_box_here", "_law_yard_here"] (sp0 K (cls0 P w) flds0 m_law_called) := fn0 T.d_law_called.fn sc_law_called (w_law_called T) len_law_called p_law_called
theorem w_law_threes : VSs (fam0 P w K mg base N_law_threes "_law_threes" (defScope s_law_threes) T.f_law_threes 2 (cls0 P w) flds0) (defBody s_law_threes) t_law_threes :=
  vss_cons (vs_set (i := 2) (fun _ => sc_law_threes.nd) (ve_call0 (fun _ => ok_law_order T) (fun p => p.hr.mono (by decide)) hg0 (fun _ => T.d_law_order.g) T.d_law_order.fn.kp T.d_law_order.b (va_cons (ve_name 0) (va_cons (ve_name 1) (va_nil))))) (vss_one (vs_ret (ve_lc (fun _ => sc_law_threes.nd) (vi_range1 (fun _ => T.n_range) (vr_cons (ve_sub (ve_len (fun _ => T.n_len) (vr_cons (ve_name 2) (vr_nil))) (ve_int)) (vr_nil))) (fun _ => blkOk_by (own := [("_law_k", 3)]) (by show blkC N_law_threes (defScope s_law_threes) _ _ = true; decide +kernel)) (vg_name (i := 3) (fun _ => sc_law_threes.nd)) (vts_nil) (ve_slice (ve_name 2) (vo_some (ve_name 3)) (vo_some (ve_add (ve_name 3) (ve_int)))))))
theorem ok_law_threes : FnG P w K mg base CX0 3 T.f_law_threes T.fd_law_threes ["_law_box_here", "_law_yard_here"] (sp0 K (cls0 P w) flds0 m_law_threes) := fn0 T.d_law_threes.fn sc_law_threes (w_law_threes T) len_law_threes p_law_threes
theorem w_law_right : VSs (fam0 P w K mg base N_law_right "_law_right" (defScope s_law_right) T.f_law_right 6 (cls0 P w) flds0) (defBody s_law_right) t_law_right :=
  vss_cons (vs_set (i := 3) (fun _ => sc_law_right.nd) (ve_add (ve_slice (ve_name 1) (vo_some (ve_name 2)) (vo_none)) (ve_slice (ve_name 1) (vo_none) (vo_some (ve_name 2))))) (vss_cons (vs_set (i := 4) (fun _ => sc_law_right.nd) (ve_join (ve_str []) (vr_cons (ve_listRv (fun _ => T.n_list) (fun _ => T.n_reversed) (ve_name 1)) (vr_nil)))) (vss_cons (vs_set (i := 5) (fun _ => sc_law_right.nd) (ve_call0 (fun _ => ok_law_called T) (fun p => p.hr.mono (by decide)) hg0 (fun _ => T.d_law_called.g) T.d_law_called.fn.kp T.d_law_called.b (va_cons (ve_name 0) (va_cons (ve_name 1) (va_nil))))) (vss_cons (vs_set (i := 6) (fun _ => sc_law_right.nd) (ve_join (ve_str []) (vr_cons (ve_lc (fun _ => sc_law_right.nd) (vi_any (ve_name 1)) (fun _ => blkOk_by (own := [("_law_end", 12)]) (by show blkC N_law_right (defScope s_law_right) _ _ = true; decide +kernel)) (vg_name (i := 12) (fun _ => sc_law_right.nd)) (vts_nil) (ve_dget (hu_blk hu0) (ve_name 5) (ve_name 12))) (vr_nil)))) (vss_cons (vs_if (VW.vt (vw_or (vt_ne hu0 (ve_lc (fun _ => sc_law_right.nd) (vi_any (ve_tup (va_cons (ve_name 3) (va_cons (ve_name 4) (va_cons (ve_name 6) (va_nil)))))) (fun _ => blkOk_by (own := [("_law_one", 13)]) (by show blkC N_law_right (defScope s_law_right) _ _ = true; decide +kernel)) (vg_name (i := 13) (fun _ => sc_law_right.nd)) (vts_nil) (ve_call0 (fun _ => ok_look_yard T) (fun p => p.1.hr.mono (by decide)) (hg_blk hg0) (fun _ => T.d_look_yard.g) T.d_look_yard.fn.kp T.d_look_yard.b (va_cons (ve_name 13) (va_nil)))) (ve_mul (ve_lst (va_cons (ve_bl) (va_nil))) (ve_int))) (vw_or1 (vt_ne hu0 (ve_call0 (fun _ => ok_bands T) (fun p => p.hr.mono (by decide)) hg0 (fun _ => T.d_bands.g) T.d_bands.fn.kp T.d_bands.b (va_cons (ve_name 3) (va_nil))) (ve_call0 (fun _ => ok_bands T) (fun p => p.hr.mono (by decide)) hg0 (fun _ => T.d_bands.g) T.d_bands.fn.kp T.d_bands.b (va_cons (ve_name 1) (va_nil))))))) (vss_one (vs_ret (ve_bl))) (vss_nil)) (vss_cons (vs_set (i := 7) (fun _ => sc_law_right.nd) (ve_call0 (fun _ => ok_rims T) (fun p => p.hr.mono (by decide)) hg0 (fun _ => T.d_rims.g) T.d_rims.fn.kp T.d_rims.b (va_cons (ve_name 1) (va_nil)))) (vss_cons (vs_if (VW.vt (vw_or (vt_ne hu0 (ve_call0 (fun _ => ok_rims T) (fun p => p.hr.mono (by decide)) hg0 (fun _ => T.d_rims.g) T.d_rims.fn.kp T.d_rims.b (va_cons (ve_name 3) (va_nil))) (ve_name 7)) (vw_or1 (vt_ne hu0 (ve_call0 (fun _ => ok_rims T) (fun p => p.hr.mono (by decide)) hg0 (fun _ => T.d_rims.g) T.d_rims.fn.kp T.d_rims.b (va_cons (ve_name 4) (va_nil))) (ve_sortT (fun _ => T.n_sorted) (vr_cons (ve_lc (fun _ => sc_law_right.nd) (vi_any (ve_name 7)) (fun _ => blkOk_by (own := [("_law_word", 14)]) (by show blkC N_law_right (defScope s_law_right) _ _ = true; decide +kernel)) (vg_name (i := 14) (fun _ => sc_law_right.nd)) (vts_nil) (ve_call0 (fun _ => ok_ring T) (fun p => p.1.hr.mono (by decide)) (hg_blk hg0) (fun _ => T.d_ring.g) T.d_ring.fn.kp T.d_ring.b (va_cons (ve_call0 (fun _ => ok_turned T) (fun p => p.1.hr.mono (by decide)) (hg_blk hg0) (fun _ => T.d_turned.g) T.d_turned.fn.kp T.d_turned.b (va_cons (ve_name 14) (va_nil))) (va_nil)))) (vr_nil))))))) (vss_one (vs_ret (ve_bl))) (vss_nil)) (vss_cons (vs_if (vt_ne hu0 (ve_call0 (fun _ => ok_rims T) (fun p => p.hr.mono (by decide)) hg0 (fun _ => T.d_rims.g) T.d_rims.fn.kp T.d_rims.b (va_cons (ve_name 6) (va_nil))) (ve_sortT (fun _ => T.n_sorted) (vr_cons (ve_lc (fun _ => sc_law_right.nd) (vi_any (ve_name 7)) (fun _ => blkOk_by (own := [("_law_word", 14)]) (by show blkC N_law_right (defScope s_law_right) _ _ = true; decide +kernel)) (vg_name (i := 14) (fun _ => sc_law_right.nd)) (vts_nil) (ve_call0 (fun _ => ok_ring T) (fun p => p.1.hr.mono (by decide)) (hg_blk hg0) (fun _ => T.d_ring.g) T.d_ring.fn.kp T.d_ring.b (va_cons (ve_join (ve_str []) (vr_cons (ve_lc (fun _ => sc_law_right.nd) (vi_any (ve_name 14)) (fun _ => blkOk_by (own := [("_law_end", 12)]) (by show blkC N_law_right _ _ _ = true; exact rfl)) (vg_name (i := 12) (fun _ => sc_law_right.nd)) (vts_nil) (ve_dget (hu_blk (hu_blk hu0)) (ve_name 5) (ve_name 12))) (vr_nil))) (va_nil)))) (vr_nil)))) (vss_one (vs_ret (ve_bl))) (vss_nil)) (vss_cons (vs_if (vt_ne hu0 (ve_lc (fun _ => sc_law_right.nd) (vi_any (ve_tup (va_cons (ve_name 3) (va_cons (ve_name 4) (va_cons (ve_name 6) (va_nil)))))) (fun _ => blkOk_by (own := [("_law_one", 13)]) (by show blkC N_law_right (defScope s_law_right) _ _ = true; decide +kernel)) (vg_name (i := 13) (fun _ => sc_law_right.nd)) (vts_nil) (ve_call0 (fun _ => ok_handles T) (fun p => p.1.hr.mono (by decide)) (hg_blk hg0) (fun _ => T.d_handles.g) T.d_handles.fn.kp T.d_handles.b (va_cons (ve_name 13) (va_nil)))) (ve_mul (ve_lst (va_cons (ve_call0 (fun _ => ok_handles T) (fun p => p.hr.mono (by decide)) hg0 (fun _ => T.d_handles.g) T.d_handles.fn.kp T.d_handles.b (va_cons (ve_name 1) (va_nil))) (va_nil))) (ve_int))) (vss_one (vs_ret (ve_bl))) (vss_nil)) (vss_cons (vs_for (fun _ => PassesOwn.never) (vi_any (ve_call0 (fun _ => ok_law_threes T) (fun p => p.hr.mono (by decide)) hg0 (fun _ => T.d_law_threes.g) T.d_law_threes.fn.kp T.d_law_threes.b (va_cons (ve_name 0) (va_cons (ve_name 1) (va_nil))))) (vg_ls (vgs_cons (vg_name (i := 8) (fun _ => sc_law_right.nd)) (vgs_cons (vg_name (i := 9) (fun _ => sc_law_right.nd)) (vgs_cons (vg_name (i := 10) (fun _ => sc_law_right.nd)) (vgs_nil))))) (vss_cons (vs_set (i := 11) (fun _ => sc_law_right.nd) (ve_call0 (fun _ => ok_goes_round T) (fun p => p.hr.mono (by decide)) hg0 (fun _ => T.d_goes_round.g) T.d_goes_round.fn.kp T.d_goes_round.b (va_cons (ve_name 1) (va_cons (ve_name 8) (va_cons (ve_name 9) (va_cons (ve_name 10) (va_nil))))))) (vss_one (vs_if (VW.vt (vw_or (vt_ne hu0 (ve_call0 (fun _ => ok_goes_round T) (fun p => p.hr.mono (by decide)) hg0 (fun _ => T.d_goes_round.g) T.d_goes_round.fn.kp T.d_goes_round.b (va_cons (ve_name 3) (va_cons (ve_name 8) (va_cons (ve_name 9) (va_cons (ve_name 10) (va_nil)))))) (ve_name 11)) (vw_or1 (vt_ne hu0 (ve_call0 (fun _ => ok_goes_round T) (fun p => p.hr.mono (by decide)) hg0 (fun _ => T.d_goes_round.g) T.d_goes_round.fn.kp T.d_goes_round.b (va_cons (ve_name 4) (va_cons (ve_name 8) (va_cons (ve_name 10) (va_cons (ve_name 9) (va_nil)))))) (ve_name 11))))) (vss_one (vs_ret (ve_bl))) (vss_nil))))) (vss_one (vs_ret (ve_bl))))))))))))
theorem ok_law_right : FnG P w K mg base CX0 7 T.f_law_right T.fd_law_right ["_law_box_here", "_law_yard_here", "_law_at"] (sp0 K (cls0 P w) flds0 m_law_right) := fn0 T.d_law_right.fn sc_law_right (w_law_right T) len_law_right p_law_right
theorem w_law : VSs (fam0 P w K mg base N_law "law" (defScope s_law) T.f_law 7 (cls0 P w) flds0) (defBody s_law) t_law :=
  vss_cons (vs_for (fun _ => PassesOwn.never) (vi_range1 (fun _ => T.n_range) (vr_cons (ve_max2 (fun _ => T.n_max) (vr_cons (ve_int) (vr_cons (ve_min2 (fun _ => T.n_min) (vr_cons (ve_int) (vr_cons (ve_len (fun _ => T.n_len) (vr_cons (ve_name 0) (vr_nil))) (vr_nil)))) (vr_nil)))) (vr_nil))) (vg_name (i := 1) (fun _ => sc_law.nd)) (vss_cons (vs_set (i := 2) (fun _ => sc_law.nd) (ve_call0 (fun _ => ok_law_box T) (fun p => p.hr.mono (by decide)) hg0 (fun _ => T.d_law_box.g) T.d_law_box.fn.kp T.d_law_box.b (va_cons (ve_name 0) (va_cons (ve_name 1) (va_nil))))) (vss_cons (vs_set (i := 3) (fun _ => sc_law.nd) (ve_call0 (fun _ => ok_law_take T) (fun p => p.hr.mono (by decide)) hg0 (fun _ => T.d_law_take.g) T.d_law_take.fn.kp T.d_law_take.b (va_cons (ve_name 2) (va_cons (ve_int) (va_nil))))) (vss_cons (vs_set (i := 4) (fun _ => sc_law.nd) (ve_call0 (fun _ => ok_law_yard T) (fun p => p.hr.mono (by decide)) hg0 (fun _ => T.d_law_yard.g) T.d_law_yard.fn.kp T.d_law_yard.b (va_cons (ve_name 2) (va_cons (ve_int) (va_cons (ve_int) (va_nil)))))) (vss_one (vs_if (vt_not (vt_val (ve_call0 (fun _ => ok_law_right T) (fun p => p.hr.mono (by decide)) hg0 (fun _ => T.d_law_right.g) T.d_law_right.fn.kp T.d_law_right.b (va_cons (ve_name 2) (va_cons (ve_name 4) (va_cons (ve_mod (ve_name 3) (ve_len (fun _ => T.n_len) (vr_cons (ve_name 4) (vr_nil)))) (va_nil))))))) (vss_one (vs_ret (ve_bl))) (vss_nil))))))) (vss_one (vs_ret (ve_bl)))
theorem ok_law : FnG P w K mg base CX0 8 T.f_law T.fd_law ["_law_script"] (sp0 K (cls0 P w) flds0 m_law) := fn0 T.d_law.fn sc_law (w_law T) len_law p_law
end
theorem all_mk {l : PySem.W.OpenLaw} {w : World} {K : PySem.W.Frag} {h : Heap} {mg : Str → Option Value} {fa f1 f2 f3 f4 f5 f6 f7 f8 f9 f10 f11 f12 f13 f14 f15 f16 f17 f18 f19 f20 : Addr} (X : K.In h) (G : h.Ns mainGlobals mg) (hfa : mg "law" = some (.ref fa))
    {od1 an1 od2 an2 od3 an3 od4 an4 od5 an5 od6 an6 od7 an7 od8 an8 od9 an9 od10 an10 od11 an11 od12 an12 od13 an13 od14 an14 od15 an15 od16 an16 od17 an17 od18 an18 od19 an19 od20 an20 : Option Addr} {sl1 sl2 sl3 sl4 sl5 sl6 sl7 sl8 sl9 sl10 sl11 sl12 sl13 sl14 sl15 sl16 sl17 sl18 sl19 sl20 : Array (Option Value)} {oc1 kV1 dc1 pm1 cd1 ct1 oc2 kV2 dc2 pm2 cd2 ct2 oc3 kV3 dc3 pm3 cd3 ct3 oc4 kV4 dc4 pm4 cd4 ct4 oc5 kV5 dc5 pm5 cd5 ct5 oc6 kV6 dc6 pm6 cd6 ct6 oc7 kV7 dc7 pm7 cd7 ct7 oc8 kV8 dc8 pm8 cd8 ct8 oc9 kV9 dc9 pm9 cd9 ct9 oc10 kV10 dc10 pm10 cd10 ct10 oc11 kV11 dc11 pm11 cd11 ct11 oc12 kV12 dc12 pm12 cd12 ct12 oc13 kV13 dc13 pm13 cd13 ct13 oc14 kV14 dc14 pm14 cd14 ct14 oc15 kV15 dc15 pm15 cd15 ct15 oc16 kV16 dc16 pm16 cd16 ct16 oc17 kV17 dc17 pm17 cd17 ct17 oc18 kV18 dc18 pm18 cd18 ct18 oc19 kV19 dc19 pm19 cd19 ct19 oc20 kV20 dc20 pm20 cd20 ct20 : Value} {gt1 gt2 gt3 : Tok} 
        (a1 : PySem.W.nsIn K mainGlobals "contrary" = some (some (.ref f1))) (l1 : K.lookup f1 = some ⟨oc1, od1, .func (PySem.W.fnOf "contrary" "contrary" (defArgs s_contrary) (defBody s_contrary) (defScope s_contrary) .none kV1 dc1 pm1 an1 cd1 ct1), sl1⟩) (c1 : PySem.W.codeIn K cd1 "contrary" = true) (k1 : PySem.W.keepIn K (.ref f1) = true)
    (a2 : PySem.W.nsIn K mainGlobals "turned" = some (some (.ref f2))) (l2 : K.lookup f2 = some ⟨oc2, od2, .func (PySem.W.fnOf "turned" "turned" (defArgs s_turned) (defBody s_turned) (defScope s_turned) .none kV2 dc2 pm2 an2 cd2 ct2), sl2⟩) (c2 : PySem.W.codeIn K cd2 "turned" = true) (k2 : PySem.W.keepIn K (.ref f2) = true)
    (a3 : PySem.W.nsIn K mainGlobals "shortened" = some (some (.ref f3))) (l3 : K.lookup f3 = some ⟨oc3, od3, .func (PySem.W.fnOf "shortened" "shortened" (defArgs s_shortened) (defBody s_shortened) (defScope s_shortened) .none kV3 dc3 pm3 an3 cd3 ct3), sl3⟩) (c3 : PySem.W.codeIn K cd3 "shortened" = true) (k3 : PySem.W.keepIn K (.ref f3) = true)
    (a4 : PySem.W.nsIn K mainGlobals "shortest" = some (some (.ref f4))) (l4 : K.lookup f4 = some ⟨oc4, od4, .func (PySem.W.fnOf "shortest" "shortest" (defArgs s_shortest) (defBody s_shortest) (defScope s_shortest) .none kV4 dc4 pm4 an4 cd4 ct4), sl4⟩) (c4 : PySem.W.codeIn K cd4 "shortest" = true) (k4 : PySem.W.keepIn K (.ref f4) = true)
    (a5 : PySem.W.nsIn K mainGlobals "ring" = some (some (.ref f5))) (l5 : K.lookup f5 = some ⟨oc5, od5, .func (PySem.W.fnOf "ring" "ring" (defArgs s_ring) (defBody s_ring) (defScope s_ring) .none kV5 dc5 pm5 an5 cd5 ct5), sl5⟩) (c5 : PySem.W.codeIn K cd5 "ring" = true) (k5 : PySem.W.keepIn K (.ref f5) = true)
    (a6 : PySem.W.nsIn K mainGlobals "rim_from" = some (some (.ref f6))) (l6 : K.lookup f6 = some ⟨oc6, od6, .func (PySem.W.fnOf "rim_from" "rim_from" (defArgs s_rim_from) (defBody s_rim_from) (defScope s_rim_from) .none kV6 dc6 pm6 an6 cd6 ct6), sl6⟩) (c6 : PySem.W.codeIn K cd6 "rim_from" = true) (k6 : PySem.W.keepIn K (.ref f6) = true)
    (a7 : PySem.W.nsIn K mainGlobals "rims" = some (some (.ref f7))) (l7 : K.lookup f7 = some ⟨oc7, od7, .func (PySem.W.fnOf "rims" "rims" (defArgs s_rims) (defBody s_rims) (defScope s_rims) .none kV7 dc7 pm7 an7 cd7 ct7), sl7⟩) (c7 : PySem.W.codeIn K cd7 "rims" = true) (k7 : PySem.W.keepIn K (.ref f7) = true)
    (a8 : PySem.W.nsIn K mainGlobals "handles" = some (some (.ref f8))) (l8 : K.lookup f8 = some ⟨oc8, od8, .func (PySem.W.fnOf "handles" "handles" (defArgs s_handles) (defBody s_handles) (defScope s_handles) .none kV8 dc8 pm8 an8 cd8 ct8), sl8⟩) (c8 : PySem.W.codeIn K cd8 "handles" = true) (k8 : PySem.W.keepIn K (.ref f8) = true)
    (a9 : PySem.W.nsIn K mainGlobals "look_yard" = some (some (.ref f9))) (l9 : K.lookup f9 = some ⟨oc9, od9, .func (PySem.W.fnOf "look_yard" "look_yard" (defArgs s_look_yard) (defBody s_look_yard) (defScope s_look_yard) .none kV9 dc9 pm9 an9 cd9 ct9), sl9⟩) (c9 : PySem.W.codeIn K cd9 "look_yard" = true) (k9 : PySem.W.keepIn K (.ref f9) = true)
    (a10 : PySem.W.nsIn K mainGlobals "bands" = some (some (.ref f10))) (l10 : K.lookup f10 = some ⟨oc10, od10, .func (PySem.W.fnOf "bands" "bands" (defArgs s_bands) (defBody s_bands) (defScope s_bands) .none kV10 dc10 pm10 an10 cd10 ct10), sl10⟩) (c10 : PySem.W.codeIn K cd10 "bands" = true) (k10 : PySem.W.keepIn K (.ref f10) = true)
    (a11 : PySem.W.nsIn K mainGlobals "goes_round" = some (some (.ref f11))) (l11 : K.lookup f11 = some ⟨oc11, od11, .func (PySem.W.fnOf "goes_round" "goes_round" (defArgs s_goes_round) (defBody s_goes_round) (defScope s_goes_round) .none kV11 dc11 pm11 an11 cd11 ct11), sl11⟩) (c11 : PySem.W.codeIn K cd11 "goes_round" = true) (k11 : PySem.W.keepIn K (.ref f11) = true)
    (a12 : PySem.W.nsIn K mainGlobals "_law_box" = some (some (.ref f12))) (l12 : K.lookup f12 = some ⟨oc12, od12, .func (PySem.W.fnOf "_law_box" "_law_box" (defArgs s_law_box) (defBody s_law_box) (defScope s_law_box) .none kV12 dc12 pm12 an12 cd12 ct12), sl12⟩) (c12 : PySem.W.codeIn K cd12 "_law_box" = true) (k12 : PySem.W.keepIn K (.ref f12) = true)
    (a13 : PySem.W.nsIn K mainGlobals "_law_take" = some (some (.ref f13))) (l13 : K.lookup f13 = some ⟨oc13, od13, .func (PySem.W.fnOf "_law_take" "_law_take" (defArgs s_law_take) (defBody s_law_take) (defScope s_law_take) .none kV13 dc13 pm13 an13 cd13 ct13), sl13⟩) (c13 : PySem.W.codeIn K cd13 "_law_take" = true) (k13 : PySem.W.keepIn K (.ref f13) = true)
    (a14 : PySem.W.nsIn K mainGlobals "_law_other" = some (some (.ref f14))) (l14 : K.lookup f14 = some ⟨oc14, od14, .func (PySem.W.fnOf "_law_other" "_law_other" (defArgs s_law_other) (defBody s_law_other) (defScope s_law_other) .none kV14 dc14 pm14 an14 cd14 ct14), sl14⟩) (c14 : PySem.W.codeIn K cd14 "_law_other" = true) (k14 : PySem.W.keepIn K (.ref f14) = true)
    (a15 : PySem.W.nsIn K mainGlobals "_law_yard" = some (some (.ref f15))) (l15 : K.lookup f15 = some ⟨oc15, od15, .func (PySem.W.fnOf "_law_yard" "_law_yard" (defArgs s_law_yard) (defBody s_law_yard) (defScope s_law_yard) .none kV15 dc15 pm15 an15 cd15 ct15), sl15⟩) (c15 : PySem.W.codeIn K cd15 "_law_yard" = true) (k15 : PySem.W.keepIn K (.ref f15) = true)
    (a16 : PySem.W.nsIn K mainGlobals "_law_order" = some (some (.ref f16))) (l16 : K.lookup f16 = some ⟨oc16, od16, .func (PySem.W.fnOf "_law_order" "_law_order" (defArgs s_law_order) (defBody s_law_order) (defScope s_law_order) .none kV16 dc16 pm16 an16 cd16 ct16), sl16⟩) (c16 : PySem.W.codeIn K cd16 "_law_order" = true) (k16 : PySem.W.keepIn K (.ref f16) = true)
    (a17 : PySem.W.nsIn K mainGlobals "_law_called" = some (some (.ref f17))) (l17 : K.lookup f17 = some ⟨oc17, od17, .func (PySem.W.fnOf "_law_called" "_law_called" (defArgs s_law_called) (defBody s_law_called) (defScope s_law_called) .none kV17 dc17 pm17 an17 cd17 ct17), sl17⟩) (c17 : PySem.W.codeIn K cd17 "_law_called" = true) (k17 : PySem.W.keepIn K (.ref f17) = true)
    (a18 : PySem.W.nsIn K mainGlobals "_law_threes" = some (some (.ref f18))) (l18 : K.lookup f18 = some ⟨oc18, od18, .func (PySem.W.fnOf "_law_threes" "_law_threes" (defArgs s_law_threes) (defBody s_law_threes) (defScope s_law_threes) .none kV18 dc18 pm18 an18 cd18 ct18), sl18⟩) (c18 : PySem.W.codeIn K cd18 "_law_threes" = true) (k18 : PySem.W.keepIn K (.ref f18) = true)
    (a19 : PySem.W.nsIn K mainGlobals "_law_right" = some (some (.ref f19))) (l19 : K.lookup f19 = some ⟨oc19, od19, .func (PySem.W.fnOf "_law_right" "_law_right" (defArgs s_law_right) (defBody s_law_right) (defScope s_law_right) .none kV19 dc19 pm19 an19 cd19 ct19), sl19⟩) (c19 : PySem.W.codeIn K cd19 "_law_right" = true) (k19 : PySem.W.keepIn K (.ref f19) = true)
    (a20 : PySem.W.nsIn K mainGlobals "law" = some (some (.ref f20))) (l20 : K.lookup f20 = some ⟨oc20, od20, .func (PySem.W.fnOf "law" "law" (defArgs s_law) (defBody s_law) (defScope s_law) .none kV20 dc20 pm20 an20 cd20 ct20), sl20⟩) (c20 : PySem.W.codeIn K cd20 "law" = true) (k20 : PySem.W.keepIn K (.ref f20) = true)
    (b1 : PySem.W.nsIn K mainGlobals "enumerate" = some none) (b2 : PySem.W.nsIn K mainGlobals "int" = some none) (b3 : PySem.W.nsIn K mainGlobals "len" = some none) (b4 : PySem.W.nsIn K mainGlobals "list" = some none) (b5 : PySem.W.nsIn K mainGlobals "max" = some none) (b6 : PySem.W.nsIn K mainGlobals "min" = some none) (b7 : PySem.W.nsIn K mainGlobals "range" = some none) (b8 : PySem.W.nsIn K mainGlobals "reversed" = some none) (b9 : PySem.W.nsIn K mainGlobals "sorted" = some none) (g1 : PySem.W.nsIn K mainGlobals "SMALL" = some (some (.str "abcdefghijklmnopqrstuvwxyz" gt1))) (g2 : PySem.W.nsIn K mainGlobals "CAPITALS" = some (some (.str "ABCDEFGHIJKLMNOPQRSTUVWXYZ" gt2))) (g3 : PySem.W.nsIn K mainGlobals "MOST_ENDS" = some (some (.int 8 gt3)))  :
    ∃ fd : FuncData, (∀ (s : Shared) (v : Value), BindsTo s fd ⟨[v], []⟩ [("_law_script", v)]) ∧ ∀ base : Heap, K.In base → base.Ns mainGlobals mg → FnG l.prog w K mg base CX0 8 fa fd ["_law_script"] (spLaw K) := by
  have e := hfa.symm.trans (PySem.W.mg_of X G a20)
  cases e
  have F1 := fun_mk (st := s_contrary) l1 c1 k1
  have B1 := F1.binds (ps := ["letter"]) fun _ _ _ _ _ _ us hl => match us, hl with | [_], _ => rfl
  have F2 := fun_mk (st := s_turned) l2 c2 k2
  have B2 := F2.binds (ps := ["word"]) fun _ _ _ _ _ _ us hl => match us, hl with | [_], _ => rfl
  have F3 := fun_mk (st := s_shortened) l3 c3 k3
  have B3 := F3.binds (ps := ["word"]) fun _ _ _ _ _ _ us hl => match us, hl with | [_], _ => rfl
  have F4 := fun_mk (st := s_shortest) l4 c4 k4
  have B4 := F4.binds (ps := ["word"]) fun _ _ _ _ _ _ us hl => match us, hl with | [_], _ => rfl
  have F5 := fun_mk (st := s_ring) l5 c5 k5
  have B5 := F5.binds (ps := ["word"]) fun _ _ _ _ _ _ us hl => match us, hl with | [_], _ => rfl
  have F6 := fun_mk (st := s_rim_from) l6 c6 k6
  have B6 := F6.binds (ps := ["yard", "at"]) fun _ _ _ _ _ _ us hl => match us, hl with | [_, _], _ => rfl
  have F7 := fun_mk (st := s_rims) l7 c7 k7
  have B7 := F7.binds (ps := ["yard"]) fun _ _ _ _ _ _ us hl => match us, hl with | [_], _ => rfl
  have F8 := fun_mk (st := s_handles) l8 c8 k8
  have B8 := F8.binds (ps := ["yard"]) fun _ _ _ _ _ _ us hl => match us, hl with | [_], _ => rfl
  have F9 := fun_mk (st := s_look_yard) l9 c9 k9
  have B9 := F9.binds (ps := ["text"]) fun _ _ _ _ _ _ us hl => match us, hl with | [_], _ => rfl
  have F10 := fun_mk (st := s_bands) l10 c10 k10
  have B10 := F10.binds (ps := ["yard"]) fun _ _ _ _ _ _ us hl => match us, hl with | [_], _ => rfl
  have F11 := fun_mk (st := s_goes_round) l11 c11 k11
  have B11 := F11.binds (ps := ["yard", "x", "y", "z"]) fun _ _ _ _ _ _ us hl => match us, hl with | [_, _, _, _], _ => rfl
  have F12 := fun_mk (st := s_law_box) l12 c12 k12
  have B12 := F12.binds (ps := ["_law_script", "_law_k"]) fun _ _ _ _ _ _ us hl => match us, hl with | [_, _], _ => rfl
  have F13 := fun_mk (st := s_law_take) l13 c13 k13
  have B13 := F13.binds (ps := ["_law_box_here", "_law_many"]) fun _ _ _ _ _ _ us hl => match us, hl with | [_, _], _ => rfl
  have F14 := fun_mk (st := s_law_other) l14 c14 k14
  have B14 := F14.binds (ps := ["_law_letter"]) fun _ _ _ _ _ _ us hl => match us, hl with | [_], _ => rfl
  have F15 := fun_mk (st := s_law_yard) l15 c15 k15
  have B15 := F15.binds (ps := ["_law_box_here", "_law_few", "_law_top"]) fun _ _ _ _ _ _ us hl => match us, hl with | [_, _, _], _ => rfl
  have F16 := fun_mk (st := s_law_order) l16 c16 k16
  have B16 := F16.binds (ps := ["_law_box_here", "_law_things"]) fun _ _ _ _ _ _ us hl => match us, hl with | [_, _], _ => rfl
  have F17 := fun_mk (st := s_law_called) l17 c17 k17
  have B17 := F17.binds (ps := ["_law_box_here", "_law_yard_here"]) fun _ _ _ _ _ _ us hl => match us, hl with | [_, _], _ => rfl
  have F18 := fun_mk (st := s_law_threes) l18 c18 k18
  have B18 := F18.binds (ps := ["_law_box_here", "_law_yard_here"]) fun _ _ _ _ _ _ us hl => match us, hl with | [_, _], _ => rfl
  have F19 := fun_mk (st := s_law_right) l19 c19 k19
  have B19 := F19.binds (ps := ["_law_box_here", "_law_yard_here", "_law_at"]) fun _ _ _ _ _ _ us hl => match us, hl with | [_, _, _], _ => rfl
  have F20 := fun_mk (st := s_law) l20 c20 k20
  have B20 := F20.binds (ps := ["_law_script"]) fun _ _ _ _ _ _ us hl => match us, hl with | [_], _ => rfl
  let T : Tx K mg := ⟨_, _, ⟨F1, B1, PySem.W.mg_of X G a1⟩, _, _, ⟨F2, B2, PySem.W.mg_of X G a2⟩, _, _, ⟨F3, B3, PySem.W.mg_of X G a3⟩, _, _, ⟨F4, B4, PySem.W.mg_of X G a4⟩, _, _, ⟨F5, B5, PySem.W.mg_of X G a5⟩, _, _, ⟨F6, B6, PySem.W.mg_of X G a6⟩, _, _, ⟨F7, B7, PySem.W.mg_of X G a7⟩, _, _, ⟨F8, B8, PySem.W.mg_of X G a8⟩, _, _, ⟨F9, B9, PySem.W.mg_of X G a9⟩, _, _, ⟨F10, B10, PySem.W.mg_of X G a10⟩, _, _, ⟨F11, B11, PySem.W.mg_of X G a11⟩, _, _, ⟨F12, B12, PySem.W.mg_of X G a12⟩, _, _, ⟨F13, B13, PySem.W.mg_of X G a13⟩, _, _, ⟨F14, B14, PySem.W.mg_of X G a14⟩, _, _, ⟨F15, B15, PySem.W.mg_of X G a15⟩, _, _, ⟨F16, B16, PySem.W.mg_of X G a16⟩, _, _, ⟨F17, B17, PySem.W.mg_of X G a17⟩, _, _, ⟨F18, B18, PySem.W.mg_of X G a18⟩, _, _, ⟨F19, B19, PySem.W.mg_of X G a19⟩, _, _, ⟨F20, B20, PySem.W.mg_of X G a20⟩, PySem.W.mg_none_of X G b1, PySem.W.mg_none_of X G b2, PySem.W.mg_none_of X G b3, PySem.W.mg_none_of X G b4, PySem.W.mg_none_of X G b5, PySem.W.mg_none_of X G b6, PySem.W.mg_none_of X G b7, PySem.W.mg_none_of X G b8, PySem.W.mg_none_of X G b9, _, PySem.W.mg_of X G g1, _, PySem.W.mg_of X G g2, _, PySem.W.mg_of X G g3⟩
  exact ⟨_, fun s v => .of_eq rfl, fun base _ _ => Pu.FnG.law (cls := cls0 l.prog w) (flds := flds0) law_m (ok_law T)⟩
end Lw
set_option maxRecDepth 100000 in
set_option maxHeartbeats 0 in
theorem PySem.Challenge.cw_mustmeet_k11_whole_yards_told_otherwise_holds : PySem.Challenge.rw_mustmeet_k11_whole_yards_told_otherwise.Holds := by
  w_on; o_law; k_head; (case hw => w_witness2)
  k_fill
  refine Pu.walk (k := 8) ⟨rfl, by decide, by decide⟩ (l := PySem.Challenge.rw_mustmeet_k11_whole_yards_told_otherwise) rfl rfl (fun w h Y => PySem.W.kIn_of Y) ?F
  case F =>
    intro w mg fa h KX G hmg
    refine' Lw.all_mk KX G hmg ?a1 ?l1 ?c1 ?k1 ?a2 ?l2 ?c2 ?k2 ?a3 ?l3 ?c3 ?k3 ?a4 ?l4 ?c4 ?k4 ?a5 ?l5 ?c5 ?k5 ?a6 ?l6 ?c6 ?k6 ?a7 ?l7 ?c7 ?k7 ?a8 ?l8 ?c8 ?k8 ?a9 ?l9 ?c9 ?k9 ?a10 ?l10 ?c10 ?k10 ?a11 ?l11 ?c11 ?k11 ?a12 ?l12 ?c12 ?k12 ?a13 ?l13 ?c13 ?k13 ?a14 ?l14 ?c14 ?k14 ?a15 ?l15 ?c15 ?k15 ?a16 ?l16 ?c16 ?k16 ?a17 ?l17 ?c17 ?k17 ?a18 ?l18 ?c18 ?k18 ?a19 ?l19 ?c19 ?k19 ?a20 ?l20 ?c20 ?k20 ?b1 ?b2 ?b3 ?b4 ?b5 ?b6 ?b7 ?b8 ?b9 ?g1 ?g2 ?g3
    (case a1 => k_is); (case l1 => k_is); (case c1 => k_is); (case k1 => k_is); (case a2 => k_is); (case l2 => k_is); (case c2 => k_is); (case k2 => k_is); (case a3 => k_is); (case l3 => k_is); (case c3 => k_is); (case k3 => k_is); (case a4 => k_is); (case l4 => k_is); (case c4 => k_is); (case k4 => k_is); (case a5 => k_is); (case l5 => k_is); (case c5 => k_is); (case k5 => k_is); (case a6 => k_is); (case l6 => k_is); (case c6 => k_is); (case k6 => k_is); (case a7 => k_is); (case l7 => k_is); (case c7 => k_is); (case k7 => k_is); (case a8 => k_is); (case l8 => k_is); (case c8 => k_is); (case k8 => k_is); (case a9 => k_is); (case l9 => k_is); (case c9 => k_is); (case k9 => k_is); (case a10 => k_is); (case l10 => k_is); (case c10 => k_is); (case k10 => k_is); (case a11 => k_is); (case l11 => k_is); (case c11 => k_is); (case k11 => k_is); (case a12 => k_is); (case l12 => k_is); (case c12 => k_is); (case k12 => k_is); (case a13 => k_is); (case l13 => k_is); (case c13 => k_is); (case k13 => k_is); (case a14 => k_is); (case l14 => k_is); (case c14 => k_is); (case k14 => k_is); (case a15 => k_is); (case l15 => k_is); (case c15 => k_is); (case k15 => k_is); (case a16 => k_is); (case l16 => k_is); (case c16 => k_is); (case k16 => k_is); (case a17 => k_is); (case l17 => k_is); (case c17 => k_is); (case k17 => k_is); (case a18 => k_is); (case l18 => k_is); (case c18 => k_is); (case k18 => k_is); (case a19 => k_is); (case l19 => k_is); (case c19 => k_is); (case k19 => k_is); (case a20 => k_is); (case l20 => k_is); (case c20 => k_is); (case k20 => k_is); (case b1 => k_is); (case b2 => k_is); (case b3 => k_is); (case b4 => k_is); (case b5 => k_is); (case b6 => k_is); (case b7 => k_is); (case b8 => k_is); (case b9 => k_is); (case g1 => k_is); (case g2 => k_is); (case g3 => k_is)
