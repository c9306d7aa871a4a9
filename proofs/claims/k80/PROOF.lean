import PyProof.Rows.All
import Wide.All
import OpenK.AllK
import Wide.FinOn
import HandS.ForList
import HandS.ForMost
import HandS.ForExc
import HandS.Wide
import HandS.Flow
import HandS.Rev
import HandS.Zip
import HandS.TupAny
import HandS.Call
import HandS.List
import HandS.Exc
import KE.KDictKeyed
import HandS.Lambda
import HandS.Deep
import HandS.Replace
import HandS.Text
import KE.KDictList
import PyProof.StrWalks
import HandS.Codes
import HandS.IsInst
import HandS.More
import PyProof.StrOps2
import PyProof.Rows.ReprOcc
import PyProof.ReprRoads
import PyProof.StrLawsRepr
import KE.DataMinMax
import HandS.RaiseMore
import HandS.SortRule
import PyProof.TupleOfSeq
import KE.GoesEnum
import KE.GoesZip
import PyProof.EnumMake
import HandS.Dict
import HandS.Style
import KE.KRevSl
import KE.KSortTupAny
import HandS.TupLen
import HandS.Conv
import HandS.Strs
import KE.KDictOf
import HandS.TryOnly
import PyProof.JoinWalk
import HandS.SetFor
import PyProof.Truth
import PyProof.Rows.SortShellAny
import PyProof.Rows.TupAssign
import KE.DataCmp
import HandS.ExcInit
import HandS.ExcIs
import HandS.ExcField
import HandS.ExcOwn
import HandS.WordsExc
import KE.KExcIs
import HandS.Words
import HandS.ExcValue
import KE.DatumIndex
import HandS.FStr
import KE.GoesComp
import KE.GoesRaise
import HandS.StrSplit
import KE.KDictZip
import KE.KItemsList
import KE.DataFind
import HandS.EndTab
import HandS.SortKw
import KE.SortKeyHeap
import KE.KNestM
import PySem.Challenge.RW_mustmeet_k80_whole_lone_loops_of_crossed
set_option Elab.async false
set_option linter.all false
set_option maxRecDepth 100000
set_option maxHeartbeats 4000000
namespace PuE
open PySem PySem.Spec PyProof.Rows L2
/-- a new tuple, as such or frozen as the object without a dict that it is -/
def nT (H : Hp) (xs : List V) (Q : VK) : Prop := (∀ p, H p = none → Q (.ref p) (upd H p (.tup xs))) ∨ (∀ p (ob : Obj), H p = none → ob.dict = none → ob.cls = .type "tuple" → Q (.ref p) (upd H p (.frz ob (.tup xs))))
section
variable {X : Cx} {pins : List (Addr × Obj)} {σ : L2.St} {H : Hp} {s : Shared} {Q : VK} {es : List Expr} {t : TA} {pos : Pos}
/-- the new object is laid -/
theorem laidT {xs : List V} {its : Array Value} {tk : Nat} (I : Inv X pins σ H s) (r : Vals xs its.toList) (hz : xs.length ≤ sizeLine) (q : nT H xs Q) :
    EP X pins σ Q (.ref s.heap.objs.size) { s with heap := s.heap.push { cls := .type "tuple", data := .seq its }, toks := tk } := by
  have hf : H s.heap.objs.size = none := I.hok.fresh (Nat.le_refl _)
  have hb : IsTup (s.heap.push { cls := .type "tuple", data := .seq its }) s.heap.objs.size its.toList.toArray := by
    have := IsTup.new s.heap its
    simpa using this
  rcases q with q | q
  · exact ⟨.ref s.heap.objs.size, upd H s.heap.objs.size (.tup xs), I.laid (t' := tk) (fun b u e => Heap.get?_push_of_some _ e) (Nat.le_refl _) ⟨hz, its.toList, r, hb⟩, rfl, q _ hf⟩
  · exact ⟨.ref s.heap.objs.size, upd H s.heap.objs.size (.frz { cls := .type "tuple", data := .seq its } (.tup xs)), I.laid (t' := tk) (fun b u e => Heap.get?_push_of_some _ e) (Nat.le_refl _) ⟨Heap.get?_push_size _ rfl, hz, its.toList, r, hb⟩, rfl, q _ _ hf rfl rfl⟩
def tTupB (t : TA) : TE := fun σ H Q => t σ H fun xs H1 => xs.length ≤ sizeLine ∧ nT H1 xs Q
theorem pe_tupB {x1} (h : PA X es t) : PE X (.Tuple es x1 pos) (tTupB t) := by
  refine ⟨fun pins s σ H Q I hq => ?_⟩
  refine wpAny_Tuple_spliced (thn (h.run pos pins s σ H _ I hq) fun us s1 ⟨xs, H1, I1, r, z, q⟩ => ⟨by rw [← r.length]; exact z, ?_⟩)
  exact laidT (tk := s1.toks) (its := us.toArray) I1 (by simpa using r) z q
def rCatTB (K : PySem.W.Frag) : R2 := fun x y H Q => ∃ a b xs ys, x = .ref a ∧ y = .ref b ∧ SqT K H a xs ∧ SqT K H b ys ∧ xs.length + ys.length ≤ sizeLine ∧
  (xs = [] → Q (.ref b) H) ∧ (xs ≠ [] → ys = [] → Q (.ref a) H) ∧ (xs ≠ [] → ys ≠ [] → nT H (xs ++ ys) Q)
theorem op_catB : OpR X (binaryOp .Add) (rCatTB X.K) := by
  intro pins s σ H x y v u Q I rx ry h
  obtain ⟨a, b, xs, ys, rfl, rfl, ha, hb, hz, q0, q1, q2⟩ := h
  cases rx
  cases ry
  obtain ⟨its, r1, p1, _⟩ := I.tuple ha
  obtain ⟨its2, r2, p2, _⟩ := I.tuple hb
  by_cases hx : xs = []
  · subst hx
    cases r1
    exact cat_tup0 p1 p2 ⟨.ref b, H, I, rfl, q0 rfl⟩
  · have l1 := r1.length
    have l2 := r2.length
    have hx' : its ≠ [] := fun z => by subst z; cases r1; exact hx rfl
    refine HT.cat_tup p1 p2 hx' (fun z => ?_) (fun z => ?_) (by omega)
    · subst z
      cases r2
      exact ⟨.ref a, H, I, rfl, q1 hx rfl⟩
    · have hy : ys ≠ [] := fun e => by subst e; cases r2; exact z rfl
      exact laidT (tk := s.toks) (its := (its ++ its2).toArray) I (by simpa using r1.append r2) (by rw [List.length_append]; exact hz) (q2 hx hy)
def rSlTB (K : PySem.W.Frag) : V → Option Int → Option Int → Hp → VK → Prop := fun x lo hi H Q => ∃ a xs, x = .ref a ∧ SqT K H a xs ∧
  (HT.sIx xs.length 0 lo = 0 ∧ HT.sIx xs.length xs.length hi = xs.length → Q (.ref a) H) ∧ (¬ (HT.sIx xs.length 0 lo = 0 ∧ HT.sIx xs.length xs.length hi = xs.length) → nT H (cutV xs lo hi) Q)
theorem sl_tupB : SlR X (rSlTB X.K) := by
  intro pins s σ H x v vl vu lo hi sl Q I rx hs pl pu h
  obtain ⟨a, xs, rfl, hx, q1, q2⟩ := h
  cases rx
  obtain ⟨its, r, ht, hz⟩ := I.tuple hx
  have hlen : its.toArray.size = xs.length := by rw [List.size_toArray]; exact r.length.symm
  refine ⟨"tuple", _, PyProof.Rows.slot_tuple_getitem.lookup, ht.typeIs, ?_⟩
  by_cases hw : HT.sIx xs.length 0 lo = 0 ∧ HT.sIx xs.length xs.length hi = xs.length
  · exact getItem_tuple_whole ht hs pl pu (by rw [hlen]; exact hw) ⟨.ref a, H, I, rfl, q1 hw⟩
  · refine HT.getItem_tuple_cut ht hs pl pu (by rw [hlen]; exact hw) ?_ (by rw [hlen]; exact hz)
    rw [hlen]
    exact laidT (tk := s.toks) (its := ((its.drop (HT.sIx xs.length 0 lo)).take (HT.sIx xs.length xs.length hi - HT.sIx xs.length 0 lo)).toArray) I (by unfold cutV; simpa using (r.drop (HT.sIx xs.length 0 lo)).take (HT.sIx xs.length xs.length hi - HT.sIx xs.length 0 lo)) (Nat.le_trans (cutV_length xs lo hi) hz) (q2 hw)
end
end PuE
set_option maxRecDepth 100000
set_option maxHeartbeats 4000000
namespace Pu
open PySem L2
/-- the classes by number, and the program's world -/
structure Cl where
  f : Nat → Addr
  P : Program
  w : World
  tabs : List (Addr × Str)
instance : CoeFun Cl (fun _ => Nat → Addr) := ⟨Cl.f⟩
/-- data: what never changes any more, boxes of the law's draws, objects by number -/
inductive D where
  | non | bl (b : Bool) | int (i : Int) | str (s : List Nat) | tup (ds : List D) | lst (ds : List D) | scr (n : Nat) | box | ref (k : Nat) | cls (k : Nat) | exc (c : Nat) (ns : List Str) (ds : List D) | dct (ks : List (List Key)) (ds : List D) | dck (ks : List Key) (ds : List D) | dcn (ks : List D) (is : List Int)
/-- what a slot holds: nothing, data, a list or dict of its own -/
inductive C where
  | un | d (d : D) | own (ds : List D) | dK (kvs : List (Key × D)) | dT (kvs : List (List Key × D))
/-- what an expression comes to: data, a new list or dict, what the slot i holds -/
inductive R where
  | d (d : D) | own (ds : List D) | dK (kvs : List (Key × D)) | dT (kvs : List (List Key × D)) | nam (i : Nat)
/-- an object of the store -/
inductive SO where
  | lst (ds : List D) | dK (kvs : List (Key × D)) | dT (kvs : List (List Key × D)) | ins (c : Nat) (fs : List (Str × D)) | exc (c : Nat) (ds : List D)
structure En where
  sl : List C
  st : List SO
structure Ex where
  c : Nat
  ds : List D
/-- the sort of an address -/
inductive Kd where
  | frz | box | obj (k : Nat) | tab
abbrev Ka := Addr → Option Kd
abbrev Sto := List SO
abbrev Sl := List (Option V)
def KL (K : PySem.W.Frag) (a : Addr) (xs : List V) : Prop :=
  ∃ (o : Obj) (its : Array Value) (n : Nat), K.lookup a = some o ∧ o.cls = .type "list" ∧ o.dict = none ∧ o.data = .seq its n ∧ its.size ≤ sizeLine ∧ Vals xs its.toList
/-- what does not change in a def: the written part, the heap and the sorts at its entry -/
structure Gm where
  K : PySem.W.Frag
  H0 : Hp
  k0 : Ka
  cls : Cl
  flds : Nat → List Str
  E : XK
  x : Ex → Sto → Prop
/-- a text that the model lays -/
def SOk (l : List Nat) : Prop := l.length ≤ sizeLine ∧ ∀ c ∈ l, c < 1114112
instance (l : List Nat) : Decidable (SOk l) := by unfold SOk; infer_instance
/-- a caught or made exception of the class at C, its dict (none | at d) -/
def exT (a C : Addr) (d : Option Addr) : HO := .ext fun h => ∃ (oe : Obj) (vs : Array Value), h.get? a = some oe ∧ Zc (.ref C) d oe ∧ oe.data = .fields vs
/-- an exception's dict -/
def ExD (κ : Ka) (H : Hp) (d : Option Addr) (ns : List Str) (vs : List V) : Prop := (d = none ∧ ns = []) ∨ ∃ dd, d = some dd ∧ κ dd = some .frz ∧ H dd = some (.xd (ns.zip vs).reverse)
mutual
/-- a key of any depth -/
def nkD : D → Option NestedKey
  | .int i => some (.num i)
  | .str s => some (.text ⟨s.toArray⟩)
  | .tup ds => (nkL ds).map .tup
  | _ => none
def nkL : List D → Option (List NestedKey)
  | [] => some []
  | d :: ds => (nkD d).bind fun k => (nkL ds).map fun ks => k :: ks
end
/-- a dict of nested keys and ints, its keys' tuples at as -/
def dcnO (cl : Cl) (a : Addr) (as : List Addr) (nks : List NestedKey) (is : List Int) : HO := .ext fun h =>
  (a == sysModules) = false ∧ ∃ (o : Obj) (es : Array DictEntry) (ep : Nat) (vs : List Value), h.get? a = some o ∧ o.ExactDict ∧ o.data = .dict es ep ∧ vs.length = is.length ∧ (∀ (j : Nat) (i : Int), is[j]? = some i → ∃ t, vs[j]? = some (.int i t)) ∧ es.toList = (nks.zip (as.zip vs)).map (fun p => entryOfKey (nestedKind cl.P cl.w) p) ∧ nks.Nodup
/-- a pair of ints; a row of such, not empty (such tuples are known to be plain) -/
def isPr : D → Bool
  | .tup [.int _, .int _] => true
  | _ => false
def ordL : List D → Bool
  | [] => false
  | d :: ds => isPr d && ds.all isPr
mutual
inductive Rep (K : PySem.W.Frag) (cl : Cl) (κ : Ka) (H : Hp) : V → D → Prop
  | non : Rep K cl κ H .non .non
  | bl (b : Bool) : Rep K cl κ H (.bl b) (.bl b)
  | int (i : Int) : Rep K cl κ H (.int i) (.int i)
  | str (l : List Nat) : SOk l → Rep K cl κ H (.str ⟨l.toArray⟩) (.str l)
  | lst {a : Addr} {vs : List V} {ds : List D} : κ a = some .frz → H a = some (.lst vs) → vs.length ≤ sizeLine → RepL K cl κ H vs ds → Rep K cl κ H (.ref a) (.lst ds)
  | tup {a : Addr} {vs : List V} {ds : List D} : ordL ds = false → κ a = some .frz → H a = some (.tup vs) → vs.length ≤ sizeLine → RepL K cl κ H vs ds → Rep K cl κ H (.ref a) (.tup ds)
  | tupF {a : Addr} {vs : List V} {ds : List D} {ob : Obj} : ordL ds = true → ob.dict = none → ob.cls = .type "tuple" → κ a = some .frz → H a = some (.frz ob (.tup vs)) → vs.length ≤ sizeLine → RepL K cl κ H vs ds → Rep K cl κ H (.ref a) (.tup ds)
  | scr {a : Addr} {ns : List Int} {n : Nat} : ((κ a = some .frz ∧ Rd H a (.lst (ns.map V.int))) ∨ KL K a (ns.map V.int)) → ns.length = n → n ≤ 63 → Rep K cl κ H (.ref a) (.scr n)
  | box {a : Addr} : κ a = some .box → Rep K cl κ H (.ref a) .box
  | ref {a : Addr} {k : Nat} : κ a = some (.obj k) → Rep K cl κ H (.ref a) (.ref k)
  | cls (k : Nat) : Rep K cl κ H (.ref (cl k)) (.cls k)
  | exc {a : Addr} {c : Nat} {ns : List Str} {vs : List V} {ds : List D} {d : Option Addr} : κ a = some .frz → H a = some (exT a (cl c) d) → ExD κ H d ns vs → RepL K cl κ H vs ds → Rep K cl κ H (.ref a) (.exc c ns ds)
  | dct {a : Addr} {ks : List (List Key)} {vs : List V} {ds : List D} : κ a = some .frz → H a = some (.dT (ks.zip vs)) → vs.length = ks.length → RepL K cl κ H vs ds → Rep K cl κ H (.ref a) (.dct ks ds)
  | dck {a : Addr} {ks : List Key} {vs : List V} {ds : List D} : κ a = some .frz → H a = some (.dK (ks.zip vs)) → vs.length = ks.length → RepL K cl κ H vs ds → Rep K cl κ H (.ref a) (.dck ks ds)
  | dcn {a : Addr} {as : List Addr} {ks : List D} {nks : List NestedKey} {is : List Int} : κ a = some .frz → H a = some (dcnO cl a as nks is) → nkL ks = some nks → as.length = ks.length → is.length = ks.length → (∀ k ∈ nks, k.depth ≤ 8) → RepL K cl κ H (as.map V.ref) ks → Rep K cl κ H (.ref a) (.dcn ks is)
inductive RepL (K : PySem.W.Frag) (cl : Cl) (κ : Ka) (H : Hp) : List V → List D → Prop
  | nil : RepL K cl κ H [] []
  | cons {v : V} {vs : List V} {d : D} {ds : List D} : Rep K cl κ H v d → RepL K cl κ H vs ds → RepL K cl κ H (v :: vs) (d :: ds)
end
/-- entries of a dict, attributes -/
inductive PR {α : Type} (K : PySem.W.Frag) (cl : Cl) (κ : Ka) (H : Hp) : List (α × V) → List (α × D) → Prop
  | nil : PR K cl κ H [] []
  | cons {a : α} {v : V} {vs : List (α × V)} {d : D} {ds : List (α × D)} : Rep K cl κ H v d → PR K cl κ H vs ds → PR K cl κ H ((a, v) :: vs) ((a, d) :: ds)
def Ext (κ : Ka) (H : Hp) (κ' : Ka) (H' : Hp) : Prop := (∀ a x, κ a = some x → κ' a = some x) ∧ ∀ a, κ a = some .frz → H' a = H a
theorem Ext.refl (κ : Ka) (H : Hp) : Ext κ H κ H := ⟨fun _ _ h => h, fun _ _ => rfl⟩
theorem Ext.trans {κ κ1 κ2 : Ka} {H H1 H2 : Hp} (a : Ext κ H κ1 H1) (b : Ext κ1 H1 κ2 H2) : Ext κ H κ2 H2 :=
  ⟨fun x y h => b.1 x y (a.1 x y h), fun x h => (b.2 x (a.1 x _ h)).trans (a.2 x h)⟩
section
variable {K : PySem.W.Frag} {cl : Cl} {κ κ' : Ka} {H H' : Hp}
mutual
theorem Rep.mono (e : Ext κ H κ' H') : ∀ {d : D} {v : V}, Rep K cl κ H v d → Rep K cl κ' H' v d
  | .non, _, h => by cases h; exact .non
  | .bl b, _, h => by cases h; exact .bl b
  | .int i, _, h => by cases h; exact .int i
  | .str l, _, h => by cases h with | str _ h => exact .str l h
  | .lst ds, _, h => by
    cases h with
    | lst h1 h2 h3 h4 => exact .lst (e.1 _ _ h1) ((e.2 _ h1).trans h2) h3 (RepL.mono e h4)
  | .tup ds, _, h => by
    cases h with
    | tup h0 h1 h2 h3 h4 => exact .tup h0 (e.1 _ _ h1) ((e.2 _ h1).trans h2) h3 (RepL.mono e h4)
    | tupF h0 h5 h6 h1 h2 h3 h4 => exact .tupF h0 h5 h6 (e.1 _ _ h1) ((e.2 _ h1).trans h2) h3 (RepL.mono e h4)
  | .scr n, _, h => by
    cases h with
    | scr h1 h2 h3 =>
      refine .scr ?_ h2 h3
      rcases h1 with ⟨h1, h2⟩ | h1
      · refine .inl ⟨e.1 _ _ h1, ?_⟩
        unfold Rd
        rw [e.2 _ h1]
        exact h2
      · exact .inr h1
  | .box, _, h => by cases h with | box h => exact .box (e.1 _ _ h)
  | .ref k, _, h => by cases h with | ref h => exact .ref (e.1 _ _ h)
  | .cls k, _, h => by cases h; exact .cls k
  | .exc c ns ds, _, h => by
    cases h with
    | exc h1 h2 h3 h4 =>
      refine .exc (e.1 _ _ h1) ((e.2 _ h1).trans h2) ?_ (RepL.mono e h4)
      rcases h3 with h3 | ⟨dd, h3, h5, h6⟩
      · exact .inl h3
      · exact .inr ⟨dd, h3, e.1 _ _ h5, (e.2 _ h5).trans h6⟩
  | .dct ks ds, _, h => by
    cases h with
    | dct h1 h2 h3 h4 => exact .dct (e.1 _ _ h1) ((e.2 _ h1).trans h2) h3 (RepL.mono e h4)
  | .dck ks ds, _, h => by
    cases h with
    | dck h1 h2 h3 h4 => exact .dck (e.1 _ _ h1) ((e.2 _ h1).trans h2) h3 (RepL.mono e h4)
  | .dcn ks is, _, h => by
    cases h with
    | dcn h1 h2 h3 h4 h5 h6 h7 => exact .dcn (e.1 _ _ h1) ((e.2 _ h1).trans h2) h3 h4 h5 h6 (RepL.mono e h7)
theorem RepL.mono (e : Ext κ H κ' H') : ∀ {ds : List D} {vs : List V}, RepL K cl κ H vs ds → RepL K cl κ' H' vs ds
  | [], _, h => by cases h; exact .nil
  | d :: ds, _, h => by cases h with | cons h1 h2 => exact .cons (Rep.mono e h1) (RepL.mono e h2)
end
theorem PR.mono {α : Type} (e : Ext κ H κ' H') : ∀ {ds : List (α × D)} {vs : List (α × V)}, PR K cl κ H vs ds → PR K cl κ' H' vs ds
  | [], _, h => by cases h; exact .nil
  | _ :: ds, _, h => by cases h with | cons h1 h2 => exact .cons (Rep.mono e h1) (PR.mono e h2)
theorem RepL.length : ∀ {ds : List D} {vs : List V}, RepL K cl κ H vs ds → vs.length = ds.length
  | [], _, h => by cases h; rfl
  | d :: ds, _, h => by cases h with | cons h1 h2 => simp [RepL.length h2]
theorem PR.length {α : Type} : ∀ {ds : List (α × D)} {vs : List (α × V)}, PR K cl κ H vs ds → vs.length = ds.length
  | [], _, h => by cases h; rfl
  | d :: ds, _, h => by cases h with | cons h1 h2 => simp [PR.length h2]
theorem RepL.append : ∀ {ds es : List D} {vs ws : List V}, RepL K cl κ H vs ds → RepL K cl κ H ws es → RepL K cl κ H (vs ++ ws) (ds ++ es)
  | [], _, _, _, h, g => by cases h; exact g
  | d :: ds, _, _, _, h, g => by cases h with | cons h1 h2 => exact .cons h1 (RepL.append h2 g)
theorem RepL.get : ∀ {ds : List D} {vs : List V} {i : Nat} {d : D}, RepL K cl κ H vs ds → ds[i]? = some d → ∃ v, vs[i]? = some v ∧ Rep K cl κ H v d
  | [], _, _, _, h, e => by simp at e
  | d :: ds, _, 0, _, h, e => by
    cases h with
    | cons h1 h2 => simp at e; subst e; exact ⟨_, rfl, h1⟩
  | d :: ds, _, i + 1, _, h, e => by
    cases h with
    | cons h1 h2 =>
      obtain ⟨v, e1, r⟩ := RepL.get (i := i) h2 (by simpa using e)
      exact ⟨v, by simpa using e1, r⟩
theorem RepL.get' : ∀ {ds : List D} {vs : List V} {i : Nat} {v : V}, RepL K cl κ H vs ds → vs[i]? = some v → ∃ d, ds[i]? = some d ∧ Rep K cl κ H v d
  | [], _, _, _, h, e => by cases h; simp at e
  | d :: ds, _, 0, _, h, e => by
    cases h with
    | cons h1 h2 => simp at e; subst e; exact ⟨_, rfl, h1⟩
  | d :: ds, _, i + 1, _, h, e => by
    cases h with
    | cons h1 h2 =>
      obtain ⟨v, e1, r⟩ := RepL.get' (i := i) h2 (by simpa using e)
      exact ⟨v, by simpa using e1, r⟩
theorem RepL.set : ∀ {ds : List D} {vs : List V} {v : V} {d : D} (i : Nat), Rep K cl κ H v d → RepL K cl κ H vs ds → RepL K cl κ H (vs.set i v) (ds.set i d)
  | [], _, _, _, _, _, h => by cases h; exact .nil
  | _ :: _, _, _, _, 0, r, h => by cases h with | cons h1 h2 => exact .cons r h2
  | _ :: _, _, _, _, i + 1, r, h => by cases h with | cons h1 h2 => exact .cons h1 (RepL.set i r h2)
theorem RepL.take : ∀ {ds : List D} {vs : List V} (n : Nat), RepL K cl κ H vs ds → RepL K cl κ H (vs.take n) (ds.take n)
  | _, _, 0, _ => by simpa using .nil
  | [], _, n + 1, h => by cases h; exact .nil
  | _ :: _, _, n + 1, h => by cases h with | cons h1 h2 => exact .cons h1 (RepL.take n h2)
theorem RepL.drop : ∀ {ds : List D} {vs : List V} (n : Nat), RepL K cl κ H vs ds → RepL K cl κ H (vs.drop n) (ds.drop n)
  | _, _, 0, h => h
  | [], _, n + 1, h => by cases h; exact .nil
  | _ :: _, _, n + 1, h => by cases h with | cons h1 h2 => exact RepL.drop n h2
theorem RepL.eraseIdx : ∀ {ds : List D} {vs : List V} (n : Nat), RepL K cl κ H vs ds → RepL K cl κ H (vs.eraseIdx n) (ds.eraseIdx n)
  | [], _, _, h => by cases h; exact .nil
  | _ :: _, _, 0, h => by cases h with | cons h1 h2 => exact h2
  | _ :: _, _, n + 1, h => by cases h with | cons h1 h2 => exact .cons h1 (RepL.eraseIdx n h2)
theorem RepL.dropLast : ∀ {ds : List D} {vs : List V}, RepL K cl κ H vs ds → RepL K cl κ H vs.dropLast ds.dropLast
  | ds, vs, h => by
    rw [List.dropLast_eq_take, List.dropLast_eq_take, h.length]
    exact h.take _
theorem RepL.reverse : ∀ {ds : List D} {vs : List V}, RepL K cl κ H vs ds → RepL K cl κ H vs.reverse ds.reverse
  | [], _, h => by cases h; exact .nil
  | _ :: _, _, h => by
    cases h with
    | cons h1 h2 =>
      rw [List.reverse_cons, List.reverse_cons]
      exact (RepL.reverse h2).append (.cons h1 .nil)
end
/-- keys and values apart -/
theorem PR.split {α : Type} {K : PySem.W.Frag} {cl : Cl} {κ : Ka} {H : Hp} : ∀ {ds : List (α × D)} {vs : List (α × V)}, PR K cl κ H vs ds → vs = (ds.map (·.1)).zip (vs.map (·.2)) ∧ (vs.map (·.2)).length = (ds.map (·.1)).length ∧ RepL K cl κ H (vs.map (·.2)) (ds.map (·.2))
  | [], _, h => by cases h; exact ⟨rfl, rfl, .nil⟩
  | _ :: ds, _, h => by
    cases h with
    | cons h1 h2 =>
      obtain ⟨e1, e2, e3⟩ := PR.split h2
      refine ⟨?_, by simpa using e2, .cons h1 e3⟩
      rw [List.map_cons, List.map_cons, List.zip_cons_cons, ← e1]
theorem PR.zipKV {α : Type} {K : PySem.W.Frag} {cl : Cl} {κ : Ka} {H : Hp} : ∀ {ks : List α} {vs : List V} {ds : List D}, vs.length = ks.length → RepL K cl κ H vs ds → PR K cl κ H (ks.zip vs) (ks.zip ds)
  | [], vs, ds, _, h => by simp only [List.zip_nil_left]; exact .nil
  | k :: ks, [], ds, e, h => by simp at e
  | k :: ks, v :: vs, _, e, .cons h1 h2 => by
    rw [List.zip_cons_cons, List.zip_cons_cons]
    exact .cons h1 (PR.zipKV (by simpa using e) h2)
theorem zip_split {α β : Type} : ∀ l : List (α × β), (l.map (·.1)).zip (l.map (·.2)) = l
  | [] => rfl
  | a :: l => by rw [List.map_cons, List.map_cons, List.zip_cons_cons, zip_split l]
/-- what a fresh own thing at a slot or a result is -/
def OwnC (Γ : Gm) (κ : Ka) (H : Hp) (a : Addr) : C → Prop
  | .own ds => κ a = none ∧ Γ.H0 a = none ∧ ∃ vs, H a = some (.lst vs) ∧ vs.length ≤ sizeLine ∧ RepL Γ.K Γ.cls κ H vs ds
  | .dK kvs => κ a = none ∧ Γ.H0 a = none ∧ ∃ vs, H a = some (.dK vs) ∧ PR Γ.K Γ.cls κ H vs kvs
  | .dT kvs => κ a = none ∧ Γ.H0 a = none ∧ ∃ vs, H a = some (.dT vs) ∧ PR Γ.K Γ.cls κ H vs kvs
  | _ => False
def C.isOwn : C → Bool
  | .own _ => true
  | .dK _ => true
  | .dT _ => true
  | _ => false
def RelS (Γ : Gm) (κ : Ka) (H : Hp) (o : Option (Option V)) : C → Prop
  | .un => True
  | .d d => ∃ v, o = some (some v) ∧ Rep Γ.K Γ.cls κ H v d
  | c => ∃ a, o = some (some (.ref a)) ∧ OwnC Γ κ H a c
def RelC (Γ : Gm) (κ : Ka) (H : Hp) (v : V) : C → Prop
  | .un => False
  | .d d => Rep Γ.K Γ.cls κ H v d
  | c => ∃ a, v = .ref a ∧ OwnC Γ κ H a c
def ObjR (Γ : Gm) (κ : Ka) (H : Hp) (a : Addr) : SO → Prop
  | .lst ds => ∃ vs, H a = some (.lst vs) ∧ vs.length ≤ sizeLine ∧ RepL Γ.K Γ.cls κ H vs ds
  | .dK kvs => ∃ vs, H a = some (.dK vs) ∧ PR Γ.K Γ.cls κ H vs kvs
  | .dT kvs => ∃ vs, H a = some (.dT vs) ∧ PR Γ.K Γ.cls κ H vs kvs
  | .ins c fs => ∃ dx vs, H a = some (.ins (Γ.cls c) dx vs) ∧ PR Γ.K Γ.cls κ H vs fs
  | .exc _ _ => False
/-- the tables of code objects: where lambdas are made -/
structure TabsOk (ts : List (Addr × Str)) (κ : Ka) (H : Hp) : Prop where
  at_ : ∀ t ∈ ts, κ t.1 = some .tab ∧ ∃ ps : Array Value, H t.1 = some (.tbl ps) ∧ TriplesOk ps.toList ∧ ∀ (pos : Pos) (v : Value), codeAmong pos ps.toList = some v → ∃ d, v = .ref d ∧ κ d = some .frz ∧ H d = some (LamX.CodeO d t.2)
  only : ∀ a, κ a = some .tab → ∃ q, (a, q) ∈ ts
theorem TabsOk.ext {ts : List (Addr × Str)} {κ κ' : Ka} {H H' : Hp} (h : TabsOk ts κ H) (x : Ext κ H κ' H') (hP : ∀ a, κ a = some .tab → H' a = H a) (ho : ∀ a, κ' a = some .tab → κ a = some .tab) : TabsOk ts κ' H' :=
  ⟨fun t ht => by
    obtain ⟨k, ps, h1, h2, h3⟩ := h.at_ t ht
    exact ⟨x.1 _ _ k, ps, (hP _ k).trans h1, h2, fun p v hv => by
      obtain ⟨d, e, kd, hd⟩ := h3 p v hv
      exact ⟨d, e, x.1 _ _ kd, (x.2 d kd).trans hd⟩⟩, fun a e => h.only a (ho a e)⟩
/-- the ghost's part of the invariant -/
structure Gh (Γ : Gm) (κ : Ka) (st : Sto) (H : Hp) : Prop where
  sub : ∀ a x, Γ.k0 a = some x → κ a = some x
  new : ∀ a x, κ a = some x → Γ.k0 a = some x ∨ Γ.H0 a = none ∨ (x = .frz ∧ ∃ vs, Γ.H0 a = some (.tup vs))
  trk : ∀ a x, κ a = some x → H a ≠ none
  trk0 : ∀ a, Γ.H0 a ≠ none → H a ≠ none
  box : ∀ a, κ a = some .box → ∃ i j, H a = some (.lst [.int i, .int j])
  obj : ∀ a k, κ a = some (.obj k) → ∃ so, st[k]? = some so ∧ ObjR Γ κ H a so
  inj : ∀ a b k, κ a = some (.obj k) → κ b = some (.obj k) → a = b
  base : ∀ a o, Γ.H0 a = some o → (Γ.k0 a = none ∨ Γ.k0 a = some .frz) → H a = some o
  tabs : TabsOk Γ.cls.tabs κ H
def OwnS (env : En) (σ : Sl) (i : Nat) (a : Addr) : Prop := σ[i]? = some (some (.ref a)) ∧ ∃ c, env.sl[i]? = some c ∧ c.isOwn = true
structure Rl (Γ : Gm) (κ : Ka) (env : En) (σ : Sl) (H : Hp) : Prop where
  len : σ.length = env.sl.length
  sl : ∀ (i : Nat) (c : C), env.sl[i]? = some c → RelS Γ κ H σ[i]? c
  dist : ∀ (i j : Nat) (a : Addr), OwnS env σ i a → OwnS env σ j a → i = j
  gh : Gh Γ κ env.st H
/-- what an expression came to -/
def RelR (Γ : Gm) (κ : Ka) (H : Hp) (env : En) (σ : Sl) (v : V) : R → Prop
  | .d d => Rep Γ.K Γ.cls κ H v d
  | .nam i => σ[i]? = some (some v)
  | .own ds => ∃ a, v = .ref a ∧ OwnC Γ κ H a (.own ds) ∧ ∀ i, ¬ OwnS env σ i a
  | .dK kvs => ∃ a, v = .ref a ∧ OwnC Γ κ H a (.dK kvs) ∧ ∀ i, ¬ OwnS env σ i a
  | .dT kvs => ∃ a, v = .ref a ∧ OwnC Γ κ H a (.dT kvs) ∧ ∀ i, ¬ OwnS env σ i a
abbrev PX := Ex → Sto → Prop
abbrev PTE := PX → En → (R → En → Prop) → Prop
abbrev PTT := PX → En → (Bool → En → Prop) → Prop
abbrev PTA := PX → En → (List D → En → Prop) → Prop
structure PEn where
  nx : En → Prop
  rt : C → En → Prop
  bk : En → Prop := fun _ => False
  ct : En → Prop := fun _ => False
abbrev PTS := PX → PEn → En → Prop
/-- the contexts in which a piece of text runs -/
structure Fam where
  ι : Type
  X : ι → Cx
  E : ι → XK
  K : PySem.W.Frag
  hK : ∀ i, (X i).K = K
  cls : Cl
  flds : Nat → List Str
/-- what is wanted of an exception, purely, is what is wanted of it -/
def XOk (Γ : Gm) : Prop := ∀ (κ : Ka) (H : Hp) (st : Sto) (c : Nat) (ds : List D) (vs : List V) (d : Option Addr), Gh Γ κ st H → Γ.x ⟨c, ds⟩ st → RepL Γ.K Γ.cls κ H vs ds → ExD κ H d (Γ.flds c) vs → Γ.E (.ref (Γ.cls c)) d H
structure GK (Y : Fam) (Γ : Gm) : Prop where
  k : Γ.K = Y.K
  c : Γ.cls = Y.cls
  f : Γ.flds = Y.flds
  x : XOk Γ
section
variable (Y : Fam)
structure VE (e : Expr) (t : PTE) : Prop where
  ex : ∃ rd : XK → TE, (∀ i, PE (Y.X i) e (rd (Y.E i))) ∧ ∀ (Γ : Gm) (σ : Sl) (κ : Ka) (H : Hp) (env : En) (Q : R → En → Prop) (Q' : VK), GK Y Γ → Rl Γ κ env σ H → t Γ.x env Q →
    (∀ v κ' H' r env', Ext κ H κ' H' → Rl Γ κ' env' σ H' → RelR Γ κ' H' env' σ v r → Q r env' → Q' v H') → rd Γ.E σ H Q'
structure VT (e : Expr) (t : PTT) : Prop where
  ex : ∃ rd : XK → TT, (∀ i, PT (Y.X i) e (rd (Y.E i))) ∧ ∀ (Γ : Gm) (σ : Sl) (κ : Ka) (H : Hp) (env : En) (Q : Bool → En → Prop) (Q' : Bool → Hp → Prop), GK Y Γ → Rl Γ κ env σ H → t Γ.x env Q →
    (∀ b κ' H' env', Ext κ H κ' H' → Rl Γ κ' env' σ H' → Q b env' → Q' b H') → rd Γ.E σ H Q'
structure VW (e : Expr) (t : PTT) : Prop where
  ex : ∃ rd : XK → TT, (∀ i, PW (Y.X i) e (rd (Y.E i))) ∧ ∀ (Γ : Gm) (σ : Sl) (κ : Ka) (H : Hp) (env : En) (Q : Bool → En → Prop) (Q' : Bool → Hp → Prop), GK Y Γ → Rl Γ κ env σ H → t Γ.x env Q →
    (∀ b κ' H' env', Ext κ H κ' H' → Rl Γ κ' env' σ H' → Q b env' → Q' b H') → rd Γ.E σ H Q'
/-- arguments, all data -/
structure VA (es : List Expr) (t : PTA) : Prop where
  ex : ∃ rd : XK → TA, (∀ i, PA (Y.X i) es (rd (Y.E i))) ∧ ∀ (Γ : Gm) (σ : Sl) (κ : Ka) (H : Hp) (env : En) (Q : List D → En → Prop) (Q' : List V → Hp → Prop), GK Y Γ → Rl Γ κ env σ H → t Γ.x env Q →
    (∀ vs κ' H' ds env', Ext κ H κ' H' → Rl Γ κ' env' σ H' → RepL Γ.K Γ.cls κ' H' vs ds → Q ds env' → Q' vs H') → rd Γ.E σ H Q'
def LiftTo (Γ : Gm) (κ : Ka) (H : Hp) (D : PEn) (D' : Ends) : Prop :=
  (∀ σ' κ' H' env', Ext κ H κ' H' → Rl Γ κ' env' σ' H' → D.nx env' → D'.nx σ' H') ∧
  (∀ v κ' H' c env', Ext κ H κ' H' → Gh Γ κ' env'.st H' → RelC Γ κ' H' v c → D.rt c env' → D'.rt v H') ∧
  (∀ σ' κ' H' env', Ext κ H κ' H' → Rl Γ κ' env' σ' H' → D.bk env' → D'.bk σ' H') ∧
  (∀ σ' κ' H' env', Ext κ H κ' H' → Rl Γ κ' env' σ' H' → D.ct env' → D'.ct σ' H')
structure VS (s : Stmt) (t : PTS) : Prop where
  ex : ∃ rd : XK → TS, (∀ i, PS (Y.X i) s (rd (Y.E i))) ∧ ∀ (Γ : Gm) (σ : Sl) (κ : Ka) (H : Hp) (env : En) (D : PEn) (D' : Ends), GK Y Γ → Rl Γ κ env σ H → t Γ.x D env → LiftTo Γ κ H D D' → rd Γ.E D' σ H
structure VSs (s : List Stmt) (t : PTS) : Prop where
  ex : ∃ rd : XK → TS, (∀ i, PSs (Y.X i) s (rd (Y.E i))) ∧ ∀ (Γ : Gm) (σ : Sl) (κ : Ka) (H : Hp) (env : En) (D : PEn) (D' : Ends), GK Y Γ → Rl Γ κ env σ H → t Γ.x D env → LiftTo Γ κ H D D' → rd Γ.E D' σ H
end
theorem LiftTo.ext {Γ : Gm} {κ κ1 : Ka} {H H1 : Hp} {D : PEn} {D' : Ends} (e : Ext κ H κ1 H1) (l : LiftTo Γ κ H D D') : LiftTo Γ κ1 H1 D D' :=
  ⟨fun σ' κ' H' env' x => l.1 σ' κ' H' env' (e.trans x), fun v κ' H' c env' x => l.2.1 v κ' H' c env' (e.trans x), fun σ' κ' H' env' x => l.2.2.1 σ' κ' H' env' (e.trans x), fun σ' κ' H' env' x => l.2.2.2 σ' κ' H' env' (e.trans x)⟩
def rv : R → En → Option D
  | .d d, _ => some d
  | .own ds, _ => some (.lst ds)
  | .nam i, e => match e.sl[i]? with
    | some (.d d) => some d
    | some (.own ds) => some (.lst ds)
    | _ => none
  | _, _ => none
/-- data at its top: a list may be one's own -/
def RepT (Γ : Gm) (κ : Ka) (H : Hp) (v : V) : D → Prop
  | .lst ds => ∃ a vs, v = .ref a ∧ H a = some (.lst vs) ∧ vs.length ≤ sizeLine ∧ RepL Γ.K Γ.cls κ H vs ds
  | d => Rep Γ.K Γ.cls κ H v d
section
variable {Γ : Gm} {κ κ' : Ka} {H H' : Hp} {env env' : En} {σ : Sl} {v : V}
theorem Rep.top {d : D} (h : Rep Γ.K Γ.cls κ H v d) : RepT Γ κ H v d := by
  cases d with
  | lst ds => cases h with | lst h1 h2 h3 h4 => exact ⟨_, _, rfl, h2, h3, h4⟩
  | _ => exact h
theorem Rl.get {i : Nat} {c : C} (r : Rl Γ κ env σ H) (e : env.sl[i]? = some c) : RelS Γ κ H σ[i]? c := r.sl i c e
theorem rv_ok {r : R} {d : D} (I : Rl Γ κ env σ H) (h : RelR Γ κ H env σ v r) (e : rv r env = some d) : RepT Γ κ H v d := by
  cases r with
  | d d' => cases e; exact h.top
  | own ds =>
    cases e
    obtain ⟨a, rfl, ⟨_, _, vs, h2, h3, h4⟩, _⟩ := h
    exact ⟨a, vs, rfl, h2, h3, h4⟩
  | dK _ => cases e
  | dT _ => cases e
  | nam i =>
    have h : σ[i]? = some (some v) := h
    unfold rv at e
    simp only at e
    cases q : env.sl[i]? with
    | none => rw [q] at e; cases e
    | some c =>
      have s := I.get q
      rw [q] at e
      cases c with
      | un => cases e
      | d d' =>
        cases e
        obtain ⟨w, e1, r⟩ := s
        rw [h] at e1
        cases e1
        exact r.top
      | own ds =>
        cases e
        obtain ⟨a, e1, _, _, vs, h2, h3, h4⟩ := s
        rw [h] at e1
        cases e1
        exact ⟨a, vs, rfl, h2, h3, h4⟩
      | dK _ => cases e
      | dT _ => cases e
/-- a result that is kept while something else is evaluated -/
def hold : R → En → (R → En → Prop) → Prop
  | .own ds, e, Q => Q (.d (.lst ds)) e
  | .d d, e, Q => Q (.d d) e
  | .nam i, e, Q => Q (.nam i) e
  | _, _, _ => False
def HeldR (Γ : Gm) (κ : Ka) (H : Hp) (σ : Sl) (v : V) : R → Prop
  | .d d => Rep Γ.K Γ.cls κ H v d
  | .nam i => σ[i]? = some (some v)
  | _ => False
theorem HeldR.ext {r : R} (e : Ext κ H κ' H') (h : HeldR Γ κ H σ v r) : HeldR Γ κ' H' σ v r := by
  cases r with
  | d d => exact Rep.mono e h
  | nam i => exact h
  | _ => exact h.elim
theorem HeldR.rel {r : R} (h : HeldR Γ κ H σ v r) : RelR Γ κ H env σ v r := by
  cases r with
  | d d => exact h
  | nam i => exact h
  | _ => exact h.elim
/-- the sort of one address more -/
def put (κ : Ka) (a : Addr) (k : Kd) : Ka := fun b => if b = a then some k else κ b
theorem put_same {κ : Ka} {a : Addr} {k : Kd} : put κ a k a = some k := if_pos rfl
theorem put_ne {κ : Ka} {a b : Addr} {k : Kd} (h : b ≠ a) : put κ a k b = κ b := if_neg h
theorem Ext.put {a : Addr} {k : Kd} (h : κ a = none) : Ext κ H (put κ a k) H := by
  refine ⟨fun b x e => ?_, fun _ _ => rfl⟩
  rw [put_ne (fun z => by rw [z, h] at e; cases e)]
  exact e
theorem ObjR.ext {a : Addr} {so : SO} (e : Ext κ H κ' H') (ha : H' a = H a) (h : ObjR Γ κ H a so) : ObjR Γ κ' H' a so := by
  cases so with
  | lst ds => obtain ⟨vs, h1, h2, h3⟩ := h; exact ⟨vs, ha.trans h1, h2, h3.mono e⟩
  | dK ds => obtain ⟨vs, h1, h3⟩ := h; exact ⟨vs, ha.trans h1, h3.mono e⟩
  | dT ds => obtain ⟨vs, h1, h3⟩ := h; exact ⟨vs, ha.trans h1, h3.mono e⟩
  | ins c fs => obtain ⟨dx, vs, h1, h3⟩ := h; exact ⟨dx, vs, ha.trans h1, h3.mono e⟩
  | exc c ds => exact h
theorem Gh.put_frz0 {st : Sto} {a : Addr} (g : Gh Γ κ st H) (h : κ a = none) (h0 : Γ.H0 a = none ∨ ∃ vs, Γ.H0 a = some (.tup vs)) (ht : H a ≠ none) : Gh Γ (put κ a .frz) st H := by
  have nk : Γ.k0 a = none := by
    cases q : Γ.k0 a with
    | none => rfl
    | some x => have := g.sub a x q; rw [h] at this; cases this
  have ne : ∀ b x, κ b = some x → b ≠ a := fun b x e z => by rw [z, h] at e; cases e
  refine ⟨fun b x e => (Ext.put (H := H) h).1 b x (g.sub b x e), fun b x e => ?_, fun b x e => ?_, g.trk0, fun b e => ?_, fun b k e => ?_, fun b c k e1 e2 => ?_, g.base, g.tabs.ext (Ext.put h) (fun _ _ => rfl) fun b e => by
    by_cases hb : b = a
    · subst hb; rw [put_same] at e; cases e
    · rw [put_ne hb] at e; exact e⟩
  · by_cases hb : b = a
    · subst hb; rw [put_same] at e; cases e; exact .inr (h0.imp id fun z => ⟨rfl, z⟩)
    · rw [put_ne hb] at e; exact g.new b x e
  · by_cases hb : b = a
    · subst hb; exact ht
    · rw [put_ne hb] at e; exact g.trk b x e
  · by_cases hb : b = a
    · subst hb; rw [put_same] at e; cases e
    · rw [put_ne hb] at e; exact g.box b e
  · by_cases hb : b = a
    · subst hb; rw [put_same] at e; cases e
    · rw [put_ne hb] at e
      obtain ⟨so, h1, h2⟩ := g.obj b k e
      exact ⟨so, h1, h2.ext (Ext.put h) rfl⟩
  · have hb : b ≠ a := fun z => by subst z; rw [put_same] at e1; cases e1
    have hc : c ≠ a := fun z => by subst z; rw [put_same] at e2; cases e2
    rw [put_ne hb] at e1
    rw [put_ne hc] at e2
    exact g.inj b c k e1 e2
theorem Gh.put_frz {st : Sto} {a : Addr} (g : Gh Γ κ st H) (h : κ a = none) (h0 : Γ.H0 a = none) (ht : H a ≠ none) : Gh Γ (put κ a .frz) st H := g.put_frz0 h (.inl h0) ht
theorem OwnC.ext {a : Addr} {c : C} (e : Ext κ H κ' H') (hk : κ' a = none) (ha : H' a = H a) (h : OwnC Γ κ H a c) : OwnC Γ κ' H' a c := by
  cases c with
  | own ds => obtain ⟨_, h0, vs, h1, h2, h3⟩ := h; exact ⟨hk, h0, vs, ha.trans h1, h2, h3.mono e⟩
  | dK ds => obtain ⟨_, h0, vs, h1, h3⟩ := h; exact ⟨hk, h0, vs, ha.trans h1, h3.mono e⟩
  | dT ds => obtain ⟨_, h0, vs, h1, h3⟩ := h; exact ⟨hk, h0, vs, ha.trans h1, h3.mono e⟩
  | _ => exact h.elim
theorem OwnC.facts {a : Addr} {c : C} (h : OwnC Γ κ H a c) : κ a = none ∧ Γ.H0 a = none ∧ H a ≠ none := by
  cases c with
  | own ds => obtain ⟨h, h0, vs, h1, _⟩ := h; exact ⟨h, h0, by rw [h1]; simp⟩
  | dK ds => obtain ⟨h, h0, vs, h1, _⟩ := h; exact ⟨h, h0, by rw [h1]; simp⟩
  | dT ds => obtain ⟨h, h0, vs, h1, _⟩ := h; exact ⟨h, h0, by rw [h1]; simp⟩
  | _ => exact h.elim
theorem RelS.own {o : Option (Option V)} {c : C} (h : RelS Γ κ H o c) (hc : c.isOwn = true) : ∃ a, o = some (some (.ref a)) ∧ OwnC Γ κ H a c := by
  cases c with
  | un => cases hc
  | d _ => cases hc
  | _ => exact h
theorem RelS.mk {o : Option (Option V)} {a : Addr} {c : C} (e : o = some (some (.ref a))) (h : OwnC Γ κ H a c) : RelS Γ κ H o c := by
  cases c with
  | un => exact h.elim
  | d _ => exact h.elim
  | _ => exact ⟨a, e, h⟩
theorem Rl.ownS {i : Nat} {a : Addr} (I : Rl Γ κ env σ H) (h : OwnS env σ i a) : ∃ c, env.sl[i]? = some c ∧ OwnC Γ κ H a c := by
  obtain ⟨e, c, e1, hc⟩ := h
  obtain ⟨b, e2, ho⟩ := (I.get e1).own hc
  rw [e] at e2
  cases e2
  exact ⟨c, e1, ho⟩
/-- THE STEP: the slots as they are -/
theorem OwnC.notTup {a : Addr} {c : C} {vs : List V} (h : OwnC Γ κ H a c) (e : H a = some (.tup vs)) : False := by
  cases c with
  | own ds => obtain ⟨_, _, ws, h1, _⟩ := h; rw [e] at h1; cases h1
  | dK ds => obtain ⟨_, _, ws, h1, _⟩ := h; rw [e] at h1; cases h1
  | dT ds => obtain ⟨_, _, ws, h1, _⟩ := h; rw [e] at h1; cases h1
  | _ => exact h.elim
theorem Rl.step {st' : Sto} (I : Rl Γ κ env σ H) (e : Ext κ H κ' H') (ho : ∀ i a, OwnS env σ i a → κ' a = none ∧ H' a = H a) (g : Gh Γ κ' st' H') : Rl Γ κ' ⟨env.sl, st'⟩ σ H' := by
  refine ⟨I.len, fun i c ec => ?_, fun i j a h1 h2 => I.dist i j a h1 h2, g⟩
  have s := I.get ec
  cases hc : c.isOwn with
  | true =>
    obtain ⟨a, e1, h⟩ := s.own hc
    obtain ⟨k1, k2⟩ := ho i a ⟨e1, c, ec, hc⟩
    exact .mk e1 (h.ext e k1 k2)
  | false =>
    cases c with
    | un => trivial
    | d d => obtain ⟨v, e1, r⟩ := s; exact ⟨v, e1, r.mono e⟩
    | _ => cases hc
/-- a fresh list becomes data -/
theorem Rl.put_frz {a : Addr} (I : Rl Γ κ env σ H) (h : κ a = none) (h0 : Γ.H0 a = none) (ht : H a ≠ none) (hs : ∀ i, ¬ OwnS env σ i a) : Rl Γ (put κ a .frz) env σ H :=
  I.step (Ext.put h) (fun i b hb => ⟨by rw [put_ne (fun z => hs i (by rw [← z]; exact hb))]; exact (I.ownS hb).elim fun c hc => hc.2.facts.1, rfl⟩) (I.gh.put_frz h h0 ht)
theorem hold_ok {r : R} {Q : R → En → Prop} {P : Prop} (I : Rl Γ κ env σ H) (h : RelR Γ κ H env σ v r) (q : hold r env Q)
    (k : ∀ κ' r', Ext κ H κ' H → Rl Γ κ' env σ H → HeldR Γ κ' H σ v r' → Q r' env → P) : P := by
  cases r with
  | d d => exact k κ (.d d) (.refl ..) I h q
  | nam i => exact k κ (.nam i) (.refl ..) I h q
  | own ds =>
    obtain ⟨a, rfl, ⟨h1, h2, vs, h3, h4, h5⟩, h6⟩ := h
    refine k (put κ a .frz) (.d (.lst ds)) (Ext.put h1) (I.put_frz h1 h2 (by rw [h3]; simp) h6) ?_ q
    exact .lst put_same h3 h4 (h5.mono (Ext.put h1))
  | dK _ => exact False.elim q
  | dT _ => exact False.elim q
/-- as data: a list of one's own is one's own no more -/
def En.setC (e : En) (i : Nat) (c : C) : En := ⟨e.sl.set i c, e.st⟩
def fz : R → En → (D → En → Prop) → Prop
  | .d d, e, Q => Q d e
  | .own ds, e, Q => Q (.lst ds) e
  | .dK kvs, e, Q => Q (.dck (kvs.map (·.1)) (kvs.map (·.2))) e
  | .dT kvs, e, Q => Q (.dct (kvs.map (·.1)) (kvs.map (·.2))) e
  | .nam i, e, Q => match e.sl[i]? with
    | some (.d d) => Q d e
    | some (.own ds) => Q (.lst ds) (e.setC i (.d (.lst ds)))
    | some (.dK kvs) => Q (.dck (kvs.map (·.1)) (kvs.map (·.2))) (e.setC i (.d (.dck (kvs.map (·.1)) (kvs.map (·.2)))))
    | some (.dT kvs) => Q (.dct (kvs.map (·.1)) (kvs.map (·.2))) (e.setC i (.d (.dct (kvs.map (·.1)) (kvs.map (·.2)))))
    | _ => False
/-- what stands at a slot becomes data -/
theorem frz_slot {i : Nat} {a : Addr} {c : C} {d : D} (I : Rl Γ κ env σ H) (h : σ[i]? = some (some (.ref a))) (qe : env.sl[i]? = some c) (hc : c.isOwn = true) (h1 : κ a = none) (h2 : Γ.H0 a = none) (ht : H a ≠ none) (rep : Rep Γ.K Γ.cls (put κ a .frz) H (.ref a) d) : Rl Γ (put κ a .frz) (env.setC i (.d d)) σ H := by
  have x : Ext κ H (put κ a .frz) H := Ext.put h1
  have own_i : OwnS env σ i a := ⟨h, _, qe, hc⟩
  have hi : i < env.sl.length := (List.getElem?_eq_some_iff.mp qe).1
  refine ⟨by rw [I.len]; simp [En.setC], fun j c ec => ?_, fun j l b o1 o2 => ?_, I.gh.put_frz h1 h2 ht⟩
  · by_cases hj : j = i
    · subst hj
      have ec : (env.sl.set j (C.d d))[j]? = some c := ec
      rw [List.getElem?_set_self hi] at ec
      cases ec
      exact ⟨_, h, rep⟩
    · have ec : (env.sl.set i (C.d d))[j]? = some c := ec
      rw [List.getElem?_set_ne (Ne.symm hj)] at ec
      have s := I.get ec
      cases hc : c.isOwn with
      | true =>
        obtain ⟨b, e1, hb⟩ := s.own hc
        have hba : b ≠ a := fun z => hj (I.dist j i a ⟨z ▸ e1, c, ec, hc⟩ own_i)
        exact .mk e1 (hb.ext x (by rw [put_ne hba]; exact hb.facts.1) rfl)
      | false =>
        cases c with
        | un => trivial
        | d d => obtain ⟨v, e1, r⟩ := s; exact ⟨v, e1, r.mono x⟩
        | _ => cases hc
  · have old : ∀ m, OwnS (env.setC i (.d d)) σ m b → OwnS env σ m b := fun m ⟨z1, c, z2, z3⟩ => by
      by_cases hm : m = i
      · subst hm
        have z2 : (env.sl.set m (C.d d))[m]? = some c := z2
        rw [List.getElem?_set_self hi] at z2
        cases z2
        cases z3
      · have z2 : (env.sl.set i (C.d d))[m]? = some c := z2
        rw [List.getElem?_set_ne (Ne.symm hm)] at z2
        exact ⟨z1, c, z2, z3⟩
    exact I.dist j l b (old j o1) (old l o2)
theorem dct_rep {a : Addr} {vs : List (List Key × V)} {kvs : List (List Key × D)} (h1 : κ a = none) (h3 : H a = some (.dT vs)) (h5 : PR Γ.K Γ.cls κ H vs kvs) : Rep Γ.K Γ.cls (put κ a .frz) H (.ref a) (.dct (kvs.map (·.1)) (kvs.map (·.2))) := by
  obtain ⟨e1, e2, e3⟩ := h5.split
  exact .dct put_same (by rw [← e1]; exact h3) e2 (e3.mono (Ext.put h1))
theorem dck_rep {a : Addr} {vs : List (Key × V)} {kvs : List (Key × D)} (h1 : κ a = none) (h3 : H a = some (.dK vs)) (h5 : PR Γ.K Γ.cls κ H vs kvs) : Rep Γ.K Γ.cls (put κ a .frz) H (.ref a) (.dck (kvs.map (·.1)) (kvs.map (·.2))) := by
  obtain ⟨e1, e2, e3⟩ := h5.split
  exact .dck put_same (by rw [← e1]; exact h3) e2 (e3.mono (Ext.put h1))
theorem fz_ok {r : R} {Q : D → En → Prop} {P : Prop} (I : Rl Γ κ env σ H) (h : RelR Γ κ H env σ v r) (q : fz r env Q)
    (k : ∀ κ' d env', Ext κ H κ' H → Rl Γ κ' env' σ H → Rep Γ.K Γ.cls κ' H v d → Q d env' → P) : P := by
  cases r with
  | d d => exact k κ _ _ (.refl ..) I h q
  | own ds =>
    obtain ⟨a, rfl, ⟨h1, h2, vs, h3, h4, h5⟩, h6⟩ := h
    refine k (put κ a .frz) (.lst ds) env (Ext.put h1) (I.put_frz h1 h2 (by rw [h3]; simp) h6) ?_ q
    exact .lst put_same h3 h4 (h5.mono (Ext.put h1))
  | dK ds =>
    obtain ⟨a, rfl, ⟨h1, h2, vs, h3, h5⟩, h6⟩ := h
    exact k (put κ a .frz) _ env (Ext.put h1) (I.put_frz h1 h2 (by rw [h3]; simp) h6) (dck_rep h1 h3 h5) q
  | dT ds =>
    obtain ⟨a, rfl, ⟨h1, h2, vs, h3, h5⟩, h6⟩ := h
    exact k (put κ a .frz) _ env (Ext.put h1) (I.put_frz h1 h2 (by rw [h3]; simp) h6) (dct_rep h1 h3 h5) q
  | nam i =>
    have h : σ[i]? = some (some v) := h
    unfold fz at q
    simp only at q
    cases qe : env.sl[i]? with
    | none => rw [qe] at q; exact False.elim q
    | some c =>
      have s := I.get qe
      rw [qe] at q
      cases c with
      | un => exact False.elim q
      | dK kvs =>
        obtain ⟨a, e1, h1, h2, vs, h3, h5⟩ := s
        rw [h] at e1
        cases e1
        have rep := dck_rep h1 h3 h5
        exact k (put κ a .frz) _ _ (Ext.put h1) (frz_slot I h qe rfl h1 h2 (by rw [h3]; simp) rep) rep q
      | dT kvs =>
        obtain ⟨a, e1, h1, h2, vs, h3, h5⟩ := s
        rw [h] at e1
        cases e1
        have rep := dct_rep h1 h3 h5
        exact k (put κ a .frz) _ _ (Ext.put h1) (frz_slot I h qe rfl h1 h2 (by rw [h3]; simp) rep) rep q
      | d d' =>
        obtain ⟨w, e1, r⟩ := s
        rw [h] at e1
        cases e1
        exact k κ _ _ (.refl ..) I r q
      | own ds =>
        obtain ⟨a, e1, h1, h2, vs, h3, h4, h5⟩ := s
        rw [h] at e1
        cases e1
        have rep : Rep Γ.K Γ.cls (put κ a .frz) H (.ref a) (.lst ds) := .lst put_same h3 h4 (h5.mono (Ext.put h1))
        exact k (put κ a .frz) _ _ (Ext.put h1) (frz_slot I h qe rfl h1 h2 (by rw [h3]; simp) rep) rep q
end
end Pu
set_option maxRecDepth 100000
set_option maxHeartbeats 4000000
namespace Pu
open PySem L2
section
variable {Γ : Gm} {κ κ' : Ka} {H H' : Hp} {env env' : En} {σ : Sl} {v : V} {st : Sto}
theorem Gh.nokap {a : Addr} (g : Gh Γ κ st H) (h : H a = none) : κ a = none := by
  cases q : κ a with
  | none => rfl
  | some x => exact absurd h (g.trk a x q)
theorem Gh.nokap0 {a : Addr} (g : Gh Γ κ st H) (h : H a = none) : Γ.H0 a = none := by
  cases q : Γ.H0 a with
  | none => rfl
  | some x => exact absurd h (g.trk0 a (by rw [q]; simp))
theorem Ext.upd_new {p : Addr} {o : HO} (g : Gh Γ κ st H) (h : H p = none) : Ext κ H κ (upd H p o) :=
  ⟨fun _ _ e => e, fun a e => upd_ne fun z => by rw [z] at e; rw [g.nokap h] at e; cases e⟩
/-- an unsorted address is laid or changed -/
theorem Ext.upd {p : Addr} {o : HO} (h : κ p = none) : Ext κ H κ (upd H p o) :=
  ⟨fun _ _ e => e, fun a e => upd_ne fun z => by rw [z, h] at e; cases e⟩
theorem Gh.upd {p : Addr} {o : HO} (g : Gh Γ κ st H) (h : κ p = none) (h0 : Γ.H0 p = none) : Gh Γ κ st (upd H p o) := by
  have ne : ∀ b x, κ b = some x → b ≠ p := fun b x e z => by rw [z, h] at e; cases e
  refine ⟨g.sub, g.new, fun b x e => ?_, fun b e => ?_, fun b e => ?_, fun b k e => ?_, g.inj, fun b u e hk => ?_, g.tabs.ext (Ext.upd h) (fun b e => upd_ne (ne b _ e)) fun _ e => e⟩
  · rw [upd_ne (ne b x e)]; exact g.trk b x e
  · by_cases hb : b = p
    · rw [hb, upd_same]; simp
    · rw [upd_ne hb]; exact g.trk0 b e
  · rw [upd_ne (ne b _ e)]; exact g.box b e
  · obtain ⟨so, h1, h2⟩ := g.obj b k e
    exact ⟨so, h1, h2.ext (Ext.upd h) (upd_ne (ne b _ e))⟩
  · rw [upd_ne (fun z => by rw [z, h0] at e; cases e)]; exact g.base b u e hk
theorem Rl.upd_new {p : Addr} {o : HO} (I : Rl Γ κ env σ H) (h : H p = none) : Rl Γ κ env σ (upd H p o) :=
  I.step (Ext.upd_new I.gh h) (fun i a ho => by
    obtain ⟨c, _, hc⟩ := I.ownS ho
    obtain ⟨f1, f2, f3⟩ := hc.facts
    exact ⟨f1, upd_ne fun z => f3 (z ▸ h)⟩) (I.gh.upd (I.gh.nokap h) (I.gh.nokap0 h))
theorem Rl.fresh {p : Addr} (I : Rl Γ κ env σ H) (h : H p = none) : ∀ i, ¬ OwnS env σ i p := fun i ho => by
  obtain ⟨c, _, hc⟩ := I.ownS ho
  exact hc.facts.2.2 h
theorem new_lst {p : Addr} {vs : List V} {ds : List D} (I : Rl Γ κ env σ H) (h : H p = none) (hl : vs.length ≤ sizeLine) (r : RepL Γ.K Γ.cls κ H vs ds) :
    RelR Γ κ (upd H p (.lst vs)) env σ (.ref p) (.own ds) :=
  ⟨p, rfl, ⟨I.gh.nokap h, I.gh.nokap0 h, vs, upd_same, hl, r.mono (Ext.upd_new I.gh h)⟩, I.fresh h⟩
theorem new_dK {p : Addr} {vs : List (Key × V)} {ds : List (Key × D)} (I : Rl Γ κ env σ H) (h : H p = none) (r : PR Γ.K Γ.cls κ H vs ds) :
    RelR Γ κ (upd H p (.dK vs)) env σ (.ref p) (.dK ds) :=
  ⟨p, rfl, ⟨I.gh.nokap h, I.gh.nokap0 h, vs, upd_same, r.mono (Ext.upd_new I.gh h)⟩, I.fresh h⟩
/-- a new tuple is data at once -/
theorem new_tup {p : Addr} {vs : List V} {ds : List D} (ho : ordL ds = false) (I : Rl Γ κ env σ H) (h : H p = none) (hl : vs.length ≤ sizeLine) (r : RepL Γ.K Γ.cls κ H vs ds) :
    Ext κ H (put κ p .frz) (upd H p (.tup vs)) ∧ Rl Γ (put κ p .frz) env σ (upd H p (.tup vs)) ∧ Rep Γ.K Γ.cls (put κ p .frz) (upd H p (.tup vs)) (.ref p) (.tup ds) := by
  have J := I.upd_new (o := .tup vs) h
  have k := I.gh.nokap h
  have e : Ext κ H (put κ p .frz) (upd H p (.tup vs)) := (Ext.upd_new I.gh h).trans (Ext.put k)
  exact ⟨e, J.put_frz k (I.gh.nokap0 h) (by rw [upd_same]; simp) (I.fresh h), .tup ho put_same upd_same hl (r.mono e)⟩
theorem new_tupF {p : Addr} {vs : List V} {ds : List D} {ob : Obj} (ho : ordL ds = true) (h5 : ob.dict = none) (h6 : ob.cls = .type "tuple") (I : Rl Γ κ env σ H) (h : H p = none) (hl : vs.length ≤ sizeLine) (r : RepL Γ.K Γ.cls κ H vs ds) :
    Ext κ H (put κ p .frz) (upd H p (.frz ob (.tup vs))) ∧ Rl Γ (put κ p .frz) env σ (upd H p (.frz ob (.tup vs))) ∧ Rep Γ.K Γ.cls (put κ p .frz) (upd H p (.frz ob (.tup vs))) (.ref p) (.tup ds) := by
  have J := I.upd_new (o := .frz ob (.tup vs)) h
  have k := I.gh.nokap h
  have e : Ext κ H (put κ p .frz) (upd H p (.frz ob (.tup vs))) := (Ext.upd_new I.gh h).trans (Ext.put k)
  exact ⟨e, J.put_frz k (I.gh.nokap0 h) (by rw [upd_same]; simp) (I.fresh h), .tupF ho h5 h6 put_same upd_same hl (r.mono e)⟩
/-- either way -/
theorem new_tupB {vs : List V} {ds : List D} {Q' : VK} (I : Rl Γ κ env σ H) (hl : vs.length ≤ sizeLine) (r : RepL Γ.K Γ.cls κ H vs ds)
    (k : ∀ κ' H' p, Ext κ H κ' H' → Rl Γ κ' env σ H' → Rep Γ.K Γ.cls κ' H' (.ref p) (.tup ds) → Q' (.ref p) H') : PuE.nT H vs Q' := by
  cases ho : ordL ds with
  | false =>
    refine .inl fun p hp => ?_
    obtain ⟨x1, I1, r1⟩ := new_tup ho I hp hl r
    exact k _ _ _ x1 I1 r1
  | true =>
    refine .inr fun p ob hp h5 h6 => ?_
    obtain ⟨x1, I1, r1⟩ := new_tupF ho h5 h6 I hp hl r
    exact k _ _ _ x1 I1 r1
/-- a rule by values carries a pure one -/
def OpRef (r : PySem.W.Frag → R2) (p : D → D → (R → Prop) → Prop) : Prop :=
  ∀ (Γ : Gm) (σ : Sl) (κ : Ka) (H : Hp) (env : En) (v u : V) (d e : D) (Q : R → Prop) (Q' : VK), Rl Γ κ env σ H → RepT Γ κ H v d → RepT Γ κ H u e → p d e Q →
    (∀ v' κ' H' r, Ext κ H κ' H' → Rl Γ κ' env σ H' → RelR Γ κ' H' env σ v' r → Q r → Q' v' H') → r Γ.K v u H Q'
def t2 (ta tb : PTE) (p : D → D → (R → Prop) → Prop) : PTE := fun x env Q => ta x env fun r1 e1 => hold r1 e1 fun r1 e1 => tb x e1 fun r2 e2 =>
  match rv r1 e2, rv r2 e2 with
  | some d1, some d2 => p d1 d2 (fun r => Q r e2)
  | _, _ => False
def t1 (ta : PTE) (p : D → (R → Prop) → Prop) : PTE := fun x env Q => ta x env fun r1 e1 =>
  match rv r1 e1 with
  | some d1 => p d1 (fun r => Q r e1)
  | _ => False
variable {Y : Fam} {a b : Expr} {ta tb : PTE} {pos : Pos}
/-- two expressions in a row, both read -/
theorem two_ref {ra rb : XK → TE} {p : D → D → (R → Prop) → Prop} {r : PySem.W.Frag → R2} (hr : OpRef r p)
    (fa : ∀ (Γ : Gm) (σ : Sl) (κ : Ka) (H : Hp) (env : En) (Q : R → En → Prop) (Q' : VK), GK Y Γ → Rl Γ κ env σ H → ta Γ.x env Q →
    (∀ v κ' H' r env', Ext κ H κ' H' → Rl Γ κ' env' σ H' → RelR Γ κ' H' env' σ v r → Q r env' → Q' v H') → ra Γ.E σ H Q')
    (fb : ∀ (Γ : Gm) (σ : Sl) (κ : Ka) (H : Hp) (env : En) (Q : R → En → Prop) (Q' : VK), GK Y Γ → Rl Γ κ env σ H → tb Γ.x env Q →
    (∀ v κ' H' r env', Ext κ H κ' H' → Rl Γ κ' env' σ H' → RelR Γ κ' H' env' σ v r → Q r env' → Q' v H') → rb Γ.E σ H Q')
    {Q : R → En → Prop} {Q' : VK} (hK : GK Y Γ) (I : Rl Γ κ env σ H) (q : t2 ta tb p Γ.x env Q)
    (k : ∀ v κ' H' r env', Ext κ H κ' H' → Rl Γ κ' env' σ H' → RelR Γ κ' H' env' σ v r → Q r env' → Q' v H') :
    ra Γ.E σ H fun x H1 => rb Γ.E σ H1 fun y H2 => r Y.K x y H2 Q' := by
  refine fa Γ σ κ H env _ _ hK I q fun v κ1 H1 r1 e1 x1 I1 h1 q1 => ?_
  refine hold_ok I1 h1 q1 fun κ2 r2 x2 I2 h2 q2 => ?_
  refine fb Γ σ κ2 H1 e1 _ _ hK I2 q2 fun u κ3 H3 r3 e3 x3 I3 h3 q3 => ?_
  have h2' : RelR Γ κ3 H3 e3 σ v r2 := (h2.ext x3).rel
  cases e1' : rv r2 e3 with
  | none => rw [e1'] at q3; exact False.elim q3
  | some d1 =>
    cases e2' : rv r3 e3 with
    | none => rw [e1', e2'] at q3; exact False.elim q3
    | some d2 =>
      rw [e1', e2'] at q3
      rw [← hK.k]
      exact hr Γ σ κ3 H3 e3 v u d1 d2 _ Q' I3 (rv_ok I3 h2' e1') (rv_ok I3 h3 e2') q3 fun v' κ' H' r x I' h' q' => k v' κ' H' r e3 (((x1.trans x2).trans x3).trans x) I' h' q'
theorem ve_op {op : Operator} {r : PySem.W.Frag → R2} {p : D → D → (R → Prop) → Prop} (ho : ∀ X : Cx, OpR X (binaryOp op) (r X.K)) (hr : OpRef r p) (ha : VE Y a ta) (hb : VE Y b tb) : VE Y (.BinOp a op b pos) (t2 ta tb p) := by
  obtain ⟨ra, pa, fa⟩ := ha.ex
  obtain ⟨rb, pb, fb⟩ := hb.ex
  refine ⟨⟨fun E => tOp (r Y.K) (ra E) (rb E), fun i => pe_op (by have := ho (Y.X i); rw [Y.hK i] at this; exact this) (pa i) (pb i), fun Γ σ κ H env Q Q' hK I q k => ?_⟩⟩
  exact two_ref hr fa fb hK I q k
theorem ve_cmp {op : CmpOp} {r : PySem.W.Frag → R2} {p : D → D → (R → Prop) → Prop} (ho : ∀ i, OpR (Y.X i) (compareOp op) (r (Y.X i).K)) (hr : OpRef r p) (ha : VE Y a ta) (hb : VE Y b tb) (hm : behindInMarks op b = false) : VE Y (.Compare a [op] [b] pos) (t2 ta tb p) := by
  obtain ⟨ra, pa, fa⟩ := ha.ex
  obtain ⟨rb, pb, fb⟩ := hb.ex
  refine ⟨⟨fun E => tOp (r Y.K) (ra E) (rb E), fun i => pe_cmpR (by have := ho i; rw [Y.hK i] at this; exact this) (pa i) (pb i) hm, fun Γ σ κ H env Q Q' hK I q k => ?_⟩⟩
  exact two_ref hr fa fb hK I q k
/-- a bool as a test -/
def tB (t : PTE) : PTT := fun x env Q => t x env fun r e => match rv r e with
  | some (.bl b) => Q b e
  | _ => False
theorem vt_val {e : Expr} {t : PTE} (h : VE Y e t) (he : ∀ (X : Cx) whole, isTrue e X.env whole = (do let v ← whole; standAt e.pos; holding [v] (truthy v)) := by intro _ _; rfl) : VT Y e (tB t) := by
  obtain ⟨ra, pa, fa⟩ := h.ex
  refine ⟨⟨fun E => L2.tB (ra E), fun i => pt_val (pa i) (he _), fun Γ σ κ H env Q Q' hK I q k => ?_⟩⟩
  refine fa Γ σ κ H env _ _ hK I q fun v κ1 H1 r1 e1 x1 I1 h1 q1 => ?_
  cases e1' : rv r1 e1 with
  | none => rw [e1'] at q1; exact False.elim q1
  | some d =>
    rw [e1'] at q1
    have rt := rv_ok I1 h1 e1'
    cases d with
    | bl b => cases rt; exact ⟨b, rfl, k b κ1 H1 e1 x1 I1 q1⟩
    | _ => exact False.elim q1
theorem vt_cmp {op : CmpOp} {r : PySem.W.Frag → R2} {p : D → D → (R → Prop) → Prop} (ho : ∀ i, OpR (Y.X i) (compareOp op) (r (Y.X i).K)) (hr : OpRef r p) (ha : VE Y a ta) (hb : VE Y b tb) (hm : behindInMarks op b = false) : VT Y (.Compare a [op] [b] pos) (tB (t2 ta tb p)) := by
  obtain ⟨ra, pa, fa⟩ := ha.ex
  obtain ⟨rb, pb, fb⟩ := hb.ex
  refine ⟨⟨fun E => tTest (tOp (r Y.K) (ra E) (rb E)), fun i => pt_cmpR (by have := ho i; rw [Y.hK i] at this; exact this) (pa i) (pb i) hm, fun Γ σ κ H env Q Q' hK I q k => ?_⟩⟩
  refine two_ref hr fa fb hK I q fun v κ1 H1 r1 e1 x1 I1 h1 q1 => ?_
  cases e1' : rv r1 e1 with
  | none => rw [e1'] at q1; exact False.elim q1
  | some d =>
    rw [e1'] at q1
    have rt := rv_ok I1 h1 e1'
    cases d with
    | bl b => cases rt; exact ⟨b, rfl, k b κ1 H1 e1 x1 I1 q1⟩
    | _ => exact False.elim q1
def tName (i : Nat) : PTE := fun _ env Q => match env.sl[i]? with
  | some (.d d) => Q (.d d) env
  | some .un => False
  | none => False
  | some _ => Q (.nam i) env
theorem ve_name (i : Nat) {x : Str} (hN : ∀ j, (Y.X j).N[i]? = some x := by intro _; rfl) (hv : ∀ j, Vis (Y.X j).env.scope x := by first | exact fun _ => Or.inl rfl | exact fun _ => Or.inr (Or.inl rfl) | exact fun _ => Or.inr (Or.inr rfl))
    (hd : (x == ("__debug__" : Str)) = false := by decide) (hcd : (x == ("__classdict__" : Str)) = false := by decide) : VE Y (.Name x pos) (tName i) := by
  refine ⟨⟨fun _ => tVar i, fun j => pe_var (hN j) (hv j) hd hcd, fun Γ σ κ H env Q Q' hK I q k => ?_⟩⟩
  unfold tName at q
  cases e : env.sl[i]? with
  | none => rw [e] at q; exact False.elim q
  | some c =>
    have s := I.get e
    rw [e] at q
    cases c with
    | un => exact False.elim q
    | d d => obtain ⟨v, e1, r⟩ := s; exact ⟨v, e1, k v κ H (.d d) env (.refl ..) I r q⟩
    | own ds => obtain ⟨a, e1, r⟩ := s; exact ⟨.ref a, e1, k _ κ H (.nam i) env (.refl ..) I e1 q⟩
    | dK ds => obtain ⟨a, e1, r⟩ := s; exact ⟨.ref a, e1, k _ κ H (.nam i) env (.refl ..) I e1 q⟩
    | dT ds => obtain ⟨a, e1, r⟩ := s; exact ⟨.ref a, e1, k _ κ H (.nam i) env (.refl ..) I e1 q⟩
def tD (d : D) : PTE := fun _ env Q => Q (.d d) env
theorem ve_int {i j} : VE Y (.Constant (.int i) j pos) (tD (.int i)) := ⟨⟨fun _ => tC (.int i), fun _ => pe_int, fun Γ σ κ H env Q Q' hK I q k => k _ κ H (.d (.int i)) env (.refl ..) I (.int i) q⟩⟩
theorem ve_bl {i j} : VE Y (.Constant (.bool i) j pos) (tD (.bl i)) := ⟨⟨fun _ => tC (.bl i), fun _ => pe_bl, fun Γ σ κ H env Q Q' hK I q k => k _ κ H (.d (.bl i)) env (.refl ..) I (.bl i) q⟩⟩
theorem ve_str (l : List Nat) {x : Str} {j} (hx : x = ⟨l.toArray⟩ := by decide +kernel) (hl : SOk l := by decide +kernel) : VE Y (.Constant (.str x) j pos) (tD (.str l)) := by
  subst hx
  exact ⟨⟨fun _ => tC (.str ⟨l.toArray⟩), fun _ => pe_str, fun Γ σ κ H env Q Q' hK I q k => k _ κ H (.d (.str l)) env (.refl ..) I (.str l hl) q⟩⟩
/-- a text that the top has bound -/
theorem ve_globS (l : List Nat) {x y : Str} {t : Tok} (hm : ∀ i, (Y.X i).mg x = some (.str y t)) (hg : ∀ i, Gl (Y.X i) x := by intro _; rfl) (hy : y = ⟨l.toArray⟩ := by decide +kernel) (hl : SOk l := by decide +kernel) (hd : (x == ("__debug__" : Str)) = false := by decide) :
    VE Y (.Name x pos) (tD (.str l)) := by
  subst hy
  exact ⟨⟨fun _ => tC (.str ⟨l.toArray⟩), fun i => pe_glob (hg i) (hm i) ⟨_, rfl⟩ hd, fun Γ σ κ H env Q Q' hK I q k => k _ κ H (.d (.str l)) env (.refl ..) I (.str l hl) q⟩⟩
def pAdd (d e : D) (Q : R → Prop) : Prop := match d, e with
  | .int i, .int j => Q (.d (.int (i + j)))
  | .str s, .str t => s.length + t.length ≤ sizeLine ∧ Q (.d (.str (s ++ t)))
  | .lst xs, .lst ys => xs.length + ys.length ≤ sizeLine ∧ Q (.own (xs ++ ys))
  | .tup xs, .tup ys => xs.length + ys.length ≤ sizeLine ∧ Q (.d (.tup (xs ++ ys)))
  | _, _ => False
def rStrAdd : R2 := fun x y H Q => ∃ i j, x = .str i ∧ y = .str j ∧ i.length + j.length ≤ sizeLine ∧ Q (.str (i ++ j)) H
def rAddAll (K : PySem.W.Frag) : R2 := fun x y H Q => rI0 (fun i j => .int (i + j)) x y H Q ∨ rStrAdd x y H Q ∨ rCat x y H Q ∨ PuE.rCatTB K x y H Q
theorem op_addAll (X : Cx) : OpR X (binaryOp .Add) (rAddAll X.K) := OpR.or op_add (OpR.or op_add_str (OpR.or op_cat PuE.op_catB))
theorem str_add (s t : List Nat) : ((⟨s.toArray⟩ : Str) ++ (⟨t.toArray⟩ : Str)) = ⟨(s ++ t).toArray⟩ := by
  show Str.append _ _ = _
  unfold Str.append
  simp
theorem str_len (s : List Nat) : (⟨s.toArray⟩ : Str).length = s.length := by
  unfold Str.length
  simp
theorem Rep.strE {K : PySem.W.Frag} {cl : Cl} {s : List Nat} (h : Rep K cl κ H v (.str s)) : v = .str ⟨s.toArray⟩ ∧ SOk s := by cases h with | str _ h => exact ⟨rfl, h⟩
theorem Rep.sqT {K : PySem.W.Frag} {cl : Cl} {ds : List D} (h : Rep K cl κ H v (.tup ds)) : ∃ a vs, v = .ref a ∧ SqT K H a vs ∧ vs.length ≤ sizeLine ∧ RepL K cl κ H vs ds := by
  cases h with
  | tup _ _ h1 h2 h3 => exact ⟨_, _, rfl, SqT.of h1, h2, h3⟩
  | tupF _ _ _ _ h1 h2 h3 => exact ⟨_, _, rfl, .inl (.inr ⟨_, h1⟩), h2, h3⟩
theorem SOk.append {s t : List Nat} (h : SOk s) (g : SOk t) (q : s.length + t.length ≤ sizeLine) : SOk (s ++ t) :=
  ⟨by rw [List.length_append]; exact q, fun c hc => (List.mem_append.mp hc).elim (h.2 c) (g.2 c)⟩
theorem ref_add : OpRef rAddAll pAdd := by
  intro Γ σ κ H env v u d e Q Q' I hd he q k
  cases d with
  | int i =>
    cases e with
    | int j => cases hd; cases he; exact .inl ⟨i, j, rfl, rfl, k _ κ H (.d (.int (i + j))) (.refl ..) I (.int _) q⟩
    | _ => exact False.elim q
  | str s =>
    cases e with
    | str t =>
      obtain ⟨rfl, h1⟩ := hd.strE
      obtain ⟨rfl, h2⟩ := he.strE
      refine .inr (.inl ⟨_, _, rfl, rfl, by rw [str_len, str_len]; exact q.1, ?_⟩)
      rw [str_add]
      exact k _ κ H (.d (.str (s ++ t))) (.refl ..) I (.str _ (h1.append h2 q.1)) q.2
    | _ => exact False.elim q
  | lst xs =>
    cases e with
    | lst ys =>
      obtain ⟨a, vs, rfl, h1, h2, h3⟩ := hd
      obtain ⟨b, ws, rfl, g1, g2, g3⟩ := he
      refine .inr (.inr (.inl ⟨a, b, vs, ws, rfl, rfl, h1, g1, by rw [h3.length, g3.length]; exact q.1, fun p hp => ?_⟩))
      refine k _ κ _ (.own (xs ++ ys)) (Ext.upd_new I.gh hp) (I.upd_new hp) (new_lst I hp (by rw [List.length_append, h3.length, g3.length]; exact q.1) (h3.append g3)) q.2
    | _ => exact False.elim q
  | tup xs =>
    cases e with
    | tup ys =>
      obtain ⟨a, vs, rfl, h1, h2, h3⟩ := Rep.sqT hd
      obtain ⟨b, ws, rfl, g1, g2, g3⟩ := Rep.sqT he
      have hl : vs.length + ws.length ≤ sizeLine := by rw [h3.length, g3.length]; exact q.1
      refine .inr (.inr (.inr ⟨a, b, vs, ws, rfl, rfl, h1, g1, hl, fun z => ?_, fun _ z => ?_, fun _ _ => ?_⟩))
      · subst z
        have e : xs = [] := List.eq_nil_of_length_eq_zero (by rw [← h3.length]; rfl)
        subst e
        have q := q.2
        exact k _ κ H (.d (.tup ys)) (.refl ..) I he q
      · subst z
        have e : ys = [] := List.eq_nil_of_length_eq_zero (by rw [← g3.length]; rfl)
        subst e
        have q := q.2
        rw [List.append_nil] at q
        exact k _ κ H (.d (.tup xs)) (.refl ..) I hd q
      · exact new_tupB I (by rw [List.length_append]; exact hl) (h3.append g3) fun κ' H' p x1 I1 r1 => k _ _ _ (.d (.tup (xs ++ ys))) x1 I1 r1 q.2
    | _ => exact False.elim q
  | _ => exact False.elim q
theorem ve_add (ha : VE Y a ta) (hb : VE Y b tb) : VE Y (.BinOp a .Add b pos) (t2 ta tb pAdd) := ve_op op_addAll ref_add ha hb
/-- two ints -/
def pI (C : Int → Int → Prop) (f : Int → Int → D) (d e : D) (Q : R → Prop) : Prop := match d, e with
  | .int i, .int j => C i j ∧ Q (.d (f i j))
  | _, _ => False
theorem ref_I {C : Int → Int → Prop} {f : Int → Int → Int} : OpRef (fun _ => rI C fun i j => .int (f i j)) (pI C fun i j => .int (f i j)) := by
  intro Γ σ κ H env v u d e Q Q' I hd he q k
  cases d with
  | int i =>
    cases e with
    | int j => cases hd; cases he; exact ⟨i, j, rfl, rfl, q.1, k _ κ H (.d (.int (f i j))) (.refl ..) I (.int _) q.2⟩
    | _ => exact False.elim q
  | _ => exact False.elim q
theorem ref_I0 {f : Int → Int → Int} : OpRef (fun _ => rI0 fun i j => .int (f i j)) (pI (fun _ _ => True) fun i j => .int (f i j)) := by
  intro Γ σ κ H env v u d e Q Q' I hd he q k
  cases d with
  | int i =>
    cases e with
    | int j => cases hd; cases he; exact ⟨i, j, rfl, rfl, k _ κ H (.d (.int (f i j))) (.refl ..) I (.int _) q.2⟩
    | _ => exact False.elim q
  | _ => exact False.elim q
theorem ve_sub (ha : VE Y a ta) (hb : VE Y b tb) : VE Y (.BinOp a .Sub b pos) (t2 ta tb (pI (fun _ _ => True) fun i j => .int (i - j))) := ve_op (fun _ => op_sub) ref_I0 ha hb
theorem ve_mod (ha : VE Y a ta) (hb : VE Y b tb) : VE Y (.BinOp a .Mod b pos) (t2 ta tb (pI (fun _ j => 0 < j) fun i j => .int (i % j))) := ve_op (fun _ => op_mod) ref_I ha hb
theorem ve_fdiv (ha : VE Y a ta) (hb : VE Y b tb) : VE Y (.BinOp a .FloorDiv b pos) (t2 ta tb (pI CDivW fun i j => .int (i / j))) := ve_op (fun _ => op_fdivW) ref_I ha hb
theorem ve_pow (ha : VE Y a ta) (hb : VE Y b tb) : VE Y (.BinOp a .Pow b pos) (t2 ta tb (pI CPow fun i j => .int (i ^ j.toNat))) := ve_op (fun _ => op_pow) ref_I ha hb
end
end Pu
set_option maxRecDepth 100000
set_option maxHeartbeats 4000000
namespace Pu
open PySem L2
mutual
def D.py : D → PyData
  | .non => .none
  | .bl b => .bool b
  | .int i => .int i
  | .str s => .str ⟨s.toArray⟩
  | .lst ds => .list (D.pyL ds)
  | .tup ds => .tuple (D.pyL ds)
  | .scr _ => .none
  | .box => .none
  | .ref _ => .none
  | .cls _ => .none
  | .exc _ _ _ => .none
  | .dct _ _ => .none
  | .dck _ _ => .none
  | .dcn _ _ => .none
def D.pyL : List D → List PyData
  | [] => []
  | d :: ds => d.py :: D.pyL ds
end
mutual
/-- no object within, not too deep -/
def D.ok : D → Nat → Bool
  | .non, _ => true
  | .bl _, _ => true
  | .int _, _ => true
  | .str _, _ => true
  | .lst ds, n + 1 => D.okL ds n
  | .tup ds, n + 1 => D.okL ds n
  | .lst _, 0 => false
  | .tup _, 0 => false
  | .scr _, _ => false
  | .box, _ => false
  | .ref _, _ => false
  | .cls _, _ => false
  | .exc _ _ _, _ => false
  | .dct _ _, _ => false
  | .dck _ _, _ => false
  | .dcn _ _, _ => false
def D.okL : List D → Nat → Bool
  | [], _ => true
  | d :: ds, n => d.ok n && D.okL ds n
end
mutual
def D.eq : D → D → Bool
  | .non, .non => true
  | .bl a, .bl b => a == b
  | .bl a, .int j => (if a then 1 else 0) == j
  | .int i, .bl b => i == (if b then 1 else 0)
  | .int i, .int j => i == j
  | .str x, .str y => x == y
  | .lst xs, .lst ys => D.eqL xs ys
  | .tup xs, .tup ys => D.eqL xs ys
  | _, _ => false
def D.eqL : List D → List D → Bool
  | [], [] => true
  | x :: xs, y :: ys => D.eq x y && D.eqL xs ys
  | _, _ => false
end
theorem str_beq (x y : List Nat) : ((⟨x.toArray⟩ : Str) == (⟨y.toArray⟩ : Str)) = (x == y) := by
  by_cases h : x = y
  · subst h; simp
  · have h2 : ¬ (⟨x.toArray⟩ : Str) = ⟨y.toArray⟩ := fun z => h (by injection z with z; simpa using z)
    rw [beq_eq_false_iff_ne.mpr h, beq_eq_false_iff_ne.mpr h2]
mutual
theorem D.eqv_eq : ∀ (d e : D) (n m : Nat), d.ok n = true → e.ok m = true → PyData.eqv d.py e.py = D.eq d e
  | .lst xs, .lst ys, n + 1, m + 1, h, g => by
    simp only [D.py, PyData.eqv, D.eq]
    exact D.eqvL_eq xs ys n m (by simpa [D.ok] using h) (by simpa [D.ok] using g)
  | .tup xs, .tup ys, n + 1, m + 1, h, g => by
    simp only [D.py, PyData.eqv, D.eq]
    exact D.eqvL_eq xs ys n m (by simpa [D.ok] using h) (by simpa [D.ok] using g)
  | .str x, .str y, _, _, _, _ => by simp only [D.py, PyData.eqv, D.eq, str_beq]
  | .lst _, _, 0, _, h, _ => by simp [D.ok] at h
  | .tup _, _, 0, _, h, _ => by simp [D.ok] at h
  | _, .lst _, _, 0, _, h => by simp [D.ok] at h
  | _, .tup _, _, 0, _, h => by simp [D.ok] at h
  | .scr _, _, _, _, h, _ => by simp [D.ok] at h
  | .box, _, _, _, h, _ => by simp [D.ok] at h
  | .ref _, _, _, _, h, _ => by simp [D.ok] at h
  | .cls _, _, _, _, h, _ => by simp [D.ok] at h
  | .exc _ _ _, _, _, _, h, _ => by simp [D.ok] at h
  | .dct _ _, _, _, _, h, _ => by simp [D.ok] at h
  | .dck _ _, _, _, _, h, _ => by simp [D.ok] at h
  | .dcn _ _, _, _, _, h, _ => by simp [D.ok] at h
  | _, .scr _, _, _, _, h => by simp [D.ok] at h
  | _, .box, _, _, _, h => by simp [D.ok] at h
  | _, .ref _, _, _, _, h => by simp [D.ok] at h
  | _, .cls _, _, _, _, h => by simp [D.ok] at h
  | _, .exc _ _ _, _, _, _, h => by simp [D.ok] at h
  | _, .dct _ _, _, _, _, h => by simp [D.ok] at h
  | _, .dck _ _, _, _, _, h => by simp [D.ok] at h
  | _, .dcn _ _, _, _, _, h => by simp [D.ok] at h
  | .non, .non, _, _, _, _ => by simp only [D.py, PyData.eqv, D.eq]
  | .non, .bl _, _, _, _, _ => by simp only [D.py, PyData.eqv, D.eq]
  | .non, .int _, _, _, _, _ => by simp only [D.py, PyData.eqv, D.eq]
  | .non, .str _, _, _, _, _ => by simp only [D.py, PyData.eqv, D.eq]
  | .non, .lst _, _, _ + 1, _, _ => by simp only [D.py, PyData.eqv, D.eq]
  | .non, .tup _, _, _ + 1, _, _ => by simp only [D.py, PyData.eqv, D.eq]
  | .bl _, .non, _, _, _, _ => by simp only [D.py, PyData.eqv, D.eq]
  | .bl _, .bl _, _, _, _, _ => by simp only [D.py, PyData.eqv, D.eq]
  | .bl _, .int _, _, _, _, _ => by simp only [D.py, PyData.eqv, D.eq]
  | .bl _, .str _, _, _, _, _ => by simp only [D.py, PyData.eqv, D.eq]
  | .bl _, .lst _, _, _ + 1, _, _ => by simp only [D.py, PyData.eqv, D.eq]
  | .bl _, .tup _, _, _ + 1, _, _ => by simp only [D.py, PyData.eqv, D.eq]
  | .int _, .non, _, _, _, _ => by simp only [D.py, PyData.eqv, D.eq]
  | .int _, .bl _, _, _, _, _ => by simp only [D.py, PyData.eqv, D.eq]
  | .int _, .int _, _, _, _, _ => by simp only [D.py, PyData.eqv, D.eq]
  | .int _, .str _, _, _, _, _ => by simp only [D.py, PyData.eqv, D.eq]
  | .int _, .lst _, _, _ + 1, _, _ => by simp only [D.py, PyData.eqv, D.eq]
  | .int _, .tup _, _, _ + 1, _, _ => by simp only [D.py, PyData.eqv, D.eq]
  | .str _, .non, _, _, _, _ => by simp only [D.py, PyData.eqv, D.eq]
  | .str _, .bl _, _, _, _, _ => by simp only [D.py, PyData.eqv, D.eq]
  | .str _, .int _, _, _, _, _ => by simp only [D.py, PyData.eqv, D.eq]
  | .str _, .lst _, _, _ + 1, _, _ => by simp only [D.py, PyData.eqv, D.eq]
  | .str _, .tup _, _, _ + 1, _, _ => by simp only [D.py, PyData.eqv, D.eq]
  | .lst _, .non, _ + 1, _, _, _ => by simp only [D.py, PyData.eqv, D.eq]
  | .lst _, .bl _, _ + 1, _, _, _ => by simp only [D.py, PyData.eqv, D.eq]
  | .lst _, .int _, _ + 1, _, _, _ => by simp only [D.py, PyData.eqv, D.eq]
  | .lst _, .str _, _ + 1, _, _, _ => by simp only [D.py, PyData.eqv, D.eq]
  | .lst _, .tup _, _ + 1, _ + 1, _, _ => by simp only [D.py, PyData.eqv, D.eq]
  | .tup _, .non, _ + 1, _, _, _ => by simp only [D.py, PyData.eqv, D.eq]
  | .tup _, .bl _, _ + 1, _, _, _ => by simp only [D.py, PyData.eqv, D.eq]
  | .tup _, .int _, _ + 1, _, _, _ => by simp only [D.py, PyData.eqv, D.eq]
  | .tup _, .str _, _ + 1, _, _, _ => by simp only [D.py, PyData.eqv, D.eq]
  | .tup _, .lst _, _ + 1, _ + 1, _, _ => by simp only [D.py, PyData.eqv, D.eq]
theorem D.eqvL_eq : ∀ (xs ys : List D) (n m : Nat), D.okL xs n = true → D.okL ys m = true → PyData.eqvAll (D.pyL xs) (D.pyL ys) = D.eqL xs ys
  | [], [], _, _, _, _ => by simp only [D.pyL, PyData.eqvAll, D.eqL]
  | [], _ :: _, _, _, _, _ => by simp only [D.pyL, PyData.eqvAll, D.eqL]
  | _ :: _, [], _, _, _, _ => by simp only [D.pyL, PyData.eqvAll, D.eqL]
  | x :: xs, y :: ys, n, m, h, g => by
    simp only [D.okL, Bool.and_eq_true] at h g
    simp only [D.pyL, PyData.eqvAll, D.eqL]
    rw [D.eqv_eq x y n m h.1 g.1, D.eqvL_eq xs ys n m h.2 g.2]
end
mutual
theorem D.ok_depth : ∀ (d : D) (n : Nat), d.ok n = true → d.py.depth ≤ n
  | .lst xs, n + 1, h => by
    simp only [D.py, PyData.depth]
    have := D.okL_depth xs n (by simpa [D.ok] using h)
    omega
  | .tup xs, n + 1, h => by
    simp only [D.py, PyData.depth]
    have := D.okL_depth xs n (by simpa [D.ok] using h)
    omega
  | .lst _, 0, h => by simp [D.ok] at h
  | .tup _, 0, h => by simp [D.ok] at h
  | .non, _, _ => by simp [D.py, PyData.depth]
  | .bl _, _, _ => by simp [D.py, PyData.depth]
  | .int _, _, _ => by simp [D.py, PyData.depth]
  | .str _, _, _ => by simp [D.py, PyData.depth]
  | .scr _, _, _ => by simp [D.py, PyData.depth]
  | .box, _, _ => by simp [D.py, PyData.depth]
  | .ref _, _, _ => by simp [D.py, PyData.depth]
  | .cls _, _, _ => by simp [D.py, PyData.depth]
  | .exc _ _ _, _, _ => by simp [D.py, PyData.depth]
  | .dct _ _, _, _ => by simp [D.py, PyData.depth]
  | .dck _ _, _, _ => by simp [D.py, PyData.depth]
  | .dcn _ _, _, _ => by simp [D.py, PyData.depth]
theorem D.okL_depth : ∀ (xs : List D) (n : Nat), D.okL xs n = true → PyData.depthAll (D.pyL xs) ≤ n
  | [], _, _ => by simp [D.pyL, PyData.depthAll]
  | x :: xs, n, h => by
    simp only [D.okL, Bool.and_eq_true] at h
    simp only [D.pyL, PyData.depthAll]
    have h1 := D.ok_depth x n h.1
    have h2 := D.okL_depth xs n h.2
    omega
end
theorem strOk_of {l : List Nat} (h : SOk l) : PyData.strOk ⟨l.toArray⟩ = true := by
  unfold PyData.strOk
  simp only [List.all_toArray, List.all_eq_true, decide_eq_true_eq]
  exact h.2
section
variable {K : PySem.W.Frag} {cl : Cl} {κ : Ka} {H : Hp}
mutual
theorem Rep.dp : ∀ {d : D} {v : V} {n : Nat}, Rep K cl κ H v d → d.ok n = true → Dp K H v d.py ∧ d.py.canLay0 = true
  | .non, _, _, h, _ => by cases h; exact ⟨.non, rfl⟩
  | .bl b, _, _, h, _ => by cases h; exact ⟨.bl b, rfl⟩
  | .int i, _, _, h, _ => by cases h; exact ⟨.int i, rfl⟩
  | .str l, _, _, h, _ => by
    obtain ⟨rfl, hl⟩ := h.strE
    exact ⟨.str _, by simp only [D.py, PyData.canLay0]; exact strOk_of hl⟩
  | .lst ds, _, n + 1, h, ok => by
    cases h with
    | lst h1 h2 h3 h4 =>
      obtain ⟨g1, g2⟩ := RepL.dp (n := n) h4 (by simpa [D.ok] using ok)
      exact ⟨.lst (SqL.of h2) g1, by simp only [D.py, PyData.canLay0]; exact g2⟩
  | .tup ds, _, n + 1, h, ok => by
    obtain ⟨a, vs, rfl, h2, h3, h4⟩ := h.sqT
    obtain ⟨g1, g2⟩ := RepL.dp (n := n) h4 (by simpa [D.ok] using ok)
    exact ⟨.tup h2 g1, by simp only [D.py, PyData.canLay0]; exact g2⟩
  | .lst _, _, 0, _, ok => by simp [D.ok] at ok
  | .tup _, _, 0, _, ok => by simp [D.ok] at ok
  | .scr _, _, _, _, ok => by simp [D.ok] at ok
  | .box, _, _, _, ok => by simp [D.ok] at ok
  | .ref _, _, _, _, ok => by simp [D.ok] at ok
  | .cls _, _, _, _, ok => by simp [D.ok] at ok
  | .exc _ _ _, _, _, _, ok => by simp [D.ok] at ok
  | .dct _ _, _, _, _, ok => by simp [D.ok] at ok
  | .dck _ _, _, _, _, ok => by simp [D.ok] at ok
  | .dcn _ _, _, _, _, ok => by simp [D.ok] at ok
theorem RepL.dp : ∀ {ds : List D} {vs : List V} {n : Nat}, RepL K cl κ H vs ds → D.okL ds n = true → DpAll K H vs (D.pyL ds) ∧ PyData.canLayAll0 (D.pyL ds) = true
  | [], _, _, h, _ => by cases h; exact ⟨.nil, rfl⟩
  | d :: ds, _, n, h, ok => by
    cases h with
    | cons h1 h2 =>
      simp only [D.okL, Bool.and_eq_true] at ok
      obtain ⟨a1, a2⟩ := Rep.dp h1 ok.1
      obtain ⟨b1, b2⟩ := RepL.dp h2 ok.2
      exact ⟨.cons a1 b1, by simp only [D.pyL, PyData.canLayAll0]; rw [a2, b2]; rfl⟩
end
end
section
variable {Γ : Gm} {κ κ' : Ka} {H H' : Hp} {env env' : En} {σ : Sl} {v : V} {st : Sto}
theorem RepT.dp {d : D} (h : RepT Γ κ H v d) (ok : d.ok 64 = true) : Dp Γ.K H v d.py ∧ SeqAt.shaped d.py = true := by
  have key : Dp Γ.K H v d.py ∧ d.py.canLay0 = true := by
    cases d with
    | lst ds =>
      obtain ⟨a, vs, rfl, h1, h2, h3⟩ := h
      obtain ⟨g1, g2⟩ := RepL.dp (n := 63) h3 (by simpa [D.ok] using ok)
      exact ⟨.lst (SqL.of h1) g1, by simp only [D.py, PyData.canLay0]; exact g2⟩
    | _ => exact Rep.dp h ok
  refine ⟨key.1, ?_⟩
  unfold SeqAt.shaped
  rw [key.2, decide_eq_true (D.ok_depth d 64 ok)]
  rfl
def pEq (d e : D) (Q : R → Prop) : Prop := d.ok 64 = true ∧ e.ok 64 = true ∧ Q (.d (.bl (D.eq d e)))
def pNe (d e : D) (Q : R → Prop) : Prop := d.ok 64 = true ∧ e.ok 64 = true ∧ Q (.d (.bl (!D.eq d e)))
theorem ref_eq : OpRef rEqD pEq := by
  intro Γ σ κ H env v u d e Q Q' I hd he q k
  obtain ⟨a1, a2⟩ := hd.dp q.1
  obtain ⟨b1, b2⟩ := he.dp q.2.1
  refine ⟨_, _, a1, b1, a2, b2, ?_⟩
  rw [D.eqv_eq d e 64 64 q.1 q.2.1]
  exact k _ κ H (.d (.bl (D.eq d e))) (.refl ..) I (.bl _) q.2.2
theorem ref_ne : OpRef rNeD pNe := by
  intro Γ σ κ H env v u d e Q Q' I hd he q k
  obtain ⟨a1, a2⟩ := hd.dp q.1
  obtain ⟨b1, b2⟩ := he.dp q.2.1
  refine ⟨_, _, a1, b1, a2, b2, ?_⟩
  rw [D.eqv_eq d e 64 64 q.1 q.2.1]
  exact k _ κ H (.d (.bl (!D.eq d e))) (.refl ..) I (.bl _) q.2.2
variable {Y : Fam} {a b : Expr} {ta tb : PTE} {pos : Pos}
/-- room for built-in work -/
abbrev Hu (Y : Fam) : Prop := ∀ i, (Y.X i).A.units + 65 < cLine
theorem ve_eq (hu : Hu Y) (ha : VE Y a ta) (hb : VE Y b tb) : VE Y (.Compare a [.Eq] [b] pos) (t2 ta tb pEq) := ve_cmp (fun i => op_eqD (by have := hu i; omega)) ref_eq ha hb (nomark _)
theorem ve_ne (hu : Hu Y) (ha : VE Y a ta) (hb : VE Y b tb) : VE Y (.Compare a [.NotEq] [b] pos) (t2 ta tb pNe) := ve_cmp (fun i => op_neD (by have := hu i; omega)) ref_ne ha hb (nomark _)
theorem vt_eq (hu : Hu Y) (ha : VE Y a ta) (hb : VE Y b tb) : VT Y (.Compare a [.Eq] [b] pos) (tB (t2 ta tb pEq)) := vt_cmp (fun i => op_eqD (by have := hu i; omega)) ref_eq ha hb (nomark _)
theorem vt_ne (hu : Hu Y) (ha : VE Y a ta) (hb : VE Y b tb) : VT Y (.Compare a [.NotEq] [b] pos) (tB (t2 ta tb pNe)) := vt_cmp (fun i => op_neD (by have := hu i; omega)) ref_ne ha hb (nomark _)
/-- <, of ints and of texts -/
def pLt (d e : D) (Q : R → Prop) : Prop := match d, e with
  | .int i, .int j => Q (.d (.bl (decide (i < j))))
  | .str i, .str j => Q (.d (.bl (decide (i < j))))
  | _, _ => False
def pLe (d e : D) (Q : R → Prop) : Prop := match d, e with
  | .int i, .int j => Q (.d (.bl (decide (i ≤ j))))
  | .str i, .str j => Q (.d (.bl (!decide (j < i))))
  | _, _ => False
def pGt (d e : D) (Q : R → Prop) : Prop := match d, e with
  | .int i, .int j => Q (.d (.bl (decide (j < i))))
  | .str i, .str j => Q (.d (.bl (decide (j < i))))
  | _, _ => False
def pGe (d e : D) (Q : R → Prop) : Prop := match d, e with
  | .int i, .int j => Q (.d (.bl (decide (j ≤ i))))
  | .str i, .str j => Q (.d (.bl (!decide (i < j))))
  | _, _ => False
def rS (f : List Nat → List Nat → Bool) : R2 := fun x y H Q => ∃ i j : Str, x = .str i ∧ y = .str j ∧ Q (.bl (f i.cps.toList j.cps.toList)) H
def rOrd (f : Int → Int → Bool) (g : List Nat → List Nat → Bool) : PySem.W.Frag → R2 := fun _ x y H Q => rI0 (fun i j => .bl (f i j)) x y H Q ∨ rS g x y H Q
theorem ref_ord {f : Int → Int → Bool} {g : List Nat → List Nat → Bool} {p : D → D → (R → Prop) → Prop} (h1 : ∀ i j Q, p (.int i) (.int j) Q → Q (.d (.bl (f i j)))) (h2 : ∀ i j Q, p (.str i) (.str j) Q → Q (.d (.bl (g i j))))
    (h3 : ∀ d e Q, p d e Q → (∃ i j, d = .int i ∧ e = .int j) ∨ ∃ i j, d = .str i ∧ e = .str j) : OpRef (rOrd f g) p := by
  intro Γ σ κ H env v u d e Q Q' I hd he q k
  rcases h3 d e Q q with ⟨i, j, rfl, rfl⟩ | ⟨i, j, rfl, rfl⟩
  · cases hd; cases he
    exact .inl ⟨i, j, rfl, rfl, k _ κ H (.d (.bl (f i j))) (.refl ..) I (.bl _) (h1 i j Q q)⟩
  · obtain ⟨rfl, _⟩ := Rep.strE hd
    obtain ⟨rfl, _⟩ := Rep.strE he
    exact .inr ⟨_, _, rfl, rfl, k _ κ H (.d (.bl (g i j))) (.refl ..) I (.bl _) (h2 i j Q q)⟩
theorem ord3 {p : D → D → (R → Prop) → Prop} (h : ∀ d e Q, p d e Q → match d, e with | .int _, .int _ => True | .str _, .str _ => True | _, _ => False) : ∀ d e Q, p d e Q → (∃ i j, d = .int i ∧ e = .int j) ∨ ∃ i j, d = .str i ∧ e = .str j := by
  intro d e Q q
  have := h d e Q q
  cases d <;> cases e <;> first | exact .inl ⟨_, _, rfl, rfl⟩ | exact .inr ⟨_, _, rfl, rfl⟩ | exact False.elim this
theorem ref_lt : OpRef (rOrd (fun i j => decide (i < j)) fun i j => decide (i < j)) pLt := ref_ord (fun _ _ _ q => q) (fun _ _ _ q => q) (ord3 fun d e Q q => by unfold pLt at q; split at q <;> first | trivial | exact q.elim)
theorem ref_le : OpRef (rOrd (fun i j => decide (i ≤ j)) fun i j => !decide (j < i)) pLe := ref_ord (fun _ _ _ q => q) (fun _ _ _ q => q) (ord3 fun d e Q q => by unfold pLe at q; split at q <;> first | trivial | exact q.elim)
theorem ref_gt : OpRef (rOrd (fun i j => decide (j < i)) fun i j => decide (j < i)) pGt := ref_ord (fun _ _ _ q => q) (fun _ _ _ q => q) (ord3 fun d e Q q => by unfold pGt at q; split at q <;> first | trivial | exact q.elim)
theorem ref_ge : OpRef (rOrd (fun i j => decide (j ≤ i)) fun i j => !decide (i < j)) pGe := ref_ord (fun _ _ _ q => q) (fun _ _ _ q => q) (ord3 fun d e Q q => by unfold pGe at q; split at q <;> first | trivial | exact q.elim)
theorem o_lt (X : Cx) : OpR X (compareOp .Lt) (rOrd (fun i j => decide (i < j)) (fun i j => decide (i < j)) X.K) := OpR.or op_lt op_lt_str
theorem o_le (X : Cx) : OpR X (compareOp .LtE) (rOrd (fun i j => decide (i ≤ j)) (fun i j => !decide (j < i)) X.K) := OpR.or op_le op_le_str
theorem o_gt (X : Cx) : OpR X (compareOp .Gt) (rOrd (fun i j => decide (j < i)) (fun i j => decide (j < i)) X.K) := OpR.or op_gt op_gt_str
theorem o_ge (X : Cx) : OpR X (compareOp .GtE) (rOrd (fun i j => decide (j ≤ i)) (fun i j => !decide (i < j)) X.K) := OpR.or op_ge op_ge_str
theorem ve_lt (ha : VE Y a ta) (hb : VE Y b tb) : VE Y (.Compare a [.Lt] [b] pos) (t2 ta tb pLt) := ve_cmp (fun i => o_lt _) ref_lt ha hb (nomark _)
theorem ve_ge (ha : VE Y a ta) (hb : VE Y b tb) : VE Y (.Compare a [.GtE] [b] pos) (t2 ta tb pGe) := ve_cmp (fun i => o_ge _) ref_ge ha hb (nomark _)
theorem vt_lt (ha : VE Y a ta) (hb : VE Y b tb) : VT Y (.Compare a [.Lt] [b] pos) (tB (t2 ta tb pLt)) := vt_cmp (fun i => o_lt _) ref_lt ha hb (nomark _)
theorem vt_le (ha : VE Y a ta) (hb : VE Y b tb) : VT Y (.Compare a [.LtE] [b] pos) (tB (t2 ta tb pLe)) := vt_cmp (fun i => o_le _) ref_le ha hb (nomark _)
theorem vt_gt (ha : VE Y a ta) (hb : VE Y b tb) : VT Y (.Compare a [.Gt] [b] pos) (tB (t2 ta tb pGt)) := vt_cmp (fun i => o_gt _) ref_gt ha hb (nomark _)
def D.flat : D → Bool
  | .non => true
  | .bl _ => true
  | .int _ => true
  | .str _ => true
  | _ => false
def pIn (neg : Bool) (d e : D) (Q : R → Prop) : Prop := match e with
  | .str l => match d with
    | .str [c] => Q (.d (.bl (if neg then !decide (c ∈ l) else decide (c ∈ l))))
    | _ => False
  | .lst ds => d.ok 64 = true ∧ D.okL ds 63 = true ∧ Q (.d (.bl (if neg then !ds.any (fun z => D.eq z d) else ds.any fun z => D.eq z d)))
  | .tup ds => d.flat = true ∧ ds.all D.flat = true ∧ Q (.d (.bl (if neg then !ds.any (fun z => D.eq z d) else ds.any fun z => D.eq z d)))
  | _ => False
theorem any_eqv {d : D} (hd : d.ok 64 = true) : ∀ {ds : List D}, D.okL ds 63 = true → ((D.pyL ds).any fun z => PyData.eqv z d.py) = ds.any fun z => D.eq z d
  | [], _ => rfl
  | e :: ds, h => by
    simp only [D.okL, Bool.and_eq_true] at h
    simp only [D.pyL, List.any_cons]
    rw [D.eqv_eq e d 63 64 h.1 hd, any_eqv hd h.2]
theorem flat_V {d : D} (h : Rep Γ.K Γ.cls κ H v d) (f : d.flat = true) : flatV v = true := by
  cases d with
  | non => cases h; rfl
  | bl b => cases h; rfl
  | int i => cases h; rfl
  | str s => obtain ⟨rfl, _⟩ := h.strE; rfl
  | _ => cases f
theorem flat_eqV {d e : D} {w u : V} (h : Rep Γ.K Γ.cls κ H w d) (g : Rep Γ.K Γ.cls κ H u e) (f : d.flat = true) (f2 : e.flat = true) : eqV w u = D.eq d e := by
  cases d with
  | non =>
    cases h
    cases e with
    | non => cases g; rfl
    | bl b => cases g; rfl
    | int i => cases g; rfl
    | str s => obtain ⟨rfl, _⟩ := g.strE; rfl
    | _ => cases f2
  | bl b =>
    cases h
    cases e with
    | non => cases g; rfl
    | bl b => cases g; rfl
    | int i => cases g; rfl
    | str s => obtain ⟨rfl, _⟩ := g.strE; rfl
    | _ => cases f2
  | int i =>
    cases h
    cases e with
    | non => cases g; rfl
    | bl b => cases g; rfl
    | int i => cases g; rfl
    | str s => obtain ⟨rfl, _⟩ := g.strE; rfl
    | _ => cases f2
  | str s =>
    obtain ⟨rfl, _⟩ := h.strE
    cases e with
    | non => cases g; rfl
    | bl b => cases g; rfl
    | int i => cases g; rfl
    | str s => obtain ⟨rfl, _⟩ := g.strE; exact str_beq _ _
    | _ => cases f2
  | _ => cases f
theorem flat_all : ∀ {ds : List D} {vs : List V}, RepL Γ.K Γ.cls κ H vs ds → ds.all D.flat = true → vs.all flatV = true
  | [], _, h, _ => by cases h; rfl
  | d :: ds, _, h, f => by
    cases h with
    | cons h1 h2 =>
      rw [List.all_cons, Bool.and_eq_true] at f
      rw [List.all_cons, flat_V h1 f.1, flat_all h2 f.2]
      rfl
theorem flat_in {d : D} (h : Rep Γ.K Γ.cls κ H v d) (f : d.flat = true) : ∀ {ds : List D} {vs : List V}, RepL Γ.K Γ.cls κ H vs ds → ds.all D.flat = true → inV v vs = ds.any fun z => D.eq z d
  | [], _, g, _ => by cases g; rfl
  | e :: ds, _, g, fs => by
    cases g with
    | cons h1 h2 =>
      rw [List.all_cons, Bool.and_eq_true] at fs
      have ih := flat_in h f h2 fs.2
      unfold inV at ih ⊢
      rw [List.any_cons, List.any_cons, flat_eqV h1 h fs.1 f, ih]
def rSign (neg : Bool) : R2 := fun x y H Q => ∃ (c : Nat) (z : Str), x = .str ⟨#[c]⟩ ∧ y = .str z ∧ Q (.bl (if neg then !decide (c ∈ z.cps.toList) else decide (c ∈ z.cps.toList))) H
def rInDn (K : PySem.W.Frag) (neg : Bool) : R2 := fun x y H Q => ∃ d ds, Dp K H x d ∧ Dp K H y (.list ds) ∧ SeqAt.shaped d = true ∧ SeqAt.shaped (.list ds) = true ∧ Q (.bl (if neg then !ds.any (fun z => PyData.eqv z d) else ds.any fun z => PyData.eqv z d)) H
def rInAll (neg : Bool) (K : PySem.W.Frag) : R2 := fun x y H Q => rSign neg x y H Q ∨ rInDn K neg x y H Q ∨ rIn K neg x y H Q
theorem o_in {X : Cx} (hu : X.A.units + 65 < cLine) : OpR X (compareOp .In) (rInAll false X.K) := OpR.or op_in_sign (OpR.or (op_inD hu) op_in_seq)
theorem ref_in {neg : Bool} : OpRef (rInAll neg) (pIn neg) := by
  intro Γ σ κ H env v u d e Q Q' I hd he q k
  cases e with
  | str l =>
    cases d with
    | str s =>
      match s, hd, q with
      | [c], hd, q =>
        obtain ⟨rfl, _⟩ := Rep.strE hd
        obtain ⟨rfl, _⟩ := Rep.strE he
        exact .inl ⟨c, _, rfl, rfl, k _ κ H (.d (.bl _)) (.refl ..) I (.bl _) q⟩
    | _ => exact False.elim q
  | lst ds =>
    obtain ⟨q1, q2, q3⟩ := q
    obtain ⟨a1, a2⟩ := hd.dp q1
    obtain ⟨b1, b2⟩ := he.dp (d := .lst ds) (by simpa [D.ok] using q2)
    refine .inr (.inl ⟨_, _, a1, b1, a2, b2, ?_⟩)
    rw [any_eqv q1 q2]
    exact k _ κ H (.d (.bl _)) (.refl ..) I (.bl _) q3
  | tup ds =>
    obtain ⟨q1, q2, q3⟩ := q
    obtain ⟨a, vs, rfl, h1, h2, h3⟩ := Rep.sqT he
    have hd' : Rep Γ.K Γ.cls κ H v d := by
      cases d with
      | lst _ => cases q1
      | _ => exact hd
    refine .inr (.inr ⟨a, vs, rfl, .inr h1, flat_V hd' q1, flat_all h3 q2, ?_⟩)
    rw [flat_in hd' q1 h3 q2]
    exact k _ κ H (.d (.bl _)) (.refl ..) I (.bl _) q3
  | _ => exact False.elim q
theorem vt_in (hu : Hu Y) (ha : VE Y a ta) (hb : VE Y b tb) (hm : behindInMarks .In b = false := by rfl) : VT Y (.Compare a [.In] [b] pos) (tB (t2 ta tb (pIn false))) := vt_cmp (fun i => o_in (hu i)) ref_in ha hb hm
def D.isNon : D → Bool
  | .non => true
  | _ => false
def pIsN (neg : Bool) (d e : D) (Q : R → Prop) : Prop := match e with
  | .non => Q (.d (.bl (if neg then !d.isNon else d.isNon)))
  | .bl b => match d with
    | .bl a => Q (.d (.bl (if neg then !decide (a = b) else decide (a = b))))
    | _ => False
  | _ => False
variable {tA tC : PTT} {rest : List Expr}
def tAnd (t u : PTT) : PTT := fun x e Q => t x e fun c e1 => if c = true then u x e1 Q else Q false e1
def tOr (t u : PTT) : PTT := fun x e Q => t x e fun c e1 => if c = true then Q true e1 else u x e1 Q
def tNot (t : PTT) : PTT := fun x e Q => t x e fun c e1 => Q (!c) e1
theorem VW.vt {e : Expr} {t : PTT} (h : VW Y e t) : VT Y e t := by
  obtain ⟨ra, pa, fa⟩ := h.ex
  exact ⟨⟨ra, fun i => (pa i).pt, fa⟩⟩
theorem vw_and1 (ha : VT Y a tA) : VW Y (.BoolOp .And [a] pos) tA := by
  obtain ⟨ra, pa, fa⟩ := ha.ex
  exact ⟨⟨ra, fun i => pw_and1 (pa i), fa⟩⟩
theorem vw_or1 (ha : VT Y a tA) : VW Y (.BoolOp .Or [a] pos) tA := by
  obtain ⟨ra, pa, fa⟩ := ha.ex
  exact ⟨⟨ra, fun i => pw_or1 (pa i), fa⟩⟩
theorem vw_and (ha : VT Y a tA) (hb : VW Y (.BoolOp .And (b :: rest) pos) tC) : VW Y (.BoolOp .And (a :: b :: rest) pos) (tAnd tA tC) := by
  obtain ⟨ra, pa, fa⟩ := ha.ex
  obtain ⟨rb, pb, fb⟩ := hb.ex
  refine ⟨⟨fun E => L2.tAnd (ra E) (rb E), fun i => pw_and (pa i) (pb i), fun Γ σ κ H env Q Q' hK I q k => ?_⟩⟩
  refine fa Γ σ κ H env _ _ hK I q fun c κ1 H1 e1 x1 I1 q1 => ?_
  cases c with
  | true => exact fb Γ σ κ1 H1 e1 Q Q' hK I1 q1 fun b κ2 H2 e2 x2 => k b κ2 H2 e2 (x1.trans x2)
  | false => exact k false κ1 H1 e1 x1 I1 q1
theorem vw_or (ha : VT Y a tA) (hb : VW Y (.BoolOp .Or (b :: rest) pos) tC) : VW Y (.BoolOp .Or (a :: b :: rest) pos) (tOr tA tC) := by
  obtain ⟨ra, pa, fa⟩ := ha.ex
  obtain ⟨rb, pb, fb⟩ := hb.ex
  refine ⟨⟨fun E => L2.tOr (ra E) (rb E), fun i => pw_or (pa i) (pb i), fun Γ σ κ H env Q Q' hK I q k => ?_⟩⟩
  refine fa Γ σ κ H env _ _ hK I q fun c κ1 H1 e1 x1 I1 q1 => ?_
  cases c with
  | false => exact fb Γ σ κ1 H1 e1 Q Q' hK I1 q1 fun b κ2 H2 e2 x2 => k b κ2 H2 e2 (x1.trans x2)
  | true => exact k true κ1 H1 e1 x1 I1 q1
/-- as values, all but the last bools -/
def tAndV (ta tb : PTE) : PTE := fun x e Q => ta x e fun r e1 => match rv r e1 with
  | some (.bl c) => if c = true then tb x e1 Q else Q (.d (.bl false)) e1
  | _ => False
def tOrV (ta tb : PTE) : PTE := fun x e Q => ta x e fun r e1 => match rv r e1 with
  | some (.bl c) => if c = true then Q (.d (.bl true)) e1 else tb x e1 Q
  | _ => False
def tNotV (ta : PTE) : PTE := fun x e Q => ta x e fun r e1 => match rv r e1 with
  | some (.bl c) => Q (.d (.bl (!c))) e1
  | _ => False
theorem bl_of {r : R} {P : D → Prop} (I : Rl Γ κ env σ H) (h : RelR Γ κ H env σ v r) {F : Bool → Prop} (q : match rv r env with | some (.bl c) => F c | _ => False) : ∃ c, v = .bl c ∧ F c := by
  cases e1' : rv r env with
  | none => rw [e1'] at q; exact False.elim q
  | some d =>
    rw [e1'] at q
    have rt := rv_ok I h e1'
    cases d with
    | bl b => cases rt; exact ⟨b, rfl, q⟩
    | _ => exact False.elim q
theorem ve_one {op} (ha : VE Y a ta) : VE Y (.BoolOp op [a] pos) ta := by
  obtain ⟨ra, pa, fa⟩ := ha.ex
  exact ⟨⟨ra, fun i => pe_one (pa i), fa⟩⟩
theorem ve_and (ha : VE Y a ta) (hb : VE Y (.BoolOp .And (b :: rest) pos) tb) : VE Y (.BoolOp .And (a :: b :: rest) pos) (tAndV ta tb) := by
  obtain ⟨ra, pa, fa⟩ := ha.ex
  obtain ⟨rb, pb, fb⟩ := hb.ex
  refine ⟨⟨fun E => L2.tAndV (ra E) (rb E), fun i => pe_and (pa i) (pb i), fun Γ σ κ H env Q Q' hK I q k => ?_⟩⟩
  refine fa Γ σ κ H env _ _ hK I q fun v κ1 H1 r1 e1 x1 I1 h1 q1 => ?_
  obtain ⟨c, rfl, q1⟩ := bl_of (P := fun _ => True) I1 h1 q1
  refine ⟨c, rfl, ?_⟩
  cases c with
  | true => exact fb Γ σ κ1 H1 e1 Q Q' hK I1 q1 fun v κ2 H2 r2 e2 x2 => k v κ2 H2 r2 e2 (x1.trans x2)
  | false => exact k _ κ1 H1 (.d (.bl false)) e1 x1 I1 (.bl _) q1
def tIf (t : PTT) (ta tb : PTE) : PTE := fun x e Q => t x e fun c e1 => if c = true then ta x e1 Q else tb x e1 Q
end
end Pu
set_option maxRecDepth 100000
set_option maxHeartbeats 4000000
namespace Pu
open PySem L2
section
variable {Γ : Gm} {κ κ' : Ka} {H H' : Hp} {env env' : En} {σ : Sl} {v : V} {st : Sto} {Y : Fam} {a b e : Expr} {es : List Expr} {ta tb te : PTE} {pos : Pos}
def tNil : PTA := fun _ e Q => Q [] e
def tCons (ta : PTE) (tr : PTA) : PTA := fun x e Q => ta x e fun r e1 => fz r e1 fun d e2 => tr x e2 fun ds e3 => Q (d :: ds) e3
theorem va_nil : VA Y [] tNil := ⟨⟨fun _ => L2.tNil, fun _ => pa_nil, fun Γ σ κ H env Q Q' hK I q k => k [] κ H [] env (.refl ..) I .nil q⟩⟩
theorem va_cons {tr : PTA} (ha : VE Y e ta) (hr : VA Y es tr) (hs : ∀ X : Cx, starEach (e :: es) X.env = (false, eval e X.env) :: starEach es X.env := by intro _; rfl) : VA Y (e :: es) (tCons ta tr) := by
  obtain ⟨ra, pa, fa⟩ := ha.ex
  obtain ⟨rb, pb, fb⟩ := hr.ex
  refine ⟨⟨fun E => L2.tCons (ra E) (rb E), fun i => pa_cons (pa i) (pb i) (hs _), fun Γ σ κ H env Q Q' hK I q k => ?_⟩⟩
  refine fa Γ σ κ H env _ _ hK I q fun v κ1 H1 r1 e1 x1 I1 h1 q1 => ?_
  refine fz_ok I1 h1 q1 fun κ2 d e2 x2 I2 h2 q2 => ?_
  refine fb Γ σ κ2 H1 e2 _ _ hK I2 q2 fun vs κ3 H3 ds e3 x3 I3 h3 q3 => ?_
  exact k (v :: vs) κ3 H3 (d :: ds) e3 ((x1.trans x2).trans x3) I3 (.cons (h2.mono x3) h3) q3
def tTup (t : PTA) : PTE := fun x e Q => t x e fun ds e1 => ds.length ≤ sizeLine ∧ Q (.d (.tup ds)) e1
def tLst (t : PTA) : PTE := fun x e Q => t x e fun ds e1 => ds.length ≤ sizeLine ∧ Q (.own ds) e1
theorem ve_tup {x1} {t : PTA} (h : VA Y es t) : VE Y (.Tuple es x1 pos) (tTup t) := by
  obtain ⟨ra, pa, fa⟩ := h.ex
  refine ⟨⟨fun E => PuE.tTupB (ra E), fun i => PuE.pe_tupB (pa i), fun Γ σ κ H env Q Q' hK I q k => ?_⟩⟩
  refine fa Γ σ κ H env _ _ hK I q fun vs κ1 H1 ds e1 x1 I1 h1 q1 => ⟨by rw [h1.length]; exact q1.1, ?_⟩
  exact new_tupB I1 (by rw [h1.length]; exact q1.1) h1 fun κ' H' p x2 I2 r2 => k _ _ _ (.d (.tup ds)) e1 (x1.trans x2) I2 r2 q1.2
theorem ve_lst {t : PTA} (h : VA Y es t) : VE Y (.List es pos) (tLst t) := by
  obtain ⟨ra, pa, fa⟩ := h.ex
  refine ⟨⟨fun E => L2.tLst (ra E), fun i => pe_lst (pa i), fun Γ σ κ H env Q Q' hK I q k => ?_⟩⟩
  refine fa Γ σ κ H env _ _ hK I q fun vs κ1 H1 ds e1 x1 I1 h1 q1 => ⟨by rw [h1.length]; exact q1.1, fun p hp => ?_⟩
  exact k _ κ1 _ (.own ds) e1 (x1.trans (Ext.upd_new I1.gh hp)) (I1.upd_new hp) (new_lst I1 hp (by rw [h1.length]; exact q1.1) h1) q1.2
abbrev PTR := PX → En → (List R → En → Prop) → Prop
inductive HeldL (Γ : Gm) (κ : Ka) (H : Hp) (σ : Sl) : List V → List R → Prop
  | nil : HeldL Γ κ H σ [] []
  | cons {v : V} {vs : List V} {r : R} {rs : List R} : HeldR Γ κ H σ v r → HeldL Γ κ H σ vs rs → HeldL Γ κ H σ (v :: vs) (r :: rs)
inductive RepTL (Γ : Gm) (κ : Ka) (H : Hp) : List V → List D → Prop
  | nil : RepTL Γ κ H [] []
  | cons {v : V} {vs : List V} {d : D} {ds : List D} : RepT Γ κ H v d → RepTL Γ κ H vs ds → RepTL Γ κ H (v :: vs) (d :: ds)
theorem HeldL.ext : ∀ {rs : List R} {vs : List V}, Ext κ H κ' H' → HeldL Γ κ H σ vs rs → HeldL Γ κ' H' σ vs rs
  | [], _, _, h => by cases h; exact .nil
  | _ :: _, _, e, h => by cases h with | cons h1 h2 => exact .cons (h1.ext e) (HeldL.ext e h2)
structure VR (Y : Fam) (es : List Expr) (t : PTR) : Prop where
  ex : ∃ rd : XK → TA, (∀ i, PA (Y.X i) es (rd (Y.E i))) ∧ ∀ (Γ : Gm) (σ : Sl) (κ : Ka) (H : Hp) (env : En) (Q : List R → En → Prop) (Q' : List V → Hp → Prop), GK Y Γ → Rl Γ κ env σ H → t Γ.x env Q →
    (∀ vs κ' H' rs env', Ext κ H κ' H' → Rl Γ κ' env' σ H' → HeldL Γ κ' H' σ vs rs → Q rs env' → Q' vs H') → rd Γ.E σ H Q'
def rNil : PTR := fun _ e Q => Q [] e
def rCons (ta : PTE) (tr : PTR) : PTR := fun x e Q => ta x e fun r e1 => hold r e1 fun r e2 => tr x e2 fun rs e3 => Q (r :: rs) e3
theorem vr_nil : VR Y [] rNil := ⟨⟨fun _ => L2.tNil, fun _ => pa_nil, fun Γ σ κ H env Q Q' hK I q k => k [] κ H [] env (.refl ..) I .nil q⟩⟩
theorem vr_cons {tr : PTR} (ha : VE Y e ta) (hr : VR Y es tr) (hs : ∀ X : Cx, starEach (e :: es) X.env = (false, eval e X.env) :: starEach es X.env := by intro _; rfl) : VR Y (e :: es) (rCons ta tr) := by
  obtain ⟨ra, pa, fa⟩ := ha.ex
  obtain ⟨rb, pb, fb⟩ := hr.ex
  refine ⟨⟨fun E => L2.tCons (ra E) (rb E), fun i => pa_cons (pa i) (pb i) (hs _), fun Γ σ κ H env Q Q' hK I q k => ?_⟩⟩
  refine fa Γ σ κ H env _ _ hK I q fun v κ1 H1 r1 e1 x1 I1 h1 q1 => ?_
  refine hold_ok I1 h1 q1 fun κ2 r2 x2 I2 h2 q2 => ?_
  refine fb Γ σ κ2 H1 e1 _ _ hK I2 q2 fun vs κ3 H3 rs e3 x3 I3 h3 q3 => ?_
  exact k (v :: vs) κ3 H3 (r2 :: rs) e3 ((x1.trans x2).trans x3) I3 (.cons (h2.ext x3) h3) q3
def rvL : List R → En → Option (List D)
  | [], _ => some []
  | r :: rs, e => match rv r e with
    | none => none
    | some d => match rvL rs e with
      | none => none
      | some ds => some (d :: ds)
theorem rvL_ok (I : Rl Γ κ env σ H) : ∀ {rs : List R} {vs : List V} {ds : List D}, HeldL Γ κ H σ vs rs → rvL rs env = some ds → RepTL Γ κ H vs ds
  | [], _, _, h, e => by cases h; cases e; exact .nil
  | r :: rs, _, _, h, e => by
    cases h with
    | cons h1 h2 =>
      unfold rvL at e
      cases e1 : rv r env with
      | none => rw [e1] at e; cases e
      | some d =>
        rw [e1] at e
        cases e2 : rvL rs env with
        | none => simp only [e2] at e; cases e
        | some ds =>
          simp only [e2] at e
          cases e
          exact .cons (rv_ok I h1.rel e1) (rvL_ok I h2 e2)
def CallRef (r : PySem.W.Frag → List V → Hp → VK → Prop) (p : List D → (R → Prop) → Prop) : Prop :=
  ∀ (Γ : Gm) (σ : Sl) (κ : Ka) (H : Hp) (env : En) (vs : List V) (ds : List D) (Q : R → Prop) (Q' : VK), Rl Γ κ env σ H → RepTL Γ κ H vs ds → p ds Q →
    (∀ v' κ' H' r, Ext κ H κ' H' → Rl Γ κ' env σ H' → RelR Γ κ' H' env σ v' r → Q r → Q' v' H') → r Γ.K vs H Q'
def tCallP (p : List D → (R → Prop) → Prop) (t : PTR) : PTE := fun x e Q => t x e fun rs e1 => match rvL rs e1 with
  | some ds => p ds (fun r => Q r e1)
  | none => False
theorem callP {r : PySem.W.Frag → List V → Hp → VK → Prop} {p : List D → (R → Prop) → Prop} {t : PTR} {rd : XK → TA} (hr : CallRef r p)
    (f : ∀ (Γ : Gm) (σ : Sl) (κ : Ka) (H : Hp) (env : En) (Q : List R → En → Prop) (Q' : List V → Hp → Prop), GK Y Γ → Rl Γ κ env σ H → t Γ.x env Q →
    (∀ vs κ' H' rs env', Ext κ H κ' H' → Rl Γ κ' env' σ H' → HeldL Γ κ' H' σ vs rs → Q rs env' → Q' vs H') → rd Γ.E σ H Q')
    {Q : R → En → Prop} {Q' : VK} (hK : GK Y Γ) (I : Rl Γ κ env σ H) (q : tCallP p t Γ.x env Q)
    (k : ∀ v κ' H' r env', Ext κ H κ' H' → Rl Γ κ' env' σ H' → RelR Γ κ' H' env' σ v r → Q r env' → Q' v H') : tCB (r Y.K) (rd Γ.E) σ H Q' := by
  refine f Γ σ κ H env _ _ hK I q fun vs κ1 H1 rs e1 x1 I1 h1 q1 => ?_
  cases e : rvL rs e1 with
  | none => rw [e] at q1; exact False.elim q1
  | some ds =>
    rw [e] at q1
    have := hr Γ σ κ1 H1 e1 vs ds _ Q' I1 (rvL_ok I1 h1 e) q1 fun v' κ' H' r x I' h' q' => k v' κ' H' r e1 (x1.trans x) I' h' q'
    rw [hK.k] at this
    exact this
theorem ve_callB {x : Str} {id : String} {p' : Pos} {r : PySem.W.Frag → List V → Hp → VK → Prop} {p : List D → (R → Prop) → Prop} {t : PTR} (hc : ∀ i, CallR (Y.X i) (.builtin id) (r (Y.X i).K)) (hr : CallRef r p) (hm : ∀ i, (Y.X i).mg x = none) (ha : VR Y (e :: es) t)
    (hg : ∀ i, Gl (Y.X i) x := by intro _; rfl) (hv : bootBuiltins x = some (.builtin id) := by decide +kernel) (hn : x ≠ "__name__" := by decide) (hdb : (x == ("__debug__" : Str)) = false := by decide)
    (he : ∀ X : Cx, starEach (e :: es) X.env = (false, eval e X.env) :: starEach es X.env := by intro _; rfl) (hpl : ∀ X : Cx, (backTo pos (starEach es X.env)).any (·.1) = false := by intro _; rfl) : VE Y (.Call (.Name x p') (e :: es) [] pos) (tCallP p t) := by
  obtain ⟨ra, pa, fa⟩ := ha.ex
  exact ⟨⟨fun E => tCB (r Y.K) (ra E), fun i => pe_callB (by have := hc i; rw [Y.hK i] at this; exact this) (hg i) (hm i) hv (pa i) hn hdb (he _) (hpl _), fun Γ σ κ H env Q Q' hK I q k => callP hr fa hK I q k⟩⟩
theorem ve_callTy {x : Str} {T : String} {p' : Pos} {r : PySem.W.Frag → List V → Hp → VK → Prop} {p : List D → (R → Prop) → Prop} {t : PTR} (hc : ∀ i, CallR (Y.X i) (.type T) (r (Y.X i).K)) (hr : CallRef r p) (hm : ∀ i, (Y.X i).mg x = none) (ha : VR Y (e :: es) t)
    (hg : ∀ i, Gl (Y.X i) x := by intro _; rfl) (hv : bootBuiltins x = some (.type T) := by decide +kernel) (hn : x ≠ "__name__" := by decide) (hdb : (x == ("__debug__" : Str)) = false := by decide)
    (he : ∀ X : Cx, starEach (e :: es) X.env = (false, eval e X.env) :: starEach es X.env := by intro _; rfl) (hpl : ∀ X : Cx, (backTo pos (starEach es X.env)).any (·.1) = false := by intro _; rfl) : VE Y (.Call (.Name x p') (e :: es) [] pos) (tCallP p t) := by
  obtain ⟨ra, pa, fa⟩ := ha.ex
  exact ⟨⟨fun E => tCB (r Y.K) (ra E), fun i => pe_callTy (by have := hc i; rw [Y.hK i] at this; exact this) (hg i) (hm i) hv (pa i) hn hdb (he _) (hpl _), fun Γ σ κ H env Q Q' hK I q k => callP hr fa hK I q k⟩⟩
/-- len -/
def pLen : List D → (R → Prop) → Prop
  | [.str s], Q => Q (.d (.int s.length))
  | [.lst ds], Q => Q (.d (.int ds.length))
  | [.tup ds], Q => Q (.d (.int ds.length))
  | [.scr n], Q => Q (.d (.int n))
  | _, _ => False
def rLen (K : PySem.W.Frag) : List V → Hp → VK → Prop := fun xs H Q => ∃ x n, xs = [x] ∧ LenV K x H n ∧ Q (.int n) H
theorem lenL {K : PySem.W.Frag} {a : Addr} {vs : List V} (h : SqL K H a vs) : LenV K (.ref a) H vs.length := by
  unfold LenV
  first | exact .inl ⟨vs, h, rfl⟩ | exact ⟨vs, .inl h, rfl⟩
theorem ref_len : CallRef rLen pLen := by
  intro Γ σ κ H env vs ds Q Q' I h q k
  match ds, vs, h, q with
  | [.str s], _, .cons h .nil, q =>
    obtain ⟨rfl, h1⟩ := Rep.strE h
    refine ⟨_, s.length, rfl, ?_, k _ κ H (.d (.int s.length)) (.refl ..) I (.int _) q⟩
    show _ ≤ sizeLine ∧ _
    rw [str_len]
    exact ⟨h1.1, rfl⟩
  | [.lst ds], _, .cons h .nil, q =>
    obtain ⟨a, ws, rfl, h1, h2, h3⟩ := h
    refine ⟨_, ws.length, rfl, lenL (SqL.of h1), ?_⟩
    rw [h3.length]
    exact k _ κ H (.d (.int ds.length)) (.refl ..) I (.int _) q
  | [.tup ds], _, .cons h .nil, q =>
    obtain ⟨a, ws, rfl, h1, h2, h3⟩ := Rep.sqT h
    refine ⟨_, ws.length, rfl, .inr ⟨ws, h1, rfl⟩, ?_⟩
    rw [h3.length]
    exact k _ κ H (.d (.int ds.length)) (.refl ..) I (.int _) q
  | [.scr n], _, .cons h .nil, q =>
    cases h with
    | @scr a ns _ h1 hn h2 =>
      subst hn
      refine ⟨_, ns.length, rfl, ?_, k _ κ H (.d (.int (ns.length : Nat))) (.refl ..) I (.int _) q⟩
      have := lenL (H := H) (K := Γ.K) (a := a) (vs := ns.map V.int) (by
        rcases h1 with ⟨_, h1⟩ | h1
        · exact .inl h1
        · exact .inr h1)
      rw [List.length_map] at this
      exact this
theorem ve_len {p' : Pos} {t : PTR} (hm : ∀ i, (Y.X i).mg "len" = none) (ha : VR Y [e] t) (hg : ∀ i, Gl (Y.X i) "len" := by intro _; rfl) (he : ∀ X : Cx, starEach [e] X.env = (false, eval e X.env) :: starEach [] X.env := by intro _; rfl) : VE Y (.Call (.Name "len" p') [e] [] pos) (tCallP pLen t) :=
  ve_callB (r := rLen) (fun _ => call_len) ref_len hm ha hg (he := he)
def pIx (d e : D) (Q : R → Prop) : Prop := match d, e with
  | .lst ds, .int i => match atI ds i with | some y => Q (.d y) | none => False
  | .tup ds, .int i => match atI ds i with | some y => Q (.d y) | none => False
  | .str s, .int i => match atI s i with | some c => Q (.d (.str [c])) | none => False
  | .scr n, .int i => (0 ≤ i ∧ i < n) ∧ ∀ z, Q (.d (.int z))
  | .box, .int i => (i = 0 ∨ i = 1) ∧ ∀ z, Q (.d (.int z))
  | _, _ => False
theorem atI_rep {ds : List D} {vs : List V} {i : Int} {d : D} (h : RepL Γ.K Γ.cls κ H vs ds) (e : atI ds i = some d) : ∃ v, atI vs i = some v ∧ Rep Γ.K Γ.cls κ H v d := by
  unfold atI at e ⊢
  rw [h.length]
  cases q : ixN ds.length i with
  | none => rw [q] at e; cases e
  | some j =>
    rw [q] at e
    obtain ⟨v, e1, r⟩ := h.get (i := j) e
    exact ⟨v, e1, r⟩
theorem SOk.one {s : List Nat} {c : Nat} (h : SOk s) (hc : c ∈ s) : SOk [c] := ⟨by show 1 ≤ sizeLine; decide, fun d hd => by
  have : d = c := by simpa using hd
  rw [this]; exact h.2 c hc⟩
theorem atI_mem {α : Type} {xs : List α} {i : Int} {x : α} (e : atI xs i = some x) : x ∈ xs := by
  unfold atI at e
  cases q : ixN xs.length i with
  | none => rw [q] at e; cases e
  | some j => rw [q] at e; exact List.mem_of_getElem? e
theorem ref_ix : OpRef rIx pIx := by
  intro Γ σ κ H env v u d e Q Q' I hd he q k
  cases e with
  | int i =>
    cases he
    cases d with
    | lst ds =>
      obtain ⟨a, vs, rfl, h1, h2, h3⟩ := hd
      unfold pIx at q
      simp only at q
      cases qe : atI ds i with
      | none => rw [qe] at q; exact False.elim q
      | some y =>
        rw [qe] at q
        obtain ⟨w, e1, r1⟩ := atI_rep h3 qe
        exact .inl ⟨a, vs, i, w, rfl, rfl, SqL.of h1, e1, k w κ H (.d y) (.refl ..) I r1 q⟩
    | tup ds =>
      obtain ⟨a, vs, rfl, h1, h2, h3⟩ := Rep.sqT hd
      unfold pIx at q
      simp only at q
      cases qe : atI ds i with
      | none => rw [qe] at q; exact False.elim q
      | some y =>
        rw [qe] at q
        obtain ⟨w, e1, r1⟩ := atI_rep h3 qe
        exact .inr (.inl ⟨a, vs, i, w, rfl, rfl, h1, e1, k w κ H (.d y) (.refl ..) I r1 q⟩)
    | str s =>
      obtain ⟨rfl, hs⟩ := Rep.strE hd
      unfold pIx at q
      simp only at q
      cases qe : atI s i with
      | none => rw [qe] at q; exact False.elim q
      | some c =>
        rw [qe] at q
        exact .inr (.inr ⟨_, i, c, rfl, rfl, by rw [str_len]; exact hs.1, qe, k _ κ H (.d (.str [c])) (.refl ..) I (.str _ (hs.one (atI_mem qe))) q⟩)
    | scr n =>
      cases hd with
      | @scr a ns _ h1 hn h2 =>
        subst hn
        obtain ⟨⟨i0, i1⟩, q⟩ := q
        obtain ⟨j, rfl⟩ : ∃ j : Nat, i = (j : Int) := ⟨i.toNat, by omega⟩
        have hj : j < ns.length := by omega
        refine .inl ⟨a, ns.map V.int, (j : Int), .int ns[j], rfl, rfl, ?_, atI_nat (by rw [List.getElem?_map, List.getElem?_eq_getElem hj]; rfl), k _ κ H (.d (.int ns[j])) (.refl ..) I (.int _) (q _)⟩
        rcases h1 with ⟨_, h1⟩ | h1
        · exact .inl h1
        · exact .inr h1
    | box =>
      cases hd with
      | @box a hk =>
        obtain ⟨x, y, hx⟩ := I.gh.box a hk
        obtain ⟨hi, q⟩ := q
        rcases hi with rfl | rfl
        · exact .inl ⟨a, _, 0, .int x, rfl, rfl, SqL.of hx, rfl, k _ κ H (.d (.int x)) (.refl ..) I (.int _) (q _)⟩
        · exact .inl ⟨a, _, 1, .int y, rfl, rfl, SqL.of hx, rfl, k _ κ H (.d (.int y)) (.refl ..) I (.int _) (q _)⟩
    | _ => exact False.elim q
  | _ => cases d <;> exact False.elim q
theorem ve_ix (ha : VE Y a ta) (hb : VE Y b tb) (hs : PlainIx b := by exact fun _ _ => rfl) : VE Y (.Subscript a b pos) (t2 ta tb pIx) := by
  obtain ⟨ra, pa, fa⟩ := ha.ex
  obtain ⟨rb, pb, fb⟩ := hb.ex
  refine ⟨⟨fun E => tOp (rIx Y.K) (ra E) (rb E), fun i => pe_ix (by have := ix_seq (X := Y.X i); rw [Y.hK i] at this; exact this) (pa i) (pb i) hs, fun Γ σ κ H env Q Q' hK I q k => ?_⟩⟩
  exact two_ref (r := rIx) ref_ix fa fb hK I q k
abbrev PTO := PX → En → (Option Int → En → Prop) → Prop
structure VO (Y : Fam) (e : Option Expr) (t : PTO) : Prop where
  ex : ∃ rd : XK → L2.TO, (∀ i, PO (Y.X i) e (rd (Y.E i))) ∧ ∀ (Γ : Gm) (σ : Sl) (κ : Ka) (H : Hp) (env : En) (Q : Option Int → En → Prop) (Q' : Option Int → Hp → Prop), GK Y Γ → Rl Γ κ env σ H → t Γ.x env Q →
    (∀ o κ' H' env', Ext κ H κ' H' → Rl Γ κ' env' σ H' → Q o env' → Q' o H') → rd Γ.E σ H Q'
def oNone : PTO := fun _ e Q => Q none e
def oSome (t : PTE) : PTO := fun x e Q => t x e fun r e1 => match rv r e1 with
  | some (.int i) => Q (some i) e1
  | _ => False
theorem vo_none : VO Y none oNone := ⟨⟨fun _ => tNoPart, fun _ => po_none, fun Γ σ κ H env Q Q' hK I q k => k none κ H env (.refl ..) I q⟩⟩
theorem vo_some (h : VE Y e te) : VO Y (some e) (oSome te) := by
  obtain ⟨ra, pa, fa⟩ := h.ex
  refine ⟨⟨fun E => tPart (ra E), fun i => po_some (pa i), fun Γ σ κ H env Q Q' hK I q k => ?_⟩⟩
  refine fa Γ σ κ H env _ _ hK I q fun v κ1 H1 r1 e1 x1 I1 h1 q1 => ?_
  cases e1' : rv r1 e1 with
  | none => rw [e1'] at q1; exact False.elim q1
  | some d =>
    rw [e1'] at q1
    have rt := rv_ok I1 h1 e1'
    cases d with
    | int i => cases rt; exact ⟨i, rfl, k (some i) κ1 H1 e1 x1 I1 q1⟩
    | _ => exact False.elim q1
/-- a piece of a list -/
def cut {α : Type} (xs : List α) (lo hi : Option Int) : List α := (xs.drop (HT.sIx xs.length 0 lo)).take (HT.sIx xs.length xs.length hi - HT.sIx xs.length 0 lo)
def pSl (d : D) (lo hi : Option Int) (Q : R → Prop) : Prop := match d with
  | .lst ds => Q (.own (cut ds lo hi))
  | .tup ds => Q (.d (.tup (cut ds lo hi)))
  | .str s => Q (.d (.str (cut s lo hi)))
  | .scr n => ∀ ns : List Int, ns.length = (cut (List.range n) lo hi).length → Q (.own (ns.map D.int))
  | _ => False
def tSl (te : PTE) (tl th : PTO) : PTE := fun x e Q => te x e fun r e1 => hold r e1 fun r e1 => tl x e1 fun lo e2 => th x e2 fun hi e3 => match rv r e3 with
  | some d => pSl d lo hi (fun r => Q r e3)
  | none => False
theorem cut_length {α : Type} (xs : List α) (lo hi : Option Int) : (cut xs lo hi).length ≤ xs.length := by
  unfold cut
  rw [List.length_take, List.length_drop]
  omega
theorem cut_mem {α : Type} {xs : List α} {lo hi : Option Int} {x : α} (h : x ∈ cut xs lo hi) : x ∈ xs := by
  unfold cut at h
  exact List.mem_of_mem_drop (List.mem_of_mem_take h)
theorem SOk.cut {s : List Nat} (h : SOk s) (lo hi : Option Int) : SOk (cut s lo hi) := ⟨Nat.le_trans (cut_length ..) h.1, fun c hc => h.2 c (cut_mem hc)⟩
theorem RepL.cut {ds : List D} {vs : List V} (h : RepL Γ.K Γ.cls κ H vs ds) (lo hi : Option Int) : RepL Γ.K Γ.cls κ H (cutV vs lo hi) (cut ds lo hi) := by
  unfold cutV Pu.cut
  rw [h.length]
  exact (h.drop _).take _
def rSlAll (K : PySem.W.Frag) : V → Option Int → Option Int → Hp → VK → Prop := fun x lo hi H Q => rSlL K x lo hi H Q ∨ PuE.rSlTB K x lo hi H Q ∨ rSlS x lo hi H Q
theorem sl_all {X : Cx} : SlR X (rSlAll X.K) := SlR.or sl_list (SlR.or PuE.sl_tupB sl_str)
theorem cut_whole {α : Type} {xs : List α} {lo hi : Option Int} (h : HT.sIx xs.length 0 lo = 0 ∧ HT.sIx xs.length xs.length hi = xs.length) : cut xs lo hi = xs := by
  unfold cut
  rw [h.1, h.2]
  simp
theorem line_eq' : (sizeLine : Nat) = 16777216 := sizeLine_eq
theorem rep_ints : ∀ ns : List Int, RepL Γ.K Γ.cls κ H (ns.map V.int) (ns.map D.int)
  | [] => .nil
  | i :: ns => .cons (.int i) (rep_ints ns)
theorem cutV_map {α : Type} (f : α → V) (xs : List α) (lo hi : Option Int) : cutV (xs.map f) lo hi = (cut xs lo hi).map f := by
  unfold cutV cut
  rw [List.length_map, ← List.map_drop, ← List.map_take]
theorem cut_len_eq {α β : Type} {xs : List α} {ys : List β} (h : xs.length = ys.length) (lo hi : Option Int) : (cut xs lo hi).length = (cut ys lo hi).length := by
  unfold cut
  simp only [List.length_take, List.length_drop, h]
theorem ve_slice {lo hi : Option Expr} {tl th : PTO} {p2 : Pos} (ha : VE Y e te) (hl : VO Y lo tl) (hh : VO Y hi th) : VE Y (.Subscript e (.Slice lo hi none p2) pos) (tSl te tl th) := by
  obtain ⟨ra, pa, fa⟩ := ha.ex
  obtain ⟨rl, pl, fl⟩ := hl.ex
  obtain ⟨rh, ph, fh⟩ := hh.ex
  refine ⟨⟨fun E => L2.tSl (rSlAll Y.K) (ra E) (rl E) (rh E), fun i => pe_slice (by have := sl_all (X := Y.X i); rw [Y.hK i] at this; exact this) (pa i) (pl i) (ph i), fun Γ σ κ H env Q Q' hK I q k => ?_⟩⟩
  refine fa Γ σ κ H env _ _ hK I q fun v κ1 H1 r1 e1 x1 I1 h1 q1 => ?_
  refine hold_ok I1 h1 q1 fun κ2 r2 x2 I2 h2 q2 => ?_
  refine fl Γ σ κ2 H1 e1 _ _ hK I2 q2 fun l κ3 H3 e3 x3 I3 q3 => ?_
  refine fh Γ σ κ3 H3 e3 _ _ hK I3 q3 fun h κ4 H4 e4 x4 I4 q4 => ?_
  have x := ((x1.trans x2).trans x3).trans x4
  have h2' : RelR Γ κ4 H4 e4 σ v r2 := ((h2.ext x3).ext x4).rel
  rw [← hK.k]
  cases e1' : rv r2 e4 with
  | none => rw [e1'] at q4; exact False.elim q4
  | some d =>
    rw [e1'] at q4
    have rt := rv_ok I4 h2' e1'
    cases d with
    | lst ds =>
      obtain ⟨a, vs, rfl, g1, g2, g3⟩ := rt
      refine .inl ⟨a, vs, rfl, SqL.of g1, fun p hp => ?_⟩
      exact k _ κ4 _ (.own (cut ds l h)) e4 (x.trans (Ext.upd_new I4.gh hp)) (I4.upd_new hp) (new_lst I4 hp (Nat.le_trans (cutV_length ..) g2) (g3.cut l h)) q4
    | tup ds =>
      have rt0 : Rep Γ.K Γ.cls κ4 H4 v (.tup ds) := rt
      obtain ⟨a, vs, rfl, g1, g2, g3⟩ := Rep.sqT rt
      refine .inr (.inl ⟨a, vs, rfl, g1, fun hw => ?_, fun hw => ?_⟩)
      · have : cut ds l h = ds := cut_whole (by rw [← g3.length]; exact hw)
        have q4 : Q (.d (.tup (cut ds l h))) e4 := q4
        rw [this] at q4
        exact k _ κ4 H4 (.d (.tup ds)) e4 x I4 rt0 q4
      · exact new_tupB I4 (Nat.le_trans (cutV_length vs l h) g2) (g3.cut l h) fun κ' H' p x5 I5 r5 => k _ _ _ (.d (.tup (cut ds l h))) e4 (x.trans x5) I5 r5 q4
    | scr n =>
      cases rt with
      | @scr a ns _ g1 hn g2 =>
        subst hn
        refine .inl ⟨a, ns.map V.int, rfl, ?_, fun p hp => ?_⟩
        · rcases g1 with ⟨_, g1⟩ | g1
          · exact .inl g1
          · exact .inr g1
        · rw [cutV_map]
          refine k _ κ4 _ (.own ((cut ns l h).map D.int)) e4 (x.trans (Ext.upd_new I4.gh hp)) (I4.upd_new hp) (new_lst I4 hp ?_ (rep_ints _)) (q4 _ (cut_len_eq (by simp) l h))
          rw [List.length_map, line_eq']
          have := cut_length ns l h
          omega
    | str s =>
      obtain ⟨rfl, hs⟩ := Rep.strE rt
      refine .inr (.inr ⟨_, rfl, by rw [str_len]; exact hs.1, ?_⟩)
      have : cutS ⟨s.toArray⟩ l h = ⟨(cut s l h).toArray⟩ := by
        unfold cutS Pu.cut
        rw [str_len]
      rw [this]
      exact k _ κ4 H4 (.d (.str (cut s l h))) e4 x I4 (.str _ (hs.cut l h)) q4
    | _ => exact False.elim q4
def asgR (i : Nat) : R → En → (En → Prop) → Prop
  | .d d, e, Q => Q (e.setC i (.d d))
  | .own ds, e, Q => Q (e.setC i (.own ds))
  | .dK ds, e, Q => Q (e.setC i (.dK ds))
  | .dT ds, e, Q => Q (e.setC i (.dT ds))
  | .nam j, e, Q => fz (.nam j) e fun d e1 => Q (e1.setC i (.d d))
theorem Rl.assign {i : Nat} {c : C} (I : Rl Γ κ env σ H) (hi : i < σ.length) (r : RelS Γ κ H (some (some v)) c) (hn : c.isOwn = true → ∀ j a, v = .ref a → ¬ OwnS env σ j a) : Rl Γ κ (env.setC i c) (σ.set i (some v)) H := by
  have hi' : i < env.sl.length := by rw [← I.len]; exact hi
  have old : ∀ m b, m ≠ i → OwnS (env.setC i c) (σ.set i (some v)) m b → OwnS env σ m b := fun m b hm ⟨z1, c', z2, z3⟩ => by
    have z2 : (env.sl.set i c)[m]? = some c' := z2
    rw [List.getElem?_set_ne (Ne.symm hm)] at z1 z2
    exact ⟨z1, c', z2, z3⟩
  have new : ∀ b, OwnS (env.setC i c) (σ.set i (some v)) i b → c.isOwn = true ∧ v = .ref b := fun b ⟨z1, c', z2, z3⟩ => by
    have z2 : (env.sl.set i c)[i]? = some c' := z2
    rw [List.getElem?_set_self hi] at z1
    rw [List.getElem?_set_self hi'] at z2
    cases z2
    exact ⟨z3, by cases z1; rfl⟩
  refine ⟨by simp [En.setC, I.len], fun j c' ec => ?_, fun j l b o1 o2 => ?_, I.gh⟩
  · have ec : (env.sl.set i c)[j]? = some c' := ec
    by_cases hj : j = i
    · subst hj
      rw [List.getElem?_set_self hi'] at ec
      cases ec
      rw [List.getElem?_set_self hi]
      exact r
    · rw [List.getElem?_set_ne (Ne.symm hj)] at ec ⊢
      exact I.get ec
  · by_cases hj : j = i
    · by_cases hl : l = i
      · exact hj.trans hl.symm
      · subst hj
        obtain ⟨n1, n2⟩ := new b o1
        exact absurd (old l b hl o2) (hn n1 l b n2)
    · by_cases hl : l = i
      · subst hl
        obtain ⟨n1, n2⟩ := new b o2
        exact absurd (old j b hj o1) (hn n1 j b n2)
      · exact I.dist j l b (old j b hj o1) (old l b hl o2)
theorem asg_ok {i : Nat} {r : R} {Q : En → Prop} {P : Prop} (I : Rl Γ κ env σ H) (hi : i < σ.length) (h : RelR Γ κ H env σ v r) (q : asgR i r env Q)
    (k : ∀ κ' env', Ext κ H κ' H → Rl Γ κ' env' (σ.set i (some v)) H → Q env' → P) : P := by
  cases r with
  | d d => exact k κ _ (.refl ..) (I.assign (c := .d d) hi ⟨v, rfl, h⟩ fun z => nomatch z) q
  | own ds =>
    obtain ⟨a, rfl, h1, h2⟩ := h
    exact k κ _ (.refl ..) (I.assign (c := .own ds) hi ⟨a, rfl, h1⟩ fun _ j b e => by cases e; exact h2 j) q
  | dK ds =>
    obtain ⟨a, rfl, h1, h2⟩ := h
    exact k κ _ (.refl ..) (I.assign (c := .dK ds) hi ⟨a, rfl, h1⟩ fun _ j b e => by cases e; exact h2 j) q
  | dT ds =>
    obtain ⟨a, rfl, h1, h2⟩ := h
    exact k κ _ (.refl ..) (I.assign (c := .dT ds) hi ⟨a, rfl, h1⟩ fun _ j b e => by cases e; exact h2 j) q
  | nam j =>
    have q : fz (.nam j) env (fun d e1 => Q (e1.setC i (.d d))) := q
    refine fz_ok I h q fun κ1 d e1 x1 I1 h1 q1 => ?_
    exact k κ1 _ x1 (I1.assign (c := .d d) hi ⟨v, rfl, h1⟩ fun z => nomatch z) q1
abbrev PTG := D → En → (En → Prop) → Prop
abbrev PTGs := List D → En → (En → Prop) → Prop
/-- vs: the slots that may be stored -/
def Off (vs : List Nat) (σ σ' : Sl) : Prop := σ'.length = σ.length ∧ ∀ j, j ∉ vs → σ'[j]? = σ[j]?
theorem Off.refl (vs : List Nat) (σ : Sl) : Off vs σ σ := ⟨rfl, fun _ _ => rfl⟩
theorem Off.trans {vs : List Nat} {σ σ1 σ2 : Sl} (a : Off vs σ σ1) (b : Off vs σ1 σ2) : Off vs σ σ2 := ⟨b.1.trans a.1, fun j h => (b.2 j h).trans (a.2 j h)⟩
theorem Off.mono {vs ws : List Nat} {σ σ' : Sl} (a : Off vs σ σ') (h : ∀ j ∈ vs, j ∈ ws) : Off ws σ σ' := ⟨a.1, fun j hj => a.2 j fun z => hj (h j z)⟩
structure VG (Y : Fam) (tg : Expr) (vs : List Nat) (t : PTG) : Prop where
  ex : ∃ rd : TG, (∀ i, PG (Y.X i) tg rd) ∧ ∀ (Γ : Gm) (σ : Sl) (κ : Ka) (H : Hp) (env : En) (v : V) (d : D) (Q : En → Prop) (Q' : Sl → Hp → Prop), GK Y Γ → Rl Γ κ env σ H → Rep Γ.K Γ.cls κ H v d → t d env Q →
    (∀ σ' env', Off vs σ σ' → Rl Γ κ env' σ' H → Q env' → Q' σ' H) → rd v σ H Q'
def gName (i : Nat) : PTG := fun d e Q => i < e.sl.length ∧ Q (e.setC i (.d d))
theorem vg_name {i : Nat} {x : Str} (hN : ∀ j, (Y.X j).N.Nodup) (hi : ∀ j, (Y.X j).N[i]? = some x := by intro _; rfl) (hx : ∀ j, Loc (Y.X j).env.scope x := by first | exact fun _ => Or.inl rfl | exact fun _ => Or.inr rfl)
    (hf : ∀ j, (Y.X j).fn x = true ∨ (Y.X j).env.scope.names.lookup x = some .local := by first | exact fun _ => .inl rfl | exact fun _ => .inr rfl | assumption) : VG Y (.Name x pos) [i] (gName i) := by
  refine ⟨⟨L2.gName i, fun j => pg_name (hN j) (hi j) (hx j) (hf j), fun Γ σ κ H env v d Q Q' hK I r q k => ?_⟩⟩
  have hl : i < σ.length := by rw [I.len]; exact q.1
  refine k _ _ ⟨by simp, fun j hj => List.getElem?_set_ne (fun z => hj (by simp [z]))⟩ (I.assign (c := .d d) hl ⟨v, rfl, r⟩ fun z => nomatch z) q.2
def gNil : PTGs := fun ds e Q => ds = [] ∧ Q e
def gCons (t : PTG) (u : PTGs) : PTGs := fun ds e Q => match ds with
  | d :: r => t d e fun e' => u r e' Q
  | [] => False
def gTup (n : Nat) (t : PTGs) : PTG := fun d e Q => match d with
  | .tup ds => ds.length = n ∧ t ds e Q
  | _ => False
end
end Pu
set_option maxRecDepth 100000
set_option maxHeartbeats 4000000
namespace Pu
open PySem L2
section
variable {Γ : Gm} {κ κ' : Ka} {H H' : Hp} {env env' : En} {σ : Sl} {v : V} {st : Sto} {Y : Fam} {a b e : Expr} {es : List Expr} {ta tb te : PTE} {pos : Pos} {s : Stmt} {ss body : List Stmt} {t u : PTS}
def sNext : PTS := fun _ D e => D.nx e
def sSeq (t u : PTS) : PTS := fun x D e => t x { D with nx := u x D } e
theorem vss_nil : VSs Y [] sNext := ⟨⟨fun _ => tNext, fun _ => pss_nil, fun Γ σ κ H env D D' hK I q l => l.1 σ κ H env (.refl ..) I q⟩⟩
theorem vss_cons (h1 : VS Y s t) (h2 : VSs Y ss u) : VSs Y (s :: ss) (sSeq t u) := by
  obtain ⟨ra, pa, fa⟩ := h1.ex
  obtain ⟨rb, pb, fb⟩ := h2.ex
  refine ⟨⟨fun E => tSeq (ra E) (rb E), fun i => pss_cons (pa i) (pb i), fun Γ σ κ H env D D' hK I q l => ?_⟩⟩
  exact fa Γ σ κ H env { D with nx := u Γ.x D } { D' with nx := rb Γ.E D' } hK I q ⟨fun σ' κ' H' env' x I' q' => fb Γ σ' κ' H' env' D D' hK I' q' (l.ext x), l.2.1, l.2.2.1, l.2.2.2⟩
theorem vss_one (h1 : VS Y s t) : VSs Y [s] t := by
  obtain ⟨ra, pa, fa⟩ := h1.ex
  exact ⟨⟨ra, fun i => pss_one (pa i), fa⟩⟩
def sBreak : PTS := fun _ D e => D.bk e
def sCont : PTS := fun _ D e => D.ct e
def sDrop (te : PTE) : PTS := fun x D e => te x e fun _ e1 => D.nx e1
theorem vs_expr (he : VE Y e te) (hs : ∀ i, swapsWith e none pos.line (Y.X i).env = pure false := by intro _; rfl) : VS Y (.Expr e pos) (sDrop te) := by
  obtain ⟨ra, pa, fa⟩ := he.ex
  refine ⟨⟨fun E => tDrop (ra E), fun i => ps_expr (pa i) (hs i), fun Γ σ κ H env D D' hK I q l => ?_⟩⟩
  exact fa Γ σ κ H env _ _ hK I q fun v κ1 H1 r1 e1 x1 I1 h1 q1 => l.1 σ κ1 H1 e1 x1 I1 q1
/-- what is handed back -/
def retR (D : PEn) : R → En → Prop
  | .d d, e => D.rt (.d d) e
  | .own ds, e => D.rt (.own ds) e
  | .dK ds, e => D.rt (.dK ds) e
  | .dT ds, e => D.rt (.dT ds) e
  | .nam i, e => match e.sl[i]? with
    | some .un => False
    | some c => D.rt c e
    | none => False
def sRet (te : PTE) : PTS := fun x D e => te x e fun r e1 => retR D r e1
theorem vs_ret (he : VE Y e te) : VS Y (.Return (some e) pos) (sRet te) := by
  obtain ⟨ra, pa, fa⟩ := he.ex
  refine ⟨⟨fun E => tRet (ra E), fun i => ps_ret (pa i), fun Γ σ κ H env D D' hK I q l => ?_⟩⟩
  refine fa Γ σ κ H env _ _ hK I q fun v κ1 H1 r1 e1 x1 I1 h1 q1 => ?_
  cases r1 with
  | d d => exact l.2.1 v κ1 H1 (.d d) e1 x1 I1.gh h1 q1
  | own ds => obtain ⟨a, rfl, h1, _⟩ := h1; exact l.2.1 _ κ1 H1 (.own ds) e1 x1 I1.gh ⟨a, rfl, h1⟩ q1
  | dK ds => obtain ⟨a, rfl, h1, _⟩ := h1; exact l.2.1 _ κ1 H1 (.dK ds) e1 x1 I1.gh ⟨a, rfl, h1⟩ q1
  | dT ds => obtain ⟨a, rfl, h1, _⟩ := h1; exact l.2.1 _ κ1 H1 (.dT ds) e1 x1 I1.gh ⟨a, rfl, h1⟩ q1
  | nam i =>
    have h1 : σ[i]? = some (some v) := h1
    unfold retR at q1
    simp only at q1
    cases qe : e1.sl[i]? with
    | none => rw [qe] at q1; exact False.elim q1
    | some c =>
      have s := I1.get qe
      rw [qe] at q1
      cases c with
      | un => exact False.elim q1
      | d d => obtain ⟨w, g, r⟩ := s; rw [h1] at g; cases g; exact l.2.1 v κ1 H1 (.d d) e1 x1 I1.gh r q1
      | own ds => obtain ⟨w, g, r⟩ := s; rw [h1] at g; cases g; exact l.2.1 _ κ1 H1 (.own ds) e1 x1 I1.gh ⟨w, rfl, r⟩ q1
      | dK ds => obtain ⟨w, g, r⟩ := s; rw [h1] at g; cases g; exact l.2.1 _ κ1 H1 (.dK ds) e1 x1 I1.gh ⟨w, rfl, r⟩ q1
      | dT ds => obtain ⟨w, g, r⟩ := s; rw [h1] at g; cases g; exact l.2.1 _ κ1 H1 (.dT ds) e1 x1 I1.gh ⟨w, rfl, r⟩ q1
def sRetN : PTS := fun _ D e => D.rt (.d .non) e
def sIf (c : PTT) (t u : PTS) : PTS := fun x D e => c x e fun b e1 => if b = true then t x D e1 else u x D e1
theorem vs_if {c : Expr} {x y : List Stmt} {tc : PTT} (hc : VT Y c tc) (ha : VSs Y x t) (hb : VSs Y y u) : VS Y (.If c x y pos) (sIf tc t u) := by
  obtain ⟨rc, pc, fc⟩ := hc.ex
  obtain ⟨ra, pa, fa⟩ := ha.ex
  obtain ⟨rb, pb, fb⟩ := hb.ex
  refine ⟨⟨fun E => tIfS (rc E) (ra E) (rb E), fun i => ps_if (pc i) (pa i) (pb i), fun Γ σ κ H env D D' hK I q l => ?_⟩⟩
  refine fc Γ σ κ H env _ _ hK I q fun c κ1 H1 e1 x1 I1 q1 => ?_
  cases c with
  | true => exact fa Γ σ κ1 H1 e1 D D' hK I1 q1 (l.ext x1)
  | false => exact fb Γ σ κ1 H1 e1 D D' hK I1 q1 (l.ext x1)
def sAsg (i : Nat) (te : PTE) : PTS := fun x D e => te x e fun r e1 => i < e1.sl.length ∧ asgR i r e1 D.nx
theorem vs_set {i : Nat} {x : Str} {p' : Pos} (hN : ∀ j, (Y.X j).N.Nodup) (he : VE Y e te) (hi : ∀ j, (Y.X j).N[i]? = some x := by intro _; rfl) (hx : ∀ j, Loc (Y.X j).env.scope x := by first | exact fun _ => Or.inl rfl | exact fun _ => Or.inr rfl)
    (hs : ∀ j, swapsWith e (some (.Name x p')) pos.line (Y.X j).env = pure false := by intro _; rfl)
    (hf : ∀ j, (Y.X j).fn x = true ∨ (Y.X j).env.scope.names.lookup x = some .local := by first | exact fun _ => .inl rfl | exact fun _ => .inr rfl | assumption) : VS Y (.Assign [.Name x p'] e pos) (sAsg i te) := by
  obtain ⟨ra, pa, fa⟩ := he.ex
  refine ⟨⟨fun E => tAsg (ra E) (L2.gName i), fun j => ps_set (hN j) (hi j) (hx j) (pa j) (hs j) (hf j), fun Γ σ κ H env D D' hK I q l => ?_⟩⟩
  refine fa Γ σ κ H env _ _ hK I q fun v κ1 H1 r1 e1 x1 I1 h1 q1 => ?_
  exact asg_ok I1 (by rw [I1.len]; exact q1.1) h1 q1.2 fun κ2 e2 x2 I2 q2 => l.1 _ κ2 H1 e2 (x1.trans x2) I2 q2
/-- a target of names takes data -/
def sAsgG (g : PTG) (te : PTE) : PTS := fun x D e => te x e fun r e1 => fz r e1 fun d e2 => g d e2 D.nx
/-- a, b = x, y -/
def sPar (i j : Nat) (t : PTA) : PTS := fun x D e => t x e fun ds e1 => match ds with
  | [d1, d2] => i < e1.sl.length ∧ j < e1.sl.length ∧ D.nx ((e1.setC i (.d d1)).setC j (.d d2))
  | _ => False
theorem vs_par {i j : Nat} {x y : Str} {px py pt : Pos} {kt k2 pt2} {t : PTA} (hN : ∀ j, (Y.X j).N.Nodup) (ha : VA Y [a, b] t) (hij : i ≠ j := by decide) (hc : ∀ i, (Y.X i).calm = true := by intro _; rfl) (hi : ∀ k, (Y.X k).N[i]? = some x := by intro _; rfl) (hj : ∀ k, (Y.X k).N[j]? = some y := by intro _; rfl)
    (hx : ∀ k, (Y.X k).env.scope.names.lookup x = some .local := by intro _; rfl) (hy : ∀ k, (Y.X k).env.scope.names.lookup y = some .local := by intro _; rfl)
    (hw : ∀ k, swappedStores [.Tuple [.Name x px, .Name y py] kt pt] (.Tuple [a, b] k2 pt2) (Y.X k).env = pure (some [x, y]) := by intro _; rfl)
    (hs : ∀ k, swapsWithSole [.Tuple [.Name x px, .Name y py] kt pt] (.Tuple [a, b] k2 pt2) pos.line (Y.X k).env = pure false := by intro _; rfl) :
    VS Y (.Assign [.Tuple [.Name x px, .Name y py] kt pt] (.Tuple [a, b] k2 pt2) pos) (sPar i j t) := by
  obtain ⟨ra, pa, fa⟩ := ha.ex
  refine ⟨⟨fun E => tPar i j (ra E), fun k => ps_par (hc k) (hN k) (hi k) (hj k) hij (hx k) (hy k) (pa k) (hw k) (hs k), fun Γ σ κ H env D D' hK I q l => ?_⟩⟩
  refine fa Γ σ κ H env _ _ hK I q fun vs κ1 H1 ds e1 x1 I1 h1 q1 => ?_
  match ds, vs, h1, q1 with
  | [d1, d2], _, .cons (v := v1) r1 (.cons (v := v2) r2 .nil), q1 =>
    refine ⟨v1, v2, rfl, l.1 _ κ1 H1 _ x1 ?_ q1.2.2⟩
    have l1 : i < σ.length := by rw [I1.len]; exact q1.1
    have l2 : j < σ.length := by rw [I1.len]; exact q1.2.1
    have J := I1.assign (c := .d d1) l1 ⟨v1, rfl, r1⟩ fun z => nomatch z
    exact J.assign (c := .d d2) (by simpa using l2) ⟨v2, rfl, r2⟩ fun z => nomatch z
def sWhile (c : PTT) (tb : PTS) : PTS := fun x D e => ∃ (W : En → Prop) (m : En → Nat), W e ∧ ∀ e, W e →
  c x e fun b e1 => if b = true then tb x { D with nx := fun e' => W e' ∧ m e' < m e, ct := fun e' => W e' ∧ m e' < m e, bk := D.nx } e1 else D.nx e1
theorem vs_while {c : Expr} {tc : PTT} (hp : ∀ i, PassesOwn (model (Y.X i).prog (Y.X i).w) (Y.X i).A (Y.X i).env (Y.X i).xe) (hc : VT Y c tc) (hb : VSs Y body t) : VS Y (.While c body [] pos) (sWhile tc t) := by
  obtain ⟨rc, pc, fc⟩ := hc.ex
  obtain ⟨rb, pb, fb⟩ := hb.ex
  refine ⟨⟨fun E => tWhile (rc E) (rb E), fun i => ps_while (hp i) (pc i) (pb i), fun Γ σ κ H env D D' hK I q l => ?_⟩⟩
  obtain ⟨W, m, w0, turn⟩ := q
  refine ⟨fun n σ1 H1 => ∃ κ1 e1, Ext κ H κ1 H1 ∧ Rl Γ κ1 e1 σ1 H1 ∧ W e1 ∧ n = m e1, ⟨_, κ, env, .refl .., I, w0, rfl⟩, ?_⟩
  rintro n σ1 H1 ⟨κ1, e1, x1, I1, w1, rfl⟩
  refine fc Γ σ1 κ1 H1 e1 _ _ hK I1 (turn e1 w1) fun b κ2 H2 e2 x2 I2 q2 => ?_
  have x12 := x1.trans x2
  cases b with
  | true =>
    rw [if_pos rfl] at q2 ⊢
    refine ⟨fun σ' H' => ∃ κ' e', Ext κ H κ' H' ∧ Rl Γ κ' e' σ' H' ∧ W e' ∧ m e' < m e1, fun σ' H' ⟨κ', e', x', I', w', lt⟩ => ⟨_, lt, κ', e', x', I', w', rfl⟩, ?_⟩
    refine fb Γ σ1 κ2 H2 e2 _ _ hK I2 q2 ⟨fun σ' κ' H' e' x' I' q' => ⟨κ', e', x12.trans x', I', q'⟩, fun v κ' H' c e' x' g r q' => l.2.1 v κ' H' c e' (x12.trans x') g r q', fun σ' κ' H' e' x' I' q' => l.1 σ' κ' H' e' (x12.trans x') I' q', fun σ' κ' H' e' x' I' q' => ⟨κ', e', x12.trans x', I', q'⟩⟩
  | false =>
    rw [if_neg Bool.false_ne_true] at q2 ⊢
    exact l.1 σ1 κ2 H2 e2 x12 I2 q2
def Src (K : PySem.W.Frag) (cl : Cl) (κ : Ka) (H : Hp) (J : It) (items : List D) : Prop := ∀ (Γ : Gm), Γ.K = K → Γ.cls = cl → ∀ (σ : Sl) (κ1 : Ka) (H1 : Hp) (env : En) (i : Nat), Rl Γ κ1 env σ H1 → Ext κ H κ1 H1 →
  (∀ d, items[i]? = some d → J.go i H1 ∧ ∀ v H', J.yld i H1 v H' → ∃ κ', Ext κ1 H1 κ' H' ∧ Rl Γ κ' env σ H' ∧ Rep Γ.K Γ.cls κ' H' v d) ∧ (items.length = i → J.stop i H1)
abbrev PTI := PX → En → (List D → En → Prop) → Prop
structure VI (Y : Fam) (tg it : Expr) (t : PTI) : Prop where
  ex : ∃ rd : XK → TI, (∀ i, PI (Y.X i) tg it (rd (Y.E i))) ∧ ∀ (Γ : Gm) (σ : Sl) (κ : Ka) (H : Hp) (env : En) (Q : List D → En → Prop) (Q' : It → Hp → Prop), GK Y Γ → Rl Γ κ env σ H → t Γ.x env Q →
    (∀ J κ' H' items env', Ext κ H κ' H' → Rl Γ κ' env' σ H' → Src Γ.K Γ.cls κ' H' J items → Q items env' → Q' J H') → rd Γ.E σ H Q'
theorem Src.ext {K : PySem.W.Frag} {cl : Cl} {J : It} {items : List D} {κ1 : Ka} {H1 : Hp} (h : Src K cl κ H J items) (x : Ext κ H κ1 H1) : Src K cl κ1 H1 J items := fun Γ hK hc σ κ2 H2 env i I x2 => h Γ hK hc σ κ2 H2 env i I (x.trans x2)
theorem src_list {a : Addr} {vs : List V} {ds : List D} (hk : κ a = some .frz) (ha : H a = some (.lst vs)) (r : RepL Γ.K Γ.cls κ H vs ds) : Src Γ.K Γ.cls κ H (Itl Γ.K a) ds := by
  intro Γ2 hK hc
  rw [← hK, ← hc] at r
  rw [← hK]
  intro σ κ1 H1 env i I x
  have h1 : SqL Γ2.K H1 a vs := SqL.of ((x.2 a hk).trans ha)
  refine ⟨fun d e => ?_, fun e => ⟨vs, h1, by rw [r.length, e]; exact Nat.le_refl _⟩⟩
  obtain ⟨v, e1, r1⟩ := r.get e
  refine ⟨⟨vs, v, h1, e1⟩, fun w H' y => ?_⟩
  obtain ⟨rfl, y⟩ := y
  have := y vs h1
  rw [e1] at this
  cases this
  exact ⟨κ1, .refl .., I, r1.mono x⟩
theorem src_tup {a : Addr} {vs : List V} {ds : List D} (h : Rep Γ.K Γ.cls κ H (.ref a) (.tup ds)) : Src Γ.K Γ.cls κ H (Itt Γ.K a) ds := by
  intro Γ2 hK hc
  rw [← hK, ← hc] at h
  rw [← hK]
  intro σ κ1 H1 env i I x
  obtain ⟨b, vs, e0, h1, _, r⟩ := (h.mono x).sqT
  cases e0
  refine ⟨fun d e => ?_, fun e => ⟨vs, h1, by rw [r.length, e]; exact Nat.le_refl _⟩⟩
  obtain ⟨v, e1, r1⟩ := r.get e
  refine ⟨⟨vs, v, h1, e1⟩, fun w H' y => ?_⟩
  obtain ⟨rfl, y⟩ := y
  have := y vs h1
  rw [e1] at this
  cases this
  exact ⟨κ1, .refl .., I, r1⟩
/-- a text, sign by sign -/
def signs (s : List Nat) : List D := s.map fun c => .str [c]
theorem src_str {K : PySem.W.Frag} {cl : Cl} {s : List Nat} (hs : SOk s) : Src K cl κ H (Its ⟨s.toArray⟩) (signs s) := by
  intro Γ2 hK hc σ κ1 H1 env i I x
  refine ⟨fun d e => ?_, fun e => ?_⟩
  · unfold signs at e
    rw [List.getElem?_map] at e
    cases q : s[i]? with
    | none => rw [q] at e; cases e
    | some c =>
      rw [q] at e
      cases e
      refine ⟨?_, fun v H' y => ?_⟩
      · show i < s.toArray.size
        rw [List.size_toArray]
        exact (List.getElem?_eq_some_iff.mp q).1
      · obtain ⟨rfl, c', e1, rfl⟩ := y
        have e1 : s.toArray[i]? = some c' := e1
        rw [List.getElem?_toArray, q] at e1
        cases e1
        exact ⟨κ1, .refl .., I, .str _ (hs.one (List.mem_of_getElem? q))⟩
  · show s.toArray.size ≤ i
    rw [List.size_toArray, ← e]
    unfold signs
    rw [List.length_map]
    exact Nat.le_refl _
/-- range -/
def rngI (lo : Int) (n : Nat) : List D := (List.range n).map fun (i : Nat) => .int (lo + i)
theorem src_range {K : PySem.W.Frag} {cl : Cl} {lo : Int} {n : Nat} : Src K cl κ H (Itr lo n) (rngI lo n) := by
  intro Γ2 hK hc σ κ1 H1 env i I x
  refine ⟨fun d e => ?_, fun e => ?_⟩
  · unfold rngI at e
    rw [List.getElem?_map] at e
    by_cases hi : i < n
    · rw [List.getElem?_range hi] at e
      cases e
      refine ⟨hi, fun v H' y => ?_⟩
      obtain ⟨rfl, rfl⟩ := y
      exact ⟨κ1, .refl .., I, .int _⟩
    · rw [List.getElem?_eq_none (by simpa using hi)] at e
      cases e
  · show n ≤ i
    rw [← e]
    unfold rngI
    simp
def pRng1 : List D → (List D → Prop) → Prop
  | [.int j], Q => (-(2 ^ 62) ≤ j ∧ j < 2 ^ 62) ∧ Q (rngI 0 j.toNat)
  | _, _ => False
def pRng2 : List D → (List D → Prop) → Prop
  | [.int i, .int j], Q => (-(2 ^ 62) ≤ i ∧ i < 2 ^ 62 ∧ -(2 ^ 62) ≤ j ∧ j < 2 ^ 62) ∧ Q (rngI i (j - i).toNat)
  | _, _ => False
def iPure (p : List D → (List D → Prop) → Prop) (t : PTR) : PTI := fun x e Q => t x e fun rs e1 => match rvL rs e1 with
  | some ds => p ds (fun l => Q l e1)
  | none => False
theorem vi_range1 {tg : Expr} {p : Pos} {t : PTR} (hm : ∀ i, (Y.X i).mg "range" = none) (ha : VR Y [a] t) (hg : ∀ i, Gl (Y.X i) "range" := by intro _; rfl) (hs : ∀ X : Cx, starEach [a] X.env = [(false, eval a X.env)] := by intro _; rfl) : VI Y tg (.Call (.Name "range" p) [a] [] pos) (iPure pRng1 t) := by
  obtain ⟨ra, pa, fa⟩ := ha.ex
  refine ⟨⟨fun E => iRng1 (ra E), fun i => pi_range1 (hg i) (hm i) (pa i) (hs _), fun Γ σ κ H env Q Q' hK I q k => ?_⟩⟩
  refine fa Γ σ κ H env _ _ hK I q fun vs κ1 H1 rs e1 x1 I1 h1 q1 => ?_
  cases e : rvL rs e1 with
  | none => rw [e] at q1; exact False.elim q1
  | some ds =>
    rw [e] at q1
    have rt := rvL_ok I1 h1 e
    match ds, vs, rt, q1 with
    | [.int j], _, .cons h .nil, q1 =>
      cases h
      exact ⟨j, rfl, q1.1.1, q1.1.2, k _ κ1 H1 _ e1 x1 I1 src_range q1.2⟩
theorem vi_range2 {tg : Expr} {p : Pos} {t : PTR} (hm : ∀ i, (Y.X i).mg "range" = none) (ha : VR Y [a, b] t) (hg : ∀ i, Gl (Y.X i) "range" := by intro _; rfl) (hs : ∀ X : Cx, starEach [a, b] X.env = [(false, eval a X.env), (false, eval b X.env)] := by intro _; rfl) (hs2 : ∀ X : Cx, starEach [b] X.env = [(false, eval b X.env)] := by intro _; rfl) : VI Y tg (.Call (.Name "range" p) [a, b] [] pos) (iPure pRng2 t) := by
  obtain ⟨ra, pa, fa⟩ := ha.ex
  refine ⟨⟨fun E => iRng2 (ra E), fun i => pi_range2 (hg i) (hm i) (pa i) (hs _) (hs2 _), fun Γ σ κ H env Q Q' hK I q k => ?_⟩⟩
  refine fa Γ σ κ H env _ _ hK I q fun vs κ1 H1 rs e1 x1 I1 h1 q1 => ?_
  cases e : rvL rs e1 with
  | none => rw [e] at q1; exact False.elim q1
  | some ds =>
    rw [e] at q1
    have rt := rvL_ok I1 h1 e
    match ds, vs, rt, q1 with
    | [.int i, .int j], _, .cons h (.cons h' .nil), q1 =>
      cases h
      cases h'
      exact ⟨i, j, rfl, q1.1, k _ κ1 H1 _ e1 x1 I1 src_range q1.2⟩
def forR (g : PTG) (tb : PTS) (x : PX) (P : PEn) : List D → En → Prop
  | [], e => P.nx e
  | d :: ds, e => g d e fun e' => tb x { P with nx := forR g tb x P ds, ct := forR g tb x P ds, bk := P.nx } e'
def sFor (ti : PTI) (g : PTG) (tb : PTS) : PTS := fun x D e => ti x e fun items e1 => forR g tb x D items e1
theorem vs_for {tg it : Expr} {ti : PTI} {g : PTG} {vs : List Nat} (hp : ∀ i, PassesOwn (model (Y.X i).prog (Y.X i).w) (Y.X i).A (Y.X i).env (Y.X i).xe) (hi : VI Y tg it ti) (hg : VG Y tg vs g) (hb : VSs Y body t)
    (hc : ∀ i, (Y.X i).calm = true := by intro _; rfl) (hs : ∀ (X : Cx) x, foldedSetIterable it X.env x = pure x := by intro _ _; rfl) : VS Y (.For tg it body [] pos) (sFor ti g t) := by
  obtain ⟨ri, pi, fi⟩ := hi.ex
  obtain ⟨rg, pg, fg⟩ := hg.ex
  obtain ⟨rb, pb, fb⟩ := hb.ex
  refine ⟨⟨fun E => tFor (ri E) rg (rb E), fun i => ps_for (hp i) (hc i) (pi i) (pg i) (pb i) (hs _), fun Γ σ κ H env D D' hK I q l => ?_⟩⟩
  refine fi Γ σ κ H env _ _ hK I q fun J κ1 H1 items e1 x1 I1 src q1 => ?_
  refine ⟨fun i m σ2 H2 => ∃ κ2 e2, Ext κ1 H1 κ2 H2 ∧ Rl Γ κ2 e2 σ2 H2 ∧ m = items.length - i ∧ i ≤ items.length ∧ forR g t Γ.x D (items.drop i) e2, ⟨_, κ1, e1, .refl .., I1, rfl, Nat.zero_le _, q1⟩, ?_⟩
  rintro i m σ2 H2 ⟨κ2, e2, x2, I2, rfl, hi, q2⟩
  obtain ⟨s1, s2⟩ := src Γ rfl rfl σ2 κ2 H2 e2 i I2 x2
  by_cases hlt : i < items.length
  · have hd : items.drop i = items[i] :: items.drop (i + 1) := List.drop_eq_getElem_cons hlt
    rw [hd] at q2
    obtain ⟨go, yl⟩ := s1 items[i] (List.getElem?_eq_getElem hlt)
    refine .inr ⟨go, fun σ' H' => ∃ κ' e', Ext κ1 H1 κ' H' ∧ Rl Γ κ' e' σ' H' ∧ forR g t Γ.x D (items.drop (i + 1)) e', fun σ' H' ⟨κ', e', x', I', q'⟩ => ⟨items.length - (i + 1), by omega, κ', e', x', I', rfl, hlt, q'⟩, fun v H' y => ?_⟩
    obtain ⟨κ3, x3, I3, r3⟩ := yl v H' y
    refine fg Γ σ2 κ3 H' e2 v _ _ _ hK I3 r3 q2 fun σ4 e4 _ I4 q4 => ?_
    have x13 := x2.trans x3
    exact fb Γ σ4 κ3 H' e4 _ _ hK I4 q4 ⟨fun σ' κ' H' e' x' I' q' => ⟨κ', e', x13.trans x', I', q'⟩, fun v κ' H' c e' x' gg r q' => l.2.1 v κ' H' c e' (x1.trans (x13.trans x')) gg r q', fun σ' κ' H' e' x' I' q' => l.1 σ' κ' H' e' (x1.trans (x13.trans x')) I' q', fun σ' κ' H' e' x' I' q' => ⟨κ', e', x13.trans x', I', q'⟩⟩
  · have e : i = items.length := by omega
    subst e
    rw [List.drop_length] at q2
    exact .inl ⟨s2 rfl, l.1 σ2 κ2 H2 e2 (x1.trans x2) I2 q2⟩
end
end Pu
set_option maxRecDepth 100000
set_option maxHeartbeats 4000000
namespace Pu
open PySem L2
section
variable {Γ Γ' : Gm} {κ κ' : Ka} {H H' : Hp} {env env' : En} {σ : Sl} {v : V} {st : Sto} {Y : Fam} {a b e : Expr} {es : List Expr} {ta tb te : PTE} {pos : Pos}
theorem OwnC.switch {a : Addr} {c : C} (hK : Γ'.K = Γ.K) (hc : Γ'.cls = Γ.cls) (h0 : Γ'.H0 a = none) (h : OwnC Γ κ H a c) : OwnC Γ' κ H a c := by
  cases c with
  | own ds => obtain ⟨h1, _, vs, h2, h3, h4⟩ := h; exact ⟨h1, h0, vs, h2, h3, by rw [hK, hc]; exact h4⟩
  | dK ds => obtain ⟨h1, _, vs, h2, h4⟩ := h; exact ⟨h1, h0, vs, h2, by rw [hK, hc]; exact h4⟩
  | dT ds => obtain ⟨h1, _, vs, h2, h4⟩ := h; exact ⟨h1, h0, vs, h2, by rw [hK, hc]; exact h4⟩
  | _ => exact h.elim
theorem ObjR.switch {a : Addr} {so : SO} (hK : Γ'.K = Γ.K) (hc : Γ'.cls = Γ.cls) (h : ObjR Γ κ H a so) : ObjR Γ' κ H a so := by
  cases so with
  | lst ds => obtain ⟨vs, h1, h2, h3⟩ := h; exact ⟨vs, h1, h2, by rw [hK, hc]; exact h3⟩
  | dK ds => obtain ⟨vs, h1, h3⟩ := h; exact ⟨vs, h1, by rw [hK, hc]; exact h3⟩
  | dT ds => obtain ⟨vs, h1, h3⟩ := h; exact ⟨vs, h1, by rw [hK, hc]; exact h3⟩
  | ins c fs => obtain ⟨dx, vs, h1, h3⟩ := h; exact ⟨dx, vs, by rw [hc]; exact h1, by rw [hK, hc]; exact h3⟩
  | exc c ds => exact h
theorem Rl.switch (hK : Γ'.K = Γ.K) (hc : Γ'.cls = Γ.cls) (I : Rl Γ κ env σ H) (own : ∀ i a, OwnS env σ i a → Γ'.H0 a = none) (g : Gh Γ' κ env.st H) : Rl Γ' κ env σ H := by
  refine ⟨I.len, fun i c ec => ?_, I.dist, g⟩
  have s := I.get ec
  cases h : c.isOwn with
  | true =>
    obtain ⟨a, e1, ho⟩ := s.own h
    exact .mk e1 (ho.switch hK hc (own i a ⟨e1, c, ec, h⟩))
  | false =>
    cases c with
    | un => trivial
    | d d => obtain ⟨v, e1, r⟩ := s; exact ⟨v, e1, by rw [hK, hc]; exact r⟩
    | _ => cases h
/-- one address more stands still; no exception leaves -/
def Gm.prot (Γ : Gm) (D : Addr) (o : HO) : Gm := { Γ with H0 := upd Γ.H0 D o, E := E0, x := fun _ _ => False }
theorem Rl.prot {D : Addr} {o : HO} (I : Rl Γ κ env σ H) (h : H D = some o) (hk : κ D = none) (ho : ∀ i, ¬ OwnS env σ i D) : Rl (Γ.prot D o) κ env σ H := by
  have nk : Γ.k0 D = none := by
    cases q : Γ.k0 D with
    | none => rfl
    | some x => have := I.gh.sub D x q; rw [hk] at this; cases this
  have g := I.gh
  refine Rl.switch (Γ := Γ) (Γ' := Γ.prot D o) rfl rfl I (fun i a hs => ?_) ⟨g.sub, fun a x e => ?_, g.trk, fun a e => ?_, g.box, fun a k e => ?_, g.inj, fun a u e hk' => ?_, g.tabs⟩
  · have hne : a ≠ D := fun z => ho i (z ▸ hs)
    show upd Γ.H0 D o a = none
    rw [upd_ne hne]
    obtain ⟨c, _, hc⟩ := I.ownS hs
    exact hc.facts.2.1
  · have hne : a ≠ D := fun q => by rw [q, hk] at e; cases e
    rcases g.new a x e with z | z | ⟨z1, vs, z⟩
    · exact .inl z
    · refine .inr (.inl ?_)
      show upd Γ.H0 D o a = none
      rw [upd_ne hne]
      exact z
    · refine .inr (.inr ⟨z1, vs, ?_⟩)
      show upd Γ.H0 D o a = _
      rw [upd_ne hne]
      exact z
  · by_cases ha : a = D
    · rw [ha, h]; simp
    · have e : upd Γ.H0 D o a ≠ none := e
      rw [upd_ne ha] at e
      exact g.trk0 a e
  · obtain ⟨so, h1, h2⟩ := g.obj a k e
    exact ⟨so, h1, h2.switch rfl rfl⟩
  · have e : upd Γ.H0 D o a = some u := e
    by_cases ha : a = D
    · subst ha
      rw [upd_same] at e
      cases e
      exact h
    · rw [upd_ne ha] at e
      exact g.base a u e hk'
theorem Rl.unprot {D : Addr} {o : HO} (I : Rl (Γ.prot D o) κ env σ H) (nk : Γ.k0 D = none) (h0 : Γ.H0 D = none) (hot : ∀ vs, o ≠ .tup vs := by intro _ z; cases z) : Rl Γ κ env σ H ∧ κ D = none ∧ H D = some o ∧ ∀ i, ¬ OwnS env σ i D := by
  have g := I.gh
  have hD : (Γ.prot D o).H0 D = some o := upd_same
  have kD : κ D = none := by
    cases q : κ D with
    | none => rfl
    | some x =>
      rcases g.new D x q with z | z | ⟨_, vs, z⟩
      · have z : Γ.k0 D = some x := z
        rw [nk] at z; cases z
      · rw [hD] at z; cases z
      · rw [hD] at z; exact (hot vs (Option.some.inj z)).elim
  have ho : ∀ i, ¬ OwnS env σ i D := fun i hs => by
    obtain ⟨c, _, hc⟩ := I.ownS hs
    have := hc.facts.2.1
    rw [hD] at this; cases this
  have low : ∀ a, (Γ.prot D o).H0 a = none → Γ.H0 a = none := fun a z => by
    by_cases ha : a = D
    · rw [ha]; exact h0
    · have z : upd Γ.H0 D o a = none := z
      rw [upd_ne ha] at z; exact z
  have up : ∀ a u, Γ.H0 a = some u → (Γ.prot D o).H0 a = some u := fun a u z => by
    show upd Γ.H0 D o a = some u
    rw [upd_ne (fun q => by rw [q, h0] at z; cases z)]; exact z
  refine ⟨Rl.switch (Γ := Γ.prot D o) (Γ' := Γ) rfl rfl I (fun i a hs => ?_) ⟨g.sub, fun a x e => ?_, g.trk, fun a e => ?_, g.box, fun a k e => ?_, g.inj, fun a u e hk' => g.base a u (up a u e) hk', g.tabs⟩, kD, g.base D o hD (.inl nk), ho⟩
  · obtain ⟨c, _, hc⟩ := I.ownS hs
    exact low a hc.facts.2.1
  · rcases g.new a x e with z | z | ⟨z1, vs, z⟩
    · exact .inl z
    · exact .inr (.inl (low a z))
    · refine .inr (.inr ⟨z1, vs, ?_⟩)
      have z : upd Γ.H0 D o a = some (.tup vs) := z
      rw [upd_ne (fun q => by rw [q, kD] at e; cases e)] at z
      exact z
  · refine g.trk0 a ?_
    cases q : Γ.H0 a with
    | none => exact absurd q e
    | some u => rw [up a u q]; simp
  · obtain ⟨so, h1, h2⟩ := g.obj a k e
    exact ⟨so, h1, h2.switch rfl rfl⟩
def Fam.blk (Y : Fam) (scope : Scope) : Fam where
  ι := Y.ι × Shared × Hp × Addr × List (Str × Addr) × List Addr
  X := fun p => (Y.X p.1).blk p.2.1 p.2.2.1 scope (compEnvC scope p.2.2.2.2.1 p.2.2.2.1 (Y.X p.1).env) p.2.2.2.2.2
  E := fun _ => E0
  K := Y.K
  hK := fun p => Y.hK p.1
  cls := Y.cls
  flds := Y.flds
def wipeC (l : List C) : List Nat → List C
  | [] => l
  | v :: vs => (wipeC l vs).set v .un
def wipeE (vs : List Nat) (e : En) : En := ⟨wipeC e.sl vs, e.st⟩
def restC (old : List C) (l : List C) : List Nat → List C
  | [] => l
  | v :: vs => (restC old l vs).set v (old.getD v .un)
def restE (vs : List Nat) (old e : En) : En := ⟨restC old.sl e.sl vs, e.st⟩
def plainC (l : List C) : List Nat → Bool
  | [] => true
  | v :: vs => (match l.getD v .un with | .d _ => true | .un => true | _ => false) && plainC l vs
theorem wipeC_length (l : List C) : ∀ vs, (wipeC l vs).length = l.length
  | [] => rfl
  | v :: vs => by unfold wipeC; rw [List.length_set, wipeC_length l vs]
theorem restC_length (old l : List C) : ∀ vs, (restC old l vs).length = l.length
  | [] => rfl
  | v :: vs => by unfold restC; rw [List.length_set, restC_length old l vs]
theorem wipeC_get {l : List C} {i : Nat} : ∀ {vs : List Nat}, (wipeC l vs)[i]? = if i ∈ vs then l[i]?.map (fun _ => C.un) else l[i]?
  | [] => by simp [wipeC]
  | v :: vs => by
    unfold wipeC
    by_cases hi : v = i
    · subst hi
      rw [if_pos (by simp)]
      by_cases hl : v < l.length
      · rw [List.getElem?_set_self (by rw [wipeC_length]; exact hl), List.getElem?_eq_getElem hl]; rfl
      · rw [List.getElem?_eq_none (by rw [List.length_set, wipeC_length]; omega), List.getElem?_eq_none (by omega)]; rfl
    · rw [List.getElem?_set_ne hi, wipeC_get (vs := vs)]
      have : i ∈ v :: vs ↔ i ∈ vs := by simp [Ne.symm hi]
      by_cases h : i ∈ vs
      · rw [if_pos h, if_pos (this.mpr h)]
      · rw [if_neg h, if_neg (fun z => h (this.mp z))]
theorem restC_get {old l : List C} {i : Nat} : ∀ {vs : List Nat}, (restC old l vs)[i]? = if i ∈ vs then l[i]?.map (fun _ => old.getD i .un) else l[i]?
  | [] => by simp [restC]
  | v :: vs => by
    unfold restC
    by_cases hi : v = i
    · subst hi
      rw [if_pos (by simp)]
      by_cases hl : v < l.length
      · rw [List.getElem?_set_self (by rw [restC_length]; exact hl), List.getElem?_eq_getElem hl]; rfl
      · rw [List.getElem?_eq_none (by rw [List.length_set, restC_length]; omega), List.getElem?_eq_none (by omega)]; rfl
    · rw [List.getElem?_set_ne hi, restC_get (vs := vs)]
      have : i ∈ v :: vs ↔ i ∈ vs := by simp [Ne.symm hi]
      by_cases h : i ∈ vs
      · rw [if_pos h, if_pos (this.mpr h)]
      · rw [if_neg h, if_neg (fun z => h (this.mp z))]
theorem wipe_get {σ : Sl} {i : Nat} : ∀ {vs : List Nat}, (L2.wipe σ vs)[i]? = if i ∈ vs then σ[i]?.map (fun _ => none) else σ[i]?
  | [] => by simp [L2.wipe]
  | v :: vs => by
    unfold L2.wipe
    by_cases hi : v = i
    · subst hi
      rw [if_pos (by simp)]
      by_cases hl : v < σ.length
      · rw [List.getElem?_set_self (by rw [wipe_length]; exact hl), List.getElem?_eq_getElem hl]; rfl
      · rw [List.getElem?_eq_none (by rw [List.length_set, wipe_length]; omega), List.getElem?_eq_none (by omega)]; rfl
    · rw [List.getElem?_set_ne hi, wipe_get (vs := vs)]
      have : i ∈ v :: vs ↔ i ∈ vs := by simp [Ne.symm hi]
      by_cases h : i ∈ vs
      · rw [if_pos h, if_pos (this.mpr h)]
      · rw [if_neg h, if_neg (fun z => h (this.mp z))]
/-- off vs both are the same -/
theorem wipe_off {vs : List Nat} {σ σ' : Sl} (o : Off vs (L2.wipe σ vs) σ') : L2.wipe σ' vs = L2.wipe σ vs := by
  apply List.ext_getElem?
  intro i
  rw [wipe_get, wipe_get]
  by_cases h : i ∈ vs
  · rw [if_pos h, if_pos h]
    have l := o.1
    rw [wipe_length] at l
    by_cases hl : i < σ.length
    · rw [List.getElem?_eq_getElem hl, List.getElem?_eq_getElem (show i < σ'.length by omega)]; rfl
    · rw [List.getElem?_eq_none (by omega), List.getElem?_eq_none (by omega)]
  · rw [if_neg h, if_neg h, o.2 i h, wipe_get, if_neg h]
theorem OwnS.unwipe {vs : List Nat} {i : Nat} {a : Addr} (h : OwnS (wipeE vs env) (L2.wipe σ vs) i a) : OwnS env σ i a := by
  obtain ⟨z1, c, z2, z3⟩ := h
  have z2 : (wipeC env.sl vs)[i]? = some c := z2
  rw [wipeC_get] at z2
  rw [wipe_get] at z1
  by_cases h : i ∈ vs
  · rw [if_pos h] at z2
    cases q : env.sl[i]? with
    | none => rw [q] at z2; cases z2
    | some c' => rw [q] at z2; cases z2; cases z3
  · rw [if_neg h] at z1 z2
    exact ⟨z1, c, z2, z3⟩
theorem Rl.wipe {vs : List Nat} (I : Rl Γ κ env σ H) : Rl Γ κ (wipeE vs env) (L2.wipe σ vs) H := by
  have sub : ∀ i a, OwnS (wipeE vs env) (L2.wipe σ vs) i a → OwnS env σ i a := fun i a h => h.unwipe
  refine ⟨by rw [wipe_length, I.len]; exact (wipeC_length _ _).symm, fun i c ec => ?_, fun i j a h1 h2 => I.dist i j a (sub i a h1) (sub j a h2), I.gh⟩
  have ec : (wipeC env.sl vs)[i]? = some c := ec
  rw [wipeC_get] at ec
  rw [wipe_get]
  by_cases h : i ∈ vs
  · rw [if_pos h] at ec
    cases q : env.sl[i]? with
    | none => rw [q] at ec; cases ec
    | some c' => rw [q] at ec; cases ec; trivial
  · rw [if_neg h] at ec ⊢
    exact I.get ec
theorem plainC_at {l : List C} : ∀ {ws : List Nat}, plainC l ws = true → ∀ i ∈ ws, l.getD i .un = .un ∨ ∃ d, l.getD i .un = .d d
  | [], _, i, hi => by cases hi
  | w :: ws, h, i, hi => by
    unfold plainC at h
    rw [Bool.and_eq_true] at h
    rcases List.mem_cons.mp hi with rfl | hi
    · cases q : l.getD i .un with
      | un => exact .inl rfl
      | d d => exact .inr ⟨d, rfl⟩
      | own _ => rw [q] at h; cases h.1
      | dK _ => rw [q] at h; cases h.1
      | dT _ => rw [q] at h; cases h.1
    · exact plainC_at h.2 i hi
theorem OwnS.unrest {vs : List Nat} {e0 : En} {i : Nat} {a : Addr} (hp : plainC e0.sl vs = true) (h : OwnS (restE vs e0 env) σ i a) : OwnS env (L2.wipe σ vs) i a := by
  obtain ⟨z1, c, z2, z3⟩ := h
  have z2 : (restC e0.sl env.sl vs)[i]? = some c := z2
  rw [restC_get] at z2
  by_cases h : i ∈ vs
  · rw [if_pos h] at z2
    cases q : env.sl[i]? with
    | none => rw [q] at z2; cases z2
    | some c' =>
      rw [q] at z2
      cases z2
      rcases plainC_at hp i h with z | ⟨d, z⟩ <;> (rw [z] at z3; cases z3)
  · rw [if_neg h] at z2
    exact ⟨by rw [wipe_get, if_neg h]; exact z1, c, z2, z3⟩
/-- the block's names as they were ahead -/
theorem Rl.rest {vs : List Nat} {e0 : En} {κ0 : Ka} {H0 : Hp} (I0 : Rl Γ κ0 e0 σ H0) (hp : plainC e0.sl vs = true) (x : Ext κ0 H0 κ H) (I : Rl Γ κ env (L2.wipe σ vs) H) : Rl Γ κ (restE vs e0 env) σ H := by
  have pl := fun i hi => plainC_at hp i hi
  have hl : env.sl.length = σ.length := by rw [← I.len, wipe_length]
  have sub : ∀ i a, OwnS (restE vs e0 env) σ i a → OwnS env (L2.wipe σ vs) i a := fun i a h => h.unrest hp
  refine ⟨by rw [← hl]; exact (restC_length _ _ _).symm, fun i c ec => ?_, fun i j a h1 h2 => I.dist i j a (sub i a h1) (sub j a h2), I.gh⟩
  have ec : (restC e0.sl env.sl vs)[i]? = some c := ec
  rw [restC_get] at ec
  by_cases h : i ∈ vs
  · rw [if_pos h] at ec
    cases q : env.sl[i]? with
    | none => rw [q] at ec; cases ec
    | some c' =>
      rw [q] at ec
      cases ec
      have hi : i < e0.sl.length := by rw [← I0.len, ← hl]; exact (List.getElem?_eq_some_iff.mp q).1
      have g : e0.sl[i]? = some (e0.sl.getD i .un) := by rw [List.getD_eq_getElem?_getD, List.getElem?_eq_getElem hi]; rfl
      have s := I0.get g
      rcases pl i h with z | ⟨d, z⟩
      · rw [z]; trivial
      · rw [z] at s ⊢
        obtain ⟨w, e1, r⟩ := s
        exact ⟨w, e1, r.mono x⟩
  · rw [if_neg h] at ec
    have s := I.get ec
    rw [wipe_get, if_neg h] at s
    exact s
structure VTs (Y : Fam) (ifs : List Expr) (t : PTT) : Prop where
  ex : ∃ rd : XK → TT, (∀ i, PTs (Y.X i) ifs (rd (Y.E i))) ∧ ∀ (Γ : Gm) (σ : Sl) (κ : Ka) (H : Hp) (env : En) (Q : Bool → En → Prop) (Q' : Bool → Hp → Prop), GK Y Γ → Rl Γ κ env σ H → t Γ.x env Q →
    (∀ b κ' H' env', Ext κ H κ' H' → Rl Γ κ' env' σ H' → Q b env' → Q' b H') → rd Γ.E σ H Q'
def cYes : PTT := fun _ e Q => Q true e
theorem vts_nil : VTs Y [] cYes := ⟨⟨fun _ => tYes, fun _ => pts_nil, fun Γ σ κ H env Q Q' hK I q k => k true κ H env (.refl ..) I q⟩⟩
theorem vts_one {c : Expr} {t : PTT} (h : VT Y c t) : VTs Y [c] t := by
  obtain ⟨ra, pa, fa⟩ := h.ex
  exact ⟨⟨ra, fun i => pts_one (pa i), fa⟩⟩
def noX : PX := fun _ _ => False
def lcR (g : PTG) (tt : PTT) (te : PTE) (vs : List Nat) : List D → List D → En → (List D → En → Prop) → Prop
  | [], acc, e, Q => Q acc e
  | d :: ds, acc, e, Q => g d e fun e1 => tt noX e1 fun b e2 => if b = true then te noX e2 fun r e3 => fz r e3 fun y e4 => lcR g tt te vs ds (acc ++ [y]) (wipeE vs e4) Q else lcR g tt te vs ds acc (wipeE vs e2) Q
def cLc (ti : PTI) (g : PTG) (tt : PTT) (te : PTE) (vs : List Nat) : PTE := fun x e Q => ti x e fun items e1 => items.length ≤ sizeLine ∧ plainC e1.sl vs = true ∧
  lcR g tt te vs items [] (wipeE vs e1) fun acc e2 => Q (.own acc) (restE vs e1 e2)
theorem lc_ref {scope : Scope} {tg it elt : Expr} {ifs : List Expr} {own : List (Str × Nat)} {ti : PTI} {g : PTG} {tt : PTT} {te : PTE} {vs : List Nat} {ri : XK → TI} {rg : TG} {rt : TT} {re : TE}
    (hv : own.map (·.2) = vs)
    (fi : ∀ (Γ : Gm) (σ : Sl) (κ : Ka) (H : Hp) (env : En) (Q : List D → En → Prop) (Q' : It → Hp → Prop), GK Y Γ → Rl Γ κ env σ H → ti Γ.x env Q →
    (∀ J κ' H' items env', Ext κ H κ' H' → Rl Γ κ' env' σ H' → Src Γ.K Γ.cls κ' H' J items → Q items env' → Q' J H') → ri Γ.E σ H Q')
    (fg : ∀ (Γ : Gm) (σ : Sl) (κ : Ka) (H : Hp) (env : En) (v : V) (d : D) (Q : En → Prop) (Q' : Sl → Hp → Prop), GK (Y.blk scope) Γ → Rl Γ κ env σ H → Rep Γ.K Γ.cls κ H v d → g d env Q →
    (∀ σ' env', Off vs σ σ' → Rl Γ κ env' σ' H → Q env' → Q' σ' H) → rg v σ H Q')
    (ft : ∀ (Γ : Gm) (σ : Sl) (κ : Ka) (H : Hp) (env : En) (Q : Bool → En → Prop) (Q' : Bool → Hp → Prop), GK (Y.blk scope) Γ → Γ.E = E0 → Rl Γ κ env σ H → tt Γ.x env Q →
    (∀ b κ' H' env', Ext κ H κ' H' → Rl Γ κ' env' σ H' → Q b env' → Q' b H') → rt σ H Q')
    (fe : ∀ (Γ : Gm) (σ : Sl) (κ : Ka) (H : Hp) (env : En) (Q : R → En → Prop) (Q' : VK), GK (Y.blk scope) Γ → Γ.E = E0 → Rl Γ κ env σ H → te Γ.x env Q →
    (∀ v κ' H' r env', Ext κ H κ' H' → Rl Γ κ' env' σ H' → RelR Γ κ' H' env' σ v r → Q r env' → Q' v H') → re σ H Q')
    {Q : R → En → Prop} {Q' : VK} (hK : GK Y Γ) (I : Rl Γ κ env σ H) (q : cLc ti g tt te vs Γ.x env Q)
    (k : ∀ v κ' H' r env', Ext κ H κ' H' → Rl Γ κ' env' σ H' → RelR Γ κ' H' env' σ v r → Q r env' → Q' v H') : L2.tLc (ri Γ.E) rg rt re (own.map (·.2)) σ H Q' := by
  rw [hv]
  refine fi Γ σ κ H env _ _ hK I q fun J κ1 H1 items e1 x1 I1 src q1 => ?_
  obtain ⟨hz, hp, q1⟩ := q1
  intro D hD
  have kD1 : κ1 D = none := I1.gh.nokap hD
  have hD0 : Γ.H0 D = none := I1.gh.nokap0 hD
  have nk : Γ.k0 D = none := by
    cases z : Γ.k0 D with
    | none => rfl
    | some x => have := I1.gh.sub D x z; rw [kD1] at this; cases this
  have x2 : Ext κ1 H1 κ1 (upd H1 D (.lst [])) := Ext.upd_new I1.gh hD
  have I2 := (I1.upd_new (o := .lst []) hD)
  refine ⟨fun i m H2 => ∃ κ2 e2 acc vacc, Ext κ1 H1 κ2 H2 ∧ Rl Γ κ2 e2 (L2.wipe σ vs) H2 ∧ m = items.length - i ∧ i ≤ items.length ∧ H2 D = some (.lst vacc) ∧ RepL Γ.K Γ.cls κ2 H2 vacc acc ∧ κ2 D = none ∧ (∀ j, ¬ OwnS e2 (L2.wipe σ vs) j D) ∧ acc.length ≤ i ∧
      lcR g tt te vs (items.drop i) acc e2 (fun acc e2 => Q (.own acc) (restE vs e1 e2)), ⟨_, κ1, wipeE vs e1, [], [], x2, I2.wipe, rfl, Nat.zero_le _, upd_same, .nil, kD1, (fun j hj => I1.fresh hD j hj.unwipe), Nat.le_refl _, q1⟩, ?_⟩
  rintro i m H2 ⟨κ2, e2, acc, vacc, y2, J2, rfl, hi, hD2, ra, kD, oD, la, q2⟩
  obtain ⟨s1, s2⟩ := src Γ rfl rfl _ κ2 H2 e2 i J2 y2
  by_cases hlt : i < items.length
  · have hd : items.drop i = items[i] :: items.drop (i + 1) := List.drop_eq_getElem_cons hlt
    rw [hd] at q2
    have P2 := J2.prot hD2 kD oD
    have gk : GK (Y.blk scope) (Γ.prot D (.lst vacc)) := ⟨hK.k, hK.c, hK.f, fun _ _ _ _ _ _ _ _ z _ _ => False.elim z⟩
    obtain ⟨go, _⟩ := s1 items[i] (List.getElem?_eq_getElem hlt)
    refine .inr ⟨go, fun H' => ∃ κ' e' acc' vacc', Ext κ1 H1 κ' H' ∧ Rl Γ κ' e' (L2.wipe σ vs) H' ∧ H' D = some (.lst vacc') ∧ RepL Γ.K Γ.cls κ' H' vacc' acc' ∧ κ' D = none ∧ (∀ j, ¬ OwnS e' (L2.wipe σ vs) j D) ∧ acc'.length ≤ i + 1 ∧
      lcR g tt te vs (items.drop (i + 1)) acc' e' (fun acc e2 => Q (.own acc) (restE vs e1 e2)), fun H' ⟨κ', e', acc', vacc', z1, z2, z3, z4, z5, z6, z7, z8⟩ => ⟨items.length - (i + 1), by omega, κ', e', acc', vacc', z1, z2, rfl, hlt, z3, z4, z5, z6, z7, z8⟩, fun w H' yl => ?_⟩
    -- the item, with the new list standing still
    obtain ⟨s1', _⟩ := src (Γ.prot D (.lst vacc)) rfl rfl _ κ2 H2 e2 i P2 y2
    obtain ⟨_, yy⟩ := s1' items[i] (List.getElem?_eq_getElem hlt)
    obtain ⟨κ3, y3, P3, r3⟩ := yy w H' yl
    refine fg (Γ.prot D (.lst vacc)) _ κ3 H' e2 w _ _ _ gk P3 r3 q2 fun σ4 e4 o4 P4 q4 => ?_
    refine ⟨wipe_off o4, ft (Γ.prot D (.lst vacc)) σ4 κ3 H' e4 _ _ gk rfl P4 q4 fun bb κ5 H5 e5 y5 P5 q5 => ?_⟩
    have w4 : L2.wipe σ4 vs = L2.wipe σ vs := wipe_off o4
    cases bb with
    | true =>
      rw [if_pos rfl] at q5 ⊢
      refine fe (Γ.prot D (.lst vacc)) σ4 κ5 H5 e5 _ _ gk rfl P5 q5 fun u κ6 H6 r6 e6 y6 P6 h6 q6 => ?_
      refine fz_ok P6 h6 q6 fun κ7 d e7 y7 P7 r7 q7 => ?_
      obtain ⟨J7, k7, hD7, o7⟩ := P7.unprot nk hD0
      have y27 : Ext κ2 H2 κ7 H6 := ((y3.trans y5).trans y6).trans y7
      refine ⟨vacc, hD7, Nat.lt_of_le_of_lt (by rw [ra.length]; exact la) (Nat.lt_of_lt_of_le hlt hz), ?_⟩
      have y8 : Ext κ7 H6 κ7 (upd H6 D (.lst (vacc ++ [u]))) := Ext.upd k7
      have J8 : Rl Γ κ7 e7 σ4 (upd H6 D (.lst (vacc ++ [u]))) := J7.step (st' := e7.st) y8 (fun j c hj => ⟨by
        obtain ⟨c', _, hc⟩ := J7.ownS hj
        exact hc.facts.1, upd_ne fun z => o7 j (z ▸ hj)⟩) (J7.gh.upd k7 hD0)
      have J9 : Rl Γ κ7 (wipeE vs e7) (L2.wipe σ vs) (upd H6 D (.lst (vacc ++ [u]))) := by rw [← w4]; exact J8.wipe
      refine ⟨κ7, wipeE vs e7, acc ++ [d], vacc ++ [u], y2.trans (y27.trans y8), J9, upd_same, (ra.mono (y27.trans y8)).append (.cons (r7.mono y8) .nil), k7, fun j hj => ?_, by simp only [List.length_append, List.length_singleton]; omega, q7⟩
      rw [← w4] at hj
      exact o7 j hj.unwipe
    | false =>
      rw [if_neg Bool.false_ne_true] at q5 ⊢
      obtain ⟨J7, k7, hD7, o7⟩ := P5.unprot nk hD0
      have y27 : Ext κ2 H2 κ5 H5 := y3.trans y5
      refine ⟨κ5, wipeE vs e5, acc, vacc, y2.trans y27, by rw [← w4]; exact J7.wipe, hD7, ra.mono y27, k7, fun j hj => ?_, by omega, q5⟩
      rw [← w4] at hj
      exact o7 j hj.unwipe
  · have e : i = items.length := by omega
    subst e
    rw [List.drop_length] at q2
    refine .inl ⟨s2 rfl, ?_⟩
    have J3 : Rl Γ κ2 (restE vs e1 e2) σ H2 := Rl.rest I1 hp y2 J2
    refine k (.ref D) κ2 H2 (.own acc) (restE vs e1 e2) (x1.trans y2) J3 ⟨D, rfl, ⟨kD, hD0, vacc, hD2, by rw [ra.length]; exact Nat.le_trans la hz, ra⟩, fun j hj => ?_⟩ q2
    exact oD j (hj.unrest hp)
end
end Pu
set_option maxRecDepth 100000
set_option maxHeartbeats 400000
namespace Pu
open PySem L2 PySem.Spec PyProof.Rows
/-- a def's promise where no guard stands -/
structure FnG (P : Program) (w : World) (K : PySem.W.Frag) (mg : Str → Option Value) (base : Heap) (CX : CXT) (k : Nat) (f : Addr) (fd : FuncData) (ps : List Str) (sp : Sp) : Prop where
  many : ∀ us H Q E, sp us H Q E → us.length = ps.length
  go : ∀ (A : Around) (out : List Env) (t : Shared) (H : Hp) (ar : Args) (gs : List Value) (us : List V) (Q : VK) (E : XK), Room k A → A.guards = some [] → Env0 P w K mg base A out t H → BindsTo t fd ar (ps.zip gs) →
    Vals us gs → sp us H Q E → codeAny (model P w) A (.call (.ref f) ar) (CR CX out P w H t Q E) t
section
variable {P : Program} {w : World} {K : PySem.W.Frag} {mg : Str → Option Value} {base : Heap} {CX : CXT} {j k : Nat} {f : Addr} {fd : FuncData} {ps : List Str} {sp sp' : Sp}
theorem FnG.of (F : FnOk P w K mg base CX k f fd ps sp) : FnG P w K mg base CX k f fd ps sp :=
  ⟨F.len, fun A out t H ar gs us Q E r _ => F.run A out t H ar gs us Q E r⟩
theorem FnG.mono (F : FnG P w K mg base CX j f fd ps sp) (h : j ≤ k) : FnG P w K mg base CX k f fd ps sp :=
  ⟨F.many, fun A out t H ar gs us Q E r => F.go A out t H ar gs us Q E (r.mono h)⟩
theorem FnG.imp (F : FnG P w K mg base CX k f fd ps sp) (h : ∀ us H Q E, sp' us H Q E → sp us H Q E) : FnG P w K mg base CX k f fd ps sp' :=
  ⟨fun us H Q E z => F.many us H Q E (h _ _ _ _ z), fun A out t H ar gs us Q E r hg e b v z => F.go A out t H ar gs us Q E r hg e b v (h _ _ _ _ z)⟩
end
section
variable {X : Cx} {CX : CXT} {k : Nat} {f : Addr} {fd : FuncData} {ps : List Str} {sp : Sp} {dvs : List V} {ds : List Value} {E : XK} {x : Str} {p pos : Pos} {e : Expr} {es : List Expr} {t : TA}
theorem goG {pins : List (Addr × Obj)} {σ : L2.St} {H : Hp} {s : Shared} {Q : VK} {gs : List Value} {us : List V} (F : FnG X.prog X.w X.K X.mg X.base CX k f fd ps sp) (hr : Room k X.A) (hgd : X.A.guards = some []) (hb : Binds X.K fd ps ds) (hd : Vals dvs ds) (hx : Passes CX X E)
    (I : Inv X pins σ H s) (r : Vals us gs) (h : sp (us ++ dvs) H Q E) : wpAny (model X.prog X.w) X.A (call (.ref f) gs) (EP X pins σ Q) X.xe s := by
  have rr := r.append hd
  have hl : (gs ++ ds).length = ps.length := rr.length.symm.trans (F.many _ _ _ _ h)
  have body := F.go X.A X.stack s H ⟨gs, []⟩ _ _ Q E hr hgd I.env0 (hb s gs I.kIn hl) rr h
  refine wpAny_call (codeAny_mono body fun res s' z => ?_)
  match res, z with
  | .error e, z => exact hx pins σ H s e s' I z
  | .ok (.ret u), z => exact I.after z
theorem pe_callG (F : FnG X.prog X.w X.K X.mg X.base CX k f fd ps sp) (hr : Room k X.A) (hgd : X.A.guards = some []) (hg : Gl X x) (hm : X.mg x = some (.ref f)) (hk : PySem.W.keepIn X.K (.ref f) = true) (hb : Binds X.K fd ps ds) (hd : Vals dvs ds) (hx : Passes CX X E)
    (ha : PA X (e :: es) t) (hdb : (x == ("__debug__" : Str)) = false := by decide) (he : starEach (e :: es) X.env = (false, eval e X.env) :: starEach es X.env := by rfl) (hpl : (backTo pos (starEach es X.env)).any (·.1) = false := by rfl) :
    PE X (.Call (.Name x p) (e :: es) [] pos) (tCall sp dvs E t) := by
  constructor
  intro pins s σ H Q I z
  refine wpAny_Call_Name_kw (ld_glob I hg hm (PySem.W.callWith_K (h₀ := X.base) I.ok.mod.kin hk ?_ he hpl) hdb)
  exact thn (ha.run pos pins s σ H _ I z) fun gs s1 ⟨us, H1, J, r, q⟩ => ⟨J.kIn, goG F hr hgd hb hd hx J r q⟩
end
section
variable {P : Program} {w : World} {K : PySem.W.Frag} {mg : Str → Option Value} {base : Heap}
/-- a def, from its body -/
theorem fnG_of {CX : CXT} {k : Nat} {x qual : Str} {st : Stmt} {f : Addr} {fd : FuncData} {N ps : List Str} {sp : Sp} (F : Fun K x qual st f fd) (S : FnScope N ps (defScope st)) (many : ∀ us H Q E, sp us H Q E → us.length = ps.length)
    (hbody : ∀ (cdv : Value) (A : Around) (out : List Env) (t : Shared) (H : Hp) (us : List V) (Q : VK) (E : XK), Room k (A.deeper (envOfC qual (defScope st) t.heap.objs.size f cdv)) → A.guards = some [] → sp us H Q E →
      ∃ r, PSs (cxOf CX P w K mg base N qual (defScope st) f cdv A out t H E) (defBody st) r ∧ r { nx := fun _ H' => Q .non H', rt := Q } (L2.start N us) H) : FnG P w K mg base CX (k + 1) f fd ps sp := by
  obtain ⟨oc, od, kV, doc, pm, an, cdv, ct, osl, hfd, look, code⟩ := F.ex
  subst hfd
  constructor
  · exact many
  intro A out t H ar gs us Q E room hgd e0 bind vals want
  have kept : ∀ b o, base.get? b = some o → t.heap.get? b = some o := fun b o z => (e0.bs b o z).1
  have inK : K.In t.heap := e0.mod.kin.keeps kept
  have par : ∀ y ∈ ps.zip gs, (defScope st).names.lookup y.1 = some .local ∨ ((defScope st).names.lookup y.1 = some .cell ∧ ((cellsFrom (t.heap.objs.size + 1) (defScope st).names []).lookup y.1).isSome = true) := by
    intro y hy
    have hy1 : y.1 ∈ ps := by
      obtain ⟨n, v⟩ := y
      exact (List.of_mem_zip hy).1
    exact (S.par y.1 hy1).imp id fun z => ⟨z, PySem.W.cellsFrom_some _ _ _ (.inl z)⟩
  refine codeAny_call_function room.depth (inK _ _ look) rfl S.co S.gen rfl (PySem.W.codeRec_of inK code) (bind _ _ _ _ ?_)
  refine wpAny_newFunctionEnv_cells S.kind par fun env heq t1 x => ?_
  subst heq
  refine ⟨(e0.mod.nolimit.keeps kept).keeps x.toInCall.keep, codeAny_func ?_⟩
  obtain ⟨r, hr, hq⟩ := hbody cdv A out t H us Q E (room.deeper _) hgd want
  have I0 := inv_start (CX := CX) (E := E) S room.hd e0 (many _ _ _ _ want) vals x
  refine wpAny_mono (hr.run [] t1 (L2.start N us) H _ I0 hq) (fun fl t2 z => ?_) fun _ _ z => z
  have fin : ∀ {σ' : L2.St} {H' : Hp} {v : V} {u : Value}, Inv (cxOf CX P w K mg base N qual (defScope st) f cdv A out t H E) [] σ' H' t2 → RelV v u → Q v H' → CE out P w H t Q u t2 := fun {σ' H' v u} J rv q => ⟨v, H', J.os, J.bare, J.base, J.hok, rv, q⟩
  cases fl with
  | ret u => obtain ⟨v, σ', H', J, rv, q⟩ := z; exact fin J rv q
  | next => obtain ⟨σ', H', J, q⟩ := z; exact fin (v := V.non) (u := Value.none) J rfl q
  | brk => obtain ⟨σ', H', J, q⟩ := z; exact False.elim q
  | cont => obtain ⟨σ', H', J, q⟩ := z; exact False.elim q
end
end Pu
set_option maxRecDepth 100000
set_option maxHeartbeats 1000000
namespace Pu
open PySem L2 PySem.Spec PyProof.Rows
/-- what stands behind the top: the script alone may be tracked -/
theorem lawG_at {P : Program} {w : World} {K : PySem.W.Frag} {mg mb : Str → Option Value} {k : Nat} {fa a : Addr} {fd : FuncData} {x : Str} {sp : Sp} {s0 : Shared} {us : List Value} {H : Hp}
    (inK : K.In s0.heap) (ns1 : s0.heap.Ns mainGlobals mg) (ns2 : s0.heap.Ns builtinsNs mb) (boot : ∀ y : Str, y ≠ "__name__" → mb y = bootBuiltins y) (lim : s0.heap.NoLimit) (gen : s0.gens = #[])
    (obj : s0.heap.get? a = some { cls := .type "list", data := .seq us.toArray }) (room : Room k callerA)
    (F : ∀ base : Heap, K.In base → base.Ns mainGlobals mg → FnG P w K mg base CX0 k fa fd [x] sp) (bind : ∀ (s : Shared) (u : Value), BindsTo s fd ⟨[u], []⟩ [(x, u)])
    (only : Only H) (want : sp [.ref a] H (fun v _ => v = .bl true) fun _ _ _ => False) (ok : HOk P w H s0.heap) (one : ∀ b, H b ≠ none → b = a) (out : H a ≠ none → K.lookup a = none) :
    codeAny (model P w) callerA (.call (.ref fa) ⟨[.ref a], []⟩) (fun r s' => r = .ok (.ret (.bool true)) ∧ OldK s0.heap s'.heap ∧ s'.os = s0.os ∧ AllBare s'.gens) s0 := by
  have hid : ∀ {b : Addr} {o : Obj}, s0.heap.get? b = some o → H b = none → (hidT s0.heap H).get? b = some o := fun z n => hidT_get z n
  have nodict : ∀ {b : Addr} {o : Obj} {es : Array DictEntry} {ep : Nat}, s0.heap.get? b = some o → o.data = .dict es ep → H b = none := by
    intro b o es ep z d
    cases q : H b with
    | none => rfl
    | some u =>
      have hb := one b (by rw [q]; exact fun y => nomatch y)
      rw [hb, obj] at z
      cases z
      cases (show Data.seq us.toArray _ = Data.dict es ep from d)
  have ns : ∀ {b : Addr} {m : Str → Option Value}, s0.heap.Ns b m → (hidT s0.heap H).Ns b m := by
    rintro b m ⟨o, es, ep, z, d, r⟩
    exact ⟨o, es, ep, hid z (nodict z d), d, r⟩
  have inB : K.In (hidT s0.heap H) := by
    intro b o z
    refine hid (inK b o z) ?_
    cases q : H b with
    | none => rfl
    | some u =>
      have hb := one b (by rw [q]; exact fun y => nomatch y)
      subst hb
      rw [out (by rw [q]; exact fun y => nomatch y)] at z
      cases z
  obtain ⟨mc, l1, l2⟩ := lim
  have env : Env0 P w K mg (hidT s0.heap H) callerA [] s0 H :=
    ⟨rfl, ⟨inB, ns ns1, ⟨mb, ns ns2, boot⟩, ⟨mc, ns l1, l2⟩⟩, fun b o z => of_hidT z, Nat.le_of_eq (hidT_size _ _), trivial, fun b hb => (List.not_mem_nil hb).elim, ok, .of_eq gen⟩
  have run := (F _ inB (ns ns1)).go callerA [] s0 H ⟨[.ref a], []⟩ [.ref a] [.ref a] _ _ room rfl env (bind s0 (.ref a)) (.cons rfl .nil) want
  refine codeAny_mono run fun r s' z => ?_
  cases r with
  | error e => exact False.elim z
  | ok fl =>
    cases fl with
    | next => exact False.elim z
    | brk => exact False.elim z
    | cont => exact False.elim z
    | ret u =>
      obtain ⟨v, H', os, bare, un, ok', rel, q⟩ := z
      have q : v = .bl true := q
      subst q
      have rel : u = Value.bool true := rel
      subst rel
      refine ⟨rfl, OldK.of_keep ?_, os, bare⟩
      intro b o z
      cases q : H b with
      | none => exact un.keep b o z q (fun y => List.not_mem_nil y) (fun y => List.not_mem_nil y)
      | some u =>
        rcases only b with y | ⟨ob, xs, y⟩
        · rw [q] at y; cases y
        · have y1 := (ok b _ y).1
          have y2 := (ok' b _ (un.frzs b ob _ y)).1
          rw [z] at y1
          cases y1
          exact y2
theorem walkG {l : PySem.W.OpenLaw} {q : Program} {loose : List Str} {XP : (Str → Option Value) → Heap → Prop} {YP : World → Heap → Prop} {d : DefRec} {K : Params → PySem.W.Frag} {k : Nat} {sp : PySem.W.Frag → Sp} (room : Room k callerA) (most : l.most = some 63) (nodef : d.params.defaults = [])
    (hY : ∀ (w : World) (h : Heap), YP w h → (K w.params).In h)
    (F : ∀ (w : World) (mg : Str → Option Value) (fa : Addr) (h : Heap), (K w.params).In h → h.Ns mainGlobals mg → mg d.name = some (.ref fa) →
      ∃ fd : FuncData, (∀ (s : Shared) (u : Value), BindsTo s fd ⟨[u], []⟩ [("_law_script", u)]) ∧ ∀ base : Heap, (K w.params).In base → base.Ns mainGlobals mg → FnG l.prog w (K w.params) mg base CX0 k fa fd ["_law_script"] (sp (K w.params)))
    (hsp : ∀ (w : World) (H : Hp) (a : Addr) (ns : List Int), ns.length ≤ 63 → SqL (K w.params) H a (ns.map V.int) → sp (K w.params) [.ref a] H (fun v _ => v = .bl true) fun _ _ _ => False) :
    PySem.W.WalkO q loose XP YP l.row.toRowW d [] (fun f vs => PySem.call f vs) := by
  refine Att.attach_call most nodef ?_
  intro w s1 s0 mg mb fa o pm cd doc a us ns G Y ho hd hcd hmg obj areI len gen
  have inK := hY w _ Y
  obtain ⟨fd, bind, F⟩ := F w mg fa _ inK G.T.g hmg
  have lens := areI.length
  have vals := vals_ints areI
  have short : ns.length ≤ sizeLine := Nat.le_trans len (by decide)
  have go := fun (H : Hp) (o1 : Only H) (o2 : SqL (K w.params) H a (ns.map V.int)) => lawG_at (H := H) inK G.T.g G.T.b G.T.builtins G.T.nolimit gen obj room F bind o1 (hsp w H a ns len o2)
  cases hk : (K w.params).lookup a with
  | some o' =>
    have z := inK a o' hk
    rw [obj] at z
    cases z
    refine go (fun _ => none) (fun _ => .inl rfl) (.inr ⟨_, us.toArray, _, hk, rfl, rfl, rfl, ?_, by simpa using vals⟩) (fun b u z => nomatch z) (fun b z => absurd rfl z) fun z => absurd rfl z
    rw [List.size_toArray, lens]
    exact short
  | none =>
    have at_ : ∀ b, b ≠ a → (if b = a then some (HO.frz { cls := .type "list", data := .seq us.toArray } (.lst (ns.map V.int))) else none) = none := fun b z => if_neg z
    refine go (fun b => if b = a then some (.frz { cls := .type "list", data := .seq us.toArray } (.lst (ns.map V.int))) else none) (fun b => ?_) (.inl (.inr ⟨_, if_pos rfl⟩)) (fun b u z => ?_) (fun b z => ?_) fun _ => hk
    · by_cases y : b = a
      · right; exact ⟨_, _, if_pos y⟩
      · left; exact at_ b y
    · by_cases y : b = a
      · subst y
        cases (if_pos rfl).symm.trans z
        exact ⟨obj, by rw [List.length_map]; exact short, us, _, vals, obj⟩
      · cases (at_ b y).symm.trans z
    · exact Decidable.byContradiction fun y => z (at_ b y)
end Pu
set_option maxRecDepth 100000
set_option maxHeartbeats 2000000
namespace PuE
open PySem PySem.Spec PyProof.Rows L2 RT PySem.W
theorem norev_str : typeLookup (.type "str") "__reversed__" = pure none := by rw [typeLookup_type, builtinLookup_eq_fast]; kernel_rfl
theorem get_str : typeLookup (.type "str") "__getitem__" = pure (some (.builtin "str.__getitem__")) := by rw [typeLookup_type, builtinLookup_eq_fast]; kernel_rfl
theorem sub_str_dict : isSubtype (.type "str") (.type "dict") = pure false := by rw [isSubtype_type]; kernel_rfl
def rsObj (x : Str) (t : Tok) (i : Int) : Obj := { cls := .type "reversed", data := .fields #[.str x t, rawInt i] }
def IsRs (h : Heap) (a : Addr) (x : Str) (t : Tok) (i : Int) : Prop := ∃ o, h.get? a = some o ∧ o.cls = .type "reversed" ∧ o.data = .fields #[.str x t, rawInt i]
theorem IsRs.at {h h' : Heap} {a : Addr} {x : Str} {t : Tok} {i : Int} (y : IsRs h a x t i) (e : ∀ o, h.get? a = some o → h'.get? a = some o) : IsRs h' a x t i := let ⟨o, ho, r⟩ := y; ⟨o, e _ ho, r⟩
section
variable {prog : Program} {w : World} {A : Around} {E : Value → Shared → Prop} {s : Shared}
theorem IsRs.typeIs {a : Addr} {x : Str} {t : Tok} {i : Int} (y : IsRs s.heap a x t i) : s.TypeIs (.ref a) "reversed" := let ⟨o, ho, hc, _⟩ := y; ⟨o, ho, hc⟩
theorem code_reversed_str {x : Str} {t : Tok} {Q₁ : Value → Shared → Prop} (hfit : ¬ (x.length : Int) ≥ 2 ^ 63)
    (h : Q₁ (.ref s.heap.objs.size) { s with heap := s.heap.push (rsObj x t ((x.length : Int) - 1)), toks := s.toks + 1 + 1 }) :
    codeAny (model prog w) A (.call (.builtin "reversed.__new__") ⟨[.type "reversed", .str x t], []⟩) (wants Q₁ E) s := by
  have hT : s.TypeIs (.str x t) "str" := typeIs_str s x t
  refine codeAny_of_tree ?_
  show wpAny _ A.in1 (do checkBuiltinCall "reversed.__new__" ⟨[.type "reversed", .str x t], []⟩; again (.builtin "reversed.__new__" ⟨[.type "reversed", .str x t], []⟩)) _ _ s
  refine wpAny_bind (wpAny_of_eq (F.newCall_reversed_1 _) (wpAny_pure ⟨plainId_quiet F.plain_reversed_new _, codeAny_builtin F.entry_reversed_new ?_⟩))
  rw [Around.under_plainId F.plain_reversed_new _]
  unfold Builtin.«reversed.__new__»
  refine wpAny_bind (wpAny_of_eq (newClass_reversed _) ?_)
  try dsimp only
  refine wpAny_bind (wpAny_of_eq (a := ()) (by first | rfl | kernel_rfl) ?_)
  try dsimp only
  refine wpAny_bind (wpAny_of_eq (a := ()) (by first | rfl | kernel_rfl) ?_)
  try dsimp only
  refine wpAny_bind (wpAny_specialOf hT norev_str ?_)
  try dsimp only
  refine wpAny_bind ?_
  wp_delta
  refine wpAny_bind (wpAny_isInstance (T := "str") (U := "dict") (b := false) hT sub_str_dict ?_)
  try dsimp only
  try rw [if_neg Bool.false_ne_true]
  try dsimp only
  refine wpAny_bind (wpAny_specialOf hT get_str ?_)
  try dsimp only
  try rw [if_pos (by decide +kernel)]
  refine wpAny_pure ?_
  try dsimp only
  try rw [if_neg (by decide)]
  try dsimp only
  refine wpAny_bind (PyProof.Rows.len_str hfit ?_)
  refine wpAny_bind (wpAny_of_eq (a := some ((x.length : Nat) : Int)) rfl ?_)
  try dsimp only
  refine wpAny_bind ?_
  show wpAny _ _ (newObj (.type "reversed") (.fields #[.str x t, rawInt ((x.length : Int) - 1)])) _ _ _
  refine wpAny_newObj_type ?_
  exact wpAny_pure h
theorem call_reversed_str {x : Str} {t : Tok} {Q : Value → Shared → Prop} (hfit : ¬ (x.length : Int) ≥ 2 ^ 63)
    (h : Q (.ref s.heap.objs.size) { s with heap := s.heap.push (rsObj x t ((x.length : Int) - 1)), toks := s.toks + 1 + 1 }) : wpAny (model prog w) A (call (.type "reversed") [.str x t]) Q E s := by
  refine callType_codes (Q₁ := fun obj s₁ => s₁.TypeIs obj "reversed" ∧ Q obj s₁) called_rt (F.typeCall_reversed_1 _) F.entry_object_init
    (code_reversed_str (A := A.in1) hfit ⟨⟨_, Heap.get?_push_size _ rfl, rfl⟩, h⟩) fun obj s₁ h₁ => ?_
  exact ⟨h₁.1, F.args_object_init_2 obj _, object_init_meets called_rt.init.lookup called_rt.made (by decide) prog w A.in1 _ s₁ ⟨h₁.1, rfl, h₁.2⟩⟩
theorem next_rs_item {it : Addr} {y : Str} {t : Tok} {i c : Nat} {Q : Option Value → Shared → Prop} (hit : IsRs s.heap it y t (i : Int)) (hx : y.cps[i]? = some c) (hsz : y.length ≤ sizeLine)
    (hQ : ∀ h' u tk, IsRs h' it y t ((i : Int) - 1) → Heap.SameBut it s.heap h' → Q (some (.str ⟨#[c]⟩ u)) { s with heap := h', toks := tk }) : wpAny (model prog w) A (pyNext (.ref it)) Q E s := by
  obtain ⟨o, ho, hc, hd⟩ := id hit
  have hi : i < y.length := (Array.getElem?_eq_some_iff.mp hx).1
  have hT : s.TypeIs (.str y t) "str" := typeIs_str s y t
  rw [sizeLine_eq] at hsz
  unfold pyNext
  refine wpAny_bind (wpAny_attempt (wpAny_callSpecial?_slot (name := Str.ofString "__next__") hit.typeIs slot_rt_next
    (wpAny_call_entry slot_rt_next hit.typeIs entry_rt_next ?_ (args_rt_next _))))
  unfold Builtin.«reversed.__next__»
  refine wpAny_bind (wpAny_of_eq (a := (Value.ref it, [])) rfl ?_)
  try dsimp only
  refine wpAny_bind (wpAny_field ho hd (x := .str y t) rfl ?_)
  try dsimp only
  refine wpAny_bind (wpAny_field ho hd (x := rawInt (i : Int)) rfl ?_)
  show wpAny _ _ (if (i : Int) < 0 then _ else _) _ _ s
  rw [if_neg (by omega)]
  try dsimp only
  refine wpAny_bind (wpAny_specialOf hT get_str ?_)
  try dsimp only
  try rw [if_neg (by decide)]
  try dsimp only
  refine wpAny_bind (wpAny_mkInt ?_)
  refine wpAny_bind (wpAny_attempt ?_)
  have fin : (seqIndex? (i : Int) y.length).bind (y.cps[·]?) = some c := by rw [seqIndex_of (by omega) (by omega)]; simpa using hx
  refine PyProof.Rows.getItem_str (s := { s with toks := s.toks + 1 }) (by
    have e1 : decide ((i : Int) < -(2 ^ 63 : Int)) = false := decide_eq_false (by omega)
    have e2 : decide ((i : Int) ≥ 2 ^ 63) = false := decide_eq_false (by omega)
    rw [e1, e2, Bool.or_false]) fin ?_
  try dsimp only
  refine wpAny_bind (wpAny_field (s := { s with toks := s.toks + 1 + 1 }) ho hd (x := rawInt (i : Int)) rfl ?_)
  try dsimp only
  refine wpAny_bind (wpAny_setField (s := { s with toks := s.toks + 1 + 1 }) ho hd (by simp) ?_)
  first
  | refine wpAny_pure ⟨_, rfl, wpAny_pure (hQ _ _ _ ?_ (Heap.SameBut.update ..))⟩
  | refine wpAny_bind (wpAny_pure (wpAny_pure ⟨_, rfl, wpAny_pure (hQ _ _ _ ?_ (Heap.SameBut.update ..))⟩))
  exact ⟨_, Heap.get?_update_self _ ho (Obj.isFreed_of_fields (Obj.data_mapFields hd _)), (Obj.cls_mapFields ..).trans hc, by
    rw [Obj.data_mapFields hd]; simp⟩
theorem next_rs_end {it : Addr} {x : Str} {t : Tok} {Q : Option Value → Shared → Prop} (hh : A.handled = none) (hit : IsRs s.heap it x t (-1))
    (hQ : ∀ h', Heap.ExtBut it s.heap h' → Q none { s with heap := h' }) : wpAny (model prog w) A (pyNext (.ref it)) Q E s := by
  obtain ⟨o, ho, hc, hd⟩ := id hit
  unfold pyNext
  refine wpAny_bind (wpAny_attempt (wpAny_callSpecial?_slot (name := Str.ofString "__next__") hit.typeIs slot_rt_next
    (wpAny_call_entry slot_rt_next hit.typeIs entry_rt_next ?_ (args_rt_next _))))
  unfold Builtin.«reversed.__next__»
  refine wpAny_bind (wpAny_of_eq (a := (Value.ref it, [])) rfl ?_)
  try dsimp only
  refine wpAny_bind (wpAny_field ho hd (x := .str x t) rfl ?_)
  try dsimp only
  refine wpAny_bind (wpAny_field ho hd (x := rawInt (-1)) rfl ?_)
  show wpAny _ _ (if (-1 : Int) < 0 then _ else _) _ _ s
  rw [if_pos (by decide)]
  try dsimp only
  refine wpAny_bind (wpAny_rule ?_)
  refine wpAny_bind ?_
  wp_delta
  refine wpAny_bind (wpAny_setField ho hd (by simp) ?_)
  have ho2 := Heap.get?_update_self (Obj.mapFields (·.setIfInBounds 1 (rawInt (-1)))) ho (Obj.isFreed_of_fields (Obj.data_mapFields hd _))
  refine wpAny_setField (s := { s with heap := s.heap.update it (Obj.mapFields (·.setIfInBounds 1 (rawInt (-1)))) }) ho2 (Obj.data_mapFields hd _) (by simp) ?_
  try dsimp only
  first
  | show wpAny _ _ (newExc (.type "StopIteration") [] >>= _) _ _ _
  | (refine wpAny_bind ?_; show wpAny _ _ (newExc (.type "StopIteration") [] >>= _) _ _ _)
  | (refine wpAny_bind ?_; wp_delta; show wpAny _ _ (newExc (.type "StopIteration") [] >>= _) _ _ _)
  refine wpAny_bind ?_
  simp only [newExc, newTuple]
  refine wpAny_bind (wpAny_newObj_type ?_ (by size_fits))
  refine wpAny_bind (m := firstArgMember _ _) (wpAny_of_eq (a := Value.none) (by first | rfl | (simp only [firstArgMember]; rfl)) ?_)
  refine wpAny_newObj_type ?_ (by size_fits)
  simp only [raiseNew]
  refine wpAny_bind (wpAny_handled ?_)
  first | rw [show A.in1.handled = none from hh] | rw [hh]
  refine wpAny_bind (wpAny_pure (wpAny_throw ?_))
  refine wpAny_bind (wpAny_isInstance (T := "StopIteration") (b := true) ⟨_, Heap.get?_push_size _ rfl, rfl⟩ isSubtype_stop ?_)
  refine wpAny_pure (hQ _ ?_)
  refine ((?_ : Heap.ExtBut it s.heap _).push _).push _
  exact fun b ob hb e => (Heap.get?_update_other _ _ (Ne.symm hb)).trans ((Heap.get?_update_other _ _ (Ne.symm hb)).trans e)
theorem iter_rs {it : Addr} {x : Str} {t : Tok} {i : Int} {Q : Value → Shared → Prop} (hit : IsRs s.heap it x t i) (h : Q (.ref it) s) : wpAny (model prog w) A (pyIter (.ref it)) Q E s := by
  refine wpAny_pyIter_slot hit.typeIs slot_rt_iter (wpAny_call_entry slot_rt_iter hit.typeIs entry_rt_iter ?_ (args_rt_iter _))
  show wpAny _ _ (ret (.ref it)) _ _ s
  exact wpAny_pure ⟨_, rfl, "reversed", _, hit.typeIs, slot_rt_next.lookup, h⟩
theorem hint_str {x : Str} {t : Tok} {Q : Bool → Shared → Prop} (h : Q false s) : wpAny (model prog w) A (Builtin.List.listLengthHint (.str x t)) Q E s := by
  have hT : s.TypeIs (.str x t) "str" := typeIs_str s x t
  unfold Builtin.List.listLengthHint
  refine wpAny_bind (wpAny_specialOf hT PySem.F.slot_str_len.lookup ?_)
  generalize hid : ("str.__len__" : String) = id0
  wp_delta
  rw [show splitId id0 = some ("str", "__len__") from by subst hid; decide +kernel]
  subst hid
  refine wpAny_bind (wpAny_isInstance (T := "str") (b := true) hT (by rw [isSubtype_type]; kernel_rfl) ?_)
  refine wpAny_ite_split (fun hab => absurd hab (by decide)) (fun _ => ?_)
  refine wpAny_ite_split (fun _ => ?_) (fun hab => absurd (by decide +kernel) hab)
  refine wpAny_bind (wpAny_typeOf hT ?_)
  exact wpAny_pure h
theorem ks_extend {R : Result → Shared → Prop} {x : Str} {t : Tok} (hh : A.handled = none) (S : Addr) (res : Value) (c₀ : Nat) (hS : s.heap.get? S = some { cls := .type "list", data := .seq #[] c₀ })
    (hR : ∀ h' tk acc' c', (∀ b o, b ≠ S → s.heap.get? b = some o → h'.get? b = some o) → h'.get? S = some { cls := .type "list", dict := none, data := .seq acc' c', slots := #[] } → ItemsOf (SignAt x) acc' x.cps.size → R (.ok (.ret res)) { s with heap := h', toks := tk }) (hn : x.cps.size ≤ sizeLine) :
    wpAny (model prog w) A.in1 (Builtin.List.listExtendWith (.ref S) (.str x t) res)
      (fun fin s' => match fin with | .done f => R (.ok f) s' | .again c' => c'.quiet = true ∧ codeAny (model prog w) A c' R s') (fun e s' => R (.error e) s') s := by
  have hSI : S ≠ s.heap.objs.size := Nat.ne_of_lt (Heap.lt_size hS)
  have hSf : S ∉ [s.heap.objs.size] := by simp only [List.mem_cons, List.not_mem_nil, or_false]; exact hSI
  unfold Builtin.List.listExtendWith
  refine wpAny_bind (wpAny_typeOf (T := "str") (typeIs_str s x t) ?_)
  have h1 : Builtin.List.listSameRef (.ref S) (.str x t) = false := by simp [Builtin.List.listSameRef]
  rw [if_neg (by rw [h1]; decide)]
  refine wpAny_bind (wpAny_pyIter_str fun oI St hW st => ?_)
  have W := hW A.in1 hh
  refine wpAny_bind (wpAny_holding (hint_str ?_))
  have hS₁ := Heap.get?_push_of_some oI hS
  have key : ∀ (h : Heap) (c₁ tk : Nat), St 0 h → (∀ b o, b ≠ S → s.heap.get? b = some o → h.get? b = some o) →
      h.get? S = some { cls := .type "list", data := .seq #[] c₁ } → codeAny (model prog w) A (.builtin "list.extend.loop" ⟨[.ref S, .ref s.heap.objs.size, res], []⟩) R { s with heap := h, toks := tk } := by
    intro h c₁ tk hst hk hS₁
    refine codeAny_extend_loopS W.toS hn S hSf res x.cps.size 0 _ #[] c₁ rfl (Nat.zero_le _) hst hS₁ (ItemsOf.nil _) fun s' acc' c' hm hS' hacc => ?_
    rw [Moved.eq_with hm]
    refine hR s'.heap s'.toks acc' c' (fun b o hb e => hm.heap b o (fun hmem => ?_) (hk b o hb e)) hS' hacc
    rcases List.mem_cons.mp hmem with e' | hmem
    · exact hb e'
    · exact absurd (Heap.lt_size e) (by rw [List.mem_singleton.mp hmem]; exact Nat.lt_irrefl _)
  refine wpAny_ite_split (fun _ => ?_) (fun _ => wpAny_pure ⟨plainId_quiet PySem.F.plain_extend_loop _, key _ c₀ _ st (fun b o _ e => Heap.get?_push_of_some _ e) hS₁⟩)
  refine wpAny_bind (wpAny_rule ?_)
  refine wpAny_bind ?_
  show wpAny _ _ (updateSeq S (·.push .none) >>= fun _ => updateSeq S (·.pop)) _ _ _
  refine wpAny_bind (wpAny_updateSeq hS₁ rfl ?_)
  have hS₂ := Heap.get?_update_self (Obj.mapSeq (·.push Value.none)) hS₁ rfl
  refine wpAny_updateSeq (hz := by seq_fits) hS₂ rfl ?_
  have hS₃ := Heap.get?_update_self (Obj.mapSeq (·.pop)) hS₂ rfl
  refine wpAny_pure ⟨plainId_quiet PySem.F.plain_extend_loop _, key _ _ _ ?_ (fun b o hb e => ?_) hS₃⟩
  · refine W.frame 0 _ _ st fun b hb o e => ?_
    have hbS : b ≠ S := fun h => hSf (h ▸ hb)
    exact (Heap.get?_update_other _ _ (Ne.symm hbS)).trans ((Heap.get?_update_other _ _ (Ne.symm hbS)).trans e)
  · exact (Heap.get?_update_other _ _ (Ne.symm hb)).trans ((Heap.get?_update_other _ _ (Ne.symm hb)).trans (Heap.get?_push_of_some _ e))
theorem ks_init {R : Result → Shared → Prop} {x : Str} {t : Tok} (hh : A.handled = none) (S : Addr) (hS : s.heap.get? S = some { cls := .type "list", data := .seq #[] })
    (hR : ∀ h' tk acc' c', (∀ b o, b ≠ S → s.heap.get? b = some o → h'.get? b = some o) → h'.get? S = some { cls := .type "list", dict := none, data := .seq acc' c', slots := #[] } → ItemsOf (SignAt x) acc' x.cps.size → R (.ok (.ret .none)) { s with heap := h', toks := tk }) (hn : x.cps.size ≤ sizeLine) :
    wpAny (model prog w) A.in1 (Builtin.«list.__init__» ⟨[.ref S, .str x t], []⟩)
      (fun fin s' => match fin with | .done f => R (.ok f) s' | .again c' => c'.quiet = true ∧ codeAny (model prog w) A c' R s') (fun e s' => R (.error e) s') s := by
  show wpAny _ _ (do let old ← Builtin.List.listItems (.ref S); Builtin.List.listUpdate (.ref S) (fun _ => #[]); letGo old.toList.reverse; Builtin.List.listExtendWith (.ref S) (.str x t) .none) _ _ s
  refine wpAny_bind ?_
  unfold Builtin.List.listItems
  refine wpAny_bind (wpAny_seqItems hS rfl (wpAny_pure ?_))
  show wpAny _ _ (updateSeq S (fun _ => #[]) >>= fun _ => letGo (#[] : Array Value).toList.reverse >>= fun _ => Builtin.List.listExtendWith (.ref S) (.str x t) .none) _ _ s
  refine wpAny_bind (wpAny_updateSeq hS rfl ?_)
  have hS₂ := Heap.get?_update_self (Obj.mapSeq (fun _ => (#[] : Array Value))) hS rfl
  have oth : ∀ b o, b ≠ S → s.heap.get? b = some o → (s.heap.update S (Obj.mapSeq (fun _ => (#[] : Array Value)))).get? b = some o :=
    fun b o hb e => (Heap.get?_update_other _ _ (Ne.symm hb)).trans e
  refine wpAny_bind (wpAny_letGo ?_)
  refine ks_extend hh S .none _ hS₂ (fun h' tk acc' c' hk hS' hacc => ?_) hn
  exact hR h' tk acc' c' (fun b o hb e => hk b o hb (oth b o hb e)) hS' hacc
theorem ks_call {x : Str} {t : Tok} {Q : Value → Shared → Prop} (hh : A.handled = none) (hn : x.cps.size ≤ sizeLine)
    (hQ : ∀ h' tk acc' c', (∀ b o, s.heap.get? b = some o → h'.get? b = some o) → h'.get? s.heap.objs.size = some { cls := .type "list", dict := none, data := .seq acc' c', slots := #[] } → ItemsOf (SignAt x) acc' x.cps.size → Q (.ref s.heap.objs.size) { s with heap := h', toks := tk }) :
    wpAny (model prog w) A (call (.type "list") [.str x t]) Q E s := by
  refine callType_codes (Q₁ := fun obj s₁ => obj = .ref s.heap.objs.size ∧ s₁ = { s with heap := s.heap.push { cls := .type "list", data := .seq #[] } }) PySem.F.called_list (PySem.F.typeCall_list_1 _) PySem.F.entry_list_init
    (code_list_new _ ⟨rfl, rfl⟩) fun obj s₁ h₁ => ?_
  obtain ⟨rfl, rfl⟩ := h₁
  have hS : (s.heap.push { cls := .type "list", data := .seq #[] }).get? s.heap.objs.size = some { cls := .type "list", data := .seq #[] } := Heap.get?_push_size _ rfl
  refine ⟨⟨_, hS, rfl⟩, PySem.F.args_list_init_2 _ _, ks_init (A := A.in1) hh _ hS (fun h' tk acc' c' hk hS' hacc => ?_) hn⟩
  exact ⟨rfl, hQ h' tk acc' c' (fun b o e => hk b o (Nat.ne_of_lt (Heap.lt_size e)) (Heap.get?_push_of_some _ e)) hS' hacc⟩
end
def ItvS (x : Str) : It := ⟨fun i H => i < x.length, fun i H v H' => H' = H ∧ ∃ c, x.cps[x.length - 1 - i]? = some c ∧ v = .str ⟨#[c]⟩, fun i _ => x.length ≤ i⟩
theorem turn_rs {P : Program} {w : World} {K : PySem.W.Frag} {tg : Expr} (x : Str) (t : Tok) (it : Addr) (hz : x.length ≤ sizeLine) : Turn P w K tg (ItvS x) [it] it (fun i h => i ≤ x.length ∧ IsRs h it x t ((x.length : Int) - 1 - (i : Nat))) where
  mem := by simp
  obj := fun i h st b hb => by
    have e : b = it := by simpa using hb
    subst e
    obtain ⟨_, o, e, c, d⟩ := st
    exact ⟨o, e, fun v z => by rw [d] at z; cases z⟩
  keep := fun i h h' st k => ⟨st.1, st.2.at fun o e => k it (by simp) o e⟩
  item := by
    intro X hP hw hK hc i pins s σ H E I hf st hg
    subst hP hw hK
    obtain ⟨f0, f1, f2, f3, f4, f5⟩ := hf it (by simp)
    obtain ⟨_, hit⟩ := st
    have hg : i < x.length := hg
    have e1 : (x.length : Int) - 1 - ((i : Nat) : Int) = ((x.length - 1 - i : Nat) : Int) := by omega
    rw [e1] at hit
    have hlt : x.length - 1 - i < x.cps.size := by show _ < x.length; omega
    refine next_rs_item hit (c := x.cps[x.length - 1 - i]) (Array.getElem?_eq_getElem hlt) hz fun h' u tk st' sb => ?_
    have e2 : ((x.length - 1 - i : Nat) : Int) - 1 = (x.length : Int) - 1 - ((i + 1 : Nat) : Int) := by omega
    rw [e2] at st'
    have I1 : Inv X pins σ H { s with heap := h', toks := tk } := I.turned (t' := tk) (fun b o hb e => (sb.2 b hb).trans e) f0 f1 f3 f4 f5
    obtain ⟨o, e, c, d⟩ := id st'
    exact ⟨_, rfl, go_of (s := { s with heap := h', toks := tk }) e c d (by decide) ⟨.str ⟨#[x.cps[x.length - 1 - i]]⟩, H, I1, ⟨u, rfl⟩, ⟨rfl, _, Array.getElem?_eq_getElem hlt, rfl⟩, ⟨hg, st'⟩, fun b hb => (hf b hb).1⟩⟩
  done := by
    intro X hP hw hK hc i pins s σ H E I hf st hg
    subst hP hw hK
    obtain ⟨f0, f1, f2, f3, f4, f5⟩ := hf it (by simp)
    obtain ⟨hin, hit⟩ := st
    have hge : x.length ≤ i := hg
    have e1 : (x.length : Int) - 1 - ((i : Nat) : Int) = -1 := by omega
    rw [e1] at hit
    exact next_rs_end (I.ok.hd hc) hit fun h' eb => ⟨rfl, I.turned (t' := s.toks) (fun b o hb e => eb b o hb e) f0 f1 f3 f4 f5⟩
  self := fun A i s Q E st h => iter_rs st.2 h
def iRevS (te : TE) : TI := fun σ H R => te σ H fun v H1 => ∃ x : Str, v = .str x ∧ x.length ≤ sizeLine ∧ R (ItvS x) H1
theorem pi_revS {X : Cx} {tg e : Expr} {te : TE} {p pos : Pos} (hg : Gl X "reversed") (hm : X.mg "reversed" = none) (he : PE X e te) (hs : starEach [e] X.env = (false, eval e X.env) :: starEach [] X.env := by rfl) : PI X tg (.Call (.Name "reversed" p) [e] [] pos) (iRevS te) := by
  refine ⟨fun pins s σ H R I h => ?_⟩
  refine Call_ (ld_blt I hg hm PyProof.Rows.boot_reversed (PyProof.Rows.callWith_type1 (args_cons (thn (he.run pins s σ H _ I h) fun u s1 ⟨v, H1, I1, r1, q1⟩ => args_nil ?_) hs) hs rfl))
  obtain ⟨x, ev, hz, q⟩ := q1
  subst ev
  obtain ⟨t, rfl⟩ := r1
  have hn := line63
  refine call_reversed_str (by omega) (iter_rs (x := x) (t := t) (i := ((x.length : Nat) : Int) - 1) ⟨_, Heap.get?_push_size _ rfl, rfl, rfl⟩ ?_)
  refine pi_one (tk := s1.toks + 1 + 1) I1 _ (turn_rs x t _ hz) ⟨Nat.zero_le _, ?_⟩ q
  have e1 : ((x.length : Nat) : Int) - 1 = (x.length : Int) - 1 - ((0 : Nat) : Int) := by omega
  rw [← e1]
  exact ⟨_, Heap.get?_push_size _ rfl, rfl, rfl⟩
theorem call_listS {X : Cx} (hc : X.calm = true) : CallR X (.type "list") (fun xs H Q => ∃ x : Str, xs = [.str x] ∧ x.length ≤ sizeLine ∧ ∀ l, H l = none → Q (.ref l) (upd H l (.lst (x.cps.toList.map fun c => V.str ⟨#[c]⟩)))) := by
  intro pins s σ H xs us Q I r h
  obtain ⟨x, rfl, hz, q⟩ := h
  obtain ⟨u, rfl, t, rfl⟩ := vals1 r
  refine ks_call (I.ok.hd hc) hz fun h' tk acc' c' hk hS' hacc => ?_
  have hf : H s.heap.objs.size = none := I.hok.fresh (Nat.le_refl _)
  have hl : acc'.size = x.cps.size := hacc.1
  refine ⟨.ref s.heap.objs.size, _, I.laid (t' := tk) (o := .lst (x.cps.toList.map fun c => V.str ⟨#[c]⟩)) hk (Nat.le_refl _) ⟨?_, acc'.toList, c', ?_, ?_⟩, rfl, q _ hf⟩
  · rw [List.length_map, Array.length_toList]; exact hz
  · have key : ∀ (cs : List Nat) (us : List Value), us.length = cs.length → (∀ (j : Nat) (v : Value), us[j]? = some v → ∃ c u, cs[j]? = some c ∧ v = .str ⟨#[c]⟩ u) → Vals (cs.map fun c => V.str ⟨#[c]⟩) us := by
      intro cs
      induction cs with
      | nil => intro us hl _; cases us with
        | nil => exact .nil
        | cons _ _ => cases hl
      | cons c cs ih => intro us hl hv; cases us with
        | nil => cases hl
        | cons v vs =>
          obtain ⟨c', u, e1, e2⟩ := hv 0 v rfl
          cases e1
          exact .cons ⟨u, e2⟩ (ih vs (by simpa using hl) fun j w hw => by simpa using hv (j + 1) w (by simpa using hw))
    refine key _ _ (by rw [Array.length_toList, Array.length_toList]; exact hl) fun j v e => ?_
    obtain ⟨c, u, e1, e2⟩ := hacc.2 j v (by rw [← Array.getElem?_toList]; exact e)
    exact ⟨c, u, by rw [Array.getElem?_toList]; exact e1, e2⟩
  · rw [hS']
end PuE
set_option maxRecDepth 100000
set_option maxHeartbeats 4000000
namespace Pu
open PySem L2 PySem.Spec PyProof.Rows
section
variable {Γ Γ' : Gm} {κ κ' : Ka} {H H' : Hp} {env env' : En} {σ : Sl} {v : V} {st : Sto} {Y : Fam} {a b e : Expr} {es : List Expr} {ta tb te : PTE} {pos : Pos}
theorem ve_lc {scope : Scope} {tg it elt : Expr} {ifs : List Expr} {own : List (Str × Nat)} {ti : PTI} {g : PTG} {tt : PTT} {vs : List Nat} (hN : ∀ i, (Y.X i).N.Nodup) (hi : VI Y tg it ti) (ok : ∀ i, BlkOk (Y.X i).N (Y.X i).env.scope scope own) (hg : VG (Y.blk scope) tg vs g) (ht : VTs (Y.blk scope) ifs tt) (he : VE (Y.blk scope) elt te)
    (hv : own.map (·.2) = vs := by rfl) (hc : ∀ i, (Y.X i).calm = true := by intro _; rfl) (hs : ∀ (X : Cx) x, foldedSetIterable it X.env x = pure x := by intro _ _; rfl) : VE Y (.ListComp elt [⟨tg, it, ifs, 0⟩] scope pos) (cLc ti g tt te vs) := by
  obtain ⟨ri, pi, fi⟩ := hi.ex
  obtain ⟨rg, pg, fg⟩ := hg.ex
  obtain ⟨rt, pt, ft⟩ := ht.ex
  obtain ⟨re, pe, fe⟩ := he.ex
  have pg' : ∀ (i : Y.ι) (s : Shared) (H : Hp) (C : Addr) (cl : List (Str × Addr)) (fp : List Addr), PG ((Y.X i).blk s H scope (compEnvC scope cl C (Y.X i).env) fp) tg rg := fun i s H C cl fp => pg (i, s, H, C, cl, fp)
  have pt' : ∀ (i : Y.ι) (s : Shared) (H : Hp) (C : Addr) (cl : List (Str × Addr)) (fp : List Addr), PTs ((Y.X i).blk s H scope (compEnvC scope cl C (Y.X i).env) fp) ifs (rt E0) := fun i s H C cl fp => pt (i, s, H, C, cl, fp)
  have pe' : ∀ (i : Y.ι) (s : Shared) (H : Hp) (C : Addr) (cl : List (Str × Addr)) (fp : List Addr), PE ((Y.X i).blk s H scope (compEnvC scope cl C (Y.X i).env) fp) elt (re E0) := fun i s H C cl fp => pe (i, s, H, C, cl, fp)
  refine ⟨⟨fun E => L2.tLc (ri E) rg (rt E0) (re E0) (own.map (·.2)), fun i => pe_lc (hc i) (hN i) (pi i) (ok i) (pg' i) (pt' i) (pe' i) (hs _), fun Γ σ κ H env Q Q' hK I q k => ?_⟩⟩
  exact lc_ref (it := it) (elt := elt) (ifs := ifs) (tg := tg) hv fi fg (fun Γ σ κ H env Q Q' gk eE I q k => by rw [← eE]; exact ft Γ σ κ H env Q Q' gk I q k) (fun Γ σ κ H env Q Q' gk eE I q k => by rw [← eE]; exact fe Γ σ κ H env Q Q' gk I q k) hK I q k
theorem vs_setLc {i : Nat} {y : Str} {py spos : Pos} {scope : Scope} {tg it elt : Expr} {ifs : List Expr} {own : List (Str × Nat)} {ti : PTI} {g : PTG} {tt : PTT} {vs : List Nat} (hN : ∀ i, (Y.X i).N.Nodup) (hi : VI Y tg it ti) (ok : ∀ i, BlkOk (Y.X i).N (Y.X i).env.scope scope own) (hg : VG (Y.blk scope) tg vs g) (ht : VTs (Y.blk scope) ifs tt) (he : VE (Y.blk scope) elt te)
    (hy : ∀ j, (Y.X j).N[i]? = some y := by intro _; rfl) (hyl : ∀ j, (Y.X j).env.scope.names.lookup y = some .local := by intro _; rfl)
    (hsw : ∀ j, swapsWith (.ListComp elt [⟨tg, it, ifs, 0⟩] scope pos) (some (.Name y py)) spos.line (Y.X j).env = pure true := by intro _; exact sw_true rfl rfl rfl (by decide +kernel))
    (hv : own.map (·.2) = vs := by rfl) (hc : ∀ i, (Y.X i).calm = true := by intro _; rfl) (hs : ∀ (X : Cx) x, foldedSetIterable it X.env x = pure x := by intro _ _; rfl) :
    VS Y (.Assign [.Name y py] (.ListComp elt [⟨tg, it, ifs, 0⟩] scope pos) spos) (sAsg i (cLc ti g tt te vs)) := by
  obtain ⟨ri, pi, fi⟩ := hi.ex
  obtain ⟨rg, pg, fg⟩ := hg.ex
  obtain ⟨rt, pt, ft⟩ := ht.ex
  obtain ⟨re, pe, fe⟩ := he.ex
  have pg' : ∀ (i : Y.ι) (s : Shared) (H : Hp) (C : Addr) (cl : List (Str × Addr)) (fp : List Addr), PG ((Y.X i).blk s H scope (compEnvC scope cl C (Y.X i).env) fp) tg rg := fun i s H C cl fp => pg (i, s, H, C, cl, fp)
  have pt' : ∀ (i : Y.ι) (s : Shared) (H : Hp) (C : Addr) (cl : List (Str × Addr)) (fp : List Addr), PTs ((Y.X i).blk s H scope (compEnvC scope cl C (Y.X i).env) fp) ifs (rt E0) := fun i s H C cl fp => pt (i, s, H, C, cl, fp)
  have pe' : ∀ (i : Y.ι) (s : Shared) (H : Hp) (C : Addr) (cl : List (Str × Addr)) (fp : List Addr), PE ((Y.X i).blk s H scope (compEnvC scope cl C (Y.X i).env) fp) elt (re E0) := fun i s H C cl fp => pe (i, s, H, C, cl, fp)
  refine ⟨⟨fun E => tAsg (L2.tLc (ri E) rg (rt E0) (re E0) (own.map (·.2))) (L2.gName i), fun j => ps_setLc (hc j) (hN j) (hy j) (hyl j) (hsw j) (pi j) (ok j) (pg' j) (pt' j) (pe' j) (hs _), fun Γ σ κ H env D D' hK I q l => ?_⟩⟩
  refine lc_ref (it := it) (elt := elt) (ifs := ifs) (tg := tg) hv fi fg (fun Γ σ κ H env Q Q' gk eE I q k => by rw [← eE]; exact ft Γ σ κ H env Q Q' gk I q k) (fun Γ σ κ H env Q Q' gk eE I q k => by rw [← eE]; exact fe Γ σ κ H env Q Q' gk I q k) hK I q fun v κ1 H1 r1 e1 x1 I1 h1 q1 => ?_
  exact asg_ok I1 (by rw [I1.len]; exact q1.1) h1 q1.2 fun κ2 e2 x2 I2 q2 => l.1 _ κ2 H1 e2 (x1.trans x2) I2 q2
abbrev PM := List D → Sto → (C → Sto → Prop) → Prop
/-- a def that raises nothing, by its pure promise -/
def sp0 (K : PySem.W.Frag) (cls : Cl) (flds : Nat → List Str) (m : PM) : Sp := fun vs H Q _ => ∃ (κ : Ka) (ds : List D) (st : Sto) (Q' : C → Sto → Prop),
  Gh ⟨K, H, κ, cls, flds, E0, noX⟩ κ st H ∧ RepL K cls κ H vs ds ∧ m ds st Q' ∧
  ∀ v κ' H' c st', Gh ⟨K, H, κ, cls, flds, E0, noX⟩ κ' st' H' → RelC ⟨K, H, κ, cls, flds, E0, noX⟩ κ' H' v c → Q' c st' → Q v H'
def C.toR (c : C) : R := match c with
  | .un => .d .non
  | .d y => .d y
  | .own ys => .own ys
  | .dK ys => .dK ys
  | .dT ys => .dT ys
def tCall0 (m : PM) (t : PTA) : PTE := fun x e Q => t x e fun ds e1 => m ds e1.st fun c st' => Q c.toR ⟨e1.sl, st'⟩
theorem Gh.enter {E' : XK} {x' : PX} (I : Rl Γ κ env σ H) : Gh ⟨Γ.K, H, κ, Γ.cls, Γ.flds, E', x'⟩ κ env.st H := by
  have g := I.gh
  refine ⟨fun _ _ e => e, fun _ _ e => .inl e, g.trk, fun _ e => e, g.box, fun a k e => ?_, g.inj, fun a o e _ => e, g.tabs⟩
  obtain ⟨so, h1, h2⟩ := g.obj a k e
  exact ⟨so, h1, h2.switch rfl rfl⟩
theorem Gh.leave {E' : XK} {x' : PX} {st' : Sto} (g : Gh Γ κ st H) (h : Gh ⟨Γ.K, H, κ, Γ.cls, Γ.flds, E', x'⟩ κ' st' H') : Gh Γ κ' st' H' := by
  refine ⟨fun a x e => h.sub a x (g.sub a x e), fun a x e => ?_, h.trk, fun a e => h.trk0 a (g.trk0 a e), h.box, fun a k e => ?_, h.inj, fun a o e hk => ?_, h.tabs⟩
  · rcases h.new a x e with z | z | ⟨z1, vs, z⟩
    · exact g.new a x z
    · exact .inr (.inl (g.nokap0 z))
    · cases q0 : Γ.H0 a with
      | none => exact .inr (.inl rfl)
      | some o =>
        cases qk : Γ.k0 a with
        | none =>
          have z : H a = some (.tup vs) := z
          have := g.base a o q0 (.inl qk)
          rw [z] at this
          exact .inr (.inr ⟨z1, vs, this.symm⟩)
        | some y =>
          have := h.sub a y (g.sub a y qk)
          rw [e] at this
          exact .inl this.symm
  · obtain ⟨so, h1, h2⟩ := h.obj a k e
    exact ⟨so, h1, h2.switch rfl rfl⟩
  · refine h.base a o (g.base a o e hk) ?_
    show κ a = none ∨ κ a = some .frz
    rcases hk with hk | hk
    · cases q : κ a with
      | none => exact .inl rfl
      | some x =>
        rcases g.new a x q with z | z | ⟨z, _⟩
        · rw [hk] at z; cases z
        · rw [e] at z; cases z
        · exact .inr (by rw [z])
    · exact .inr (g.sub a _ hk)
theorem Ext.leave {E' : XK} {x' : PX} {st' : Sto} (g : Gh Γ κ st H) (h : Gh ⟨Γ.K, H, κ, Γ.cls, Γ.flds, E', x'⟩ κ' st' H') : Ext κ H κ' H' := by
  refine ⟨h.sub, fun a e => ?_⟩
  cases q : H a with
  | none => exact absurd q (g.trk a _ e)
  | some o => exact h.base a o q (.inr e)
theorem Rl.leave {E' : XK} {x' : PX} {st' : Sto} (I : Rl Γ κ env σ H) (h : Gh ⟨Γ.K, H, κ, Γ.cls, Γ.flds, E', x'⟩ κ' st' H') : Rl Γ κ' ⟨env.sl, st'⟩ σ H' := by
  refine I.step (Ext.leave I.gh h) (fun i a hs => ?_) (I.gh.leave h)
  obtain ⟨c, _, hc⟩ := I.ownS hs
  obtain ⟨k1, _, k3⟩ := hc.facts
  constructor
  · cases q : κ' a with
    | none => rfl
    | some x =>
      rcases h.new a x q with z | z | ⟨_, vs, z⟩
      · have z : κ a = some x := z
        rw [k1] at z; cases z
      · exact absurd z k3
      · exact (hc.notTup z).elim
  · cases q : H a with
    | none => exact absurd q k3
    | some o => exact h.base a o q (.inl k1)
theorem RelC.leave {E' : XK} {x' : PX} {st' : Sto} {c : C} (I : Rl Γ κ env σ H) (h : RelC ⟨Γ.K, H, κ, Γ.cls, Γ.flds, E', x'⟩ κ' H' v c) : RelR Γ κ' H' ⟨env.sl, st'⟩ σ v c.toR := by
  have low : ∀ a, H a = none → Γ.H0 a = none := fun a z => I.gh.nokap0 z
  have ns : ∀ a, H a = none → ∀ i, ¬ OwnS ⟨env.sl, st'⟩ σ i a := fun a z i hs => I.fresh z i hs
  cases c with
  | un => exact h.elim
  | d d => exact h
  | own ds => obtain ⟨a, rfl, h1⟩ := h; exact ⟨a, rfl, OwnC.switch (Γ := ⟨Γ.K, H, κ, Γ.cls, Γ.flds, E', x'⟩) (Γ' := Γ) rfl rfl (low a h1.facts.2.1) h1, ns a h1.facts.2.1⟩
  | dK ds => obtain ⟨a, rfl, h1⟩ := h; exact ⟨a, rfl, OwnC.switch (Γ := ⟨Γ.K, H, κ, Γ.cls, Γ.flds, E', x'⟩) (Γ' := Γ) rfl rfl (low a h1.facts.2.1) h1, ns a h1.facts.2.1⟩
  | dT ds => obtain ⟨a, rfl, h1⟩ := h; exact ⟨a, rfl, OwnC.switch (Γ := ⟨Γ.K, H, κ, Γ.cls, Γ.flds, E', x'⟩) (Γ' := Γ) rfl rfl (low a h1.facts.2.1) h1, ns a h1.facts.2.1⟩
/-- a call of a def of the text that raises nothing -/
theorem ve_call0 {k : Nat} {f : Addr} {fd : FuncData} {ps : List Str} {x : Str} {p : Pos} {m : PM} {t : PTA} (F : ∀ i, FnG (Y.X i).prog (Y.X i).w (Y.X i).K (Y.X i).mg (Y.X i).base CX0 k f fd ps (sp0 Y.K Y.cls Y.flds m)) (hr : ∀ i, Room k (Y.X i).A) (hgd : ∀ i, (Y.X i).A.guards = some []) (hm : ∀ i, (Y.X i).mg x = some (.ref f)) (hk : PySem.W.keepIn Y.K (.ref f) = true) (hb : Binds Y.K fd ps [])
    (ha : VA Y (e :: es) t) (hg : ∀ i, Gl (Y.X i) x := by intro _; rfl) (hdb : (x == ("__debug__" : Str)) = false := by decide) (he : ∀ X : Cx, starEach (e :: es) X.env = (false, eval e X.env) :: starEach es X.env := by intro _; rfl) (hpl : ∀ X : Cx, (backTo pos (starEach es X.env)).any (·.1) = false := by intro _; rfl) :
    VE Y (.Call (.Name x p) (e :: es) [] pos) (tCall0 m t) := by
  obtain ⟨ra, pa, fa⟩ := ha.ex
  refine ⟨⟨fun E => tCall (sp0 Y.K Y.cls Y.flds m) [] E0 (ra E), fun i => pe_callG (F i) (hr i) (hgd i) (hg i) (hm i) (by rw [Y.hK i]; exact hk) (by rw [Y.hK i]; exact hb) .nil pass0 (pa i) hdb (he _) (hpl _), fun Γ σ κ H env Q Q' hK I q k => ?_⟩⟩
  refine fa Γ σ κ H env _ _ hK I q fun vs κ1 H1 ds e1 x1 I1 h1 q1 => ?_
  rw [List.append_nil, ← hK.k, ← hK.c, ← hK.f]
  refine ⟨κ1, ds, e1.st, _, Gh.enter I1, h1, q1, fun v κ' H' c st' g r q => ?_⟩
  exact k v κ' H' c.toR ⟨e1.sl, st'⟩ (x1.trans (Ext.leave I1.gh g)) (I1.leave g) (RelC.leave I1 r) q
/-- where a def's body runs -/
structure DI (qual : Str) (sc : Scope) (f : Addr) (k : Nat) where
  cdv : Value
  A : Around
  outer : List Env
  s : Shared
  H : Hp
  E : XK
  hr : Room k (A.deeper (envOfC qual sc s.heap.objs.size f cdv))
  gd : A.guards = some []
def fam0 (P : Program) (w : World) (K : PySem.W.Frag) (mg : Str → Option Value) (base : Heap) (N : List Str) (qual : Str) (sc : Scope) (f : Addr) (k : Nat) (cls : Cl) (flds : Nat → List Str) : Fam where
  ι := DI qual sc f k
  X := fun i => (cxOf CX0 P w K mg base N qual sc f i.cdv i.A i.outer i.s i.H i.E).nox
  E := fun _ => E0
  K := K
  hK := fun _ => rfl
  cls := cls
  flds := flds
def startC (N : List Str) (ds : List D) : List C := ds.map C.d ++ List.replicate (N.length - ds.length) C.un
theorem start_rl {N : List Str} {vs : List V} {ds : List D} {K : PySem.W.Frag} {cls : Cl} {flds : Nat → List Str} {E : XK} {x : PX} (g : Gh ⟨K, H, κ, cls, flds, E, x⟩ κ st H) (r : RepL K cls κ H vs ds) : Rl ⟨K, H, κ, cls, flds, E, x⟩ κ ⟨startC N ds, st⟩ (L2.start N vs) H := by
  refine ⟨by unfold L2.start startC; simp [r.length], fun i c ec => ?_, fun i j a h1 _ => ?_, g⟩
  · have ec : (startC N ds)[i]? = some c := ec
    unfold startC at ec
    by_cases hi : i < ds.length
    · rw [List.getElem?_append_left (by simpa using hi), List.getElem?_map, List.getElem?_eq_getElem hi] at ec
      cases ec
      obtain ⟨v, e1, r1⟩ := r.get (List.getElem?_eq_getElem hi)
      refine ⟨v, ?_, r1⟩
      unfold L2.start
      rw [List.getElem?_append_left (by rw [List.length_map, r.length]; exact hi), List.getElem?_map, e1]
      rfl
    · rw [List.getElem?_append_right (by simpa using hi), List.getElem?_replicate] at ec
      split at ec
      · cases ec; trivial
      · cases ec
  · obtain ⟨_, c, ec, hc⟩ := h1
    have ec : (startC N ds)[i]? = some c := ec
    unfold startC at ec
    by_cases hi : i < ds.length
    · rw [List.getElem?_append_left (by simpa using hi), List.getElem?_map, List.getElem?_eq_getElem hi] at ec
      cases ec
      cases hc
    · rw [List.getElem?_append_right (by simpa using hi), List.getElem?_replicate] at ec
      split at ec
      · cases ec; cases hc
      · cases ec
/-- THE RULE for a def that raises nothing -/
theorem fn0 {P : Program} {w : World} {K : PySem.W.Frag} {mg : Str → Option Value} {base : Heap} {N ps : List Str} {x qual : Str} {st : Stmt} {f : Addr} {fd : FuncData} {k : Nat} {cls : Cl} {flds : Nat → List Str} {t : PTS} {m : PM}
    (F : Fun K x qual st f fd) (S : FnScope N ps (defScope st)) (h : VSs (fam0 P w K mg base N qual (defScope st) f k cls flds) (defBody st) t) (len : ∀ ds s Q, m ds s Q → ds.length = ps.length)
    (ok : ∀ ds s Q, m ds s Q → t noX { nx := fun e => Q (.d .non) e.st, rt := fun c e => Q c e.st } ⟨startC N ds, s⟩) : FnG P w K mg base CX0 (k + 1) f fd ps (sp0 K cls flds m) := by
  refine fnG_of F S (fun vs H Q E hq => ?_) (fun cdv A outer s H vs Q E hr gd hq => ?_)
  · obtain ⟨κ, ds, st, Q', g, r, hm, _⟩ := hq
    rw [r.length]
    exact len ds st Q' hm
  · obtain ⟨κ, ds, st', Q', g, r, hm, fin⟩ := hq
    obtain ⟨rd, ph, fh⟩ := h.ex
    refine ⟨rd E0, (ph ⟨cdv, A, outer, s, H, E, hr, gd⟩).nox, ?_⟩
    refine fh ⟨K, H, κ, cls, flds, E0, noX⟩ (L2.start N vs) κ H ⟨startC N ds, st'⟩ _ _ ⟨rfl, rfl, rfl, fun _ _ _ _ _ _ _ _ z _ _ => False.elim z⟩ (start_rl g r) (ok ds st' Q' hm) ⟨fun σ' κ' H' e' x I q => ?_, fun v κ' H' c e' x gg rr q => fin v κ' H' c e'.st gg rr q, fun _ _ _ _ _ _ q => False.elim q, fun _ _ _ _ _ _ q => False.elim q⟩
    exact fin .non κ' H' (.d .non) e'.st I.gh .non q
/-- a weaker promise -/
theorem FnG.imp0 {P : Program} {w : World} {K : PySem.W.Frag} {mg : Str → Option Value} {base : Heap} {ps : List Str} {f : Addr} {fd : FuncData} {k : Nat} {cls : Cl} {flds : Nat → List Str} {m m' : PM}
    (F : FnG P w K mg base CX0 k f fd ps (sp0 K cls flds m)) (h : ∀ ds s Q, m' ds s Q → m ds s Q) : FnG P w K mg base CX0 k f fd ps (sp0 K cls flds m') :=
  F.imp fun vs H Q E ⟨κ, ds, st, Q', g, r, hm, fin⟩ => ⟨κ, ds, st, Q', g, r, h _ _ _ hm, fin⟩
end
end Pu
set_option maxRecDepth 100000
set_option maxHeartbeats 4000000
namespace Pu
open PySem L2
section
variable {Γ Γ' : Gm} {κ κ' : Ka} {H H' : Hp} {env env' : En} {σ : Sl} {v : V} {st : Sto} {Y : Fam} {a b e o : Expr} {es : List Expr} {ta tb te to : PTE} {pos : Pos}
def MtRef (T : String) (r : PySem.W.Frag → V → List V → Hp → VK → Prop) (p : D → List D → (R → Prop) → Prop) : Prop :=
  ∀ (Γ : Gm) (σ : Sl) (κ : Ka) (H : Hp) (env : En) (v : V) (d : D) (vs : List V) (ds : List D) (Q : R → Prop) (Q' : VK), Rl Γ κ env σ H → RepT Γ κ H v d → RepTL Γ κ H vs ds → p d ds Q →
    (∀ v' κ' H' r, Ext κ H κ' H' → Rl Γ κ' env σ H' → RelR Γ κ' H' env σ v' r → Q r → Q' v' H') → r Γ.K v vs H Q'
/-- what is of a built-in type, at its top -/
def D.isTy (T : String) : D → Prop
  | .str _ => T = "str"
  | .lst _ => T = "list"
  | _ => False
theorem tyV_of {T : String} {d : D} (h : RepT Γ κ H v d) (e : d.isTy T) : tyV Γ.K T v H := by
  cases d with
  | str s => obtain ⟨rfl, _⟩ := Rep.strE h; exact e
  | lst ds => obtain ⟨a, vs, rfl, h1, _⟩ := h; exact .inl ⟨e, vs, SqL.of h1⟩
  | _ => exact e.elim
def tMeth (T : String) (p : D → List D → (R → Prop) → Prop) (to : PTE) (t : PTR) : PTE := fun x e Q => to x e fun r e1 => hold r e1 fun r e1 => (match rv r e1 with
  | some d => d.isTy T
  | none => False) ∧ t x e1 fun rs e2 => match rv r e2, rvL rs e2 with
    | some d, some ds => p d ds (fun r => Q r e2)
    | _, _ => False
theorem ve_meth {id T : String} {name : Str} {apos cpos : Pos} {r : PySem.W.Frag → V → List V → Hp → VK → Prop} {p : D → List D → (R → Prop) → Prop} {t : PTR} (pa : PlainAttrs T) (slot : Slot T name id) (hty : typeOf (.builtin id) = pure (.type "method_descriptor")) (hm : ∀ i, MtR (Y.X i) id (r (Y.X i).K)) (hr : MtRef T r p) (ho : VE Y o to) (ha : VR Y (e :: es) t)
    (hbase : ∀ X : Cx, attributeBase o name X.env (eval o X.env) = eval o X.env := by intro _; rfl)
    (hfew : ∀ X : Cx, ((backTo cpos (starEach (e :: es) X.env)).all (fun x => !x.1) && (backToKw cpos (keywordEach [] X.env)).all (fun x => x.1.isSome)
      && decide ((e :: es).length + ([] : List Keyword).length + (if ([] : List Keyword).isEmpty then 0 else 1) < 30)) = true := by intro _; rfl)
    (hline : (apos.endLine == cpos.line) = true := by rfl) (hs : ∀ X : Cx, starEach (e :: es) X.env = (false, eval e X.env) :: starEach es X.env := by intro _; rfl) (hplain : ∀ X : Cx, (backTo cpos (starEach es X.env)).any (·.1) = false := by intro _; rfl) :
    VE Y (.Call (.Attribute o name apos) (e :: es) [] cpos) (tMeth T p to t) := by
  obtain ⟨ro, po, fo⟩ := ho.ex
  obtain ⟨ra, pa', fa⟩ := ha.ex
  refine ⟨⟨fun E => tBM Y.K T (r Y.K) (ro E) (ra E), fun i => ?_, fun Γ σ κ H env Q Q' hK I q k => ?_⟩⟩
  · have h1 := hm i
    have h2 := pe_bm pa slot hty h1 (po i) (pa' i) (hbase _) (hfew _) hline (hs _) (hplain _)
    rw [Y.hK i] at h2
    exact h2
  · refine fo Γ σ κ H env _ _ hK I q fun v κ1 H1 r1 e1 x1 I1 h1 q1 => ?_
    refine hold_ok I1 h1 q1 fun κ2 r2 x2 I2 h2 q2 => ?_
    obtain ⟨q2a, q2⟩ := q2
    rw [← hK.k]
    constructor
    · cases e' : rv r2 e1 with
      | none => rw [e'] at q2a; exact q2a.elim
      | some d => rw [e'] at q2a; exact tyV_of (rv_ok I2 h2.rel e') q2a
    · refine fa Γ σ κ2 H1 e1 _ _ hK I2 q2 fun vs κ3 H3 rs e3 x3 I3 h3 q3 => ?_
      have h2' : RelR Γ κ3 H3 e3 σ v r2 := (h2.ext x3).rel
      cases e1' : rv r2 e3 with
      | none => rw [e1'] at q3; exact False.elim q3
      | some d1 =>
        cases e2' : rvL rs e3 with
        | none => rw [e1', e2'] at q3; exact False.elim q3
        | some ds =>
          rw [e1', e2'] at q3
          exact hr Γ σ κ3 H3 e3 v d1 vs ds _ Q' I3 (rv_ok I3 h2' e1') (rvL_ok I3 h3 e2') q3 fun v' κ' H' r x I' h' q' => k v' κ' H' r e3 (((x1.trans x2).trans x3).trans x) I' h' q'
def tMeth0 (T : String) (p : D → List D → (R → Prop) → Prop) (to : PTE) : PTE := fun x e Q => to x e fun r e1 => match rv r e1 with
  | some d => d.isTy T ∧ p d [] (fun r => Q r e1)
  | none => False
/-- sep.join(list or tuple of texts) -/
def strL : List D → Option (List (List Nat))
  | [] => some []
  | .str s :: ds => match strL ds with
    | some r => some (s :: r)
    | none => none
  | _ => none
def joinN (s : List Nat) : List (List Nat) → List Nat
  | [] => []
  | [x] => x
  | x :: y :: r => x ++ (s ++ joinN s (y :: r))
def D.items : D → List D
  | .lst ds => ds
  | .tup ds => ds
  | _ => [.non]
def pJoin (d : D) (ds : List D) (Q : R → Prop) : Prop := match d, ds with
  | .str s, [x] => match strL x.items with
    | some r => (r.map List.length).sum + r.length * s.length ≤ 16777216 ∧ Q (.d (.str (joinN s r)))
    | none => False
  | _, _ => False
theorem strL_rep : ∀ {ds : List D} {vs : List V} {r : List (List Nat)}, RepL Γ.K Γ.cls κ H vs ds → strL ds = some r → vs = r.map (fun s => V.str ⟨s.toArray⟩) ∧ (∀ s ∈ r, SOk s)
  | [], _, _, h, e => by cases h; cases e; exact ⟨rfl, by simp⟩
  | .str s :: ds, _, _, .cons h1 h2, e => by
    unfold strL at e
    cases q : strL ds with
    | none => rw [q] at e; cases e
    | some r' =>
      rw [q] at e
      cases e
      obtain ⟨rfl, hs⟩ := h1.strE
      obtain ⟨rfl, hr⟩ := strL_rep h2 q
      refine ⟨rfl, fun t ht => ?_⟩
      rcases List.mem_cons.mp ht with rfl | ht
      · exact hs
      · exact hr t ht
  | .non :: _, _, _, _, e => by simp [strL] at e
  | .bl _ :: _, _, _, _, e => by simp [strL] at e
  | .int _ :: _, _, _, _, e => by simp [strL] at e
  | .tup _ :: _, _, _, _, e => by simp [strL] at e
  | .lst _ :: _, _, _, _, e => by simp [strL] at e
  | .scr _ :: _, _, _, _, e => by simp [strL] at e
  | .box :: _, _, _, _, e => by simp [strL] at e
  | .ref _ :: _, _, _, _, e => by simp [strL] at e
  | .cls _ :: _, _, _, _, e => by simp [strL] at e
  | .exc _ _ _ :: _, _, _, _, e => by simp [strL] at e
theorem joinN_eq (s : List Nat) : ∀ r : List (List Nat), joinN s r = TL.joinL s r
  | [] => rfl
  | [_] => rfl
  | x :: y :: r => by
    show x ++ (s ++ joinN s (y :: r)) = x ++ (s ++ TL.joinL s (y :: r))
    rw [joinN_eq s (y :: r)]
theorem joinN_len (s : List Nat) : ∀ r : List (List Nat), (joinN s r).length ≤ (r.map List.length).sum + r.length * s.length
  | [] => by simp [joinN]
  | [x] => by simp [joinN]
  | x :: y :: r => by
    have ih := joinN_len s (y :: r)
    show (x ++ (s ++ joinN s (y :: r))).length ≤ _
    rw [List.length_append, List.length_append, List.map_cons, List.sum_cons, List.length_cons, Nat.add_mul, Nat.one_mul]
    omega
theorem joinN_mem (s : List Nat) : ∀ (r : List (List Nat)) (c : Nat), c ∈ joinN s r → c ∈ s ∨ ∃ x ∈ r, c ∈ x
  | [], c, h => by simp [joinN] at h
  | [x], c, h => .inr ⟨x, by simp, h⟩
  | x :: y :: r, c, h => by
    have h : c ∈ x ++ (s ++ joinN s (y :: r)) := h
    rcases List.mem_append.mp h with h | h
    · exact .inr ⟨x, by simp, h⟩
    · rcases List.mem_append.mp h with h | h
      · exact .inl h
      · rcases joinN_mem s (y :: r) c h with h | ⟨z, hz, h⟩
        · exact .inl h
        · exact .inr ⟨z, List.mem_cons_of_mem _ hz, h⟩
def rJoin (K : PySem.W.Frag) : V → List V → Hp → VK → Prop := fun x xs H Q => ∃ a p, ∃ ys : List Str, x = .str a ∧ xs = [.ref p] ∧ (SqL K H p (ys.map V.str) ∨ SqT K H p (ys.map V.str)) ∧
    (ys.map (·.length)).sum + ys.length * a.length ≤ 16777216 ∧ Q (.str (Txt.join a ys)) H
theorem ref_join : MtRef "str" rJoin pJoin := by
  intro Γ σ κ H env v d vs ds Q Q' I hd hs q k
  match d, ds, vs, hd, hs, q with
  | .str s, [x], _, hd, .cons hx .nil, q =>
    obtain ⟨rfl, hs⟩ := Rep.strE hd
    unfold pJoin at q
    simp only at q
    cases qe : strL x.items with
    | none => rw [qe] at q; exact q.elim
    | some r =>
      rw [qe] at q
      have key : ∀ (p : Addr) (ws : List V), (SqL Γ.K H p ws ∨ SqT Γ.K H p ws) → RepL Γ.K Γ.cls κ H ws x.items → rJoin Γ.K (.str ⟨s.toArray⟩) [.ref p] H Q' := by
        intro p ws hp hr
        obtain ⟨rfl, hall⟩ := strL_rep hr qe
        have e1 : r.map (fun s => V.str ⟨s.toArray⟩) = (r.map fun s => (⟨s.toArray⟩ : Str)).map V.str := by rw [List.map_map]; rfl
        rw [e1] at hp
        refine ⟨_, p, r.map fun s => (⟨s.toArray⟩ : Str), rfl, rfl, hp, ?_, ?_⟩
        · rw [List.map_map, List.length_map, str_len]
          have : ((fun x => x.length) ∘ fun s : List Nat => (⟨s.toArray⟩ : Str)) = List.length := by
            funext s
            exact str_len s
          rw [this]
          exact q.1
        · have e2 : Txt.join ⟨s.toArray⟩ (r.map fun s => (⟨s.toArray⟩ : Str)) = ⟨(joinN s r).toArray⟩ := by
            rw [joinN_eq]
            exact SX.join_S s r
          rw [e2]
          refine k _ κ H (.d (.str (joinN s r))) (.refl ..) I (.str _ ⟨?_, fun c hc => ?_⟩) q.2
          · have h1 := joinN_len s r
            have h2 := q.1
            rw [sizeLine_eq]
            omega
          · rcases joinN_mem s r c hc with h | ⟨y, hy, h⟩
            · exact hs.2 c h
            · exact (hall y hy).2 c h
      cases x with
      | lst ds => obtain ⟨p, ws, rfl, h1, h2, h3⟩ := hx; exact key p ws (.inl (SqL.of h1)) h3
      | tup ds => obtain ⟨p, ws, rfl, h1, h2, h3⟩ := Rep.sqT hx; exact key p ws (.inr h1) h3
      | _ => simp [D.items, strL] at qe
theorem ve_join {apos cpos : Pos} {t : PTR} (ho : VE Y o to) (ha : VR Y [e] t) (hbase : ∀ X : Cx, attributeBase o "join" X.env (eval o X.env) = eval o X.env := by intro _; rfl)
    (hfew : ∀ X : Cx, ((backTo cpos (starEach [e] X.env)).all (fun x => !x.1) && (backToKw cpos (keywordEach [] X.env)).all (fun x => x.1.isSome)
      && decide (([e] : List Expr).length + ([] : List Keyword).length + (if ([] : List Keyword).isEmpty then 0 else 1) < 30)) = true := by intro _; rfl)
    (hline : (apos.endLine == cpos.line) = true := by rfl) (hs : ∀ X : Cx, starEach [e] X.env = (false, eval e X.env) :: starEach [] X.env := by intro _; rfl) :
    VE Y (.Call (.Attribute o "join" apos) [e] [] cpos) (tMeth "str" pJoin to t) :=
  ve_meth PySem.F.plainAttrs_str PySem.F.slot_str_join PySem.F.type_str_join (fun _ => mt_join) ref_join ho ha hbase hfew hline hs
/-- text.index(sign) -/
def ixOf (c : Nat) : List Nat → Nat
  | [] => 0
  | x :: xs => if x = c then 0 else ixOf c xs + 1
theorem ixOf_spec {c : Nat} : ∀ {l : List Nat}, c ∈ l → l[ixOf c l]? = some c ∧ ∀ j, j < ixOf c l → l[j]? ≠ some c
  | [], h => by cases h
  | x :: xs, h => by
    unfold ixOf
    by_cases e : x = c
    · rw [if_pos e]
      exact ⟨by simp [e], fun j hj => absurd hj (Nat.not_lt_zero _)⟩
    · rw [if_neg e]
      rcases List.mem_cons.mp h with h | h
      · exact absurd h.symm e
      · obtain ⟨h1, h2⟩ := ixOf_spec h
        refine ⟨by simpa using h1, fun j hj => ?_⟩
        cases j with
        | zero => simpa using e
        | succ j => simpa using h2 j (by omega)
theorem occ_stay (x y : Str) (hi i : Nat) : ∀ (l : List Nat) (st : Array Nat × Nat), st.fst = #[i] → (forIn l st (StrLaws.occBody x y hi 1)).run.fst = #[i]
  | [], st, h => h
  | a :: l, st, h => by
    rw [List.forIn_cons]
    unfold StrLaws.occBody
    rw [if_neg (by rw [h]; simp)]
    exact occ_stay x y hi i l _ h
theorem occ_first (x y : Str) (hi i : Nat) : ∀ (l : List Nat) (free : Nat), (∀ j ∈ l, free ≤ j) → i ∈ l → (i + y.length ≤ hi ∧ Builtin.Str.subAt x y i = true) → l.Pairwise (· < ·) → (∀ j ∈ l, j < i → ¬ (j + y.length ≤ hi ∧ Builtin.Str.subAt x y j = true)) →
    (forIn l ((#[] : Array Nat), free) (StrLaws.occBody x y hi 1)).run.fst = #[i]
  | [], _, _, h, _, _, _ => by cases h
  | a :: l, free, hf, hm, hc, hp, hn => by
    rw [List.forIn_cons]
    unfold StrLaws.occBody
    by_cases e : a = i
    · subst e
      rw [if_pos ⟨⟨⟨by simp, hf a (by simp)⟩, hc.1⟩, hc.2⟩]
      exact occ_stay x y hi a l _ (by simp)
    · have hil : i ∈ l := by
        rcases List.mem_cons.mp hm with h | h
        · exact absurd h.symm e
        · exact h
      have hai : a < i := (List.pairwise_cons.mp hp).1 i hil
      rw [if_neg (fun z => hn a (by simp) hai ⟨z.1.2, z.2⟩)]
      exact occ_first x y hi i l free (fun j hj => hf j (List.mem_cons_of_mem _ hj)) hil hc (List.pairwise_cons.mp hp).2 fun j hj => hn j (List.mem_cons_of_mem _ hj)
theorem occ_ix {l : List Nat} {c : Nat} (h : c ∈ l) : Builtin.Str.occurrences ⟨l.toArray⟩ ⟨#[c]⟩ 0 (⟨l.toArray⟩ : Str).length 1 = [ixOf c l] := by
  obtain ⟨h1, h2⟩ := ixOf_spec h
  rw [StrLaws.occ_eq, occ_first _ _ _ (ixOf c l)]
  · exact fun j _ => Nat.zero_le _
  · have := (List.getElem?_eq_some_iff.mp h1).1
    rw [str_len]
    simp only [List.mem_range'_1]
    omega
  · exact (StrLaws.subAt_one _ c _).mpr (by simpa using h1)
  · exact List.pairwise_lt_range' ..
  · exact fun j _ hj z => h2 j hj (by simpa using (StrLaws.subAt_one _ c j).mp z)
def pIndexS (d : D) (ds : List D) (Q : R → Prop) : Prop := match d, ds with
  | .str l, [.str [c]] => c ∈ l ∧ Q (.d (.int (ixOf c l)))
  | _, _ => False
theorem ref_indexS : MtRef "str" (fun _ x xs H Q => ∃ a b i rest, x = .str a ∧ xs = [.str b] ∧ Builtin.Str.occurrences a b 0 a.length 1 = i :: rest ∧ Q (.int (i : Nat)) H) pIndexS := by
  intro Γ σ κ H env v d vs ds Q Q' I hd hs q k
  match d, ds, vs, hd, hs, q with
  | .str l, [.str [c]], _, hd, .cons hx .nil, q =>
    obtain ⟨rfl, _⟩ := Rep.strE hd
    obtain ⟨rfl, _⟩ := Rep.strE hx
    exact ⟨_, _, _, _, rfl, rfl, occ_ix q.1, k _ κ H (.d (.int (ixOf c l))) (.refl ..) I (.int _) q.2⟩
theorem ve_indexS {apos cpos : Pos} {t : PTR} (ho : VE Y o to) (ha : VR Y [e] t) (hbase : ∀ X : Cx, attributeBase o "index" X.env (eval o X.env) = eval o X.env := by intro _; rfl)
    (hfew : ∀ X : Cx, ((backTo cpos (starEach [e] X.env)).all (fun x => !x.1) && (backToKw cpos (keywordEach [] X.env)).all (fun x => x.1.isSome)
      && decide (([e] : List Expr).length + ([] : List Keyword).length + (if ([] : List Keyword).isEmpty then 0 else 1) < 30)) = true := by intro _; rfl)
    (hline : (apos.endLine == cpos.line) = true := by rfl) (hs : ∀ X : Cx, starEach [e] X.env = (false, eval e X.env) :: starEach [] X.env := by intro _; rfl) :
    VE Y (.Call (.Attribute o "index" apos) [e] [] cpos) (tMeth "str" pIndexS to t) :=
  ve_meth PySem.F.plainAttrs_str PySem.F.slot_str_index PySem.F.type_str_index (fun _ => mt_sindex) ref_indexS ho ha hbase hfew hline hs
/-- list.index(data) -/
def ixD (d : D) : List D → Nat
  | [] => 0
  | x :: xs => if D.eq x d = true then 0 else ixD d xs + 1
def pIndexL (d : D) (ds : List D) (Q : R → Prop) : Prop := match d, ds with
  | .lst l, [y] => y.ok 64 = true ∧ D.okL l 63 = true ∧ (l.any fun z => D.eq z y) = true ∧ Q (.d (.int (ixD y l)))
  | _, _ => False
end
end Pu
set_option maxRecDepth 100000
set_option maxHeartbeats 4000000
namespace Pu
open PySem L2
section
variable {Γ Γ' : Gm} {κ κ' : Ka} {H H' : Hp} {env env' : En} {σ : Sl} {v : V} {st : Sto} {Y : Fam} {a b e o : Expr} {es : List Expr} {ta tb te to : PTE} {pos : Pos}
def mget : R → En → Option (List D)
  | .nam i, e => match e.sl[i]? with
    | some (.own ds) => some ds
    | _ => none
  | .d (.ref k), e => match e.st[k]? with
    | some (.lst ds) => some ds
    | _ => none
  | _, _ => none
def mset : R → En → List D → En
  | .nam i, e, ds => e.setC i (.own ds)
  | .d (.ref k), e, ds => ⟨e.sl, e.st.set k (.lst ds)⟩
  | _, e, _ => e
theorem Gh.upd_obj {p : Addr} {k : Nat} {o : HO} {so : SO} (g : Gh Γ κ st H) (h : κ p = some (.obj k)) (hr : ∀ H', H' p = some o → Ext κ H κ H' → ObjR Γ κ H' p so) (hk : k < st.length) : Gh Γ κ (st.set k so) (L2.upd H p o) := by
  have x : Ext κ H κ (L2.upd H p o) := ⟨fun _ _ e => e, fun a e => upd_ne fun z => by rw [z, h] at e; cases e⟩
  refine ⟨g.sub, g.new, fun b y e => ?_, fun b e => ?_, fun b e => ?_, fun b j e => ?_, g.inj, fun b u e hk' => ?_, g.tabs.ext x (fun b e => upd_ne fun z => by rw [z, h] at e; cases e) fun _ e => e⟩
  · by_cases hb : b = p
    · rw [hb, upd_same]; simp
    · rw [upd_ne hb]; exact g.trk b y e
  · by_cases hb : b = p
    · rw [hb, upd_same]; simp
    · rw [upd_ne hb]; exact g.trk0 b e
  · rw [upd_ne (fun z => by rw [z, h] at e; cases e)]; exact g.box b e
  · by_cases hb : b = p
    · subst hb
      rw [h] at e
      cases e
      exact ⟨so, by rw [List.getElem?_set_self hk], hr _ upd_same x⟩
    · have hj : j ≠ k := fun z => hb (g.inj b p k (z ▸ e) h)
      obtain ⟨so', h1, h2⟩ := g.obj b j e
      exact ⟨so', by rw [List.getElem?_set_ne (Ne.symm hj)]; exact h1, h2.ext x (upd_ne hb)⟩
  · by_cases hb : b = p
    · subst hb
      rcases g.new b _ h with z | z | ⟨z, _⟩
      · rcases hk' with q | q <;> (rw [q] at z; cases z)
      · rw [e] at z; cases z
      · cases z
    · rw [upd_ne hb]; exact g.base b u e hk'
theorem mut_ok {r : R} {ds : List D} (I : Rl Γ κ env σ H) (h : HeldR Γ κ H σ v r) (e : mget r env = some ds) : ∃ a vs, v = .ref a ∧ H a = some (.lst vs) ∧ vs.length ≤ sizeLine ∧ RepL Γ.K Γ.cls κ H vs ds ∧
    ∀ vs' ds', vs'.length ≤ sizeLine → RepL Γ.K Γ.cls κ H vs' ds' → Ext κ H κ (upd H a (.lst vs')) ∧ Rl Γ κ (mset r env ds') σ (upd H a (.lst vs')) := by
  cases r with
  | nam i =>
    have h : σ[i]? = some (some v) := h
    unfold mget at e
    simp only at e
    cases q : env.sl[i]? with
    | none => rw [q] at e; cases e
    | some c =>
      have s := I.get q
      rw [q] at e
      cases c with
      | own ds' =>
        cases e
        obtain ⟨a, e1, k1, h0, vs, h2, h3, h4⟩ := s
        rw [h] at e1
        cases e1
        refine ⟨a, vs, rfl, h2, h3, h4, fun vs' ds' l' r' => ?_⟩
        have x : Ext κ H κ (L2.upd H a (.lst vs')) := Ext.upd k1
        have hi : i < env.sl.length := (List.getElem?_eq_some_iff.mp q).1
        have own_i : OwnS env σ i a := ⟨h, _, q, rfl⟩
        refine ⟨x, ⟨by rw [I.len]; simp [mset, En.setC], fun j c ec => ?_, fun j l b o1 o2 => ?_, I.gh.upd k1 h0⟩⟩
        · have ec : (env.sl.set i (C.own ds'))[j]? = some c := ec
          by_cases hj : j = i
          · subst hj
            rw [List.getElem?_set_self hi] at ec
            cases ec
            exact ⟨a, h, k1, h0, vs', upd_same, l', r'.mono x⟩
          · rw [List.getElem?_set_ne (Ne.symm hj)] at ec
            have s := I.get ec
            cases hc : c.isOwn with
            | true =>
              obtain ⟨b, e1, hb⟩ := s.own hc
              have hba : b ≠ a := fun z => hj (I.dist j i a ⟨z ▸ e1, c, ec, hc⟩ own_i)
              exact .mk e1 (hb.ext x hb.facts.1 (upd_ne hba))
            | false =>
              cases c with
              | un => trivial
              | d d => obtain ⟨v, e1, r⟩ := s; exact ⟨v, e1, r.mono x⟩
              | _ => cases hc
        · have old : ∀ m, OwnS (env.setC i (.own ds')) σ m b → OwnS env σ m b := fun m ⟨z1, c, z2, z3⟩ => by
            have z2 : (env.sl.set i (C.own ds'))[m]? = some c := z2
            by_cases hm : m = i
            · subst hm
              exact ⟨z1, _, q, rfl⟩
            · rw [List.getElem?_set_ne (Ne.symm hm)] at z2
              exact ⟨z1, c, z2, z3⟩
          exact I.dist j l b (old j o1) (old l o2)
      | _ => cases e
  | d d =>
    cases d with
    | ref k =>
      unfold mget at e
      simp only at e
      cases q : env.st[k]? with
      | none => rw [q] at e; cases e
      | some so =>
        rw [q] at e
        cases so with
        | lst ds' =>
          cases e
          cases h with
          | @ref a _ hk =>
            obtain ⟨so, g1, g2⟩ := I.gh.obj a k hk
            rw [q] at g1
            cases g1
            obtain ⟨vs, h2, h3, h4⟩ := g2
            refine ⟨a, vs, rfl, h2, h3, h4, fun vs' ds' l' r' => ?_⟩
            have x : Ext κ H κ (L2.upd H a (.lst vs')) := ⟨fun _ _ e => e, fun b e => upd_ne fun z => by rw [z, hk] at e; cases e⟩
            refine ⟨x, I.step x (fun i b hb => ?_) (I.gh.upd_obj (so := .lst ds') hk (fun H' e x' => ⟨vs', e, l', r'.mono x'⟩) (List.getElem?_eq_some_iff.mp q).1)⟩
            obtain ⟨c, _, hc⟩ := I.ownS hb
            exact ⟨hc.facts.1, upd_ne fun z => by have := hc.facts.1; rw [z, hk] at this; cases this⟩
        | _ => cases e
    | _ => cases e
  | own _ => cases e
  | dK _ => cases e
  | dT _ => cases e
abbrev PMu := List D → List D → (List D → D → Prop) → Prop
def MutRef (r : V → List V → Hp → VK → Prop) (p : PMu) : Prop :=
  ∀ (Γ : Gm) (κ : Ka) (H : Hp) (a : Addr) (vs ws : List V) (ds as : List D) (K : List D → D → Prop) (Q' : VK), H a = some (.lst vs) → vs.length ≤ sizeLine → RepL Γ.K Γ.cls κ H vs ds → RepL Γ.K Γ.cls κ H ws as → (κ a ≠ some .frz) → p ds as K →
    (∀ y vs' ds' dy, vs'.length ≤ sizeLine → RepL Γ.K Γ.cls κ H vs' ds' → Rep Γ.K Γ.cls κ H y dy → K ds' dy → Q' y (upd H a (.lst vs'))) → r (.ref a) ws H Q'
def tMut (p : PMu) (to : PTE) (t : PTA) : PTE := fun x e Q => to x e fun r e1 => hold r e1 fun r e1 => (mget r e1).isSome = true ∧ t x e1 fun as e2 => match mget r e2 with
  | some ds => p ds as fun ds' y => Q (.d y) (mset r e2 ds')
  | none => False
theorem mut_fin {r : V → List V → Hp → VK → Prop} {p : PMu} {R2' : R} {ws : List V} {as : List D} {Q : R → En → Prop} {Q' : VK} (hr : MutRef r p) (I : Rl Γ κ env σ H) (h : HeldR Γ κ H σ v R2') (ha : RepL Γ.K Γ.cls κ H ws as)
    (q : match mget R2' env with | some ds => p ds as fun ds' y => Q (.d y) (mset R2' env ds') | none => False)
    (k : ∀ v κ' H' r env', Ext κ H κ' H' → Rl Γ κ' env' σ H' → RelR Γ κ' H' env' σ v r → Q r env' → Q' v H') : r v ws H Q' := by
  cases e1 : mget R2' env with
  | none => rw [e1] at q; exact q.elim
  | some ds =>
    rw [e1] at q
    obtain ⟨a, vs, rfl, h1, h2, h3, h4⟩ := mut_ok I h e1
    refine hr Γ κ H a vs ws ds as _ Q' h1 h2 h3 ha ?_ q fun y vs' ds' dy l' r' ry q' => ?_
    · intro z
      cases R2' with
      | nam i =>
        have h : σ[i]? = some (some (V.ref a)) := h
        unfold mget at e1
        simp only at e1
        cases q : env.sl[i]? with
        | none => rw [q] at e1; cases e1
        | some c =>
          rw [q] at e1
          cases c with
          | own ds' =>
            obtain ⟨c, _, hc⟩ := I.ownS (i := i) (a := a) ⟨h, _, q, rfl⟩
            rw [hc.facts.1] at z; cases z
          | _ => cases e1
      | d d =>
        cases d with
        | ref k => cases h with | ref hk => rw [hk] at z; cases z
        | _ => cases e1
      | _ => cases e1
    · obtain ⟨x, J⟩ := h4 vs' ds' l' r'
      exact k y κ _ (.d dy) (mset R2' env ds') x J (ry.mono x) q'
theorem tyV_mut {r : R} (I : Rl Γ κ env σ H) (h : HeldR Γ κ H σ v r) (e : (mget r env).isSome = true) : tyV Γ.K "list" v H := by
  obtain ⟨ds, e1⟩ := Option.isSome_iff_exists.mp e
  obtain ⟨a, vs, rfl, h1, _⟩ := mut_ok I h e1
  exact .inl ⟨rfl, vs, SqL.of h1⟩
theorem ve_mut {id : String} {name : Str} {apos cpos : Pos} {r : V → List V → Hp → VK → Prop} {p : PMu} {t : PTA} (slot : Slot "list" name id) (hty : typeOf (.builtin id) = pure (.type "method_descriptor")) (hm : ∀ i, MtR (Y.X i) id r) (hr : MutRef r p) (ho : VE Y o to) (ha : VA Y (e :: es) t)
    (hbase : ∀ X : Cx, attributeBase o name X.env (eval o X.env) = eval o X.env := by intro _; rfl)
    (hfew : ∀ X : Cx, ((backTo cpos (starEach (e :: es) X.env)).all (fun x => !x.1) && (backToKw cpos (keywordEach [] X.env)).all (fun x => x.1.isSome)
      && decide ((e :: es).length + ([] : List Keyword).length + (if ([] : List Keyword).isEmpty then 0 else 1) < 30)) = true := by intro _; rfl)
    (hline : (apos.endLine == cpos.line) = true := by rfl) (hs : ∀ X : Cx, starEach (e :: es) X.env = (false, eval e X.env) :: starEach es X.env := by intro _; rfl) (hplain : ∀ X : Cx, (backTo cpos (starEach es X.env)).any (·.1) = false := by intro _; rfl) :
    VE Y (.Call (.Attribute o name apos) (e :: es) [] cpos) (tMut p to t) := by
  obtain ⟨ro, po, fo⟩ := ho.ex
  obtain ⟨ra, pa', fa⟩ := ha.ex
  refine ⟨⟨fun E => tBM Y.K "list" r (ro E) (ra E), fun i => ?_, fun Γ σ κ H env Q Q' hK I q k => ?_⟩⟩
  · have h2 := pe_bm PySem.F.plainAttrs_list slot hty (hm i) (po i) (pa' i) (hbase _) (hfew _) hline (hs _) (hplain _)
    rw [Y.hK i] at h2
    exact h2
  · refine fo Γ σ κ H env _ _ hK I q fun v κ1 H1 r1 e1 x1 I1 h1 q1 => ?_
    refine hold_ok I1 h1 q1 fun κ2 r2 x2 I2 h2 q2 => ?_
    rw [← hK.k]
    refine ⟨tyV_mut I2 h2 q2.1, fa Γ σ κ2 H1 e1 _ _ hK I2 q2.2 fun vs κ3 H3 as e3 x3 I3 h3 q3 => ?_⟩
    exact mut_fin hr I3 (h2.ext x3) h3 q3 fun v' κ' H' r e' x => k v' κ' H' r e' (((x1.trans x2).trans x3).trans x)
theorem ve_mut0 {id : String} {name : Str} {apos cpos : Pos} {r : V → List V → Hp → VK → Prop} {p : PMu} (slot : Slot "list" name id) (hty : typeOf (.builtin id) = pure (.type "method_descriptor")) (hm : ∀ i, MtR (Y.X i) id r) (hr : MutRef r p) (ho : VE Y o to)
    (hbase : ∀ X : Cx, attributeBase o name X.env (eval o X.env) = eval o X.env := by intro _; rfl) (hline : (apos.endLine == cpos.line) = true := by rfl) :
    VE Y (.Call (.Attribute o name apos) [] [] cpos) (tMut p to tNil) := by
  obtain ⟨ro, po, fo⟩ := ho.ex
  refine ⟨⟨fun E => tBM0 Y.K "list" r (ro E), fun i => ?_, fun Γ σ κ H env Q Q' hK I q k => ?_⟩⟩
  · have h2 := pe_bm0 PySem.F.plainAttrs_list slot hty (hm i) (po i) (hbase _) hline
    rw [Y.hK i] at h2
    exact h2
  · refine fo Γ σ κ H env _ _ hK I q fun v κ1 H1 r1 e1 x1 I1 h1 q1 => ?_
    refine hold_ok I1 h1 q1 fun κ2 r2 x2 I2 h2 q2 => ?_
    rw [← hK.k]
    refine ⟨tyV_mut I2 h2 q2.1, ?_⟩
    exact mut_fin hr I2 h2 (.nil) q2.2 fun v' κ' H' r e' x => k v' κ' H' r e' ((x1.trans x2).trans x)
def mAppend : PMu := fun ds as K => match as with
  | [y] => ds.length < sizeLine ∧ K (ds ++ [y]) .non
  | _ => False
theorem ref_append : MutRef rAppend mAppend := by
  intro Γ κ H a vs ws ds as K Q' h1 h2 h3 h4 hk q k
  match as, ws, h4, q with
  | [y], _, .cons (v := w) r .nil, q => exact ⟨a, vs, w, rfl, rfl, h1, by rw [h3.length]; exact q.1, k .non (vs ++ [w]) (ds ++ [y]) .non (by rw [List.length_append, h3.length]; exact q.1) (h3.append (.cons r .nil)) .non q.2⟩
@[irreducible] def mPop : PMu := fun ds as K => match as with
  | [] => match ds[ds.length - 1]? with
    | some y => K ds.dropLast y
    | none => False
  | _ => False
theorem ref_pop : MutRef rPop mPop := by
  intro Γ κ H a vs ws ds as K Q' h1 h2 h3 h4 hk q k
  unfold mPop at q
  match as, ws, h4, q with
  | [], _, .nil, q =>
    simp only at q
    cases e : ds[ds.length - 1]? with
    | none => rw [e] at q; exact q.elim
    | some y =>
      rw [e] at q
      obtain ⟨w, e1, r⟩ := h3.get e
      exact ⟨a, vs, w, rfl, rfl, h1, by rw [h3.length]; exact e1, k w vs.dropLast ds.dropLast y (by rw [List.length_dropLast]; omega) h3.dropLast r q⟩
@[irreducible] def mPopAt : PMu := fun ds as K => match as with
  | [.int i] => match ixN ds.length i with
    | some j => match ds[j]? with
      | some y => K (ds.eraseIdx j) y
      | none => False
    | none => False
  | _ => False
theorem ref_popAt : MutRef rPopAt mPopAt := by
  intro Γ κ H a vs ws ds as K Q' h1 h2 h3 h4 hk q k
  unfold mPopAt at q
  match as, ws, h4, q with
  | [.int i], _, .cons r .nil, q =>
    cases r
    simp only at q
    cases e : ixN ds.length i with
    | none => rw [e] at q; exact q.elim
    | some j =>
      rw [e] at q
      simp only at q
      cases e2 : ds[j]? with
      | none => rw [e2] at q; exact q.elim
      | some y =>
        rw [e2] at q
        obtain ⟨s1, s2, s3, s4⟩ := ixN_seq e
        obtain ⟨w, e3, rw'⟩ := h3.get e2
        have hl := line63
        have hl2 := h3.length
        exact ⟨a, vs, i, j, w, rfl, rfl, h1, by omega, by omega, by rw [h3.length]; exact s1, e3, k w (vs.eraseIdx j) (ds.eraseIdx j) y (Nat.le_trans (List.length_eraseIdx_le ..) h2) (h3.eraseIdx j) rw' q⟩
def mExtend : PMu := fun ds as K => match as with
  | [.lst zs] => ds.length + zs.length ≤ sizeLine ∧ K (ds ++ zs) .non
  | _ => False
theorem ref_extend : MutRef rExtend mExtend := by
  intro Γ κ H a vs ws ds as K Q' h1 h2 h3 h4 hk q k
  match as, ws, h4, q with
  | [.lst zs], _, .cons r .nil, q =>
    cases r with
    | @lst b us _ g1 g2 g3 g4 => exact ⟨a, b, vs, us, rfl, rfl, h1, g2, by rw [h3.length, g4.length]; exact q.1, k .non (vs ++ us) (ds ++ zs) .non (by rw [List.length_append, h3.length, g4.length]; exact q.1) (h3.append g4) .non q.2⟩
def mReverse : PMu := fun ds as K => match as with
  | [] => K ds.reverse .non
  | _ => False
section
variable {apos cpos : Pos} {t : PTA}
variable (hbase : ∀ (n : Str) (X : Cx), attributeBase o n X.env (eval o X.env) = eval o X.env)
theorem ve_append (ho : VE Y o to) (ha : VA Y [e] t) (hbase : ∀ X : Cx, attributeBase o "append" X.env (eval o X.env) = eval o X.env := by intro _; rfl)
    (hfew : ∀ X : Cx, ((backTo cpos (starEach [e] X.env)).all (fun x => !x.1) && (backToKw cpos (keywordEach [] X.env)).all (fun x => x.1.isSome)
      && decide (([e] : List Expr).length + ([] : List Keyword).length + (if ([] : List Keyword).isEmpty then 0 else 1) < 30)) = true := by intro _; rfl)
    (hline : (apos.endLine == cpos.line) = true := by rfl) (hs : ∀ X : Cx, starEach [e] X.env = (false, eval e X.env) :: starEach [] X.env := by intro _; rfl) : VE Y (.Call (.Attribute o "append" apos) [e] [] cpos) (tMut mAppend to t) :=
  ve_mut PySem.F.slot_list_append PySem.F.type_list_append (fun _ => mt_append) ref_append ho ha hbase hfew hline hs
theorem ve_extend (ho : VE Y o to) (ha : VA Y [e] t) (hbase : ∀ X : Cx, attributeBase o "extend" X.env (eval o X.env) = eval o X.env := by intro _; rfl)
    (hfew : ∀ X : Cx, ((backTo cpos (starEach [e] X.env)).all (fun x => !x.1) && (backToKw cpos (keywordEach [] X.env)).all (fun x => x.1.isSome)
      && decide (([e] : List Expr).length + ([] : List Keyword).length + (if ([] : List Keyword).isEmpty then 0 else 1) < 30)) = true := by intro _; rfl)
    (hline : (apos.endLine == cpos.line) = true := by rfl) (hs : ∀ X : Cx, starEach [e] X.env = (false, eval e X.env) :: starEach [] X.env := by intro _; rfl) : VE Y (.Call (.Attribute o "extend" apos) [e] [] cpos) (tMut mExtend to t) :=
  ve_mut PySem.F.slot_list_extend PySem.F.type_list_extend (fun _ => mt_extend) ref_extend ho ha hbase hfew hline hs
theorem ve_popAt (ho : VE Y o to) (ha : VA Y [e] t) (hbase : ∀ X : Cx, attributeBase o "pop" X.env (eval o X.env) = eval o X.env := by intro _; rfl)
    (hfew : ∀ X : Cx, ((backTo cpos (starEach [e] X.env)).all (fun x => !x.1) && (backToKw cpos (keywordEach [] X.env)).all (fun x => x.1.isSome)
      && decide (([e] : List Expr).length + ([] : List Keyword).length + (if ([] : List Keyword).isEmpty then 0 else 1) < 30)) = true := by intro _; rfl)
    (hline : (apos.endLine == cpos.line) = true := by rfl) (hs : ∀ X : Cx, starEach [e] X.env = (false, eval e X.env) :: starEach [] X.env := by intro _; rfl) : VE Y (.Call (.Attribute o "pop" apos) [e] [] cpos) (tMut mPopAt to t) :=
  ve_mut PySem.F.slot_list_pop PySem.F.type_list_pop (fun _ => mt_popAt) ref_popAt ho ha hbase hfew hline hs
theorem ve_pop (ho : VE Y o to) (hbase : ∀ X : Cx, attributeBase o "pop" X.env (eval o X.env) = eval o X.env := by intro _; rfl) (hline : (apos.endLine == cpos.line) = true := by rfl) : VE Y (.Call (.Attribute o "pop" apos) [] [] cpos) (tMut mPop to tNil) :=
  ve_mut0 PySem.F.slot_list_pop PySem.F.type_list_pop (fun _ => mt_pop) ref_pop ho hbase hline
end
/-- list(x) -/
def pList : List D → (R → Prop) → Prop
  | [.lst ds], Q => Q (.own ds)
  | [.tup ds], Q => Q (.own ds)
  | [.str s], Q => Q (.own (signs s))
  | _, _ => False
def rListAll (K : PySem.W.Frag) : List V → Hp → VK → Prop := fun xs H Q => (∃ p ys, xs = [.ref p] ∧ (SqL K H p ys ∨ SqT K H p ys) ∧ ∀ l, H l = none → Q (.ref l) (upd H l (.lst ys))) ∨
  ∃ x : Str, xs = [.str x] ∧ x.length ≤ sizeLine ∧ ∀ l, H l = none → Q (.ref l) (upd H l (.lst (x.cps.toList.map fun c => V.str ⟨#[c]⟩)))
theorem call_listAll {X : Cx} (hc : X.calm = true) : CallR X (.type "list") (rListAll X.K) := CallR.or call_list_of (PuE.call_listS hc)
theorem signs_rep {s : List Nat} (hs : ∀ c ∈ s, c < 1114112) : RepL Γ.K Γ.cls κ H (s.map fun c => V.str ⟨#[c]⟩) (signs s) := by
  induction s with
  | nil => exact .nil
  | cons c s ih => exact .cons (.str [c] ⟨by show 1 ≤ sizeLine; decide, fun d hd => by
      have : d = c := by simpa using hd
      rw [this]; exact hs c (by simp)⟩) (ih fun d hd => hs d (List.mem_cons_of_mem _ hd))
theorem signs_length (s : List Nat) : (signs s).length = s.length := by unfold signs; rw [List.length_map]
theorem ref_list : CallRef rListAll pList := by
  intro Γ σ κ H env vs ds Q Q' I h q k
  match ds, vs, h, q with
  | [.lst ds], _, .cons h .nil, q =>
    obtain ⟨a, ws, rfl, h1, h2, h3⟩ := h
    exact .inl ⟨a, ws, rfl, .inl (SqL.of h1), fun l hl => k _ κ _ (.own ds) (Ext.upd_new I.gh hl) (I.upd_new hl) (new_lst I hl h2 h3) q⟩
  | [.tup ds], _, .cons h .nil, q =>
    obtain ⟨a, ws, rfl, h1, h2, h3⟩ := Rep.sqT h
    exact .inl ⟨a, ws, rfl, .inr h1, fun l hl => k _ κ _ (.own ds) (Ext.upd_new I.gh hl) (I.upd_new hl) (new_lst I hl h2 h3) q⟩
  | [.str s], _, .cons h .nil, q =>
    obtain ⟨rfl, hs⟩ := Rep.strE h
    refine .inr ⟨_, rfl, by rw [str_len]; exact hs.1, fun l hl => ?_⟩
    have hl2 : (s.map fun c => V.str ⟨#[c]⟩).length ≤ sizeLine := by rw [List.length_map]; exact hs.1
    exact k _ κ _ (.own (signs s)) (Ext.upd_new I.gh hl) (I.upd_new hl) (new_lst I hl hl2 (signs_rep hs.2)) q
theorem ve_list {p' : Pos} {t : PTR} (hm : ∀ i, (Y.X i).mg "list" = none) (ha : VR Y [e] t) (hc : ∀ i, (Y.X i).calm = true := by intro _; rfl) (hg : ∀ i, Gl (Y.X i) "list" := by intro _; rfl) (he : ∀ X : Cx, starEach [e] X.env = (false, eval e X.env) :: starEach [] X.env := by intro _; rfl) : VE Y (.Call (.Name "list" p') [e] [] pos) (tCallP pList t) :=
  ve_callTy (fun i => call_listAll (hc i)) ref_list hm ha hg (he := he)
/-- tuple(x) -/
def pTuple : List D → (R → Prop) → Prop
  | [.lst ds], Q => Q (.d (.tup ds))
  | [.tup ds], Q => Q (.d (.tup ds))
  | _, _ => False
/-- min, max of two ints -/
def pMin2 : List D → (R → Prop) → Prop
  | [.int i, .int j], Q => Q (.d (.int (if j < i then j else i)))
  | _, _ => False
def pMax2 : List D → (R → Prop) → Prop
  | [.int i, .int j], Q => Q (.d (.int (if j > i then j else i)))
  | _, _ => False
theorem ref_min2 : CallRef (fun _ xs H Q => ∃ i j, xs = [.int i, .int j] ∧ Q (.int (if j < i then j else i)) H) pMin2 := by
  intro Γ σ κ H env vs ds Q Q' I h q k
  match ds, vs, h, q with
  | [.int i, .int j], _, .cons h (.cons h' .nil), q =>
    cases h; cases h'
    exact ⟨i, j, rfl, k _ κ H (.d (.int _)) (.refl ..) I (.int _) q⟩
theorem ve_min2 {p' : Pos} {t : PTR} (hm : ∀ i, (Y.X i).mg "min" = none) (ha : VR Y [a, b] t) (hc : ∀ i, (Y.X i).calm = true := by intro _; rfl) (hg : ∀ i, Gl (Y.X i) "min" := by intro _; rfl) (he : ∀ X : Cx, starEach [a, b] X.env = (false, eval a X.env) :: starEach [b] X.env := by intro _; rfl) (hpl : ∀ X : Cx, (backTo pos (starEach [b] X.env)).any (·.1) = false := by intro _; rfl) : VE Y (.Call (.Name "min" p') [a, b] [] pos) (tCallP pMin2 t) :=
  ve_callB (fun i => call_min2 (hc i)) ref_min2 hm ha hg (he := he) (hpl := hpl)
/-- all, any of a list of bools -/
def blL : List D → Option (List Bool)
  | [] => some []
  | .bl b :: ds => match blL ds with
    | some r => some (b :: r)
    | none => none
  | _ => none
@[irreducible] def pAll : List D → (R → Prop) → Prop
  | [.lst ds], Q => match blL ds with
    | some r => Q (.d (.bl (r.all id)))
    | none => False
  | _, _ => False
@[irreducible] def pAny : List D → (R → Prop) → Prop
  | [.lst ds], Q => match blL ds with
    | some r => Q (.d (.bl (r.any id)))
    | none => False
  | _, _ => False
/-- int(b), int(n) -/
def pInt : List D → (R → Prop) → Prop
  | [.int i], Q => Q (.d (.int i))
  | [.bl b], Q => Q (.d (.int (if b then 1 else 0)))
  | _, _ => False
theorem ref_int : CallRef (fun _ xs H Q => (∃ i, xs = [.int i] ∧ Q (.int i) H) ∨ ∃ k, xs = [.bl k] ∧ Q (.int (if k then 1 else 0)) H) pInt := by
  intro Γ σ κ H env vs ds Q Q' I h q k
  match ds, vs, h, q with
  | [.int i], _, .cons h .nil, q => cases h; exact .inl ⟨i, rfl, k _ κ H (.d (.int _)) (.refl ..) I (.int _) q⟩
  | [.bl b], _, .cons h .nil, q => cases h; exact .inr ⟨b, rfl, k _ κ H (.d (.int _)) (.refl ..) I (.int _) q⟩
theorem ve_int1 {p' : Pos} {t : PTR} (hm : ∀ i, (Y.X i).mg "int" = none) (ha : VR Y [e] t) (hg : ∀ i, Gl (Y.X i) "int" := by intro _; rfl) (he : ∀ X : Cx, starEach [e] X.env = (false, eval e X.env) :: starEach [] X.env := by intro _; rfl) : VE Y (.Call (.Name "int" p') [e] [] pos) (tCallP pInt t) :=
  ve_callTy (fun i => call_int1) ref_int hm ha hg (he := he)
/-- reversed(text) -/
def iRevP (te : PTE) : PTI := fun x e Q => te x e fun r e1 => fz r e1 fun d e2 => match d with
  | .str s => Q (signs s).reverse e2
  | _ => False
theorem src_rev {K : PySem.W.Frag} {cl : Cl} {s : List Nat} (hs : SOk s) : Src K cl κ H (PuE.ItvS ⟨s.toArray⟩) (signs s).reverse := by
  intro Γ2 hK hc σ κ1 H1 env i I x
  have hl : (signs s).length = s.length := signs_length s
  refine ⟨fun d e => ?_, fun e => ?_⟩
  · have hi : i < s.length := by
      have := (List.getElem?_eq_some_iff.mp e).1
      rw [List.length_reverse] at this
      omega
    rw [List.getElem?_reverse (by rw [hl]; exact hi), hl] at e
    unfold signs at e
    rw [List.getElem?_map] at e
    cases q : s[s.length - 1 - i]? with
    | none => rw [q] at e; cases e
    | some c =>
      rw [q] at e
      cases e
      refine ⟨by show i < (⟨s.toArray⟩ : Str).length; rw [str_len]; exact hi, fun v H' y => ?_⟩
      obtain ⟨rfl, c', e1, rfl⟩ := y
      rw [str_len] at e1
      have e1 : s.toArray[s.length - 1 - i]? = some c' := e1
      rw [List.getElem?_toArray, q] at e1
      cases e1
      exact ⟨κ1, .refl .., I, .str _ (hs.one (List.mem_of_getElem? q))⟩
  · show (⟨s.toArray⟩ : Str).length ≤ i
    rw [str_len, ← e, List.length_reverse, hl]
    exact Nat.le_refl _
theorem vi_revS {tg : Expr} {p : Pos} (hm : ∀ i, (Y.X i).mg "reversed" = none) (he : VE Y e te) (hg : ∀ i, Gl (Y.X i) "reversed" := by intro _; rfl) (hs : ∀ X : Cx, starEach [e] X.env = (false, eval e X.env) :: starEach [] X.env := by intro _; rfl) : VI Y tg (.Call (.Name "reversed" p) [e] [] pos) (iRevP te) := by
  obtain ⟨ra, pa, fa⟩ := he.ex
  refine ⟨⟨fun E => PuE.iRevS (ra E), fun i => PuE.pi_revS (hg i) (hm i) (pa i) (hs _), fun Γ σ κ H env Q Q' hK I q k => ?_⟩⟩
  refine fa Γ σ κ H env _ _ hK I q fun v κ1 H1 r1 e1 x1 I1 h1 q1 => ?_
  refine fz_ok I1 h1 q1 fun κ2 d e2 x2 I2 h2 q2 => ?_
  cases d with
  | str s =>
    obtain ⟨rfl, hs⟩ := h2.strE
    exact ⟨_, rfl, by rw [str_len]; exact hs.1, k _ κ2 H1 _ e2 (x1.trans x2) I2 (src_rev hs) q2⟩
  | _ => exact False.elim q2
/-- isinstance(x, a built-in type) -/
def D.tyN : D → Option String
  | .non => some "NoneType"
  | .bl _ => some "bool"
  | .int _ => some "int"
  | .str _ => some "str"
  | .lst _ => some "list"
  | .tup _ => some "tuple"
  | _ => none
def tIsi (T : String) (te : PTE) : PTE := fun x e Q => te x e fun r e1 => match rv r e1 with
  | some d => match d.tyN with
    | some u => match kitB u T with
      | some b => Q (.d (.bl b)) e1
      | none => False
    | none => False
  | none => False
end
end Pu
set_option maxRecDepth 100000
set_option maxHeartbeats 1000000
namespace PuE
open PySem L2 PySem.Spec PyProof.Rows
def rRepS : R2 := fun x y H Q => ∃ (s : List Nat) (k : Int), x = .str ⟨s.toArray⟩ ∧ y = .int k ∧ -(2 ^ 63) ≤ k ∧ k < 2 ^ 63 ∧ s.length * k.toNat ≤ 16777216 ∧ Q (.str ⟨(List.replicate k.toNat s).flatten.toArray⟩) H
theorem fold_rep (s : List Nat) : ∀ (m : Nat) (acc : List Nat), (List.replicate m s.toArray).foldl (· ++ ·) acc.toArray = (acc ++ (List.replicate m s).flatten).toArray
  | 0, acc => by simp
  | m + 1, acc => by
    rw [List.replicate_succ, List.foldl_cons, List.append_toArray, fold_rep s m, List.replicate_succ, List.flatten_cons, List.append_assoc]
theorem op_repS {X : Cx} : OpR X (binaryOp .Mult) rRepS := by
  intro pins s σ H x y v u Q I rx ry h
  obtain ⟨l, k, rfl, rfl, h1, h2, hz, q⟩ := h
  obtain ⟨t, rfl⟩ := rx
  obtain ⟨t', rfl⟩ := ry
  have hline : (sizeLine : Nat) = 16777216 := sizeLine_eq
  have hlen : (⟨l.toArray⟩ : Str).length = l.length := rfl
  refine PySem.P.mul_str ?_ ?_ ?_ ?_
  · rw [decide_eq_false (by omega), decide_eq_false (by omega)]; rfl
  · intro hk hn
    rw [hlen]
    intro z
    have hk1 : 1 ≤ k := by omega
    have h3 : (l.length : Int) * k ≤ 16777216 := by
      have : ((l.length * k.toNat : Nat) : Int) ≤ 16777216 := by omega
      rw [Int.natCast_mul, Int.toNat_of_nonneg (by omega)] at this
      exact this
    have h4 : (l.length : Int) ≤ (2 ^ 63 - 1) / k := by
      rw [Int.le_ediv_iff_mul_le (by omega)]
      omega
    omega
  · intro hk hn
    rw [hlen]
    unfold Builtin.Str.tooLong
    simp only [decide_eq_false_iff_not]
    omega
  · have fin : ∀ (y : Str) (s' : Shared), True := fun _ _ => trivial
    by_cases hk : k < 1
    · rw [if_pos hk]
      have e : k.toNat = 0 := by omega
      rw [e] at q
      exact ⟨by decide, .str ⟨([] : List Nat).toArray⟩, H, I.tok _, ⟨_, rfl⟩, q⟩
    · rw [if_neg hk]
      by_cases hb : (k == 1 || (⟨l.toArray⟩ : Str).length == 0) = true
      · rw [if_pos hb]
        have e : (List.replicate k.toNat l).flatten = l := by
          rw [Bool.or_eq_true] at hb
          rcases hb with hb | hb
          · have : k = 1 := by simpa using hb
            subst this
            simp
          · have : l = [] := by
              rw [hlen] at hb
              exact List.eq_nil_of_length_eq_zero (by simpa using hb)
            subst this
            simp
        rw [e] at q
        exact ⟨.str ⟨l.toArray⟩, H, I, ⟨_, rfl⟩, q⟩
      · rw [if_neg hb]
        have e : (⟨(List.replicate k.toNat (⟨l.toArray⟩ : Str).cps).foldl (· ++ ·) #[]⟩ : Str) = ⟨(List.replicate k.toNat l).flatten.toArray⟩ := by
          have := fold_rep l k.toNat []
          rw [List.nil_append] at this
          show (⟨(List.replicate k.toNat l.toArray).foldl (· ++ ·) ([] : List Nat).toArray⟩ : Str) = _
          rw [this]
        rw [e]
        refine ⟨?_, .str ⟨(List.replicate k.toNat l).flatten.toArray⟩, H, I.tok _, ⟨_, rfl⟩, q⟩
        show (List.replicate k.toNat l).flatten.toArray.size ≤ _
        rw [List.size_toArray, List.length_flatten, List.map_replicate, List.sum_replicate_nat, hline, Nat.mul_comm]
        exact hz
end PuE
set_option maxRecDepth 100000
set_option maxHeartbeats 4000000
namespace Pu
open PySem L2
section
variable {Γ Γ' : Gm} {κ κ' : Ka} {H H' : Hp} {env env' : En} {σ : Sl} {v : V} {st : Sto} {Y : Fam} {a b e o : Expr} {es : List Expr} {ta tb te to ti : PTE} {pos : Pos}
def pMul (d e : D) (Q : R → Prop) : Prop := match d, e with
  | .int i, .int j => CMul i j ∧ Q (.d (.int (i * j)))
  | .lst xs, .int k => (-(2 ^ 63) ≤ k ∧ k < 2 ^ 63) ∧ xs.length * k.toNat ≤ sizeLine ∧ Q (.own (List.replicate k.toNat xs).flatten)
  | .str s, .int k => (-(2 ^ 63) ≤ k ∧ k < 2 ^ 63) ∧ s.length * k.toNat ≤ 16777216 ∧ Q (.d (.str (List.replicate k.toNat s).flatten))
  | _, _ => False
def rMulAll : PySem.W.Frag → R2 := fun _ x y H Q => rI CMul (fun i j => .int (i * j)) x y H Q ∨ rRep x y H Q ∨ PuE.rRepS x y H Q
theorem o_mul (X : Cx) : OpR X (binaryOp .Mult) (rMulAll X.K) := OpR.or op_mul (OpR.or op_rep PuE.op_repS)
theorem ref_mul : OpRef rMulAll pMul := by
  intro Γ σ κ H env v u d e Q Q' I hd he q k
  cases d with
  | int i =>
    cases e with
    | int j => cases hd; cases he; exact .inl ⟨i, j, rfl, rfl, q.1, k _ κ H (.d (.int (i * j))) (.refl ..) I (.int _) q.2⟩
    | _ => exact False.elim q
  | lst xs =>
    cases e with
    | int j =>
      cases he
      obtain ⟨a, vs, rfl, h1, h2, h3⟩ := hd
      obtain ⟨⟨q1, q2⟩, q3, q4⟩ := q
      have rr : ∀ n : Nat, RepL Γ.K Γ.cls κ H (List.replicate n vs).flatten (List.replicate n xs).flatten := fun n => by
        induction n with
        | zero => exact .nil
        | succ n ih =>
          rw [List.replicate_succ, List.replicate_succ, List.flatten_cons, List.flatten_cons]
          exact h3.append ih
      refine .inr (.inl ⟨a, j, vs, rfl, rfl, h1, q1, q2, by rw [h3.length]; exact q3, fun p hp => ?_⟩)
      refine k _ κ _ (.own _) (Ext.upd_new I.gh hp) (I.upd_new hp) (new_lst I hp ?_ (rr _)) q4
      rw [List.length_flatten, List.map_replicate, List.sum_replicate_nat, h3.length, Nat.mul_comm]
      exact q3
    | _ => exact False.elim q
  | str s =>
    cases e with
    | int j =>
      cases he
      obtain ⟨rfl, hs⟩ := Rep.strE hd
      obtain ⟨⟨q1, q2⟩, q3, q4⟩ := q
      refine .inr (.inr ⟨s, j, rfl, rfl, q1, q2, q3, k _ κ H (.d (.str _)) (.refl ..) I (.str _ ⟨?_, fun c hc => ?_⟩) q4⟩)
      · rw [List.length_flatten, List.map_replicate, List.sum_replicate_nat, Nat.mul_comm, sizeLine_eq]
        exact q3
      · obtain ⟨l, hl, hc⟩ := List.mem_flatten.mp hc
        rw [(List.mem_replicate.mp hl).2] at hc
        exact hs.2 c hc
    | _ => exact False.elim q
  | _ => exact False.elim q
theorem ve_mul (ha : VE Y a ta) (hb : VE Y b tb) : VE Y (.BinOp a .Mult b pos) (t2 ta tb pMul) := ve_op o_mul ref_mul ha hb
theorem ve_neg (ha : VE Y a ta) : VE Y (.UnaryOp .USub a pos) (t1 ta fun d Q => match d with | .int i => Q (.d (.int (-i))) | _ => False) := by
  obtain ⟨ra, pa, fa⟩ := ha.ex
  refine ⟨⟨fun E => tUn (rU fun i => .int (-i)) (ra E), fun i => pe_un un_neg (pa i), fun Γ σ κ H env Q Q' hK I q k => ?_⟩⟩
  refine fa Γ σ κ H env _ _ hK I q fun v κ1 H1 r1 e1 x1 I1 h1 q1 => ?_
  cases e' : rv r1 e1 with
  | none => rw [e'] at q1; exact q1.elim
  | some d =>
    rw [e'] at q1
    have rt := rv_ok I1 h1 e'
    cases d with
    | int i => cases rt; exact ⟨i, rfl, k _ κ1 H1 (.d (.int (-i))) e1 x1 I1 (.int _) q1⟩
    | _ => exact q1.elim
def setAt (r : R) (dv : D) (i : Int) (e : En) (Q : En → Prop) : Prop := match r with
  | .d .box => (i = 0 ∨ i = 1) ∧ (match dv with | .int _ => Q e | _ => False)
  | r => match mget r e with
    | some ds => match ixN ds.length i with
      | some j => Q (mset r e (ds.set j dv))
      | none => False
    | none => False
def sSetIx (te to ti : PTE) : PTS := fun x P e => te x e fun r0 e1 => fz r0 e1 fun dv e2 => to x e2 fun ro e3 => hold ro e3 fun ro e3 => ti x e3 fun ri e4 => match rv ri e4 with
  | some (.int i) => setAt ro dv i e4 P.nx
  | _ => False
theorem Gh.upd_box {p : Addr} {i j : Int} (g : Gh Γ κ st H) (h : κ p = some .box) : Gh Γ κ st (L2.upd H p (.lst [.int i, .int j])) := by
  have x : Ext κ H κ (L2.upd H p (.lst [.int i, .int j])) := ⟨fun _ _ e => e, fun a e => upd_ne fun z => by rw [z, h] at e; cases e⟩
  refine ⟨g.sub, g.new, fun b y e => ?_, fun b e => ?_, fun b e => ?_, fun b k e => ?_, g.inj, fun b u e hk' => ?_, g.tabs.ext x (fun b e => upd_ne fun z => by rw [z, h] at e; cases e) fun _ e => e⟩
  · by_cases hb : b = p
    · rw [hb, upd_same]; simp
    · rw [upd_ne hb]; exact g.trk b y e
  · by_cases hb : b = p
    · rw [hb, upd_same]; simp
    · rw [upd_ne hb]; exact g.trk0 b e
  · by_cases hb : b = p
    · exact ⟨i, j, by rw [hb, upd_same]⟩
    · rw [upd_ne hb]; exact g.box b e
  · have hb : b ≠ p := fun z => by rw [z, h] at e; cases e
    obtain ⟨so', h1, h2⟩ := g.obj b k e
    exact ⟨so', h1, h2.ext x (upd_ne hb)⟩
  · by_cases hb : b = p
    · subst hb
      rcases g.new b _ h with z | z | ⟨z, _⟩
      · rcases hk' with q | q <;> (rw [q] at z; cases z)
      · rw [e] at z; cases z
      · cases z
    · rw [upd_ne hb]; exact g.base b u e hk'
theorem vs_setIx {i : Expr} {tpos : Pos} (he : VE Y e te) (ho : VE Y o to) (hi : VE Y i ti) (ha : ∀ (X : Cx) v, assign (.Subscript o i tpos) X.env v = (do
      let ov ← holding [v] (eval o X.env)
      let iv ← holding [v, ov] (eval i X.env)
      standAt tpos
      holding [v, ov, iv] (setItem ov iv v)
      release [v, ov, iv] []) := by intro _ _; rfl)
    (hs : ∀ i', swapsWithSole [.Subscript o i tpos] e pos.line (Y.X i').env = pure false := by intro _; rfl) (hw : ∀ i', swappedStores [.Subscript o i tpos] e (Y.X i').env = pure none := by intro _; rfl)
    (h1 : ∀ X : Cx, (assignEach [.Subscript o i tpos] X.env).map (·.2) = [assign (.Subscript o i tpos) X.env] := by intro _; rfl) : VS Y (.Assign [.Subscript o i tpos] e pos) (sSetIx te to ti) := by
  obtain ⟨re, pe, fe⟩ := he.ex
  obtain ⟨ro, po, fo⟩ := ho.ex
  obtain ⟨ri, pi, fi⟩ := hi.ex
  refine ⟨⟨fun E => tAsg (re E) (gSub (ro E) (ri E) rSetL), fun j => ps_asg (pe j) (pg_sub (po j) (pi j) set_list (ha _)) (hs j) (hw j) (h1 _), fun Γ σ κ H env P P' hK I q l => ?_⟩⟩
  refine fe Γ σ κ H env _ _ hK I q fun v κ1 H1 r1 e1 x1 I1 h1 q1 => ?_
  refine fz_ok I1 h1 q1 fun κ2 dv e2 x2 I2 h2 q2 => ?_
  refine fo Γ σ κ2 H1 e2 _ _ hK I2 q2 fun ov κ3 H3 r3 e3 x3 I3 h3 q3 => ?_
  refine hold_ok I3 h3 q3 fun κ4 r4 x4 I4 h4 q4 => ?_
  refine fi Γ σ κ4 H3 e3 _ _ hK I4 q4 fun iv κ5 H5 r5 e5 x5 I5 h5 q5 => ?_
  have hv : Rep Γ.K Γ.cls κ5 H5 v dv := ((h2.mono x3).mono x4).mono x5
  have hr := h4.ext x5
  have x15 := (((x1.trans x2).trans x3).trans x4).trans x5
  cases e' : rv r5 e5 with
  | none => rw [e'] at q5; exact q5.elim
  | some d =>
    rw [e'] at q5
    have rt := rv_ok I5 h5 e'
    cases d with
    | int i =>
      cases rt
      have gen : (match mget r4 e5 with
          | some ds => match ixN ds.length i with
            | some j => P.nx (mset r4 e5 (ds.set j dv))
            | none => False
          | none => False) → rSetL ov (.int i) v H5 fun H6 => P'.nx σ H6 := fun q => by
        cases em : mget r4 e5 with
        | none => rw [em] at q; exact q.elim
        | some ds =>
          rw [em] at q
          simp only at q
          cases en : ixN ds.length i with
          | none => rw [en] at q; exact q.elim
          | some j =>
            rw [en] at q
            obtain ⟨a, vs, rfl, g1, g2, g3, g4⟩ := mut_ok I5 hr em
            obtain ⟨x6, I6⟩ := g4 (vs.set j v) (ds.set j dv) (by rw [List.length_set]; exact g2) (g3.set j hv)
            exact ⟨a, vs, i, j, rfl, rfl, g1, by rw [g3.length]; exact en, l.1 σ κ5 _ _ (x15.trans x6) I6 q⟩
      cases r4 with
      | d z =>
        cases z with
        | box =>
          cases hr with
          | @box a hk =>
            obtain ⟨m, n, hx⟩ := I5.gh.box a hk
            obtain ⟨hi, q5⟩ := q5
            cases dv with
            | int y =>
              cases hv
              have fin : ∀ m' n' : Int, P'.nx σ (upd H5 a (.lst [.int m', .int n'])) := fun m' n' => by
                have x6 : Ext κ5 H5 κ5 (upd H5 a (.lst [.int m', .int n'])) := ⟨fun _ _ e => e, fun b e => upd_ne fun z => by rw [z, hk] at e; cases e⟩
                refine l.1 σ κ5 _ e5 (x15.trans x6) (I5.step (st' := e5.st) x6 (fun j b hb => ?_) (I5.gh.upd_box hk)) q5
                obtain ⟨c, _, hc⟩ := I5.ownS hb
                exact ⟨hc.facts.1, upd_ne fun z => by have := hc.facts.1; rw [z, hk] at this; cases this⟩
              rcases hi with rfl | rfl
              · exact ⟨a, _, 0, 0, rfl, rfl, hx, rfl, fin y n⟩
              · exact ⟨a, _, 1, 1, rfl, rfl, hx, rfl, fin m y⟩
            | _ => exact q5.elim
        | _ => exact gen q5
      | nam _ => exact gen q5
      | own _ => exact gen q5
      | dK _ => exact gen q5
      | dT _ => exact gen q5
    | _ => exact q5.elim
def boxed (m : PM) : PM := fun ds st Q => m ds st fun c st' => ∃ i j, c = .own [.int i, .int j] ∧ Q (.d .box) st'
theorem FnG.boxed {P : Program} {w : World} {K : PySem.W.Frag} {mg : Str → Option Value} {base : Heap} {ps : List Str} {f : Addr} {fd : FuncData} {k : Nat} {cls : Cl} {flds : Nat → List Str} {m : PM}
    (F : FnG P w K mg base CX0 k f fd ps (sp0 K cls flds m)) : FnG P w K mg base CX0 k f fd ps (sp0 K cls flds (boxed m)) :=
  F.imp fun vs H Q E ⟨κ, ds, st, Q', g, r, hm, fin⟩ => ⟨κ, ds, st, _, g, r, hm, fun v κ' H' c st' g' rc ⟨i, j, hc, q⟩ => by
    subst hc
    obtain ⟨a, rfl, h1, h2, vs, h3, h4, h5⟩ := rc
    have x : Ext κ' H' (put κ' a .box) H' := Ext.put h1
    have hx : ∃ i j, H' a = some (.lst [.int i, .int j]) := by
      cases h5 with
      | cons r1 r2 => cases r1; cases r2 with
        | cons r2 r3 => cases r2; cases r3; exact ⟨_, _, h3⟩
    refine fin (.ref a) (put κ' a .box) H' (.d .box) st' ?_ (.box put_same) q
    have ne : ∀ b y, κ' b = some y → b ≠ a := fun b y e z => by rw [z, h1] at e; cases e
    refine ⟨fun b y e => x.1 b y (g'.sub b y e), fun b y e => ?_, fun b y e => ?_, g'.trk0, fun b e => ?_, fun b k e => ?_, fun b c k e1 e2 => ?_, g'.base, g'.tabs.ext x (fun _ _ => rfl) fun b e => by
      by_cases hb : b = a
      · subst hb; rw [put_same] at e; cases e
      · rw [put_ne hb] at e; exact e⟩
    · by_cases hb : b = a
      · subst hb; exact .inr (.inl h2)
      · rw [put_ne hb] at e; exact g'.new b y e
    · by_cases hb : b = a
      · subst hb; rw [h3]; simp
      · rw [put_ne hb] at e; exact g'.trk b y e
    · by_cases hb : b = a
      · subst hb; exact hx
      · rw [put_ne hb] at e; exact g'.box b e
    · by_cases hb : b = a
      · subst hb; rw [put_same] at e; cases e
      · rw [put_ne hb] at e
        obtain ⟨so, g1, g2⟩ := g'.obj b k e
        exact ⟨so, g1, g2.ext x rfl⟩
    · have hb : b ≠ a := fun z => by subst z; rw [put_same] at e1; cases e1
      have hc : c ≠ a := fun z => by subst z; rw [put_same] at e2; cases e2
      rw [put_ne hb] at e1
      rw [put_ne hc] at e2
      exact g'.inj b c k e1 e2⟩
end
end Pu
set_option maxRecDepth 100000
set_option maxHeartbeats 4000000
namespace Pu
open PySem L2 PySem.Spec PyProof.Rows
section
variable {X : Cx} {tg : Expr}
def iAnyH (K : PySem.W.Frag) (tl : TE) : TI := fun σ H R => tl σ H fun x H1 => (∃ a, x = .ref a ∧ (∃ xs, SqL K H1 a xs) ∧ R (Itl K a) H1) ∨ (∃ a, x = .ref a ∧ (∃ xs, SqT K H1 a xs) ∧ R (Itt K a) H1) ∨ ∃ y, x = .str y ∧ R (Its y) H1
theorem pi_any {l : Expr} {tl : TE} (hl : PE X l tl) : PI X tg l (iAnyH X.K tl) := by
  refine ⟨fun pins s σ H R I h => ?_⟩
  refine thn (hl.run pins s σ H _ I h) fun v s1 ⟨x, H1, I1, r1, q1⟩ => ?_
  rcases q1 with ⟨a, e, ⟨xs, hq⟩, q⟩ | ⟨a, e, ⟨xs, hq⟩, q⟩ | ⟨y, e, q⟩
  · subst e
    cases r1
    obtain ⟨its, rv, p, hz⟩ := I1.list hq
    refine wpAny_pyIter_list p.isList ?_
    refine ⟨s1.heap.objs.size, [s1.heap.objs.size], _, _, H1, rfl, I1.kept (t' := s1.toks) fun b o e => Heap.get?_push_of_some _ e, turn_list a _, ⟨_, Heap.get?_push_size _ rfl, rfl, rfl⟩, fun b hb => ?_, q⟩
    have e : b = s1.heap.objs.size := by simpa using hb
    subst e
    exact I1.fpOk (Nat.le_refl _) (I1.hok.fresh (Nat.le_refl _))
  · subst e
    cases r1
    obtain ⟨its, rv, p, hz⟩ := I1.tuple hq
    refine wpAny_pyIter_tuple (show s1.heap.IsTuple a its.toArray from p) ?_
    refine ⟨s1.heap.objs.size, [s1.heap.objs.size], _, _, H1, rfl, I1.kept (t' := s1.toks) fun b o e => Heap.get?_push_of_some _ e, turn_tuple a _, ⟨_, Heap.get?_push_size _ rfl, rfl, rfl⟩, fun b hb => ?_, q⟩
    have e : b = s1.heap.objs.size := by simpa using hb
    subst e
    exact I1.fpOk (Nat.le_refl _) (I1.hok.fresh (Nat.le_refl _))
  · subst e
    obtain ⟨t, rfl⟩ := r1
    cases ha : y.cps.all (· < 128)
    · exact wpAny_pyIter_wide ha (pi_one (tk := s1.toks) I1 _ (turn_str _ y t "str_iterator" (.inr rfl)) ⟨_, Heap.get?_push_size _ rfl, rfl, rfl⟩ q)
    · exact wpAny_pyIter_ascii ha (pi_one (tk := s1.toks) I1 _ (turn_str _ y t "str_ascii_iterator" (.inl rfl)) ⟨_, Heap.get?_push_size _ rfl, rfl, rfl⟩ q)
end
section
variable {Γ Γ' : Gm} {κ κ' : Ka} {H H' : Hp} {env env' : En} {σ : Sl} {v : V} {st : Sto} {Y : Fam} {a b e o : Expr} {es : List Expr} {ta tb te to ti : PTE} {pos : Pos}
/-- the small letters, the capitals -/
def SM : List Nat := [97, 98, 99, 100, 101, 102, 103, 104, 105, 106, 107, 108, 109, 110, 111, 112, 113, 114, 115, 116, 117, 118, 119, 120, 121, 122]
def CP : List Nat := [65, 66, 67, 68, 69, 70, 71, 72, 73, 74, 75, 76, 77, 78, 79, 80, 81, 82, 83, 84, 85, 86, 87, 88, 89, 90]
/-- what one walks in a value -/
def D.walk : D → Option (List D)
  | .lst ds => some ds
  | .tup ds => some ds
  | .str s => some (signs s)
  | _ => none
def iAny (te : PTE) : PTI := fun x e Q => te x e fun r e1 => fz r e1 fun d e2 => match d.walk with
  | some ds => Q ds e2
  | none => False
theorem vi_any {tg : Expr} (he : VE Y e te) : VI Y tg e (iAny te) := by
  obtain ⟨ra, pa, fa⟩ := he.ex
  refine ⟨⟨fun E => iAnyH Y.K (ra E), fun i => by have := pi_any (tg := tg) (pa i); rw [Y.hK i] at this; exact this, fun Γ σ κ H env Q Q' hK I q k => ?_⟩⟩
  refine fa Γ σ κ H env _ _ hK I q fun v κ1 H1 r1 e1 x1 I1 h1 q1 => ?_
  refine fz_ok I1 h1 q1 fun κ2 d e2 x2 I2 h2 q2 => ?_
  rw [← hK.k]
  cases d with
  | lst ds =>
    cases h2 with
    | lst g1 g2 g3 g4 => exact .inl ⟨_, rfl, ⟨_, SqL.of g2⟩, k _ κ2 H1 ds e2 (x1.trans x2) I2 (src_list g1 g2 g4) q2⟩
  | tup ds =>
    obtain ⟨a, vs, rfl, g1, _, _⟩ := h2.sqT
    exact .inr (.inl ⟨a, rfl, ⟨vs, g1⟩, k _ κ2 H1 ds e2 (x1.trans x2) I2 (src_tup (vs := vs) h2) q2⟩)
  | str s =>
    obtain ⟨rfl, hs⟩ := h2.strE
    exact .inr (.inr ⟨_, rfl, k _ κ2 H1 (signs s) e2 (x1.trans x2) I2 (src_str hs) q2⟩)
  | _ => exact False.elim q2
/-- a def of the text behind the top -/
structure DefOk (K : PySem.W.Frag) (mg : Str → Option Value) (x : Str) (st : Stmt) (ps : List Str) (f : Addr) (fd : FuncData) : Prop where
  fn : Fun K x x st f fd
  b : Binds K fd ps []
  g : mg x = some (.ref f)
theorem hu0 {P : Program} {w : World} {K : PySem.W.Frag} {mg : Str → Option Value} {base : Heap} {N : List Str} {qual : Str} {sc : Scope} {f : Addr} {k : Nat} {cls : Cl} {flds : Nat → List Str} : Hu (fam0 P w K mg base N qual sc f k cls flds) := fun i => by
  have h := i.hr.un
  show (i.A.deeper (envOfC qual sc i.s.heap.objs.size f i.cdv)).units + 65 < cLine
  omega
theorem hg0 {P : Program} {w : World} {K : PySem.W.Frag} {mg : Str → Option Value} {base : Heap} {N : List Str} {qual : Str} {sc : Scope} {f : Addr} {k : Nat} {cls : Cl} {flds : Nat → List Str} : ∀ i, ((fam0 P w K mg base N qual sc f k cls flds).X i).A.guards = some [] := fun i => i.gd
theorem hg_blk {sc : Scope} (h : ∀ i, (Y.X i).A.guards = some []) : ∀ i, ((Y.blk sc).X i).A.guards = some [] := fun p => h p.1
theorem hu_blk {sc : Scope} (h : Hu Y) : Hu (Y.blk sc) := fun p => h p.1
abbrev pSub : D → D → (R → Prop) → Prop := pI (fun _ _ => True) fun i j => .int (i - j)
abbrev pMod : D → D → (R → Prop) → Prop := pI (fun _ j => 0 < j) fun i j => .int (i % j)
abbrev pFdiv : D → D → (R → Prop) → Prop := pI CDivW fun i j => .int (i / j)
abbrev pPow : D → D → (R → Prop) → Prop := pI CPow fun i j => .int (i ^ j.toNat)
def pNeg : D → (R → Prop) → Prop := fun d Q => match d with | .int i => Q (.d (.int (-i))) | _ => False
end
end Pu
set_option maxRecDepth 100000
set_option maxHeartbeats 1000000
namespace Pu
open PySem L2 PySem.Spec PyProof.Rows
/-- a sign that a text shows as it is -/
def PlainC (c : Nat) : Prop := 32 ≤ c ∧ c < 127 ∧ c ≠ 39 ∧ c ≠ 92
instance (c : Nat) : Decidable (PlainC c) := by unfold PlainC; infer_instance
mutual
/-- what is shown plainly -/
def D.rok : D → Bool
  | .non => true
  | .bl _ => true
  | .int i => decide (i.natAbs.log2 < 1920)
  | .str s => s.all fun c => decide (PlainC c)
  | .lst ds => D.rokL ds
  | .tup ds => D.rokL ds
  | _ => false
def D.rokL : List D → Bool
  | [] => true
  | d :: ds => d.rok && D.rokL ds
end
mutual
def D.rlen : D → Nat
  | .non => 4
  | .bl _ => 5
  | .int _ => 1921
  | .str s => s.length + 2
  | .lst ds => D.rlenL ds + 2
  | .tup ds => D.rlenL ds + 3
  | _ => 0
def D.rlenL : List D → Nat
  | [] => 0
  | d :: ds => d.rlen + 2 + D.rlenL ds
end
/-- what repr shows -/
def shw (d : D) : List Nat := d.py.shown.cps.toList
end Pu
set_option maxRecDepth 100000
set_option maxHeartbeats 1000000
namespace Pu
open PySem L2 PySem.Spec PyProof.Rows
/-- repr(x) -/
def pRepr : List D → (R → Prop) → Prop
  | [d], Q => d.ok 64 = true ∧ d.rok = true ∧ d.rlen ≤ 16777216 ∧ Q (.d (.str (shw d)))
  | _, _ => False
theorem minD_strs (x : List Nat) : ∀ xs : List (List Nat), PySem.W.minD (.str ⟨x.toArray⟩) (xs.map fun s => .str ⟨s.toArray⟩) = .str ⟨(xs.foldl (fun a y => if y < a then y else a) x).toArray⟩ := by
  intro xs
  unfold PySem.W.minD
  induction xs generalizing x with
  | nil => rfl
  | cons y xs ih =>
    rw [List.map_cons, List.foldl_cons, List.foldl_cons, PySem.W.dataLt_str]
    by_cases h : y < x
    · rw [if_pos (by simpa using h), if_pos h]; exact ih y
    · rw [if_neg (by simpa using h), if_neg h]; exact ih x
def minS (x : List Nat) (r : List (List Nat)) : List Nat := r.foldl (fun a y => if y < a then y else a) x
def vS (s : List Nat) : V := .str ⟨s.toArray⟩
theorem dpAll_strs {K : PySem.W.Frag} {H : Hp} : ∀ r : List (List Nat), DpAll K H (r.map vS) (r.map fun s => PyData.str ⟨s.toArray⟩)
  | [] => .nil
  | x :: r => .cons (.str _) (dpAll_strs r)
theorem alike_strs (r : List (List Nat)) : PySem.W.AlikeAll (r.map fun s => PyData.str ⟨s.toArray⟩) := by
  constructor
  · intro x hx y hy
    obtain ⟨a, _, rfl⟩ := List.mem_map.mp hx
    obtain ⟨b, _, rfl⟩ := List.mem_map.mp hy
    simp [PySem.W.alike]
  · intro x hx
    obtain ⟨a, _, rfl⟩ := List.mem_map.mp hx
    exact fun z => nomatch z
theorem depth_strs (r : List (List Nat)) : PyData.depthAll (r.map fun s => PyData.str ⟨s.toArray⟩) ≤ 1 := by
  induction r with
  | nil => simp [PyData.depthAll]
  | cons x r ih =>
    simp only [List.map_cons, PyData.depthAll, PyData.depth]
    omega
def rMinSq (K : PySem.W.Frag) : List V → Hp → VK → Prop := fun xs H Q => ∃ p x r, xs = [.ref p] ∧ (SqL K H p ((x :: r).map vS) ∨ SqT K H p ((x :: r).map vS)) ∧ Q (vS (minS x r)) H
section
variable {X : Cx}
theorem call_minSq (hc : X.calm = true) (hu : X.A.units + 65 < cLine) : CallR X (.builtin "min") (rMinSq X.K) := by
  intro pins s σ H xs us Q I r h
  obtain ⟨p, x, rr, rfl, hs, q⟩ := h
  have fin : ∀ (v : Value) (h' : Heap) (tk : Tok) (bs : List Addr), Reads h' v (PySem.W.minD (.str ⟨x.toArray⟩) (rr.map fun s => PyData.str ⟨s.toArray⟩)) bs → (∀ b o, s.heap.get? b = some o → h'.get? b = some o) → EP X pins σ Q v { s with heap := h', toks := tk } := by
    intro v h' tk bs rd hk
    rw [minD_strs] at rd
    cases rd
    exact ⟨vS (minS x rr), H, I.kept hk, ⟨_, rfl⟩, q⟩
  have hdep := depth_strs (x :: rr)
  rcases hs with hs | hs
  · obtain ⟨its, rv, hl, _⟩ := I.list hs
    rw [Vals.ref1 r]
    obtain ⟨as, rd⟩ := Dp.readsAll I _ _ _ (dpAll_strs (x :: rr)) rv
    exact PySem.W.min_list_data (I.ok.hd hc) hl.isList rd (alike_strs (x :: rr)) (Nat.lt_of_le_of_lt (Nat.add_le_add_left hdep _) (by omega)) fun i v h' tk bs _ rd hk => fin v h' tk bs rd hk
  · obtain ⟨its, rv, hl, _⟩ := I.tuple hs
    rw [Vals.ref1 r]
    obtain ⟨as, rd⟩ := Dp.readsAll I _ _ _ (dpAll_strs (x :: rr)) rv
    exact PySem.W.min_tuple_data (I.ok.hd hc) hl rd (alike_strs (x :: rr)) (Nat.lt_of_le_of_lt (Nat.add_le_add_left hdep _) (by omega)) fun i v h' tk bs _ rd hk => fin v h' tk bs rd hk
/-- min(a, b) of texts -/
def rMin2S : List V → Hp → VK → Prop := fun xs H Q => ∃ x y, xs = [vS x, vS y] ∧ Q (vS (if y < x then y else x)) H
theorem call_min2S (hc : X.calm = true) : CallR X (.builtin "min") rMin2S := by
  intro pins s σ H xs us Q I r h
  obtain ⟨x, y, rfl, q⟩ := h
  obtain ⟨u1, u2, rfl, ⟨t1, rfl⟩, ⟨t2, rfl⟩⟩ := vals2 r
  have hz : (s.heap.push { cls := .type "tuple", data := .seq #[.str ⟨x.toArray⟩ t1, .str ⟨y.toArray⟩ t2] }).objs.size = s.heap.objs.size + 1 := Heap.size_push ..
  have hT : (s.heap.push { cls := .type "tuple", data := .seq #[.str ⟨x.toArray⟩ t1, .str ⟨y.toArray⟩ t2] }).IsTuple s.heap.objs.size #[.str ⟨x.toArray⟩ t1, .str ⟨y.toArray⟩ t2] := ⟨_, Heap.get?_push_size _ rfl, rfl, 0, rfl⟩
  have cmp : CmpOf X.prog X.w X.A.in1 .Lt (fun i v => (#[Value.str ⟨x.toArray⟩ t1, .str ⟨y.toArray⟩ t2])[i]? = some v) (fun i j => decide ((if i = 0 then x else y) < (if j = 0 then x else y))) := by
    intro i j vi vj s' Q' E' hi hj hq
    have at_ : ∀ (i : Nat) (v : Value), (#[Value.str ⟨x.toArray⟩ t1, .str ⟨y.toArray⟩ t2])[i]? = some v → ∃ t, v = .str ⟨(if i = 0 then x else y).toArray⟩ t := by
      intro i v hv
      match i, hv with
      | 0, hv => cases hv; exact ⟨t1, rfl⟩
      | 1, hv => cases hv; exact ⟨t2, rfl⟩
      | n + 2, hv => simp at hv
    obtain ⟨ti, rfl⟩ := at_ i vi hi
    obtain ⟨tj, rfl⟩ := at_ j vj hj
    exact PySem.P.lt_str (by simpa using hq)
  refine call_min_two (wpAny_pyIter_tuple hT ?_)
  refine ⟨_, [_, s.heap.objs.size], [_], _, _, _, _, rfl, Walks.tuple (A := X.A.in1) (I.ok.hd hc) _ s.heap.objs.size (by rw [hz]; exact Nat.ne_of_lt (Nat.lt_succ_self _)) #[.str ⟨x.toArray⟩ t1, .str ⟨y.toArray⟩ t2],
    ⟨⟨_, Heap.get?_push_size _ rfl, rfl, rfl⟩, hT.push _⟩, fun c hc => ?_, Nat.zero_lt_succ _, cmp, fun v h' tk hP hk => ?_⟩
  · show c < ((s.heap.push _).push _).objs.size
    rw [Heap.size_push, hz]
    simp only [List.mem_cons, List.not_mem_nil, or_false] at hc
    rcases hc with rfl | rfl
    · rw [hz]; exact Nat.lt_succ_self _
    · exact Nat.lt_succ_of_lt (Nat.lt_succ_self _)
  · have old : ∀ b o, s.heap.get? b = some o → h'.get? b = some o := fun b o e => by
      refine hk b o (fun hm => ?_) (Heap.get?_push_of_some _ (Heap.get?_push_of_some _ e))
      rw [List.mem_singleton] at hm
      have := Heap.lt_size e
      rw [hm, hz] at this
      exact Nat.lt_irrefl _ (Nat.lt_of_succ_lt this)
    refine ⟨vS (if y < x then y else x), H, I.kept old, ?_, q⟩
    by_cases hyx : y < x
    · rw [if_pos hyx]
      have e : argBest (fun i j => decide ((if i = 0 then x else y) < (if j = 0 then x else y))) 1 = 1 := by simp [argBest, hyx]
      have hP : (#[Value.str ⟨x.toArray⟩ t1, .str ⟨y.toArray⟩ t2])[argBest (fun i j => decide ((if i = 0 then x else y) < (if j = 0 then x else y))) 1]? = some v := hP
      rw [e] at hP
      cases hP
      exact ⟨t2, rfl⟩
    · rw [if_neg hyx]
      have e : argBest (fun i j => decide ((if i = 0 then x else y) < (if j = 0 then x else y))) 1 = 0 := by simp [argBest, hyx]
      have hP : (#[Value.str ⟨x.toArray⟩ t1, .str ⟨y.toArray⟩ t2])[argBest (fun i j => decide ((if i = 0 then x else y) < (if j = 0 then x else y))) 1]? = some v := hP
      rw [e] at hP
      cases hP
      exact ⟨t1, rfl⟩
end
theorem minS_mem (x : List Nat) (r : List (List Nat)) : minS x r ∈ x :: r := by
  unfold minS
  induction r generalizing x with
  | nil => simp
  | cons y r ih =>
    rw [List.foldl_cons]
    split
    · exact List.mem_cons_of_mem _ (ih y)
    · have := ih x
      rcases List.mem_cons.mp this with h | h
      · rw [h]; simp
      · exact List.mem_cons_of_mem _ (List.mem_cons_of_mem _ h)
/-- min of a list, of a tuple of texts; of two texts -/
def pMin1 : List D → (R → Prop) → Prop
  | [d], Q => match strL d.items with
    | some (x :: r) => Q (.d (.str (minS x r)))
    | _ => False
  | _, _ => False
def pMin2S : List D → (R → Prop) → Prop
  | [.str x, .str y], Q => Q (.d (.str (if y < x then y else x)))
  | _, _ => False
section
variable {Γ : Gm} {κ : Ka} {H : Hp} {Y : Fam} {e a b : Expr} {pos : Pos}
theorem ref_min1 : CallRef rMinSq pMin1 := by
  intro Γ σ κ H env vs ds Q Q' I h q k
  match ds, vs, h, q with
  | [d], _, .cons (v := v) hd .nil, q =>
    unfold pMin1 at q
    simp only at q
    cases e1 : strL d.items with
    | none => rw [e1] at q; exact q.elim
    | some l =>
      rw [e1] at q
      cases l with
      | nil => exact q.elim
      | cons x r =>
        have fin : ∀ vs' : List V, RepL Γ.K Γ.cls κ H vs' d.items → vs' = (x :: r).map vS ∧ Q' (vS (minS x r)) H := fun vs' hr => by
          obtain ⟨e2, e3⟩ := strL_rep hr e1
          exact ⟨e2, k _ κ H (.d (.str (minS x r))) (.refl ..) I (.str _ (e3 _ (minS_mem x r))) q⟩
        cases d with
        | lst ds =>
          obtain ⟨a, ws, rfl, g1, g2, g3⟩ := hd
          obtain ⟨e2, q2⟩ := fin ws g3
          subst e2
          exact ⟨a, x, r, rfl, .inl (SqL.of g1), q2⟩
        | tup ds =>
          obtain ⟨a, ws, rfl, g1, g2, g3⟩ := Rep.sqT hd
          obtain ⟨e2, q2⟩ := fin ws g3
          subst e2
          exact ⟨a, x, r, rfl, .inr g1, q2⟩
        | _ => simp [D.items, strL] at e1
theorem ref_min2S : CallRef (fun _ => rMin2S) pMin2S := by
  intro Γ σ κ H env vs ds Q Q' I h q k
  match ds, vs, h, q with
  | [.str x, .str y], _, .cons h (.cons h' .nil), q =>
    obtain ⟨rfl, h1⟩ := Rep.strE h
    obtain ⟨rfl, h2⟩ := Rep.strE h'
    exact ⟨x, y, rfl, k _ κ H (.d (.str _)) (.refl ..) I (.str _ (by split <;> assumption)) q⟩
theorem ve_min1 {p' : Pos} {t : PTR} (hu : Hu Y) (hm : ∀ i, (Y.X i).mg "min" = none) (ha : VR Y [e] t) (hc : ∀ i, (Y.X i).calm = true := by intro _; rfl) (hg : ∀ i, Gl (Y.X i) "min" := by intro _; rfl) (he : ∀ X : Cx, starEach [e] X.env = (false, eval e X.env) :: starEach [] X.env := by intro _; rfl) : VE Y (.Call (.Name "min" p') [e] [] pos) (tCallP pMin1 t) :=
  ve_callB (fun i => call_minSq (hc i) (hu i)) ref_min1 hm ha hg (he := he)
theorem ve_min2S {p' : Pos} {t : PTR} (hm : ∀ i, (Y.X i).mg "min" = none) (ha : VR Y [a, b] t) (hc : ∀ i, (Y.X i).calm = true := by intro _; rfl) (hg : ∀ i, Gl (Y.X i) "min" := by intro _; rfl) (he : ∀ X : Cx, starEach [a, b] X.env = (false, eval a X.env) :: starEach [b] X.env := by intro _; rfl) (hpl : ∀ X : Cx, (backTo pos (starEach [b] X.env)).any (·.1) = false := by intro _; rfl) : VE Y (.Call (.Name "min" p') [a, b] [] pos) (tCallP pMin2S t) :=
  ve_callB (fun i => call_min2S (hc i)) ref_min2S hm ha hg (he := he) (hpl := hpl)
end
end Pu
set_option maxRecDepth 100000
set_option maxHeartbeats 4000000
namespace PuE
open PySem PySem.Spec PyProof.Rows L2 RT PySem.W
end PuE
set_option maxRecDepth 100000
set_option maxHeartbeats 4000000
namespace PuE
open PySem PySem.Spec PyProof.Rows L2 SrtO
end PuE
namespace Pu
open PySem L2 PySem.Spec PyProof.Rows
def pr2 (p : Int × Int) : D := .tup [.int p.1, .int p.2]
def prL : List D → Option (List (Int × Int))
  | [] => some []
  | .tup [.int i, .int j] :: ds => match prL ds with
    | some r => some ((i, j) :: r)
    | none => none
  | _ => none
def D.seqs : D → Option (List D)
  | .lst ds => some ds
  | .tup ds => some ds
  | _ => none
/-- sorted(list or tuple of pairs of ints) -/
def pSortP : List D → (R → Prop) → Prop
  | [d], Q => match d.seqs with
    | some ds => match prL ds with
      | some ps => ∀ qs : List (Int × Int), qs.Perm ps → qs.Pairwise (fun x y => SrtO.lexB y x = false) → Q (.own (qs.map pr2))
      | none => False
    | none => False
  | _, _ => False
end Pu
set_option maxRecDepth 100000
set_option maxHeartbeats 4000000
namespace PuE
open PySem PySem.Spec PyProof.Rows L2 PySem.W
def SqB (K : PySem.W.Frag) (H : Hp) (t : Bool) (a : Addr) (xs : List V) : Prop := if t = true then SqT K H a xs else SqL K H a xs
def ItB (h : Heap) (t : Bool) (it a : Addr) (i : Nat) : Prop := if t = true then h.IsTupleIter it a i else h.IsListIter it a i
theorem ItB.keep {h h' : Heap} {t : Bool} {it a : Addr} {i : Nat} (x : ItB h t it a i) (k : ∀ o, h.get? it = some o → h'.get? it = some o) : ItB h' t it a i := by
  unfold ItB at *
  cases t with
  | true => obtain ⟨o, ho, r⟩ := x; exact ⟨o, k o ho, r⟩
  | false => obtain ⟨o, ho, r⟩ := x; exact ⟨o, k o ho, r⟩
theorem ItB.obj {h : Heap} {t : Bool} {it a : Addr} {i : Nat} (x : ItB h t it a i) : ∃ o, h.get? it = some o ∧ ∀ v, o.data ≠ .cell v := by
  unfold ItB at x
  cases t with
  | true => obtain ⟨o, ho, _, hd⟩ := x; exact ⟨o, ho, fun v q => by rw [hd] at q; cases q⟩
  | false => obtain ⟨o, ho, _, hd⟩ := x; exact ⟨o, ho, fun v q => by rw [hd] at q; cases q⟩
theorem SqB.inj {X : Cx} {pins : List (Addr × Obj)} {σ : L2.St} {H : Hp} {s : Shared} (I : Inv X pins σ H s) {t : Bool} {a : Addr} {xs ys : List V} (h : SqB X.K H t a xs) (g : SqB X.K H t a ys) : xs = ys := by
  unfold SqB at h g
  cases t with
  | true => exact I.tuple_inj h g
  | false => exact I.list_inj h g
end PuE
namespace Pu
open PySem L2 PySem.Spec PyProof.Rows
section
variable {Γ Γ' : Gm} {κ κ' : Ka} {H H' : Hp} {env env' : En} {σ : Sl} {v : V} {st : Sto} {Y : Fam} {a b e o : Expr} {es : List Expr} {ta tb te to ti : PTE} {pos : Pos}
def zipF : List D → List D → List D
  | x :: xs, y :: ys => .tup [x, y] :: zipF xs ys
  | _, _ => []
/-- a list or tuple that stays, as it is walked -/
def D.side : D → Option (Bool × List D)
  | .lst ds => some (false, ds)
  | .tup ds => some (true, ds)
  | _ => none
def iZipP (t : PTR) : PTI := fun x e Q => t x e fun rs e1 => match rs with
  | [r1, r2] => fz r1 e1 fun d1 e2 => fz r2 e2 fun d2 e3 => match d1.side, d2.side with
    | some (_, ds), some (_, es) => (∀ d ∈ ds, isPr d = false) ∧ Q (zipF ds es) e3
    | _, _ => False
  | _ => False
/-- sum of ints -/
def intL : List D → Option (List Int)
  | [] => some []
  | .int i :: ds => match intL ds with
    | some r => some (i :: r)
    | none => none
  | _ => none
theorem intL_map (r : List Int) : intL (r.map D.int) = some r := by
  induction r with
  | nil => rfl
  | cons x r ih => simp only [List.map_cons, intL, ih]
theorem intL_rep : ∀ {ds : List D} {vs : List V} {r : List Int}, RepL Γ.K Γ.cls κ H vs ds → intL ds = some r → vs = r.map V.int
  | [], _, _, h, e => by cases h; cases e; rfl
  | d :: ds, _, _, h, e => by
    cases h with
    | cons h1 h2 =>
      match d, h1, e with
      | .int i, h1, e =>
        unfold intL at e
        cases q : intL ds with
        | none => rw [q] at e; cases e
        | some r' =>
          rw [q] at e
          cases e
          cases h1
          rw [intL_rep h2 q]
          rfl
def pSum : List D → (R → Prop) → Prop
  | [.lst ds], Q => match intL ds with
    | some r => Q (.d (.int r.sum))
    | none => False
  | _, _ => False
theorem ref_sum : CallRef rSum pSum := by
  intro Γ σ κ H env vs ds Q Q' I h q k
  match ds, vs, h, q with
  | [.lst ds], _, .cons (v := v) hd .nil, q =>
    unfold pSum at q
    simp only at q
    cases e1 : intL ds with
    | none => rw [e1] at q; exact q.elim
    | some r =>
      rw [e1] at q
      obtain ⟨a, ws, rfl, g1, g2, g3⟩ := hd
      have e2 := intL_rep g3 e1
      subst e2
      exact ⟨a, r, rfl, SqL.of g1, k _ κ H (.d (.int r.sum)) (.refl ..) I (.int _) q⟩
theorem ve_sum {p' : Pos} {t : PTR} (hm : ∀ i, (Y.X i).mg "sum" = none) (ha : VR Y [e] t) (hc : ∀ i, (Y.X i).calm = true := by intro _; rfl) (hg : ∀ i, Gl (Y.X i) "sum" := by intro _; rfl) (he : ∀ X : Cx, starEach [e] X.env = (false, eval e X.env) :: starEach [] X.env := by intro _; rfl) : VE Y (.Call (.Name "sum" p') [e] [] pos) (tCallP pSum t) :=
  ve_callB (fun i => cr_sum (hc i)) ref_sum hm ha hg (he := he)
/-- text.count(sign) -/
def pCount (d : D) (ds : List D) (Q : R → Prop) : Prop := match d, ds with
  | .str l, [.str [c]] => Q (.d (.int (l.count c : Nat)))
  | _, _ => False
/-- name += int -/
def sAug (i : Nat) (te : PTE) : PTS := fun x P e => match e.sl[i]? with
  | some (.d (.int a)) => te x e fun r e1 => match rv r e1 with
    | some (.int b) => i < e1.sl.length ∧ P.nx (e1.setC i (.d (.int (a + b))))
    | _ => False
  | _ => False
theorem vs_aug {i : Nat} {x : Str} {p' : Pos} (hN : ∀ j, (Y.X j).N.Nodup) (he : VE Y e te) (hi : ∀ j, (Y.X j).N[i]? = some x := by intro _; rfl) (hx : ∀ j, Loc (Y.X j).env.scope x := by first | exact fun _ => Or.inl rfl | exact fun _ => Or.inr rfl)
    (hf : ∀ j, (Y.X j).fn x = true ∨ (Y.X j).env.scope.names.lookup x = some .local := by first | exact fun _ => .inl rfl | exact fun _ => .inr rfl | assumption) : VS Y (.AugAssign (.Name x p') .Add e pos) (sAug i te) := by
  obtain ⟨ra, pa, fa⟩ := he.ex
  refine ⟨⟨fun E => tAug i (ra E) (ipI fun a b => a + b), fun j => ps_aug (hN j) (hi j) (hx j) (pa j) ip_add (hf j), fun Γ σ κ H env P P' hK I q l => ?_⟩⟩
  unfold sAug at q
  cases q0 : env.sl[i]? with
  | none => rw [q0] at q; exact q.elim
  | some c =>
    rw [q0] at q
    cases c with
    | d d0 =>
      cases d0 with
      | int a =>
        have sx := I.get q0
        obtain ⟨v0, ev, rv0⟩ := sx
        cases rv0
        refine ⟨.int a, ev, ?_⟩
        refine fa Γ σ κ H env _ _ hK I q fun v κ1 H1 r1 e1 x1 I1 h1 q1 => ?_
        cases e' : rv r1 e1 with
        | none => rw [e'] at q1; exact q1.elim
        | some d1 =>
          rw [e'] at q1
          have rt := rv_ok I1 h1 e'
          cases d1 with
          | int b =>
            cases rt
            refine ⟨a, b, rfl, rfl, ?_⟩
            exact asg_ok (v := .int (a + b)) (r := .d (.int (a + b))) I1 (by rw [I1.len]; exact q1.1) (.int _) q1.2 fun κ2 e2 x2 I2 q2 => l.1 _ κ2 H1 e2 (x1.trans x2) I2 q2
          | _ => exact q1.elim
      | _ => exact q.elim
    | _ => exact q.elim
end
end Pu
set_option maxRecDepth 100000
set_option maxHeartbeats 1000000
namespace Pu
open PySem L2 PySem.Spec PyProof.Rows
/-- sorted(list of texts), sorted(text): some order of them that never falls -/
def pSortT : List D → (R → Prop) → Prop
  | [.lst ds], Q => match strL ds with
    | some r => r.length < 64 ∧ ∀ r' : List (List Nat), r'.Perm r → sortedS (r'.map fun s => (⟨s.toArray⟩ : Str)) = true → Q (.own (r'.map D.str))
    | none => False
  | [.str s], Q => s.length < 64 ∧ ∀ r' : List (List Nat), r'.Perm (s.map fun c => [c]) → sortedS (r'.map fun s => (⟨s.toArray⟩ : Str)) = true → Q (.own (r'.map D.str))
  | _, _ => False
section
variable {Γ : Gm} {κ : Ka} {H : Hp} {Y : Fam} {e a b : Expr} {pos : Pos} {σ : Sl} {env : En}
theorem perm_strs {ys : List Str} {r : List (List Nat)} (hp : ys.Perm (r.map fun s => (⟨s.toArray⟩ : Str))) : ∃ r' : List (List Nat), ys = (r'.map fun s => (⟨s.toArray⟩ : Str)) ∧ r'.Perm r := by
  refine ⟨ys.map fun y => y.cps.toList, ?_, ?_⟩
  · rw [List.map_map]
    conv => lhs; rw [← List.map_id ys]
    apply List.map_congr_left
    intro y _
    show y = ⟨y.cps.toList.toArray⟩
    simp
  · have := hp.map fun y : Str => y.cps.toList
    rw [List.map_map] at this
    have e : (r.map ((fun y : Str => y.cps.toList) ∘ fun s => (⟨s.toArray⟩ : Str))) = r := by
      conv => rhs; rw [← List.map_id r]
      apply List.map_congr_left
      intro y _
      simp
    rw [e] at this
    exact this
theorem rep_strs : ∀ {r' : List (List Nat)}, (∀ s ∈ r', SOk s) → RepL Γ.K Γ.cls κ H (r'.map fun s => V.str ⟨s.toArray⟩) (r'.map D.str)
  | [], _ => .nil
  | x :: r', h => .cons (.str x (h x (by simp))) (rep_strs fun s hs => h s (List.mem_cons_of_mem _ hs))
end
end Pu
set_option maxRecDepth 100000
set_option maxHeartbeats 4000000
namespace PuE
open PySem PySem.Spec PyProof.Rows L2 PySem.W
end PuE
namespace Pu
open PySem L2 PySem.Spec PyProof.Rows
section
variable {Γ Γ' : Gm} {κ κ' : Ka} {H H' : Hp} {env env' : En} {σ : Sl} {v : V} {st : Sto} {Y : Fam} {a b e o : Expr} {es : List Expr} {ta tb te to ti : PTE} {pos : Pos}
def enumF : Nat → List D → List D
  | _, [] => []
  | i, d :: ds => .tup [.int i, d] :: enumF (i + 1) ds
def D.walkE : D → Option (List D)
  | .lst ds => some ds
  | .tup ds => some ds
  | .str s => some (signs s)
  | _ => none
def iEnumP (t : PTR) : PTI := fun x e Q => t x e fun rs e1 => match rs with
  | [r] => fz r e1 fun d e2 => match d.walkE with
    | some ds => Q (enumF 0 ds) e2
    | none => False
  | _ => False
end
end Pu
set_option maxRecDepth 100000
set_option maxHeartbeats 4000000
namespace Pu
open PySem L2
section
variable {K : PySem.W.Frag} {cl : Cl} {Γ Γ' : Gm} {κ κ' : Ka} {H H' : Hp} {env env' : En} {σ : Sl} {v : V} {st : Sto} {Y : Fam} {a b e o i : Expr} {es : List Expr} {ta tb te to ti : PTE} {pos : Pos}
def keyD : D → Option Key
  | .int i => some (.inl i)
  | .str s => some (.inr ⟨s.toArray⟩)
  | _ => none
theorem keyD_rep {d : D} {k : Key} (h : Rep K cl κ H v d) (e : keyD d = some k) : v = kV k := by
  cases d with
  | int i => cases e; cases h; rfl
  | str s => cases e; obtain ⟨rfl, _⟩ := h.strE; rfl
  | _ => cases e
def getK (kvs : List (Key × D)) (k : Key) : Option D := (kvs.find? fun kv => decide (kv.1 = k)).map (·.2)
def setK (kvs : List (Key × D)) (k : Key) (d : D) : List (Key × D) :=
  if (kvs.any fun kv => decide (kv.1 = k)) = true then kvs.map (fun kv => if kv.1 = k then (kv.1, d) else kv) else kvs ++ [(k, d)]
theorem PR.any : ∀ {ds : List (Key × D)} {vs : List (Key × V)} (k : Key), PR K cl κ H vs ds → (vs.any fun kv => decide (kv.1 = k)) = ds.any fun kv => decide (kv.1 = k)
  | [], _, _, h => by cases h; rfl
  | d :: ds, _, k, h => by cases h with | cons h1 h2 => rw [List.any_cons, List.any_cons, PR.any k h2]
theorem PR.appendP : ∀ {ds es : List (Key × D)} {vs ws : List (Key × V)}, PR K cl κ H vs ds → PR K cl κ H ws es → PR K cl κ H (vs ++ ws) (ds ++ es)
  | [], _, _, _, h, g => by cases h; exact g
  | _ :: _, _, _, _, h, g => by cases h with | cons h1 h2 => exact .cons h1 (PR.appendP h2 g)
theorem PR.repl {v : V} {d : D} (r : Rep K cl κ H v d) (k : Key) : ∀ {ds : List (Key × D)} {vs : List (Key × V)}, PR K cl κ H vs ds → PR K cl κ H (vs.map fun kv => if kv.1 = k then (kv.1, v) else kv) (ds.map fun kv => if kv.1 = k then (kv.1, d) else kv)
  | [], _, h => by cases h; exact .nil
  | (j, y) :: ds, _, h => by
    cases h with
    | cons h1 h2 =>
      rw [List.map_cons, List.map_cons]
      by_cases e : j = k
      · rw [if_pos e, if_pos e]; exact .cons r (PR.repl r k h2)
      · rw [if_neg e, if_neg e]; exact .cons h1 (PR.repl r k h2)
theorem PR.put {v : V} {d : D} (r : Rep K cl κ H v d) (k : Key) {ds : List (Key × D)} {vs : List (Key × V)} (h : PR K cl κ H vs ds) : PR K cl κ H (putK vs k v) (setK ds k d) := by
  unfold putK setK
  rw [PR.any k h]
  by_cases e : (ds.any fun kv => decide (kv.1 = k)) = true
  · rw [if_pos e, if_pos e]; exact PR.repl r k h
  · rw [if_neg e, if_neg e]; exact PR.appendP h (.cons r .nil)
def kget : R → En → Option (List (Key × D))
  | .nam i, e => match e.sl[i]? with
    | some (.dK ds) => some ds
    | _ => none
  | .d (.ref k), e => match e.st[k]? with
    | some (.dK ds) => some ds
    | _ => none
  | _, _ => none
def kset : R → En → List (Key × D) → En
  | .nam i, e, ds => e.setC i (.dK ds)
  | .d (.ref k), e, ds => ⟨e.sl, e.st.set k (.dK ds)⟩
  | _, e, _ => e
theorem dct_ok {r : R} {ds : List (Key × D)} (I : Rl Γ κ env σ H) (h : HeldR Γ κ H σ v r) (e : kget r env = some ds) : ∃ a vs, v = .ref a ∧ H a = some (.dK vs) ∧ PR Γ.K Γ.cls κ H vs ds ∧
    ∀ vs' ds', PR Γ.K Γ.cls κ H vs' ds' → Ext κ H κ (upd H a (.dK vs')) ∧ Rl Γ κ (kset r env ds') σ (upd H a (.dK vs')) := by
  cases r with
  | nam i =>
    have h : σ[i]? = some (some v) := h
    unfold kget at e
    simp only at e
    cases q : env.sl[i]? with
    | none => rw [q] at e; cases e
    | some c =>
      have s := I.get q
      rw [q] at e
      cases c with
      | dK ds' =>
        cases e
        obtain ⟨a, e1, k1, h0, vs, h2, h4⟩ := s
        rw [h] at e1
        cases e1
        refine ⟨a, vs, rfl, h2, h4, fun vs' ds' r' => ?_⟩
        have x : Ext κ H κ (L2.upd H a (.dK vs')) := Ext.upd k1
        have hi : i < env.sl.length := (List.getElem?_eq_some_iff.mp q).1
        have own_i : OwnS env σ i a := ⟨h, _, q, rfl⟩
        refine ⟨x, ⟨by rw [I.len]; simp [kset, En.setC], fun j c ec => ?_, fun j l b o1 o2 => ?_, I.gh.upd k1 h0⟩⟩
        · have ec : (env.sl.set i (C.dK ds'))[j]? = some c := ec
          by_cases hj : j = i
          · subst hj
            rw [List.getElem?_set_self hi] at ec
            cases ec
            exact ⟨a, h, k1, h0, vs', upd_same, r'.mono x⟩
          · rw [List.getElem?_set_ne (Ne.symm hj)] at ec
            have s := I.get ec
            cases hc : c.isOwn with
            | true =>
              obtain ⟨b, e1, hb⟩ := s.own hc
              have hba : b ≠ a := fun z => hj (I.dist j i a ⟨z ▸ e1, c, ec, hc⟩ own_i)
              exact .mk e1 (hb.ext x hb.facts.1 (upd_ne hba))
            | false =>
              cases c with
              | un => trivial
              | d d => obtain ⟨v, e1, r⟩ := s; exact ⟨v, e1, r.mono x⟩
              | _ => cases hc
        · have old : ∀ m, OwnS (env.setC i (.dK ds')) σ m b → OwnS env σ m b := fun m ⟨z1, c, z2, z3⟩ => by
            have z2 : (env.sl.set i (C.dK ds'))[m]? = some c := z2
            by_cases hm : m = i
            · subst hm
              exact ⟨z1, _, q, rfl⟩
            · rw [List.getElem?_set_ne (Ne.symm hm)] at z2
              exact ⟨z1, c, z2, z3⟩
          exact I.dist j l b (old j o1) (old l o2)
      | _ => cases e
  | d d =>
    cases d with
    | ref k =>
      unfold kget at e
      simp only at e
      cases q : env.st[k]? with
      | none => rw [q] at e; cases e
      | some so =>
        rw [q] at e
        cases so with
        | dK ds' =>
          cases e
          cases h with
          | @ref a _ hk =>
            obtain ⟨so, g1, g2⟩ := I.gh.obj a k hk
            rw [q] at g1
            cases g1
            obtain ⟨vs, h2, h4⟩ := g2
            refine ⟨a, vs, rfl, h2, h4, fun vs' ds' r' => ?_⟩
            have x : Ext κ H κ (L2.upd H a (.dK vs')) := ⟨fun _ _ e => e, fun b e => upd_ne fun z => by rw [z, hk] at e; cases e⟩
            refine ⟨x, I.step x (fun i b hb => ?_) (I.gh.upd_obj (so := .dK ds') hk (fun H' e x' => ⟨vs', e, r'.mono x'⟩) (List.getElem?_eq_some_iff.mp q).1)⟩
            obtain ⟨c, _, hc⟩ := I.ownS hb
            exact ⟨hc.facts.1, upd_ne fun z => by have := hc.facts.1; rw [z, hk] at this; cases this⟩
        | _ => cases e
    | _ => cases e
  | _ => cases e
/-- a dict that is read: one's own, an object's, or data -/
def kgetR : R → En → Option (List (Key × D))
  | .d (.dck ks ds), _ => some (ks.zip ds)
  | r, e => kget r e
theorem dctR_ok {r : R} {ds : List (Key × D)} (I : Rl Γ κ env σ H) (h : HeldR Γ κ H σ v r) (e : kgetR r env = some ds) : ∃ a vs, v = .ref a ∧ H a = some (.dK vs) ∧ PR Γ.K Γ.cls κ H vs ds := by
  have key : kget r env = some ds → ∃ a vs, v = .ref a ∧ H a = some (.dK vs) ∧ PR Γ.K Γ.cls κ H vs ds := fun e => by
    obtain ⟨a, vs, h1, h2, h3, _⟩ := dct_ok I h e
    exact ⟨a, vs, h1, h2, h3⟩
  cases r with
  | d d =>
    cases d with
    | dck ks ds' =>
      cases e
      cases h with
      | dck h1 h2 h3 h4 => exact ⟨_, _, rfl, h2, PR.zipKV h3 h4⟩
    | _ => exact key e
  | _ => exact key e
/-- {} -/
def tDict0 : PTE := fun _ e Q => Q (.dK []) e
theorem ve_dict0 : VE Y (.Dict [] [] pos) tDict0 :=
  ⟨⟨fun _ => tDNewK, fun _ => pe_dnewK, fun Γ σ κ H env Q Q' hK I q k p hp => k _ κ _ (.dK []) env (Ext.upd_new I.gh hp) (I.upd_new hp) (new_dK I hp .nil) q⟩⟩
/-- d[k] -/
def tDG (to ti : PTE) : PTE := fun x e Q => to x e fun r e1 => hold r e1 fun r e1 => ti x e1 fun ri e2 => match kgetR r e2 with
  | some kvs => match rv ri e2 with
    | some kd => match keyD kd with
      | some k => match getK kvs k with
        | some d => Q (.d d) e2
        | none => False
      | none => False
    | none => False
  | none => False
/-- k in d -/
def tDI (neg : Bool) (ti to : PTE) : PTE := fun x e Q => ti x e fun ri e1 => hold ri e1 fun ri e1 => to x e1 fun r e2 => match kgetR r e2 with
  | some kvs => match rv ri e2 with
    | some kd => match keyD kd with
      | some k => Q (.d (.bl (if neg then !(getK kvs k).isSome else (getK kvs k).isSome))) e2
      | none => False
    | none => False
  | none => False
/-- d[k] = v -/
def sDPt (te to ti : PTE) : PTS := fun x P e => te x e fun r0 e1 => fz r0 e1 fun dv e2 => to x e2 fun ro e3 => hold ro e3 fun ro e3 => ti x e3 fun ri e4 => match kget ro e4 with
  | some kvs => match rv ri e4 with
    | some kd => match keyD kd with
      | some k => kvs.length < sizeLine ∧ P.nx (kset ro e4 (setK kvs k dv))
      | none => False
    | none => False
  | none => False
theorem PR.lengthK : ∀ {ds : List (Key × D)} {vs : List (Key × V)}, PR K cl κ H vs ds → vs.length = ds.length
  | [], _, h => by cases h; rfl
  | d :: ds, _, h => by cases h with | cons h1 h2 => simp [PR.lengthK h2]
theorem vs_dput {tpos : Pos} (hu : Hu Y) (he : VE Y e te) (ho : VE Y o to) (hi : VE Y i ti)
    (hs : ∀ j, swapsWith e (some (.Subscript o i tpos)) pos.line (Y.X j).env = pure false := by intro _; rfl) : VS Y (.Assign [.Subscript o i tpos] e pos) (sDPt te to ti) := by
  obtain ⟨re, pe, fe⟩ := he.ex
  obtain ⟨ro, po, fo⟩ := ho.ex
  obtain ⟨ri, pi, fi⟩ := hi.ex
  refine ⟨⟨fun E => sDPut (ro E) (ri E) (re E), fun j => ps_dput (by have := hu j; omega) (po j) (pi j) (pe j) (hs j), fun Γ σ κ H env P P' hK I q l => ?_⟩⟩
  refine fe Γ σ κ H env _ _ hK I q fun v κ1 H1 r1 e1 x1 I1 h1 q1 => ?_
  refine fz_ok I1 h1 q1 fun κ2 dv e2 x2 I2 h2 q2 => ?_
  refine fo Γ σ κ2 H1 e2 _ _ hK I2 q2 fun ov κ3 H3 r3 e3 x3 I3 h3 q3 => ?_
  refine hold_ok I3 h3 q3 fun κ4 r4 x4 I4 h4 q4 => ?_
  refine fi Γ σ κ4 H3 e3 _ _ hK I4 q4 fun iv κ5 H5 r5 e5 x5 I5 h5 q5 => ?_
  have hv : Rep Γ.K Γ.cls κ5 H5 v dv := ((h2.mono x3).mono x4).mono x5
  have x15 := (((x1.trans x2).trans x3).trans x4).trans x5
  cases e1' : kget r4 e5 with
  | none => rw [e1'] at q5; exact q5.elim
  | some kvs =>
    rw [e1'] at q5
    cases e2' : rv r5 e5 with
    | none => rw [e2'] at q5; exact q5.elim
    | some kd =>
      rw [e2'] at q5
      cases e3' : keyD kd with
      | none => simp only [e3'] at q5
      | some kk =>
        simp only [e3'] at q5
        obtain ⟨a, vs, rfl, g1, g2, g3⟩ := dct_ok I5 (h4.ext x5) e1'
        have ek := keyD_rep (K := Γ.K) (cl := Γ.cls) (κ := κ5) (H := H5) (v := iv) (d := kd) (by
          have := rv_ok I5 h5 e2'
          cases kd with
          | lst _ => cases e3'
          | _ => exact this) e3'
        subst ek
        obtain ⟨x6, I6⟩ := g3 _ _ (PR.put hv kk g2)
        exact ⟨a, _, rfl, DPut.k g1 (by rw [PR.lengthK g2]; exact q5.1), l.1 σ κ5 _ _ (x15.trans x6) I6 q5.2⟩
end
end Pu
set_option maxRecDepth 100000
set_option maxHeartbeats 4000000
namespace PuE
open PySem PySem.Spec PyProof.Rows L2 HT
end PuE
namespace Pu
open PySem L2
section
variable {Γ Γ' : Gm} {κ κ' : Ka} {H H' : Hp} {env env' : En} {σ : Sl} {v : V} {st : Sto} {Y : Fam} {a b e o : Expr} {es : List Expr} {ta tb te to ti : PTE} {pos : Pos}
def pBack (d : D) (Q : R → Prop) : Prop := match d with
  | .lst ds => Q (.own ds.reverse)
  | .tup ds => Q (.d (.tup ds.reverse))
  | .str s => Q (.d (.str s.reverse))
  | _ => False
/-- a statement that is never reached -/
def sNever : PTS := fun _ _ _ => False
end
end Pu
set_option maxRecDepth 100000
set_option maxHeartbeats 4000000
namespace Pu
open PySem L2
section
variable {Γ Γ' : Gm} {κ κ' : Ka} {H H' : Hp} {env env' : En} {σ : Sl} {v : V} {st : Sto} {Y : Fam} {a b e o i o2 i2 : Expr} {es : List Expr} {ta tb te to ti to2 ti2 : PTE} {pos : Pos}
def subA (to ti : PTE) (dv : D) (x : PX) (e : En) (Q : En → Prop) : Prop := to x e fun ro e3 => hold ro e3 fun ro e3 => ti x e3 fun ri e4 => match rv ri e4 with
  | some (.int i) => setAt ro dv i e4 Q
  | _ => False
def sSwIx (te to ti to2 ti2 : PTE) : PTS := fun x P e => te x e fun r0 e1 => fz r0 e1 fun dv e2 => match dv with
  | .tup [d1, d2] => subA to ti d1 x e2 fun e3 => subA to2 ti2 d2 x e3 P.nx
  | _ => False
end
end Pu
set_option maxRecDepth 100000
set_option maxHeartbeats 4000000
namespace PuE
open PySem PySem.Spec PyProof.Rows L2 SrtO
abbrev Itm := Int ⊕ List Nat
abbrev ltN (a b : List Itm) : Bool := (listOrd itemOrd).blt a b
theorem swo_N {α : Type} (k : α → List Itm) : Swo fun v u => ltN (k v) (k u) := by
  refine ⟨fun x y h => ?_, fun x y z h1 h2 => ?_⟩
  · rcases bcase (ltN (k y) (k x)) with q | q
    · have z := (listOrd itemOrd).trans _ _ _ h q
      rw [(listOrd itemOrd).irrefl] at z
      cases z
    · exact q
  · rcases bcase (ltN (k z) (k x)) with q | q
    · rcases (listOrd itemOrd).negTrans _ (k y) _ q with r | r
      · have h2 : (listOrd itemOrd).blt (k z) (k y) = false := h2
        rw [h2] at r; cases r
      · have h1 : (listOrd itemOrd).blt (k y) (k x) = false := h1
        rw [h1] at r; cases r
    · exact q
/-- a tuple of such items in the heap -/
def IsTupS (h : Heap) (shape : Nat → Bool) (v : Value) (l : List Itm) : Prop := ∃ a o xs n, v = .ref a ∧ h.get? a = some o ∧ o.cls = .type "tuple" ∧ o.data = .seq xs n ∧ tupItems shape 0 xs.toList = some l ∧ l ≠ []
theorem IsTupS.keeps {h h' : Heap} {shape : Nat → Bool} {v : Value} {l : List Itm} (x : IsTupS h shape v l) (k : ∀ b o, h.get? b = some o → o.cls = .type "tuple" → h'.get? b = some o) : IsTupS h' shape v l := by
  obtain ⟨a, o, xs, n, e, ho, hc, r⟩ := x
  exact ⟨a, o, xs, n, e, k a o ho hc, hc, r⟩
theorem IsTupS.key {h : Heap} {shape : Nat → Bool} {v : Value} {l : List Itm} (x : IsTupS h shape v l) : (tupKind h shape).keyOf v = some l := by
  obtain ⟨a, o, xs, n, rfl, ho, hc, hd, hi, _⟩ := x
  show tupKey h shape (.ref a) = some l
  simp only [tupKey, ho, hd]
  exact hi
theorem IsTupS.first {h : Heap} {shape : Nat → Bool} {v : Value} {l : List Itm} (x : IsTupS h shape v l) : ∃ f, TupOf h shape v f := by
  obtain ⟨a, o, xs, n, rfl, ho, hc, hd, hi, hne⟩ := x
  cases hx : xs.toList with
  | nil =>
    rw [hx] at hi
    cases hi
    exact absurd rfl hne
  | cons f r =>
    have h0 : xs[0]? = some f := by
      rw [← Array.getElem?_toList, hx]
      rfl
    rw [hx] at hi
    refine ⟨f, a, o, xs, n, rfl, ho, hc, hd, h0, fun hs => ?_, fun hs => ?_⟩
    · obtain ⟨m, t, _, e, _⟩ := tupItems_int hs hi
      exact ⟨m, t, e⟩
    · obtain ⟨m, t, _, e, _⟩ := tupItems_str hs hi
      exact ⟨m, t, e⟩
theorem firstsN {h : Heap} {shape : Nat → Bool} {k : Value → List Itm} : ∀ {vs : List Value}, (∀ v ∈ vs, IsTupS h shape v (k v)) → ∃ fs, TupsOf h shape vs fs ∧ fs.length = vs.length
  | [], _ => ⟨[], .nil, rfl⟩
  | v :: vs, hp => by
    obtain ⟨f, hf⟩ := (hp v (List.mem_cons_self ..)).first
    obtain ⟨fs, h1, h2⟩ := firstsN (k := k) (vs := vs) fun u hu => hp u (List.mem_cons_of_mem _ hu)
    exact ⟨f :: fs, .cons hf h1, by rw [List.length_cons, List.length_cons, h2]⟩
section
variable {prog : Program} {w : World} {A : Around} {E : Value → Shared → Prop} {s : Shared}
theorem tups_sortableO {a : Addr} {vs : List Value} {shape : Nat → Bool} {k : Value → List Itm} (h0 : 0 < vs.length) (hp : ∀ v ∈ vs, IsTupS s.heap shape v (k v)) (ha : ∀ o, s.heap.get? a = some o → o.cls ≠ .type "tuple") : SortableO prog w A s a vs fun v u => ltN (k v) (k u) := by
  intro h' keep
  have hp' : ∀ v ∈ vs, IsTupS h' shape v (k v) := fun v hm => (hp v hm).keeps fun b o e c => keep b o (fun z => by subst z; exact ha o e c) e
  obtain ⟨fs, h1, h2⟩ := firstsN hp'
  refine ⟨tuples' true, fun Q E hq => tup_kind (by omega) h1 hq, fun p q hm hm' => ?_⟩
  exact tup_ltAt (shape := shape) true A _ p.1 q.1 (k p.1) (k q.1) (hp' _ hm).key (hp' _ hm').key ⟨rfl, rfl⟩
theorem sorted_tups_in {l : Addr} {T : String} {o : Obj} {items : Array Value} {n : Nat} {shape : Nat → Bool} {k : Value → List Itm} {Q : Value → Shared → Prop} (hT : T = "list" ∨ T = "tuple") (ho : s.heap.get? l = some o) (hc : o.cls = .type T) (hd : o.data = .seq items n)
    (hz : items.toList.length ≤ sizeLine) (hp : ∀ v ∈ items.toList, IsTupS s.heap shape v (k v))
    (h : ∀ (h1 h' : Heap) (out : List Value), Srtd (fun v u => ltN (k v) (k u)) out → Stb (fun v u => ltN (k v) (k u)) out items.toList → (∀ b o, s.heap.get? b = some o → h1.get? b = some o) → (∀ b o, h1.get? b = some o → h'.get? b = some o) → (∃ n, h'.get? h1.objs.size = some (seqObj "list" out.toArray n)) → Q (.ref h1.objs.size) { s with heap := h' }) :
    wpAny (model prog w) A (call (.builtin "sorted") [.ref l]) Q E s := by
  refine Calls.call_function_entry kind_sorted plain_sorted entry_sorted (args_sorted1 _) ?_
  unfold Builtin.«sorted»
  refine wpAny_bind (m := checkCount "sorted" 1 1 _) (wpAny_pure ?_)
  refine wpAny_bind (wpAny_collect_seq l hT ho hc hd (fun h1 k1 => ?_) (by simpa using hz))
  refine wpAny_bind (wpAny_newList ?_ hz)
  have hoL : (h1.push (seqObj "list" items.toList.toArray 0)).get? h1.objs.size = some (seqObj "list" items.toList.toArray 0) := Heap.get?_push_size _ rfl
  have k2 : ∀ b o, s.heap.get? b = some o → b ≠ h1.objs.size ∧ (h1.push (seqObj "list" items.toList.toArray 0)).get? b = some o := fun b o q =>
    ⟨Nat.ne_of_lt (Heap.lt_size (k1 b o q)), Heap.get?_push_of_some _ (k1 b o q)⟩
  show wpAny _ _ _ _ _ { s with heap := h1.push (seqObj "list" items.toList.toArray 0) }
  refine wpAny_bind (wpAny_holding (wpAny_call_entry slot_list_sort ⟨_, hoL, rfl⟩ entry_list_sort (list_sort_ord (swo_N k) hoL hz (fun h2 => ?_) fun out hs hb => ⟨_, rfl, ?_⟩) (args_list_sort _)))
  · refine tups_sortableO (s := { s with heap := h1.push (seqObj "list" items.toList.toArray 0) }) (by omega) (fun v hm => (hp v hm).keeps fun b o e _ => (k2 b o e).2) fun o e => ?_
    have e' : some o = some (seqObj "list" items.toList.toArray 0) := e.symm.trans hoL
    cases e'
    intro c
    exact absurd (Value.type.inj c) (by decide)
  · obtain ⟨e', he'⟩ := sortedHeap_at (vs := items.toList) (out := out.toArray) hoL
    refine wpAny_pure ⟨_, rfl, h h1 _ out hs hb k1 (fun b u e => ?_) ⟨e', he'⟩⟩
    have hb' : b < h1.objs.size := Heap.lt_size e
    rw [sortedHeap_old (Nat.ne_of_lt hb') (by rw [size_push']; exact Nat.lt_succ_of_lt hb')]
    exact Heap.get?_push_of_some _ e
end
def itV : Itm → V
  | .inl i => .int i
  | .inr l => .str ⟨l.toArray⟩
def isS : Itm → Bool
  | .inl _ => false
  | .inr _ => true
theorem itV_inj : ∀ {x y : Itm}, itV x = itV y → x = y
  | .inl i, .inl j, h => by cases h; rfl
  | .inr a, .inr b, h => by
    injection h with h
    injection h with h
    have : a = b := by simpa using h
    rw [this]
  | .inl _, .inr _, h => nomatch h
  | .inr _, .inl _, h => nomatch h
theorem map_itV : ∀ {a b : List Itm}, a.map itV = b.map itV → a = b
  | [], [], _ => rfl
  | [], _ :: _, h => nomatch h
  | _ :: _, [], h => nomatch h
  | x :: a, y :: b, h => by
    rw [List.map_cons, List.map_cons] at h
    injection h with h1 h2
    rw [itV_inj h1, map_itV h2]
theorem items_of {shape : Nat → Bool} : ∀ (l : List Itm) (us : List Value) (i : Nat), Vals (l.map itV) us → (∀ j x, l[j]? = some x → shape (i + j) = isS x) → tupItems shape i us = some l
  | [], _, _, h, _ => by cases h; unfold tupItems; rfl
  | .inl n :: l, _, i, h, hs => by
    cases h with
    | cons r1 r2 =>
      obtain ⟨t, rfl⟩ := r1
      have h0 : shape i = false := hs 0 _ rfl
      have ih := items_of l _ (i + 1) r2 fun j x hj => by
        have := hs (j + 1) x hj
        rw [show i + 1 + j = i + (j + 1) by omega]
        exact this
      unfold tupItems
      rw [h0, if_neg Bool.false_ne_true, ih]
      rfl
  | .inr m :: l, _, i, h, hs => by
    cases h with
    | cons r1 r2 =>
      obtain ⟨t, rfl⟩ := r1
      have h0 : shape i = true := hs 0 _ rfl
      have ih := items_of l _ (i + 1) r2 fun j x hj => by
        have := hs (j + 1) x hj
        rw [show i + 1 + j = i + (j + 1) by omega]
        exact this
      unfold tupItems
      rw [h0, if_pos rfl, ih]
      rfl
/-- sorted(xs), a list or a tuple of such tuples, told beside the items -/
def rSortTs (K : PySem.W.Frag) : List V → Hp → VK → Prop := fun vs H Q => ∃ (a : Addr) (L : List (V × (List Itm))) (sh : List Bool), sh ≠ [] ∧ vs = [V.ref a] ∧ (SqL K H a (L.map (·.1)) ∨ SqT K H a (L.map (·.1))) ∧ (∀ x ∈ L, x.2.map isS = sh ∧ ∃ t, x.1 = V.ref t ∧ SqT K H t (x.2.map itV)) ∧
  ∀ (L' : List (V × (List Itm))) (p : Addr), L'.Perm L → L'.Pairwise (fun x y => ltN y.2 x.2 = false) → H p = none → Q (.ref p) (upd H p (.lst (L'.map (·.1))))
open Classical in
noncomputable def keyOf' (K : PySem.W.Frag) (H : Hp) (v : V) : List Itm := if h : ∃ q : List Itm, ∃ t, v = V.ref t ∧ SqT K H t (q.map itV) then choose h else []
theorem keyOf_eq {X : Cx} {pins : List (Addr × Obj)} {σ : L2.St} {H : Hp} {s : Shared} (I : Inv X pins σ H s) {t : Addr} {q : List Itm} (h : SqT X.K H t (q.map itV)) : keyOf' X.K H (.ref t) = q := by
  have hx : ∃ q : List Itm, ∃ t', V.ref t = V.ref t' ∧ SqT X.K H t' (q.map itV) := ⟨q, t, rfl, h⟩
  unfold keyOf'
  rw [dif_pos hx]
  obtain ⟨t', e, h'⟩ := Classical.choose_spec hx
  cases e
  have := I.tuple_inj h' h
  exact map_itV this
theorem cr_sortTs {X : Cx} : CallR X (.builtin "sorted") (rSortTs X.K) := by
  intro pins s σ H vs us Q I r h
  obtain ⟨a, L, sh, hsh, rfl, hs, hx, q⟩ := h
  obtain ⟨u, rfl, ru⟩ := vals1 r
  obtain rfl : u = Value.ref a := ru
  obtain ⟨T, o, its, n, hT, ho, hc, hd, rv, hz⟩ : ∃ (T : String) (o : Obj) (its : List Value) (n : Nat), (T = "list" ∨ T = "tuple") ∧ s.heap.get? a = some o ∧ o.cls = .type T ∧ o.data = .seq its.toArray n ∧ Vals (L.map (·.1)) its ∧ (L.map (·.1)).length ≤ sizeLine := by
    rcases hs with hs | hs
    · obtain ⟨its, rv, hl, hz⟩ := I.list hs
      obtain ⟨o, ho, hc, n, hd⟩ := hl.isList
      exact ⟨"list", o, its, n, .inl rfl, ho, hc, hd, rv, hz⟩
    · obtain ⟨its, rv, hl, hz⟩ := I.tuple hs
      obtain ⟨o, ho, hc, n, hd⟩ := hl
      exact ⟨"tuple", o, its, n, .inr rfl, ho, hc, hd, rv, hz⟩
  have hk : ∀ x ∈ L, keyOf' X.K H x.1 = x.2 := fun x hm => by
    obtain ⟨_, t, e, ht⟩ := hx x hm
    rw [e]
    exact keyOf_eq I ht
  obtain ⟨e1, e2⟩ := refs_back rv fun x m => by
    obtain ⟨y, hy, rfl⟩ := List.mem_map.mp m
    obtain ⟨_, t, e, _⟩ := hx y hy
    exact ⟨t, e⟩
  refine sorted_tups_in (shape := fun i => sh.getD i false) (k := fun u => keyOf' X.K H (backV u)) hT ho hc hd (by rw [← rv.length]; exact hz) (fun v hv => ?_) fun h1 h' out g1 g2 k1 k2 hn => ?_
  · have hv : v ∈ its := by simpa using hv
    obtain ⟨t, rfl⟩ := e2 v hv
    have hm : V.ref t ∈ L.map (·.1) := by rw [e1]; exact List.mem_map.mpr ⟨_, hv, rfl⟩
    obtain ⟨y, hy, ey⟩ := List.mem_map.mp hm
    obtain ⟨hy2, t', e, ht⟩ := hx y hy
    have ek := hk y hy
    rw [ey] at e ek
    cases e
    obtain ⟨its2, r2, hl2, _⟩ := I.tuple ht
    obtain ⟨o2, ho2, hc2, n2, hd2⟩ := hl2
    show IsTupS s.heap _ (.ref t) (keyOf' X.K H (.ref t))
    rw [ek]
    refine ⟨t, o2, _, n2, rfl, ho2, hc2, hd2, ?_, fun z => ?_⟩
    · have e5 : its2.toArray.toList = its2 := by simp
      rw [e5]
      refine items_of y.2 its2 0 r2 fun j x hj => ?_
      rw [Nat.zero_add, ← hy2, List.getD_eq_getElem?_getD, List.getElem?_map, hj]
      rfl
    · rw [z] at hy2
      exact hsh hy2.symm
  · have eits : its.toArray.toList = its := by simp
    rw [eits] at g2
    have h3 : ∀ u ∈ out, ∃ a, u = Value.ref a := fun u hu => e2 u (g2.perm.mem_iff.mp hu)
    obtain ⟨n', hn⟩ := hn
    have I1 : Inv X pins σ H { s with heap := h1 } := I.kept (t' := s.toks) k1
    have hb : (out.map backV).Perm (L.map (·.1)) := by
      rw [e1]
      exact g2.perm.map backV
    have eL : (L.map (·.1)).map (fun v => (v, keyOf' X.K H v)) = L := by
      rw [List.map_map]
      conv => rhs; rw [← List.map_id L]
      apply List.map_congr_left
      intro x hm
      show (x.1, keyOf' X.K H x.1) = x
      rw [hk x hm]
    have hL' : ((out.map backV).map fun v => (v, keyOf' X.K H v)).Perm L := by
      have := hb.map fun v => (v, keyOf' X.K H v)
      rw [eL] at this
      exact this
    have e3 : ((out.map backV).map fun v => (v, keyOf' X.K H v)).map (·.1) = out.map backV := by
      rw [List.map_map]
      conv => rhs; rw [← List.map_id (out.map backV)]
      rfl
    have fin := q _ h1.objs.size hL' (by
      rw [List.pairwise_map, List.pairwise_map]
      exact g1) (I1.hok.fresh (Nat.le_refl _))
    rw [e3] at fin
    refine ⟨.ref h1.objs.size, upd H h1.objs.size (.lst (out.map backV)), I1.laid (t' := s.toks) k2 (Nat.le_refl _) ⟨?_, out, n', vals_back h3, hn⟩, rfl, fin⟩
    rw [hb.length_eq]
    exact hz
end PuE
namespace Pu
open PySem L2 PySem.Spec PyProof.Rows PuE
def itD : Itm → D
  | .inl i => .int i
  | .inr l => .str l
def itsD : List D → Option (List Itm)
  | [] => some []
  | .int i :: ds => (itsD ds).map (Sum.inl i :: ·)
  | .str l :: ds => (itsD ds).map (Sum.inr l :: ·)
  | _ => none
def tsD : List D → Option (List (List Itm))
  | [] => some []
  | .tup xs :: ds => match itsD xs, tsD ds with
    | some l, some r => some (l :: r)
    | _, _ => none
  | _ => none
def trD (l : List Itm) : D := .tup (l.map itD)
/-- sorted(list or tuple of such tuples) -/
def pSortN : List D → (R → Prop) → Prop
  | [d], Q => match d.seqs with
    | some ds => match tsD ds with
      | some ls => ∃ sh : List Bool, sh ≠ [] ∧ (∀ l ∈ ls, l.map isS = sh) ∧ ∀ qs : List (List Itm), qs.Perm ls → qs.Pairwise (fun x y => ltN y x = false) → Q (.own (qs.map trD))
      | none => False
    | none => False
  | _, _ => False
section
variable {Γ : Gm} {κ : Ka} {H : Hp} {Y : Fam} {e a b : Expr} {pos : Pos} {σ : Sl} {env : En}
theorem itsD_rep : ∀ {ds : List D} {vs : List V} {l : List Itm}, RepL Γ.K Γ.cls κ H vs ds → itsD ds = some l → vs = l.map itV ∧ ds = l.map itD
  | [], _, _, h, e => by cases h; cases e; exact ⟨rfl, rfl⟩
  | d :: ds, _, _, h, e => by
    cases h with
    | @cons v vs _ _ h1 h2 =>
      match d, h1, e with
      | .int i, h1, e =>
        have e : (itsD ds).map (Sum.inl i :: ·) = some _ := e
        cases q : itsD ds with
        | none => rw [q] at e; cases e
        | some r =>
          rw [q] at e
          cases e
          obtain ⟨e1, e2⟩ := itsD_rep h2 q
          cases h1
          exact ⟨by rw [e1]; rfl, by rw [e2]; rfl⟩
      | .str m, h1, e =>
        have e : (itsD ds).map (Sum.inr m :: ·) = some _ := e
        cases q : itsD ds with
        | none => rw [q] at e; cases e
        | some r =>
          rw [q] at e
          cases e
          obtain ⟨e1, e2⟩ := itsD_rep h2 q
          obtain ⟨rfl, _⟩ := h1.strE
          exact ⟨by rw [e1]; rfl, by rw [e2]; rfl⟩
theorem tsD_rep : ∀ {ds : List D} {vs : List V} {ls : List (List Itm)}, RepL Γ.K Γ.cls κ H vs ds → tsD ds = some ls → ∃ L : List (V × List Itm), L.map (·.1) = vs ∧ L.map (·.2) = ls ∧ ∀ x ∈ L, Rep Γ.K Γ.cls κ H x.1 (trD x.2)
  | [], _, _, h, e => by cases h; cases e; exact ⟨[], rfl, rfl, by simp⟩
  | d :: ds, _, _, h, e => by
    cases h with
    | @cons v vs _ _ h1 h2 =>
      match d, h1, e with
      | .tup xs, h1, e =>
        unfold tsD at e
        cases q1 : itsD xs with
        | none => rw [q1] at e; cases e
        | some l =>
          cases q : tsD ds with
          | none => rw [q1, q] at e; cases e
          | some r =>
            rw [q1, q] at e
            cases e
            obtain ⟨L, e1, e2, e3⟩ := tsD_rep h2 q
            refine ⟨(v, l) :: L, by rw [List.map_cons, e1], by rw [List.map_cons, e2], fun x hx => ?_⟩
            rcases List.mem_cons.mp hx with rfl | hx
            · obtain ⟨_, vs2, _, _, _, r2⟩ := h1.sqT
              have := (itsD_rep r2 q1).2
              show Rep Γ.K Γ.cls κ H v (.tup (l.map itD))
              rw [← this]
              exact h1
            · exact e3 x hx
theorem itsD_map : ∀ l : List Itm, itsD (l.map itD) = some l
  | [] => rfl
  | .inl i :: l => by show (itsD (l.map itD)).map _ = _; rw [itsD_map l]; rfl
  | .inr m :: l => by show (itsD (l.map itD)).map _ = _; rw [itsD_map l]; rfl
theorem tsD_map : ∀ ls : List (List Itm), tsD (ls.map trD) = some ls
  | [] => rfl
  | l :: ls => by
    show (match itsD (l.map itD), tsD (ls.map trD) with | some l, some r => some (l :: r) | _, _ => none) = _
    rw [itsD_map, tsD_map ls]
theorem repN_of : ∀ {L : List (V × List Itm)}, (∀ x ∈ L, Rep Γ.K Γ.cls κ H x.1 (trD x.2)) → RepL Γ.K Γ.cls κ H (L.map (·.1)) ((L.map (·.2)).map trD)
  | [], _ => .nil
  | x :: L, h => .cons (h x (by simp)) (repN_of fun y hy => h y (List.mem_cons_of_mem _ hy))
theorem ref_sortN : CallRef PuE.rSortTs pSortN := by
  intro Γ σ κ H env vs ds Q Q' I h q k
  match ds, vs, h, q with
  | [d], _, .cons (v := v) hd .nil, q =>
    unfold pSortN at q
    simp only at q
    have key : ∀ (a : Addr) (ws : List V) (xs : List D), v = .ref a → (SqL Γ.K H a ws ∨ SqT Γ.K H a ws) → ws.length ≤ sizeLine → RepL Γ.K Γ.cls κ H ws xs →
        (match tsD xs with | some ls => ∃ sh : List Bool, sh ≠ [] ∧ (∀ l ∈ ls, l.map isS = sh) ∧ ∀ qs : List (List Itm), qs.Perm ls → qs.Pairwise (fun x y => ltN y x = false) → Q (.own (qs.map trD)) | none => False) → PuE.rSortTs Γ.K [v] H Q' := by
      intro a ws xs ev hw hz hr q
      cases e1 : tsD xs with
      | none => rw [e1] at q; exact q.elim
      | some ls =>
        rw [e1] at q
        obtain ⟨sh, s0, s1, q⟩ := q
        obtain ⟨L, l1, l2, l3⟩ := tsD_rep hr e1
        subst l1 l2 ev
        refine ⟨a, L, sh, s0, rfl, hw, fun x hx => ⟨s1 _ (List.mem_map.mpr ⟨x, hx, rfl⟩), ?_⟩, fun L' p hp hs hpn => ?_⟩
        · obtain ⟨t, vs2, e2, h2, _, r2⟩ := (l3 x hx).sqT
          refine ⟨t, e2, ?_⟩
          rw [← (itsD_rep r2 (itsD_map x.2)).1]
          exact h2
        · have r' := repN_of (Γ := Γ) (κ := κ) (H := H) (L := L') fun x hx => l3 x (hp.mem_iff.mp hx)
          refine k _ κ _ (.own _) (Ext.upd_new I.gh hpn) (I.upd_new hpn) (new_lst I hpn ?_ r') (q _ (hp.map _) (by rw [List.pairwise_map]; exact hs))
          rw [List.length_map, hp.length_eq]
          rw [List.length_map] at hz
          exact hz
    cases d with
    | lst xs =>
      obtain ⟨a, ws, rfl, g1, g2, g3⟩ := hd
      exact key a ws xs rfl (.inl (SqL.of g1)) g2 g3 q
    | tup xs =>
      obtain ⟨a, ws, rfl, g1, g2, g3⟩ := Rep.sqT hd
      exact key a ws xs rfl (.inr g1) g2 g3 q
    | _ => exact q.elim
theorem ve_sortN {p' : Pos} {t : PTR} (hm : ∀ i, (Y.X i).mg "sorted" = none) (ha : VR Y [e] t) (hg : ∀ i, Gl (Y.X i) "sorted" := by intro _; rfl) (he : ∀ X : Cx, starEach [e] X.env = (false, eval e X.env) :: starEach [] X.env := by intro _; rfl) : VE Y (.Call (.Name "sorted" p') [e] [] pos) (tCallP pSortN t) :=
  ve_callB (fun _ => PuE.cr_sortTs) ref_sortN hm ha hg (he := he)
end
end Pu
set_option maxRecDepth 100000
set_option maxHeartbeats 4000000
namespace PuE
open PySem PySem.Spec PyProof.Rows L2
end PuE
set_option maxRecDepth 100000
set_option maxHeartbeats 4000000
namespace Pu
open PySem L2 PuE
section
variable {α : Type} [DecidableEq α] {K : PySem.W.Frag} {cl : Cl} {κ : Ka} {H : Hp}
def getA (kvs : List (α × D)) (k : α) : Option D := (kvs.find? fun kv => decide (kv.1 = k)).map (·.2)
def setA (kvs : List (α × D)) (k : α) (d : D) : List (α × D) :=
  if (kvs.any fun kv => decide (kv.1 = k)) = true then kvs.map (fun kv => if kv.1 = k then (kv.1, d) else kv) else kvs ++ [(k, d)]
def mergeA (kvs more : List (α × D)) : List (α × D) := more.foldl (fun acc kv => setA acc kv.1 kv.2) kvs
end
section
variable {K : PySem.W.Frag} {cl : Cl} {Γ Γ' : Gm} {κ κ' : Ka} {H H' : Hp} {env env' : En} {σ : Sl} {v : V} {st : Sto} {Y : Fam} {a b c e o i : Expr} {es : List Expr} {ta tb tc te to ti : PTE} {pos : Pos}
def keyL : List D → Option (List Key)
  | [] => some []
  | d :: ds => match keyD d with
    | some k => match keyL ds with
      | some ks => some (k :: ks)
      | none => none
    | none => none
/-- a tuple's key -/
def tupK : D → Option (List Key)
  | .tup ds => keyL ds
  | _ => none
def tget : R → En → Option (List (List Key × D))
  | .nam i, e => match e.sl[i]? with
    | some (.dT ds) => some ds
    | _ => none
  | .d (.ref k), e => match e.st[k]? with
    | some (.dT ds) => some ds
    | _ => none
  | _, _ => none
def tset : R → En → List (List Key × D) → En
  | .nam i, e, ds => e.setC i (.dT ds)
  | .d (.ref k), e, ds => ⟨e.sl, e.st.set k (.dT ds)⟩
  | _, e, _ => e
def tgetR : R → En → Option (List (List Key × D))
  | .d (.dct ks ds), _ => some (ks.zip ds)
  | r, e => tget r e
/-- {}, to be filled by tuples -/
def tDictT0 : PTE := fun _ e Q => Q (.dT []) e
/-- d[k], k a tuple -/
def tDGT (to ti : PTE) : PTE := fun x e Q => to x e fun r e1 => hold r e1 fun r e1 => ti x e1 fun ri e2 => match tgetR r e2 with
  | some kvs => match rv ri e2 with
    | some kd => match tupK kd with
      | some k => match getA kvs k with
        | some d => Q (.d d) e2
        | none => False
      | none => False
    | none => False
  | none => False
/-- d[k] = v, k a tuple -/
def sDPtT (te to ti : PTE) : PTS := fun x P e => te x e fun r0 e1 => fz r0 e1 fun dv e2 => to x e2 fun ro e3 => hold ro e3 fun ro e3 => ti x e3 fun ri e4 => match tget ro e4 with
  | some kvs => match rv ri e4 with
    | some kd => match tupK kd with
      | some k => kvs.length < sizeLine ∧ P.nx (tset ro e4 (setA kvs k dv))
      | none => False
    | none => False
  | none => False
def tCallT (p : List (List Key × D) → (R → Prop) → Prop) (t : PTR) : PTE := fun x e Q => t x e fun rs e1 => match rs with
  | [r] => match tgetR r e1 with
    | some kvs => p kvs (fun r => Q r e1)
    | none => False
  | _ => False
/-- len(d) -/
def pLenT (kvs : List (List Key × D)) (Q : R → Prop) : Prop := Q (.d (.int kvs.length))
/-- list(d) -/
def invK : Key → D
  | .inl i => .int i
  | .inr s => .str s.cps.toList
def isIK : Key → Bool
  | .inl _ => true
  | .inr _ => false
def pListT (kvs : List (List Key × D)) (Q : R → Prop) : Prop := kvs.length ≤ sizeLine ∧ (∀ kv ∈ kvs, kv.1.length ≤ sizeLine ∧ kv.1.all isIK = true) ∧ Q (.own (kvs.map fun kv => .tup (kv.1.map invK)))
theorem IsKeys.len {H : Hp} {vs : List (List Key × V)} {bs : List Addr} (h : IsKeys H vs bs) : vs.length = bs.length := Paired.length h
def pairsT : List D → Option (List (List Key × D))
  | [] => some []
  | .tup [kd, v] :: r => match tupK kd with
    | some k => match pairsT r with
      | some kvs => some ((k, v) :: kvs)
      | none => none
    | none => none
  | _ => none
def pairsK : List D → Option (List (Key × D))
  | [] => some []
  | .tup [kd, v] :: r => match keyD kd with
    | some k => match pairsK r with
      | some kvs => some ((k, v) :: kvs)
      | none => none
    | none => none
  | _ => none
def pDictT : List D → (R → Prop) → Prop
  | [.lst ds], Q => match pairsT ds with
    | some kvs => Q (.dT (mergeA [] kvs))
    | none => False
  | _, _ => False
def pDictK : List D → (R → Prop) → Prop
  | [.lst ds], Q => match pairsK ds with
    | some kvs => Q (.dK (mergeA [] kvs))
    | none => False
  | _, _ => False
def tChn (g g' : Int → Int → Bool) (ta tb tc : PTE) : PTE := fun x e Q => ta x e fun r0 e1 => match rv r0 e1 with
  | some (.int i) => tb x e1 fun r1 e2 => match rv r1 e2 with
    | some (.int j) => if g i j = true then tc x e2 fun r2 e3 => match rv r2 e3 with
        | some (.int k) => Q (.d (.bl (g' j k))) e3
        | _ => False
      else Q (.d (.bl false)) e2
    | _ => False
  | _ => False
def pMMI (f : Int → List Int → Int) : List D → (R → Prop) → Prop
  | [d], Q => match intL d.items with
    | some (x :: r) => Q (.d (.int (f x r)))
    | _ => False
  | _, _ => False
end
end Pu
set_option maxRecDepth 100000
set_option maxHeartbeats 4000000
namespace PuE
open PySem PySem.Spec PyProof.Rows SS
/-- how many unlike ones of the first so many -/
def unl (xs : List Str) : Nat → Nat
  | 0 => 0
  | i + 1 => if (xs.take i).any (· == xs.getD i Str.empty) then unl xs i else unl xs i + 1
end PuE
namespace PuE
open PySem PySem.Spec PyProof.Rows L2
end PuE
namespace Pu
open PySem L2 PuE
section
variable {Γ Γ' : Gm} {κ κ' : Ka} {H H' : Hp} {env env' : En} {σ : Sl} {v : V} {st : Sto} {Y : Fam} {a b e : Expr} {es : List Expr} {ta tb te : PTE} {pos : Pos}
/-- how many unlike texts -/
def unlT (ls : List (List Nat)) : Nat := unl (ls.map fun l => (⟨l.toArray⟩ : Str)) ls.length
def pLenS (d : D) (Q : R → Prop) : Prop := match d with
  | .lst ds => match strL ds with
    | some ls => ls.length < 64 ∧ Q (.d (.int (unlT ls)))
    | none => False
  | _ => False
end
end Pu
set_option maxRecDepth 100000
set_option maxHeartbeats 4000000
namespace PuE
open PySem PySem.Spec PyProof.Rows L2
end PuE
namespace Pu
open PySem L2 PuE
section
variable {Γ Γ' : Gm} {κ κ' : Ka} {H H' : Hp} {env env' : En} {σ : Sl} {v : V} {st : Sto} {Y : Fam} {a b c d e : Expr} {es : List Expr} {ta tb tc td te : PTE} {pos : Pos}
def tChn3 (g1 g2 g3 : Int → Int → Bool) (ta tb tc td : PTE) : PTE := fun x e Q => ta x e fun r0 e1 => match rv r0 e1 with
  | some (.int i) => tb x e1 fun r1 e2 => match rv r1 e2 with
    | some (.int j) => if g1 i j = true then tc x e2 fun r2 e3 => match rv r2 e3 with
        | some (.int k) => if g2 j k = true then td x e3 fun r3 e4 => match rv r3 e4 with
            | some (.int l) => Q (.d (.bl (g3 k l))) e4
            | _ => False
          else Q (.d (.bl false)) e3
        | _ => False
      else Q (.d (.bl false)) e2
    | _ => False
  | _ => False
end
end Pu
set_option maxRecDepth 100000
set_option maxHeartbeats 4000000
namespace Pu
open PySem L2
section
variable {Γ Γ' : Gm} {κ κ' : Ka} {H H' : Hp} {env env' : En} {σ : Sl} {v : V} {st : Sto} {Y : Fam} {a b c d e : Expr} {es : List Expr} {ta tb tc td te : PTE} {pos : Pos}
def pLtT (d e : D) (Q : R → Prop) : Prop := match d, e with
  | .tup xs, .tup ys => match intL xs, intL ys with
    | some ns, some ms => Q (.d (.bl (HT.lexLt ns ms)))
    | _, _ => False
  | _, _ => False
theorem ref_ltT : OpRef rLtT pLtT := by
  intro Γ σ κ H env v u d e Q Q' I hd he q k
  cases d with
  | tup xs =>
    cases e with
    | tup ys =>
      obtain ⟨a, vs, rfl, h1, h2, h3⟩ := Rep.sqT hd
      obtain ⟨b, ws, rfl, g1, g2, g3⟩ := Rep.sqT he
      have q : (match intL xs, intL ys with | some ns, some ms => Q (.d (.bl (HT.lexLt ns ms))) | _, _ => False) := q
      cases e1 : intL xs with
      | none => rw [e1] at q; exact q.elim
      | some ns =>
        cases e2 : intL ys with
        | none => rw [e1, e2] at q; exact q.elim
        | some ms =>
          rw [e1, e2] at q
          have := intL_rep h3 e1
          subst this
          have := intL_rep g3 e2
          subst this
          exact ⟨a, b, ns, ms, rfl, rfl, h1, g1, k _ κ H (.d (.bl _)) (.refl ..) I (.bl _) q⟩
    | _ => exact q.elim
  | _ => exact False.elim (by cases e <;> exact q)
theorem vt_ltT (hu : Hu Y) (ha : VE Y a ta) (hb : VE Y b tb) : VT Y (.Compare a [.Lt] [b] pos) (tB (t2 ta tb pLtT)) := vt_cmp (fun i => op_ltT (by have := hu i; omega)) ref_ltT ha hb (nomark _)
end
end Pu
set_option maxRecDepth 100000
set_option maxHeartbeats 4000000
namespace Pu
open PySem PySem.Spec PyProof.Rows L2 PuE
mutual
/-- the value v is the key k -/
inductive NV (H : Hp) : NestedKey → V → Prop
  | int (i : Int) : NV H (.num i) (.int i)
  | text (x : Str) : NV H (.text x) (.str x)
  | tup {a : Addr} {ks : List NestedKey} {vs : List V} : Rd H a (.tup vs) → NVs H ks vs → NV H (.tup ks) (.ref a)
inductive NVs (H : Hp) : List NestedKey → List V → Prop
  | nil : NVs H [] []
  | cons {k : NestedKey} {v : V} {ks : List NestedKey} {vs : List V} : NV H k v → NVs H ks vs → NVs H (k :: ks) (v :: vs)
end
section
variable {K : PySem.W.Frag} {cl : Cl} {κ : Ka} {H : Hp}
mutual
theorem NV.of : ∀ (d : D) (v : V) (k : NestedKey), Rep K cl κ H v d → nkD d = some k → NV H k v
  | .int i, _, _, h, e => by cases h; cases e; exact .int i
  | .str s, _, _, h, e => by cases h; cases e; exact .text _
  | .tup ds, _, k, h, e => by
    unfold nkD at e
    cases e1 : nkL ds with
    | none => rw [e1] at e; cases e
    | some ks =>
      rw [e1] at e
      cases e
      cases h with
      | tup _ h0 h1 h2 h3 => exact .tup (.inl h1) (NVs.of ds _ _ h3 e1)
      | tupF _ _ _ h0 h1 h2 h3 => exact .tup (.inr ⟨_, h1⟩) (NVs.of ds _ _ h3 e1)
  | .non, _, _, _, e => by cases e
  | .bl _, _, _, _, e => by cases e
  | .lst _, _, _, _, e => by cases e
  | .scr _, _, _, _, e => by cases e
  | .box, _, _, _, e => by cases e
  | .ref _, _, _, _, e => by cases e
  | .cls _, _, _, _, e => by cases e
  | .exc .., _, _, _, e => by cases e
  | .dct .., _, _, _, e => by cases e
  | .dck .., _, _, _, e => by cases e
  | .dcn .., _, _, _, e => by cases e
theorem NVs.of : ∀ (ds : List D) (vs : List V) (ks : List NestedKey), RepL K cl κ H vs ds → nkL ds = some ks → NVs H ks vs
  | [], _, _, h, e => by cases h; cases e; exact .nil
  | d :: ds, _, ks, h, e => by
    cases h with
    | cons h1 h2 =>
      unfold nkL at e
      cases e1 : nkD d with
      | none => rw [e1] at e; cases e
      | some k =>
        rw [e1] at e
        cases e2 : nkL ds with
        | none => rw [e2] at e; cases e
        | some kr =>
          rw [e2] at e
          cases e
          exact .cons (NV.of d _ _ h1 e1) (NVs.of ds _ _ h2 e2)
end
end
section
variable {X : Cx}
theorem NVs.get {H : Hp} : ∀ {ks : List NestedKey} {vs : List V} {j : Nat} {k : NestedKey}, NVs H ks vs → ks[j]? = some k → ∃ v, vs[j]? = some v ∧ NV H k v
  | [], _, _, _, _, e => by simp at e
  | k :: ks, _, 0, k', h, e => by
    cases h with
    | cons h1 h2 => cases e; exact ⟨_, rfl, h1⟩
  | k :: ks, _, j + 1, k', h, e => by
    cases h with
    | cons h1 h2 =>
      obtain ⟨v, g1, g2⟩ := NVs.get (j := j) h2 (by simpa using e)
      exact ⟨v, by simpa using g1, g2⟩
end
section
variable {Γ Γ' : Gm} {κ κ' : Ka} {H H' : Hp} {env env' : En} {σ : Sl} {v : V} {st : Sto} {Y : Fam} {a b c e o i : Expr} {es : List Expr} {ta tb tc te to ti : PTE} {pos : Pos}
def pairsN : List D → Option (List (NestedKey × D × Int))
  | [] => some []
  | .tup [kd, .int v] :: r => match nkD kd with
    | some k => match pairsN r with
      | some kvs => some ((k, kd, v) :: kvs)
      | none => none
    | none => none
  | _ => none
def pDictN : List D → (R → Prop) → Prop
  | [.lst ds], Q => match pairsN ds with
    | some kvs => (kvs.map (·.1)).Nodup ∧ (∀ p ∈ kvs, p.1.depth ≤ 8 ∧ ∃ ds, p.2.1 = .tup ds) ∧ Q (.d (.dcn (kvs.map (·.2.1)) (kvs.map (·.2.2))))
    | none => False
  | _, _ => False
/-- the number of a key -/
def getN (ks : List D) (is : List Int) (kd : D) : Option Int := match nkD kd with
  | some k => match nkL ks with
    | some nks => ((nks.zip is).find? fun p => decide (p.1 = k)).map (·.2)
    | none => none
  | none => none
def pGN (d kd : D) (Q : R → Prop) : Prop := match d with
  | .dcn ks is => match getN ks is kd with
    | some i => Q (.d (.int i))
    | none => False
  | _ => False
/-- a, b, .. = a list of that length -/
def gLs (n : Nat) (t : PTGs) : PTG := fun d e Q => match d with
  | .lst ds => ds.length = n ∧ t ds e Q
  | _ => False
end
end Pu
set_option maxRecDepth 100000
set_option maxHeartbeats 4000000
namespace Pu
open PySem PySem.Spec PyProof.Rows L2 PuE
section
variable {Γ Γ' : Gm} {κ κ' : Ka} {H H' : Hp} {Y : Fam} {e : Expr} {te : PTE} {pos : Pos}
def iRevT (te : PTE) : PTI := fun x e Q => te x e fun r e1 => fz r e1 fun d e2 => match d with
  | .tup ds => Q ds.reverse e2
  | _ => False
end
end Pu
set_option maxRecDepth 100000
set_option maxHeartbeats 4000000
namespace Pu
open PySem L2 PuE
section
variable {Γ Γ' : Gm} {κ κ' : Ka} {H H' : Hp} {env env' : En} {σ : Sl} {v : V} {st : Sto} {Y : Fam} {a b c d e : Expr} {es : List Expr} {ta tb tc td te : PTE} {pos : Pos}
def tChS (g g' : List Nat → List Nat → Bool) (ta tb tc : PTE) : PTE := fun x e Q => ta x e fun r0 e1 => match rv r0 e1 with
  | some (.str i) => tb x e1 fun r1 e2 => match rv r1 e2 with
    | some (.str j) => if g i j = true then tc x e2 fun r2 e3 => match rv r2 e3 with
        | some (.str k) => Q (.d (.bl (g' j k))) e3
        | _ => False
      else Q (.d (.bl false)) e2
    | _ => False
  | _ => False
end
end Pu
set_option maxRecDepth 100000
set_option maxHeartbeats 4000000
namespace Pu
open PySem L2 PuE
end Pu
set_option maxRecDepth 100000
set_option maxHeartbeats 4000000
namespace PuE
open PySem PySem.Spec PyProof.Rows L2 RT PySem.W
end PuE
namespace Pu
open PySem L2 PuE
end Pu
set_option maxRecDepth 100000
set_option maxHeartbeats 4000000
namespace PuE
open PySem PySem.Spec PyProof.Rows L2 RT PySem.W
end PuE
namespace Pu
open PySem L2 PuE
end Pu
set_option maxRecDepth 100000
set_option maxHeartbeats 4000000
namespace PuE
open PySem PySem.Spec PyProof.Rows L2
end PuE
namespace Pu
open PySem L2 PuE
end Pu
set_option maxRecDepth 100000
set_option maxHeartbeats 4000000
namespace Pu
open PySem L2 PuE
end Pu
set_option maxRecDepth 100000
set_option maxHeartbeats 1000000
namespace PuE
open PySem PySem.Spec PyProof.Rows L2
section
variable {X : Cx}
def rSortedSA (K : PySem.W.Frag) : List V → Hp → VK → Prop := fun vs H Q => ∃ (a : Addr) (xs : List Str), vs = [V.ref a] ∧ SqL K H a (xs.map V.str) ∧ xs.length ≤ sizeLine ∧
  ∀ (ys : List Str) (p : Addr), ys.Perm xs → sortedS ys = true → H p = none → Q (.ref p) (upd H p (.lst (ys.map V.str)))
theorem cr_sortedSA : CallR X (.builtin "sorted") (rSortedSA X.K) := by
  intro pins s σ H vs us Q I r h
  obtain ⟨a, xs, rfl, hs, h64, q⟩ := h
  obtain ⟨its, rv, hl, _⟩ := I.list hs
  rw [Vals.ref1 r]
  have hlen0 := rv.length
  rw [List.length_map] at hlen0
  refine PyProof.Rows.sorted_strsAny hl.isList rv.strs (by rw [← hlen0]; exact h64) fun out ys h1 h2 h3 => ?_
  obtain ⟨ep, he'⟩ := PyProof.Rows.sortedAll_at s.heap its out
  have hlen : (ys.map V.str).length ≤ sizeLine := by rw [List.length_map, h2.length_eq]; exact h64
  exact ⟨.ref _, upd H (s.heap.objs.size + 1) (.lst (ys.map V.str)), I.laid (t' := s.toks) (fun _ _ => PyProof.Rows.sortedAll_old) (Nat.le_succ _) ⟨hlen, out.toList, ep, vals_of_strs h1, he'⟩, rfl, q ys _ h2 h3 (I.hok.fresh (Nat.le_succ _))⟩
end
end PuE
namespace Pu
open PySem L2 PySem.Spec PyProof.Rows PuE
def pSortA : List D → (R → Prop) → Prop
  | [.lst ds], Q => match strL ds with
    | some r => r.length ≤ sizeLine ∧ ∀ r' : List (List Nat), r'.Perm r → sortedS (r'.map fun s => (⟨s.toArray⟩ : Str)) = true → Q (.own (r'.map D.str))
    | none => False
  | _, _ => False
section
variable {Γ : Gm} {κ : Ka} {H : Hp} {Y : Fam} {e a b : Expr} {pos : Pos} {σ : Sl} {env : En}
theorem sort_finA {ys : List Str} {r : List (List Nat)} {p : Addr} {Q : R → Prop} {Q' : VK} (I : Rl Γ κ env σ H) (h64 : r.length ≤ sizeLine) (e3 : ∀ s ∈ r, SOk s) (hp : ys.Perm (r.map fun s => (⟨s.toArray⟩ : Str))) (hs : sortedS ys = true) (hpn : H p = none)
    (q2 : ∀ r' : List (List Nat), r'.Perm r → sortedS (r'.map fun s => (⟨s.toArray⟩ : Str)) = true → Q (.own (r'.map D.str)))
    (k : ∀ v' κ' H' r, Ext κ H κ' H' → Rl Γ κ' env σ H' → RelR Γ κ' H' env σ v' r → Q r → Q' v' H') : Q' (.ref p) (upd H p (.lst (ys.map V.str))) := by
  obtain ⟨r', hr1, hr2⟩ := perm_strs hp
  subst hr1
  rw [List.map_map]
  refine k _ κ _ (.own _) (Ext.upd_new I.gh hpn) (I.upd_new hpn) (new_lst I hpn ?_ (rep_strs fun s hs => e3 s (hr2.mem_iff.mp hs))) (q2 r' hr2 hs)
  rw [List.length_map, hr2.length_eq]
  exact h64
theorem ref_sortA : CallRef rSortedSA pSortA := by
  intro Γ σ κ H env vs ds Q Q' I h q k
  match ds, vs, h, q with
  | [.lst ds], _, .cons (v := v) hd .nil, q =>
    unfold pSortA at q
    simp only at q
    cases e1 : strL ds with
    | none => rw [e1] at q; exact q.elim
    | some r =>
      rw [e1] at q
      obtain ⟨q1, q2⟩ := q
      obtain ⟨a, ws, rfl, g1, g2, g3⟩ := hd
      obtain ⟨e2, e3⟩ := strL_rep g3 e1
      subst e2
      refine ⟨a, r.map fun s => (⟨s.toArray⟩ : Str), rfl, ?_, by rw [List.length_map]; exact q1, fun ys p hp hs hpn => ?_⟩
      · rw [List.map_map]; exact SqL.of g1
      · exact sort_finA I q1 e3 hp hs hpn q2 k
theorem ve_sortA {p' : Pos} {t : PTR} (hm : ∀ i, (Y.X i).mg "sorted" = none) (ha : VR Y [e] t) (hc : ∀ i, (Y.X i).calm = true := by intro _; rfl) (hg : ∀ i, Gl (Y.X i) "sorted" := by intro _; rfl) (he : ∀ X : Cx, starEach [e] X.env = (false, eval e X.env) :: starEach [] X.env := by intro _; rfl) : VE Y (.Call (.Name "sorted" p') [e] [] pos) (tCallP pSortA t) :=
  ve_callB (r := rSortedSA) (fun i => cr_sortedSA) ref_sortA hm ha hg (he := he)
end
end Pu
set_option maxRecDepth 100000
set_option maxHeartbeats 4000000
namespace PuE
open PySem PySem.Spec PyProof.Rows L2
end PuE
namespace Pu
open PySem L2 PuE
end Pu
set_option maxRecDepth 100000
set_option maxHeartbeats 4000000
namespace PuE
open PySem PySem.Spec PyProof.Rows L2
end PuE
namespace Pu
open PySem L2 PuE
section
variable {Γ Γ' : Gm} {κ κ' : Ka} {H H' : Hp} {env env' : En} {σ : Sl} {v : V} {st : Sto} {Y : Fam} {a b c d e : Expr} {es : List Expr} {ta tb tc td te : PTE} {pos : Pos}
def pLtN (d e : D) (Q : R → Prop) : Prop := match d, e with
  | .tup xs, .tup ys => match itsD xs, itsD ys with
    | some l, some m => l.map isS = m.map isS ∧ Q (.d (.bl (ltN l m)))
    | _, _ => False
  | _, _ => False
end
end Pu
set_option maxRecDepth 100000
set_option maxHeartbeats 4000000
namespace Pu
open PySem L2
end Pu
set_option maxRecDepth 100000
set_option maxHeartbeats 4000000
namespace Pu
open PySem L2
end Pu
set_option maxRecDepth 100000
set_option maxHeartbeats 4000000
namespace Pu
open PySem L2
end Pu
set_option maxRecDepth 100000
set_option maxHeartbeats 4000000
namespace Pu
open PySem L2 PySem.Spec PyProof.Rows
end Pu
set_option maxRecDepth 100000
set_option maxHeartbeats 4000000
namespace Pu
open PySem L2 PySem.Spec PyProof.Rows
section
variable {Γ Γ' : Gm} {κ κ' : Ka} {H H' : Hp} {env env' : En} {σ : Sl} {v : V} {st : Sto} {Y : Fam} {a b e : Expr} {es : List Expr} {ta tb te : PTE} {pos : Pos}
abbrev PMX := List D → Sto → (C → Sto → Prop) → PX → Prop
theorem Gh.same (g : Gh Γ κ st H) (hK : Γ'.K = Γ.K := by rfl) (hc : Γ'.cls = Γ.cls := by rfl) (h0 : Γ'.H0 = Γ.H0 := by rfl) (hk : Γ'.k0 = Γ.k0 := by rfl) : Gh Γ' κ st H :=
  ⟨by rw [hk]; exact g.sub, by rw [hk, h0]; exact g.new, g.trk, by rw [h0]; exact g.trk0, g.box, fun a k e => let ⟨so, h1, h2⟩ := g.obj a k e; ⟨so, h1, h2.switch hK hc⟩, g.inj, by rw [hk, h0]; exact g.base, by rw [hc]; exact g.tabs⟩
/-- a call of a def that may raise -/
def tCallX (m : PMX) (t : PTA) : PTE := fun x e Q => t x e fun ds e1 => m ds e1.st (fun c st' => Q c.toR ⟨e1.sl, st'⟩) x
def sRaise (c n : Nat) (t : PTA) : PTS := fun x D e => t x e fun ds e1 => ds.length = n ∧ x ⟨c, ds⟩ e1.st
/-- fl: the names of the fields; cb: which classes the clause takes; n: how many slots -/
def sTry (n i : Nat) (fl : Nat → List Str) (cb : Nat → Bool) (tb ts : PTS) : PTS := fun x D e => (e.sl.all fun c => !c.isOwn) = true ∧ i < n ∧
  tb (fun ex st => cb ex.c = true ∧ ts noX { nx := fun e' => D.nx (wipeE [i] e'), rt := D.rt, bk := fun e' => D.bk (wipeE [i] e'), ct := fun e' => D.ct (wipeE [i] e') } ⟨(List.replicate n C.un).set i (.d (.exc ex.c (fl ex.c) ex.ds)), st⟩) D e
theorem RelC.same {c : C} (hK : Γ'.K = Γ.K) (hc : Γ'.cls = Γ.cls) (h0 : ∀ a, Γ.H0 a = none → Γ'.H0 a = none) (h : RelC Γ κ H v c) : RelC Γ' κ H v c := by
  cases c with
  | un => exact h.elim
  | d d => show Rep Γ'.K Γ'.cls κ H v d; rw [hK, hc]; exact h
  | own ds => obtain ⟨a, e, h1⟩ := h; exact ⟨a, e, OwnC.switch hK hc (h0 a h1.facts.2.1) h1⟩
  | dK ds => obtain ⟨a, e, h1⟩ := h; exact ⟨a, e, OwnC.switch hK hc (h0 a h1.facts.2.1) h1⟩
  | dT ds => obtain ⟨a, e, h1⟩ := h; exact ⟨a, e, OwnC.switch hK hc (h0 a h1.facts.2.1) h1⟩
def tIsX (tb : Nat → Option Bool) (te : PTE) : PTE := fun x e Q => te x e fun r e1 => match rv r e1 with
  | some (.exc c _ _) => match tb c with
    | some b => Q (.d (.bl b)) e1
    | none => False
  | _ => False
/-- the class named by x2: one of the program, or a built-in one -/
def NmC (X : Cx) (x : Str) (c : V) (cv : Value) : Prop := (∃ C : Addr, c = .ref C ∧ cv = .ref C ∧ X.mg x = some (.ref C)) ∨ (∃ T, c = .ty T ∧ cv = .type T ∧ X.mg x = none ∧ bootBuiltins x = some (.type T) ∧ x ≠ "__name__")
theorem NmC.rel {X : Cx} {x : Str} {c : V} {cv : Value} (h : NmC X x c cv) : ∀ u, RelV c u → u = cv := by
  rcases h with ⟨C, rfl, rfl, _⟩ | ⟨T, rfl, rfl, _⟩
  · exact fun u r => r
  · exact fun u r => r
/-- names of classes -/
inductive NmCs (X : Cx) : List Expr → List V → List Value → Prop
  | nil : NmCs X [] [] []
  | cons {x : Str} {p : Pos} {es : List Expr} {c : V} {cv : Value} {cs : List V} {cvs : List Value} (hg : Gl X x) (hd : (x == ("__debug__" : Str)) = false) (h : NmC X x c cv) (hs : starEach (.Name x p :: es) X.env = (false, eval (.Name x p) X.env) :: starEach es X.env) (r : NmCs X es cs cvs) : NmCs X (.Name x p :: es) (c :: cs) (cv :: cvs)
theorem NmCs.rel {X : Cx} {es : List Expr} {cs : List V} {cvs : List Value} (h : NmCs X es cs cvs) : ∀ us, Vals cs us → us = cvs := by
  induction h with
  | nil => intro us r; cases r; rfl
  | cons hg hd h hs r ih =>
    intro us q
    cases q with
    | cons q1 q2 => rw [h.rel _ q1, ih _ q2]
/-- e.f -/
def xlk (n : Str) (ns : List Str) (ds : List D) : Option D := ((ns.zip ds).reverse).lookup n
def tXA (n : Str) (cb : Nat → Bool) (te : PTE) : PTE := fun x e Q => te x e fun r e1 => match rv r e1 with
  | some (.exc c ns ds) => cb c = true ∧ match xlk n ns ds with
    | some d => Q (.d d) e1
    | none => False
  | _ => False
theorem PR.zip {K : PySem.W.Frag} {cl : Cl} : ∀ {ns : List Str} {ds : List D} {vs : List V}, RepL K cl κ H vs ds → PR K cl κ H (ns.zip vs) (ns.zip ds)
  | [], _, _, _ => by simp only [List.zip_nil_left]; exact .nil
  | _ :: _, [], _, h => by cases h; exact .nil
  | _ :: ns, d :: ds, _, h => by cases h with | cons h1 h2 => exact .cons h1 (PR.zip h2)
theorem PR.app {α : Type} {K : PySem.W.Frag} {cl : Cl} : ∀ {ds es : List (α × D)} {vs ws : List (α × V)}, PR K cl κ H vs ds → PR K cl κ H ws es → PR K cl κ H (vs ++ ws) (ds ++ es)
  | [], _, _, _, h, g => by cases h; exact g
  | _ :: _, _, _, _, h, g => by cases h with | cons h1 h2 => exact .cons h1 (PR.app h2 g)
theorem PR.rev {α : Type} {K : PySem.W.Frag} {cl : Cl} : ∀ {ds : List (α × D)} {vs : List (α × V)}, PR K cl κ H vs ds → PR K cl κ H vs.reverse ds.reverse
  | [], _, h => by cases h; exact .nil
  | _ :: _, _, h => by
    cases h with
    | cons h1 h2 =>
      rw [List.reverse_cons, List.reverse_cons]
      exact (PR.rev h2).app (.cons h1 .nil)
theorem PR.lookup {K : PySem.W.Frag} {cl : Cl} {n : Str} {d : D} : ∀ {ds : List (Str × D)} {vs : List (Str × V)}, PR K cl κ H vs ds → ds.lookup n = some d → ∃ v, vs.lookup n = some v ∧ Rep K cl κ H v d
  | [], _, h, e => by simp at e
  | (m, y) :: ds, _, h, e => by
    cases h with
    | @cons _ v _ _ _ h1 h2 =>
      rw [List.lookup_cons] at e ⊢
      by_cases z : (n == m) = true
      · rw [z] at e ⊢
        cases e
        exact ⟨_, rfl, h1⟩
      · rw [Bool.eq_false_iff.mpr z] at e ⊢
        exact PR.lookup h2 e
end
end Pu
set_option maxRecDepth 100000
set_option maxHeartbeats 4000000
namespace Pu
open PySem L2 PySem.Spec PyProof.Rows
/-- tables by number -/
def tbl (bs : List Bool) : Nat → Option Bool := fun c => bs[c]?
def cbl (n : Nat) : Nat → Bool := fun c => decide (c < n)
end Pu
set_option maxRecDepth 100000
set_option maxHeartbeats 4000000
namespace Pu
open PySem L2 PySem.Spec PyProof.Rows
section
variable {Γ Γ' : Gm} {κ κ' : Ka} {H H' : Hp} {env env' : En} {σ : Sl} {v : V} {st : Sto} {Y : Fam} {a b e : Expr} {es : List Expr} {ta tb te : PTE} {pos : Pos}
/-- C(e, ..) as a value -/
def tMkX (c : Nat) (ns : List Str) (t : PTA) : PTE := fun x e Q => t x e fun ds e1 => ds.length = ns.length ∧ Q (.d (.exc c ns ds)) e1
def tMk0 (c : Nat) : PTE := fun _ e Q => Q (.d (.exc c [] [])) e
def sRaise0 (c : Nat) : PTS := fun x D e => x ⟨c, []⟩ e.st
end
end Pu
set_option maxRecDepth 100000
set_option maxHeartbeats 4000000
namespace Pu
open PySem L2 PySem.Spec PyProof.Rows
section
variable {Γ Γ' : Gm} {κ κ' : Ka} {H H' : Hp} {env env' : En} {σ : Sl} {v : V} {st : Sto} {Y : Fam} {a b e : Expr} {es : List Expr} {ta tb te : PTE} {pos : Pos}
def sTry0 (n : Nat) (cb : Nat → Bool) (tb ts : PTS) : PTS := fun x D e => (e.sl.all fun c => !c.isOwn) = true ∧
  tb (fun ex st => cb ex.c = true ∧ ts noX D ⟨List.replicate n C.un, st⟩) D e
end
end Pu
set_option maxRecDepth 100000
set_option maxHeartbeats 4000000
namespace Pu
open PySem L2
theorem forR_inv {g : PTG} {tb : PTS} {x : PX} {P : PEn} (I : List D → En → Prop) (h : ∀ d r e, I (d :: r) e → ∀ N : En → Prop, (∀ e', I r e' → N e') → g d e fun e' => tb x { P with nx := N, ct := N, bk := P.nx } e') (hd : ∀ e, I [] e → P.nx e) :
    ∀ (ds : List D) (e : En), I ds e → forR g tb x P ds e
  | [], e, hi => hd e hi
  | d :: r, e, hi => h d r e hi (forR g tb x P r) fun e' hi' => forR_inv I h hd r e' hi'
/-- all related, one by one -/
inductive All2 {α β : Type} (R : α → β → Prop) : List α → List β → Prop
  | nil : All2 R [] []
  | cons {a : α} {b : β} {as : List α} {bs : List β} : R a b → All2 R as bs → All2 R (a :: as) (b :: bs)
theorem All2.length {α β : Type} {R : α → β → Prop} : ∀ {as : List α} {bs : List β}, All2 R as bs → bs.length = as.length
  | _, _, .nil => rfl
  | _, _, .cons _ h => by simp [h.length]
theorem lcR_map {g : PTG} {te : PTE} {vs : List Nat} {e : En} {Q : List D → En → Prop} (f : D → D) :
    ∀ (ds acc : List D), (∀ d ∈ ds, ∀ K : D → En → Prop, K (f d) e → g d e fun e1 => te noX e1 fun r e3 => fz r e3 fun y e4 => K y (wipeE vs e4)) → Q (acc ++ ds.map f) e → lcR g cYes te vs ds acc e Q
  | [], acc, _, k => by rw [List.map_nil, List.append_nil] at k; exact k
  | d :: ds, acc, h, k => by
    refine h d (by simp) (fun y e' => lcR g cYes te vs ds (acc ++ [y]) e' Q) ?_
    exact lcR_map f ds (acc ++ [f d]) (fun d' hd => h d' (List.mem_cons_of_mem _ hd)) (by rw [List.append_assoc]; exact k)
theorem rngI_length (lo : Int) (n : Nat) : (rngI lo n).length = n := by unfold rngI; simp
theorem rngI_mem {lo : Int} {n : Nat} {d : D} (h : d ∈ rngI lo n) : ∃ i : Nat, i < n ∧ d = .int (lo + i) := by
  unfold rngI at h
  obtain ⟨i, hi, rfl⟩ := List.mem_map.mp h
  exact ⟨i, List.mem_range.mp hi, rfl⟩
theorem rngI_succ (lo : Int) (n : Nat) : rngI lo (n + 1) = .int lo :: rngI (lo + 1) n := by
  unfold rngI
  rw [List.range_succ_eq_map, List.map_cons, List.map_map]
  congr 1
  · simp
  · apply List.map_congr_left
    intro i _
    simp only [Function.comp, D.int.injEq]
    omega
theorem line_eq : (sizeLine : Nat) = 16777216 := sizeLine_eq
theorem strL_map (r : List (List Nat)) : strL (r.map D.str) = some r := by
  induction r with
  | nil => rfl
  | cons x r ih => simp only [List.map_cons, strL, ih]
theorem joinN_nil (r : List (List Nat)) : joinN [] r = r.flatten := by
  induction r with
  | nil => rfl
  | cons x r ih =>
    cases r with
    | nil => simp [joinN]
    | cons y r => simp only [joinN, List.nil_append, ih, List.flatten_cons]
theorem joinN_signs (w : List Nat) : joinN [] (w.map fun c => [c]) = w := by
  rw [joinN_nil]
  induction w with
  | nil => rfl
  | cons c w ih => simp [ih]
theorem atI_nat' {α : Type} {xs : List α} {j : Nat} (h : j < xs.length) : atI xs (j : Int) = some xs[j] := atI_nat (List.getElem?_eq_getElem h)
theorem okL_map {f : α → D} {n : Nat} {xs : List α} (h : ∀ x ∈ xs, (f x).ok n = true) : D.okL (xs.map f) n = true := by
  induction xs with
  | nil => rfl
  | cons x xs ih =>
    simp only [List.map_cons, D.okL]
    rw [h x (by simp), ih fun y hy => h y (List.mem_cons_of_mem _ hy)]
    rfl
end Pu
set_option maxRecDepth 100000
set_option maxHeartbeats 4000000
namespace Pu
open PySem L2 PySem.Spec PyProof.Rows
/-- the law's promise, at its script -/
def spLaw (K : PySem.W.Frag) : Sp := fun vs H Q _ => ∃ (a : Addr) (ns : List Int), vs = [.ref a] ∧ SqL K H a (ns.map V.int) ∧ ns.length ≤ 63 ∧ ∀ H', Q (.bl true) H'
theorem script_rep {K : PySem.W.Frag} {H : Hp} {a : Addr} {ns : List Int} {cls : Cl} (h : SqL K H a (ns.map V.int)) (hl : ns.length ≤ 63) : ∃ κ : Ka, (∀ a k, κ a = some k → k = .frz ∧ H a ≠ none) ∧ Rep K cls κ H (.ref a) (.scr ns.length) := by
  rcases h with h | h
  · refine ⟨fun b => if b = a then some .frz else none, fun b k e => ?_, .scr (.inl ⟨if_pos rfl, h⟩) rfl hl⟩
    have e : (if b = a then some Kd.frz else none) = some k := e
    by_cases hb : b = a
    · rw [if_pos hb] at e
      cases e
      subst hb
      refine ⟨rfl, fun z => ?_⟩
      rcases h with h | ⟨o, h⟩
      · rw [h] at z; cases z
      · rw [h] at z; cases z
    · rw [if_neg hb] at e; cases e
  · exact ⟨fun _ => none, fun a k e => (by cases e), .scr (.inr h) rfl hl⟩
theorem walk {l : PySem.W.OpenLaw} {q : Program} {loose : List Str} {XP : (Str → Option Value) → Heap → Prop} {YP : World → Heap → Prop} {d : DefRec} {K : Params → PySem.W.Frag} {k : Nat} (hr : Room k callerA) (hn : l.most = some 63) (hdf : d.params.defaults = [])
    (hY : ∀ (w : World) (h : Heap), YP w h → (K w.params).In h)
    (F : ∀ (w : World) (mg : Str → Option Value) (fa : Addr) (h : Heap), (K w.params).In h → h.Ns mainGlobals mg → mg d.name = some (.ref fa) →
      ∃ fd : FuncData, (∀ (s : Shared) (u : Value), BindsTo s fd ⟨[u], []⟩ [("_law_script", u)]) ∧ ∀ base : Heap, (K w.params).In base → base.Ns mainGlobals mg → FnG l.prog w (K w.params) mg base CX0 k fa fd ["_law_script"] (spLaw (K w.params))) :
    PySem.W.WalkO q loose XP YP l.row.toRowW d [] (fun f vs => PySem.call f vs) :=
  walkG (sp := spLaw) hr hn hdf hY F fun _ _ a ns hl hS => ⟨a, ns, rfl, hS, hl, fun _ => rfl⟩
end Pu
set_option maxRecDepth 100000
set_option maxHeartbeats 4000000
namespace Pu
open PySem L2
/-- what rewriting shall not enter -/
def Tg {β : Type} (_ : β) : Type := Unit
structure HB (β : Type) : Type where
  b : β
  h : Tg b := ()
def opt {α : Type} (o : Option α) (h : HB (α → Prop)) : Prop := match o with
  | some a => h.b a
  | none => False
theorem opt_some {α : Type} (a : α) (f : α → Prop) : opt (some a) (HB.mk f ()) = f a := rfl
theorem opt_of {α : Type} {o : Option α} {a : α} {f : α → Prop} (h : o = some a) (q : f a) : opt o (HB.mk f ()) := by rw [h]; exact q
def br (b : Bool) (h : HB (Prop × Prop)) : Prop := if b = true then h.b.1 else h.b.2
theorem br_true (p q : Prop) : br true (HB.mk (p, q) ()) = p := rfl
theorem br_false (p q : Prop) : br false (HB.mk (p, q) ()) = q := rfl
theorem br_intro {b : Bool} {p q : Prop} (h1 : b = true → p) (h2 : b = false → q) : br b (HB.mk (p, q) ()) := by
  cases b
  · exact h2 rfl
  · exact h1 rfl
theorem br_pos {b : Bool} {p q : Prop} (h : b = true) (h1 : p) : br b (HB.mk (p, q) ()) := by rw [h]; exact h1
theorem br_neg {b : Bool} {p q : Prop} (h : b = false) (h1 : q) : br b (HB.mk (p, q) ()) := by rw [h]; exact h1
def nameC (c : C) (h : HB (Nat × En × (R → En → Prop))) : Prop := match c with
  | .un => False
  | .d d => h.b.2.2 (.d d) h.b.2.1
  | _ => h.b.2.2 (.nam h.b.1) h.b.2.1
theorem nameC_d {d i e Q} : nameC (.d d) (HB.mk (i, e, Q) ()) = Q (.d d) e := rfl
theorem nameC_own {d i e Q} : nameC (.own d) (HB.mk (i, e, Q) ()) = Q (.nam i) e := rfl
theorem nameC_dK {d i e Q} : nameC (.dK d) (HB.mk (i, e, Q) ()) = Q (.nam i) e := rfl
theorem nameC_dT {d i e Q} : nameC (.dT d) (HB.mk (i, e, Q) ()) = Q (.nam i) e := rfl
theorem x_name {i x e Q} : tName i x e Q = (opt e.sl[i]? <| HB.mk (fun c => nameC c (HB.mk (i, e, Q) ())) ()) := by
  unfold tName opt
  cases e.sl[i]? with
  | none => rfl
  | some c => cases c <;> rfl
def fzC (c : C) (h : HB (Nat × En × (D → En → Prop))) : Prop := match c with
  | .d d => h.b.2.2 d h.b.2.1
  | .own ds => h.b.2.2 (.lst ds) (h.b.2.1.setC h.b.1 (.d (.lst ds)))
  | .dK kvs => h.b.2.2 (.dck (kvs.map Prod.fst) (kvs.map Prod.snd)) (h.b.2.1.setC h.b.1 (.d (.dck (kvs.map Prod.fst) (kvs.map Prod.snd))))
  | .dT kvs => h.b.2.2 (.dct (kvs.map Prod.fst) (kvs.map Prod.snd)) (h.b.2.1.setC h.b.1 (.d (.dct (kvs.map Prod.fst) (kvs.map Prod.snd))))
  | _ => False
theorem fzC_d {d i e Q} : fzC (.d d) (HB.mk (i, e, Q) ()) = Q d e := rfl
theorem fzC_own {d i e Q} : fzC (.own d) (HB.mk (i, e, Q) ()) = Q (.lst d) (e.setC i (.d (.lst d))) := rfl
theorem fzC_dK {kvs i e Q} : fzC (.dK kvs) (HB.mk (i, e, Q) ()) = Q (.dck (kvs.map Prod.fst) (kvs.map Prod.snd)) (e.setC i (.d (.dck (kvs.map Prod.fst) (kvs.map Prod.snd)))) := rfl
theorem fzC_dT {kvs i e Q} : fzC (.dT kvs) (HB.mk (i, e, Q) ()) = Q (.dct (kvs.map Prod.fst) (kvs.map Prod.snd)) (e.setC i (.d (.dct (kvs.map Prod.fst) (kvs.map Prod.snd)))) := rfl
theorem x_fzn {i e Q} : fz (.nam i) e Q = (opt e.sl[i]? <| HB.mk (fun c => fzC c (HB.mk (i, e, Q) ())) ()) := by
  show (match e.sl[i]? with | some (.d d) => Q d e | some (.own ds) => Q (.lst ds) (e.setC i (.d (.lst ds))) | some (.dK kvs) => Q (.dck (kvs.map Prod.fst) (kvs.map Prod.snd)) (e.setC i (.d (.dck (kvs.map Prod.fst) (kvs.map Prod.snd)))) | some (.dT kvs) => Q (.dct (kvs.map Prod.fst) (kvs.map Prod.snd)) (e.setC i (.d (.dct (kvs.map Prod.fst) (kvs.map Prod.snd)))) | _ => False) = _
  unfold opt
  cases e.sl[i]? with
  | none => rfl
  | some c => cases c <;> rfl
theorem x_fzK {kvs e Q} : fz (.dK kvs) e Q = Q (.dck (kvs.map Prod.fst) (kvs.map Prod.snd)) e := rfl
theorem x_fzT {kvs e Q} : fz (.dT kvs) e Q = Q (.dct (kvs.map Prod.fst) (kvs.map Prod.snd)) e := rfl
theorem x_fzd {d e Q} : fz (.d d) e Q = Q d e := rfl
theorem x_fzo {d e Q} : fz (.own d) e Q = Q (.lst d) e := rfl
def rvC : Option C → Option D
  | some (.d d) => some d
  | some (.own ds) => some (.lst ds)
  | _ => none
theorem rvC_d {d} : rvC (some (.d d)) = some d := rfl
theorem rvC_own {d} : rvC (some (.own d)) = some (.lst d) := rfl
theorem x_rvn {i e} : rv (.nam i) e = rvC e.sl[i]? := by
  show (match e.sl[i]? with | some (.d d) => some d | some (.own ds) => some (.lst ds) | _ => none) = _
  unfold rvC
  cases e.sl[i]? with
  | none => rfl
  | some c => cases c <;> rfl
theorem x_rvd {d e} : rv (.d d) e = some d := rfl
theorem x_rvo {d e} : rv (.own d) e = some (.lst d) := rfl
def retC (c : C) (h : HB (PEn × En)) : Prop := match c with
  | .un => False
  | c => h.b.1.rt c h.b.2
theorem retC_d {D d e} : retC (.d d) (HB.mk (D, e) ()) = D.rt (.d d) e := rfl
theorem retC_own {D d e} : retC (.own d) (HB.mk (D, e) ()) = D.rt (.own d) e := rfl
theorem x_retn {D i e} : retR D (.nam i) e = (opt e.sl[i]? <| HB.mk (fun c => retC c (HB.mk (D, e) ())) ()) := by
  unfold retR opt
  simp only
  cases e.sl[i]? with
  | none => rfl
  | some c => cases c <;> rfl
theorem x_retd {D d e} : retR D (.d d) e = D.rt (.d d) e := rfl
theorem x_reto {D d e} : retR D (.own d) e = D.rt (.own d) e := rfl
theorem x_hd {d e Q} : hold (.d d) e Q = Q (.d d) e := rfl
theorem x_ho {d e Q} : hold (.own d) e Q = Q (.d (.lst d)) e := rfl
theorem x_hn {i e Q} : hold (.nam i) e Q = Q (.nam i) e := rfl
theorem x_ad {i d e Q} : asgR i (.d d) e Q = Q (e.setC i (.d d)) := rfl
theorem x_ao {i d e Q} : asgR i (.own d) e Q = Q (e.setC i (.own d)) := rfl
theorem x_an {i j e Q} : asgR i (.nam j) e Q = fz (.nam j) e fun d e1 => Q (e1.setC i (.d d)) := rfl
theorem x_set {l s i c} : En.setC ⟨l, s⟩ i c = ⟨l.set i c, s⟩ := rfl
/-- statements -/
theorem x_seq {t u x D e} : sSeq t u x D e = t x { D with nx := u x D } e := rfl
theorem x_next {x D e} : sNext x D e = D.nx e := rfl
theorem x_break {x D e} : sBreak x D e = D.bk e := rfl
theorem x_cont {x D e} : sCont x D e = D.ct e := rfl
theorem x_drop {t x D e} : sDrop t x D e = t x e fun _ e1 => D.nx e1 := rfl
theorem x_ret {t x D e} : sRet t x D e = t x e fun r e1 => retR D r e1 := rfl
theorem x_retN {x D e} : sRetN x D e = D.rt (.d .non) e := rfl
theorem x_if {c t u x D e} : sIf c t u x D e = c x e fun b e1 => br b (HB.mk ((t x D e1), (u x D e1)) ()) := rfl
theorem x_asg {i t x D e} : sAsg i t x D e = t x e fun r e1 => i < e1.sl.length ∧ asgR i r e1 D.nx := rfl
theorem x_asgG {g t x D e} : sAsgG g t x D e = t x e fun r e1 => fz r e1 fun d e2 => g d e2 D.nx := rfl
def forH (ds : List D) (e : En) (h : HB (PTG × PTS × PX × PEn)) : Prop := forR h.b.1 h.b.2.1 h.b.2.2.1 h.b.2.2.2 ds e
def whH (e : En) (h : HB (PTT × PTS × PX × PEn)) : Prop := sWhile h.b.1 h.b.2.1 h.b.2.2.1 h.b.2.2.2 e
theorem x_while {c tb x P e} : sWhile c tb x P e = whH e (HB.mk (c, tb, x, P) ()) := rfl
def lcH (ds : List D) (e : En) (h : HB (PTG × PTT × PTE × List Nat × (List D → En → Prop))) : Prop := lcR h.b.1 h.b.2.1 h.b.2.2.1 h.b.2.2.2.1 ds [] e h.b.2.2.2.2
theorem x_for {ti g tb x D e} : sFor ti g tb x D e = ti x e fun items e1 => forH items e1 (HB.mk (g, tb, x, D) ()) := rfl
/-- expressions -/
def k2c (o1 o2 : Option D) (e : En) (h : HB ((D → D → (R → Prop) → Prop) × (R → En → Prop))) : Prop := match o1, o2 with
  | some a, some b => h.b.1 a b fun r => h.b.2 r e
  | _, _ => False
def k2b (r1 r2 : R) (e : En) (h : HB ((D → D → (R → Prop) → Prop) × (R → En → Prop))) : Prop := k2c (rv r1 e) (rv r2 e) e h
def k2a (r : R) (e : En) (h : HB (PTE × PX × (D → D → (R → Prop) → Prop) × (R → En → Prop))) : Prop := hold r e fun r e => h.b.1 h.b.2.1 e fun r2 e2 => k2b r r2 e2 (HB.mk h.b.2.2 ())
theorem x_2 {ta tb p x e Q} : t2 ta tb p x e Q = ta x e fun r1 e1 => k2a r1 e1 (HB.mk (tb, x, p, Q) ()) := by
  unfold t2 k2a k2b k2c
  rfl
theorem x_k2ad {d tb p x e Q} : k2a (.d d) e (HB.mk (tb, x, p, Q) ()) = tb x e fun r2 e2 => k2b (.d d) r2 e2 (HB.mk (p, Q) ()) := rfl
theorem x_k2ao {d tb p x e Q} : k2a (.own d) e (HB.mk (tb, x, p, Q) ()) = tb x e fun r2 e2 => k2b (.d (.lst d)) r2 e2 (HB.mk (p, Q) ()) := rfl
theorem x_k2an {i tb p x e Q} : k2a (.nam i) e (HB.mk (tb, x, p, Q) ()) = tb x e fun r2 e2 => k2b (.nam i) r2 e2 (HB.mk (p, Q) ()) := rfl
theorem x_k2b {r1 r2 e h} : k2b r1 r2 e h = k2c (rv r1 e) (rv r2 e) e h := rfl
theorem x_k2c {a b e p Q} : k2c (some a) (some b) e (HB.mk (p, Q) ()) = p a b fun r => Q r e := rfl
def k1c (o : Option D) (e : En) (h : HB ((D → (R → Prop) → Prop) × (R → En → Prop))) : Prop := match o with
  | some a => h.b.1 a fun r => h.b.2 r e
  | _ => False
theorem x_1 {ta p x e Q} : t1 ta p x e Q = ta x e fun r1 e1 => k1c (rv r1 e1) e1 (HB.mk (p, Q) ()) := by
  unfold t1 k1c
  rfl
theorem x_k1c {a e p Q} : k1c (some a) e (HB.mk (p, Q) ()) = p a fun r => Q r e := rfl
theorem x_D {d x e Q} : tD d x e Q = Q (.d d) e := rfl
def bC (d : D) (h : HB (Bool → Prop)) : Prop := match d with
  | .bl b => h.b b
  | _ => False
theorem bC_b {b f} : bC (.bl b) (HB.mk f ()) = f b := rfl
def kBc (o : Option D) (e : En) (h : HB (Bool → En → Prop)) : Prop := match o with
  | some (.bl b) => h.b b e
  | _ => False
theorem x_B {t x e Q} : tB t x e Q = t x e fun r e1 => kBc (rv r e1) e1 (HB.mk Q ()) := by
  unfold tB kBc
  rfl
theorem x_kBc {b e Q} : kBc (some (.bl b)) e (HB.mk Q ()) = Q b e := rfl
def kAn (c : Bool) (e : En) (h : HB (PTT × PX × (Bool → En → Prop))) : Prop := br c (HB.mk ((h.b.1 h.b.2.1 e h.b.2.2), (h.b.2.2 false e)) ())
theorem x_and {t u x e Q} : tAnd t u x e Q = t x e fun c e1 => kAn c e1 (HB.mk (u, x, Q) ()) := rfl
theorem x_kAn {c u x e Q} : kAn c e (HB.mk (u, x, Q) ()) = br c (HB.mk ((u x e Q), (Q false e)) ()) := rfl
def kOr (c : Bool) (e : En) (h : HB (PTT × PX × (Bool → En → Prop))) : Prop := br c (HB.mk ((h.b.2.2 true e), (h.b.1 h.b.2.1 e h.b.2.2)) ())
theorem x_or {t u x e Q} : tOr t u x e Q = t x e fun c e1 => kOr c e1 (HB.mk (u, x, Q) ()) := rfl
theorem x_kOr {c u x e Q} : kOr c e (HB.mk (u, x, Q) ()) = br c (HB.mk ((Q true e), (u x e Q)) ()) := rfl
def kNo (c : Bool) (e : En) (h : HB (Bool → En → Prop)) : Prop := h.b (!c) e
theorem x_not {t x e Q} : tNot t x e Q = t x e fun c e1 => kNo c e1 (HB.mk Q ()) := rfl
theorem x_kNo {c e Q} : kNo c e (HB.mk Q ()) = Q (!c) e := rfl
def kAV (o : Option D) (e : En) (h : HB (PTE × PX × (R → En → Prop))) : Prop := match o with
  | some (.bl c) => br c (HB.mk ((h.b.1 h.b.2.1 e h.b.2.2), (h.b.2.2 (.d (.bl false)) e)) ())
  | _ => False
theorem x_andV {ta tb x e Q} : tAndV ta tb x e Q = ta x e fun r e1 => kAV (rv r e1) e1 (HB.mk (tb, x, Q) ()) := by
  unfold tAndV kAV br
  rfl
theorem x_kAV {c tb x e Q} : kAV (some (.bl c)) e (HB.mk (tb, x, Q) ()) = br c (HB.mk ((tb x e Q), (Q (.d (.bl false)) e)) ()) := rfl
def kOV (o : Option D) (e : En) (h : HB (PTE × PX × (R → En → Prop))) : Prop := match o with
  | some (.bl c) => br c (HB.mk ((h.b.2.2 (.d (.bl true)) e), (h.b.1 h.b.2.1 e h.b.2.2)) ())
  | _ => False
theorem x_orV {ta tb x e Q} : tOrV ta tb x e Q = ta x e fun r e1 => kOV (rv r e1) e1 (HB.mk (tb, x, Q) ()) := by
  unfold tOrV kOV br
  rfl
theorem x_kOV {c tb x e Q} : kOV (some (.bl c)) e (HB.mk (tb, x, Q) ()) = br c (HB.mk ((Q (.d (.bl true)) e), (tb x e Q)) ()) := rfl
def kNV (o : Option D) (e : En) (h : HB (R → En → Prop)) : Prop := match o with
  | some (.bl c) => h.b (.d (.bl (!c))) e
  | _ => False
theorem x_notV {ta x e Q} : tNotV ta x e Q = ta x e fun r e1 => kNV (rv r e1) e1 (HB.mk Q ()) := by
  unfold tNotV kNV
  rfl
theorem x_kNV {c e Q} : kNV (some (.bl c)) e (HB.mk Q ()) = Q (.d (.bl (!c))) e := rfl
theorem x_tif {t ta tb x e Q} : tIf t ta tb x e Q = t x e fun c e1 => br c (HB.mk ((ta x e1 Q), (tb x e1 Q)) ()) := rfl
theorem x_nil {x e Q} : tNil x e Q = Q [] e := rfl
def kC2 (d : D) (ds : List D) (e : En) (h : HB (List D → En → Prop)) : Prop := h.b (d :: ds) e
theorem x_kC2 {d ds e Q} : kC2 d ds e (HB.mk Q ()) = Q (d :: ds) e := rfl
def kC1 (r : R) (e : En) (h : HB (PTA × PX × (List D → En → Prop))) : Prop := fz r e fun d e2 => h.b.1 h.b.2.1 e2 fun ds e3 => kC2 d ds e3 (HB.mk h.b.2.2 ())
def kC3 (c : Option C) (i : Nat) (e : En) (h : HB (PTA × PX × (List D → En → Prop))) : Prop := match c with
  | some (.d d) => h.b.1 h.b.2.1 e fun ds e3 => kC2 d ds e3 (HB.mk h.b.2.2 ())
  | some (.own d) => h.b.1 h.b.2.1 (e.setC i (.d (.lst d))) fun ds e3 => kC2 (.lst d) ds e3 (HB.mk h.b.2.2 ())
  | some (.dK kvs) => h.b.1 h.b.2.1 (e.setC i (.d (.dck (kvs.map Prod.fst) (kvs.map Prod.snd)))) fun ds e3 => kC2 (.dck (kvs.map Prod.fst) (kvs.map Prod.snd)) ds e3 (HB.mk h.b.2.2 ())
  | some (.dT kvs) => h.b.1 h.b.2.1 (e.setC i (.d (.dct (kvs.map Prod.fst) (kvs.map Prod.snd)))) fun ds e3 => kC2 (.dct (kvs.map Prod.fst) (kvs.map Prod.snd)) ds e3 (HB.mk h.b.2.2 ())
  | _ => False
theorem x_cons {ta tr x e Q} : tCons ta tr x e Q = ta x e fun r e1 => kC1 r e1 (HB.mk (tr, x, Q) ()) := rfl
theorem x_kC1d {d tr x e Q} : kC1 (.d d) e (HB.mk (tr, x, Q) ()) = tr x e fun ds e3 => kC2 d ds e3 (HB.mk Q ()) := rfl
theorem x_kC1o {d tr x e Q} : kC1 (.own d) e (HB.mk (tr, x, Q) ()) = tr x e fun ds e3 => kC2 (.lst d) ds e3 (HB.mk Q ()) := rfl
theorem x_kC1k {kvs tr x e Q} : kC1 (.dK kvs) e (HB.mk (tr, x, Q) ()) = tr x e fun ds e3 => kC2 (.dck (kvs.map Prod.fst) (kvs.map Prod.snd)) ds e3 (HB.mk Q ()) := rfl
theorem x_kC1t {kvs tr x e Q} : kC1 (.dT kvs) e (HB.mk (tr, x, Q) ()) = tr x e fun ds e3 => kC2 (.dct (kvs.map Prod.fst) (kvs.map Prod.snd)) ds e3 (HB.mk Q ()) := rfl
theorem x_kC1n {i tr x e Q} : kC1 (.nam i) e (HB.mk (tr, x, Q) ()) = kC3 e.sl[i]? i e (HB.mk (tr, x, Q) ()) := by
  unfold kC1 kC3
  rw [x_fzn]
  unfold opt fzC
  cases e.sl[i]? with
  | none => rfl
  | some c => cases c <;> rfl
theorem x_kC3d {i d tr x e Q} : kC3 (some (.d d)) i e (HB.mk (tr, x, Q) ()) = tr x e fun ds e3 => kC2 d ds e3 (HB.mk Q ()) := rfl
theorem x_kC3o {i d tr x e Q} : kC3 (some (.own d)) i e (HB.mk (tr, x, Q) ()) = tr x (e.setC i (.d (.lst d))) fun ds e3 => kC2 (.lst d) ds e3 (HB.mk Q ()) := rfl
theorem x_kC3k {i kvs tr x e Q} : kC3 (some (.dK kvs)) i e (HB.mk (tr, x, Q) ()) = tr x (e.setC i (.d (.dck (kvs.map Prod.fst) (kvs.map Prod.snd)))) fun ds e3 => kC2 (.dck (kvs.map Prod.fst) (kvs.map Prod.snd)) ds e3 (HB.mk Q ()) := rfl
theorem x_kC3t {i kvs tr x e Q} : kC3 (some (.dT kvs)) i e (HB.mk (tr, x, Q) ()) = tr x (e.setC i (.d (.dct (kvs.map Prod.fst) (kvs.map Prod.snd)))) fun ds e3 => kC2 (.dct (kvs.map Prod.fst) (kvs.map Prod.snd)) ds e3 (HB.mk Q ()) := rfl
def kTu (ds : List D) (e : En) (h : HB (R → En → Prop)) : Prop := ds.length ≤ sizeLine ∧ h.b (.d (.tup ds)) e
theorem x_tup {t x e Q} : tTup t x e Q = t x e fun ds e1 => kTu ds e1 (HB.mk Q ()) := rfl
theorem x_kTu {ds e Q} : kTu ds e (HB.mk Q ()) = (ds.length ≤ sizeLine ∧ Q (.d (.tup ds)) e) := rfl
def kLs (ds : List D) (e : En) (h : HB (R → En → Prop)) : Prop := ds.length ≤ sizeLine ∧ h.b (.own ds) e
theorem x_lst {t x e Q} : tLst t x e Q = t x e fun ds e1 => kLs ds e1 (HB.mk Q ()) := rfl
theorem x_kLs {ds e Q} : kLs ds e (HB.mk Q ()) = (ds.length ≤ sizeLine ∧ Q (.own ds) e) := rfl
theorem x_rnil {x e Q} : rNil x e Q = Q [] e := rfl
def kR2 (r : R) (rs : List R) (e : En) (h : HB (List R → En → Prop)) : Prop := h.b (r :: rs) e
theorem x_kR2 {r rs e Q} : kR2 r rs e (HB.mk Q ()) = Q (r :: rs) e := rfl
def kR1 (r : R) (e : En) (h : HB (PTR × PX × (List R → En → Prop))) : Prop := hold r e fun r e2 => h.b.1 h.b.2.1 e2 fun rs e3 => kR2 r rs e3 (HB.mk h.b.2.2 ())
theorem x_rcons {ta tr x e Q} : rCons ta tr x e Q = ta x e fun r e1 => kR1 r e1 (HB.mk (tr, x, Q) ()) := rfl
theorem x_kR1d {d tr x e Q} : kR1 (.d d) e (HB.mk (tr, x, Q) ()) = tr x e fun rs e3 => kR2 (.d d) rs e3 (HB.mk Q ()) := rfl
theorem x_kR1o {d tr x e Q} : kR1 (.own d) e (HB.mk (tr, x, Q) ()) = tr x e fun rs e3 => kR2 (.d (.lst d)) rs e3 (HB.mk Q ()) := rfl
theorem x_kR1n {i tr x e Q} : kR1 (.nam i) e (HB.mk (tr, x, Q) ()) = tr x e fun rs e3 => kR2 (.nam i) rs e3 (HB.mk Q ()) := rfl
def kCP (o : Option (List D)) (e : En) (h : HB ((List D → (R → Prop) → Prop) × (R → En → Prop))) : Prop := match o with
  | some ds => h.b.1 ds fun r => h.b.2 r e
  | _ => False
theorem x_callP {p t x e Q} : tCallP p t x e Q = t x e fun rs e1 => kCP (rvL rs e1) e1 (HB.mk (p, Q) ()) := by
  unfold tCallP kCP
  congr 1; funext rs e1
  cases rvL rs e1 <;> rfl
theorem x_kCP {ds e p Q} : kCP (some ds) e (HB.mk (p, Q) ()) = p ds fun r => Q r e := rfl
def consO : Option D → Option (List D) → Option (List D)
  | some a, some l => some (a :: l)
  | _, _ => none
theorem consO_s {a l} : consO (some a) (some l) = some (a :: l) := rfl
theorem x_rvLc {r rs e} : rvL (r :: rs) e = consO (rv r e) (rvL rs e) := by
  simp only [rvL]
  cases rv r e <;> cases rvL rs e <;> rfl
theorem x_rvLn {e} : rvL [] e = some [] := rfl
def kM3 (o : Option D) (os : Option (List D)) (e : En) (h : HB ((D → List D → (R → Prop) → Prop) × (R → En → Prop))) : Prop := match o, os with
  | some d, some ds => h.b.1 d ds fun r => h.b.2 r e
  | _, _ => False
def kM2 (r : R) (rs : List R) (e : En) (h : HB ((D → List D → (R → Prop) → Prop) × (R → En → Prop))) : Prop := kM3 (rv r e) (rvL rs e) e h
def kM1 (o : Option D) (r : R) (e : En) (h : HB (String × PTR × PX × (D → List D → (R → Prop) → Prop) × (R → En → Prop))) : Prop := match o with
  | some d => D.isTy h.b.1 d ∧ h.b.2.1 h.b.2.2.1 e fun rs e2 => kM2 r rs e2 (HB.mk h.b.2.2.2 ())
  | _ => False
def kM0 (r : R) (e : En) (h : HB (String × PTR × PX × (D → List D → (R → Prop) → Prop) × (R → En → Prop))) : Prop := hold r e fun r e => kM1 (rv r e) r e h
theorem x_meth {T p to t x e Q} : tMeth T p to t x e Q = to x e fun r e1 => kM0 r e1 (HB.mk (T, t, x, p, Q) ()) := by
  unfold tMeth kM0 kM1 kM2 kM3
  congr 1; funext r e1; congr 1; funext r e1
  cases rv r e1 with
  | none => simp
  | some d =>
    rfl
theorem x_kM0d {d e h} : kM0 (.d d) e h = kM1 (some d) (.d d) e h := rfl
theorem x_kM0o {d e h} : kM0 (.own d) e h = kM1 (some (.lst d)) (.d (.lst d)) e h := rfl
theorem x_kM0n {i e h} : kM0 (.nam i) e h = kM1 (rv (.nam i) e) (.nam i) e h := rfl
theorem x_kM1 {d r e T t x p Q} : kM1 (some d) r e (HB.mk (T, t, x, p, Q) ()) = (D.isTy T d ∧ t x e fun rs e2 => kM2 r rs e2 (HB.mk (p, Q) ())) := rfl
theorem x_kM2 {r rs e h} : kM2 r rs e h = kM3 (rv r e) (rvL rs e) e h := rfl
theorem x_kM3 {d ds e p Q} : kM3 (some d) (some ds) e (HB.mk (p, Q) ()) = p d ds fun r => Q r e := rfl
theorem x_meth0 {T p to x e Q} : tMeth0 T p to x e Q = to x e fun r e1 => opt (rv r e1) <| HB.mk (fun d => D.isTy T d ∧ p d [] fun r => Q r e1) () := by
  unfold tMeth0 opt
  congr 1; funext r e1
  cases rv r e1 <;> rfl
theorem isTy_s {l} : D.isTy "str" (.str l) = True := by simp [D.isTy]
theorem isTy_l {l} : D.isTy "list" (.lst l) = True := by simp [D.isTy]
def kU3 (o : Option (List D)) (r : R) (ds : List D) (e : En) (h : HB (PMu × (R → En → Prop))) : Prop := match o with
  | some l => h.b.1 l ds fun ds' y => h.b.2 (.d y) (mset r e ds')
  | _ => False
def kU2 (r : R) (ds : List D) (e : En) (h : HB (PMu × (R → En → Prop))) : Prop := kU3 (mget r e) r ds e h
def kU1 (r : R) (e : En) (h : HB (PMu × PTA × PX × (R → En → Prop))) : Prop := hold r e fun r e => (mget r e).isSome = true ∧ h.b.2.1 h.b.2.2.1 e fun as e2 => kU2 r as e2 (HB.mk (h.b.1, h.b.2.2.2) ())
theorem x_mut {p to t x e Q} : tMut p to t x e Q = to x e fun r e1 => kU1 r e1 (HB.mk (p, t, x, Q) ()) := by
  unfold tMut kU1 kU2 kU3
  congr 1; funext r e1; congr 1; funext r e1; congr 2; funext as e2
  cases mget r e2 <;> rfl
theorem x_kU1n {i e p t x Q} : kU1 (.nam i) e (HB.mk (p, t, x, Q) ()) = ((mget (.nam i) e).isSome = true ∧ t x e fun as e2 => kU2 (.nam i) as e2 (HB.mk (p, Q) ())) := rfl
theorem x_kU1d {d e p t x Q} : kU1 (.d d) e (HB.mk (p, t, x, Q) ()) = ((mget (.d d) e).isSome = true ∧ t x e fun as e2 => kU2 (.d d) as e2 (HB.mk (p, Q) ())) := rfl
theorem x_kU2 {r ds e h} : kU2 r ds e h = kU3 (mget r e) r ds e h := rfl
theorem x_kU3 {l r ds e p Q} : kU3 (some l) r ds e (HB.mk (p, Q) ()) = p l ds fun ds' y => Q (.d y) (mset r e ds') := rfl
def mgC : Option C → Option (List D)
  | some (.own ds) => some ds
  | _ => none
theorem mgC_own {ds} : mgC (some (.own ds)) = some ds := rfl
theorem x_mg {i e} : mget (.nam i) e = mgC e.sl[i]? := by
  show (match e.sl[i]? with | some (.own ds) => some ds | _ => none) = _
  unfold mgC
  cases e.sl[i]? with
  | none => rfl
  | some c => cases c <;> rfl
theorem x_ms {i e ds} : mset (.nam i) e ds = e.setC i (.own ds) := rfl
def kS3 (o : Option D) (lo hi : Option Int) (e : En) (h : HB (R → En → Prop)) : Prop := match o with
  | some d => pSl d lo hi fun r => h.b r e
  | _ => False
def kS2 (r : R) (lo hi : Option Int) (e : En) (h : HB (R → En → Prop)) : Prop := kS3 (rv r e) lo hi e h
def kS1 (r : R) (lo : Option Int) (e : En) (h : HB (PTO × PX × (R → En → Prop))) : Prop := h.b.1 h.b.2.1 e fun hi e3 => kS2 r lo hi e3 (HB.mk h.b.2.2 ())
def kS0 (r : R) (e : En) (h : HB (PTO × PTO × PX × (R → En → Prop))) : Prop := hold r e fun r e => h.b.1 h.b.2.2.1 e fun lo e2 => kS1 r lo e2 (HB.mk h.b.2 ())
theorem x_sl {te tl th x e Q} : tSl te tl th x e Q = te x e fun r e1 => kS0 r e1 (HB.mk (tl, th, x, Q) ()) := by
  unfold tSl kS0 kS1 kS2 kS3
  congr 1; funext r e1; congr 1; funext r e1; congr 1; funext lo e2; congr 1; funext hi e3
  cases rv r e3 <;> rfl
theorem x_kS0d {d e tl th x Q} : kS0 (.d d) e (HB.mk (tl, th, x, Q) ()) = tl x e fun lo e2 => kS1 (.d d) lo e2 (HB.mk (th, x, Q) ()) := rfl
theorem x_kS0o {d e tl th x Q} : kS0 (.own d) e (HB.mk (tl, th, x, Q) ()) = tl x e fun lo e2 => kS1 (.d (.lst d)) lo e2 (HB.mk (th, x, Q) ()) := rfl
theorem x_kS0n {i e tl th x Q} : kS0 (.nam i) e (HB.mk (tl, th, x, Q) ()) = tl x e fun lo e2 => kS1 (.nam i) lo e2 (HB.mk (th, x, Q) ()) := rfl
theorem x_kS1 {r lo e th x Q} : kS1 r lo e (HB.mk (th, x, Q) ()) = th x e fun hi e3 => kS2 r lo hi e3 (HB.mk Q ()) := rfl
theorem x_kS2 {r lo hi e h} : kS2 r lo hi e h = kS3 (rv r e) lo hi e h := rfl
theorem x_kS3 {d lo hi e Q} : kS3 (some d) lo hi e (HB.mk Q ()) = pSl d lo hi fun r => Q r e := rfl
theorem x_on {x e Q} : oNone x e Q = Q none e := rfl
def iC (d : D) (h : HB (Int → Prop)) : Prop := match d with
  | .int b => h.b b
  | _ => False
theorem iC_i {b f} : iC (.int b) (HB.mk f ()) = f b := rfl
def kOs (o : Option D) (e : En) (h : HB (Option Int → En → Prop)) : Prop := match o with
  | some (.int i) => h.b (some i) e
  | _ => False
theorem x_os {t x e Q} : oSome t x e Q = t x e fun r e1 => kOs (rv r e1) e1 (HB.mk Q ()) := by
  unfold oSome kOs
  rfl
theorem x_kOs {i e Q} : kOs (some (.int i)) e (HB.mk Q ()) = Q (some i) e := rfl
theorem x_lc {ti g tt te vs x e Q} : cLc ti g tt te vs x e Q = ti x e fun items e1 => items.length ≤ sizeLine ∧ plainC e1.sl vs = true ∧ lcH items (wipeE vs e1) (HB.mk (g, tt, te, vs, fun acc e2 => Q (.own acc) (restE vs e1 e2)) ()) := rfl
theorem x_any {te x e Q} : iAny te x e Q = te x e fun r e1 => fz r e1 fun d e2 => opt d.walk <| HB.mk (fun ds => Q ds e2) () := by
  unfold iAny opt
  congr 1; funext r e1; congr 1; funext d e2
  cases d.walk <;> rfl
theorem walk_l {ds} : D.walk (.lst ds) = some ds := rfl
theorem walk_t {ds} : D.walk (.tup ds) = some ds := rfl
theorem walk_s {s} : D.walk (.str s) = some (signs s) := rfl
theorem x_pure {p t x e Q} : iPure p t x e Q = t x e fun rs e1 => opt (rvL rs e1) <| HB.mk (fun ds => p ds fun l => Q l e1) () := by
  unfold iPure opt
  congr 1; funext rs e1
  cases rvL rs e1 <;> rfl
def sC (d : D) (h : HB (List Nat → Prop)) : Prop := match d with
  | .str s => h.b s
  | _ => False
theorem sC_s {b f} : sC (.str b) (HB.mk f ()) = f b := rfl
theorem x_rev {t x e Q} : iRevP t x e Q = t x e fun r e1 => fz r e1 fun d e2 => sC d <| HB.mk (fun s => Q (signs s).reverse e2) () := by
  unfold iRevP sC
  rfl
def kCa (ds : List D) (e : En) (h : HB (PM × (R → En → Prop))) : Prop := h.b.1 ds e.st fun c st' => h.b.2 c.toR ⟨e.sl, st'⟩
theorem x_call {m t x e Q} : tCall0 m t x e Q = t x e fun ds e1 => kCa ds e1 (HB.mk (m, Q) ()) := rfl
theorem x_kCa {m : PM} {ds e Q} : kCa ds e (HB.mk (m, Q) ()) = m ds e.st fun c st' => Q c.toR ⟨e.sl, st'⟩ := rfl
theorem toR_d {d} : C.toR (.d d) = .d d := rfl
theorem toR_o {d} : C.toR (.own d) = .own d := rfl
theorem x_gn {i d e Q} : gName i d e Q = (i < e.sl.length ∧ Q (e.setC i (.d d))) := rfl
theorem x_gnil {e Q} : gNil [] e Q = Q e := by unfold gNil; exact propext ⟨fun h => h.2, fun h => ⟨rfl, h⟩⟩
theorem x_gcons {t u d ds e Q} : gCons t u (d :: ds) e Q = t d e fun e1 => u ds e1 Q := rfl
theorem x_isi {T te x e Q} : tIsi T te x e Q = te x e fun r e1 => opt (rv r e1) <| HB.mk (fun d => opt d.tyN <| HB.mk (fun u => opt (kitB u T) <| HB.mk (fun b => Q (.d (.bl b)) e1) ()) ()) () := by
  unfold tIsi opt
  congr 1; funext r e1
  cases rv r e1 with
  | none => rfl
  | some d =>
    simp only
    cases d.tyN with
    | none => rfl
    | some u => simp only; cases kitB u T <;> rfl
/-- operators -/
theorem a_ii {i j Q} : pAdd (.int i) (.int j) Q = Q (.d (.int (i + j))) := rfl
theorem a_ss {s t Q} : pAdd (.str s) (.str t) Q = (s.length + t.length ≤ sizeLine ∧ Q (.d (.str (s ++ t)))) := rfl
theorem a_ll {s t Q} : pAdd (.lst s) (.lst t) Q = (s.length + t.length ≤ sizeLine ∧ Q (.own (s ++ t))) := rfl
theorem a_tt {s t Q} : pAdd (.tup s) (.tup t) Q = (s.length + t.length ≤ sizeLine ∧ Q (.d (.tup (s ++ t)))) := rfl
theorem a_I {C f i j Q} : pI C f (.int i) (.int j) Q = (C i j ∧ Q (.d (f i j))) := rfl
theorem a_neg {i Q} : pNeg (.int i) Q = Q (.d (.int (-i))) := rfl
theorem a_mul {i j Q} : pMul (.int i) (.int j) Q = (CMul i j ∧ Q (.d (.int (i * j)))) := rfl
theorem a_mulL {xs k Q} : pMul (.lst xs) (.int k) Q = ((-(2 ^ 63) ≤ k ∧ k < 2 ^ 63) ∧ xs.length * k.toNat ≤ sizeLine ∧ Q (.own (List.replicate k.toNat xs).flatten)) := rfl
theorem a_mulS {xs : List Nat} {k Q} : pMul (.str xs) (.int k) Q = ((-(2 ^ 63) ≤ k ∧ k < 2 ^ 63) ∧ xs.length * k.toNat ≤ 16777216 ∧ Q (.d (.str (List.replicate k.toNat xs).flatten))) := rfl
theorem a_eq {d e Q} : pEq d e Q = (d.ok 64 = true ∧ e.ok 64 = true ∧ Q (.d (.bl (D.eq d e)))) := rfl
theorem a_ne {d e Q} : pNe d e Q = (d.ok 64 = true ∧ e.ok 64 = true ∧ Q (.d (.bl (!D.eq d e)))) := rfl
theorem a_lt {i j Q} : pLt (.int i) (.int j) Q = Q (.d (.bl (decide (i < j)))) := rfl
theorem a_le {i j Q} : pLe (.int i) (.int j) Q = Q (.d (.bl (decide (i ≤ j)))) := rfl
theorem a_gt {i j Q} : pGt (.int i) (.int j) Q = Q (.d (.bl (decide (j < i)))) := rfl
theorem a_ge {i j Q} : pGe (.int i) (.int j) Q = Q (.d (.bl (decide (j ≤ i)))) := rfl
theorem a_ltS {i j Q} : pLt (.str i) (.str j) Q = Q (.d (.bl (decide (i < j)))) := rfl
theorem a_leS {i j Q} : pLe (.str i) (.str j) Q = Q (.d (.bl (!decide (j < i)))) := rfl
theorem a_inS {c l Q} : pIn false (.str [c]) (.str l) Q = Q (.d (.bl (decide (c ∈ l)))) := rfl
theorem a_ninS {c l Q} : pIn true (.str [c]) (.str l) Q = Q (.d (.bl (!decide (c ∈ l)))) := rfl
theorem a_inL {d l Q} : pIn false d (.lst l) Q = (d.ok 64 = true ∧ D.okL l 63 = true ∧ Q (.d (.bl (l.any fun z => D.eq z d)))) := rfl
theorem a_ninL {d l Q} : pIn true d (.lst l) Q = (d.ok 64 = true ∧ D.okL l 63 = true ∧ Q (.d (.bl (!l.any fun z => D.eq z d)))) := rfl
theorem a_inT {d l Q} : pIn false d (.tup l) Q = (d.flat = true ∧ l.all D.flat = true ∧ Q (.d (.bl (l.any fun z => D.eq z d)))) := rfl
theorem a_ninT {d l Q} : pIn true d (.tup l) Q = (d.flat = true ∧ l.all D.flat = true ∧ Q (.d (.bl (!l.any fun z => D.eq z d)))) := rfl
theorem a_ixL {l i Q} : pIx (.lst l) (.int i) Q = (opt (atI l i) <| HB.mk (fun y => Q (.d y)) ()) := by
  show (match atI l i with | some y => Q (.d y) | none => False) = _
  unfold opt
  cases atI l i <;> rfl
theorem a_ixT {l i Q} : pIx (.tup l) (.int i) Q = (opt (atI l i) <| HB.mk (fun y => Q (.d y)) ()) := by
  show (match atI l i with | some y => Q (.d y) | none => False) = _
  unfold opt
  cases atI l i <;> rfl
theorem a_ixS {l i Q} : pIx (.str l) (.int i) Q = (opt (atI l i) <| HB.mk (fun c => Q (.d (.str [c]))) ()) := by
  show (match atI l i with | some y => Q (.d (.str [y])) | none => False) = _
  unfold opt
  cases atI l i <;> rfl
theorem a_ixR {n i Q} : pIx (.scr n) (.int i) Q = ((0 ≤ i ∧ i < n) ∧ ∀ z, Q (.d (.int z))) := rfl
theorem a_ixB {i Q} : pIx .box (.int i) Q = ((i = 0 ∨ i = 1) ∧ ∀ z, Q (.d (.int z))) := rfl
theorem a_slL {l lo hi Q} : pSl (.lst l) lo hi Q = Q (.own (cut l lo hi)) := rfl
theorem a_slT {l lo hi Q} : pSl (.tup l) lo hi Q = Q (.d (.tup (cut l lo hi))) := rfl
theorem a_slS {l lo hi Q} : pSl (.str l) lo hi Q = Q (.d (.str (cut l lo hi))) := rfl
theorem a_lenS {s Q} : pLen [.str s] Q = Q (.d (.int s.length)) := rfl
theorem a_lenL {s Q} : pLen [.lst s] Q = Q (.d (.int s.length)) := rfl
theorem a_lenT {s Q} : pLen [.tup s] Q = Q (.d (.int s.length)) := rfl
theorem a_lenR {n Q} : pLen [.scr n] Q = Q (.d (.int n)) := rfl
theorem a_join {s x Q} : pJoin (.str s) [x] Q = (opt (strL x.items) <| HB.mk (fun r => (r.map List.length).sum + r.length * s.length ≤ 16777216 ∧ Q (.d (.str (joinN s r)))) ()) := by
  show (match strL x.items with | some r => _ | none => False) = _
  unfold opt
  cases strL x.items <;> rfl
theorem items_l {l} : D.items (.lst l) = l := rfl
theorem items_t {l} : D.items (.tup l) = l := rfl
theorem a_ixof {l c Q} : pIndexS (.str l) [.str [c]] Q = (c ∈ l ∧ Q (.d (.int (ixOf c l)))) := rfl
theorem a_ixofL {l y Q} : pIndexL (.lst l) [y] Q = (y.ok 64 = true ∧ D.okL l 63 = true ∧ (l.any fun z => D.eq z y) = true ∧ Q (.d (.int (ixD y l)))) := rfl
theorem a_rng1 {j Q} : pRng1 [.int j] Q = ((-(2 ^ 62) ≤ j ∧ j < 2 ^ 62) ∧ Q (rngI 0 j.toNat)) := rfl
theorem a_rng2 {i j Q} : pRng2 [.int i, .int j] Q = ((-(2 ^ 62) ≤ i ∧ i < 2 ^ 62 ∧ -(2 ^ 62) ≤ j ∧ j < 2 ^ 62) ∧ Q (rngI i (j - i).toNat)) := rfl
theorem a_min2 {i j Q} : pMin2 [.int i, .int j] Q = Q (.d (.int (min i j))) := by
  show Q (.d (.int (if j < i then j else i))) = _
  congr 3; rw [Int.min_def]; split <;> split <;> omega
theorem a_max2 {i j Q} : pMax2 [.int i, .int j] Q = Q (.d (.int (max i j))) := by
  show Q (.d (.int (if j > i then j else i))) = _
  congr 3; rw [Int.max_def]; split <;> split <;> omega
theorem a_lstS {s Q} : pList [.str s] Q = Q (.own (signs s)) := rfl
theorem a_lstL {s Q} : pList [.lst s] Q = Q (.own s) := rfl
theorem a_lstT {s Q} : pList [.tup s] Q = Q (.own s) := rfl
theorem a_int {s Q} : pInt [.int s] Q = Q (.d (.int s)) := rfl
theorem a_intB {s Q} : pInt [.bl s] Q = Q (.d (.int (if s then 1 else 0))) := rfl
theorem a_isN {neg d Q} : pIsN neg d .non Q = Q (.d (.bl (if neg then !d.isNon else d.isNon))) := rfl
def popAtH (ds as : List D) (h : HB (List D → D → Prop)) : Prop := mPopAt ds as h.b
theorem x_popAt {ds as K} : mPopAt ds as K = popAtH ds as (HB.mk K ()) := rfl
def allH (ds : List D) (h : HB (R → Prop)) : Prop := pAll [.lst ds] h.b
theorem x_all {ds Q} : pAll [.lst ds] Q = allH ds (HB.mk Q ()) := rfl
def anyH (ds : List D) (h : HB (R → Prop)) : Prop := pAny [.lst ds] h.b
theorem x_anyB {ds Q} : pAny [.lst ds] Q = anyH ds (HB.mk Q ()) := rfl
theorem a_isB {neg a b Q} : pIsN neg (.bl a) (.bl b) Q = Q (.d (.bl (if neg then !decide (a = b) else decide (a = b)))) := rfl
theorem m_app {ds y K} : mAppend ds [y] K = (ds.length < sizeLine ∧ K (ds ++ [y]) .non) := rfl
theorem a_pop {ds K} : mPop ds [] K = (opt ds[ds.length - 1]? <| HB.mk (fun y => K ds.dropLast y) ()) := by
  unfold mPop opt
  simp only
  cases ds[ds.length - 1]? <;> rfl
/-- data -/
theorem ok_s {s n} : D.ok (.str s) n = true := rfl
theorem ok_i {s n} : D.ok (.int s) n = true := rfl
theorem ok_b {s n} : D.ok (.bl s) n = true := rfl
theorem ok_n {n} : D.ok .non n = true := rfl
theorem ok_l {ds n} : D.ok (.lst ds) (n + 1) = D.okL ds n := rfl
theorem ok_t {ds n} : D.ok (.tup ds) (n + 1) = D.okL ds n := rfl
theorem okL_n {n} : D.okL [] n = true := rfl
theorem okL_c {d ds n} : D.okL (d :: ds) n = (d.ok n && D.okL ds n) := rfl
theorem e_ss {x y} : D.eq (.str x) (.str y) = decide (x = y) := by simp only [D.eq]; rw [Bool.eq_iff_iff]; simp
theorem e_ii {x y} : D.eq (.int x) (.int y) = decide (x = y) := by simp only [D.eq]; rw [Bool.eq_iff_iff]; simp
theorem e_bb {x y} : D.eq (.bl x) (.bl y) = decide (x = y) := by cases x <;> cases y <;> rfl
theorem e_ll {x y} : D.eq (.lst x) (.lst y) = D.eqL x y := by simp only [D.eq]
theorem e_tt {x y} : D.eq (.tup x) (.tup y) = D.eqL x y := by simp only [D.eq]
theorem eL_nn : D.eqL [] [] = true := by simp only [D.eqL]
theorem eL_cc {a x b y} : D.eqL (a :: x) (b :: y) = (D.eq a b && D.eqL x y) := by simp only [D.eqL]
theorem eL_nc {b y} : D.eqL [] (b :: y) = false := by simp only [D.eqL]
theorem eL_cn {b y} : D.eqL (b :: y) [] = false := by simp only [D.eqL]
theorem ty_s {s} : D.tyN (.str s) = some "str" := rfl
theorem ty_i {s} : D.tyN (.int s) = some "int" := rfl
theorem ty_l {s} : D.tyN (.lst s) = some "list" := rfl
theorem ty_b {s} : D.tyN (.bl s) = some "bool" := rfl
theorem sline : (sizeLine : Nat) = 16777216 := sizeLine_eq
end Pu
set_option maxRecDepth 100000
set_option maxHeartbeats 4000000
namespace Pu
open PySem L2
theorem forH_inv {g : PTG} {tb : PTS} {x : PX} {P : PEn} (I : List D → En → Prop) {ds : List D} {e : En} (h0 : I ds e) (hd : ∀ e, I [] e → P.nx e) (h : ∀ d r e, I (d :: r) e → ∀ N : En → Prop, (∀ e', I r e' → N e') → g d e fun e' => tb x { P with nx := N, ct := N, bk := P.nx } e') :
    forH ds e (HB.mk (g, tb, x, P) ()) := forR_inv I h hd ds e h0
/-- over the signs of a text: what is behind, what is to come -/
theorem forH_signs {g : PTG} {tb : PTS} {x : PX} {P : PEn} (w : List Nat) (I : List Nat → List Nat → En → Prop) {e : En} (h0 : I [] w e) (hd : ∀ e, I w [] e → P.nx e) (h : ∀ pre c suf e, pre ++ c :: suf = w → I pre (c :: suf) e → ∀ N : En → Prop, (∀ e', I (pre ++ [c]) suf e' → N e') → g (.str [c]) e fun e' => tb x { P with nx := N, ct := N, bk := P.nx } e') :
    forH (signs w) e (HB.mk (g, tb, x, P) ()) := by
  refine forH_inv (fun rest e => ∃ pre suf, pre ++ suf = w ∧ rest = signs suf ∧ I pre suf e) ⟨[], w, rfl, rfl, h0⟩ ?_ ?_
  · rintro e ⟨pre, suf, h1, h2, h3⟩
    cases suf with
    | nil => rw [List.append_nil] at h1; subst h1; exact hd e h3
    | cons c suf => cases h2
  · rintro d r e ⟨pre, suf, h1, h2, h3⟩ N hN
    cases suf with
    | nil => cases h2
    | cons c suf =>
      cases h2
      exact h pre c suf e h1 h3 N fun e' h' => hN e' ⟨pre ++ [c], suf, by rw [← h1]; simp, rfl, h'⟩
/-- over a range from i on: the turns done -/
theorem forH_rng {g : PTG} {tb : PTS} {x : PX} {P : PEn} (lo : Int) (n : Nat) (I : Nat → En → Prop) {e : En} (h0 : I 0 e) (hd : ∀ e, I n e → P.nx e) (h : ∀ j e, j < n → I j e → ∀ N : En → Prop, (∀ e', I (j + 1) e' → N e') → g (.int (lo + j)) e fun e' => tb x { P with nx := N, ct := N, bk := P.nx } e') :
    forH (rngI lo n) e (HB.mk (g, tb, x, P) ()) := by
  refine forH_inv (fun rest e => ∃ j, j ≤ n ∧ rest = rngI (lo + j) (n - j) ∧ I j e) ⟨0, by omega, by simp, h0⟩ ?_ ?_
  · rintro e ⟨j, h1, h2, h3⟩
    have := congrArg List.length h2
    rw [rngI_length] at this
    simp at this
    have e0 : j = n := by omega
    subst e0
    exact hd e h3
  · rintro d r e ⟨j, h1, h2, h3⟩ N hN
    have hl := congrArg List.length h2
    rw [rngI_length] at hl
    simp at hl
    obtain ⟨z, hz⟩ : ∃ z, n - j = z + 1 := ⟨n - j - 1, by omega⟩
    rw [hz, rngI_succ] at h2
    cases h2
    exact h j e (by omega) h3 N fun e' h' => hN e' ⟨j + 1, by omega, by rw [show n - (j + 1) = z by omega]; congr 1; push_cast; omega, h'⟩
/-- over a mapped list -/
theorem forH_map {α : Type} (f : α → D) {g : PTG} {tb : PTS} {x : PX} {P : PEn} (w : List α) (I : List α → List α → En → Prop) {e : En} (h0 : I [] w e) (hd : ∀ e, I w [] e → P.nx e) (h : ∀ pre c suf e, pre ++ c :: suf = w → I pre (c :: suf) e → ∀ N : En → Prop, (∀ e', I (pre ++ [c]) suf e' → N e') → g (f c) e fun e' => tb x { P with nx := N, ct := N, bk := P.nx } e') :
    forH (w.map f) e (HB.mk (g, tb, x, P) ()) := by
  refine forH_inv (fun rest e => ∃ pre suf, pre ++ suf = w ∧ rest = suf.map f ∧ I pre suf e) ⟨[], w, rfl, rfl, h0⟩ ?_ ?_
  · rintro e ⟨pre, suf, h1, h2, h3⟩
    cases suf with
    | nil => rw [List.append_nil] at h1; subst h1; exact hd e h3
    | cons c suf => cases h2
  · rintro d r e ⟨pre, suf, h1, h2, h3⟩ N hN
    cases suf with
    | nil => cases h2
    | cons c suf =>
      cases h2
      exact h pre c suf e h1 h3 N fun e' h' => hN e' ⟨pre ++ [c], suf, by rw [← h1]; simp, rfl, h'⟩
theorem least_nat {R : Nat → Prop} (h : ∃ n, R n) : ∃ n, R n ∧ ∀ k, R k → n ≤ k := by
  obtain ⟨n, hn⟩ := h
  induction n using Nat.strongRecOn with
  | _ n ih =>
    by_cases z : ∃ k, k < n ∧ R k
    · obtain ⟨k, h1, h2⟩ := z
      exact ih k h1 h2
    · exact ⟨n, hn, fun k hk => Nat.le_of_not_lt fun hl => z ⟨k, hl, hk⟩⟩
theorem wh_on {c : PTT} {tb : PTS} {x : PX} {P : PEn} {e : En} {α : Type} (st : α → En) (W : α → Prop) (μ : α → Nat) (a0 : α) (he : e = st a0) (h0 : W a0)
    (h : ∀ a, W a → ∀ N : En → Prop, (∀ a', W a' → μ a' < μ a → N (st a')) → c x (st a) fun b e1 => br b (HB.mk (tb x { P with nx := N, ct := N, bk := P.nx } e1, P.nx e1) ())) : whH e (HB.mk (c, tb, x, P) ()) := by
  classical
  let R : En → Nat → Prop := fun e n => ∃ a, e = st a ∧ W a ∧ μ a = n
  let m : En → Nat := fun e => if h : ∃ n, R e n then Classical.choose (least_nat h) else 0
  have key : ∀ e, (∃ n, R e n) → R e (m e) ∧ ∀ k, R e k → m e ≤ k := fun e hh => by
    have z : m e = Classical.choose (least_nat hh) := dif_pos hh
    rw [z]
    exact Classical.choose_spec (least_nat hh)
  refine ⟨fun e => ∃ a, e = st a ∧ W a, m, ⟨a0, he, h0⟩, ?_⟩
  intro e ⟨a1, h1, h2⟩
  obtain ⟨⟨a, g1, g2, g3⟩, _⟩ := key e ⟨_, a1, h1, h2, rfl⟩
  subst g1
  exact h a g2 (fun e' => (∃ a, e' = st a ∧ W a) ∧ m e' < m (st a)) fun a' w' l' => ⟨⟨a', rfl, w'⟩, Nat.lt_of_le_of_lt ((key (st a') ⟨_, a', rfl, w', rfl⟩).2 _ ⟨a', rfl, w', rfl⟩) (by rw [← g3]; exact l')⟩
theorem at_last {α : Type} {l : List α} {a : α} {f : α → Prop} (h : l.getLast? = some a) (q : f a) : opt (atI l (-1)) (HB.mk f ()) := by
  refine opt_of ?_ q
  unfold atI ixN
  rw [if_neg (by omega)]
  have hl : l ≠ [] := fun z => by subst z; cases h
  have hp : 0 < l.length := List.length_pos_iff.mpr hl
  rw [if_pos (by omega)]
  have : ((-1 : Int) + (l.length : Int)).toNat = l.length - 1 := by omega
  simp only [Option.bind_some, this]
  rw [List.getLast?_eq_getElem?] at h
  exact h
theorem at_head {α : Type} {l : List α} {a : α} {f : α → Prop} (h : l.head? = some a) (q : f a) : opt (atI l 0) (HB.mk f ()) := by
  refine opt_of ?_ q
  cases l with
  | nil => cases h
  | cons b l => cases h; unfold atI ixN; simp
theorem lcH_map {g : PTG} {te : PTE} {vs : List Nat} {e : En} {Q : List D → En → Prop} {ds : List D} (f : D → D) (h : ∀ d ∈ ds, ∀ K : D → En → Prop, K (f d) e → g d e fun e1 => te noX e1 fun r e3 => fz r e3 fun y e4 => K y (wipeE vs e4)) (q : Q (ds.map f) e) : lcH ds e (HB.mk (g, cYes, te, vs, Q) ()) :=
  lcR_map f ds [] h (by simpa using q)
theorem x_ite {b : Bool} {p q : Prop} : (if b = true then p else q) = br b (HB.mk (p, q) ()) := rfl
theorem x_gtup {n t ds e Q} : gTup n t (.tup ds) e Q = (ds.length = n ∧ t ds e Q) := rfl
theorem x_yes {x e Q} : cYes x e Q = Q true e := rfl
theorem strL_signs (w : List Nat) : strL (signs w) = some (w.map fun c => [c]) := by
  have e : signs w = (w.map fun c => [c]).map D.str := by unfold signs; rw [List.map_map]; rfl
  rw [e, strL_map]
theorem len_signs {w : List Nat} (h : w.length ≤ 16777216) : ((w.map fun c => [c]).map List.length).sum + (w.map fun c => [c]).length * ([] : List Nat).length ≤ 16777216 := by
  have : ((w.map fun c => [c]).map List.length) = List.replicate w.length 1 := by
    rw [List.map_map, List.eq_replicate_iff]
    refine ⟨by simp, fun b hb => ?_⟩
    obtain ⟨a, _, rfl⟩ := List.mem_map.mp hb
    rfl
  rw [this, List.sum_replicate_nat]
  simp
  exact h
theorem len_signs' {w : List Nat} (h : w.length ≤ 16777216) : ((w.map fun c => [c]).map List.length).sum + (w.map fun c => [c]).length * 0 ≤ 16777216 := len_signs h
theorem signs_len (w : List Nat) : (signs w).length = w.length := by unfold signs; simp
theorem signs_app (v w : List Nat) : signs v ++ signs w = signs (v ++ w) := by unfold signs; rw [List.map_append]
theorem signs_snoc (v : List Nat) (c : Nat) : signs v ++ [.str [c]] = signs (v ++ [c]) := signs_app v [c]
theorem ixN_nat {n : Nat} {i : Int} (h0 : 0 ≤ i) (h1 : i < n) : ixN n i = some i.toNat := by
  unfold ixN
  rw [if_pos h0, if_pos h1]
theorem atI_ok {α : Type} {l : List α} {i : Int} (h0 : 0 ≤ i) (h1 : i < l.length) : ∃ h : i.toNat < l.length, atI l i = some l[i.toNat] := by
  have h : i.toNat < l.length := by omega
  refine ⟨h, ?_⟩
  unfold atI
  rw [ixN_nat h0 h1]
  exact List.getElem?_eq_getElem h
/-- any item -/
theorem at_mem {α : Type} {l : List α} {i : Int} {f : α → Prop} (h0 : 0 ≤ i) (h1 : i < l.length) (h : ∀ a ∈ l, f a) : opt (atI l i) (HB.mk f ()) := by
  obtain ⟨g, e⟩ := atI_ok h0 h1
  exact opt_of e (h _ (List.getElem_mem g))
theorem atI_map {α β : Type} (f : α → β) (l : List α) (i : Int) : atI (l.map f) i = (atI l i).map f := by
  unfold atI
  rw [List.length_map]
  cases ixN l.length i with
  | none => rfl
  | some j => simp
/-- the last, the first -/
theorem atI_last {α : Type} (l : List α) : atI l (-1) = l.getLast? := by
  unfold atI ixN
  rw [if_neg (by omega)]
  by_cases h : l = []
  · subst h; rfl
  · have hp : 0 < l.length := List.length_pos_iff.mpr h
    rw [if_pos (by omega)]
    have : ((-1 : Int) + (l.length : Int)).toNat = l.length - 1 := by omega
    simp only [Option.bind_some, this]
    rw [List.getLast?_eq_getElem?]
theorem popAt_ok {ds : List D} {i : Int} {K : List D → D → Prop} (h0 : 0 ≤ i) (h1 : i < ds.length) (h : ∀ j (hj : j < ds.length), K (ds.eraseIdx j) ds[j]) : mPopAt ds [.int i] K := by
  unfold mPopAt
  simp only
  rw [ixN_nat h0 h1]
  have hj : i.toNat < ds.length := by omega
  simp only [List.getElem?_eq_getElem hj]
  exact h _ hj
theorem sIx_k (n d k : Nat) : HT.sIx n d (some (k : Int)) = min k n := HT.sIx_nat n d k
theorem cut_take {α : Type} (xs : List α) (k : Nat) : cut xs none (some (k : Int)) = xs.take k := by
  unfold cut
  rw [sIx_k]
  have e1 : HT.sIx xs.length 0 none = 0 := rfl
  rw [e1, List.drop_zero, Nat.sub_zero, List.take_eq_take_iff]
  omega
theorem cut_drop {α : Type} (xs : List α) (k : Nat) : cut xs (some (k : Int)) none = xs.drop k := by
  unfold cut
  rw [sIx_k]
  have e2 : HT.sIx xs.length xs.length none = xs.length := rfl
  rw [e2]
  rw [List.take_of_length_le (by simp)]
  by_cases h : k ≤ xs.length
  · rw [Nat.min_eq_left h]
  · rw [Nat.min_eq_right (by omega), List.drop_length, List.drop_of_length_le (by omega)]
theorem cut_mid {α : Type} (xs : List α) (i j : Nat) : cut xs (some (i : Int)) (some (j : Int)) = (xs.take j).drop i := by
  unfold cut
  rw [sIx_k, sIx_k, List.drop_take]
  by_cases h : i ≤ xs.length
  · rw [Nat.min_eq_left h, List.take_eq_take_iff, List.length_drop]
    omega
  · rw [Nat.min_eq_right (a := i) (by omega), List.drop_length, List.drop_of_length_le (i := i) (by omega)]
    simp
theorem sIx_m1 (n d : Nat) : HT.sIx n d (some (-1)) = n - 1 := by
  show (if ((-1 : Int)) < 0 then ((-1 : Int) + (n : Int)).toNat else min (-1 : Int).toNat n) = _
  rw [if_pos (by omega)]
  omega
theorem cut_inner {α : Type} (xs : List α) : cut xs (some 1) (some (-1)) = xs.tail.dropLast := by
  unfold cut
  have e1 : HT.sIx xs.length 0 (some 1) = min 1 xs.length := HT.sIx_nat _ _ 1
  rw [e1, sIx_m1]
  cases xs with
  | nil => rfl
  | cons a l =>
    rw [List.length_cons, Nat.min_eq_left (by omega), List.dropLast_eq_take]
    simp
theorem a_repr {d Q} : pRepr [d] Q = (d.ok 64 = true ∧ d.rok = true ∧ d.rlen ≤ 16777216 ∧ Q (.d (.str (shw d)))) := rfl
def minH (ds : List D) (h : HB (R → Prop)) : Prop := pMin1 [.lst ds] h.b
theorem x_min1 {ds Q} : pMin1 [.lst ds] Q = minH ds (HB.mk Q ()) := rfl
theorem minH_ok {ds : List D} {x : List Nat} {r : List (List Nat)} {Q : R → Prop} (h : ds = (x :: r).map D.str) (q : Q (.d (.str (minS x r)))) : minH ds (HB.mk Q ()) := by
  subst h
  show (match strL ((x :: r).map D.str) with | some (x :: r) => Q (.d (.str (minS x r))) | _ => False)
  rw [strL_map]
  exact q
theorem a_min2S {x y Q} : pMin2S [.str x, .str y] Q = Q (.d (.str (if y < x then y else x))) := rfl
end Pu
set_option maxRecDepth 100000
set_option maxHeartbeats 4000000
namespace Pu
open PySem L2
theorem x_dict0 {x e Q} : tDict0 x e Q = Q (.dK []) e := rfl
theorem x_aK {i d e Q} : asgR i (.dK d) e Q = Q (e.setC i (.dK d)) := rfl
def kgC : Option C → Option (List (Key × D))
  | some (.dK ds) => some ds
  | _ => none
theorem kgC_dK {ds} : kgC (some (.dK ds)) = some ds := rfl
theorem x_kg {i e} : kget (.nam i) e = kgC e.sl[i]? := by
  show (match e.sl[i]? with | some (.dK ds) => some ds | _ => none) = _
  unfold kgC
  cases e.sl[i]? with
  | none => rfl
  | some c => cases c <;> rfl
theorem x_kgRn {i e} : kgetR (.nam i) e = kget (.nam i) e := rfl
theorem x_kgRf {ks ds e} : kgetR (.d (.dck ks ds)) e = some (ks.zip ds) := rfl
theorem x_zips {α β : Type} {l : List (α × β)} : (l.map Prod.fst).zip (l.map Prod.snd) = l := zip_split l
theorem x_ks {i e ds} : kset (.nam i) e ds = e.setC i (.dK ds) := rfl
/-- keys: ints, texts -/
def kI (i : Int) : Key := .inl i
def kS (s : List Nat) : Key := .inr ⟨s.toArray⟩
theorem key_i {i} : keyD (.int i) = some (kI i) := rfl
theorem key_s {s} : keyD (.str s) = some (kS s) := rfl
theorem kI_eq {i j} : (kI i = kI j) = (i = j) := by unfold kI; simp
theorem kS_eq {i j} : (kS i = kS j) = (i = j) := by unfold kS; simp
theorem x_dg {to ti x e Q} : tDG to ti x e Q = to x e fun r e1 => hold r e1 fun r e1 => ti x e1 fun ri e2 => opt (kgetR r e2) <| HB.mk (fun kvs => opt (rv ri e2) <| HB.mk (fun kd => opt (keyD kd) <| HB.mk (fun k => opt (getK kvs k) <| HB.mk (fun d => Q (.d d) e2) ()) ()) ()) () := by
  unfold tDG opt
  congr 1; funext r e1; congr 1; funext r e1; congr 1; funext ri e2
  cases kgetR r e2 with
  | none => rfl
  | some kvs =>
    simp only
    cases rv ri e2 with
    | none => rfl
    | some kd =>
      simp only
      cases keyD kd with
      | none => rfl
      | some k => simp only; cases getK kvs k <;> rfl
theorem x_di {neg ti to x e Q} : tDI neg ti to x e Q = ti x e fun ri e1 => hold ri e1 fun ri e1 => to x e1 fun r e2 => opt (kgetR r e2) <| HB.mk (fun kvs => opt (rv ri e2) <| HB.mk (fun kd => opt (keyD kd) <| HB.mk (fun k => Q (.d (.bl (if neg then !(getK kvs k).isSome else (getK kvs k).isSome))) e2) ()) ()) () := by
  unfold tDI opt
  congr 1; funext r e1; congr 1; funext r e1; congr 1; funext ri e2
  cases kgetR ri e2 with
  | none => rfl
  | some kvs =>
    simp only
    cases rv r e2 with
    | none => rfl
    | some kd =>
      simp only
      cases keyD kd <;> rfl
theorem x_dpt {te to ti x P e} : sDPt te to ti x P e = te x e fun r0 e1 => fz r0 e1 fun dv e2 => to x e2 fun ro e3 => hold ro e3 fun ro e3 => ti x e3 fun ri e4 => opt (kget ro e4) <| HB.mk (fun kvs => opt (rv ri e4) <| HB.mk (fun kd => opt (keyD kd) <| HB.mk (fun k => kvs.length < sizeLine ∧ P.nx (kset ro e4 (setK kvs k dv))) ()) ()) () := by
  unfold sDPt opt
  congr 1; funext r e1; congr 1; funext r e1; congr 1; funext ri e2; congr 1; funext ri e2; congr 1; funext ri2 e4
  cases kget ri e4 with
  | none => rfl
  | some kvs =>
    simp only
    cases rv ri2 e4 with
    | none => rfl
    | some kd =>
      simp only
      cases keyD kd <;> rfl
def oneR (rs : List R) (h : HB (R → Prop)) : Prop := match rs with
  | [r] => h.b r
  | _ => False
theorem oneR_1 {r f} : oneR [r] (HB.mk f ()) = f r := rfl
theorem x_enum {t x e Q} : iEnumP t x e Q = t x e fun rs e1 => oneR rs <| HB.mk (fun r => fz r e1 fun d e2 => opt d.walkE <| HB.mk (fun ds => Q (enumF 0 ds) e2) ()) () := by
  unfold iEnumP opt oneR
  congr 1; funext rs e1
  match rs with
  | [] => rfl
  | [r] =>
    show fz r e1 _ = fz r e1 _
    congr 1; funext d e2
    cases d.walkE <;> rfl
  | _ :: _ :: _ => rfl
theorem walkE_l {ds} : D.walkE (.lst ds) = some ds := rfl
theorem walkE_t {ds} : D.walkE (.tup ds) = some ds := rfl
theorem walkE_s {s} : D.walkE (.str s) = some (signs s) := rfl
theorem a_backL {ds Q} : pBack (.lst ds) Q = Q (.own ds.reverse) := rfl
theorem a_backS {s Q} : pBack (.str s) Q = Q (.d (.str s.reverse)) := rfl
theorem a_backT {ds Q} : pBack (.tup ds) Q = Q (.d (.tup ds.reverse)) := rfl
theorem x_never {x P e} : sNever x P e = False := rfl
theorem ty_t {s} : D.tyN (.tup s) = some "tuple" := rfl
theorem a_tupL {s Q} : pTuple [.lst s] Q = Q (.d (.tup s)) := rfl
theorem a_tupT {s Q} : pTuple [.tup s] Q = Q (.d (.tup s)) := rfl
/-- sorted, as a list -/
def insS (x : List Nat) : List (List Nat) → List (List Nat)
  | [] => [x]
  | y :: r => if y < x then y :: insS x r else x :: y :: r
def srt : List (List Nat) → List (List Nat)
  | [] => []
  | x :: r => insS x (srt r)
def Asc : List (List Nat) → Prop
  | [] => True
  | x :: r => (∀ y ∈ r, ¬ y < x) ∧ Asc r
theorem insS_perm (x : List Nat) : ∀ r, (insS x r).Perm (x :: r)
  | [] => .refl _
  | y :: r => by
    unfold insS
    split
    · exact ((insS_perm x r).cons y).trans (.swap ..)
    · exact .refl _
theorem srt_perm : ∀ r, (srt r).Perm r
  | [] => .refl _
  | x :: r => (insS_perm x (srt r)).trans ((srt_perm r).cons x)
theorem insS_asc {x : List Nat} : ∀ {r : List (List Nat)}, Asc r → Asc (insS x r)
  | [], _ => ⟨by simp, trivial⟩
  | y :: r, ⟨h1, h2⟩ => by
    unfold insS
    split
    · rename_i h
      refine ⟨fun z hz => ?_, insS_asc h2⟩
      rcases List.mem_cons.mp ((insS_perm x r).mem_iff.mp hz) with e | e
      · rw [e]; exact fun q => List.lt_irrefl _ (List.lt_trans q h)
      · exact h1 z e
    · rename_i h
      refine ⟨fun z hz => ?_, h1, h2⟩
      rcases List.mem_cons.mp hz with e | e
      · rw [e]; exact h
      · exact fun q => absurd (List.lt_of_le_of_lt (List.not_lt.mp (h1 z e)) q) h
theorem srt_asc : ∀ r, Asc (srt r)
  | [] => trivial
  | x :: r => insS_asc (srt_asc r)
theorem asc_unique : ∀ {a b : List (List Nat)}, Asc a → Asc b → a.Perm b → a = b
  | [], b, _, _, p => by rw [List.perm_nil.mp p.symm]
  | x :: r, b, ⟨h1, h2⟩, hb, p => by
    cases b with
    | nil => exact absurd p.length_eq (by simp)
    | cons y t =>
      obtain ⟨g1, g2⟩ := hb
      have e : x = y := by
        have hx : x ∈ y :: t := p.mem_iff.mp (by simp)
        have hy : y ∈ x :: r := p.mem_iff.mpr (by simp)
        rcases List.mem_cons.mp hx with e | e
        · exact e
        · rcases List.mem_cons.mp hy with e' | e'
          · exact e'.symm
          · exact List.le_antisymm (List.not_lt.mp (h1 y e')) (List.not_lt.mp (g1 x e))
      subst e
      rw [asc_unique h2 g2 ((List.perm_cons _).mp p)]
theorem srt_eq {a b : List (List Nat)} (p : a.Perm b) : srt a = srt b := asc_unique (srt_asc a) (srt_asc b) (((srt_perm a).trans p).trans (srt_perm b).symm)
theorem srt_len (r : List (List Nat)) : (srt r).length = r.length := (srt_perm r).length_eq
theorem srt_mem {r : List (List Nat)} {x : List Nat} : x ∈ srt r ↔ x ∈ r := (srt_perm r).mem_iff
theorem asc_cons2 {x y : List Nat} {r : List (List Nat)} (h1 : ¬ y < x) (h2 : Asc (y :: r)) : Asc (x :: y :: r) := by
  refine ⟨fun z hz => ?_, h2⟩
  rcases List.mem_cons.mp hz with e | e
  · rw [e]; exact h1
  · exact fun q => h1 (List.lt_of_le_of_lt (List.not_lt.mp (h2.1 z e)) q)
theorem asc_ris : ∀ {r : List (List Nat)} {x : List Nat}, PyProof.Rows.risingS ⟨x.toArray⟩ (r.map fun s => (⟨s.toArray⟩ : Str)) = true → Asc (x :: r)
  | [], _, _ => ⟨by simp, trivial⟩
  | y :: r, x, h => by
    simp only [List.map_cons, PyProof.Rows.risingS, Bool.and_eq_true] at h
    obtain ⟨h1, h2⟩ := h
    refine asc_cons2 ?_ (asc_ris h2)
    rw [PyProof.Rows.ltCps_eq] at h1
    simpa using h1
theorem asc_of : ∀ {r : List (List Nat)}, PyProof.Rows.sortedS (r.map fun s => (⟨s.toArray⟩ : Str)) = true → Asc r
  | [], _ => trivial
  | x :: r, h => asc_ris h
def sortH (ds : List D) (h : HB (R → Prop)) : Prop := pSortT [.lst ds] h.b
theorem x_sort {ds Q} : pSortT [.lst ds] Q = sortH ds (HB.mk Q ()) := rfl
def sortSH (w : List Nat) (h : HB (R → Prop)) : Prop := pSortT [.str w] h.b
theorem x_sortS {w Q} : pSortT [.str w] Q = sortSH w (HB.mk Q ()) := rfl
end Pu
set_option maxRecDepth 100000
set_option maxHeartbeats 4000000
namespace Pu
open PySem L2
theorem m_ext {ds zs K} : mExtend ds [.lst zs] K = (ds.length + zs.length ≤ sizeLine ∧ K (ds ++ zs) .non) := rfl
theorem m_rev {ds K} : mReverse ds [] K = K ds.reverse .non := rfl
def enF {α : Type} : Nat → List α → List (Nat × α)
  | _, [] => []
  | i, a :: l => (i, a) :: enF (i + 1) l
theorem enF_len {α : Type} : ∀ (l : List α) (i : Nat), (enF i l).length = l.length
  | [], _ => rfl
  | a :: l, i => by simp [enF, enF_len l]
theorem enF_get {α : Type} : ∀ (l : List α) (k i : Nat), (enF k l)[i]? = l[i]?.map fun a => (k + i, a)
  | [], _, _ => by simp [enF]
  | a :: l, k, 0 => by simp [enF]
  | a :: l, k, i + 1 => by
    have e1 : k + 1 + i = k + (i + 1) := by omega
    rw [enF, List.getElem?_cons_succ, List.getElem?_cons_succ, enF_get l (k + 1) i, e1]
theorem enF_mem {α : Type} {l : List α} {k : Nat} {p : Nat × α} (h : p ∈ enF k l) : ∃ i, l[i]? = some p.2 ∧ p.1 = k + i := by
  obtain ⟨i, hi⟩ := List.mem_iff_getElem?.mp h
  rw [enF_get] at hi
  cases q : l[i]? with
  | none => rw [q] at hi; cases hi
  | some a => rw [q] at hi; cases hi; exact ⟨i, q, rfl⟩
theorem All2.get {α β : Type} {R : α → β → Prop} : ∀ {as : List α} {bs : List β} {i : Nat} {a : α}, All2 R as bs → as[i]? = some a → ∃ b, bs[i]? = some b ∧ R a b
  | _, _, 0, _, .cons h t, e => by simp at e; subst e; exact ⟨_, rfl, h⟩
  | _, _, i + 1, _, .cons h t, e => by
    obtain ⟨b, h1, h2⟩ := All2.get (i := i) t (by simpa using e)
    exact ⟨b, by simpa using h1, h2⟩
theorem All2.get' {α β : Type} {R : α → β → Prop} : ∀ {as : List α} {bs : List β} {i : Nat} {b : β}, All2 R as bs → bs[i]? = some b → ∃ a, as[i]? = some a ∧ R a b
  | _, _, 0, _, .cons h t, e => by simp at e; subst e; exact ⟨_, rfl, h⟩
  | _, _, i + 1, _, .cons h t, e => by
    obtain ⟨b, h1, h2⟩ := All2.get' (i := i) t (by simpa using e)
    exact ⟨b, by simpa using h1, h2⟩
/-- comprehensions over mapped lists -/
theorem lcR_fm {α : Type} {g : PTG} {tt : PTT} {te : PTE} {vs : List Nat} {e : En} {Q : List D → En → Prop} (g0 : α → D) (p : α → Bool) (f : α → D) :
    ∀ (l : List α) (acc : List D), (∀ a ∈ l, ∀ K : Option D → En → Prop, K (if p a = true then some (f a) else none) e → g (g0 a) e fun e1 => tt noX e1 fun b e2 => if b = true then te noX e2 fun r e3 => fz r e3 fun y e4 => K (some y) (wipeE vs e4) else K none (wipeE vs e2)) →
      Q (acc ++ (l.filter p).map f) e → lcR g tt te vs (l.map g0) acc e Q
  | [], acc, _, k => by rw [List.filter_nil, List.map_nil, List.append_nil] at k; exact k
  | a :: l, acc, h, k => by
    refine h a (by simp) (fun o e' => match o with | some y => lcR g tt te vs (l.map g0) (acc ++ [y]) e' Q | none => lcR g tt te vs (l.map g0) acc e' Q) ?_
    by_cases hp : p a = true
    · rw [if_pos hp]
      refine lcR_fm g0 p f l (acc ++ [f a]) (fun d' hd => h d' (List.mem_cons_of_mem _ hd)) ?_
      rw [List.filter_cons_of_pos hp, List.map_cons] at k
      rw [List.append_assoc]
      exact k
    · rw [if_neg hp]
      refine lcR_fm g0 p f l acc (fun d' hd => h d' (List.mem_cons_of_mem _ hd)) ?_
      rw [List.filter_cons_of_neg hp] at k
      exact k
theorem lcH_fm {α : Type} {g : PTG} {tt : PTT} {te : PTE} {vs : List Nat} {e : En} {Q : List D → En → Prop} {l : List α} {g0 : α → D} (p : α → Bool) (f : α → D) (h : ∀ a ∈ l, ∀ K : Option D → En → Prop, K (if p a = true then some (f a) else none) e → g (g0 a) e fun e1 => tt noX e1 fun b e2 => if b = true then te noX e2 fun r e3 => fz r e3 fun y e4 => K (some y) (wipeE vs e4) else K none (wipeE vs e2)) (q : Q ((l.filter p).map f) e) : lcH (l.map g0) e (HB.mk (g, tt, te, vs, Q) ()) :=
  lcR_fm g0 p f l [] h (by simpa using q)
theorem lcH_mm {α : Type} {g : PTG} {te : PTE} {vs : List Nat} {e : En} {Q : List D → En → Prop} {l : List α} {g0 : α → D} (f : α → D) (h : ∀ a ∈ l, ∀ K : D → En → Prop, K (f a) e → g (g0 a) e fun e1 => te noX e1 fun r e3 => fz r e3 fun y e4 => K y (wipeE vs e4)) (q : Q (l.map f) e) : lcH (l.map g0) e (HB.mk (g, cYes, te, vs, Q) ()) := by
  refine lcR_fm g0 (fun _ => true) f l [] (fun a ha K k => ?_) ?_
  · have k : K (some (f a)) e := k
    exact h a ha (fun y e' => K (some y) e') k
  · have : l.filter (fun _ => true) = l := List.filter_eq_self.mpr fun _ _ => rfl
    rw [this]
    simpa using q
theorem ixOf_lt {c : Nat} {l : List Nat} (h : c ∈ l) : ixOf c l < l.length := (List.getElem?_eq_some_iff.mp (ixOf_spec h).1).1
end Pu
set_option maxRecDepth 100000
set_option maxHeartbeats 4000000
namespace Pu
open PySem L2
def sortPH (d : D) (h : HB (R → Prop)) : Prop := pSortP [d] h.b
theorem x_sortP {d Q} : pSortP [d] Q = sortPH d (HB.mk Q ()) := rfl
end Pu
set_option maxRecDepth 100000
set_option maxHeartbeats 4000000
namespace Pu
open PySem L2
theorem a_slR {n lo hi Q} : pSl (.scr n) lo hi Q = ∀ ns : List Int, ns.length = (cut (List.range n) lo hi).length → Q (.own (ns.map D.int)) := rfl
def twoR (rs : List R) (h : HB (R → R → Prop)) : Prop := match rs with
  | [r1, r2] => h.b r1 r2
  | _ => False
theorem twoR_2 {r1 r2 f} : twoR [r1, r2] (HB.mk f ()) = f r1 r2 := rfl
def sideH (d : D) (h : HB (List D → Prop)) : Prop := match d.side with
  | some (_, ds) => h.b ds
  | none => False
theorem side_l {ds f} : sideH (.lst ds) (HB.mk f ()) = f ds := rfl
theorem side_t {ds f} : sideH (.tup ds) (HB.mk f ()) = f ds := rfl
theorem x_zip {t x e Q} : iZipP t x e Q = t x e fun rs e1 => twoR rs <| HB.mk (fun r1 r2 => fz r1 e1 fun d1 e2 => fz r2 e2 fun d2 e3 => sideH d1 <| HB.mk (fun ds => sideH d2 <| HB.mk (fun es => (∀ d ∈ ds, isPr d = false) ∧ Q (zipF ds es) e3) ()) ()) () := by
  unfold iZipP twoR sideH
  congr 1; funext rs e1
  match rs with
  | [] => rfl
  | [r] => rfl
  | [r1, r2] =>
    show fz r1 e1 _ = fz r1 e1 _
    congr 1; funext d1 e2
    congr 1; funext d2 e3
    cases d1.side with
    | none => cases d2.side <;> rfl
    | some p => cases d2.side <;> rfl
  | _ :: _ :: _ :: _ => rfl
def sumH (ds : List D) (h : HB (R → Prop)) : Prop := pSum [.lst ds] h.b
theorem x_sum {ds Q} : pSum [.lst ds] Q = sumH ds (HB.mk Q ()) := rfl
theorem sum_ok {ds : List D} {ns : List Int} {Q : R → Prop} (h : ds = ns.map D.int) (q : Q (.d (.int ns.sum))) : sumH ds (HB.mk Q ()) := by
  subst h
  show pSum _ _
  unfold pSum
  simp only [intL_map]
  exact q
theorem a_count {l c Q} : pCount (.str l) [.str [c]] Q = Q (.d (.int (l.count c : Nat))) := rfl
def augC (c : C) (h : HB (Nat × PTE × PX × PEn × En)) : Prop := match c with
  | .d (.int a) => h.b.2.1 h.b.2.2.1 h.b.2.2.2.2 fun r e1 => match rv r e1 with
    | some (.int b) => h.b.1 < e1.sl.length ∧ h.b.2.2.2.1.nx (e1.setC h.b.1 (.d (.int (a + b))))
    | _ => False
  | _ => False
theorem augC_i {i te x P e a} : augC (.d (.int a)) (HB.mk (i, te, x, P, e) ()) = te x e fun r e1 => opt (rv r e1) <| HB.mk (fun d => iC d <| HB.mk (fun b => i < e1.sl.length ∧ P.nx (e1.setC i (.d (.int (a + b))))) ()) () := by
  show te x e _ = te x e _
  congr 1; funext r e1
  unfold opt iC
  cases rv r e1 with
  | none => rfl
  | some d => cases d <;> rfl
theorem x_aug {i te x P e} : sAug i te x P e = (opt e.sl[i]? <| HB.mk (fun c => augC c (HB.mk (i, te, x, P, e) ())) ()) := by
  unfold sAug opt augC
  cases e.sl[i]? with
  | none => rfl
  | some c =>
    cases c with
    | d d => cases d <;> rfl
    | _ => rfl
end Pu
set_option maxRecDepth 100000
set_option maxHeartbeats 4000000
namespace Pu
open PySem L2
def twoD (ds : List D) (h : HB (D → D → Prop)) : Prop := match ds with
  | [d1, d2] => h.b d1 d2
  | _ => False
theorem twoD_2 {d1 d2 f} : twoD [d1, d2] (HB.mk f ()) = f d1 d2 := rfl
theorem x_par {i j t x P e} : sPar i j t x P e = t x e fun ds e1 => twoD ds <| HB.mk (fun d1 d2 => i < e1.sl.length ∧ j < e1.sl.length ∧ P.nx ((e1.setC i (.d d1)).setC j (.d d2))) () := by
  unfold sPar twoD
  rfl
theorem x_raise {c n t x D e} : sRaise c n t x D e = t x e fun ds e1 => ds.length = n ∧ x ⟨c, ds⟩ e1.st := rfl
theorem x_callX {m t x e Q} : tCallX m t x e Q = t x e fun ds e1 => m ds e1.st (fun c st' => Q c.toR ⟨e1.sl, st'⟩) x := rfl
/-- what the clause does with an exception -/
def trH (n i : Nat) (fl : Nat → List Str) (cb : Nat → Bool) (h : HB (PTS × PEn)) : PX := fun ex st => cb ex.c = true ∧ h.b.1 noX { nx := fun e' => h.b.2.nx (wipeE [i] e'), rt := h.b.2.rt, bk := fun e' => h.b.2.bk (wipeE [i] e'), ct := fun e' => h.b.2.ct (wipeE [i] e') } ⟨(List.replicate n C.un).set i (.d (.exc ex.c (fl ex.c) ex.ds)), st⟩
def noOwn (l : List C) : Prop := (l.all fun c => !c.isOwn) = true
theorem ow_nil : noOwn [] = True := by simp [noOwn]
theorem ow_un {l} : noOwn (.un :: l) = noOwn l := by simp [noOwn, C.isOwn]
theorem ow_d {d l} : noOwn (.d d :: l) = noOwn l := by simp [noOwn, C.isOwn]
theorem x_try {n i fl cb tb ts x D e} : sTry n i fl cb tb ts x D e = (noOwn e.sl ∧ i < n ∧ tb (trH n i fl cb (HB.mk (ts, D) ())) D e) := rfl
theorem x_subA {to ti dv x e Q} : subA to ti dv x e Q = to x e fun ro e3 => hold ro e3 fun ro e3 => ti x e3 fun ri e4 => opt (rv ri e4) <| HB.mk (fun d => iC d <| HB.mk (fun i => setAt ro dv i e4 Q) ()) () := by
  unfold subA opt iC
  congr 1; funext ro e3; congr 1; funext ro e3; congr 1; funext ri e4
  cases rv ri e4 with
  | none => rfl
  | some d => cases d <;> rfl
theorem x_setN {k dv i e Q} : setAt (.nam k) dv i e Q = (opt (mget (.nam k) e) <| HB.mk (fun ds => opt (ixN ds.length i) <| HB.mk (fun j => Q (mset (.nam k) e (ds.set j dv))) ()) ()) := by
  unfold opt
  show (match mget (.nam k) e with | some ds => (match ixN ds.length i with | some j => Q (mset (.nam k) e (ds.set j dv)) | none => False) | none => False) = _
  cases mget (.nam k) e with
  | none => rfl
  | some ds =>
    simp only
    cases ixN ds.length i <;> rfl
def D.two : D → Option (D × D)
  | .tup [a, b] => some (a, b)
  | _ => none
theorem a_two {a b : D} : D.two (.tup [a, b]) = some (a, b) := rfl
theorem x_swIx {te to ti to2 ti2 x P e} : sSwIx te to ti to2 ti2 x P e = te x e fun r0 e1 => fz r0 e1 fun dv e2 => opt dv.two <| HB.mk (fun p => subA to ti p.1 x e2 fun e3 => subA to2 ti2 p.2 x e3 P.nx) () := by
  unfold sSwIx opt
  congr 1; funext r0 e1; congr 1; funext dv e2
  split
  · rfl
  · rename_i h
    cases hd : D.two dv with
    | none => rfl
    | some p =>
      unfold D.two at hd
      split at hd
      · exact absurd rfl (h _ _)
      · cases hd
theorem x_mkX {c ns t x e Q} : tMkX c ns t x e Q = t x e fun ds e1 => ds.length = ns.length ∧ Q (.d (.exc c ns ds)) e1 := rfl
theorem x_mk0 {c x e Q} : tMk0 c x e Q = Q (.d (.exc c [] [])) e := rfl
theorem x_raise0 {c x D e} : sRaise0 c x D e = x ⟨c, []⟩ e.st := rfl
def D.exB (tb : Nat → Option Bool) : D → Option Bool
  | .exc c _ _ => tb c
  | _ => none
theorem a_exB {tb c ns ds} : D.exB tb (.exc c ns ds) = tb c := rfl
theorem a_tbl {bs c} : tbl bs c = bs[c]? := rfl
theorem a_cbl {n c} : cbl n c = decide (c < n) := rfl
theorem x_isX {tb te x e Q} : tIsX tb te x e Q = te x e fun r e1 => opt (rv r e1) <| HB.mk (fun d => opt (d.exB tb) <| HB.mk (fun b => Q (.d (.bl b)) e1) ()) () := by
  unfold tIsX opt
  congr 1; funext r e1
  cases rv r e1 with
  | none => rfl
  | some d =>
    cases d with
    | exc c ns ds =>
      simp only [D.exB]
      cases tb c <;> rfl
    | _ => rfl
def D.exA (n : Str) (cb : Nat → Bool) : D → Option D
  | .exc c ns ds => if cb c = true then xlk n ns ds else none
  | _ => none
theorem x_xattr {n cb te x e Q} : tXA n cb te x e Q = te x e fun r e1 => opt (rv r e1) <| HB.mk (fun d => opt (d.exA n cb) <| HB.mk (fun y => Q (.d y) e1) ()) () := by
  unfold tXA opt
  congr 1; funext r e1
  cases rv r e1 with
  | none => rfl
  | some d =>
    cases d with
    | exc c ns ds =>
      simp only [D.exA]
      cases cb c with
      | false => exact propext ⟨fun h => absurd h.1 Bool.false_ne_true, fun h => h.elim⟩
      | true =>
        simp only [true_and, if_true]
        cases xlk n ns ds <;> rfl
    | _ => rfl
end Pu
set_option maxRecDepth 100000
set_option maxHeartbeats 4000000
namespace Pu
open PySem L2 PySem.Spec PyProof.Rows PuE
theorem x_dictT0 {x e Q} : tDictT0 x e Q = Q (.dT []) e := rfl
theorem x_aT {i d e Q} : asgR i (.dT d) e Q = Q (e.setC i (.dT d)) := rfl
theorem toR_T {d} : C.toR (.dT d) = .dT d := rfl
theorem toR_K {d} : C.toR (.dK d) = .dK d := rfl
theorem retC_dT {D d e} : retC (.dT d) (HB.mk (D, e) ()) = D.rt (.dT d) e := rfl
theorem retC_dK {D d e} : retC (.dK d) (HB.mk (D, e) ()) = D.rt (.dK d) e := rfl
theorem x_retT {D d e} : retR D (.dT d) e = D.rt (.dT d) e := rfl
theorem x_retK {D d e} : retR D (.dK d) e = D.rt (.dK d) e := rfl
def tgC : Option C → Option (List (List Key × D))
  | some (.dT ds) => some ds
  | _ => none
theorem tgC_dT {ds} : tgC (some (.dT ds)) = some ds := rfl
theorem x_tgg {i e} : tget (.nam i) e = tgC e.sl[i]? := by
  show (match e.sl[i]? with | some (.dT ds) => some ds | _ => none) = _
  unfold tgC
  cases e.sl[i]? with
  | none => rfl
  | some c => cases c <;> rfl
theorem x_tgRn {i e} : tgetR (.nam i) e = tget (.nam i) e := rfl
theorem x_tgRf {ks ds e} : tgetR (.d (.dct ks ds)) e = some (ks.zip ds) := rfl
theorem x_tss {i e ds} : tset (.nam i) e ds = e.setC i (.dT ds) := rfl
theorem tupK_t {ds} : tupK (.tup ds) = keyL ds := rfl
def consK : Option Key → Option (List Key) → Option (List Key)
  | some k, some ks => some (k :: ks)
  | _, _ => none
theorem consK_s {k ks} : consK (some k) (some ks) = some (k :: ks) := rfl
theorem keyL_n : keyL [] = some [] := rfl
theorem keyL_c {d ds} : keyL (d :: ds) = consK (keyD d) (keyL ds) := by
  rw [keyL]
  cases keyD d with
  | none => rfl
  | some k => simp only; cases keyL ds <;> rfl
theorem x_dgT {to ti x e Q} : tDGT to ti x e Q = to x e fun r e1 => hold r e1 fun r e1 => ti x e1 fun ri e2 => opt (tgetR r e2) <| HB.mk (fun kvs => opt (rv ri e2) <| HB.mk (fun kd => opt (tupK kd) <| HB.mk (fun k => opt (getA kvs k) <| HB.mk (fun d => Q (.d d) e2) ()) ()) ()) () := by
  unfold tDGT opt
  congr 1; funext r e1; congr 1; funext r e1; congr 1; funext ri e2
  cases tgetR r e2 with
  | none => rfl
  | some kvs =>
    simp only
    cases rv ri e2 with
    | none => rfl
    | some kd =>
      simp only
      cases tupK kd with
      | none => rfl
      | some k => simp only; cases getA kvs k <;> rfl
theorem x_dptT {te to ti x P e} : sDPtT te to ti x P e = te x e fun r0 e1 => fz r0 e1 fun dv e2 => to x e2 fun ro e3 => hold ro e3 fun ro e3 => ti x e3 fun ri e4 => opt (tget ro e4) <| HB.mk (fun kvs => opt (rv ri e4) <| HB.mk (fun kd => opt (tupK kd) <| HB.mk (fun k => kvs.length < sizeLine ∧ P.nx (tset ro e4 (setA kvs k dv))) ()) ()) () := by
  unfold sDPtT opt
  congr 1; funext r e1; congr 1; funext r e1; congr 1; funext ri e2; congr 1; funext ri e2; congr 1; funext ri2 e4
  cases tget ri e4 with
  | none => rfl
  | some kvs =>
    simp only
    cases rv ri2 e4 with
    | none => rfl
    | some kd =>
      simp only
      cases tupK kd <;> rfl
theorem x_callT {p t x e Q} : tCallT p t x e Q = t x e fun rs e1 => oneR rs <| HB.mk (fun r => opt (tgetR r e1) <| HB.mk (fun kvs => p kvs fun r => Q r e1) ()) () := by
  unfold tCallT opt oneR
  congr 1; funext rs e1
  match rs with
  | [] => rfl
  | [r] => simp only; cases tgetR r e1 <;> rfl
  | _ :: _ :: _ => rfl
theorem a_lenTT {kvs Q} : pLenT kvs Q = Q (.d (.int kvs.length)) := rfl
theorem a_listT {kvs Q} : pListT kvs Q = (kvs.length ≤ sizeLine ∧ (∀ kv ∈ kvs, kv.1.length ≤ sizeLine ∧ kv.1.all isIK = true) ∧ Q (.own (kvs.map fun kv => .tup (kv.1.map invK)))) := rfl
theorem a_dictT {ds Q} : pDictT [.lst ds] Q = (opt (pairsT ds) <| HB.mk (fun kvs => Q (.dT (mergeA [] kvs))) ()) := by
  unfold pDictT opt
  simp only
  cases pairsT ds <;> rfl
theorem a_dictK {ds Q} : pDictK [.lst ds] Q = (opt (pairsK ds) <| HB.mk (fun kvs => Q (.dK (mergeA [] kvs))) ()) := by
  unfold pDictK opt
  simp only
  cases pairsK ds <;> rfl
theorem x_chn {g g' ta tb tc x e Q} : tChn g g' ta tb tc x e Q = ta x e fun r0 e1 => opt (rv r0 e1) <| HB.mk (fun d => iC d <| HB.mk (fun i => tb x e1 fun r1 e2 => opt (rv r1 e2) <| HB.mk (fun d => iC d <| HB.mk (fun j => br (g i j) (HB.mk ((tc x e2 fun r2 e3 => opt (rv r2 e3) <| HB.mk (fun d => iC d <| HB.mk (fun k => Q (.d (.bl (g' j k))) e3) ()) ()), (Q (.d (.bl false)) e2)) ())) ()) ()) ()) () := by
  unfold tChn opt iC br
  congr 1; funext r0 e1
  cases rv r0 e1 with
  | none => rfl
  | some d =>
    cases d with
    | int i =>
      simp only
      congr 1; funext r1 e2
      cases rv r1 e2 with
      | none => rfl
      | some d =>
        cases d with
        | int j =>
          simp only
          congr 1
          congr 1; funext r2 e3
          cases rv r2 e3 with
          | none => rfl
          | some d => cases d <;> rfl
        | _ => rfl
    | _ => rfl
theorem a_mmT {f : Int → List Int → Int} {i j : Int} {Q} : pMMI f [.tup [.int i, .int j]] Q = Q (.d (.int (f i [j]))) := rfl
theorem fold1 {f : Int → Int → Int} {i j : Int} : [j].foldl f i = f i j := rfl
def sortNH (d : D) (h : HB (R → Prop)) : Prop := pSortN [d] h.b
theorem x_sortN {d Q} : pSortN [d] Q = sortNH d (HB.mk Q ()) := rfl
theorem ltN_total {a b : List Itm} (h1 : ltN a b = false) (h2 : ltN b a = false) : a = b := (listOrd itemOrd).total a b h1 h2
theorem ltN_unique : ∀ {a b : List (List Itm)}, a.Pairwise (fun x y => ltN y x = false) → b.Pairwise (fun x y => ltN y x = false) → a.Perm b → a = b
  | [], b, _, _, p => by rw [List.perm_nil.mp p.symm]
  | x :: r, b, ha, hb, p => by
    rw [List.pairwise_cons] at ha
    cases b with
    | nil => exact absurd p.length_eq (by simp)
    | cons y t =>
      rw [List.pairwise_cons] at hb
      have e : x = y := by
        have hx : x ∈ y :: t := p.mem_iff.mp (by simp)
        have hy : y ∈ x :: r := p.mem_iff.mpr (by simp)
        rcases List.mem_cons.mp hx with e | e
        · exact e
        · rcases List.mem_cons.mp hy with e' | e'
          · exact e'.symm
          · exact ltN_total (hb.1 x e) (ha.1 y e')
      subst e
      rw [ltN_unique ha.2 hb.2 ((List.perm_cons _).mp p)]
def nT (l : List Nat) : List Itm := l.map fun n : Nat => (Sum.inl (n : Int) : Itm)
end Pu
set_option maxRecDepth 100000
set_option maxHeartbeats 4000000
namespace Pu
open PySem L2
theorem a_lenSS {ds Q} : pLenS (.lst ds) Q = (opt (strL ds) <| HB.mk (fun ls => ls.length < 64 ∧ Q (.d (.int (unlT ls)))) ()) := by
  unfold opt
  show (match strL ds with | some ls => _ | none => False) = _
  cases strL ds <;> rfl
theorem a_ltT {xs ys Q} : pLtT (.tup xs) (.tup ys) Q = (opt (intL xs) <| HB.mk (fun ns => opt (intL ys) <| HB.mk (fun ms => Q (.d (.bl (HT.lexLt ns ms)))) ()) ()) := by
  unfold opt
  show (match intL xs, intL ys with | some ns, some ms => _ | _, _ => False) = _
  cases intL xs with
  | none => rfl
  | some ns => cases intL ys <;> rfl
theorem intL_n : intL [] = some [] := rfl
def consI (i : Int) : Option (List Int) → Option (List Int)
  | some l => some (i :: l)
  | none => none
theorem consI_s {i l} : consI i (some l) = some (i :: l) := rfl
theorem intL_c {i ds} : intL (.int i :: ds) = consI i (intL ds) := by
  rw [intL]
  cases intL ds <;> rfl
def consS (i : List Nat) : Option (List (List Nat)) → Option (List (List Nat))
  | some l => some (i :: l)
  | none => none
theorem consS_s {i l} : consS i (some l) = some (i :: l) := rfl
theorem strL_n : strL [] = some [] := rfl
theorem strL_c {i ds} : strL (.str i :: ds) = consS i (strL ds) := by
  rw [strL]
  cases strL ds <;> rfl
theorem x_chn3 {g1 g2 g3 ta tb tc td x e Q} : tChn3 g1 g2 g3 ta tb tc td x e Q = ta x e fun r0 e1 => opt (rv r0 e1) <| HB.mk (fun d => iC d <| HB.mk (fun i => tb x e1 fun r1 e2 => opt (rv r1 e2) <| HB.mk (fun d => iC d <| HB.mk (fun j => br (g1 i j) (HB.mk ((tc x e2 fun r2 e3 => opt (rv r2 e3) <| HB.mk (fun d => iC d <| HB.mk (fun k => br (g2 j k) (HB.mk ((td x e3 fun r3 e4 => opt (rv r3 e4) <| HB.mk (fun d => iC d <| HB.mk (fun l => Q (.d (.bl (g3 k l))) e4) ()) ()), (Q (.d (.bl false)) e3)) ())) ()) ()), (Q (.d (.bl false)) e2)) ())) ()) ()) ()) () := by
  unfold tChn3 opt iC br
  congr 1; funext r0 e1
  cases rv r0 e1 with
  | none => rfl
  | some d =>
    cases d with
    | int i =>
      simp only
      congr 1; funext r1 e2
      cases rv r1 e2 with
      | none => rfl
      | some d =>
        cases d with
        | int j =>
          simp only
          congr 1
          congr 1; funext r2 e3
          cases rv r2 e3 with
          | none => rfl
          | some d =>
            cases d with
            | int k =>
              simp only
              congr 1
              congr 1; funext r3 e4
              cases rv r3 e4 with
              | none => rfl
              | some d => cases d <;> rfl
            | _ => rfl
        | _ => rfl
    | _ => rfl
end Pu
set_option maxRecDepth 100000
set_option maxHeartbeats 4000000
namespace Pu
open PySem L2
end Pu
set_option maxRecDepth 100000
set_option maxHeartbeats 4000000
namespace Pu
open PySem L2
theorem a_dictN {ds Q} : pDictN [.lst ds] Q = (opt (pairsN ds) <| HB.mk (fun kvs => (kvs.map (·.1)).Nodup ∧ (∀ p ∈ kvs, p.1.depth ≤ 8 ∧ ∃ ds, p.2.1 = .tup ds) ∧ Q (.d (.dcn (kvs.map (·.2.1)) (kvs.map (·.2.2))))) ()) := by
  unfold pDictN opt
  simp only
  cases pairsN ds <;> rfl
theorem a_gN {ks is kd Q} : pGN (.dcn ks is) kd Q = (opt (getN ks is kd) <| HB.mk (fun i => Q (.d (.int i))) ()) := by
  unfold opt
  show (match getN ks is kd with | some i => Q (.d (.int i)) | none => False) = _
  cases getN ks is kd <;> rfl
theorem x_gls {n t ds e Q} : gLs n t (.lst ds) e Q = (ds.length = n ∧ t ds e Q) := rfl
def tC (d : D) (h : HB (List D → Prop)) : Prop := match d with
  | .tup s => h.b s
  | _ => False
theorem tC_s {b f} : tC (.tup b) (HB.mk f ()) = f b := rfl
theorem x_revT {t x e Q} : iRevT t x e Q = t x e fun r e1 => fz r e1 fun d e2 => tC d <| HB.mk (fun s => Q s.reverse e2) () := by
  unfold iRevT tC
  congr 1
end Pu
set_option maxRecDepth 100000
set_option maxHeartbeats 4000000
namespace Pu
open PySem L2
theorem x_chS {g g' ta tb tc x e Q} : tChS g g' ta tb tc x e Q = ta x e fun r0 e1 => opt (rv r0 e1) <| HB.mk (fun d => sC d <| HB.mk (fun i => tb x e1 fun r1 e2 => opt (rv r1 e2) <| HB.mk (fun d => sC d <| HB.mk (fun j => br (g i j) (HB.mk ((tc x e2 fun r2 e3 => opt (rv r2 e3) <| HB.mk (fun d => sC d <| HB.mk (fun k => Q (.d (.bl (g' j k))) e3) ()) ()), (Q (.d (.bl false)) e2)) ())) ()) ()) ()) () := by
  unfold tChS opt sC br
  congr 1; funext r0 e1
  cases rv r0 e1 with
  | none => rfl
  | some d =>
    cases d with
    | str i =>
      simp only
      congr 1; funext r1 e2
      cases rv r1 e2 with
      | none => rfl
      | some d =>
        cases d with
        | str j =>
          simp only
          congr 1
          congr 1; funext r2 e3
          cases rv r2 e3 with
          | none => rfl
          | some d => cases d <;> rfl
        | _ => rfl
    | _ => rfl
end Pu
set_option maxRecDepth 100000
set_option maxHeartbeats 4000000
namespace Pu
open PySem L2 PuE
def ltNH (d e : D) (h : HB (R → Prop)) : Prop := pLtN d e h.b
theorem x_ltN {d e Q} : pLtN d e Q = ltNH d e (HB.mk Q ()) := rfl
/-- what the clause without a name does with an exception -/
def trH0 (n : Nat) (cb : Nat → Bool) (h : HB (PTS × PEn)) : PX := fun ex st => cb ex.c = true ∧ h.b.1 noX h.b.2 ⟨List.replicate n C.un, st⟩
theorem x_try0 {n cb tb ts x D e} : sTry0 n cb tb ts x D e = (noOwn e.sl ∧ tb (trH0 n cb (HB.mk (ts, D) ())) D e) := rfl
end Pu
set_option maxRecDepth 100000
set_option maxHeartbeats 4000000
namespace Pu
open PySem L2
section
variable {Γ Γ' : Gm} {κ κ' : Ka} {H H' : Hp} {env env' : En} {σ : Sl} {v : V} {st : Sto} {Y : Fam} {e o value : Expr} {te tv : PTE} {pos pos' : Pos}
/-- an attribute of an object of the class c -/
def getF (c : Nat) (f : Str) (st : Sto) : D → Option D
  | .ref k => match st[k]? with
    | some (.ins c' fs) => if c' = c then fs.lookup f else none
    | _ => none
  | _ => none
def tFldP (c : Nat) (f : Str) (te : PTE) : PTE := fun x e Q => te x e fun r e1 => match rv r e1 with
  | some d => match getF c f e1.st d with
    | some y => Q (.d y) e1
    | none => False
  | none => False
/-- what is kept in an object: data, or a new list or dict as an object of its own -/
def kp : R → En → (D → En → Prop) → Prop
  | .d d, e, Q => Q d e
  | .own ds, e, Q => Q (.ref e.st.length) ⟨e.sl, e.st ++ [.lst ds]⟩
  | .dK kvs, e, Q => Q (.ref e.st.length) ⟨e.sl, e.st ++ [.dK kvs]⟩
  | .dT kvs, e, Q => Q (.ref e.st.length) ⟨e.sl, e.st ++ [.dT kvs]⟩
  | .nam i, e, Q => match e.sl[i]? with
    | some (.d d) => Q d e
    | _ => False
def setFD (f : Str) (d : D) : List (Str × D) → List (Str × D)
  | [] => [(f, d)]
  | (g, x) :: r => if g = f then (g, d) :: r else (g, x) :: setFD f d r
def putFS (c : Nat) (f : Str) (d : D) (ro : D) (e : En) (N : En → Prop) : Prop := match ro with
  | .ref k => match e.st[k]? with
    | some (.ins c' fs) => c' = c ∧ fs.length < 1000 ∧ N ⟨e.sl, e.st.set k (.ins c (setFD f d fs))⟩
    | _ => False
  | _ => False
def sFldP (c : Nat) (f : Str) (te tv : PTE) : PTS := fun x P e => tv x e fun r0 e1 => kp r0 e1 fun d e2 => te x e2 fun ro e3 => match rv ro e3 with
  | some o => putFS c f d o e3 P.nx
  | none => False
end
end Pu
set_option maxRecDepth 100000
set_option maxHeartbeats 4000000
namespace Pu
open PySem L2 PySem.Spec PyProof.Rows
section
variable {Γ Γ' : Gm} {κ κ' : Ka} {H H' : Hp} {env env' : En} {σ : Sl} {v : V} {st : Sto} {Y : Fam} {e o value : Expr} {es : List Expr} {to : PTE} {t : PTA} {pos apos p : Pos}
/-- an object of the class c that has no attribute of the name -/
def noF (c : Nat) (f : Str) (st : Sto) (d : D) : Prop := match d with
  | .ref k => match st[k]? with
    | some (.ins c' fs) => c' = c ∧ fs.lookup f = none
    | _ => False
  | _ => False
def tMethP (c : Nat) (nm : Str) (m : PM) (to : PTE) (t : PTA) : PTE := fun x e Q => to x e fun ro e1 => match rv ro e1 with
  | some d => noF c nm e1.st d ∧ t x e1 fun ds e2 => m (d :: ds) e2.st fun c st' => Q c.toR ⟨e2.sl, st'⟩
  | none => False
def tMakeP (c : Nat) (m : PM) (t : PTA) : PTE := fun x e Q => t x e fun ds e1 => m (.ref e1.st.length :: ds) (e1.st ++ [.ins c []]) fun r st' => r = .d .non ∧ Q (.d (.ref e1.st.length)) ⟨e1.sl, st'⟩
end
end Pu
set_option maxRecDepth 100000
set_option maxHeartbeats 4000000
namespace Pu
open PySem L2 PySem.Spec PyProof.Rows
section
variable {Γ Γ' : Gm} {κ κ' : Ka} {H H' : Hp} {env env' : En} {σ : Sl} {v : V} {st : Sto} {Y : Fam} {a b e o value : Expr} {te tv ta tb : PTE} {pos pos' : Pos}
def sFldZ (c : Nat) (f : Str) (te tv : PTE) : PTS := fun x P e => tv x e fun r0 e1 => fz r0 e1 fun d e2 => te x e2 fun ro e3 => match rv ro e3 with
  | some o => putFS c f d o e3 P.nx
  | none => False
/-- what a value reads as: a list of the store as its things -/
def rdO (st : Sto) : D → D
  | .ref k => match st[k]? with
    | some (.lst ds) => .lst ds
    | _ => .ref k
  | d => d
def t2O (ta tb : PTE) (p : D → D → (R → Prop) → Prop) : PTE := fun x env Q => ta x env fun r1 e1 => hold r1 e1 fun r1 e1 => tb x e1 fun r2 e2 =>
  match rv r1 e2, rv r2 e2 with
  | some d1, some d2 => p (rdO e2.st d1) (rdO e2.st d2) (fun r => Q r e2)
  | _, _ => False
end
end Pu
set_option maxRecDepth 100000
set_option maxHeartbeats 4000000
namespace PuE
open PySem PySem.Spec PyProof.Rows L2
end PuE
namespace Pu
open PySem L2 PuE
section
variable {Γ Γ' : Gm} {κ κ' : Ka} {H H' : Hp} {env env' : En} {σ : Sl} {v : V} {st : Sto} {Y : Fam} {a b c d e : Expr} {es : List Expr} {ta tb tc td te : PTE} {pos : Pos}
def pGtN (d e : D) (Q : R → Prop) : Prop := match d, e with
  | .tup xs, .tup ys => match itsD xs, itsD ys with
    | some l, some m => l.map isS = m.map isS ∧ Q (.d (.bl (ltN m l)))
    | _, _ => False
  | _, _ => False
end
end Pu
set_option maxRecDepth 100000
set_option maxHeartbeats 4000000
namespace PuE
open PySem PySem.Spec PyProof.Rows L2
/-- the first place of a pair -/
def ixPr (k : Int × Int) (ps : List (Int × Int)) : Nat := @List.idxOf _ instBEqOfDecidableEq k ps
end PuE
namespace Pu
open PySem L2 PuE
section
variable {Γ Γ' : Gm} {κ κ' : Ka} {H H' : Hp} {env env' : En} {σ : Sl} {v : V} {st : Sto} {Y : Fam} {a b e o : Expr} {es : List Expr} {ta tb te to : PTE} {pos : Pos}
def prI : D → Option (Int × Int)
  | .tup [.int a, .int b] => some (a, b)
  | _ => none
def prsI : List D → Option (List (Int × Int))
  | [] => some []
  | d :: ds => (prI d).bind fun p => (prsI ds).map fun ps => p :: ps
def pIndexT (d : D) (ds : List D) (Q : R → Prop) : Prop := match d, ds with
  | .tup l, [y] => match prsI l, prI y with
    | some ps, some k => k ∈ ps ∧ Q (.d (.int (ixPr k ps : Nat)))
    | _, _ => False
  | _, _ => False
def tMethT (p : D → List D → (R → Prop) → Prop) (to : PTE) (t : PTR) : PTE := fun x e Q => to x e fun r e1 => hold r e1 fun r e1 => (match rv r e1 with
  | some (.tup ds) => ordL ds = true
  | _ => False) ∧ t x e1 fun rs e2 => match rv r e2, rvL rs e2 with
    | some d, some ds => p d ds (fun r => Q r e2)
    | _, _ => False
end
end Pu
set_option maxRecDepth 100000
set_option maxHeartbeats 4000000
namespace PuE
open PySem PySem.Spec PyProof.Rows L2
end PuE
namespace Pu
open PySem L2 PuE
section
variable {Γ Γ' : Gm} {κ κ' : Ka} {H H' : Hp} {env env' : En} {σ : Sl} {v : V} {st : Sto} {Y : Fam} {a b c d e o : Expr} {es : List Expr} {ta tb tc td te to : PTE} {pos : Pos}
def pSplit (d : D) (ds : List D) (Q : R → Prop) : Prop := match d, ds with
  | .str l, [.str s] => s ≠ [] ∧ s.all (· < 256) = true ∧ l.length + 2 ≤ 16777216 ∧ Q (.own ((TL.spl s 0 [] l).map D.str))
  | _, _ => False
def pStrI : List D → (R → Prop) → Prop
  | [.int i], Q => 0 ≤ i ∧ i < 2 ^ 64 ∧ Q (.d (.str (TL.numL i.toNat)))
  | _, _ => False
def pIntS : List D → (R → Prop) → Prop
  | [.str a], Q => a.all (fun c => decide (48 ≤ c) && decide (c ≤ 57)) = true ∧ a ≠ [] ∧ a.length ≤ 640 ∧ Q (.d (.int (NumText.digitsVal a : Nat)))
  | _, _ => False
def f3I (d : D) (h : HB (Int → Prop)) : Prop := match d with
  | .int i => 0 ≤ i ∧ i < 2 ^ 64 ∧ h.b i
  | _ => False
def tFs3P (ta : PTE) (s : List Nat) (tb : PTE) : PTE := fun x e Q => ta x e fun r e1 => fz r e1 fun d1 e2 => f3I d1 (HB.mk (fun i => tb x e2 fun r2 e3 => fz r2 e3 fun d2 e4 => f3I d2 (HB.mk (fun j => Q (.d (.str (TL.numL i.toNat ++ s ++ TL.numL j.toNat))) e4) ())) ())
end
end Pu
set_option maxRecDepth 100000
set_option maxHeartbeats 4000000
namespace PuE
open PySem PySem.Spec PyProof.Rows L2 PySem.W
def Izs (K : PySem.W.Frag) (a : Str) (tb : Bool) (b : Addr) : It :=
  ⟨fun i H => ∃ (c : Nat) (ys : List V) (y : V), SqB K H tb b ys ∧ a.cps[i]? = some c ∧ ys[i]? = some y,
    fun i H v H' => ∃ T c y, v = .ref T ∧ H T = none ∧ H' = upd H T (.tup [.str ⟨#[c]⟩, y]) ∧ a.cps[i]? = some c ∧ ∀ ys, SqB K H tb b ys → ys[i]? = some y,
    fun i H => ∃ ys : List V, SqB K H tb b ys ∧ i ≤ a.cps.size ∧ i ≤ ys.length ∧ (i = a.cps.size ∨ i = ys.length)⟩
def iZipS (K : PySem.W.Frag) (ta : TA) : TI := fun σ H R => ta σ H fun vs H1 => ∃ a b t2 ys, vs = [.str a, .ref b] ∧ SqB K H1 t2 b ys ∧ R (Izs K a t2 b) H1
end PuE
namespace Pu
open PySem L2 PySem.Spec PyProof.Rows
section
variable {Γ Γ' : Gm} {κ κ' : Ka} {H H' : Hp} {env env' : En} {σ : Sl} {v : V} {st : Sto} {Y : Fam} {a b e o : Expr} {es : List Expr} {ta tb te to ti : PTE} {pos : Pos}
def iZipS (t : PTR) : PTI := fun x e Q => t x e fun rs e1 => match rs with
  | [r1, r2] => fz r1 e1 fun d1 e2 => fz r2 e2 fun d2 e3 => match d1, d2.side with
    | .str l, some (_, es) => Q (zipF (signs l) es) e3
    | _, _ => False
  | _ => False
end
end Pu
set_option maxRecDepth 100000
set_option maxHeartbeats 4000000
namespace Pu
open PySem L2 PySem.Spec PyProof.Rows
section
variable {Γ Γ' : Gm} {κ κ' : Ka} {H H' : Hp} {env env' : En} {σ : Sl} {v : V} {st : Sto} {Y : Fam} {a b e o : Expr} {es : List Expr} {ta tb te to ti : PTE} {pos : Pos}
def sParO (i j : Nat) (ta tb : PTE) : PTS := fun x D e => ta x e fun r1 e1 => fz r1 e1 fun d1 e2 => tb x e2 fun r2 e3 => i < e3.sl.length ∧ j < e3.sl.length ∧ asgR j r2 e3 fun e4 => D.nx (e4.setC i (.d d1))
end
end Pu
set_option maxRecDepth 100000
set_option maxHeartbeats 4000000
namespace Pu
open PySem L2 PuE
def kF (r : R) (e : En) (h : HB (Nat × Str × (R → En → Prop))) : Prop := opt (rv r e) (HB.mk (fun d => opt (getF h.b.1 h.b.2.1 e.st d) (HB.mk (fun y => h.b.2.2 (.d y) e) ())) ())
theorem x_fld {c f te x e Q} : tFldP c f te x e Q = te x e fun r e1 => kF r e1 (HB.mk (c, f, Q) ()) := by
  unfold tFldP kF opt
  congr 1; funext r e1
  cases rv r e1 with
  | none => rfl
  | some d =>
    simp only
    cases getF c f e1.st d <;> rfl
theorem x_kF {r e c f Q} : kF r e (HB.mk (c, f, Q) ()) = opt (rv r e) (HB.mk (fun d => opt (getF c f e.st d) (HB.mk (fun y => Q (.d y) e) ())) ()) := rfl
def putH (d : D) (o : D) (e : En) (h : HB (Nat × Str × (En → Prop))) : Prop := putFS h.b.1 h.b.2.1 d o e h.b.2.2
def kSF (d : D) (ro : R) (e : En) (h : HB (Nat × Str × (En → Prop))) : Prop := opt (rv ro e) (HB.mk (fun o => putH d o e h) ())
theorem x_kSF {d ro e h} : kSF d ro e h = opt (rv ro e) (HB.mk (fun o => putH d o e h) ()) := rfl
theorem x_sfldZ {c f te tv x P e} : sFldZ c f te tv x P e = tv x e fun r0 e1 => fz r0 e1 fun d e2 => te x e2 fun ro e3 => kSF d ro e3 (HB.mk (c, f, P.nx) ()) := by
  unfold sFldZ kSF opt putH
  congr 1; funext r0 e1; congr 1; funext d e2; congr 1; funext ro e3
  cases rv ro e3 <;> rfl
theorem x_sfldP {c f te tv x P e} : sFldP c f te tv x P e = tv x e fun r0 e1 => kp r0 e1 fun d e2 => te x e2 fun ro e3 => kSF d ro e3 (HB.mk (c, f, P.nx) ()) := by
  unfold sFldP kSF opt putH
  congr 1; funext r0 e1; congr 1; funext d e2; congr 1; funext ro e3
  cases rv ro e3 <;> rfl
theorem x_kpd {d e Q} : kp (.d d) e Q = Q d e := rfl
theorem x_kpo {ds e Q} : kp (.own ds) e Q = Q (.ref e.st.length) ⟨e.sl, e.st ++ [.lst ds]⟩ := rfl
theorem x_kpK {ds e Q} : kp (.dK ds) e Q = Q (.ref e.st.length) ⟨e.sl, e.st ++ [.dK ds]⟩ := rfl
theorem x_kpT {ds e Q} : kp (.dT ds) e Q = Q (.ref e.st.length) ⟨e.sl, e.st ++ [.dT ds]⟩ := rfl
def kpC (c : C) (h : HB (En × (D → En → Prop))) : Prop := match c with
  | .d d => h.b.2 d h.b.1
  | _ => False
theorem x_kpC {d e Q} : kpC (.d d) (HB.mk (e, Q) ()) = Q d e := rfl
theorem x_kpn {i e Q} : kp (.nam i) e Q = opt e.sl[i]? (HB.mk (fun c => kpC c (HB.mk (e, Q) ())) ()) := by
  show (match e.sl[i]? with | some (.d d) => Q d e | _ => False) = _
  unfold opt
  cases e.sl[i]? with
  | none => rfl
  | some c => cases c <;> rfl
def k2cO (o1 o2 : Option D) (e : En) (h : HB ((D → D → (R → Prop) → Prop) × (R → En → Prop))) : Prop := match o1, o2 with
  | some a, some b => h.b.1 (rdO e.st a) (rdO e.st b) fun r => h.b.2 r e
  | _, _ => False
def k2bO (r1 r2 : R) (e : En) (h : HB ((D → D → (R → Prop) → Prop) × (R → En → Prop))) : Prop := k2cO (rv r1 e) (rv r2 e) e h
def k2aO (r : R) (e : En) (h : HB (PTE × PX × (D → D → (R → Prop) → Prop) × (R → En → Prop))) : Prop := hold r e fun r e => h.b.1 h.b.2.1 e fun r2 e2 => k2bO r r2 e2 (HB.mk h.b.2.2 ())
theorem x_2O {ta tb p x e Q} : t2O ta tb p x e Q = ta x e fun r1 e1 => k2aO r1 e1 (HB.mk (tb, x, p, Q) ()) := by
  unfold t2O k2aO k2bO k2cO
  rfl
theorem x_k2adO {d tb p x e Q} : k2aO (.d d) e (HB.mk (tb, x, p, Q) ()) = tb x e fun r2 e2 => k2bO (.d d) r2 e2 (HB.mk (p, Q) ()) := rfl
theorem x_k2aoO {d tb p x e Q} : k2aO (.own d) e (HB.mk (tb, x, p, Q) ()) = tb x e fun r2 e2 => k2bO (.d (.lst d)) r2 e2 (HB.mk (p, Q) ()) := rfl
theorem x_k2anO {i tb p x e Q} : k2aO (.nam i) e (HB.mk (tb, x, p, Q) ()) = tb x e fun r2 e2 => k2bO (.nam i) r2 e2 (HB.mk (p, Q) ()) := rfl
theorem x_k2bO {r1 r2 e h} : k2bO r1 r2 e h = k2cO (rv r1 e) (rv r2 e) e h := rfl
theorem x_k2cO {a b e p Q} : k2cO (some a) (some b) e (HB.mk (p, Q) ()) = p (rdO e.st a) (rdO e.st b) fun r => Q r e := rfl
def kIM (ro : R) (e : En) (h : HB (Nat × Str × PTA × PX × PM × (R → En → Prop))) : Prop := opt (rv ro e) (HB.mk (fun d => noF h.b.1 h.b.2.1 e.st d ∧ h.b.2.2.1 h.b.2.2.2.1 e fun ds e2 => kCa (d :: ds) e2 (HB.mk h.b.2.2.2.2 ())) ())
theorem x_im {c nm m to t x e Q} : tMethP c nm m to t x e Q = to x e fun ro e1 => kIM ro e1 (HB.mk (c, nm, t, x, m, Q) ()) := by
  unfold tMethP kIM opt kCa
  congr 1; funext ro e1
  cases rv ro e1 <;> rfl
theorem x_kIM {ro e c nm t x m Q} : kIM ro e (HB.mk (c, nm, t, x, m, Q) ()) = opt (rv ro e) (HB.mk (fun d => noF c nm e.st d ∧ t x e fun ds e2 => kCa (d :: ds) e2 (HB.mk (m, Q) ())) ()) := rfl
def kMk (ds : List D) (e : En) (h : HB (Nat × PM × (R → En → Prop))) : Prop := h.b.2.1 (.ref e.st.length :: ds) (e.st ++ [.ins h.b.1 []]) fun r st' => r = .d .non ∧ h.b.2.2 (.d (.ref e.st.length)) ⟨e.sl, st'⟩
theorem x_make {c m t x e Q} : tMakeP c m t x e Q = t x e fun ds e1 => kMk ds e1 (HB.mk (c, m, Q) ()) := rfl
theorem x_kMk {m : PM} {ds e c Q} : kMk ds e (HB.mk (c, m, Q) ()) = m (.ref e.st.length :: ds) (e.st ++ [.ins c []]) fun r st' => r = .d .non ∧ Q (.d (.ref e.st.length)) ⟨e.sl, st'⟩ := rfl
def gtNH (d e : D) (h : HB (R → Prop)) : Prop := pGtN d e h.b
theorem x_gtN {d e Q} : pGtN d e Q = gtNH d e (HB.mk Q ()) := rfl
def mT1 (o : Option D) (r : R) (e : En) (h : HB (PTR × PX × (D → List D → (R → Prop) → Prop) × (R → En → Prop))) : Prop := match o with
  | some (.tup ds) => ordL ds = true ∧ h.b.1 h.b.2.1 e fun rs e2 => kM2 r rs e2 (HB.mk h.b.2.2 ())
  | _ => False
def kMT (r : R) (e : En) (h : HB (PTR × PX × (D → List D → (R → Prop) → Prop) × (R → En → Prop))) : Prop := hold r e fun r e => mT1 (rv r e) r e h
theorem x_methT {p to t x e Q} : tMethT p to t x e Q = to x e fun r e1 => kMT r e1 (HB.mk (t, x, p, Q) ()) := by
  unfold tMethT kMT mT1 kM2 kM3
  congr 1; funext r e1; congr 1; funext r e1
  cases rv r e1 with
  | none => simp
  | some d =>
    cases d with
    | tup ds => rfl
    | _ => simp
theorem x_kMTd {d : D} {e h} : kMT (.d d) e h = mT1 (some d) (.d d) e h := rfl
theorem x_mT1 {ds r e t x p Q} : mT1 (some (.tup ds)) r e (HB.mk (t, x, p, Q) ()) = (ordL ds = true ∧ t x e fun rs e2 => kM2 r rs e2 (HB.mk (p, Q) ())) := rfl
def prK (o : Option (Int × Int)) (h : HB (List (Int × Int) × (R → Prop))) : Prop := match o with
  | some k => k ∈ h.b.1 ∧ h.b.2 (.d (.int (ixPr k h.b.1 : Nat)))
  | none => False
theorem x_prK {k ps Q} : prK (some k) (HB.mk (ps, Q) ()) = (k ∈ ps ∧ Q (.d (.int (ixPr k ps : Nat)))) := rfl
theorem x_ixT {l y Q} : pIndexT (.tup l) [y] Q = opt (prsI l) (HB.mk (fun ps => prK (prI y) (HB.mk (ps, Q) ())) ()) := by
  unfold pIndexT opt prK
  cases h1 : prsI l with
  | none => simp only [h1]
  | some ps => cases h2 : prI y <;> simp only [h1, h2]
theorem x_prI {a b : Int} : prI (.tup [.int a, .int b]) = some (a, b) := rfl
theorem x_splitA {l s Q} : pSplit (.str l) [.str s] Q = (s ≠ [] ∧ s.all (· < 256) = true ∧ l.length + 2 ≤ 16777216 ∧ Q (.own ((TL.spl s 0 [] l).map D.str))) := rfl
theorem x_strI {i Q} : pStrI [.int i] Q = (0 ≤ i ∧ i < 2 ^ 64 ∧ Q (.d (.str (TL.numL i.toNat)))) := rfl
theorem x_intS {a Q} : pIntS [.str a] Q = (a.all (fun c => decide (48 ≤ c) && decide (c ≤ 57)) = true ∧ a ≠ [] ∧ a.length ≤ 640 ∧ Q (.d (.int (PySem.NumText.digitsVal a : Nat)))) := rfl
theorem x_fs3 {ta s tb x e Q} : tFs3P ta s tb x e Q = ta x e fun r e1 => fz r e1 fun d1 e2 => f3I d1 (HB.mk (fun i => tb x e2 fun r2 e3 => fz r2 e3 fun d2 e4 => f3I d2 (HB.mk (fun j => Q (.d (.str (TL.numL i.toNat ++ s ++ TL.numL j.toNat))) e4) ())) ()) := rfl
theorem x_f3I {i p} : f3I (.int i) (HB.mk p ()) = (0 ≤ i ∧ i < 2 ^ 64 ∧ p i) := rfl
theorem x_zipS {t x e Q} : iZipS t x e Q = t x e fun rs e1 => twoR rs <| HB.mk (fun r1 r2 => fz r1 e1 fun d1 e2 => fz r2 e2 fun d2 e3 => sC d1 <| HB.mk (fun l => sideH d2 <| HB.mk (fun es => Q (zipF (signs l) es) e3) ()) ()) () := by
  unfold iZipS twoR sideH sC
  congr 1; funext rs e1
  match rs with
  | [] => rfl
  | [r] => rfl
  | [r1, r2] =>
    show fz r1 e1 _ = fz r1 e1 _
    congr 1; funext d1 e2
    congr 1; funext d2 e3
    cases d1 with
    | str l => cases d2.side <;> rfl
    | _ => rfl
  | _ :: _ :: _ :: _ => rfl
theorem x_parO {i j ta tb x D e} : sParO i j ta tb x D e = ta x e fun r1 e1 => fz r1 e1 fun d1 e2 => tb x e2 fun r2 e3 => i < e3.sl.length ∧ j < e3.sl.length ∧ asgR j r2 e3 fun e4 => D.nx (e4.setC i (.d d1)) := rfl
end Pu
set_option maxRecDepth 100000
set_option maxHeartbeats 4000000
namespace Pu
open PySem L2 PySem.Spec PyProof.Rows
section
variable {Γ Γ' : Gm} {κ κ' : Ka} {H H' : Hp} {env env' : En} {σ : Sl} {v : V} {st : Sto} {Y : Fam} {a b e o i : Expr} {es : List Expr} {ta tb te to ti : PTE} {pos : Pos}
/-- name = e, the value data from then on -/
def sAsgZ (i : Nat) (te : PTE) : PTS := fun x D e => te x e fun r e1 => fz r e1 fun d e2 => i < e2.sl.length ∧ D.nx (e2.setC i (.d d))
/-- name = e, a new list or dict an object of the store from then on -/
def sAsgK (i : Nat) (te : PTE) : PTS := fun x D e => te x e fun r e1 => kp r e1 fun d e2 => i < e2.sl.length ∧ D.nx (e2.setC i (.d d))
def lkT (kvs : List (List Nat × Int)) (s : List Nat) : Option Int := (kvs.find? fun p => p.1 == s).map (·.2)
def tGD (kvs : List (List Nat × Int)) (ti : PTE) : PTE := fun x e Q => ti x e fun r e1 => match rv r e1 with
  | some (.str s) => match lkT kvs s with
    | some n => Q (.d (.int n)) e1
    | none => False
  | _ => False
def pCase (f : Nat → Nat) (d : D) (ds : List D) (Q : R → Prop) : Prop := match d, ds with
  | .str l, [] => l.all (· < 128) = true ∧ l.length ≤ 5592405 ∧ (∀ c ∈ l, f c < 1114112) ∧ Q (.d (.str (l.map f)))
  | _, _ => False
end
end Pu
set_option maxRecDepth 100000
set_option maxHeartbeats 4000000
namespace Pu
open PySem L2 PySem.Spec PyProof.Rows
end Pu
set_option maxRecDepth 100000
set_option maxHeartbeats 4000000
namespace Pu
open PySem L2 PySem.Spec PyProof.Rows
section
variable {Γ Γ' : Gm} {κ κ' : Ka} {H H' : Hp} {env env' : En} {σ : Sl} {v : V} {st : Sto} {Y : Fam} {a b e o : Expr} {es : List Expr} {ta tb te to : PTE} {t : PTA} {pos apos p : Pos}
def tMethX (c : Nat) (nm : Str) (m : PMX) (to : PTE) (t : PTA) : PTE := fun x e Q => to x e fun ro e1 => match rv ro e1 with
  | some d => noF c nm e1.st d ∧ t x e1 fun ds e2 => m (d :: ds) e2.st (fun c st' => Q c.toR ⟨e2.sl, st'⟩) x
  | none => False
def lcRx (x : PX) (g : PTG) (tt : PTT) (te : PTE) (vs : List Nat) : List D → List D → En → (List D → En → Prop) → Prop
  | [], acc, e, Q => Q acc e
  | d :: ds, acc, e, Q => g d e fun e1 => tt x e1 fun b e2 => if b = true then te x e2 fun r e3 => fz r e3 fun y e4 => lcRx x g tt te vs ds (acc ++ [y]) (wipeE vs e4) Q else lcRx x g tt te vs ds acc (wipeE vs e2) Q
def cLcX (ti : PTI) (g : PTG) (tt : PTT) (te : PTE) (vs : List Nat) : PTE := fun x e Q => ti x e fun items e1 => items.length ≤ sizeLine ∧ plainC e1.sl vs = true ∧
  lcRx x g tt te vs items [] (wipeE vs e1) fun acc e2 => Q (.own acc) (restE vs e1 e2)
end
end Pu
set_option maxRecDepth 100000
set_option maxHeartbeats 4000000
namespace Pu
open PySem L2 PySem.Spec PyProof.Rows
section
variable {Γ Γ' : Gm} {κ κ' : Ka} {H H' : Hp} {env env' : En} {σ : Sl} {v : V} {st : Sto} {Y : Fam} {a b c d e f o i : Expr} {es : List Expr} {ta tb tc td te tf to ti : PTE} {pos apos cpos : Pos}
def dck2 (k1 k2 : Key) (d1 d2 : D) : D := .dck ((setK (setK [] k1 d1) k2 d2).map (·.1)) ((setK (setK [] k1 d1) k2 d2).map (·.2))
def tDisp2 (ta tb tc td : PTE) : PTE := fun x e Q => ta x e fun r1 e1 => fz r1 e1 fun y1 e1 => tb x e1 fun r2 e2 => fz r2 e2 fun y2 e2 => tc x e2 fun r3 e3 => fz r3 e3 fun y3 e3 => td x e3 fun r4 e4 => fz r4 e4 fun y4 e4 => match keyD y1, keyD y3 with
  | some k1, some k2 => Q (.d (dck2 k1 k2 y2 y4)) e4
  | _, _ => False
/-- d.get(k, x) -/
def tDGK2 (to ti tf : PTE) : PTE := fun x e Q => to x e fun r e1 => hold r e1 fun r e1 => (kgetR r e1).isSome = true ∧ ti x e1 fun ri e2 => fz ri e2 fun kd e2 => tf x e2 fun rd e3 => fz rd e3 fun dd e3 => match kgetR r e3 with
  | some kvs => match keyD kd with
    | some k => Q (.d ((getK kvs k).getD dd)) e3
    | none => False
  | none => False
def mClear : PMu := fun ds as K => match as with
  | [] => K [] .non
  | _ => False
end
end Pu
set_option maxRecDepth 100000
set_option maxHeartbeats 4000000
namespace Pu
open PySem L2 PuE
theorem x_asgZ {i t x D e} : sAsgZ i t x D e = t x e fun r e1 => fz r e1 fun d e2 => i < e2.sl.length ∧ D.nx (e2.setC i (.d d)) := rfl
theorem x_asgK {i t x D e} : sAsgK i t x D e = t x e fun r e1 => kp r e1 fun d e2 => i < e2.sl.length ∧ D.nx (e2.setC i (.d d)) := rfl
def kGD (o : Option D) (e : En) (h : HB (List (List Nat × Int) × (R → En → Prop))) : Prop := match o with
  | some (.str s) => opt (lkT h.b.1 s) (HB.mk (fun n => h.b.2 (.d (.int n)) e) ())
  | _ => False
theorem x_gd {kvs ti x e Q} : tGD kvs ti x e Q = ti x e fun r e1 => kGD (rv r e1) e1 (HB.mk (kvs, Q) ()) := by
  unfold tGD kGD opt
  congr 1; funext r e1
  cases rv r e1 with
  | none => rfl
  | some d =>
    cases d with
    | str s => simp only; cases lkT kvs s <;> rfl
    | _ => rfl
theorem x_kGD {s e kvs Q} : kGD (some (.str s)) e (HB.mk (kvs, Q) ()) = opt (lkT kvs s) (HB.mk (fun n => Q (.d (.int n)) e) ()) := rfl
theorem x_case {f l Q} : pCase f (.str l) [] Q = (l.all (· < 128) = true ∧ l.length ≤ 5592405 ∧ (∀ c ∈ l, f c < 1114112) ∧ Q (.d (.str (l.map f)))) := rfl
def kIMX (ro : R) (e : En) (h : HB (Nat × Str × PTA × PX × PMX × (R → En → Prop))) : Prop := opt (rv ro e) (HB.mk (fun d => noF h.b.1 h.b.2.1 e.st d ∧ h.b.2.2.1 h.b.2.2.2.1 e fun ds e2 => h.b.2.2.2.2.1 (d :: ds) e2.st (fun c st' => h.b.2.2.2.2.2 c.toR ⟨e2.sl, st'⟩) h.b.2.2.2.1) ())
theorem x_imX {c nm m to t x e Q} : tMethX c nm m to t x e Q = to x e fun ro e1 => kIMX ro e1 (HB.mk (c, nm, t, x, m, Q) ()) := by
  unfold tMethX kIMX opt
  congr 1; funext ro e1
  cases rv ro e1 <;> rfl
theorem x_kIMX {ro e c nm t x m Q} : kIMX ro e (HB.mk (c, nm, t, x, m, Q) ()) = opt (rv ro e) (HB.mk (fun d => noF c nm e.st d ∧ t x e fun ds e2 => m (d :: ds) e2.st (fun c st' => Q c.toR ⟨e2.sl, st'⟩) x) ()) := rfl
def lcXH (ds : List D) (e : En) (h : HB (PX × PTG × PTT × PTE × List Nat × (List D → En → Prop))) : Prop := lcRx h.b.1 h.b.2.1 h.b.2.2.1 h.b.2.2.2.1 h.b.2.2.2.2.1 ds [] e h.b.2.2.2.2.2
theorem x_lcX {ti g tt te vs x e Q} : cLcX ti g tt te vs x e Q = ti x e fun items e1 => items.length ≤ sizeLine ∧ plainC e1.sl vs = true ∧ lcXH items (wipeE vs e1) (HB.mk (x, g, tt, te, vs, fun acc e2 => Q (.own acc) (restE vs e1 e2)) ()) := rfl
theorem x_ksr {k e ds} : kset (.d (.ref k)) e ds = ⟨e.sl, e.st.set k (.dK ds)⟩ := rfl
theorem x_msr {k e ds} : mset (.d (.ref k)) e ds = ⟨e.sl, e.st.set k (.lst ds)⟩ := rfl
theorem mg_of {k : Nat} {e : En} {ds : List D} (h : e.st[k]? = some (.lst ds)) : mget (.d (.ref k)) e = some ds := by
  unfold mget
  simp only [h]
def kD2 (o1 o2 : Option Key) (y2 y4 : D) (e : En) (h : HB (R → En → Prop)) : Prop := match o1, o2 with
  | some k1, some k2 => h.b (.d (dck2 k1 k2 y2 y4)) e
  | _, _ => False
theorem x_disp2 {ta tb tc td x e Q} : tDisp2 ta tb tc td x e Q = ta x e fun r1 e1 => fz r1 e1 fun y1 e1 => tb x e1 fun r2 e2 => fz r2 e2 fun y2 e2 => tc x e2 fun r3 e3 => fz r3 e3 fun y3 e3 => td x e3 fun r4 e4 => fz r4 e4 fun y4 e4 => kD2 (keyD y1) (keyD y3) y2 y4 e4 (HB.mk Q ()) := by
  unfold tDisp2 kD2
  rfl
theorem x_kD2 {k1 k2 y2 y4 e Q} : kD2 (some k1) (some k2) y2 y4 e (HB.mk Q ()) = Q (.d (dck2 k1 k2 y2 y4)) e := rfl
def kG2 (o1 : Option (List (Key × D))) (o2 : Option Key) (dd : D) (e : En) (h : HB (R → En → Prop)) : Prop := match o1, o2 with
  | some kvs, some k => h.b (.d ((getK kvs k).getD dd)) e
  | _, _ => False
theorem x_dgk2 {to ti tf x e Q} : tDGK2 to ti tf x e Q = to x e fun r e1 => hold r e1 fun r e1 => (kgetR r e1).isSome = true ∧ ti x e1 fun ri e2 => fz ri e2 fun kd e2 => tf x e2 fun rd e3 => fz rd e3 fun dd e3 => kG2 (kgetR r e3) (keyD kd) dd e3 (HB.mk Q ()) := by
  unfold tDGK2 kG2
  congr 1; funext r e1; congr 1; funext r e1; congr 2; funext ri e2; congr 1; funext kd e2; congr 1; funext rd e3; congr 1; funext dd e3
  cases kgetR r e3 with
  | none => rfl
  | some kvs => cases keyD kd <;> rfl
theorem x_kG2 {kvs k dd e Q} : kG2 (some kvs) (some k) dd e (HB.mk Q ()) = Q (.d ((getK kvs k).getD dd)) e := rfl
theorem x_clear {ds K} : mClear ds [] K = K [] .non := rfl
end Pu
set_option maxRecDepth 100000
set_option maxHeartbeats 4000000
namespace Pu
open PySem L2 PySem.Spec PyProof.Rows
/-- at a a tuple of these texts -/
def KTup (K : PySem.W.Frag) (a : Addr) (ws : List (List Nat)) : Prop := (∃ (o : Obj) (its : Array Value) (n : Nat), K.lookup a = some o ∧ o.cls = .type "tuple" ∧ o.data = .seq its n ∧ its.size ≤ sizeLine ∧ Vals (ws.map fun w => V.str ⟨w.toArray⟩) its.toList) ∧ ∀ w ∈ ws, SOk w
section
variable {Γ Γ' : Gm} {κ κ' : Ka} {H H' : Hp} {env env' : En} {σ : Sl} {v : V} {st : Sto} {Y : Fam} {a b e o i : Expr} {es : List Expr} {ta tb te to ti : PTE} {pos : Pos} {K : PySem.W.Frag}
def lkL (kvs : List (List Nat × List (List Nat))) (s : List Nat) : Option (List (List Nat)) := (kvs.find? fun p => p.1 == s).map (·.2)
def GT (K : PySem.W.Frag) (w : World) (d : Addr) (kvs : List (List Nat × List (List Nat))) : Prop := ∀ p ∈ kvs, ∃ a, KDct K w d ⟨p.1.toArray⟩ (.ref a) ∧ KTup K a p.2
theorem GT.get {w : World} {d : Addr} {kvs : List (List Nat × List (List Nat))} {s : List Nat} {ws : List (List Nat)} (h : GT K w d kvs) (g : lkL kvs s = some ws) : ∃ a, KDct K w d ⟨s.toArray⟩ (.ref a) ∧ KTup K a ws := by
  unfold lkL at g
  obtain ⟨p, hp, ep⟩ := Option.map_eq_some_iff.mp g
  have h1 := List.find?_some hp
  have z := h p (List.mem_of_find?_eq_some hp)
  rw [show p.1 = s from by simpa using h1, ep] at z
  exact z
/-- for x in NAME[e] -/
def iGT (kvs : List (List Nat × List (List Nat))) (ti : PTE) : PTI := fun x e Q => ti x e fun r e1 => match rv r e1 with
  | some (.str s) => match lkL kvs s with
    | some ws => Q (ws.map D.str) e1
    | none => False
  | _ => False
/-- for x, y in zip(NAME[e], f) -/
def iZipG (kvs : List (List Nat × List (List Nat))) (ti tb : PTE) : PTI := fun x e Q => ti x e fun r e1 => match rv r e1 with
  | some (.str s) => match lkL kvs s with
    | some ws => tb x e1 fun r2 e2 => fz r2 e2 fun d2 e3 => match d2.side with
      | some (_, es) => Q (zipF (ws.map D.str) es) e3
      | _ => False
    | none => False
  | _ => False
/-- e in NAME, a tuple of texts -/
def tKIn (neg : Bool) (ws : List (List Nat)) (ta : PTE) : PTE := fun x e Q => ta x e fun r e1 => match rv r e1 with
  | some (.str s) => Q (.d (.bl (if neg then !decide (s ∈ ws) else decide (s ∈ ws)))) e1
  | _ => False
/-- e in NAME, a dict of the module with text keys; asked of what is in it alone -/
def tKHas (ks : List (List Nat)) (ta : PTE) : PTE := fun x e Q => ta x e fun r e1 => match rv r e1 with
  | some (.str s) => s ∈ ks ∧ Q (.d (.bl true)) e1
  | _ => False
end
end Pu
set_option maxRecDepth 100000
set_option maxHeartbeats 4000000
namespace PuE
open PySem PySem.Spec PyProof.Rows L2
end PuE
namespace Pu
open PySem L2 PuE
section
variable {Γ Γ' : Gm} {κ κ' : Ka} {H H' : Hp} {env env' : En} {σ : Sl} {v : V} {st : Sto} {Y : Fam} {a b c d e e2 o : Expr} {es : List Expr} {ta tb tc td te to : PTE} {pos : Pos}
def par1 (s l : List Nat) : List (List Nat) := match TL.par s [] l with
  | some (a, b) => [a, b]
  | none => [l]
def pSplit1 (d : D) (ds : List D) (Q : R → Prop) : Prop := match d, ds with
  | .str l, [.str s, .int k] => k = 1 ∧ s ≠ [] ∧ s.all (· < 256) = true ∧ l.length + 2 ≤ 16777216 ∧ Q (.own ((par1 s l).map D.str))
  | _, _ => False
def pStrA : List D → (R → Prop) → Prop
  | [.int i], Q => 0 ≤ i ∧ i < 2 ^ 64 ∧ Q (.d (.str (TL.numL i.toNat)))
  | [.str s], Q => Q (.d (.str s))
  | _, _ => False
end
end Pu
set_option maxRecDepth 100000
set_option maxHeartbeats 4000000
namespace PySem
open PySem.Spec PyProof.Rows PySem.W
section
variable {prog : Program} {w : World} {A : Around} {E : Value → Shared → Prop} {s : Shared} {z TI TO i1 i2 l1 l2 S : Addr} {xs ys : Array Value} {i n : Nat}
def ZSt (h : Heap) (z TI TO i1 i2 l1 l2 S : Addr) (i : Nat) : Prop := IsPair h TI (.ref i1) (.ref i2) ∧ (∃ a b, IsPair h TO a b) ∧ h.IsListIter i1 l1 i ∧ h.IsListIter i2 l2 i ∧
  (IsZip h z TI TO .none ∨ ∃ T f oT, IsZipHeld h z TI TO T f ∧ h.get? T = some oT ∧ T ≠ z ∧ T ≠ i1 ∧ T ≠ i2 ∧ T ≠ TO ∧ T ≠ S)
theorem iter_keep {h h' : Heap} {it l : Addr} {k : Nat} (x : h.IsListIter it l k) (q : ∀ o, h.get? it = some o → h'.get? it = some o) : h'.IsListIter it l k := by
  obtain ⟨o, ho, r⟩ := x; exact ⟨o, q o ho, r⟩
theorem ZSt.keep {h h' : Heap} (x : ZSt h z TI TO i1 i2 l1 l2 S i) (k : ∀ b o, b ≠ S → h.get? b = some o → h'.get? b = some o) (hz : z ≠ S) (hTI : TI ≠ S) (hTO : TO ≠ S) (h1 : i1 ≠ S) (h2 : i2 ≠ S) : ZSt h' z TI TO i1 i2 l1 l2 S i := by
  obtain ⟨a1, ⟨a, b, a2⟩, a3, a4, a5⟩ := x
  refine ⟨k _ _ hTI a1, ⟨a, b, k _ _ hTO a2⟩, iter_keep a3 (k _ · h1), iter_keep a4 (k _ · h2), ?_⟩
  rcases a5 with e | ⟨T, f, oT, e1, e2, e3, e4, e5, e6, e7⟩
  · exact .inl (k _ _ hz e)
  · exact .inr ⟨T, f, oT, k _ _ hz e1, k _ _ e7 e2, e3, e4, e5, e6, e7⟩
end
end PySem
namespace PuE
open PySem PySem.Spec PyProof.Rows L2 PySem.W
end PuE
namespace Pu
open PySem L2 PySem.Spec PyProof.Rows
section
variable {Γ Γ' : Gm} {κ κ' : Ka} {H H' : Hp} {env env' : En} {σ : Sl} {v : V} {st : Sto} {Y : Fam} {a b e o : Expr} {es : List Expr} {ta tb te to : PTE} {pos : Pos}
def tTZ (t : PTR) : PTE := fun x e Q => t x e fun rs e1 => match rs with
  | [r1, r2] => fz r1 e1 fun d1 e2 => fz r2 e2 fun d2 e3 => match d1, d2 with
    | .lst ds, .lst es => (∀ d ∈ ds, ∃ s, d = .str s) ∧ Q (.d (.tup (zipF ds es))) e3
    | _, _ => False
  | _ => False
end
end Pu
set_option maxRecDepth 100000
set_option maxHeartbeats 4000000
namespace PuE
open PySem PySem.Spec PyProof.Rows L2 RT PySem.W
end PuE
namespace Pu
open PySem L2 PySem.Spec PyProof.Rows
end Pu
set_option maxRecDepth 100000
set_option maxHeartbeats 4000000
namespace Pu
open PySem L2 PuE
def kKI (o : Option D) (e : En) (h : HB (Bool × List (List Nat) × (R → En → Prop))) : Prop := match o with
  | some (.str s) => h.b.2.2 (.d (.bl (if h.b.1 then !decide (s ∈ h.b.2.1) else decide (s ∈ h.b.2.1)))) e
  | _ => False
theorem x_kin {neg ws ta x e Q} : tKIn neg ws ta x e Q = ta x e fun r e1 => kKI (rv r e1) e1 (HB.mk (neg, ws, Q) ()) := by
  unfold tKIn kKI
  congr 1
theorem x_kKI {s e ws Q} : kKI (some (.str s)) e (HB.mk (false, ws, Q) ()) = Q (.d (.bl (decide (s ∈ ws)))) e := rfl
def kKH (o : Option D) (e : En) (h : HB (List (List Nat) × (R → En → Prop))) : Prop := match o with
  | some (.str s) => s ∈ h.b.1 ∧ h.b.2 (.d (.bl true)) e
  | _ => False
theorem x_khas {ks ta x e Q} : tKHas ks ta x e Q = ta x e fun r e1 => kKH (rv r e1) e1 (HB.mk (ks, Q) ()) := by
  unfold tKHas kKH
  congr 1
theorem x_kKH {s e ks Q} : kKH (some (.str s)) e (HB.mk (ks, Q) ()) = (s ∈ ks ∧ Q (.d (.bl true)) e) := rfl
def kIG (o : Option D) (e : En) (h : HB (List (List Nat × List (List Nat)) × (List (List Nat) → En → Prop))) : Prop := match o with
  | some (.str s) => opt (lkL h.b.1 s) (HB.mk (fun ws => h.b.2 ws e) ())
  | _ => False
theorem x_igt {kvs ti x e Q} : iGT kvs ti x e Q = ti x e fun r e1 => kIG (rv r e1) e1 (HB.mk (kvs, fun ws e2 => Q (ws.map D.str) e2) ()) := by
  unfold iGT kIG opt
  congr 1; funext r e1
  cases rv r e1 with
  | none => rfl
  | some d =>
    cases d with
    | str s => simp only; cases lkL kvs s <;> rfl
    | _ => rfl
theorem x_izg {kvs ti tb x e Q} : iZipG kvs ti tb x e Q = ti x e fun r e1 => kIG (rv r e1) e1 (HB.mk (kvs, fun ws e2 => tb x e2 fun r2 e3 => fz r2 e3 fun d2 e4 => sideH d2 (HB.mk (fun es => Q (zipF (ws.map D.str) es) e4) ())) ()) := by
  unfold iZipG kIG opt
  congr 1; funext r e1
  cases rv r e1 with
  | none => rfl
  | some d =>
    cases d with
    | str s =>
      simp only
      cases lkL kvs s with
      | none => rfl
      | some ws =>
        simp only
        congr 1; funext r2 e3
        congr 1; funext d2 e4
        unfold sideH
        cases d2.side with
        | none => rfl
        | some p => rfl
    | _ => rfl
theorem x_kIG {s e kvs Q} : kIG (some (.str s)) e (HB.mk (kvs, Q) ()) = opt (lkL kvs s) (HB.mk (fun ws => Q ws e) ()) := rfl
def tzC (d1 d2 : D) (h : HB (List D → List D → Prop)) : Prop := match d1, d2 with
  | .lst ds, .lst es => h.b ds es
  | _, _ => False
theorem x_tzC {ds es f} : tzC (.lst ds) (.lst es) (HB.mk f ()) = f ds es := rfl
theorem x_tz {t x e Q} : tTZ t x e Q = t x e fun rs e1 => twoR rs <| HB.mk (fun r1 r2 => fz r1 e1 fun d1 e2 => fz r2 e2 fun d2 e3 => tzC d1 d2 <| HB.mk (fun ds es => (∀ d ∈ ds, ∃ s, d = .str s) ∧ Q (.d (.tup (zipF ds es))) e3) ()) () := by
  unfold tTZ twoR tzC
  congr 1
theorem x_split1 {l s k Q} : pSplit1 (.str l) [.str s, .int k] Q = (k = 1 ∧ s ≠ [] ∧ s.all (· < 256) = true ∧ l.length + 2 ≤ 16777216 ∧ Q (.own ((par1 s l).map D.str))) := rfl
theorem x_strAi {i Q} : pStrA [.int i] Q = (0 ≤ i ∧ i < 2 ^ 64 ∧ Q (.d (.str (TL.numL i.toNat)))) := rfl
theorem x_strAs {s Q} : pStrA [.str s] Q = Q (.d (.str s)) := rfl
end Pu
set_option maxRecDepth 100000
set_option maxHeartbeats 4000000
namespace L2
open PySem PySem.Spec PyProof.Rows RT
end L2
namespace Pu
open PySem L2 PySem.Spec PyProof.Rows
section
variable {Γ : Gm} {κ : Ka} {H : Hp} {Y : Fam} {e a b o : Expr} {es : List Expr} {to : PTE} {pos : Pos} {σ : Sl} {env : En} {v : V}
def mRemD : PMu := fun ds as K => match as with
  | [y] => y.ok 64 = true ∧ D.okL ds 63 = true ∧ (ds.any fun z => D.eq z y) = true ∧ K (ds.eraseIdx (ixD y ds)) .non
  | _ => False
end
end Pu
set_option maxRecDepth 100000
set_option maxHeartbeats 4000000
namespace Pu
open PySem L2 PySem.Spec PyProof.Rows
section
variable {Γ Γ' : Gm} {κ κ' : Ka} {H H' : Hp} {env env' : En} {σ : Sl} {v : V} {st : Sto} {Y : Fam} {a b e o i : Expr} {es : List Expr} {ta tb te to ti : PTE} {pos : Pos} {body : List Stmt} {t : PTS}
/-- a list of the store read where it stands -/
def rvD (d : D) (e : En) : Option D := match d with
  | .ref k => match e.st[k]? with
    | some (.lst ds) => some (.lst ds)
    | _ => some d
  | _ => some d
def rvS (r : R) (e : En) : Option D := match rv r e with
  | some d => rvD d e
  | none => none
def rvLS : List R → En → Option (List D)
  | [], _ => some []
  | r :: rs, e => match rvS r e with
    | none => none
    | some d => match rvLS rs e with
      | none => none
      | some ds => some (d :: ds)
def tCallPS (p : List D → (R → Prop) → Prop) (t : PTR) : PTE := fun x e Q => t x e fun rs e1 => match rvLS rs e1 with
  | some ds => p ds (fun r => Q r e1)
  | none => False
def forL (k : Nat) (ds0 : List D) (g : PTG) (tb : PTS) (x : PX) (P : PEn) : List D → En → Prop
  | [], e => e.st[k]? = some (.lst ds0) ∧ P.nx e
  | d :: ds, e => e.st[k]? = some (.lst ds0) ∧ g d e fun e' => tb x { P with nx := forL k ds0 g tb x P ds, ct := forL k ds0 g tb x P ds, bk := P.nx } e'
def refL (r : R) (e : En) : Option (Nat × List D) := match r with
  | .d (.ref k) => match e.st[k]? with
    | some (.lst ds) => some (k, ds)
    | _ => none
  | _ => none
def sForL (te : PTE) (g : PTG) (tb : PTS) : PTS := fun x D e => te x e fun r e1 => match refL r e1 with
  | some (k, ds) => forL k ds g tb x D ds e1
  | none => False
end
end Pu
set_option maxRecDepth 100000
set_option maxHeartbeats 4000000
namespace Pu
open PySem L2 PySem.Spec PyProof.Rows
section
variable {Γ Γ' : Gm} {κ κ' : Ka} {H H' : Hp} {env env' : En} {σ : Sl} {v : V} {Y : Fam} {a b e o i : Expr} {es : List Expr} {ta tb te to ti : PTE} {pos : Pos}
def lcRL (k : Nat) (ds0 : List D) (g : PTG) (tt : PTT) (te : PTE) (vs : List Nat) : List D → List D → En → (List D → En → Prop) → Prop
  | [], acc, e, Q => e.st[k]? = some (.lst ds0) ∧ Q acc e
  | d :: ds, acc, e, Q => e.st[k]? = some (.lst ds0) ∧ g d e fun e1 => tt noX e1 fun b e2 => if b = true then te noX e2 fun r e3 => fz r e3 fun y e4 => lcRL k ds0 g tt te vs ds (acc ++ [y]) (wipeE vs e4) Q else lcRL k ds0 g tt te vs ds acc (wipeE vs e2) Q
theorem lcRL.st {k : Nat} {ds0 : List D} {g : PTG} {tt : PTT} {te : PTE} {vs : List Nat} {ds acc : List D} {e : En} {Q : List D → En → Prop} (h : lcRL k ds0 g tt te vs ds acc e Q) : e.st[k]? = some (.lst ds0) := by
  cases ds with
  | nil => exact h.1
  | cons d ds => exact h.1
def cLcL (ta : PTE) (g : PTG) (tt : PTT) (te : PTE) (vs : List Nat) : PTE := fun x e Q => ta x e fun r e1 => match refL r e1 with
  | some (k, ds) => ds.length ≤ sizeLine ∧ plainC e1.sl vs = true ∧ lcRL k ds g tt te vs ds [] (wipeE vs e1) fun acc e2 => Q (.own acc) (restE vs e1 e2)
  | none => False
end
end Pu
set_option maxRecDepth 100000
set_option maxHeartbeats 4000000
namespace Pu
open PySem L2 PuE
def forLH (k : Nat) (ds : List D) (e : En) (h : HB (PTG × PTS × PX × PEn)) : Prop := forL k ds h.b.1 h.b.2.1 h.b.2.2.1 h.b.2.2.2 ds e
theorem x_forL {te g tb x D e} : sForL te g tb x D e = te x e fun r e1 => opt (refL r e1) <| HB.mk (fun p => forLH p.1 p.2 e1 (HB.mk (g, tb, x, D) ())) () := by
  unfold sForL opt forLH
  congr 1; funext r e1
  cases refL r e1 <;> rfl
theorem x_callPS {p t x e Q} : tCallPS p t x e Q = t x e fun rs e1 => opt (rvLS rs e1) <| HB.mk (fun ds => p ds fun r => Q r e1) () := by
  unfold tCallPS opt
  congr 1; funext rs e1
  cases rvLS rs e1 <;> rfl
def lcLH (k : Nat) (ds : List D) (e : En) (h : HB (PTG × PTT × PTE × List Nat × (List D → En → Prop))) : Prop := lcRL k ds h.b.1 h.b.2.1 h.b.2.2.1 h.b.2.2.2.1 ds [] e h.b.2.2.2.2
theorem x_lcL {ta g tt te vs x e Q} : cLcL ta g tt te vs x e Q = ta x e fun r e1 => opt (refL r e1) <| HB.mk (fun p => p.2.length ≤ sizeLine ∧ plainC e1.sl vs = true ∧ lcLH p.1 p.2 (wipeE vs e1) (HB.mk (g, tt, te, vs, fun acc e2 => Q (.own acc) (restE vs e1 e2)) ())) () := by
  unfold cLcL opt lcLH
  congr 1; funext r e1
  cases refL r e1 <;> rfl
def remDH (ds as : List D) (h : HB (List D → D → Prop)) : Prop := mRemD ds as h.b
theorem x_remD {ds as K} : mRemD ds as K = remDH ds as (HB.mk K ()) := rfl
end Pu
set_option maxRecDepth 100000
set_option maxHeartbeats 4000000
namespace PuL
open PySem PySem.Spec PyProof.Rows L2 PySem.W
section
variable {prog : Program} {w : World} {A : Around} {E : Value → Shared → Prop} {s : Shared}
def keyLW (l : Str) : PyData := .tuple [.int l.length, .str l]
theorem tup_eval {env : Env} {x l : Str} {t : Tok} {m mg mb : Str → Option Value} {p1 p2 p3 p4 p5 : Pos} {k : Nat} (hk : env.scope.kind = .function) (hl : env.kindOf x = some .local) (hg : env.kindOf "len" = some .globalImplicit)
    (ns : s.heap.Ns env.locals m) (hm : m x = some (.str l t)) (ng : s.heap.Ns env.globals mg) (n0 : mg "len" = none) (nb : s.heap.Ns env.builtins mb) (hb : mb "len" = some (.builtin "len")) (hd : (x == ("__debug__" : Str)) = false) (hw : l.length ≤ sizeLine) :
    wpAny (model prog w) A (eval (.Tuple [.Call (.Name "len" p1) [.Name x p2] [] p3, .Name x p4] k p5) env) (KeyPure (keyLW l) s) E s := by
  have hz := sizeLine_eq
  refine wpAny_Tuple_spliced ?_
  show wpAny _ _ (spliced ((false, eval (.Call (.Name "len" p1) [.Name x p2] [] p3) env) :: backTo p5 (starEach [.Name x p4] env))) _ _ s
  refine Calls.spliced_cons (wpAny_Call_Name_kw (Calls.Name_function_global hk hg (Calls.loadGlobal_builtin ng n0 nb hb ?_)))
  refine Calls.callWith_builtin rfl (Calls.evalArgs_plain (Calls.spliced_cons (wpAny_Name (wpAny_loadName_local hk hl ns hm (Calls.spliced_nil ?_)) hd)))
  refine len_str (by omega) ?_
  show wpAny _ _ (spliced ((false, eval (.Name x p4) env) :: backTo p5 (starEach [] env))) _ _ _
  refine Calls.spliced_cons (wpAny_Name (wpAny_loadName_local hk hl ns hm (Calls.spliced_nil ⟨by show 2 ≤ sizeLine; omega, ?_⟩)) hd)
  refine ⟨_, _, rfl, fun b o e => Heap.get?_push_of_some _ e, ?_⟩
  exact Reads.tuple (as := [] ++ ([] ++ [])) (Heap.get?_push_size _ rfl) rfl rfl (.cons (.int _ _) (.cons (.str _ _) .nil))
/-- the lambda, called on a text -/
theorem lam_key {x l q : Str} {t : Tok} {mg mb : Str → Option Value} {f c' : Addr} {pm ctv : Value} {params : Arguments} {scope : Scope} {p1 p2 p3 p4 p5 : Pos} {k : Nat} (room : A.depth < recursionLimit)
    (hf : s.heap.get? f = some (kla_obj "<lambda>" q params (.Tuple [.Call (.Name "len" p1) [.Name x p2] [] p3, .Name x p4] k p5) scope [] pm c' ctv)) (hrec : s.heap.CodeRec (.ref c') q) (nolim : s.heap.NoLimit)
    (hbind : ∀ v : Value, bindArgs (kla_fn "<lambda>" q params (.Tuple [.Call (.Name "len" p1) [.Name x p2] [] p3, .Name x p4] k p5) scope [] pm (.ref c') ctv) ⟨[v], []⟩ = pure [(x, v)])
    (hk : scope.kind = .function) (hco : scope.isCoroutine = false) (hgen : scope.isGenerator = false) (hcell : ∀ y ∈ scope.names, y.2 ≠ .cell) (hl : scope.names.lookup x = some .local) (hg : scope.names.lookup ("len" : Str) = some .globalImplicit)
    (ng : s.heap.Ns mainGlobals mg) (n0 : mg "len" = none) (nb : s.heap.Ns builtinsNs mb) (hb : mb "len" = some (.builtin "len")) (hd : (x == ("__debug__" : Str)) = false) (hw : l.length ≤ sizeLine) :
    wpAny (model prog w) A (call (.ref f) [.str l t]) (KeyPure (keyLW l) s) E s := by
  refine wpAny_call (kla_callFunE room hf rfl hco hgen rfl hrec ?_)
  rw [hbind]
  refine wpAny_pure (wpAny_newFunctionEnv hcell (fun y hy => ?_) (fun h₁ hns hsb => ?_) hk)
  · have hy : y = (x, Value.str l t) := by simpa using hy
    rw [hy]
    exact hl
  · have kp : ∀ b o, s.heap.get? b = some o → h₁.get? b = some o := fun b o e => hsb.extBut b o (Nat.ne_of_lt (Heap.lt_size e)) (Heap.get?_push_of_some _ e)
    refine ⟨nolim.fresh _ hsb, kla_codeExpr (wpAny_mono (tup_eval (l := l) (t := t) (mg := mg) (mb := mb) hk hl hg hns ?_ (ng.keeps kp) n0 (nb.keeps kp) hb hd hw) (fun v s' hq => ?_) fun e s' he => he)⟩
    · simp
    · obtain ⟨h', tk, e1, e2, e3⟩ := hq
      subst e1
      exact ⟨h', tk, rfl, fun b o e => e2 b o (kp b o e), e3⟩
end
/-- what the table at P and the abstract heap come to -/
def TblTo (H H2 : Hp) (P : Addr) (q : Str) (ps : Array Value) : Prop := H2 = H ∨ ∃ (more : Array Value) (d : Addr), H d = none ∧ H2 = upd (upd H P (.tbl (ps ++ more))) d (LamX.CodeO d q) ∧ TriplesOk (ps ++ more).toList ∧
  ∀ (pos : Pos) (v : Value), codeAmong pos (ps ++ more).toList = some v → codeAmong pos ps.toList = some v ∨ v = .ref d
def TblAt (H : Hp) (P : Addr) (q : Str) (ps : Array Value) : Prop := H P = some (.tbl ps) ∧ TriplesOk ps.toList ∧ ∀ (pos : Pos) (v : Value), codeAmong pos ps.toList = some v → ∃ d, v = .ref d ∧ H d = some (LamX.CodeO d q)
section
variable {X : Cx} {pins : List (Addr × Obj)} {σ : L2.St} {H : Hp} {s : Shared}
theorem lam_made {c P : Addr} {q : Str} {ps : Array Value} {params : Arguments} {body : Expr} {scope : Scope} {pos : Pos} {E : Value → Shared → Prop} {Q : Value → Shared → Prop} (I : Inv X pins σ H s) (TB : LamX.TabB X.base X.mg c P) (hcode : X.env.code = .ref c)
    (hq : X.env.qual ++ "<lambda>" = q) (T : TblAt H P q ps) (hdef : defaultsOf params X.env = ([], [])) (hclo : closureFor scope X.env = pure [])
    (h : ∀ (f d : Addr) (pm ctv : Value) (H2 : Hp) (t : Shared), Inv X pins σ H2 t → TblTo H H2 P q ps → t.heap.get? f = some (kla_obj "<lambda>" q params body scope [] pm d ctv) → t.heap.CodeRec (.ref d) q → Q (.ref f) t) :
    wpAny (model X.prog X.w) X.A (eval (.Lambda params body scope pos) X.env) Q E s := by
  subst hq
  obtain ⟨hP, ht, ha⟩ := T
  refine kla_eval hdef ?_
  have bP := TB.bm.keeps I.bk
  have hP' : s.heap.get? P = some { cls := .none, data := .fields ps } := I.hok P _ hP
  cases hc : codeAmong pos ps.toList with
  | some v =>
    obtain ⟨d, e, hco⟩ := ha pos v hc
    subst e
    refine kla_makeFunctionHit (c := c) (P := P) (ps := ps) (mg := X.mg) hclo I.ok.glob (I.mod.glob.keeps I.bk) hcode (TB.code.keeps I.bk) hP' ht hc bP ?_
    intro ctv g tk kp _
    have I1 := I.kept (t' := tk) (h' := g.push (kla_obj "<lambda>" (X.env.qual ++ "<lambda>") params body scope [] ((X.mg "__name__").getD .none) d ctv)) fun b o e => Heap.get?_push_of_some _ (kp b o e)
    refine h _ d _ ctv H _ I1 (.inl rfl) (Heap.get?_push_size _ rfl) ?_
    obtain ⟨⟨oc, vs, t, e1, e2, e3⟩, _, _⟩ := I.hok d _ hco
    exact ⟨d, oc, vs, t, rfl, Heap.get?_push_of_some _ (kp _ _ e1), e2, e3⟩
  | none =>
    refine kla_makeFunction (c := c) (P := P) (ps := ps) (mg := X.mg) hclo I.ok.glob (I.mod.glob.keeps I.bk) hcode (TB.code.keeps I.bk) hP' ht hc TB.gP bP ?_
    intro d ctv g tk kp hge hlt hrec htb
    have nd : H d = none := I.hok.fresh hge
    have rec1 : (g.push (kla_obj "<lambda>" (X.env.qual ++ "<lambda>") params body scope [] ((X.mg "__name__").getD .none) d ctv)).CodeRec (.ref d) (X.env.qual ++ "<lambda>") := hrec.push _
    obtain ⟨d2, oc, vs, t, e2, hoc, hd, hv⟩ := hrec
    cases e2
    have I1 := LamX.inv_table (t' := tk) (more := #[rawInt pos.line, rawInt pos.col, .ref d]) (h' := g.push (kla_obj "<lambda>" (X.env.qual ++ "<lambda>") params body scope [] ((X.mg "__name__").getD .none) d ctv)) (q := X.env.qual ++ "<lambda>") I hP
      (fun b o hb e => Heap.get?_push_of_some _ (kp b o hb e)) (Heap.get?_push_of_some _ htb) hge ⟨oc, vs, t, Heap.get?_push_of_some _ hoc, hd, hv⟩
    have eL : (ps ++ #[rawInt pos.line, rawInt pos.col, .ref d]).toList = ps.toList ++ [rawInt pos.line, rawInt pos.col, .ref d] := by simp
    refine h _ d _ ctv _ _ I1 (.inr ⟨_, d, nd, rfl, ?_, fun p v hv => ?_⟩) (Heap.get?_push_size _ rfl) rec1
    · rw [eL]
      exact PySem.TriplesOk_snoc _ _ _ _ ht
    · rw [eL] at hv
      exact LamX.among_app _ ht hv
end
def leLW (a b : Str) : Bool := dataLe false keyLW a b
def tSortLW (K : Frag) (P : Addr) (q : Str) (te : TE) : TE := fun σ H Q => te σ H fun v H1 => ∃ (a : Addr) (xs : List Str) (ps : Array Value), v = .ref a ∧ SqL K H1 a (xs.map V.str) ∧ xs.length ≤ sizeLine ∧ (∀ l ∈ xs, l.length ≤ sizeLine) ∧ TblAt H1 P q ps ∧
  ∀ (H2 : Hp) (ys : List Str) (p : Addr), TblTo H1 H2 P q ps → ys.Perm xs → ys.Pairwise (fun a b => leLW a b = true) → H2 p = none → Q (.ref p) (upd H2 p (.lst (ys.map V.str)))
theorem TblTo.keep {H H2 : Hp} {P b : Addr} {q : Str} {ps : Array Value} {o : HO} (t : TblTo H H2 P q ps) (hP : H P = some (.tbl ps)) (h : H b = some o) (hn : ∀ zs, o ≠ .tbl zs) : H2 b = some o := by
  rcases t with rfl | ⟨more, d, nd, rfl, _⟩
  · exact h
  · have n1 : b ≠ d := fun z => by rw [z, nd] at h; cases h
    have n2 : b ≠ P := fun z => by rw [z, hP] at h; exact hn ps (Option.some.inj h).symm
    rw [upd_ne n1, upd_ne n2]
    exact h
theorem TblTo.sql {K : Frag} {H H2 : Hp} {P a : Addr} {q : Str} {ps : Array Value} {xs : List V} (t : TblTo H H2 P q ps) (hP : H P = some (.tbl ps)) (h : SqL K H a xs) : SqL K H2 a xs := by
  rcases h with (h | ⟨o, h⟩) | h
  · exact .inl (.inl (t.keep hP h fun _ z => by cases z))
  · exact .inl (.inr ⟨o, t.keep hP h fun _ z => by cases z⟩)
  · exact .inr h
theorem each_strs : ∀ {xs : List Str} {us : List Value}, Vals (xs.map V.str) us → EachIs (fun (v : Value) (l : Str) => ∃ t, v = .str l t) us xs
  | [], _, .nil => .nil
  | _ :: xs, _, .cons h r => .cons h (each_strs r)
theorem strs_each : ∀ {xs : List Str} {us : List Value}, EachIs (fun (v : Value) (l : Str) => ∃ t, v = .str l t) us xs → Vals (xs.map V.str) us
  | [], _, .nil => .nil
  | _ :: xs, _, .cons h r => .cons h (strs_each r)
structure LamOk (x : Str) (scope : Scope) (params : Arguments) (body : Expr) : Prop where
  kind : scope.kind = .function
  co : scope.isCoroutine = false
  gen : scope.isGenerator = false
  cell : ∀ y ∈ scope.names, y.2 ≠ .cell
  own : scope.names.lookup x = some .local
  len : scope.names.lookup ("len" : Str) = some .globalImplicit
  dbg : (x == ("__debug__" : Str)) = false
  bind : ∀ (q : Str) (pm ctv : Value) (d : Addr) (v : Value), bindArgs (kla_fn "<lambda>" q params body scope [] pm (.ref d) ctv) ⟨[v], []⟩ = pure [(x, v)]
  def_ : ∀ env, defaultsOf params env = ([], [])
  clo : ∀ env, closureFor scope env = pure []
section
variable {X : Cx} {e : Expr} {te : TE}
theorem pe_sortLW {c P : Addr} {q x : Str} {params : Arguments} {scope : Scope} {p p1 p2 p3 p4 p5 lpos kpos cpos : Pos} {k : Nat} (hg : Gl X "sorted") (hm : X.mg "sorted" = none) (hml : X.mg "len" = none) (ha : PE X e te) (TB : LamX.TabB X.base X.mg c P) (hcode : X.env.code = .ref c)
    (hq : X.env.qual ++ "<lambda>" = q) (L : LamOk x scope params (.Tuple [.Call (.Name "len" p1) [.Name x p2] [] p3, .Name x p4] k p5)) (hu : X.A.units + 65 < cLine) (hdp : X.A.depth < recursionLimit)
    (hs : starEach [e] X.env = (false, eval e X.env) :: starEach [] X.env := by rfl) :
    PE X (.Call (.Name "sorted" p) [e] [⟨some "key", .Lambda params (.Tuple [.Call (.Name "len" p1) [.Name x p2] [] p3, .Name x p4] k p5) scope lpos, kpos⟩] cpos) (tSortLW X.K P q te) := by
  refine ⟨fun pins s σ H Q I h => ?_⟩
  refine wpAny_Call_Name_kw (ld_blt I hg hm (u := .builtin "sorted") (by decide +kernel) ?_)
  refine PyProof.Rows.callWith_kw ?_ (by rw [hs]; rfl) (by rw [hs]; rfl)
  rw [hs]
  show wpAny _ _ (spliced ((false, eval e X.env) :: backTo cpos (starEach [] X.env))) _ _ s
  refine Calls.spliced_cons (thn (ha.run pins s σ H _ I h) fun v s1 ⟨v', H1, I1, r1, a, xs, ps, e1, hq1, hl, hls, hT, q1⟩ => ?_)
  subst e1
  cases r1
  refine Calls.spliced_nil ?_
  show wpAny _ _ (evalAll ((do let v ← eval _ X.env; standAt cpos; pure v) :: _)) _ _ s1
  refine wpAny_evalAll_cons (wpAny_bind (lam_made I1 TB hcode hq hT (L.def_ _) (L.clo _) fun f d pm ctv H2 t I2 to hf hrec => wpAny_bind (wpAny_standAt (wpAny_pure ?_))))
  refine wpAny_evalAll_nil ?_
  obtain ⟨its, rv, p, _⟩ := I2.list (to.sql hT.1 hq1)
  have ev := each_strs rv
  obtain ⟨mb, nb, hb⟩ := I2.mod.blt
  have kz := sizeLine_eq
  show wpAny _ _ (call (.builtin "sorted") [.ref a] [("key", .ref f)]) _ _ t
  have lenE := rv.length
  rw [List.length_map] at lenE
  refine sorted_key_data (b := false) (f := .ref f) (vs := its) (R := fun (v : Value) (l : Str) => ∃ t, v = .str l t) keyLW p.isList ev ?_ ?_ hl ?_ (ksk_s1 _ _) (fun z => ksk_l1 _ _) (fun z => ksk_t1 _ _) ?_ ?_
  · intro y hy z hz
    obtain ⟨l1, _, rfl⟩ := List.mem_map.mp hy
    obtain ⟨l2, _, rfl⟩ := List.mem_map.mp hz
    rfl
  · refine .inl fun y hy => ?_
    obtain ⟨l1, _, rfl⟩ := List.mem_map.mp hy
    exact ⟨_, _, rfl⟩
  · intro l _
    have : (keyLW l).depth ≤ 8 := by
      show PyData.depth (.tuple [.int l.length, .str l]) ≤ 8
      simp [PyData.depth, PyData.depthAll]
    omega
  · rintro v l ⟨tv, rfl⟩ hx g tk kp
    have k1 : ∀ b o, X.base.get? b = some o → g.get? b = some o := fun b o e => kp b o (I2.bk b o e)
    refine lam_key (mg := X.mg) (mb := mb) (s := { t with heap := g, toks := tk }) hdp (kp _ _ hf) (hrec.keeps kp) (I2.mod.nolimit.keeps k1) (L.bind q pm ctv d) L.kind L.co L.gen L.cell L.own L.len (I2.mod.glob.keeps k1) hml (nb.keeps k1) ((hb "len" (by decide)).trans (by decide +kernel)) L.dbg (hls l hx)
  · intro out c' h' tk kp fr hat hlen he
    refine ⟨.ref (t.heap.objs.size + 1), upd H2 (t.heap.objs.size + 1) (.lst ((xs.mergeSort leLW).map V.str)), I2.laid (t' := tk) kp (Nat.le_succ _) ⟨?_, out, c', strs_each he, hat⟩, rfl, q1 H2 (xs.mergeSort leLW) _ to (List.mergeSort_perm _ _) ?_ (I2.hok.fresh (Nat.le_succ _))⟩
    · rw [List.length_map, List.length_mergeSort]
      exact hl
    · have tt := sortLe_total (listOrd itemOrd) false fun b => keyToks (keyLW b)
      exact List.pairwise_mergeSort tt.trans (fun a b => by rw [Bool.or_eq_true]; exact tt.total a b) xs
end
end PuL
set_option maxRecDepth 100000
set_option maxHeartbeats 4000000
namespace Pu
open PySem L2 PySem.Spec PyProof.Rows PuL
/-- a def whose code object is known -/
structure DIL (qual : Str) (sc : Scope) (f : Addr) (k : Nat) (c : Addr) where
  A : Around
  outer : List Env
  s : Shared
  H : Hp
  E : XK
  hr : Room k (A.deeper (envOfC qual sc s.heap.objs.size f (.ref c)))
  gd : A.guards = some []
def fam0L (c : Addr) (P : Program) (w : World) (K : PySem.W.Frag) (mg : Str → Option Value) (base : Heap) (N : List Str) (qual : Str) (sc : Scope) (f : Addr) (k : Nat) (cls : Cl) (flds : Nat → List Str) : Fam where
  ι := DIL qual sc f k c
  X := fun i => (cxOf CX0 P w K mg base N qual sc f (.ref c) i.A i.outer i.s i.H i.E).nox
  E := fun _ => E0
  K := K
  hK := fun _ => rfl
  cls := cls
  flds := flds
theorem huL {c : Addr} {P : Program} {w : World} {K : PySem.W.Frag} {mg : Str → Option Value} {base : Heap} {N : List Str} {qual : Str} {sc : Scope} {f : Addr} {k : Nat} {cls : Cl} {flds : Nat → List Str} : Hu (fam0L c P w K mg base N qual sc f k cls flds) := fun i => by
  have := i.hr.un
  show (i.A.deeper _).units + _ < _
  omega
theorem hgL {c : Addr} {P : Program} {w : World} {K : PySem.W.Frag} {mg : Str → Option Value} {base : Heap} {N : List Str} {qual : Str} {sc : Scope} {f : Addr} {k : Nat} {cls : Cl} {flds : Nat → List Str} : ∀ i, ((fam0L c P w K mg base N qual sc f k cls flds).X i).A.guards = some [] := fun i => i.gd
section
variable {P : Program} {w : World} {K : PySem.W.Frag} {mg : Str → Option Value} {base : Heap}
/-- a def, from its body, its code object known -/
theorem fnG_ofL {CX : CXT} {k : Nat} {x qual : Str} {st : Stmt} {f c : Addr} {fd : FuncData} {N ps : List Str} {sp : Sp} (F : Fun K x qual st f fd) (hcd : fd.code = .ref c) (S : FnScope N ps (defScope st)) (many : ∀ us H Q E, sp us H Q E → us.length = ps.length)
    (hbody : ∀ (A : Around) (out : List Env) (t : Shared) (H : Hp) (us : List V) (Q : VK) (E : XK), Room k (A.deeper (envOfC qual (defScope st) t.heap.objs.size f (.ref c))) → A.guards = some [] → sp us H Q E →
      ∃ r, PSs (cxOf CX P w K mg base N qual (defScope st) f (.ref c) A out t H E) (defBody st) r ∧ r { nx := fun _ H' => Q .non H', rt := Q } (L2.start N us) H) : FnG P w K mg base CX (k + 1) f fd ps sp := by
  obtain ⟨oc, od, kV, doc, pm, an, cdv, ct, osl, hfd, look, code⟩ := F.ex
  subst hfd
  have hcd : cdv = .ref c := hcd
  subst hcd
  constructor
  · exact many
  intro A out t H ar gs us Q E room hgd e0 bind vals want
  have kept : ∀ b o, base.get? b = some o → t.heap.get? b = some o := fun b o z => (e0.bs b o z).1
  have inK : K.In t.heap := e0.mod.kin.keeps kept
  have par : ∀ y ∈ ps.zip gs, (defScope st).names.lookup y.1 = some .local ∨ ((defScope st).names.lookup y.1 = some .cell ∧ ((cellsFrom (t.heap.objs.size + 1) (defScope st).names []).lookup y.1).isSome = true) := by
    intro y hy
    have hy1 : y.1 ∈ ps := by
      obtain ⟨n, v⟩ := y
      exact (List.of_mem_zip hy).1
    exact (S.par y.1 hy1).imp id fun z => ⟨z, PySem.W.cellsFrom_some _ _ _ (.inl z)⟩
  refine codeAny_call_function room.depth (inK _ _ look) rfl S.co S.gen rfl (PySem.W.codeRec_of inK code) (bind _ _ _ _ ?_)
  refine wpAny_newFunctionEnv_cells S.kind par fun env heq t1 x => ?_
  subst heq
  refine ⟨(e0.mod.nolimit.keeps kept).keeps x.toInCall.keep, codeAny_func ?_⟩
  obtain ⟨r, hr, hq⟩ := hbody A out t H us Q E (room.deeper _) hgd want
  have I0 := inv_start (CX := CX) (E := E) S room.hd e0 (many _ _ _ _ want) vals x
  refine wpAny_mono (hr.run [] t1 (L2.start N us) H _ I0 hq) (fun fl t2 z => ?_) fun _ _ z => z
  have fin : ∀ {σ' : L2.St} {H' : Hp} {v : V} {u : Value}, Inv (cxOf CX P w K mg base N qual (defScope st) f (.ref c) A out t H E) [] σ' H' t2 → RelV v u → Q v H' → CE out P w H t Q u t2 := fun {σ' H' v u} J rv q => ⟨v, H', J.os, J.bare, J.base, J.hok, rv, q⟩
  cases fl with
  | ret u => obtain ⟨v, σ', H', J, rv, q⟩ := z; exact fin J rv q
  | next => obtain ⟨σ', H', J, q⟩ := z; exact fin (v := V.non) (u := Value.none) J rfl q
  | brk => obtain ⟨σ', H', J, q⟩ := z; exact False.elim q
  | cont => obtain ⟨σ', H', J, q⟩ := z; exact False.elim q
end
theorem fn0L {c : Addr} {P : Program} {w : World} {K : PySem.W.Frag} {mg : Str → Option Value} {base : Heap} {N ps : List Str} {x qual : Str} {st : Stmt} {f : Addr} {fd : FuncData} {k : Nat} {cls : Cl} {flds : Nat → List Str} {t : PTS} {m : PM}
    (F : Fun K x qual st f fd) (hcd : fd.code = .ref c) (S : FnScope N ps (defScope st)) (h : VSs (fam0L c P w K mg base N qual (defScope st) f k cls flds) (defBody st) t) (len : ∀ ds s Q, m ds s Q → ds.length = ps.length)
    (ok : ∀ ds s Q, m ds s Q → t noX { nx := fun e => Q (.d .non) e.st, rt := fun c e => Q c e.st } ⟨startC N ds, s⟩) : FnG P w K mg base CX0 (k + 1) f fd ps (sp0 K cls flds m) := by
  refine fnG_ofL F hcd S (fun vs H Q E hq => ?_) (fun A outer s H vs Q E hr gd hq => ?_)
  · obtain ⟨κ, ds, st, Q', g, r, hm, _⟩ := hq
    rw [r.length]
    exact len ds st Q' hm
  · obtain ⟨κ, ds, st', Q', g, r, hm, fin⟩ := hq
    obtain ⟨rd, ph, fh⟩ := h.ex
    refine ⟨rd E0, (ph ⟨A, outer, s, H, E, hr, gd⟩).nox, ?_⟩
    refine fh ⟨K, H, κ, cls, flds, E0, noX⟩ (L2.start N vs) κ H ⟨startC N ds, st'⟩ _ _ ⟨rfl, rfl, rfl, fun _ _ _ _ _ _ _ _ z _ _ => False.elim z⟩ (start_rl g r) (ok ds st' Q' hm) ⟨fun σ' κ' H' e' x I q => ?_, fun v κ' H' c e' x gg rr q => fin v κ' H' c e'.st gg rr q, fun _ _ _ _ _ _ q => False.elim q, fun _ _ _ _ _ _ q => False.elim q⟩
    exact fin .non κ' H' (.d .non) e'.st I.gh .non q
def ltLW (a b : List Nat) : Prop := a.length < b.length ∨ (a.length = b.length ∧ ¬ b < a)
theorem leLW_iff {a b : List Nat} (h : leLW ⟨a.toArray⟩ ⟨b.toArray⟩ = true) : ltLW a b := by
  have h : (!PyProof.Rows.lexLt PyProof.Rows.itemOrd [.inl 1, .inl (((⟨b.toArray⟩ : Str).length : Nat) : Int), .inl 1, .inr b.toArray.toList, .inl 0] [.inl 1, .inl (((⟨a.toArray⟩ : Str).length : Nat) : Int), .inl 1, .inr a.toArray.toList, .inl 0]) = true := h
  rw [str_len, str_len] at h
  have s1 : ∀ (x y : Int ⊕ List Nat) (r t : List (Int ⊕ List Nat)), PyProof.Rows.lexLt PyProof.Rows.itemOrd (x :: r) (y :: t) = (PyProof.Rows.itemLt x y || (!PyProof.Rows.itemLt y x && PyProof.Rows.lexLt PyProof.Rows.itemOrd r t)) := fun x y r t => PyProof.Rows.lex_cons (O := PyProof.Rows.itemOrd) x y r t
  have s0 : PyProof.Rows.lexLt PyProof.Rows.itemOrd [] [] = false := rfl
  rw [s1, s1, s1, s1, s1, s0] at h
  simp only [PyProof.Rows.itemLt, Int.lt_irrefl, decide_false, Bool.false_or, Bool.not_false, Bool.true_and, Bool.and_false, Bool.or_false] at h
  unfold ltLW
  rw [Bool.not_eq_true', Bool.or_eq_false_iff, decide_eq_false_iff_not, Bool.and_eq_false_iff] at h
  obtain ⟨h1, h2⟩ := h
  by_cases hl : a.length < b.length
  · exact .inl hl
  · refine .inr ⟨by omega, fun z => ?_⟩
    rcases h2 with h2 | h2
    · rw [Bool.not_eq_false', decide_eq_true_eq] at h2
      omega
    · exact of_decide_eq_false h2 z
def tSLW (te : PTE) : PTE := fun x e Q => te x e fun r e1 => match rv r e1 with
  | some (.lst ds) => match strL ds with
    | some r => r.length ≤ sizeLine ∧ ∀ r' : List (List Nat), r'.Perm r → r'.Pairwise ltLW → Q (.own (r'.map D.str)) e1
    | none => False
  | _ => False
section
variable {Γ : Gm} {κ : Ka} {H : Hp} {σ : Sl} {env : En} {Y : Fam} {e : Expr} {te : PTE}
theorem tabs_step {H2 : Hp} {P : Addr} {q : Str} {ps : Array Value} (I : Rl Γ κ env σ H) (hq : (P, q) ∈ Γ.cls.tabs) (hn : ∀ t ∈ Γ.cls.tabs, t.1 = P → t.2 = q) (hP : H P = some (.tbl ps)) (to : TblTo H H2 P q ps) : ∃ κ', Ext κ H κ' H2 ∧ Rl Γ κ' env σ H2 := by
  have g := I.gh
  rcases to with rfl | ⟨more, d, nd, rfl, ht, hm⟩
  · exact ⟨κ, .refl .., I⟩
  obtain ⟨kP, ps0, e0, t0, m0⟩ := g.tabs.at_ _ hq
  have kP : κ P = some .tab := kP
  have e0 : H P = some (.tbl ps0) := e0
  rw [hP] at e0
  cases e0
  have kd := g.nokap nd
  have hd0 := g.nokap0 nd
  have dP : d ≠ P := fun z => by rw [z, kP] at kd; cases kd
  have nk : Γ.k0 d = none := by
    cases z : Γ.k0 d with
    | none => rfl
    | some x => have := g.sub d x z; rw [kd] at this; cases this
  have at2 : ∀ {b : Addr}, b ≠ d → b ≠ P → upd (upd H P (.tbl (ps ++ more))) d (LamX.CodeO d q) b = H b := fun h1 h2 => by rw [upd_ne h1, upd_ne h2]
  have ned : ∀ {b : Addr} {x : Kd}, κ b = some x → b ≠ d := fun e z => by rw [z, kd] at e; cases e
  have x : Ext κ H (put κ d .frz) (upd (upd H P (.tbl (ps ++ more))) d (LamX.CodeO d q)) := ⟨fun b y e => (Ext.put (H := H) kd).1 b y e, fun b e => at2 (ned e) fun z => by rw [z, kP] at e; cases e⟩
  refine ⟨_, x, I.step x (fun i b hb => ?_) ⟨fun b y e => x.1 b y (g.sub b y e), fun b y e => ?_, fun b y e => ?_, fun b e => ?_, fun b e => ?_, fun b k e => ?_, fun b c k e1 e2 => ?_, fun b u e hk => ?_, ⟨fun t ht' => ?_, fun b e => ?_⟩⟩⟩
  · obtain ⟨c, _, hc⟩ := I.ownS hb
    obtain ⟨f1, f2, f3⟩ := hc.facts
    have n1 : b ≠ d := fun z => f3 (z ▸ nd)
    exact ⟨by rw [put_ne n1]; exact f1, at2 n1 fun z => by rw [z, kP] at f1; cases f1⟩
  · by_cases hb : b = d
    · subst hb; exact .inr (.inl hd0)
    · rw [put_ne hb] at e; exact g.new b y e
  · by_cases hb : b = d
    · subst hb; rw [upd_same]; simp
    · rw [put_ne hb] at e
      by_cases hb2 : b = P
      · rw [hb2, upd_ne dP.symm, upd_same]; simp
      · rw [at2 hb hb2]; exact g.trk b y e
  · by_cases hb : b = d
    · subst hb; rw [upd_same]; simp
    · by_cases hb2 : b = P
      · rw [hb2, upd_ne dP.symm, upd_same]; simp
      · rw [at2 hb hb2]; exact g.trk0 b e
  · by_cases hb : b = d
    · subst hb; rw [put_same] at e; cases e
    · rw [put_ne hb] at e
      rw [at2 hb fun z => by rw [z, kP] at e; cases e]
      exact g.box b e
  · by_cases hb : b = d
    · subst hb; rw [put_same] at e; cases e
    · rw [put_ne hb] at e
      obtain ⟨so, h1, h2⟩ := g.obj b k e
      exact ⟨so, h1, h2.ext x (at2 hb fun z => by rw [z, kP] at e; cases e)⟩
  · have hb : b ≠ d := fun z => by subst z; rw [put_same] at e1; cases e1
    have hc : c ≠ d := fun z => by subst z; rw [put_same] at e2; cases e2
    rw [put_ne hb] at e1
    rw [put_ne hc] at e2
    exact g.inj b c k e1 e2
  · have hb : b ≠ d := fun z => by rw [z, hd0] at e; cases e
    have hb2 : b ≠ P := fun z => by
      subst z
      rcases g.new b _ kP with z | z | ⟨z, _⟩
      · rcases hk with q | q <;> (rw [q] at z; cases z)
      · rw [e] at z; cases z
      · cases z
    rw [at2 hb hb2]
    exact g.base b u e hk
  · obtain ⟨k1, ps1, e1, t1, m1⟩ := g.tabs.at_ t ht'
    have old : ∀ {v : Value}, (∃ d0, v = .ref d0 ∧ κ d0 = some .frz ∧ H d0 = some (LamX.CodeO d0 t.2)) → ∃ d0, v = .ref d0 ∧ put κ d .frz d0 = some .frz ∧ upd (upd H P (.tbl (ps ++ more))) d (LamX.CodeO d q) d0 = some (LamX.CodeO d0 t.2) := by
      rintro v ⟨d0, r1, r2, r3⟩
      exact ⟨d0, r1, by rw [put_ne (ned r2)]; exact r2, by rw [at2 (ned r2) fun z => by rw [z, kP] at r2; cases r2]; exact r3⟩
    refine ⟨by rw [put_ne (ned k1)]; exact k1, ?_⟩
    by_cases hb : t.1 = P
    · have e2 := hn t ht' hb
      rw [hb, hP] at e1
      cases e1
      refine ⟨ps ++ more, by rw [hb, upd_ne dP.symm, upd_same], ht, fun p v hv => ?_⟩
      rcases hm p v hv with z | z
      · exact old (m1 p v z)
      · exact ⟨d, z, put_same, by rw [upd_same, e2]⟩
    · exact ⟨ps1, by rw [at2 (ned k1) hb]; exact e1, t1, fun p v hv => old (m1 p v hv)⟩
  · by_cases hb : b = d
    · subst hb; rw [put_same] at e; cases e
    · rw [put_ne hb] at e
      exact g.tabs.only b e
theorem ve_slw {c P : Addr} {qn x : Str} {params : Arguments} {scope : Scope} {p p1 p2 p3 p4 p5 lpos kpos cpos : Pos} {k : Nat} (hm : ∀ i, (Y.X i).mg "sorted" = none) (hml : ∀ i, (Y.X i).mg "len" = none) (ha : VE Y e te) (TB : ∀ i, LamX.TabB (Y.X i).base (Y.X i).mg c P) (hcode : ∀ i, (Y.X i).env.code = .ref c)
    (hq : ∀ i, (Y.X i).env.qual ++ "<lambda>" = qn) (ht : (P, qn) ∈ Y.cls.tabs) (hn : ∀ t ∈ Y.cls.tabs, t.1 = P → t.2 = qn) (L : LamOk x scope params (.Tuple [.Call (.Name "len" p1) [.Name x p2] [] p3, .Name x p4] k p5)) (hu : Hu Y) (hd : ∀ i, (Y.X i).A.depth < recursionLimit)
    (hg : ∀ i, Gl (Y.X i) "sorted" := by intro _; rfl) (hs : ∀ X : Cx, starEach [e] X.env = (false, eval e X.env) :: starEach [] X.env := by intro _; rfl) :
    VE Y (.Call (.Name "sorted" p) [e] [⟨some "key", .Lambda params (.Tuple [.Call (.Name "len" p1) [.Name x p2] [] p3, .Name x p4] k p5) scope lpos, kpos⟩] cpos) (tSLW te) := by
  obtain ⟨ra, pa, fa⟩ := ha.ex
  refine ⟨⟨fun E => tSortLW Y.K P qn (ra E), fun i => by have := pe_sortLW (hg i) (hm i) (hml i) (pa i) (TB i) (hcode i) (hq i) L (hu i) (hd i) (hs _) (p := p) (lpos := lpos) (kpos := kpos) (cpos := cpos); rw [Y.hK i] at this; exact this, fun Γ σ κ H env Q Q' hK I q => ?_⟩⟩
  intro kk
  refine fa Γ σ κ H env _ _ hK I q fun v κ1 H1 r1 e1 x1 I1 h1 q1 => ?_
  cases e1' : rv r1 e1 with
  | none => rw [e1'] at q1; exact q1.elim
  | some d =>
    rw [e1'] at q1
    have rt := rv_ok I1 h1 e1'
    cases d with
    | lst ds =>
      simp only at q1
      cases e2 : strL ds with
      | none => rw [e2] at q1; exact q1.elim
      | some r =>
        rw [e2] at q1
        obtain ⟨q2, q3⟩ := q1
        obtain ⟨a, ws, rfl, g1, g2, g3⟩ := rt
        obtain ⟨e3, e4⟩ := strL_rep g3 e2
        subst e3
        have ht1 : (P, qn) ∈ Γ.cls.tabs := by rw [hK.c]; exact ht
        have hn1 : ∀ t ∈ Γ.cls.tabs, t.1 = P → t.2 = qn := by rw [hK.c]; exact hn
        obtain ⟨_, ps, t1, t2, t3⟩ := I1.gh.tabs.at_ _ ht1
        refine ⟨a, r.map fun s => (⟨s.toArray⟩ : Str), ps, rfl, ?_, by rw [List.length_map]; exact q2, fun l hl => ?_, ⟨t1, t2, fun p v hv => ?_⟩, fun H2 ys p to hp hs hpn => ?_⟩
        · rw [List.map_map]; exact SqL.of g1
        · obtain ⟨s, hs, rfl⟩ := List.mem_map.mp hl
          rw [str_len]
          exact (e4 s hs).1
        · obtain ⟨d, z1, _, z2⟩ := t3 p v hv
          exact ⟨d, z1, z2⟩
        · obtain ⟨κ2, x2, I2⟩ := tabs_step I1 ht1 hn1 t1 to
          obtain ⟨r', hr1, hr2⟩ := perm_strs hp
          subst hr1
          rw [List.map_map]
          refine kk _ κ2 _ (.own (r'.map D.str)) e1 ((x1.trans x2).trans (Ext.upd_new I2.gh hpn)) (I2.upd_new hpn) (new_lst I2 hpn ?_ (rep_strs fun s hs => e4 s (hr2.mem_iff.mp hs))) (q3 r' hr2 ?_)
          · rw [List.length_map, hr2.length_eq]
            exact q2
          · rw [List.pairwise_map] at hs
            exact hs.imp fun h => leLW_iff h
    | _ => exact q1.elim
end
end Pu
set_option maxRecDepth 100000
set_option maxHeartbeats 2000000
namespace Pu
open PySem L2 PySem.Spec PyProof.Rows
/-- the law's promise where tables of code objects stand, empty, at the start -/
def spLawT (cs : List (Addr × Addr)) (K : PySem.W.Frag) : Sp := fun vs H Q _ => ∃ (a : Addr) (ns : List Int), vs = [.ref a] ∧ SqL K H a (ns.map V.int) ∧ ns.length ≤ 63 ∧ (∀ p ∈ cs, H p.2 = some (.tbl #[])) ∧ ∀ H', Q (.bl true) H'
theorem FnG.lawT {P : Program} {w : PySem.World} {K : PySem.W.Frag} {mg : Str → Option Value} {base : Heap} {ps : List Str} {f : Addr} {fd : PySem.FuncData} {k : Nat} {cls : Cl} {flds : Nat → List Str} {m : PM} {cs : List (Addr × Addr)}
    (hm : ∀ n s Q, n ≤ 63 → (∀ s', Q (.d (.bl true)) s') → m [.scr n] s Q) (F : FnG P w K mg base CX0 k f fd ps (sp0 K cls flds m)) (hc : ∀ t ∈ cls.tabs, ∃ p ∈ cs, p.2 = t.1) : FnG P w K mg base CX0 k f fd ps (spLawT cs K) :=
  F.imp fun vs H Q E ⟨a, ns, e, hS, hl, hT, q⟩ => by
    subst e
    obtain ⟨κ, hκ, hr⟩ := script_rep (cls := cls) hS hl
    have tb : ∀ t ∈ cls.tabs, H t.1 = some (.tbl #[]) := fun t ht => by
      obtain ⟨p, hp, e⟩ := hc t ht
      rw [← e]
      exact hT p hp
    have dec : ∀ b, b ∈ cls.tabs.map (·.1) ∨ b ∉ cls.tabs.map (·.1) := fun b => Decidable.em _
    have at_ : ∀ {b : Addr}, b ∈ cls.tabs.map (·.1) → H b = some (.tbl #[]) := fun {b} hb => by
      obtain ⟨t, ht, e⟩ := List.mem_map.mp hb
      rw [← e]
      exact tb t ht
    have k1 : ∀ {b : Addr}, b ∈ cls.tabs.map (·.1) → (fun b => if b ∈ cls.tabs.map (·.1) then some Kd.tab else κ b) b = some .tab := fun hb => if_pos hb
    have k2 : ∀ {b : Addr}, b ∉ cls.tabs.map (·.1) → (fun b => if b ∈ cls.tabs.map (·.1) then some Kd.tab else κ b) b = κ b := fun hb => if_neg hb
    generalize (fun b => if b ∈ cls.tabs.map (·.1) then some Kd.tab else κ b) = κ2 at k1 k2
    have kinds : ∀ b x, κ2 b = some x → (x = .tab ∧ b ∈ cls.tabs.map (·.1)) ∨ (x = .frz ∧ H b ≠ none ∧ b ∉ cls.tabs.map (·.1)) := fun b x e => by
      rcases dec b with hb | hb
      · rw [k1 hb] at e
        cases e
        exact .inl ⟨rfl, hb⟩
      · rw [k2 hb] at e
        exact .inr ⟨(hκ b x e).1, (hκ b x e).2, hb⟩
    have hr2 : Rep K cls κ2 H (.ref a) (.scr ns.length) := by
      cases hr with
      | scr h1 hn h2 =>
        refine .scr ?_ hn h2
        rcases h1 with ⟨hk, h1⟩ | h1
        · refine .inl ⟨?_, h1⟩
          rcases dec a with hb | hb
          · exfalso
            have z := at_ hb
            rcases h1 with h1 | ⟨o, h1⟩
            · rw [z] at h1; cases h1
            · rw [z] at h1; cases h1
          · rw [k2 hb]; exact hk
        · exact .inr h1
    refine ⟨κ2, [.scr ns.length], [], fun c _ => c = .d (.bl true), ⟨fun _ _ e => e, fun _ _ e => .inl e, fun b x e => ?_, fun _ e => e, fun b e => ?_, fun b k e => ?_, fun b c k e _ => ?_, fun _ _ e _ => e, ⟨fun t ht => ⟨k1 (List.mem_map_of_mem ht), #[], tb t ht, True.intro, fun p v hv => ?_⟩, fun b e => ?_⟩⟩, .cons hr2 .nil, hm _ _ _ hl fun _ => rfl, fun v κ' H' c st' g r e => ?_⟩
    · rcases kinds b x e with ⟨_, hb⟩ | ⟨_, hb, _⟩
      · show H b ≠ none
        rw [at_ hb]; simp
      · exact hb
    · rcases kinds b _ e with ⟨z, _⟩ | ⟨z, _⟩ <;> cases z
    · rcases kinds b _ e with ⟨z, _⟩ | ⟨z, _⟩ <;> cases z
    · rcases kinds b _ e with ⟨z, _⟩ | ⟨z, _⟩ <;> cases z
    · have z : codeAmong p [] = some v := hv
      simp [codeAmong] at z
    · rcases kinds b _ e with ⟨_, hb⟩ | ⟨z, _⟩
      · obtain ⟨t, ht, e2⟩ := List.mem_map.mp hb
        exact ⟨t.2, by rw [← e2]; exact ht⟩
      · cases z
    · subst e
      have r : Rep K cls κ' H' v (.bl true) := r
      cases r
      exact q H'
/-- from the state behind the top, the script and the tables tracked -/
theorem lawT_at {P : Program} {w : World} {K : PySem.W.Frag} {mg mb : Str → Option Value} {k : Nat} {fa a : Addr} {cs : List (Addr × Addr)} {fd : FuncData} {x : Str} {sp : Sp} {s0 : Shared} {us : List Value} {H : Hp}
    (inK : K.In s0.heap) (ns1 : s0.heap.Ns mainGlobals mg) (ns2 : s0.heap.Ns builtinsNs mb) (boot : ∀ y : Str, y ≠ "__name__" → mb y = bootBuiltins y) (lim : s0.heap.NoLimit) (gen : s0.gens = #[])
    (bm0 : ∃ (bm : Addr) (ob : Obj), mg "__builtins__" = some (.ref bm) ∧ bm ≠ builtinsNs ∧ s0.heap.get? bm = some ob ∧ ob.cls = .type "module" ∧ ob.dict = some builtinsNs ∧ ob.data = .plain)
    (empty : ∀ p ∈ cs, s0.heap.get? p.2 = some (PySem.W.tabObj #[])) (notK : ∀ p ∈ cs, K.lookup p.2 = none) (heads : ∀ p ∈ cs, PySem.W.CodeHd s0.heap p.1 p.2)
    (obj : s0.heap.get? a = some { cls := .type "list", data := .seq us.toArray }) (room : Room k callerA)
    (F : ∀ base : Heap, K.In base → base.Ns mainGlobals mg → (∀ p ∈ cs, LamX.TabB base mg p.1 p.2) → FnG P w K mg base CX0 k fa fd [x] sp) (bind : ∀ (s : Shared) (u : Value), BindsTo s fd ⟨[u], []⟩ [(x, u)])
    (only : ∀ b, H b = none ∨ (∃ p ∈ cs, p.2 = b) ∨ ∃ o xs, H b = some (.frz o (.lst xs))) (tbl : ∀ p ∈ cs, H p.2 = some (.tbl #[])) (want : sp [.ref a] H (fun v _ => v = .bl true) fun _ _ _ => False) (ok : HOk P w H s0.heap) (one : ∀ b, H b ≠ none → b = a ∨ ∃ p ∈ cs, p.2 = b) (out : H a ≠ none → K.lookup a = none) :
    codeAny (model P w) callerA (.call (.ref fa) ⟨[.ref a], []⟩) (fun r s' => r = .ok (.ret (.bool true)) ∧ OldK s0.heap s'.heap ∧ s'.os = s0.os ∧ AllBare s'.gens) s0 := by
  have hid : ∀ {b : Addr} {o : Obj}, s0.heap.get? b = some o → H b = none → (hidT s0.heap H).get? b = some o := fun z n => hidT_get z n
  have free : ∀ {b : Addr} {o : Obj}, s0.heap.get? b = some o → (∀ vs n, o.data ≠ .seq vs n) → o.data ≠ .fields #[] → H b = none := by
    intro b o z d1 d2
    cases q : H b with
    | none => rfl
    | some u =>
      rcases one b (by rw [q]; exact fun y => nomatch y) with hb | ⟨p, hp, hb⟩
      · rw [hb, obj] at z
        cases z
        exact absurd rfl (d1 _ _)
      · rw [← hb, empty p hp] at z
        cases z
        exact absurd rfl d2
  have ns : ∀ {b : Addr} {m : Str → Option Value}, s0.heap.Ns b m → (hidT s0.heap H).Ns b m := by
    rintro b m ⟨o, es, ep, z, d, r⟩
    exact ⟨o, es, ep, hid z (free z (fun vs n y => by rw [d] at y; cases y) fun y => by rw [d] at y; cases y), d, r⟩
  have inB : K.In (hidT s0.heap H) := by
    intro b o z
    refine hid (inK b o z) ?_
    cases q : H b with
    | none => rfl
    | some u =>
      rcases one b (by rw [q]; exact fun y => nomatch y) with hb | ⟨p, hp, hb⟩
      · subst hb
        rw [out (by rw [q]; exact fun y => nomatch y)] at z
        cases z
      · rw [← hb, notK p hp] at z
        cases z
  have tabB : ∀ p ∈ cs, LamX.TabB (hidT s0.heap H) mg p.1 p.2 := by
    intro p hp
    have noG : mainGlobals ≠ p.2 := fun z => by
      obtain ⟨o, es, ep, e, d, _⟩ := ns1
      rw [z, empty p hp] at e
      cases e
      cases d
    refine ⟨?_, ?_, noG⟩
    · obtain ⟨o, vs, r1, r2, r3, r4, r5, r6, r7, z, y1, y2, y3, rest⟩ := heads p hp
      refine ⟨o, vs, r1, r2, r3, r4, r5, r6, r7, hid z (free z (fun us n y => by rw [y2] at y; cases y) fun y => ?_), y1, y2, y3, rest⟩
      rw [y2] at y
      cases y
      simp at y3
    · obtain ⟨bm, ob, b1, b2, b3, b4, b5, b6⟩ := bm0
      refine ⟨bm, ob, b1, b2, fun z => ?_, fun z => ?_, hid b3 (free b3 (fun us n y => by rw [b6] at y; cases y) fun y => by rw [b6] at y; cases y), b4, b5, b6⟩
      · obtain ⟨o, es, ep, e, d, _⟩ := ns1
        rw [z, e] at b3
        cases b3
        rw [d] at b6
        cases b6
      · rw [z, empty p hp] at b3
        cases b3
        cases b6
  obtain ⟨mc, l1, l2⟩ := lim
  have env : Env0 P w K mg (hidT s0.heap H) callerA [] s0 H :=
    ⟨rfl, ⟨inB, ns ns1, ⟨mb, ns ns2, boot⟩, ⟨mc, ns l1, l2⟩⟩, fun b o z => of_hidT z, Nat.le_of_eq (hidT_size _ _), trivial, fun b hb => (List.not_mem_nil hb).elim, ok, .of_eq gen⟩
  have run := (F _ inB (ns ns1) tabB).go callerA [] s0 H ⟨[.ref a], []⟩ [.ref a] [.ref a] _ _ room rfl env (bind s0 (.ref a)) (.cons rfl .nil) want
  refine codeAny_mono run fun r s' z => ?_
  cases r with
  | error e => exact False.elim z
  | ok fl =>
    cases fl with
    | next => exact False.elim z
    | brk => exact False.elim z
    | cont => exact False.elim z
    | ret u =>
      obtain ⟨v, H', os, bare, un, ok', rel, q⟩ := z
      have q : v = .bl true := q
      subst q
      have rel : u = Value.bool true := rel
      subst rel
      have grown : ∀ p ∈ cs, ∃ more : Array Value, s'.heap.get? p.2 = some { cls := .none, data := .fields more } := fun p hp => by
        obtain ⟨more, y⟩ := un.tbls p.2 #[] (tbl p hp)
        exact ⟨_, ok' p.2 _ y⟩
      have kept : ∀ b o, (¬ ∃ p ∈ cs, p.2 = b) → s0.heap.get? b = some o → s'.heap.get? b = some o := by
        intro b o nb z
        cases q : H b with
        | none => exact un.keep b o z q (fun y => List.not_mem_nil y) (fun y => List.not_mem_nil y)
        | some u =>
          rcases only b with y | y | ⟨ob, xs, y⟩
          · rw [q] at y; cases y
          · exact absurd y nb
          · have y1 := (ok b _ y).1
            have y2 := (ok' b _ (un.frzs b ob _ y)).1
            rw [z] at y1
            cases y1
            exact y2
      refine ⟨rfl, ⟨fun b o z => ?_, fun b o z => ?_⟩, os, bare⟩
      · by_cases nb : ∃ p ∈ cs, p.2 = b
        · obtain ⟨p, hp, rfl⟩ := nb
          obtain ⟨more, y⟩ := grown p hp
          rw [empty p hp] at z
          cases z
          exact .inr (.inl ⟨((heads p hp).tab (empty p hp)).isCodeTable, rfl, #[], more, rfl, by rw [Array.empty_append]; exact y⟩)
        · exact .inl (kept b o nb z)
      · by_cases nb : ∃ p ∈ cs, p.2 = b
        · obtain ⟨p, hp, rfl⟩ := nb
          obtain ⟨more, y⟩ := grown p hp
          exact ⟨_, y⟩
        · exact ⟨o, kept b o nb z⟩
theorem walkT {l : PySem.W.OpenLaw} {q : Program} {loose : List Str} {XP : (Str → Option Value) → Heap → Prop} {YP : World → Heap → Prop} {d : DefRec} {K : Params → PySem.W.Frag} {k : Nat} {ts : List Addr} (room : Room k callerA) (most : l.most = some 63) (nodef : d.params.defaults = [])
    (hY : ∀ (w : World) (h : Heap), YP w h → (K w.params).In h) (hT : ∀ (w : World) (h : Heap), YP w h → ∀ P ∈ ts, h.get? P = some (PySem.W.tabObj #[]))
    (F : ∀ (w : World) (mg : Str → Option Value) (fa : Addr) (h : Heap), (K w.params).In h → h.Ns mainGlobals mg → mg d.name = some (.ref fa) →
      ∃ (fd : FuncData) (cs : List (Addr × Addr)), (∀ p ∈ cs, p.2 ∈ ts) ∧ (∀ p ∈ cs, (K w.params).lookup p.2 = none) ∧ (∀ p ∈ cs, PySem.W.CodeHd h p.1 p.2) ∧ (∀ (s : Shared) (u : Value), BindsTo s fd ⟨[u], []⟩ [("_law_script", u)]) ∧
        ∀ base : Heap, (K w.params).In base → base.Ns mainGlobals mg → (∀ p ∈ cs, LamX.TabB base mg p.1 p.2) → FnG l.prog w (K w.params) mg base CX0 k fa fd ["_law_script"] (spLawT cs (K w.params))) :
    PySem.W.WalkO q loose XP YP l.row.toRowW d [] (fun f vs => PySem.call f vs) := by
  refine Att.attach_call most nodef ?_
  intro w s1 s0 mg mb fa o pm cd doc a us ns G Y ho hd hcd hmg obj areI len gen
  have inK := hY w _ Y
  obtain ⟨fd, cs, inT, notK, heads, bind, F⟩ := F w mg fa _ inK G.T.g hmg
  have empty : ∀ p ∈ cs, s0.heap.get? p.2 = some (PySem.W.tabObj #[]) := fun p hp => hT w _ Y _ (inT p hp)
  have lens := areI.length
  have vals := vals_ints areI
  have short : ns.length ≤ sizeLine := Nat.le_trans len (by decide)
  have aT : ¬ ∃ p ∈ cs, p.2 = a := fun ⟨p, hp, z⟩ => by
    have := empty p hp
    rw [z, obj] at this
    have z2 : Data.seq us.toArray _ = Data.fields #[] := congrArg Obj.data (Option.some.inj this)
    cases z2
  have go := fun (H : Hp) (o1 : ∀ b, H b = none ∨ (∃ p ∈ cs, p.2 = b) ∨ ∃ o xs, H b = some (.frz o (.lst xs))) (o3 : ∀ p ∈ cs, H p.2 = some (.tbl #[])) (o2 : SqL (K w.params) H a (ns.map V.int)) =>
    lawT_at (H := H) inK G.T.g G.T.b G.T.builtins G.T.nolimit gen G.T.bmain empty notK heads obj room F bind o1 o3 ⟨a, ns, rfl, o2, len, o3, fun _ => rfl⟩
  have dec : ∀ b, (∃ p ∈ cs, p.2 = b) ∨ ¬ ∃ p ∈ cs, p.2 = b := fun b => Classical.em _
  open Classical in
  cases hk : (K w.params).lookup a with
  | some o' =>
    have z := inK a o' hk
    rw [obj] at z
    cases z
    have p1 : ∀ {b : Addr}, (∃ p ∈ cs, p.2 = b) → (fun b => if ∃ p ∈ cs, p.2 = b then some (HO.tbl #[]) else none) b = some (HO.tbl #[]) := fun h => if_pos h
    have p2 : ∀ {b : Addr}, (¬ ∃ p ∈ cs, p.2 = b) → (fun b => if ∃ p ∈ cs, p.2 = b then some (HO.tbl #[]) else none) b = none := fun h => if_neg h
    generalize hH : (fun b => if ∃ p ∈ cs, p.2 = b then some (HO.tbl #[]) else none) = H at p1 p2
    refine go H (fun b => ?_) (fun p hp => p1 ⟨p, hp, rfl⟩) (.inr ⟨_, us.toArray, _, hk, rfl, rfl, rfl, ?_, by simpa using vals⟩) (fun b u z => ?_) (fun b z => ?_) fun z => absurd (p2 aT) z
    · exact (dec b).elim (fun h => .inr (.inl h)) fun h => .inl (p2 h)
    · rw [List.size_toArray, lens]
      exact short
    · rcases dec b with h | h
      · rw [p1 h] at z
        cases z
        obtain ⟨p, hp, e⟩ := h
        rw [← e]
        exact empty p hp
      · rw [p2 h] at z
        cases z
    · exact (dec b).elim .inr fun h => absurd (p2 h) z
  | none =>
    have p0 : (fun b => if b = a then some (HO.frz { cls := .type "list", data := .seq us.toArray } (.lst (ns.map V.int))) else if ∃ p ∈ cs, p.2 = b then some (HO.tbl #[]) else none) a = some (HO.frz { cls := .type "list", data := .seq us.toArray } (.lst (ns.map V.int))) := if_pos rfl
    have p1 : ∀ {b : Addr}, b ≠ a → (∃ p ∈ cs, p.2 = b) → (fun b => if b = a then some (HO.frz { cls := .type "list", data := .seq us.toArray } (.lst (ns.map V.int))) else if ∃ p ∈ cs, p.2 = b then some (HO.tbl #[]) else none) b = some (HO.tbl #[]) := fun h1 h => (if_neg h1).trans (if_pos h)
    have p2 : ∀ {b : Addr}, b ≠ a → (¬ ∃ p ∈ cs, p.2 = b) → (fun b => if b = a then some (HO.frz { cls := .type "list", data := .seq us.toArray } (.lst (ns.map V.int))) else if ∃ p ∈ cs, p.2 = b then some (HO.tbl #[]) else none) b = none := fun h1 h => (if_neg h1).trans (if_neg h)
    generalize hH : (fun b => if b = a then some (HO.frz { cls := .type "list", data := .seq us.toArray } (.lst (ns.map V.int))) else if ∃ p ∈ cs, p.2 = b then some (HO.tbl #[]) else none) = H at p0 p1 p2
    have na : ∀ {b : Addr}, (∃ p ∈ cs, p.2 = b) → b ≠ a := fun h z => aT (z ▸ h)
    refine go H (fun b => ?_) (fun p hp => p1 (na ⟨p, hp, rfl⟩) ⟨p, hp, rfl⟩) (.inl (.inr ⟨_, p0⟩)) (fun b u z => ?_) (fun b z => ?_) fun _ => hk
    · by_cases y : b = a
      · subst y
        exact .inr (.inr ⟨_, _, p0⟩)
      · exact (dec b).elim (fun h => .inr (.inl h)) fun h => .inl (p2 y h)
    · by_cases y : b = a
      · subst y
        rw [p0] at z
        cases z
        exact ⟨obj, by rw [List.length_map]; exact short, us, _, vals, obj⟩
      · rcases dec b with h | h
        · rw [p1 y h] at z
          cases z
          obtain ⟨p, hp, e⟩ := h
          rw [← e]
          exact empty p hp
        · rw [p2 y h] at z
          cases z
    · by_cases y : b = a
      · exact .inl y
      · exact (dec b).elim .inr fun h => absurd (p2 y h) z
end Pu
set_option maxRecDepth 100000
set_option maxHeartbeats 4000000
namespace Pu
open PySem L2 PySem.Spec PyProof.Rows
section
variable {Γ : Gm} {κ κ' : Ka} {H H' : Hp} {env env' : En} {σ : Sl} {v : V} {Y : Fam} {e : Expr} {es : List Expr} {pos : Pos}
def tListK (t : PTR) : PTE := fun x e Q => t x e fun rs e1 => match rs with
  | [r] => match kgetR r e1 with
    | some kvs => kvs.length ≤ sizeLine ∧ (∀ kv ∈ kvs, ∀ s, kv.1 = .inr s → SOk s.cps.toList) ∧ Q (.own (kvs.map fun kv => invK kv.1)) e1
    | none => False
  | _ => False
theorem pr_keys {K : PySem.W.Frag} {cl : Cl} : ∀ {vs : List (Key × V)} {ds : List (Key × D)}, PR K cl κ H vs ds → vs.map (·.1) = ds.map (·.1)
  | [], _, h => by cases h; rfl
  | (k, v) :: vs, _, h => by
    cases h with
    | cons h1 h2 =>
      rw [List.map_cons, List.map_cons, pr_keys h2]
end
end Pu
set_option maxRecDepth 100000
set_option maxHeartbeats 4000000
namespace Pu
open PySem L2 PuE
def leL (a b : List Nat) : Bool := decide (a.length < b.length) || (decide (a.length = b.length) && !decide (b < a))
def srtL (l : List (List Nat)) : List (List Nat) := l.mergeSort leL
theorem leL_iff {a b : List Nat} : leL a b = true ↔ ltLW a b := by
  unfold leL ltLW
  simp
theorem leL_trans (a b c : List Nat) (h1 : leL a b = true) (h2 : leL b c = true) : leL a c = true := by
  rw [leL_iff] at *
  unfold ltLW at *
  rcases h1 with h1 | ⟨h1, g1⟩ <;> rcases h2 with h2 | ⟨h2, g2⟩
  · exact .inl (by omega)
  · exact .inl (by omega)
  · exact .inl (by omega)
  · refine .inr ⟨by omega, fun z => ?_⟩
    exact List.not_lt.mpr (List.le_trans (List.not_lt.mp g1) (List.not_lt.mp g2)) z
theorem leL_total (a b : List Nat) : (leL a b || leL b a) = true := by
  rw [Bool.or_eq_true, leL_iff, leL_iff]
  unfold ltLW
  by_cases h : a.length = b.length
  · by_cases z : b < a
    · exact .inr (.inr ⟨h.symm, fun y => List.lt_asymm z y⟩)
    · exact .inl (.inr ⟨h, z⟩)
  · rcases Nat.lt_or_gt_of_ne h with h | h
    · exact .inl (.inl h)
    · exact .inr (.inl h)
theorem ltLW_anti {a b : List Nat} (h1 : ltLW a b) (h2 : ltLW b a) : a = b := by
  unfold ltLW at *
  rcases h1 with h1 | ⟨h1, g1⟩
  · rcases h2 with h2 | ⟨h2, _⟩ <;> omega
  · rcases h2 with h2 | ⟨h2, g2⟩
    · omega
    · exact List.le_antisymm (List.not_lt.mp g1) (List.not_lt.mp g2)
theorem srtL_perm (l : List (List Nat)) : (srtL l).Perm l := List.mergeSort_perm _ _
theorem srtL_asc (l : List (List Nat)) : (srtL l).Pairwise ltLW := (List.pairwise_mergeSort leL_trans leL_total l).imp fun h => leL_iff.mp h
theorem srtL_unique {l r : List (List Nat)} (p : r.Perm l) (h : r.Pairwise ltLW) : r = srtL l :=
  (p.trans (srtL_perm l).symm).eq_of_pairwise (fun a b _ _ h1 h2 => ltLW_anti h1 h2) h (srtL_asc l)
def slwH (o : Option D) (e : En) (h : HB (R → En → Prop)) : Prop := match o with
  | some (.lst ds) => match strL ds with
    | some r => r.length ≤ sizeLine ∧ ∀ r' : List (List Nat), r'.Perm r → r'.Pairwise ltLW → h.b (.own (r'.map D.str)) e
    | none => False
  | _ => False
theorem x_slw {te x e Q} : tSLW te x e Q = te x e fun r e1 => slwH (rv r e1) e1 (HB.mk Q ()) := rfl
theorem slw_ok {ls : List (List Nat)} {e : En} {Q : R → En → Prop} (hl : ls.length ≤ 16777216) (q : Q (.own ((srtL ls).map D.str)) e) : slwH (some (.lst (ls.map D.str))) e (HB.mk Q ()) := by
  unfold slwH
  have e1 : strL (ls.map D.str) = some ls := strL_map ls
  simp only [e1]
  exact ⟨hl, fun r' hp hs => by rw [srtL_unique hp hs]; exact q⟩
def lkH (o : Option (List (Key × D))) (e : En) (h : HB (R → En → Prop)) : Prop := match o with
  | some kvs => kvs.length ≤ sizeLine ∧ (∀ kv ∈ kvs, ∀ s, kv.1 = .inr s → SOk s.cps.toList) ∧ h.b (.own (kvs.map fun kv => invK kv.1)) e
  | none => False
theorem x_listK {t x e Q} : tListK t x e Q = t x e fun rs e1 => oneR rs <| HB.mk (fun r => lkH (kgetR r e1) e1 (HB.mk Q ())) () := by
  rfl
theorem x_lkH {kvs e Q} : lkH (some kvs) e (HB.mk Q ()) = (kvs.length ≤ sizeLine ∧ (∀ kv ∈ kvs, ∀ s, kv.1 = .inr s → SOk s.cps.toList) ∧ Q (.own (kvs.map fun kv => invK kv.1)) e) := rfl
end Pu
set_option maxRecDepth 100000
set_option maxHeartbeats 4000000
namespace PuL
open PySem PySem.Spec PyProof.Rows L2 PySem.W
def tSortLWD (K : Frag) (P : Addr) (q : Str) (te : TE) : TE := fun σ H Q => te σ H fun v H1 => ∃ (a : Addr) (kvs : List (Key × V)) (xs : List Str) (ps : Array Value), v = .ref a ∧ Rd H1 a (.dK kvs) ∧ kvs.map (·.1) = xs.map Sum.inr ∧ xs.length ≤ sizeLine ∧ (∀ l ∈ xs, l.length ≤ sizeLine) ∧ TblAt H1 P q ps ∧
  ∀ (H2 : Hp) (ys : List Str) (p : Addr), TblTo H1 H2 P q ps → ys.Perm xs → ys.Pairwise (fun a b => leLW a b = true) → H2 p = none → Q (.ref p) (upd H2 p (.lst (ys.map V.str)))
theorem ev_of : ∀ {vs : List Value} {xs : List Str}, StrsAre vs xs → EachIs (fun (v : Value) (l : Str) => ∃ t, v = .str l t) vs xs
  | _, _, .nil => .nil
  | _, _, .cons y t h => .cons ⟨t, rfl⟩ (ev_of h)
section
variable {X : Cx} {e : Expr} {te : TE}
theorem pe_sortLWD {c P : Addr} {q x : Str} {params : Arguments} {scope : Scope} {p p1 p2 p3 p4 p5 lpos kpos cpos : Pos} {k : Nat} (hcalm : X.calm = true) (hg : Gl X "sorted") (hm : X.mg "sorted" = none) (hml : X.mg "len" = none) (ha : PE X e te) (TB : LamX.TabB X.base X.mg c P) (hcode : X.env.code = .ref c)
    (hq : X.env.qual ++ "<lambda>" = q) (L : LamOk x scope params (.Tuple [.Call (.Name "len" p1) [.Name x p2] [] p3, .Name x p4] k p5)) (hu : X.A.units + 65 < cLine) (hdp : X.A.depth < recursionLimit)
    (hs : starEach [e] X.env = (false, eval e X.env) :: starEach [] X.env := by rfl) :
    PE X (.Call (.Name "sorted" p) [e] [⟨some "key", .Lambda params (.Tuple [.Call (.Name "len" p1) [.Name x p2] [] p3, .Name x p4] k p5) scope lpos, kpos⟩] cpos) (tSortLWD X.K P q te) := by
  refine ⟨fun pins s σ H Q I h => ?_⟩
  refine wpAny_Call_Name_kw (ld_blt I hg hm (u := .builtin "sorted") (by decide +kernel) ?_)
  refine PyProof.Rows.callWith_kw ?_ (by rw [hs]; rfl) (by rw [hs]; rfl)
  rw [hs]
  show wpAny _ _ (spliced ((false, eval e X.env) :: backTo cpos (starEach [] X.env))) _ _ s
  refine Calls.spliced_cons (thn (ha.run pins s σ H _ I h) fun v s1 ⟨v', H1, I1, r1, a, kvs, xs, ps, e1, hd1, hkk, hl, hls, hT, q1⟩ => ?_)
  subst e1
  cases r1
  refine Calls.spliced_nil ?_
  show wpAny _ _ (evalAll ((do let v ← eval _ X.env; standAt cpos; pure v) :: _)) _ _ s1
  refine wpAny_evalAll_cons (wpAny_bind (lam_made I1 TB hcode hq hT (L.def_ _) (L.clo _) fun f d pm ctv H2 t I2 to hf hrec => wpAny_bind (wpAny_standAt (wpAny_pure ?_))))
  refine wpAny_evalAll_nil ?_
  obtain ⟨mb, nb, hb⟩ := I2.mod.blt
  have kz := sizeLine_eq
  show wpAny _ _ (call (.builtin "sorted") [.ref a] [("key", .ref f)]) _ _ t
  have hd : Rd H2 a (.dK kvs) := by
    rcases hd1 with h | ⟨o, h⟩
    · exact .inl (to.keep hT.1 h fun _ z => by cases z)
    · exact .inr ⟨o, to.keep hT.1 h fun _ z => by cases z⟩
  obtain ⟨z, lo, vs, rel, dd⟩ := dk_rd I2.hok hd
  obtain ⟨ep, hat⟩ := dd.dictAt
  have hkeys : vs.map (·.1) = xs.map Sum.inr := rel.keys.symm.trans hkk
  have hvl : vs.length = xs.length := by
    have e := congrArg List.length hkeys
    rw [List.length_map, List.length_map] at e
    exact e
  have h16 : vs.length ≤ sizeLine := by rw [hvl]; exact hl
  refine call_function_entry_kw kind_sorted plain_sorted entry_sorted (ksk_s1 _ _) ?_
  unfold Builtin.«sorted»
  refine wpAny_bind (m := checkCount "sorted" 1 1 _) (wpAny_pure ?_)
  refine wpAny_bind (PySem.W.kdu_collect (A := X.A.in1) (PySem.W.kdl_dict (knd := mixKind X.prog X.w) (kvs := vs) (ep := ep) lo) (I2.ok.hd hcalm) hat h16 fun h' tk acc hk hacc => ?_)
  have hal : acc.toList.length = xs.length := by rw [Array.length_toList, hacc.1, hvl]
  have hS : StrsAre acc.toList xs := strs_at hal fun j v e => by
    obtain ⟨k, x, e1, e2⟩ := hacc.2 j v (by rw [← Array.getElem?_toList]; exact e)
    have e3 : (vs.map (·.1))[j]? = some k := by rw [List.getElem?_map, e1]; all_goals rfl
    rw [hkeys, List.getElem?_map] at e3
    cases e4 : xs[j]? with
    | none => rw [e4] at e3; cases e3
    | some y =>
      rw [e4] at e3
      have e5 : Sum.inr y = k := Option.some.inj e3
      subst e5
      obtain ⟨t, ev⟩ := Value.isStrOf_shape (x := y) (v := v) e2
      exact ⟨y, t, rfl, ev⟩
  have I3 : Inv X pins σ H2 { t with heap := h', toks := tk } := I2.kept hk
  refine wpAny_bind (wpAny_newList ?_ (by rw [hal]; exact hl))
  have hoL : (h'.push (seqObj "list" acc.toList.toArray 0)).get? h'.objs.size = some (seqObj "list" acc.toList.toArray 0) := Heap.get?_push_size _ rfl
  show wpAny _ _ _ _ _ { t with heap := h'.push (seqObj "list" acc.toList.toArray 0), toks := tk }
  have ev : EachIs (fun (v : Value) (l : Str) => ∃ t, v = .str l t) acc.toList xs := ev_of hS
  have ne : ∀ {b : Addr} {o : Obj}, t.heap.get? b = some o → b ≠ h'.objs.size := fun e => Nat.ne_of_lt (Heap.lt_size (hk _ _ e))
  refine wpAny_bind (wpAny_holding (list_sort_key_data (A := X.A.in1) (b := false) (f := .ref f) (s := { t with heap := h'.push (seqObj "list" acc.toList.toArray 0), toks := tk }) (R := fun (v : Value) (l : Str) => ∃ t, v = .str l t) keyLW hoL ev ?_ ?_ hl ?_ (ksk_l1 _ _) (ksk_t1 _ _) ?_ ?_))
  · intro y hy z hz
    obtain ⟨l1, _, rfl⟩ := List.mem_map.mp hy
    obtain ⟨l2, _, rfl⟩ := List.mem_map.mp hz
    rfl
  · refine .inl fun y hy => ?_
    obtain ⟨l1, _, rfl⟩ := List.mem_map.mp hy
    exact ⟨_, _, rfl⟩
  · intro l _
    have : (keyLW l).depth ≤ 8 := by
      show PyData.depth (.tuple [.int l.length, .str l]) ≤ 8
      simp [PyData.depth, PyData.depthAll]
    have : X.A.in1.units = X.A.units + 1 := rfl
    omega
  · rintro v l ⟨tv, rfl⟩ hx g tk2 kb
    have kp : ∀ b o, t.heap.get? b = some o → g.get? b = some o := fun b o e => kb b o (ne e) (Heap.get?_push_of_some _ (hk b o e))
    have k1 : ∀ b o, X.base.get? b = some o → g.get? b = some o := fun b o e => kp b o (I2.bk b o e)
    refine lam_key (mg := X.mg) (mb := mb) (s := { t with heap := g, toks := tk2 }) hdp (kp _ _ hf) (hrec.keeps kp) (I2.mod.nolimit.keeps k1) (L.bind q pm ctv d) L.kind L.co L.gen L.cell L.own L.len (I2.mod.glob.keeps k1) hml (nb.keeps k1) ((hb "len" (by decide)).trans (by decide +kernel)) L.dbg (hls l hx)
  · intro out c' h2 tk2 kb hat2 hlen he
    refine wpAny_pure ⟨_, rfl, .ref h'.objs.size, upd H2 h'.objs.size (.lst ((xs.mergeSort leLW).map V.str)), I3.laid (t' := tk2) (fun b u e => kb b u (Nat.ne_of_lt (Heap.lt_size e)) (Heap.get?_push_of_some _ e)) (Nat.le_refl _) ⟨?_, out, c', strs_each he, hat2⟩, rfl, q1 H2 (xs.mergeSort leLW) _ to (List.mergeSort_perm _ _) ?_ (I3.hok.fresh (Nat.le_refl _))⟩
    · rw [List.length_map, List.length_mergeSort]
      exact hl
    · have tt := sortLe_total (listOrd itemOrd) false fun b => keyToks (keyLW b)
      exact List.pairwise_mergeSort tt.trans (fun a b => by rw [Bool.or_eq_true]; exact tt.total a b) xs
end
end PuL
set_option maxRecDepth 100000
set_option maxHeartbeats 4000000
namespace Pu
open PySem L2 PySem.Spec PyProof.Rows PuL
def tSLWD (te : PTE) : PTE := fun x e Q => te x e fun r e1 => hold r e1 fun r e1 => match kgetR r e1 with
  | some kvs => ∃ ks : List (List Nat), kvs.map (·.1) = ks.map (fun s => (.inr ⟨s.toArray⟩ : Key)) ∧ ks.length ≤ sizeLine ∧ (∀ s ∈ ks, SOk s) ∧ ∀ r' : List (List Nat), r'.Perm ks → r'.Pairwise ltLW → Q (.own (r'.map D.str)) e1
  | none => False
section
variable {Γ : Gm} {κ : Ka} {H : Hp} {σ : Sl} {env : En} {Y : Fam} {e : Expr} {te : PTE}
theorem ve_slwD {c P : Addr} {qn x : Str} {params : Arguments} {scope : Scope} {p p1 p2 p3 p4 p5 lpos kpos cpos : Pos} {k : Nat} (hm : ∀ i, (Y.X i).mg "sorted" = none) (hml : ∀ i, (Y.X i).mg "len" = none) (ha : VE Y e te) (TB : ∀ i, LamX.TabB (Y.X i).base (Y.X i).mg c P) (hcode : ∀ i, (Y.X i).env.code = .ref c)
    (hq : ∀ i, (Y.X i).env.qual ++ "<lambda>" = qn) (ht : (P, qn) ∈ Y.cls.tabs) (hn : ∀ t ∈ Y.cls.tabs, t.1 = P → t.2 = qn) (L : LamOk x scope params (.Tuple [.Call (.Name "len" p1) [.Name x p2] [] p3, .Name x p4] k p5)) (hu : Hu Y) (hd : ∀ i, (Y.X i).A.depth < recursionLimit)
    (hc : ∀ i, (Y.X i).calm = true := by intro _; rfl) (hg : ∀ i, Gl (Y.X i) "sorted" := by intro _; rfl) (hs : ∀ X : Cx, starEach [e] X.env = (false, eval e X.env) :: starEach [] X.env := by intro _; rfl) :
    VE Y (.Call (.Name "sorted" p) [e] [⟨some "key", .Lambda params (.Tuple [.Call (.Name "len" p1) [.Name x p2] [] p3, .Name x p4] k p5) scope lpos, kpos⟩] cpos) (tSLWD te) := by
  obtain ⟨ra, pa, fa⟩ := ha.ex
  refine ⟨⟨fun E => tSortLWD Y.K P qn (ra E), fun i => by have := pe_sortLWD (hc i) (hg i) (hm i) (hml i) (pa i) (TB i) (hcode i) (hq i) L (hu i) (hd i) (hs _) (p := p) (lpos := lpos) (kpos := kpos) (cpos := cpos); rw [Y.hK i] at this; exact this, fun Γ σ κ H env Q Q' hK I q => ?_⟩⟩
  intro kk
  refine fa Γ σ κ H env _ _ hK I q fun v κ0 H1 r0 e1 x0 I0 h0 q0 => ?_
  refine hold_ok I0 h0 q0 fun κ1 r1 xh I1 h1 q1 => ?_
  have x1 := x0.trans xh
  cases e1' : kgetR r1 e1 with
  | none => rw [e1'] at q1; exact q1.elim
  | some kvs =>
    rw [e1'] at q1
    obtain ⟨ks, k1, k2, k3, q3⟩ := q1
    obtain ⟨a, ws, rfl, g1, g2⟩ := dctR_ok I1 h1 e1'
    have ek := pr_keys g2
    have ht1 : (P, qn) ∈ Γ.cls.tabs := by rw [hK.c]; exact ht
    have hn1 : ∀ t ∈ Γ.cls.tabs, t.1 = P → t.2 = qn := by rw [hK.c]; exact hn
    obtain ⟨_, ps, t1, t2, t3⟩ := I1.gh.tabs.at_ _ ht1
    refine ⟨a, ws, ks.map fun s => (⟨s.toArray⟩ : Str), ps, rfl, .inl g1, by rw [ek, k1, List.map_map]; rfl, by rw [List.length_map]; exact k2, fun l hl => ?_, ⟨t1, t2, fun p v hv => ?_⟩, fun H2 ys p to hp hs hpn => ?_⟩
    · obtain ⟨s, hs, rfl⟩ := List.mem_map.mp hl
      rw [str_len]
      exact (k3 s hs).1
    · obtain ⟨d, z1, _, z2⟩ := t3 p v hv
      exact ⟨d, z1, z2⟩
    · obtain ⟨κ2, x2, I2⟩ := tabs_step I1 ht1 hn1 t1 to
      obtain ⟨r', hr1, hr2⟩ := perm_strs hp
      subst hr1
      rw [List.map_map]
      refine kk _ κ2 _ (.own (r'.map D.str)) e1 ((x1.trans x2).trans (Ext.upd_new I2.gh hpn)) (I2.upd_new hpn) (new_lst I2 hpn ?_ (rep_strs fun s hs => k3 s (hr2.mem_iff.mp hs))) (q3 r' hr2 ?_)
      · rw [List.length_map, hr2.length_eq]
        exact k2
      · rw [List.pairwise_map] at hs
        exact hs.imp fun h => leLW_iff h
end
end Pu
set_option maxRecDepth 100000
set_option maxHeartbeats 4000000
namespace Pu
open PySem L2 PuE
def slwDH (o : Option (List (Key × D))) (e : En) (h : HB (R → En → Prop)) : Prop := match o with
  | some kvs => ∃ ks : List (List Nat), kvs.map (·.1) = ks.map (fun s => (.inr ⟨s.toArray⟩ : Key)) ∧ ks.length ≤ sizeLine ∧ (∀ s ∈ ks, SOk s) ∧ ∀ r' : List (List Nat), r'.Perm ks → r'.Pairwise ltLW → h.b (.own (r'.map D.str)) e
  | none => False
theorem x_slwD {te x e Q} : tSLWD te x e Q = te x e fun r e1 => hold r e1 fun r e1 => slwDH (kgetR r e1) e1 (HB.mk Q ()) := rfl
theorem slwD_ok {kvs : List (Key × D)} {ks : List (List Nat)} {e : En} {Q : R → En → Prop} (hk : kvs.map (·.1) = ks.map kS) (hl : ks.length ≤ 16777216) (hs : ∀ s ∈ ks, SOk s) (q : Q (.own ((srtL ks).map D.str)) e) : slwDH (some kvs) e (HB.mk Q ()) :=
  ⟨ks, hk, hl, hs, fun r' hp hr => by rw [srtL_unique hp hr]; exact q⟩
end Pu
set_option maxRecDepth 100000
set_option maxHeartbeats 4000000
namespace Pu
open PySem L2
def IsL (c : Nat) : Prop := (65 ≤ c ∧ c ≤ 90) ∨ (97 ≤ c ∧ c ≤ 122)
instance (c : Nat) : Decidable (IsL c) := by unfold IsL; infer_instance
def con (c : Nat) : Nat := if 97 ≤ c then c - 32 else c + 32
theorem con_con {c : Nat} (h : IsL c) : con (con c) = c := by unfold con IsL at *; split <;> split <;> omega
theorem con_L {c : Nat} (h : IsL c) : IsL (con c) := by unfold con IsL at *; split <;> omega
theorem con_ne {c : Nat} (h : IsL c) : con c ≠ c := by unfold con IsL at *; split <;> omega
def m_contrary : PM := fun ds st Q => match ds with
  | [.str [c]] => IsL c ∧ Q (.d (.str [con c])) st
  | _ => False
/-- contrary: slots letter -/
def t_contrary : PTS := sRet (t2 (t2 (tD (.str CP)) (tD (.str SM)) pAdd) (tMeth "str" pIndexS (t2 (tD (.str SM)) (tD (.str CP)) pAdd) (rCons (tName 0) (rNil))) pIx)
abbrev N_contrary : List Str := ["letter"]
theorem ixOf_SMCP {c : Nat} (h : IsL c) : c ∈ SM ++ CP ∧ atI (CP ++ SM) (ixOf c (SM ++ CP) : Nat) = some (con c) := by
  have key : ∀ n : Nat, n < 123 → IsL n → n ∈ SM ++ CP ∧ atI (CP ++ SM) (ixOf n (SM ++ CP) : Nat) = some (con n) := by decide +kernel
  exact key c (by unfold IsL at h; omega) h
theorem len_contrary (ds : List D) (s : Sto) (Q : C → Sto → Prop) (h : m_contrary ds s Q) : ds.length = 1 := by
  unfold m_contrary at h
  split at h
  · rfl
  · exact h.elim
theorem p_contrary (ds : List D) (s : Sto) (Q : C → Sto → Prop) (h : m_contrary ds s Q) : t_contrary noX { nx := fun e => Q (.d .non) e.st, rt := fun c e => Q c e.st } ⟨startC N_contrary ds, s⟩ := by
  unfold m_contrary at h
  split at h
  · rename_i c
    obtain ⟨hc, q⟩ := h
    obtain ⟨h1, h2⟩ := ixOf_SMCP hc
    refine ⟨by decide +kernel, by decide +kernel, rfl, h1, ?_⟩
    show (match atI (CP ++ SM) (ixOf c (SM ++ CP) : Nat) with | some c => Q (.d (.str [c])) s | none => False)
    rw [h2]
    exact q
  · exact h.elim
end Pu
set_option maxRecDepth 100000
set_option maxHeartbeats 4000000
namespace Pu
open PySem L2
def m_law_take : PM := fun ds st Q => match ds with
  | [.box, .int n] => 0 < n ∧ n < 2 ^ 64 ∧ ∀ d : Int, 0 ≤ d → d < n → Q (.d (.int d)) st
  | _ => False
/-- _law_take: slots _law_box_here, _law_many, _law_one, _law_digit -/
def t_law_take : PTS := sSeq (sIf (tB (t2 (t2 (tName 0) (tD (.int 0)) pIx) (tD (.int 0)) pGt)) (sSeq (sAsg 3 (t2 (t2 (tName 0) (tD (.int 0)) pIx) (tName 1) pMod)) (sSeq (sSetIx (t2 (t2 (tName 0) (tD (.int 0)) pIx) (tName 1) pFdiv) (tName 0) (tD (.int 0))) (sRet (tName 3)))) (sNext)) (sSeq (sAsg 2 (t2 (t2 (t2 (tName 0) (tD (.int 1)) pIx) (tD (.int 69623)) pMul) (tD (.int 2147483647)) pMod)) (sSeq (sSetIx (t2 (t2 (t2 (t2 (tName 2) (tD (.int 48271)) pMul) (tD (.int 30103)) pAdd) (tD (.int 2147483629)) pMod) (tD (.int 1)) pAdd) (tName 0) (tD (.int 1))) (sRet (t2 (t2 (t2 (t2 (tName 2) (tD (.int 2147483647)) pMul) (t2 (tName 0) (tD (.int 1)) pIx) pAdd) (tD (.int 8191)) pFdiv) (tName 1) pMod))))
abbrev N_law_take : List Str := ["_law_box_here", "_law_many", "_law_one", "_law_digit"]
theorem len_law_take (ds : List D) (s : Sto) (Q : C → Sto → Prop) (h : m_law_take ds s Q) : ds.length = 2 := by
  unfold m_law_take at h
  split at h
  · rfl
  · exact h.elim
theorem small_log {n : Int} (h0 : 0 < n) (h : n < 2 ^ 64) : CDivW 0 n := by
  refine ⟨h0, ?_⟩
  have : n.natAbs.log2 < 64 := (Nat.log2_lt (by omega)).mpr (by omega)
  omega
theorem cmul_r (i j : Int) (h1 : -(2 ^ 64) < j := by decide) (h2 : j < 2 ^ 64 := by decide) : CMul i j := .inr ⟨h1, h2⟩
theorem cmul_l (i j : Int) (h1 : -(2 ^ 64) < i := by decide) (h2 : i < 2 ^ 64 := by decide) : CMul i j := .inl ⟨h1, h2⟩
theorem lt_of (a b : Nat) (h : a < b := by decide) : a < b := h
theorem p0 (a : Nat) (h : 0 < a := by decide) : (0 : Int) < (a : Int) := by omega
theorem ite_intro {c : Prop} [Decidable c] {a b : Prop} (h1 : c → a) (h2 : ¬ c → b) : if c then a else b := by
  by_cases h : c
  · rw [if_pos h]; exact h1 h
  · rw [if_neg h]; exact h2 h
theorem le_line (n : Nat) (h : n ≤ 16777216 := by decide) : n ≤ sizeLine := by rw [line_eq]; exact h
theorem p_law_take (ds : List D) (s : Sto) (Q : C → Sto → Prop) (h : m_law_take ds s Q) : t_law_take noX { nx := fun e => Q (.d .non) e.st, rt := fun c e => Q c e.st } ⟨startC N_law_take ds, s⟩ := by
  unfold m_law_take at h
  split at h
  · rename_i n
    obtain ⟨h0, h1, q⟩ := h
    have hq : ∀ i : Int, Q (.d (.int (i % n))) s := fun i => q _ (Int.emod_nonneg _ (by omega)) (Int.emod_lt_of_pos _ h0)
    refine ⟨.inl rfl, fun z => ?_⟩
    show if decide (z > 0) = true then _ else _
    split
    · refine ⟨.inl rfl, fun z1 => ⟨h0, lt_of 3 4, ?_⟩⟩
      refine ⟨.inl rfl, fun z2 => ⟨⟨h0, (small_log h0 h1).2⟩, ⟨.inl rfl, ?_⟩⟩⟩
      exact hq z1
    · refine ⟨.inr rfl, fun z1 => ⟨cmul_r _ _, p0 2147483647, lt_of 2 4, ?_⟩⟩
      refine ⟨cmul_r _ _, p0 2147483629, ⟨.inr rfl, ?_⟩⟩
      refine ⟨cmul_r _ _, .inr rfl, fun z2 => ⟨⟨by decide, by decide⟩, h0, ?_⟩⟩
      exact hq _
  · exact h.elim
def mb_law_box : PM := fun ds st Q => match ds with
  | [.scr n, .int k] => 0 ≤ k ∧ k < 2 ^ 40 ∧ ∀ i j : Int, Q (.own [.int i, .int j]) st
  | _ => False
def m_law_box : PM := fun ds st Q => match ds with
  | [.scr n, .int k] => 0 ≤ k ∧ k < 2 ^ 40 ∧ Q (.d .box) st
  | _ => False
theorem len_law_box (ds : List D) (s : Sto) (Q : C → Sto → Prop) (h : mb_law_box ds s Q) : ds.length = 2 := by
  unfold mb_law_box at h
  split at h
  · rfl
  · exact h.elim
theorem box_law_box (ds : List D) (s : Sto) (Q : C → Sto → Prop) (h : m_law_box ds s Q) : boxed mb_law_box ds s Q := by
  unfold m_law_box at h
  split at h
  · exact ⟨h.1, h.2.1, fun i j => ⟨i, j, rfl, h.2.2⟩⟩
  · exact h.elim
def t_law_box : PTS := sSeq (sAsg 2 (t2 (t2 (tD (.int 7919)) (tName 1) pMul) (tD (.int 11)) pAdd)) (sSeq (sIf (tB (t2 (tName 1) (tCallP pLen (rCons (tName 0) (rNil))) pLt)) (sAsg 2 (t2 (tName 0) (tName 1) pIx)) (sIf (tB (t2 (tCallP pLen (rCons (tName 0) (rNil))) (tD (.int 0)) pGt)) (sAsg 2 (t2 (tName 2) (t2 (t2 (t2 (tName 0) (t2 (tName 1) (tCallP pLen (rCons (tName 0) (rNil))) pMod) pIx) (tD (.int 2147483629)) pMod) (tD (.int 69623)) pMul) pAdd)) (sNext))) (sSeq (sAsg 3 (t2 (t2 (t2 (t2 (t2 (tName 2) (tD (.int 2147483629)) pMod) (t2 (tD (.int 104729)) (tName 1) pMul) pAdd) (tD (.int 1)) pAdd) (tD (.int 5)) pPow) (tD (.int 2147483647)) pMod)) (sRet (tLst (tCons (t2 (tLst (tCons (tD (.int 0)) (tCons (tName 2) (tNil)))) (tCallP pInt (rCons (t2 (tName 2) (t2 (tD (.int 10)) (tD (.int 18)) pPow) pGe) (rNil))) pIx) (tCons (t2 (t2 (tName 3) (tD (.int 2147483646)) pMod) (tD (.int 1)) pAdd) (tNil)))))))
abbrev N_law_box : List Str := ["_law_script", "_law_k", "_law_cell", "_law_seed"]
theorem p_law_box (ds : List D) (s : Sto) (Q : C → Sto → Prop) (h : mb_law_box ds s Q) : t_law_box noX { nx := fun e => Q (.d .non) e.st, rt := fun c e => Q c e.st } ⟨startC N_law_box ds, s⟩ := by
  unfold mb_law_box at h
  split at h
  · rename_i n k
    obtain ⟨h0, h1, q⟩ := h
    have tail : ∀ z : Int, sSeq (sAsg 3 (t2 (t2 (t2 (t2 (t2 (tName 2) (tD (.int 2147483629)) pMod) (t2 (tD (.int 104729)) (tName 1) pMul) pAdd) (tD (.int 1)) pAdd) (tD (.int 5)) pPow) (tD (.int 2147483647)) pMod)) (sRet (tLst (tCons (t2 (tLst (tCons (tD (.int 0)) (tCons (tName 2) (tNil)))) (tCallP pInt (rCons (t2 (tName 2) (t2 (tD (.int 10)) (tD (.int 18)) pPow) pGe) (rNil))) pIx) (tCons (t2 (t2 (tName 3) (tD (.int 2147483646)) pMod) (tD (.int 1)) pAdd) (tNil))))) noX { nx := fun e => Q (.d .non) e.st, rt := fun c e => Q c e.st } ⟨[.d (.scr n), .d (.int k), .d (.int z), .un], s⟩ := by
      intro z
      have m0 := Int.emod_nonneg z (b := 2147483629) (by omega)
      have m1 := Int.emod_lt_of_pos z (b := 2147483629) (by omega)
      refine ⟨p0 2147483629, cmul_l _ _, ⟨by decide, by decide, ?_⟩, p0 2147483647, lt_of 3 4, ?_⟩
      · omega
      refine ⟨le_line 2, ⟨by decide, by decide, by decide⟩, ?_⟩
      show (match atI [D.int 0, D.int z] (if decide (10 ^ 18 ≤ z) then 1 else 0) with | some y => _ | none => _)
      cases decide (10 ^ 18 ≤ z)
      · refine ⟨p0 2147483646, le_line 2, ?_⟩
        exact q 0 _
      · refine ⟨p0 2147483646, le_line 2, ?_⟩
        exact q z _
    refine ⟨cmul_l _ _, lt_of 2 4, ?_⟩
    refine ite_intro (fun c => ?_) fun c => ?_
    · have c := of_decide_eq_true c
      exact ⟨⟨h0, c⟩, fun z => ⟨lt_of 2 4, tail z⟩⟩
    · refine ite_intro (fun c' => ?_) fun c' => tail _
      have c' : (0 : Int) < n := of_decide_eq_true c'
      refine ⟨c', ⟨Int.emod_nonneg _ (by omega), Int.emod_lt_of_pos _ c'⟩, fun z => ⟨p0 2147483629, cmul_r _ _, lt_of 2 4, tail _⟩⟩
  · exact h.elim
def m_law_other : PM := m_contrary
def t_law_other : PTS := sSeq (sAsg 1 (tD (.str SM))) (sSeq (sAsg 2 (tD (.str CP))) (sSeq (sIf (tB (t2 (tName 0) (tName 1) (pIn false))) (sRet (t2 (tName 2) (tMeth "str" pIndexS (tName 1) (rCons (tName 0) (rNil))) pIx)) (sNext)) (sRet (t2 (tName 1) (tMeth "str" pIndexS (tName 2) (rCons (tName 0) (rNil))) pIx))))
abbrev N_law_other : List Str := ["_law_letter", "_law_small", "_law_capital"]
theorem len_law_other (ds : List D) (s : Sto) (Q : C → Sto → Prop) (h : m_law_other ds s Q) : ds.length = 1 := len_contrary ds s Q h
theorem other_fact {c : Nat} (h : IsL c) : (c ∈ SM ∧ atI CP (ixOf c SM : Nat) = some (con c)) ∨ (¬ c ∈ SM ∧ c ∈ CP ∧ atI SM (ixOf c CP : Nat) = some (con c)) := by
  have key : ∀ n : Nat, n < 123 → IsL n → (n ∈ SM ∧ atI CP (ixOf n SM : Nat) = some (con n)) ∨ (¬ n ∈ SM ∧ n ∈ CP ∧ atI SM (ixOf n CP : Nat) = some (con n)) := by decide +kernel
  exact key c (by unfold IsL at h; omega) h
theorem p_law_other (ds : List D) (s : Sto) (Q : C → Sto → Prop) (h : m_law_other ds s Q) : t_law_other noX { nx := fun e => Q (.d .non) e.st, rt := fun c e => Q c e.st } ⟨startC N_law_other ds, s⟩ := by
  unfold m_law_other m_contrary at h
  split at h
  · rename_i c
    obtain ⟨hc, q⟩ := h
    refine ⟨lt_of 1 3, lt_of 2 3, ?_⟩
    refine ite_intro (fun c' => ?_) fun c' => ?_
    · have c' : c ∈ SM := of_decide_eq_true c'
      rcases other_fact hc with ⟨h1, h2⟩ | ⟨h1, _⟩
      · refine ⟨rfl, h1, ?_⟩
        show (match atI CP (ixOf c SM : Nat) with | some c => Q (.d (.str [c])) s | none => False)
        rw [h2]
        exact q
      · exact absurd c' h1
    · have c' : ¬ c ∈ SM := fun z => c' (decide_eq_true z)
      rcases other_fact hc with ⟨h1, h2⟩ | ⟨h1, h2, h3⟩
      · exact absurd h1 c'
      · refine ⟨rfl, h2, ?_⟩
        show (match atI SM (ixOf c CP : Nat) with | some c => Q (.d (.str [c])) s | none => False)
        rw [h3]
        exact q
  · exact h.elim
def turn (w : List Nat) : List Nat := (w.map con).reverse
def IsW (w : List Nat) : Prop := ∀ c ∈ w, IsL c
def m_turned : PM := fun ds st Q => match ds with
  | [.str w] => IsW w ∧ w.length ≤ 16777216 ∧ Q (.d (.str (turn w))) st
  | _ => False
def t_turned : PTS := sRet (tMeth "str" pJoin (tD (.str [])) (rCons (cLc (iRevP (tName 0)) (gName 1) (cYes) (tCall0 m_contrary (tCons (tName 1) (tNil))) [1]) (rNil)))
abbrev N_turned : List Str := ["word", "letter"]
theorem len_turned (ds : List D) (s : Sto) (Q : C → Sto → Prop) (h : m_turned ds s Q) : ds.length = 1 := by
  unfold m_turned at h
  split at h
  · rfl
  · exact h.elim
theorem p_turned (ds : List D) (s : Sto) (Q : C → Sto → Prop) (h : m_turned ds s Q) : t_turned noX { nx := fun e => Q (.d .non) e.st, rt := fun c e => Q c e.st } ⟨startC N_turned ds, s⟩ := by
  unfold m_turned at h
  split at h
  · rename_i w
    obtain ⟨hw, hl, q⟩ := h
    refine ⟨rfl, ?_⟩
    refine ⟨by rw [List.length_reverse, signs_len, line_eq]; exact hl, rfl, ?_⟩
    refine lcR_map (fun d => match d with | .str [c] => .str [con c] | d => d) _ _ (fun d hd K k => ?_) ?_
    · have hd := List.mem_reverse.mp hd
      unfold signs at hd
      obtain ⟨c, hc, rfl⟩ := List.mem_map.mp hd
      exact ⟨lt_of 1 2, hw c hc, k⟩
    · have e : (signs w).reverse.map (fun d => match d with | .str [c] => D.str [con c] | d => d) = signs (turn w) := by
        unfold signs turn
        rw [← List.map_reverse, List.map_map, ← List.map_reverse, List.map_map]
        rfl
      rw [List.nil_append, e]
      show (match strL (signs (turn w)) with | some r => _ | none => _)
      rw [strL_signs]
      refine ⟨len_signs (by unfold turn; simpa using hl), ?_⟩
      show Q (.d (.str (joinN [] ((turn w).map fun c => [c])))) s
      rw [joinN_signs]
      exact q
  · exact h.elim
theorem turn_turn {w : List Nat} (h : IsW w) : turn (turn w) = w := by
  unfold turn
  rw [List.map_reverse, List.reverse_reverse, List.map_map]
  conv => rhs; rw [← List.map_id w]
  exact List.map_congr_left fun c hc => con_con (h c hc)
theorem turn_W {w : List Nat} (h : IsW w) : IsW (turn w) := fun c hc => by
  unfold turn at hc
  rw [List.mem_reverse, List.mem_map] at hc
  obtain ⟨d, hd, rfl⟩ := hc
  exact con_L (h d hd)
theorem turn_len (w : List Nat) : (turn w).length = w.length := by unfold turn; simp
theorem turn_app (v w : List Nat) : turn (v ++ w) = turn w ++ turn v := by unfold turn; rw [List.map_append, List.reverse_append]
end Pu
set_option maxRecDepth 100000
set_option maxHeartbeats 4000000
namespace Pu
open PySem L2
theorem signs_erase (w : List Nat) (j : Nat) : (signs w).eraseIdx j = signs (w.eraseIdx j) := by
  unfold signs
  induction w generalizing j with
  | nil => rfl
  | cons c w ih => cases j with
    | zero => rfl
    | succ j => simp only [List.map_cons, List.eraseIdx_cons_succ, ih]
theorem signs_pop {w : List Nat} {i : Int} {K : List D → D → Prop} (h0 : 0 ≤ i) (h1 : i < w.length) (h : ∀ j (hj : j < w.length), K (signs (w.eraseIdx j)) (.str [w[j]])) : mPopAt (signs w) [.int i] K := by
  refine popAt_ok h0 (by rw [signs_len]; exact h1) fun j hj => ?_
  rw [signs_erase]
  have hj' : j < w.length := by rw [signs_len] at hj; exact hj
  have e : (signs w)[j] = .str [w[j]] := List.getElem_map (f := fun c => D.str [c]) (l := w) (i := j) (h := hj)
  rw [e]
  exact h j hj'
structure YardOk (y : List Nat) : Prop where
  nd : y.Nodup
  let_ : ∀ c ∈ y, IsL c
  con_ : ∀ c ∈ y, con c ∈ y
/-- the letters that are left, the ends that are taken -/
structure Yi (left ends : List Nat) (j : Nat) : Prop where
  nl : left.Nodup
  sm : ∀ c ∈ left, 97 ≤ c ∧ c ≤ 122
  ne : ends.Nodup
  le : ∀ c ∈ ends, IsL c ∧ con c ∈ ends ∧ c ∉ left ∧ con c ∉ left
  l1 : left.length + j = 26
  l2 : ends.length = 2 * j
theorem not_mem_erase {l : List Nat} (h : l.Nodup) {j : Nat} (hj : j < l.length) : l[j] ∉ l.eraseIdx j := by
  induction l generalizing j with
  | nil => simp at hj
  | cons a l ih =>
    rw [List.nodup_cons] at h
    cases j with
    | zero => simpa using h.1
    | succ j =>
      simp only [List.getElem_cons_succ, List.eraseIdx_cons_succ, List.mem_cons, not_or]
      have hj' : j < l.length := by simpa using hj
      exact ⟨fun e => h.1 (e ▸ List.getElem_mem hj'), ih h.2 hj'⟩
theorem mem_of_erase {l : List Nat} {j c : Nat} (h : c ∈ l.eraseIdx j) : c ∈ l := List.mem_of_mem_eraseIdx h
theorem Yi.step {left ends : List Nat} {j k : Nat} (h : Yi left ends j) (hk : k < left.length) : Yi (left.eraseIdx k) (ends ++ [left[k], con left[k]]) (j + 1) := by
  have hm : left[k] ∈ left := List.getElem_mem hk
  have hs := h.sm _ hm
  generalize hc : left[k] = c at hm hs
  have hcl : IsL c := .inr hs
  have hcon : con c < 97 := by unfold con; split <;> omega
  have nc : ∀ l : List Nat, (∀ x ∈ l, x ∈ left) → con c ∉ l := fun l hl z => by have := h.sm _ (hl _ z); omega
  have n1 : c ∉ ends := fun z => (h.le c z).2.2.1 hm
  have n2 : con c ∉ ends := fun z => by
    have := (h.le _ z).2.2.2
    rw [con_con hcl] at this
    exact this hm
  have e1 : c ∉ left.eraseIdx k := by rw [← hc]; exact not_mem_erase h.nl hk
  refine ⟨h.nl.sublist (List.eraseIdx_sublist ..), fun c hc => h.sm c (mem_of_erase hc), ?_, fun x hx => ?_, ?_, ?_⟩
  · rw [List.nodup_append]
    refine ⟨h.ne, ?_, ?_⟩
    · simp only [List.nodup_cons, List.mem_singleton, List.not_mem_nil, not_false_eq_true, List.nodup_nil, and_true]
      exact fun z => con_ne hcl z.symm
    · intro a ha b hb z
      subst z
      simp only [List.mem_cons, List.not_mem_nil, or_false] at hb
      rcases hb with rfl | rfl
      · exact n1 ha
      · exact n2 ha
  · rw [List.mem_append] at hx
    rcases hx with hx | hx
    · obtain ⟨g1, g2, g3, g4⟩ := h.le x hx
      exact ⟨g1, List.mem_append_left _ g2, fun z => g3 (mem_of_erase z), fun z => g4 (mem_of_erase z)⟩
    · simp only [List.mem_cons, List.not_mem_nil, or_false] at hx
      rcases hx with rfl | rfl
      · exact ⟨hcl, by simp, e1, nc _ fun x hx => mem_of_erase hx⟩
      · exact ⟨con_L hcl, by rw [con_con hcl]; simp, nc _ fun x hx => mem_of_erase hx, by rw [con_con hcl]; exact e1⟩
  · rw [List.length_eraseIdx_of_lt hk]; have := h.l1; omega
  · rw [List.length_append]; have := h.l2; simp; omega
theorem perm_erase {l : List Nat} {j : Nat} (hj : j < l.length) : l.Perm (l[j] :: l.eraseIdx j) := by
  induction l generalizing j with
  | nil => simp at hj
  | cons a l ih =>
    cases j with
    | zero => exact .refl _
    | succ j =>
      have hj' : j < l.length := by simpa using hj
      simp only [List.getElem_cons_succ, List.eraseIdx_cons_succ]
      exact ((ih hj').cons a).trans (.swap ..)
end Pu
set_option maxRecDepth 100000
set_option maxHeartbeats 4000000
namespace Pu
open PySem L2
local macro_rules | `(tactic| simpa?! only [$xs,*]) => `(tactic| simp -dsimp only [↓opt_some, ↓br_true, ↓br_false, ↓nameC_d, ↓nameC_own, ↓nameC_dK, ↓nameC_dT, ↓x_name, ↓fzC_d, ↓fzC_own, ↓fzC_dK, ↓fzC_dT, ↓x_fzn, ↓x_fzK, ↓x_fzT, ↓x_fzd, ↓x_fzo, ↓x_rvn, ↓x_rvd, ↓x_rvo, ↓retC_d, ↓retC_own, ↓x_retn, ↓x_retd, ↓x_reto, ↓x_hd, ↓x_ho, ↓x_hn, ↓x_ad, ↓x_ao, ↓x_an, ↓x_set, ↓x_seq, ↓x_next, ↓x_break, ↓x_cont, ↓x_drop, ↓x_ret, ↓x_retN, ↓x_if, ↓x_asg, ↓x_asgG, ↓x_while, ↓x_for, ↓x_2, ↓x_k2ad, ↓x_k2ao, ↓x_k2an, ↓x_k2b, ↓x_k2c, ↓x_1, ↓x_k1c, ↓x_D, ↓bC_b, ↓x_B, ↓x_kBc, ↓x_and, ↓x_kAn, ↓x_or, ↓x_kOr, ↓x_not, ↓x_kNo, ↓x_andV, ↓x_kAV, ↓x_orV, ↓x_kOV, ↓x_notV, ↓x_kNV, ↓x_tif, ↓x_nil, ↓x_kC2, ↓x_cons, ↓x_kC1d, ↓x_kC1o, ↓x_kC1k, ↓x_kC1t, ↓x_kC1n, ↓x_kC3d, ↓x_kC3o, ↓x_kC3k, ↓x_kC3t, ↓x_tup, ↓x_kTu, ↓x_lst, ↓x_kLs, ↓x_rnil, ↓x_kR2, ↓x_rcons, ↓x_kR1d, ↓x_kR1o, ↓x_kR1n, ↓x_callP, ↓x_kCP, ↓x_rvLc, ↓x_rvLn, ↓x_meth, ↓x_kM0d, ↓x_kM0o, ↓x_kM0n, ↓x_kM1, ↓x_kM2, ↓x_kM3, ↓x_meth0, ↓x_mut, ↓x_kU1n, ↓x_kU1d, ↓x_kU2, ↓x_kU3, ↓x_mg, ↓x_ms, ↓x_sl, ↓x_kS0d, ↓x_kS0o, ↓x_kS0n, ↓x_kS1, ↓x_kS2, ↓x_kS3, ↓x_on, ↓iC_i, ↓x_os, ↓x_kOs, ↓x_lc, ↓x_any, ↓x_pure, ↓sC_s, ↓x_rev, ↓x_call, ↓x_kCa, ↓x_gn, ↓x_gnil, ↓x_gcons, ↓x_isi, ↓a_ii, ↓a_ss, ↓a_ll, ↓a_tt, ↓a_I, ↓a_neg, ↓a_mul, ↓a_mulL, ↓a_mulS, ↓a_eq, ↓a_ne, ↓a_lt, ↓a_le, ↓a_gt, ↓a_ge, ↓a_ltS, ↓a_leS, ↓a_inS, ↓a_ninS, ↓a_inL, ↓a_ninL, ↓a_inT, ↓a_ninT, ↓a_ixL, ↓a_ixT, ↓a_ixS, ↓a_ixR, ↓a_ixB, ↓a_slL, ↓a_slT, ↓a_slS, ↓a_lenS, ↓a_lenL, ↓a_lenT, ↓a_lenR, ↓a_join, ↓a_ixof, ↓a_ixofL, ↓a_rng1, ↓a_rng2, ↓a_min2, ↓a_max2, ↓a_lstS, ↓a_lstL, ↓a_lstT, ↓a_int, ↓a_intB, ↓a_isN, ↓x_popAt, ↓x_all, ↓x_anyB, ↓a_isB, ↓a_pop, ↓x_dict0, ↓x_aK, ↓x_kg, ↓x_kgRn, ↓x_kgRf, ↓x_zips, ↓x_ks, ↓x_dg, ↓x_di, ↓x_dpt, ↓x_enum, ↓a_backL, ↓a_backS, ↓a_backT, ↓x_never, ↓a_tupL, ↓a_tupT, ↓x_sort, ↓x_sortS, ↓x_sortP, ↓a_slR, ↓x_zip, ↓x_sum, ↓a_count, ↓augC_i, ↓x_aug, ↓x_par, ↓x_raise, ↓x_callX, ↓x_try, ↓x_subA, ↓x_setN, ↓a_two, ↓x_swIx, ↓x_mkX, ↓x_mk0, ↓x_raise0, ↓a_exB, ↓a_tbl, ↓a_cbl, ↓x_isX, ↓x_xattr, ↓x_dictT0, ↓x_aT, ↓retC_dT, ↓retC_dK, ↓x_retT, ↓x_retK, ↓x_tgg, ↓x_tgRn, ↓x_tgRf, ↓x_tss, ↓x_dgT, ↓x_dptT, ↓x_callT, ↓a_lenTT, ↓a_listT, ↓a_dictT, ↓a_dictK, ↓x_chn, ↓a_mmT, ↓x_sortN, ↓a_lenSS, ↓a_ltT, ↓x_chn3, ↓a_dictN, ↓a_gN, ↓x_gls, ↓x_revT, ↓x_chS, ↓x_ltN, ↓x_try0, rvC_d, rvC_own, consO_s, isTy_s, isTy_l, mgC_own, walk_l, walk_t, walk_s, toR_d, toR_o, items_l, items_t, ok_s, ok_i, ok_b, ok_n, ok_l, ok_t, okL_n, okL_c, e_ss, e_ii, e_bb, e_ll, e_tt, eL_nn, eL_cc, eL_nc, eL_cn, ty_s, ty_i, ty_l, ty_b, kgC_dK, key_i, key_s, kI_eq, kS_eq, oneR_1, walkE_l, walkE_t, walkE_s, ty_t, twoR_2, side_l, side_t, twoD_2, ow_nil, ow_un, ow_d, toR_T, toR_K, tgC_dT, tupK_t, consK_s, keyL_n, keyL_c, fold1, intL_n, consI_s, intL_c, consS_s, strL_n, strL_c, tC_s, m_app, m_ext, m_rev, sline, startC, restE, restC, wipeE, wipeC, plainC, List.getElem?_cons_zero, List.getElem?_cons_succ, List.getD_cons_zero, List.getD_cons_succ, List.set_cons_zero, List.set_cons_succ, List.length_cons, List.length_nil, List.map_cons, List.map_nil, List.replicate_succ, List.replicate_zero, List.cons_append, List.nil_append, Nat.reduceAdd, Nat.reduceMul, Int.reduceAdd, Int.reduceSub, Int.reduceMul, Nat.reduceSub, Nat.reduceLT, Nat.reduceLeDiff, Nat.lt_add_one, Int.reduceNeg, Int.reduceLT, Int.reduceLE, Int.reduceToNat, Int.reducePow, Nat.reducePow, List.flatten_cons, List.flatten_nil, List.append_nil, true_and, and_true, true_or, or_true, eq_self, and_self, decide_true, decide_false, Bool.not_true, Bool.not_false, Bool.not_not, Option.isSome_some, Bool.and_true, Bool.true_and, Bool.and_self, reduceIte, ↓reduceIte, Bool.false_eq_true, ite_self, reduceCtorEq, ne_eq, not_false_eq_true, forall_const, ↓x_gtup, ↓a_repr, ↓x_min1, ↓a_min2S, ↓x_yes, ↓x_ite, x_gnil, walk_l, walk_t, walk_s, $xs,*])
def rpush (r : List Nat) (c : Nat) : List Nat := match r with
  | [] => [c]
  | x :: r' => if x = con c then r' else c :: x :: r'
def redR (r w : List Nat) : List Nat := w.foldl rpush r
def red (w : List Nat) : List Nat := (redR [] w).reverse
theorem rpush_W {r : List Nat} {c : Nat} (h : IsW r) (hc : IsL c) : IsW (rpush r c) := by
  unfold rpush
  cases r with
  | nil => intro d hd; rw [List.mem_singleton] at hd; subst hd; exact hc
  | cons x r =>
    simp only
    split
    · exact fun d hd => h d (List.mem_cons_of_mem _ hd)
    · intro d hd
      rcases List.mem_cons.mp hd with rfl | hd
      · exact hc
      · exact h d hd
theorem redR_W {r w : List Nat} (h : IsW r) (hw : IsW w) : IsW (redR r w) := by
  induction w generalizing r with
  | nil => exact h
  | cons c w ih => exact ih (rpush_W h (hw c (by simp))) fun d hd => hw d (List.mem_cons_of_mem _ hd)
theorem rev_W {w : List Nat} (h : IsW w) : IsW w.reverse := fun c hc => h c (List.mem_reverse.mp hc)
theorem red_W {w : List Nat} (hw : IsW w) : IsW (red w) := rev_W (redR_W (by intro c hc; cases hc) hw)
theorem rpush_len (r : List Nat) (c : Nat) : (rpush r c).length ≤ r.length + 1 := by
  unfold rpush
  cases r with
  | nil => simp
  | cons x r => simp only; split <;> simp; omega
theorem redR_len (r w : List Nat) : (redR r w).length ≤ r.length + w.length := by
  induction w generalizing r with
  | nil => simp [redR]
  | cons c w ih =>
    have h1 := ih (rpush r c)
    have h2 := rpush_len r c
    show (redR (rpush r c) w).length ≤ _
    simp only [List.length_cons]
    omega
theorem red_len (w : List Nat) : (red w).length ≤ w.length := by
  unfold red
  rw [List.length_reverse]
  have := redR_len [] w
  simpa using this
theorem redR_app (r v w : List Nat) : redR r (v ++ w) = redR (redR r v) w := by unfold redR; rw [List.foldl_append]
def m_shortened : PM := fun ds st Q => match ds with
  | [.str w] => IsW w ∧ w.length ≤ 16777216 ∧ Q (.d (.str (red w))) st
  | _ => False
theorem e_shortened {w s Q} : m_shortened [.str w] s Q = (IsW w ∧ w.length ≤ 16777216 ∧ Q (.d (.str (red w))) s) := rfl
theorem con_inj {a b : Nat} (ha : IsL a) (hb : IsL b) (h : con a = con b) : a = b := by rw [← con_con ha, h, con_con hb]
theorem e_contrary {c s Q} : m_contrary [.str [c]] s Q = (IsL c ∧ Q (.d (.str [con c])) s) := rfl
theorem e_take {n s Q} : m_law_take [.box, .int n] s Q = (0 < n ∧ n < 2 ^ 64 ∧ ∀ d : Int, 0 ≤ d → d < n → Q (.d (.int d)) s) := rfl
theorem e_box {n k s Q} : m_law_box [.scr n, .int k] s Q = (0 ≤ k ∧ k < 2 ^ 40 ∧ Q (.d .box) s) := rfl
theorem e_turned {w s Q} : m_turned [.str w] s Q = (IsW w ∧ w.length ≤ 16777216 ∧ Q (.d (.str (turn w))) s) := rfl
def t_shortened : PTS := sSeq (sAsg 1 (tLst (tNil))) (sSeq (sFor (iAny (tName 0)) (gName 2) (sIf (tAnd (tB (t2 (tCallP pLen (rCons (tName 1) (rNil))) (tD (.int 0)) pGt)) (tB (t2 (t2 (tName 1) (t1 (tD (.int 1)) pNeg) pIx) (tCall0 m_contrary (tCons (tName 2) (tNil))) pEq))) (sDrop (tMut mPop (tName 1) tNil)) (sDrop (tMut mAppend (tName 1) (tCons (tName 2) (tNil)))))) (sRet (tMeth "str" pJoin (tD (.str [])) (rCons (tName 1) (rNil)))))
abbrev N_shortened : List Str := ["word", "left", "letter"]
theorem len_shortened (ds : List D) (s : Sto) (Q : C → Sto → Prop) (h : m_shortened ds s Q) : ds.length = 1 := by
  unfold m_shortened at h
  split at h
  · rfl
  · exact h.elim
theorem signs_last {r : List Nat} {c : Nat} : (signs (c :: r).reverse)[(signs (c :: r).reverse).length - 1]? = some (.str [c]) := by
  unfold signs
  simp
theorem signs_drop (r : List Nat) : (signs r).dropLast = signs r.dropLast := by unfold signs; rw [List.map_dropLast]
theorem rev_drop (c : Nat) (r : List Nat) : (c :: r).reverse.dropLast = r.reverse := by simp
theorem p_shortened (ds : List D) (s : Sto) (Q : C → Sto → Prop) (h : m_shortened ds s Q) : t_shortened noX { nx := fun e => Q (.d .non) e.st, rt := fun c e => Q c e.st } ⟨startC N_shortened ds, s⟩ := by
  unfold m_shortened at h
  split at h
  · rename_i w
    obtain ⟨hw, hl, q⟩ := h
    unfold t_shortened
    simpa?! only []
    refine forH_signs w (fun pre suf e => ∃ c2, e = ⟨[.d (.str w), .own (signs (redR [] pre).reverse), c2], s⟩) ⟨_, rfl⟩ ?_ ?_
    · rintro e ⟨c2, rfl⟩
      simpa?! only [strL_signs, joinN_signs]
      exact ⟨len_signs' (Nat.le_trans (red_len w) hl), q⟩
    · rintro pre c suf e hp ⟨c2, rfl⟩ N hN
      have hc : IsL c := hw c (by rw [← hp]; simp)
      have hpw : IsW pre := fun d hd => hw d (by rw [← hp]; simp [hd])
      have hrl := redR_len [] pre
      have hpl : pre.length + (suf.length + 1) = w.length := by rw [← hp]; simp
      have fin : ∀ r', r' = redR [] (pre ++ [c]) → N ⟨[.d (.str w), .own (signs r'.reverse), .d (.str [c])], s⟩ := fun r' h => by subst h; exact hN _ ⟨_, rfl⟩
      rw [redR_app] at fin
      generalize redR [] pre = r at hrl fin
      have fin : N ⟨[.d (.str w), .own (signs (rpush r c).reverse), .d (.str [c])], s⟩ := fin _ rfl
      have app : (signs r.reverse).length < 16777216 ∧ (rpush r c = c :: r → N ⟨[.d (.str w), .own (signs r.reverse ++ [.str [c]]), .d (.str [c])], s⟩) := by
        refine ⟨by rw [signs_len, List.length_reverse]; simp at hrl; omega, fun e => ?_⟩
        rw [signs_snoc, ← List.reverse_cons, ← e]
        exact fin
      simpa?! only []
      cases r with
      | nil =>
        refine br_neg (by decide) ?_
        simpa?! only []
        exact ⟨app.1, app.2 rfl⟩
      | cons x r =>
        refine br_pos (decide_eq_true ?_) ?_
        · rw [signs_len]; simp
        simpa?! only [atI_last]
        refine opt_of (a := .str [x]) (by unfold signs; simp) ?_
        simpa?! only [e_contrary]
        refine ⟨hc, ?_⟩
        by_cases hx : x = con c
        · refine br_pos (decide_eq_true (by rw [hx])) ?_
          simpa?! only []
          refine opt_of signs_last ?_
          simpa?! only []
          rw [signs_drop, rev_drop]
          unfold rpush at fin
          simp only [hx, if_pos] at fin
          exact fin
        · refine br_neg (decide_eq_false (by simpa using hx)) ?_
          simpa?! only []
          exact ⟨app.1, app.2 (by unfold rpush; simp only; rw [if_neg hx])⟩
  · exact h.elim
def cyc (w : List Nat) : List Nat := if 1 < w.length ∧ w.head? = w.getLast?.map con then cyc w.tail.dropLast else w
termination_by w.length
decreasing_by simp; omega
def m_shortest : PM := fun ds st Q => match ds with
  | [.str w] => IsW w ∧ w.length ≤ 16777216 ∧ Q (.d (.str (cyc (red w)))) st
  | _ => False
theorem e_shortest {w s Q} : m_shortest [.str w] s Q = (IsW w ∧ w.length ≤ 16777216 ∧ Q (.d (.str (cyc (red w)))) s) := rfl
def t_shortest : PTS := sSeq (sAsg 1 (tCall0 m_shortened (tCons (tName 0) (tNil)))) (sSeq (sWhile (tAnd (tB (t2 (tCallP pLen (rCons (tName 1) (rNil))) (tD (.int 1)) pGt)) (tB (t2 (t2 (tName 1) (tD (.int 0)) pIx) (tCall0 m_contrary (tCons (t2 (tName 1) (t1 (tD (.int 1)) pNeg) pIx) (tNil))) pEq))) (sAsg 1 (tSl (tName 1) (oSome (tD (.int 1))) (oSome (t1 (tD (.int 1)) pNeg))))) (sRet (tName 1)))
abbrev N_shortest : List Str := ["word", "left"]
theorem len_shortest (ds : List D) (s : Sto) (Q : C → Sto → Prop) (h : m_shortest ds s Q) : ds.length = 1 := by
  unfold m_shortest at h
  split at h
  · rfl
  · exact h.elim
theorem ends_of {v : List Nat} (h : 0 < v.length) : ∃ a b, v.head? = some a ∧ v.getLast? = some b ∧ a ∈ v ∧ b ∈ v := by
  have hv : v ≠ [] := List.length_pos_iff.mp h
  refine ⟨v.head hv, v.getLast hv, List.head?_eq_some_head hv, List.getLast?_eq_some_getLast hv, List.head_mem hv, List.getLast_mem hv⟩
theorem cyc_in {v : List Nat} {a b : Nat} (h : 1 < v.length) (ha : v.head? = some a) (hb : v.getLast? = some b) (e : a = con b) : cyc v = cyc v.tail.dropLast := by
  rw [cyc, if_pos ⟨h, by rw [ha, hb, e]; rfl⟩]
theorem cyc_out {v : List Nat} {a b : Nat} (ha : v.head? = some a) (hb : v.getLast? = some b) (e : a ≠ con b) : cyc v = v := by
  rw [cyc, if_neg]
  rw [ha, hb]
  simp
  exact fun _ => e
theorem cyc_one {v : List Nat} (h : ¬ 1 < v.length) : cyc v = v := by rw [cyc, if_neg (fun z => h z.1)]
theorem inner_W {v : List Nat} (h : IsW v) : IsW v.tail.dropLast := fun c hc => h c (List.mem_of_mem_tail (List.dropLast_subset _ hc))
theorem cyc_W {v : List Nat} (h : IsW v) : IsW (cyc v) := by
  generalize hn : v.length = n
  induction n using Nat.strongRecOn generalizing v with
  | _ n ih =>
    rw [cyc]
    split
    · rename_i hc
      exact ih _ (by simp; omega) (inner_W h) rfl
    · exact h
theorem cyc_len (v : List Nat) : (cyc v).length ≤ v.length := by
  generalize hn : v.length = n
  induction n using Nat.strongRecOn generalizing v with
  | _ n ih =>
    rw [cyc]
    split
    · rename_i hc
      have := ih v.tail.dropLast.length (by simp; omega) _ rfl
      simp at this
      omega
    · omega
theorem p_shortest (ds : List D) (s : Sto) (Q : C → Sto → Prop) (h : m_shortest ds s Q) : t_shortest noX { nx := fun e => Q (.d .non) e.st, rt := fun c e => Q c e.st } ⟨startC N_shortest ds, s⟩ := by
  unfold m_shortest at h
  split at h
  · rename_i w
    obtain ⟨hw, hl, q⟩ := h
    unfold t_shortest
    simpa?! only [e_shortened]
    refine ⟨hw, hl, ?_⟩
    refine wh_on (fun v : List Nat => ⟨[.d (.str w), .d (.str v)], s⟩) (fun v => IsW v ∧ cyc v = cyc (red w)) List.length (red w) rfl ⟨red_W hw, rfl⟩ ?_
    rintro v ⟨hv, hc⟩ N hN
    simpa?! only []
    by_cases h1 : 1 < v.length
    · refine br_pos (decide_eq_true (by omega)) ?_
      obtain ⟨a, b, ha, hb, ma, mb⟩ := ends_of (v := v) (by omega)
      simpa?! only []
      refine at_head ha ?_
      simpa?! only []
      refine at_last hb ?_
      simpa?! only [e_contrary]
      refine ⟨hv b mb, ?_⟩
      by_cases e : a = con b
      · refine br_pos (decide_eq_true (by rw [e])) ?_
        simpa?! only [cut_inner]
        exact hN _ ⟨inner_W hv, by rw [← hc, cyc_in h1 ha hb e]⟩ (by simp; omega)
      · refine br_neg (decide_eq_false (by simpa using e)) ?_
        simpa?! only []
        rw [← hc, cyc_out ha hb e] at q
        exact q
    · refine br_neg (decide_eq_false (by omega)) ?_
      simpa?! only []
      rw [← hc, cyc_one h1] at q
      exact q
  · exact h.elim
set_option maxRecDepth 100000
set_option maxHeartbeats 1000000
def sml (c : Nat) : Bool := decide (c ∈ SM)
def bandW (y : List Nat) : List Nat := (srt ((y.filter sml).map fun c => [c])).flatten
theorem band_eq {y z : List Nat} (p : y.Perm z) : bandW y = bandW z := by
  unfold bandW
  rw [srt_eq ((p.filter sml).map _)]
set_option maxRecDepth 100000
set_option maxHeartbeats 1000000
abbrev Sd := Nat × Nat
def sd (p : Sd) : D := .tup [.int (p.1 : Nat), .int (p.2 : Nat)]
def oD (o : List Sd) : D := .tup (o.map sd)
def strandsW (b c : Nat) (w : List Nat) : List Sd := ((enF 0 w).filter fun p => decide (p.2 = b) || decide (p.2 = con b)).map fun p => (c, p.1)
def strands (ws : List (List Nat)) (b : Nat) : List Sd := (enF 0 ws).flatMap fun p => strandsW b p.1 p.2
def OrdOk (ws : List (List Nat)) (nm : List Nat) (os : List (List Sd)) : Prop := All2 (fun b o => o.Perm (strands ws b)) nm os
theorem strandsW_len (b c : Nat) (w : List Nat) : (strandsW b c w).length ≤ w.length := by
  unfold strandsW
  rw [List.length_map]
  exact Nat.le_trans (List.length_filter_le _ _) (by rw [enF_len]; exact Nat.le_refl _)
theorem flat_len {α β : Type} (f : Nat × α → List β) (g : α → Nat) (h : ∀ p, (f p).length ≤ g p.2) : ∀ (l : List α) (i : Nat), ((enF i l).flatMap f).length ≤ (l.map g).sum
  | [], _ => by simp [enF]
  | a :: l, i => by
    rw [enF, List.flatMap_cons, List.length_append, List.map_cons, List.sum_cons]
    have h1 := flat_len f g h l (i + 1)
    have h2 : (f (i, a)).length ≤ g a := h (i, a)
    omega
theorem strands_len (ws : List (List Nat)) (b : Nat) : (strands ws b).length ≤ (ws.map List.length).sum := flat_len _ _ (fun p => strandsW_len b p.1 p.2) ws 0
theorem le_sum_of {n : Nat} : ∀ {l : List Nat}, n ∈ l → n ≤ l.sum
  | [], h => by cases h
  | a :: l, h => by
    rw [List.sum_cons]
    rcases List.mem_cons.mp h with e | e
    · omega
    · have := le_sum_of e; omega
set_option maxRecDepth 100000
set_option maxHeartbeats 1000000
/-- a yard with orders for its bands -/
structure DrOk (y : List Nat) (os : List (List Sd)) : Prop where
  yd : YardOk y
  few8 : y.length ≤ 16
  len : os.length = (bandW y).length
  some_ : ∀ o ∈ os, o.length ≤ 64
  bnd : ∀ o ∈ os, ∀ p ∈ o, p.1 < 2 ^ 20 ∧ p.2 < 2 ^ 20
theorem DrOk.few {y : List Nat} {os : List (List Sd)} (h : DrOk y os) : y.length < 64 := by have := h.few8; omega
theorem strands_mem {ws : List (List Nat)} {b : Nat} {p : Sd} (h : p ∈ strands ws b) : ∃ w, ws[p.1]? = some w ∧ ∃ c, w[p.2]? = some c ∧ (c = b ∨ c = con b) := by
  obtain ⟨q, hq, hp⟩ := List.mem_flatMap.mp h
  obtain ⟨r, hr, rfl⟩ := List.mem_map.mp hp
  obtain ⟨i, hi, e⟩ := enF_mem hq
  rw [Nat.zero_add] at e
  obtain ⟨hr1, hr2⟩ := List.mem_filter.mp hr
  obtain ⟨j, hj, e'⟩ := enF_mem hr1
  rw [Nat.zero_add] at e'
  refine ⟨q.2, by rw [e]; exact hi, r.2, by rw [e']; exact hj, by simpa using hr2⟩
theorem drOk_of {y : List Nat} {ws : List (List Nat)} {os : List (List Sd)} (hy : YardOk y) (hl : y.length ≤ 16) (hw : ws.length ≤ 64) (hs : (ws.map List.length).sum ≤ 64) (h : OrdOk ws (bandW y) os) : DrOk y os := by
  refine ⟨hy, hl, h.length, fun o ho => ?_, fun o ho p hp => ?_⟩
  · obtain ⟨i, hi⟩ := List.mem_iff_getElem?.mp ho
    obtain ⟨b, _, hb⟩ := h.get' hi
    rw [hb.length_eq]
    exact Nat.le_trans (strands_len ws b) hs
  · obtain ⟨i, hi⟩ := List.mem_iff_getElem?.mp ho
    obtain ⟨b, _, hb⟩ := h.get' hi
    obtain ⟨w, h1, c, h2, _⟩ := strands_mem (hb.mem_iff.mp hp)
    have g1 := (List.getElem?_eq_some_iff.mp h1).1
    have g2 := (List.getElem?_eq_some_iff.mp h2).1
    have g3 : w.length ≤ (ws.map List.length).sum := le_sum_of (List.mem_map_of_mem (List.mem_of_getElem? h1))
    constructor <;> omega
theorem YardOk.perm {y z : List Nat} (h : YardOk y) (p : z.Perm y) : YardOk z :=
  ⟨p.nodup_iff.mpr h.nd, fun c hc => h.let_ c (p.mem_iff.mp hc), fun c hc => p.mem_iff.mpr (h.con_ c (p.mem_iff.mp hc))⟩
theorem DrOk.perm {y z : List Nat} {os : List (List Sd)} (h : DrOk y os) (p : z.Perm y) : DrOk z os :=
  ⟨h.yd.perm p, by rw [p.length_eq]; exact h.few8, by rw [band_eq p]; exact h.len, h.some_, h.bnd⟩
set_option maxRecDepth 100000
set_option maxHeartbeats 1000000
theorem ixOf_app_mem {c : Nat} : ∀ {l m : List Nat}, c ∈ l → ixOf c (l ++ m) = ixOf c l
  | [], _, h => by cases h
  | x :: l, m, h => by
    show (if x = c then 0 else ixOf c (l ++ m) + 1) = if x = c then 0 else ixOf c l + 1
    by_cases e : x = c
    · rw [if_pos e, if_pos e]
    · rw [if_neg e, if_neg e, ixOf_app_mem ((List.mem_cons.mp h).resolve_left fun z => e z.symm)]
theorem ixOf_app_not {c : Nat} : ∀ {l m : List Nat}, c ∉ l → ixOf c (l ++ m) = l.length + ixOf c m
  | [], m, _ => by simp
  | x :: l, m, h => by
    show (if x = c then 0 else ixOf c (l ++ m) + 1) = _
    rw [if_neg (fun z => h (by simp [z])), ixOf_app_not (fun z => h (List.mem_cons_of_mem _ z)), List.length_cons]
    omega
theorem ixOf_inj {a b : Nat} {l : List Nat} (ha : a ∈ l) (hb : b ∈ l) (h : ixOf a l = ixOf b l) : a = b := by
  have h1 := (ixOf_spec ha).1
  have h2 := (ixOf_spec hb).1
  rw [h, h2] at h1
  exact (Option.some.inj h1).symm
theorem ixOf_pre {c k : Nat} {l : List Nat} (h : c ∈ l) (hk : ixOf c l < k) : c ∈ l.take k ∧ ixOf c (l.take k) = ixOf c l := by
  have h1 : c ∈ l.take k := List.mem_of_getElem? (i := ixOf c l) (by rw [List.getElem?_take_of_lt hk]; exact (ixOf_spec h).1)
  refine ⟨h1, ?_⟩
  have := ixOf_app_mem (m := l.drop k) h1
  rw [List.take_append_drop] at this
  exact this.symm
theorem ixOf_post {c k : Nat} {l : List Nat} (h : c ∈ l) (hk : k ≤ ixOf c l) : c ∉ l.take k ∧ c ∈ l.drop k ∧ ixOf c l = k + ixOf c (l.drop k) := by
  have hl := ixOf_lt h
  have h1 : c ∉ l.take k := fun z => by
    have := ixOf_app_mem (m := l.drop k) z
    rw [List.take_append_drop] at this
    have := ixOf_lt z
    rw [List.length_take] at this
    omega
  have h2 := ixOf_app_not (m := l.drop k) h1
  rw [List.take_append_drop, List.length_take] at h2
  refine ⟨h1, ?_, by omega⟩
  have : c ∈ l.take k ++ l.drop k := by rw [List.take_append_drop]; exact h
  exact (List.mem_append.mp this).resolve_left h1
theorem take_drop_dis {l : List Nat} (h : l.Nodup) {c k : Nat} (h1 : c ∈ l.take k) : c ∉ l.drop k := fun h2 => by
  have : (l.take k ++ l.drop k).Nodup := by rw [List.take_append_drop]; exact h
  rw [List.nodup_append] at this
  exact this.2.2 c h1 c h2 rfl
/-- what is behind the i-th round the text -/
theorem rest_ix {y : List Nat} (h : y.Nodup) {i b : Nat} (hi : i < y.length) (hb : b ∈ y) (ne : ixOf b y ≠ i) :
    b ∈ y.drop (i + 1) ++ y.take i ∧ ixOf b (y.drop (i + 1) ++ y.take i) = if i < ixOf b y then ixOf b y - i - 1 else y.length - i - 1 + ixOf b y := by
  by_cases c : i < ixOf b y
  · obtain ⟨_, h2, h3⟩ := ixOf_post (k := i + 1) hb c
    refine ⟨List.mem_append_left _ h2, ?_⟩
    rw [ixOf_app_mem h2, if_pos c]
    omega
  · have c' : ixOf b y < i := by omega
    obtain ⟨h2, h3⟩ := ixOf_pre hb c'
    have h4 : b ∉ y.drop (i + 1) := take_drop_dis h (ixOf_pre hb (k := i + 1) (by omega)).1
    refine ⟨List.mem_append_right _ h2, ?_⟩
    rw [ixOf_app_not h4, if_neg c, h3, List.length_drop]
    omega
/-- whether q comes ahead of r, from p on -/
def cyc3 (p q r : Nat) : Bool := decide ((p < q ∧ q < r) ∨ (q < r ∧ r < p) ∨ (r < p ∧ p < q))
theorem cyc3_turn (p q r : Nat) : cyc3 q r p = cyc3 p q r := by unfold cyc3; rw [Bool.eq_iff_iff]; simp only [decide_eq_true_eq]; omega
theorem cyc3_swap {p q r : Nat} (h1 : p ≠ q) (h2 : q ≠ r) (h3 : p ≠ r) : cyc3 p r q = !cyc3 p q r := by
  unfold cyc3
  rw [Bool.eq_iff_iff]
  simp only [Bool.not_eq_true', decide_eq_true_eq, decide_eq_false_iff_not]
  omega
theorem emd {x n : Int} (h1 : -n ≤ x) (h2 : x < n) : x % n = if 0 ≤ x then x else x + n := by
  by_cases h : 0 ≤ x
  · rw [if_pos h]; exact Int.emod_eq_of_lt h h2
  · rw [if_neg h, ← Int.add_emod_right]; exact Int.emod_eq_of_lt (by omega) (by omega)
def m_goes_round : PM := fun ds st Q => match ds with
  | [.str y, .str [a], .str [b], .str [c]] => y.Nodup ∧ y.length ≤ 64 ∧ a ∈ y ∧ b ∈ y ∧ c ∈ y ∧ a ≠ b ∧ a ≠ c ∧ Q (.d (.bl (cyc3 (ixOf a y) (ixOf b y) (ixOf c y)))) st
  | _ => False
def t_goes_round : PTS := sSeq (sAsg 4 (tMeth "str" pIndexS (tName 0) (rCons (tName 1) (rNil)))) (sSeq (sAsg 5 (t2 (tSl (tName 0) (oSome (t2 (tName 4) (tD (.int 1)) pAdd)) (oNone)) (tSl (tName 0) (oNone) (oSome (tName 4))) pAdd)) (sRet (t2 (tMeth "str" pIndexS (tName 5) (rCons (tName 2) (rNil))) (tMeth "str" pIndexS (tName 5) (rCons (tName 3) (rNil))) pLt)))
abbrev N_goes_round : List Str := ["yard", "x", "y", "z", "at", "rest"]
theorem len_goes_round (ds : List D) (s : Sto) (Q : C → Sto → Prop) (h : m_goes_round ds s Q) : ds.length = 4 := by
  unfold m_goes_round at h
  split at h
  · rfl
  · exact h.elim
theorem p_goes_round (ds : List D) (s : Sto) (Q : C → Sto → Prop) (h : m_goes_round ds s Q) : t_goes_round noX { nx := fun e => Q (.d .non) e.st, rt := fun c e => Q c e.st } ⟨startC N_goes_round ds, s⟩ := by
  unfold m_goes_round at h
  split at h
  · rename_i y a b c
    obtain ⟨hn, hl, ha, hb, hc, ab, ac, q⟩ := h
    have hi := ixOf_lt ha
    obtain ⟨b1, b2⟩ := rest_ix hn hi hb (fun z => ab (ixOf_inj ha hb z.symm))
    obtain ⟨c1, c2⟩ := rest_ix hn hi hc (fun z => ac (ixOf_inj ha hc z.symm))
    unfold t_goes_round
    simpa?! only []
    refine ⟨ha, ?_⟩
    have e1 : ((ixOf a y : Nat) : Int) + 1 = ((ixOf a y + 1 : Nat) : Int) := by omega
    rw [e1]
    simpa?! only [cut_take, cut_drop]
    refine ⟨by rw [List.length_drop, List.length_take]; omega, b1, c1, ?_⟩
    have e2 : decide ((ixOf b (y.drop (ixOf a y + 1) ++ y.take (ixOf a y)) : Int) < (ixOf c (y.drop (ixOf a y + 1) ++ y.take (ixOf a y)) : Nat)) = cyc3 (ixOf a y) (ixOf b y) (ixOf c y) := by
      have n1 : ixOf b y ≠ ixOf a y := fun z => ab (ixOf_inj ha hb z.symm)
      have n2 : ixOf c y ≠ ixOf a y := fun z => ac (ixOf_inj ha hc z.symm)
      have l1 := ixOf_lt hb
      have l2 := ixOf_lt hc
      rw [b2, c2]
      unfold cyc3
      rw [Bool.eq_iff_iff]
      simp only [decide_eq_true_eq]
      split <;> split <;> omega
    rw [e2]
    exact q
  · exact h.elim
set_option maxRecDepth 100000
set_option maxHeartbeats 1000000
/-- a drawing of words in a yard -/
structure Dr (y : List Nat) (ws : List (List Nat)) (os : List (List Sd)) : Prop where
  yd : YardOk y
  few : y.length ≤ 16
  ws1 : ws.length ≤ 64
  ws2 : (ws.map List.length).sum ≤ 64
  lets : ∀ w ∈ ws, ∀ c ∈ w, c ∈ y
  ord : OrdOk ws (bandW y) os
theorem Dr.ok {y : List Nat} {ws : List (List Nat)} {os : List (List Sd)} (h : Dr y ws os) : DrOk y os := drOk_of h.yd h.few h.ws1 h.ws2 h.ord
set_option maxRecDepth 100000
set_option maxHeartbeats 1000000
def lr (w : List Nat) (i : Int) : Nat := w.getD (i % (w.length : Int)).toNat 0
theorem lr_get {w : List Nat} (h : w ≠ []) (i : Int) : w[(i % (w.length : Int)).toNat]? = some (lr w i) ∧ (i % (w.length : Int)).toNat < w.length := by
  have hp : 0 < w.length := List.length_pos_iff.mpr h
  have h1 : 0 ≤ i % (w.length : Int) := Int.emod_nonneg _ (by omega)
  have h2 : i % (w.length : Int) < w.length := Int.emod_lt_of_pos _ (by omega)
  have h3 : (i % (w.length : Int)).toNat < w.length := by omega
  refine ⟨?_, h3⟩
  unfold lr
  rw [List.getD_eq_getElem?_getD, List.getElem?_eq_getElem h3]
  rfl
theorem at_lr {w : List Nat} (h : w ≠ []) (i : Int) : atI w (i % (w.length : Int)) = some (lr w i) := by
  have hp : 0 < w.length := List.length_pos_iff.mpr h
  have h1 : 0 ≤ i % (w.length : Int) := Int.emod_nonneg _ (by omega)
  obtain ⟨h2, h3⟩ := lr_get h i
  have e : i % (w.length : Int) = ((i % (w.length : Int)).toNat : Int) := by omega
  rw [e, atI_nat' h3, ← h2]
  exact (List.getElem?_eq_getElem h3).symm
theorem lr_mem {w : List Nat} (h : w ≠ []) (i : Int) : lr w i ∈ w := List.mem_of_getElem? (lr_get h i).1
theorem lr_nat {w : List Nat} {k c : Nat} (h : w[k]? = some c) : lr w k = c := by
  have hk := (List.getElem?_eq_some_iff.mp h).1
  unfold lr
  rw [Int.emod_eq_of_lt (by omega) (by omega), Int.toNat_natCast, List.getD_eq_getElem?_getD, h]
  rfl
theorem lr_add (w : List Nat) (i : Int) : lr w (i + w.length) = lr w i := by unfold lr; rw [Int.add_emod_right]
theorem lr_mod (w : List Nat) (i : Int) : lr w (i % (w.length : Int)) = lr w i := by unfold lr; rw [Int.emod_emod_of_dvd _ (Int.dvd_refl _)]
theorem lr_ext {v w : List Nat} (hv : v ≠ []) (hl : v.length = w.length) (h : ∀ k : Nat, k < v.length → lr v k = lr w k) : v = w := by
  apply List.ext_getElem?
  intro k
  by_cases hk : k < v.length
  · have h1 := h k hk
    rw [lr_nat (List.getElem?_eq_getElem hk), lr_nat (List.getElem?_eq_getElem (by omega : k < w.length))] at h1
    rw [List.getElem?_eq_getElem hk, List.getElem?_eq_getElem (by omega : k < w.length), h1]
  · rw [List.getElem?_eq_none (by omega), List.getElem?_eq_none (by omega)]
/-- a shortest word of a yard -/
structure CrW (y w : List Nat) : Prop where
  ne : w ≠ []
  mem : ∀ c ∈ w, c ∈ y
  cr : ∀ i : Int, lr w (i + 1) ≠ con (lr w i)
theorem CrW.at {y w : List Nat} (h : CrW y w) (i : Int) : lr w i ∈ y := h.mem _ (lr_mem h.ne i)
theorem CrW.cr' {y w : List Nat} (h : CrW y w) (i : Int) : lr w i ≠ con (lr w (i - 1)) := by
  have := h.cr (i - 1)
  rw [Int.sub_add_cancel] at this
  exact this
theorem crW_of {y w : List Nat} (h0 : w ≠ []) (hm : ∀ c ∈ w, c ∈ y) (ha : ∀ k a b, w[k]? = some a → w[k + 1]? = some b → b ≠ con a) (he : ∀ a b, w[0]? = some a → w[w.length - 1]? = some b → a ≠ con b) : CrW y w := by
  refine ⟨h0, hm, fun i => ?_⟩
  have hp : 0 < w.length := List.length_pos_iff.mpr h0
  obtain ⟨g1, g2⟩ := lr_get h0 i
  have e := lr_mod w (i + 1)
  have e2 : (i + 1) % (w.length : Int) = ((i % (w.length : Int)).toNat + 1 : Int) % (w.length : Int) := by
    have h1 : 0 ≤ i % (w.length : Int) := Int.emod_nonneg _ (by omega)
    rw [Int.toNat_of_nonneg h1, Int.emod_add_emod]
  rw [e2, lr_mod] at e
  generalize (i % (w.length : Int)).toNat = k at *
  by_cases hk : k + 1 < w.length
  · have g3 : w[k + 1]? = some w[k + 1] := List.getElem?_eq_getElem hk
    have := ha k _ _ g1 g3
    rw [← lr_nat g3] at this
    rw [← e]
    push_cast at this
    exact this
  · have hk : k + 1 = w.length := by omega
    have g3 : w[0]? = some w[0] := List.getElem?_eq_getElem hp
    have g4 : w[w.length - 1]? = some (lr w i) := by rw [← g1]; congr 1; omega
    have := he _ _ g3 g4
    rw [← lr_nat g3] at this
    have e3 : lr w ((k : Int) + 1) = lr w ((0 : Nat) : Int) := by
      have h5 : (k : Int) + 1 = 0 + (w.length : Int) := by omega
      rw [h5, lr_add]
      rfl
    rw [← e, e3]
    exact this
theorem CrW.adj {y w : List Nat} (h : CrW y w) {k a b : Nat} (h1 : w[k]? = some a) (h2 : w[k + 1]? = some b) : b ≠ con a := by
  have := h.cr k
  rw [lr_nat h1] at this
  have e : lr w ((k : Int) + 1) = b := by
    have := lr_nat h2
    push_cast at this
    exact this
  rw [e] at this
  exact this
theorem CrW.ends {y w : List Nat} (h : CrW y w) {a b : Nat} (h1 : w[0]? = some a) (h2 : w[w.length - 1]? = some b) : a ≠ con b := by
  have hp : 0 < w.length := List.length_pos_iff.mpr h.ne
  have := h.cr ((w.length - 1 : Nat) : Int)
  rw [lr_nat h2] at this
  have e : (((w.length - 1 : Nat) : Int) + 1) = 0 + (w.length : Int) := by omega
  rw [e, lr_add] at this
  have e2 : lr w 0 = a := lr_nat h1
  rw [e2] at this
  exact this
theorem lr_rot {w : List Nat} (k : Nat) (hk : k ≤ w.length) (i : Int) : lr (w.drop k ++ w.take k) i = lr w (i + k) := by
  by_cases h0 : w = []
  · subst h0; simp [lr]
  have hp : 0 < w.length := List.length_pos_iff.mpr h0
  have hl : (w.drop k ++ w.take k).length = w.length := by rw [List.length_append, List.length_drop, List.length_take]; omega
  have hn : w.drop k ++ w.take k ≠ [] := fun z => by rw [z] at hl; simp at hl; omega
  obtain ⟨g1, g2⟩ := lr_get hn i
  rw [hl] at g1 g2
  have h1 : 0 ≤ i % (w.length : Int) := Int.emod_nonneg _ (by omega)
  have e2 : lr w (i + k) = lr w (((i % (w.length : Int)).toNat : Int) + k) := by
    rw [Int.toNat_of_nonneg h1, ← lr_mod w (i + k), ← lr_mod w (i % _ + k), Int.emod_add_emod]
  rw [e2]
  generalize (i % (w.length : Int)).toNat = j at *
  by_cases hj : j + k < w.length
  · rw [List.getElem?_append_left (by rw [List.length_drop]; omega), List.getElem?_drop] at g1
    have := lr_nat g1
    rw [← this]
    congr 1
    omega
  · rw [List.getElem?_append_right (by rw [List.length_drop]; omega), List.length_drop, List.getElem?_take] at g1
    split at g1
    · have := lr_nat g1
      rw [← this, ← lr_add w (((j - (w.length - k) : Nat)) : Int)]
      congr 1
      omega
    · cases g1
theorem CrW.rot_ {y w : List Nat} (h : CrW y w) (k : Nat) (hk : k ≤ w.length) : CrW y (w.drop k ++ w.take k) := by
  refine ⟨fun z => h.ne ?_, fun c hc => ?_, fun i => ?_⟩
  · have := congrArg List.length z
    rw [List.length_append, List.length_drop, List.length_take, List.length_nil] at this
    exact List.eq_nil_of_length_eq_zero (by omega)
  · rcases List.mem_append.mp hc with q | q
    · exact h.mem c (List.mem_of_mem_drop q)
    · exact h.mem c (List.mem_of_mem_take q)
  · rw [lr_rot k hk, lr_rot k hk]
    have := h.cr (i + k)
    have e : i + 1 + (k : Int) = i + k + 1 := by omega
    rw [e]
    exact this
theorem lr_turn {w : List Nat} (h0 : w ≠ []) (i : Int) : lr (turn w) i = con (lr w (-1 - i)) := by
  have hp : 0 < w.length := List.length_pos_iff.mpr h0
  have hl : (turn w).length = w.length := turn_len w
  have hn : turn w ≠ [] := fun z => by rw [z] at hl; simp at hl; omega
  obtain ⟨g1, g2⟩ := lr_get hn i
  rw [hl] at g1 g2
  have h1 : 0 ≤ i % (w.length : Int) := Int.emod_nonneg _ (by omega)
  have e2 : lr w (-1 - i) = lr w (-1 - ((i % (w.length : Int)).toNat : Int)) := by
    rw [Int.toNat_of_nonneg h1, ← lr_mod w (-1 - i), ← lr_mod w (-1 - i % _), Int.sub_emod_emod]
  rw [e2]
  generalize (i % (w.length : Int)).toNat = j at *
  unfold turn at g1
  rw [List.getElem?_reverse (by rw [List.length_map]; omega), List.length_map, List.getElem?_map] at g1
  have g3 : w[w.length - 1 - j]? = some w[w.length - 1 - j] := List.getElem?_eq_getElem (by omega)
  rw [g3] at g1
  have g1 := Option.some.inj g1
  show lr (w.map con).reverse i = _
  rw [← g1]
  congr 1
  rw [← lr_nat g3, ← lr_add w (-1 - (j : Int))]
  congr 1
  omega
theorem CrW.turn_ {y w : List Nat} (hy : YardOk y) (h : CrW y w) : CrW y (turn w) := by
  refine ⟨fun z => h.ne ?_, fun c hc => ?_, fun i => ?_⟩
  · have := congrArg List.length z
    rw [turn_len] at this
    exact List.eq_nil_of_length_eq_zero this
  · unfold turn at hc
    obtain ⟨d, hd, rfl⟩ := List.mem_map.mp (List.mem_reverse.mp hc)
    exact hy.con_ d (h.mem d hd)
  · rw [lr_turn h.ne, lr_turn h.ne, con_con (hy.let_ _ (h.at _))]
    intro e
    have := h.cr (-1 - (i + 1))
    have e2 : -1 - (i + 1) + 1 = -1 - i := by omega
    rw [e2] at this
    exact this e.symm
theorem lr_pow {w : List Nat} (k : Nat) (hk : 0 < k) (h0 : w ≠ []) (i : Int) : lr (List.replicate k w).flatten i = lr w i := by
  have hp : 0 < w.length := List.length_pos_iff.mpr h0
  have hl : (List.replicate k w).flatten.length = k * w.length := by rw [List.length_flatten, List.map_replicate, List.sum_replicate_nat]
  have hkp : 0 < k * w.length := Nat.mul_pos hk hp
  have hn : (List.replicate k w).flatten ≠ [] := fun z => by rw [z] at hl; simp only [List.length_nil] at hl; omega
  obtain ⟨g1, g2⟩ := lr_get hn i
  rw [hl] at g1 g2
  have h1 : 0 ≤ i % ((k * w.length : Nat) : Int) := Int.emod_nonneg _ (by omega)
  have e2 : lr w i = lr w (((i % ((k * w.length : Nat) : Int)).toNat : Nat) : Int) := by
    rw [Int.toNat_of_nonneg h1, ← lr_mod w i, ← lr_mod w (i % ((k * w.length : Nat) : Int))]
    rw [Int.emod_emod_of_dvd i (by push_cast; exact Int.dvd_mul_left ..)]
  rw [e2]
  generalize (i % ((k * w.length : Nat) : Int)).toNat = j at *
  have e3 : ∀ (k j : Nat), j < k * w.length → (List.replicate k w).flatten[j]? = w[j % w.length]? := by
    intro k
    induction k with
    | zero => intro j hj; omega
    | succ k ih =>
      intro j hj
      rw [List.replicate_succ, List.flatten_cons]
      by_cases q : j < w.length
      · rw [List.getElem?_append_left q, Nat.mod_eq_of_lt q]
      · rw [List.getElem?_append_right (by omega), ih (j - w.length) (by rw [Nat.add_mul] at hj; omega)]
        congr 1
        rw [Nat.mod_eq_sub_mod (a := j) (by omega)]
  rw [e3 k j g2] at g1
  have := lr_nat g1
  rw [← this, ← lr_mod w j, Int.natCast_emod]
theorem CrW.pow_ {y w : List Nat} (h : CrW y w) (k : Nat) (hk : 0 < k) : CrW y (List.replicate k w).flatten := by
  refine ⟨fun z => ?_, fun c hc => ?_, fun i => ?_⟩
  · have := congrArg List.length z
    rw [List.length_flatten, List.map_replicate, List.sum_replicate_nat, List.length_nil] at this
    have hp : 0 < w.length := List.length_pos_iff.mpr h.ne
    have := Nat.mul_pos hk hp
    omega
  · obtain ⟨l, hl, hc⟩ := List.mem_flatten.mp hc
    rw [(List.mem_replicate.mp hl).2] at hc
    exact h.mem c hc
  · rw [lr_pow k hk h.ne, lr_pow k hk h.ne]
    exact h.cr i
set_option maxRecDepth 100000
set_option maxHeartbeats 1000000
def gr (y : List Nat) (a b c : Nat) : Bool := cyc3 (ixOf a y) (ixOf b y) (ixOf c y)
theorem goes_i {y : List Nat} {a b c : Nat} {s : Sto} {Q : C → Sto → Prop} (hy : YardOk y) (hl : y.length ≤ 64) (ha : a ∈ y) (hb : b ∈ y) (hc : c ∈ y) (h1 : a ≠ b) (h2 : a ≠ c) (q : Q (.d (.bl (gr y a b c))) s) : m_goes_round [.str y, .str [a], .str [b], .str [c]] s Q := ⟨hy.nd, hl, ha, hb, hc, h1, h2, q⟩
def agr (f g : Int → Nat) : Nat → Nat → Nat
  | 0, m => m
  | k + 1, m => if f m = g m then agr f g k (m + 1) else m
theorem agr_spec (f g : Int → Nat) : ∀ k m, m ≤ agr f g k m ∧ agr f g k m ≤ m + k ∧ (∀ j : Nat, m ≤ j → j < agr f g k m → f j = g j) ∧ (agr f g k m < m + k → f (agr f g k m : Nat) ≠ g (agr f g k m : Nat))
  | 0, m => ⟨Nat.le_refl _, Nat.le_refl _, fun j h1 h2 => by unfold agr at h2; omega, fun h => by unfold agr at h; omega⟩
  | k + 1, m => by
    unfold agr
    by_cases e : f m = g m
    · rw [if_pos e]
      obtain ⟨h1, h2, h3, h4⟩ := agr_spec f g k (m + 1)
      refine ⟨by omega, by omega, fun j h5 h6 => ?_, fun h5 => h4 (by omega)⟩
      by_cases z : j = m
      · subst z; exact e
      · exact h3 j (by omega) h6
    · rw [if_neg e]
      exact ⟨Nat.le_refl _, by omega, fun j h1 h2 => by omega, fun _ => e⟩
def agree (f g : Int → Nat) (n : Nat) : Nat := agr f g n 0
theorem agree_spec (f g : Int → Nat) (n : Nat) : agree f g n ≤ n ∧ (∀ j : Nat, j < agree f g n → f j = g j) ∧ (agree f g n < n → f (agree f g n : Nat) ≠ g (agree f g n : Nat)) := by
  obtain ⟨_, h2, h3, h4⟩ := agr_spec f g n 0
  refine ⟨by unfold agree; omega, fun j hj => h3 j (by omega) hj, fun h => h4 (by unfold agree at h; omega)⟩
theorem agree_unique {f g : Int → Nat} {n m : Nat} (h1 : m ≤ n) (h2 : ∀ j : Nat, j < m → f j = g j) (h3 : m < n → f (m : Nat) ≠ g (m : Nat)) : agree f g n = m := by
  obtain ⟨g1, g2, g3⟩ := agree_spec f g n
  rcases Nat.lt_trichotomy (agree f g n) m with h | h | h
  · exact absurd (h2 _ h) (g3 (by omega))
  · exact h
  · exact absurd (g2 _ h) (h3 (by omega))
/-- how many letters two lines share from a place on, where they part so that they must meet -/
def mt3 (y : List Nat) (f g : Int → Nat) (n : Nat) : Nat :=
  if agree f g n = 0 ∨ f (-1) = g (-1) then 0
  else agree f g n * (if gr y (con (f (-1))) (con (g (-1))) (f 0) = gr y (f (agree f g n : Nat)) (g (agree f g n : Nat)) (con (f ((agree f g n : Nat) - 1))) then 1 else 0)
def fwd (w : List Nat) (i k : Int) : Nat := lr w (i + k)
def bwd (w : List Nat) (i k : Int) : Nat := con (lr w (i - k))
def along (y w : List Nat) (i : Int) (v : List Nat) (j : Int) : Nat := mt3 y (fwd w i) (fwd v j) (w.length + v.length)
def against (y w : List Nat) (i : Int) (v : List Nat) (j : Int) : Nat := mt3 y (fwd w i) (bwd v j) (w.length + v.length)
def across (y w : List Nat) (i : Int) (v : List Nat) (j : Int) : Bool :=
  if con (lr v (j - 1)) = con (lr w (i - 1)) ∨ con (lr v (j - 1)) = lr w i ∨ lr v j = con (lr w (i - 1)) ∨ lr v j = lr w i ∨ con (lr v (j - 1)) = lr v j then false
  else gr y (con (lr w (i - 1))) (con (lr v (j - 1))) (lr w i) != gr y (con (lr w (i - 1))) (lr v j) (lr w i)
/-- lines that never part share what is ahead, too -/
theorem per_all {f g : Int → Nat} {n k : Nat} (hn : 0 < n) (hk : 0 < k) (hf : ∀ i, f (i + n) = f i) (hg : ∀ i, g (i + k) = g i) (h : ∀ j : Nat, j < n + k → f j = g j) : f (-1) = g (-1) := by
  have h1 := h (n - 1) (by omega)
  have h2 := h (n + k - 1) (by omega)
  have h3 := h (k - 1) (by omega)
  have e1 : f (-1) = f ((n - 1 : Nat) : Int) := by rw [← hf (-1)]; congr 1; omega
  have e2 : g (-1) = g ((k - 1 : Nat) : Int) := by rw [← hg (-1)]; congr 1; omega
  have e3 : f ((n + k - 1 : Nat) : Int) = f ((k - 1 : Nat) : Int) := by rw [← hf ((k - 1 : Nat) : Int)]; congr 1; omega
  have e4 : g ((n + k - 1 : Nat) : Int) = g ((n - 1 : Nat) : Int) := by rw [← hg ((n - 1 : Nat) : Int)]; congr 1; omega
  rw [e1, h1, ← e4, ← h2, e3, h3, ← e2]
theorem fwd_per (w : List Nat) (i k : Int) : fwd w i (k + w.length) = fwd w i k := by
  unfold fwd
  have : i + (k + (w.length : Int)) = i + k + w.length := by omega
  rw [this, lr_add]
theorem bwd_per (w : List Nat) (i k : Int) : bwd w i (k + w.length) = bwd w i k := by
  unfold bwd
  have : i - k = i - (k + (w.length : Int)) + w.length := by omega
  rw [this, lr_add]
theorem never_along {w v : List Nat} (hw : w ≠ []) (hv : v ≠ []) (i j : Int) (h : agree (fwd w i) (fwd v j) (w.length + v.length) = w.length + v.length) : fwd w i (-1) = fwd v j (-1) :=
  per_all (List.length_pos_iff.mpr hw) (List.length_pos_iff.mpr hv) (fwd_per w i) (fwd_per v j) fun k hk => (agree_spec _ _ _).2.1 k (by rw [h]; exact hk)
theorem never_against {w v : List Nat} (hw : w ≠ []) (hv : v ≠ []) (i j : Int) (h : agree (fwd w i) (bwd v j) (w.length + v.length) = w.length + v.length) : fwd w i (-1) = bwd v j (-1) :=
  per_all (List.length_pos_iff.mpr hw) (List.length_pos_iff.mpr hv) (fwd_per w i) (bwd_per v j) fun k hk => (agree_spec _ _ _).2.1 k (by rw [h]; exact hk)
def m_letter_at : PM := fun ds st Q => match ds with
  | [.str w, .int k] => w ≠ [] ∧ w.length ≤ 65536 ∧ Q (.d (.str [lr w k])) st
  | _ => False
theorem e_letter {w k s Q} : m_letter_at [.str w, .int k] s Q = (w ≠ [] ∧ w.length ≤ 65536 ∧ Q (.d (.str [lr w k])) s) := rfl
def t_letter_at : PTS := sRet (t2 (tName 0) (t2 (tName 1) (tCallP pLen (rCons (tName 0) (rNil))) pMod) pIx)
abbrev N_letter_at : List Str := ["word", "k"]
theorem len_letter_at (ds : List D) (s : Sto) (Q : C → Sto → Prop) (h : m_letter_at ds s Q) : ds.length = 2 := by
  unfold m_letter_at at h
  split at h
  · rfl
  · exact h.elim
theorem p_letter_at (ds : List D) (s : Sto) (Q : C → Sto → Prop) (h : m_letter_at ds s Q) : t_letter_at noX { nx := fun e => Q (.d .non) e.st, rt := fun c e => Q c e.st } ⟨startC N_letter_at ds, s⟩ := by
  unfold m_letter_at at h
  split at h
  · rename_i w k
    obtain ⟨h0, hl, q⟩ := h
    have hp : 0 < w.length := List.length_pos_iff.mpr h0
    unfold t_letter_at
    simpa?! only []
    refine ⟨by omega, opt_of (at_lr h0 k) ?_⟩
    exact q
  · exact h.elim
structure WOk (y w : List Nat) : Prop where
  cr : CrW y w
  few : w.length ≤ 64
theorem lt_eq {w : List Nat} (h : w ≠ [] ∧ w.length ≤ 65536) {k s Q} : m_letter_at [.str w, .int k] s Q = Q (.d (.str [lr w k])) s := by
  rw [e_letter]
  exact propext ⟨fun z => z.2.2, fun z => ⟨h.1, h.2, z⟩⟩
theorem con_eq {c : Nat} (h : IsL c) {s Q} : m_contrary [.str [c]] s Q = Q (.d (.str [con c])) s := by
  rw [e_contrary]
  exact propext ⟨fun z => z.2, fun z => ⟨h, z⟩⟩
set_option maxRecDepth 100000
set_option maxHeartbeats 1000000
structure YOk (y : List Nat) : Prop where
  yd : YardOk y
  few : y.length ≤ 64
def m_meets_across : PM := fun ds st Q => match ds with
  | [.str y, .str w, .int i, .str v, .int j] => YOk y ∧ WOk y w ∧ WOk y v ∧ Q (.d (.bl (across y w i v j))) st
  | _ => False
theorem across_i {y w v : List Nat} {i j : Int} {s : Sto} {Q : C → Sto → Prop} (hy : YOk y) (hw : WOk y w) (hv : WOk y v) (q : Q (.d (.bl (across y w i v j))) s) : m_meets_across [.str y, .str w, .int i, .str v, .int j] s Q := ⟨hy, hw, hv, q⟩
def t_meets_across : PTS := sSeq (sPar 5 6 (tCons (tCall0 m_contrary (tCons (tCall0 m_letter_at (tCons (tName 1) (tCons (t2 (tName 2) (tD (.int 1)) pSub) (tNil)))) (tNil))) (tCons (tCall0 m_letter_at (tCons (tName 1) (tCons (tName 2) (tNil)))) (tNil)))) (sSeq (sPar 7 8 (tCons (tCall0 m_contrary (tCons (tCall0 m_letter_at (tCons (tName 3) (tCons (t2 (tName 4) (tD (.int 1)) pSub) (tNil)))) (tNil))) (tCons (tCall0 m_letter_at (tCons (tName 3) (tCons (tName 4) (tNil)))) (tNil)))) (sSeq (sIf (tOr (tB (t2 (tName 7) (tTup (tCons (tName 5) (tCons (tName 6) (tNil)))) (pIn false))) (tOr (tB (t2 (tName 8) (tTup (tCons (tName 5) (tCons (tName 6) (tNil)))) (pIn false))) (tB (t2 (tName 7) (tName 8) pEq)))) (sRet (tD (.bl false))) (sNext)) (sRet (t2 (tCall0 m_goes_round (tCons (tName 0) (tCons (tName 5) (tCons (tName 7) (tCons (tName 6) (tNil)))))) (tCall0 m_goes_round (tCons (tName 0) (tCons (tName 5) (tCons (tName 8) (tCons (tName 6) (tNil)))))) pNe))))
abbrev N_meets_across : List Str := ["yard", "one", "i", "other", "j", "a", "b", "p", "q"]
theorem len_meets_across (ds : List D) (s : Sto) (Q : C → Sto → Prop) (h : m_meets_across ds s Q) : ds.length = 5 := by
  unfold m_meets_across at h
  split at h
  · rfl
  · exact h.elim
theorem WOk.lt {y w : List Nat} (h : WOk y w) : w ≠ [] ∧ w.length ≤ 65536 := ⟨h.cr.ne, by have := h.few; omega⟩
theorem p_meets_across (ds : List D) (s : Sto) (Q : C → Sto → Prop) (h : m_meets_across ds s Q) : t_meets_across noX { nx := fun e => Q (.d .non) e.st, rt := fun c e => Q c e.st } ⟨startC N_meets_across ds, s⟩ := by
  unfold m_meets_across at h
  split at h
  · rename_i y w i v j
    obtain ⟨hy, hw, hv, q⟩ := h
    have aw := fun k => hw.cr.at k
    have av := fun k => hv.cr.at k
    have lw := @lt_eq w hw.lt
    have lv := @lt_eq v hv.lt
    have cw := fun k => @con_eq (lr w k) (hy.yd.let_ _ (aw k))
    have cv := fun k => @con_eq (lr v k) (hy.yd.let_ _ (av k))
    have ne := hw.cr.cr' i
    unfold t_meets_across
    simpa?! only [lw, lv, cw, cv, List.any_cons, List.any_nil, List.all_cons, List.all_nil]
    have ma := hy.yd.con_ _ (aw (i - 1))
    have mb := aw i
    have mp := hy.yd.con_ _ (av (j - 1))
    have mx := av j
    unfold across at q
    generalize con (lr w (i - 1)) = a at *
    generalize lr w i = b at *
    generalize con (lr v (j - 1)) = p at *
    generalize lr v j = x at *
    have inn : ∀ c d e : Nat, (decide ([d] = [c]) || (decide ([e] = [c]) || false)) = decide (c = d ∨ c = e) := fun c d e => by
      rw [Bool.or_false, Bool.eq_iff_iff]
      simp only [Bool.or_eq_true, decide_eq_true_eq, List.cons.injEq, and_true]
      exact ⟨fun h => h.imp Eq.symm Eq.symm, fun h => h.imp Eq.symm Eq.symm⟩
    rw [inn]
    refine ⟨rfl, rfl, ?_⟩
    by_cases h1 : p = a ∨ p = b
    · refine br_pos (decide_eq_true h1) ?_
      simpa?! only []
      rw [if_pos (h1.elim (fun z => .inl z) fun z => .inr (.inl z))] at q
      exact q
    · refine br_neg (decide_eq_false h1) ?_
      simpa?! only [List.any_cons, List.any_nil, List.all_cons, List.all_nil]
      rw [inn]
      refine ⟨rfl, rfl, ?_⟩
      by_cases h2 : x = a ∨ x = b
      · refine br_pos (decide_eq_true h2) ?_
        simpa?! only []
        rw [if_pos (h2.elim (fun z => .inr (.inr (.inl z))) fun z => .inr (.inr (.inr (.inl z))))] at q
        exact q
      · refine br_neg (decide_eq_false h2) ?_
        simpa?! only []
        by_cases h3 : p = x
        · refine br_pos (by rw [h3]; simp) ?_
          simpa?! only []
          rw [if_pos (.inr (.inr (.inr (.inr h3))))] at q
          exact q
        · refine br_neg (by simp [h3]) ?_
          simpa?! only []
          rw [if_neg (by
            rintro (z | z | z | z | z)
            · exact h1 (.inl z)
            · exact h1 (.inr z)
            · exact h2 (.inl z)
            · exact h2 (.inr z)
            · exact h3 z)] at q
          refine goes_i hy.yd hy.few ma mp mb (fun z => h1 (.inl z.symm)) ne.symm ?_
          simpa?! only []
          refine goes_i hy.yd hy.few ma mx mb (fun z => h2 (.inl z.symm)) ne.symm ?_
          simpa?! only []
          exact q
  · exact h.elim
def m_meets_along : PM := fun ds st Q => match ds with
  | [.str y, .str w, .int i, .str v, .int j] => YOk y ∧ WOk y w ∧ WOk y v ∧ Q (.d (.int (along y w i v j : Nat))) st
  | _ => False
theorem along_i {y w v : List Nat} {i j : Int} {s : Sto} {Q : C → Sto → Prop} (hy : YOk y) (hw : WOk y w) (hv : WOk y v) (q : Q (.d (.int (along y w i v j : Nat))) s) : m_meets_along [.str y, .str w, .int i, .str v, .int j] s Q := ⟨hy, hw, hv, q⟩
def t_meets_along : PTS := sSeq (sAsg 5 (t2 (tCallP pLen (rCons (tName 1) (rNil))) (tCallP pLen (rCons (tName 3) (rNil))) pAdd)) (sSeq (sAsg 6 (tD (.int 0))) (sSeq (sWhile (tAnd (tB (t2 (tName 6) (tName 5) pLt)) (tB (t2 (tCall0 m_letter_at (tCons (tName 1) (tCons (t2 (tName 2) (tName 6) pAdd) (tNil)))) (tCall0 m_letter_at (tCons (tName 3) (tCons (t2 (tName 4) (tName 6) pAdd) (tNil)))) pEq))) (sAug 6 (tD (.int 1)))) (sSeq (sPar 7 8 (tCons (tCall0 m_letter_at (tCons (tName 1) (tCons (t2 (tName 2) (tD (.int 1)) pSub) (tNil)))) (tCons (tCall0 m_letter_at (tCons (tName 3) (tCons (t2 (tName 4) (tD (.int 1)) pSub) (tNil)))) (tNil)))) (sSeq (sIf (tOr (tB (t2 (tName 6) (tD (.int 0)) pEq)) (tB (t2 (tName 7) (tName 8) pEq))) (sRet (tD (.int 0))) (sNext)) (sSeq (sAsg 9 (tCall0 m_goes_round (tCons (tName 0) (tCons (tCall0 m_contrary (tCons (tName 7) (tNil))) (tCons (tCall0 m_contrary (tCons (tName 8) (tNil))) (tCons (tCall0 m_letter_at (tCons (tName 1) (tCons (tName 2) (tNil)))) (tNil))))))) (sSeq (sAsg 10 (tCall0 m_contrary (tCons (tCall0 m_letter_at (tCons (tName 1) (tCons (t2 (t2 (tName 2) (tName 6) pAdd) (tD (.int 1)) pSub) (tNil)))) (tNil)))) (sRet (t2 (tName 6) (tCallP pInt (rCons (t2 (tName 9) (tCall0 m_goes_round (tCons (tName 0) (tCons (tCall0 m_letter_at (tCons (tName 1) (tCons (t2 (tName 2) (tName 6) pAdd) (tNil)))) (tCons (tCall0 m_letter_at (tCons (tName 3) (tCons (t2 (tName 4) (tName 6) pAdd) (tNil)))) (tCons (tName 10) (tNil)))))) pEq) (rNil))) pMul))))))))
abbrev N_meets_along : List Str := ["yard", "one", "i", "other", "j", "most", "many", "p", "q", "begun", "last"]
theorem len_meets_along (ds : List D) (s : Sto) (Q : C → Sto → Prop) (h : m_meets_along ds s Q) : ds.length = 5 := by
  unfold m_meets_along at h
  split at h
  · rfl
  · exact h.elim
theorem p_meets_along (ds : List D) (s : Sto) (Q : C → Sto → Prop) (h : m_meets_along ds s Q) : t_meets_along noX { nx := fun e => Q (.d .non) e.st, rt := fun c e => Q c e.st } ⟨startC N_meets_along ds, s⟩ := by
  unfold m_meets_along at h
  split at h
  · rename_i y w i v j
    obtain ⟨hy, hw, hv, q⟩ := h
    have aw := fun k => hw.cr.at k
    have av := fun k => hv.cr.at k
    have lw := @lt_eq w hw.lt
    have lv := @lt_eq v hv.lt
    have cw := fun k => @con_eq (lr w k) (hy.yd.let_ _ (aw k))
    have cv := fun k => @con_eq (lr v k) (hy.yd.let_ _ (av k))
    have wf := hw.few
    have vf := hv.few
    unfold t_meets_along
    simpa?! only []
    obtain ⟨g1, g2, g3⟩ := agree_spec (fwd w i) (fwd v j) (w.length + v.length)
    have nv := never_along hw.cr.ne hv.cr.ne i j
    unfold along mt3 at q
    generalize hag : agree (fwd w i) (fwd v j) (w.length + v.length) = M at *
    have rest : (sSeq (sPar 7 8 (tCons (tCall0 m_letter_at (tCons (tName 1) (tCons (t2 (tName 2) (tD (.int 1)) pSub) (tNil)))) (tCons (tCall0 m_letter_at (tCons (tName 3) (tCons (t2 (tName 4) (tD (.int 1)) pSub) (tNil)))) (tNil)))) (sSeq (sIf (tOr (tB (t2 (tName 6) (tD (.int 0)) pEq)) (tB (t2 (tName 7) (tName 8) pEq))) (sRet (tD (.int 0))) (sNext)) (sSeq (sAsg 9 (tCall0 m_goes_round (tCons (tName 0) (tCons (tCall0 m_contrary (tCons (tName 7) (tNil))) (tCons (tCall0 m_contrary (tCons (tName 8) (tNil))) (tCons (tCall0 m_letter_at (tCons (tName 1) (tCons (tName 2) (tNil)))) (tNil))))))) (sSeq (sAsg 10 (tCall0 m_contrary (tCons (tCall0 m_letter_at (tCons (tName 1) (tCons (t2 (t2 (tName 2) (tName 6) pAdd) (tD (.int 1)) pSub) (tNil)))) (tNil)))) (sRet (t2 (tName 6) (tCallP pInt (rCons (t2 (tName 9) (tCall0 m_goes_round (tCons (tName 0) (tCons (tCall0 m_letter_at (tCons (tName 1) (tCons (t2 (tName 2) (tName 6) pAdd) (tNil)))) (tCons (tCall0 m_letter_at (tCons (tName 3) (tCons (t2 (tName 4) (tName 6) pAdd) (tNil)))) (tCons (tName 10) (tNil)))))) pEq) (rNil))) pMul)))))) noX { nx := fun e => Q (.d .non) e.st, rt := fun c e => Q c e.st } ⟨[.d (.str y), .d (.str w), .d (.int i), .d (.str v), .d (.int j), .d (.int ((w.length : Int) + v.length)), .d (.int (M : Nat)), .un, .un, .un, .un], s⟩ := by
      simpa?! only [lw, lv]
      by_cases z0 : M = 0
      · subst z0
        refine br_pos rfl ?_
        rw [if_pos (.inl rfl)] at q
        simpa?! only []
        exact q
      · refine br_neg (decide_eq_false (by omega)) ?_
        simpa?! only []
        by_cases z1 : fwd w i (-1) = fwd v j (-1)
        · refine br_pos (decide_eq_true (by unfold fwd at z1; rw [Int.sub_eq_add_neg, Int.sub_eq_add_neg, z1])) ?_
          rw [if_pos (.inr z1)] at q
          simpa?! only []
          exact q
        · rw [if_neg (fun z => z.elim z0 z1)] at q
          have hlt : M < w.length + v.length := by
            rcases Nat.lt_or_ge M (w.length + v.length) with z | z
            · exact z
            · exact absurd (nv (by omega)) z1
          have g4 := g3 hlt
          have z2 : lr w (i - 1) ≠ lr v (j - 1) := z1
          refine br_neg (decide_eq_false (by simpa using z2)) ?_
          simpa?! only [cw, cv, lw, lv]
          refine goes_i hy.yd hy.few (hy.yd.con_ _ (aw _)) (hy.yd.con_ _ (av _)) (aw _) (fun z => z2 (con_inj (hy.yd.let_ _ (aw _)) (hy.yd.let_ _ (av _)) z)) (hw.cr.cr' i).symm ?_
          simpa?! only [cw, cv, lw, lv]
          have cr2 := hw.cr.cr' (i + M)
          refine goes_i hy.yd hy.few (aw _) (av _) (hy.yd.con_ _ (aw _)) g4 cr2 ?_
          simpa?! only []
          have e0 : fwd w i 0 = lr w i := by unfold fwd; rw [Int.add_zero]
          have e1 : fwd w i (-1) = lr w (i - 1) := rfl
          have e2 : fwd v j (-1) = lr v (j - 1) := rfl
          have e3 : fwd w i ((M : Int) - 1) = lr w (i + M - 1) := by unfold fwd; congr 1; omega
          have e4 : fwd w i (M : Int) = lr w (i + M) := rfl
          have e5 : fwd v j (M : Int) = lr v (j + M) := rfl
          rw [e0, e1, e2, e3, e4, e5] at q
          by_cases hE : gr y (con (lr w (i - 1))) (con (lr v (j - 1))) (lr w i) = gr y (lr w (i + M)) (lr v (j + M)) (con (lr w (i + M - 1)))
          · rw [if_pos hE] at q
            rw [if_pos (decide_eq_true hE)]
            exact ⟨cmul_r _ _, by rw [Int.mul_one]; rw [Nat.mul_one] at q; exact q⟩
          · rw [if_neg hE] at q
            rw [if_neg (by simp [hE])]
            exact ⟨cmul_r _ _, by rw [Int.mul_zero]; rw [Nat.mul_zero] at q; exact q⟩
    refine wh_on (fun m : Nat => ⟨[.d (.str y), .d (.str w), .d (.int i), .d (.str v), .d (.int j), .d (.int ((w.length : Int) + v.length)), .d (.int (m : Nat)), .un, .un, .un, .un], s⟩) (fun m => m ≤ M) (fun m => (w.length + v.length) - m) 0 rfl (Nat.zero_le _) ?_
    intro m hm N hN
    simpa?! only []
    refine br_intro (fun h1 => ?_) fun h1 => ?_
    · have h1 := of_decide_eq_true h1
      simpa?! only [lw, lv]
      by_cases z : fwd w i m = fwd v j m
      · refine br_pos (decide_eq_true (by unfold fwd at z; rw [z])) ?_
        simpa?! only []
        refine hN (m + 1) ?_ (by omega)
        rcases Nat.lt_or_ge m M with z3 | z3
        · exact z3
        · have : m = M := by omega
          subst this
          exact absurd z (g3 (by omega))
      · refine br_neg (decide_eq_false (by unfold fwd at z; simpa using z)) ?_
        have : m = M := by
          rcases Nat.lt_or_ge m M with z3 | z3
          · exact absurd (g2 m z3) z
          · omega
        subst this
        exact rest
    · have h1 := of_decide_eq_false h1
      have : m = M := by omega
      subst this
      refine br_neg rfl ?_
      exact rest
  · exact h.elim
def m_meets_against : PM := fun ds st Q => match ds with
  | [.str y, .str w, .int i, .str v, .int j] => YOk y ∧ WOk y w ∧ WOk y v ∧ Q (.d (.int (against y w i v j : Nat))) st
  | _ => False
theorem against_i {y w v : List Nat} {i j : Int} {s : Sto} {Q : C → Sto → Prop} (hy : YOk y) (hw : WOk y w) (hv : WOk y v) (q : Q (.d (.int (against y w i v j : Nat))) s) : m_meets_against [.str y, .str w, .int i, .str v, .int j] s Q := ⟨hy, hw, hv, q⟩
def t_meets_against : PTS := sSeq (sAsg 5 (t2 (tCallP pLen (rCons (tName 1) (rNil))) (tCallP pLen (rCons (tName 3) (rNil))) pAdd)) (sSeq (sAsg 6 (tD (.int 0))) (sSeq (sWhile (tAnd (tB (t2 (tName 6) (tName 5) pLt)) (tB (t2 (tCall0 m_letter_at (tCons (tName 1) (tCons (t2 (tName 2) (tName 6) pAdd) (tNil)))) (tCall0 m_contrary (tCons (tCall0 m_letter_at (tCons (tName 3) (tCons (t2 (tName 4) (tName 6) pSub) (tNil)))) (tNil))) pEq))) (sAug 6 (tD (.int 1)))) (sSeq (sPar 7 8 (tCons (tCall0 m_contrary (tCons (tCall0 m_letter_at (tCons (tName 1) (tCons (t2 (tName 2) (tD (.int 1)) pSub) (tNil)))) (tNil))) (tCons (tCall0 m_letter_at (tCons (tName 3) (tCons (t2 (tName 4) (tD (.int 1)) pAdd) (tNil)))) (tNil)))) (sSeq (sIf (tOr (tB (t2 (tName 6) (tD (.int 0)) pEq)) (tB (t2 (tName 7) (tName 8) pEq))) (sRet (tD (.int 0))) (sNext)) (sSeq (sAsg 9 (tCall0 m_goes_round (tCons (tName 0) (tCons (tName 7) (tCons (tName 8) (tCons (tCall0 m_letter_at (tCons (tName 1) (tCons (tName 2) (tNil)))) (tNil))))))) (sSeq (sAsg 10 (tCall0 m_contrary (tCons (tCall0 m_letter_at (tCons (tName 1) (tCons (t2 (t2 (tName 2) (tName 6) pAdd) (tD (.int 1)) pSub) (tNil)))) (tNil)))) (sRet (t2 (tName 6) (tCallP pInt (rCons (t2 (tName 9) (tCall0 m_goes_round (tCons (tName 0) (tCons (tCall0 m_letter_at (tCons (tName 1) (tCons (t2 (tName 2) (tName 6) pAdd) (tNil)))) (tCons (tCall0 m_contrary (tCons (tCall0 m_letter_at (tCons (tName 3) (tCons (t2 (tName 4) (tName 6) pSub) (tNil)))) (tNil))) (tCons (tName 10) (tNil)))))) pEq) (rNil))) pMul))))))))
abbrev N_meets_against : List Str := ["yard", "one", "i", "other", "j", "most", "many", "p", "q", "begun", "last"]
theorem len_meets_against (ds : List D) (s : Sto) (Q : C → Sto → Prop) (h : m_meets_against ds s Q) : ds.length = 5 := by
  unfold m_meets_against at h
  split at h
  · rfl
  · exact h.elim
theorem p_meets_against (ds : List D) (s : Sto) (Q : C → Sto → Prop) (h : m_meets_against ds s Q) : t_meets_against noX { nx := fun e => Q (.d .non) e.st, rt := fun c e => Q c e.st } ⟨startC N_meets_against ds, s⟩ := by
  unfold m_meets_against at h
  split at h
  · rename_i y w i v j
    obtain ⟨hy, hw, hv, q⟩ := h
    have aw := fun k => hw.cr.at k
    have av := fun k => hv.cr.at k
    have lw := @lt_eq w hw.lt
    have lv := @lt_eq v hv.lt
    have cw := fun k => @con_eq (lr w k) (hy.yd.let_ _ (aw k))
    have cv := fun k => @con_eq (lr v k) (hy.yd.let_ _ (av k))
    have wf := hw.few
    have vf := hv.few
    unfold t_meets_against
    simpa?! only []
    obtain ⟨g1, g2, g3⟩ := agree_spec (fwd w i) (bwd v j) (w.length + v.length)
    have nv := never_against hw.cr.ne hv.cr.ne i j
    unfold against mt3 at q
    generalize hag : agree (fwd w i) (bwd v j) (w.length + v.length) = M at *
    have rest : (sSeq (sPar 7 8 (tCons (tCall0 m_contrary (tCons (tCall0 m_letter_at (tCons (tName 1) (tCons (t2 (tName 2) (tD (.int 1)) pSub) (tNil)))) (tNil))) (tCons (tCall0 m_letter_at (tCons (tName 3) (tCons (t2 (tName 4) (tD (.int 1)) pAdd) (tNil)))) (tNil)))) (sSeq (sIf (tOr (tB (t2 (tName 6) (tD (.int 0)) pEq)) (tB (t2 (tName 7) (tName 8) pEq))) (sRet (tD (.int 0))) (sNext)) (sSeq (sAsg 9 (tCall0 m_goes_round (tCons (tName 0) (tCons (tName 7) (tCons (tName 8) (tCons (tCall0 m_letter_at (tCons (tName 1) (tCons (tName 2) (tNil)))) (tNil))))))) (sSeq (sAsg 10 (tCall0 m_contrary (tCons (tCall0 m_letter_at (tCons (tName 1) (tCons (t2 (t2 (tName 2) (tName 6) pAdd) (tD (.int 1)) pSub) (tNil)))) (tNil)))) (sRet (t2 (tName 6) (tCallP pInt (rCons (t2 (tName 9) (tCall0 m_goes_round (tCons (tName 0) (tCons (tCall0 m_letter_at (tCons (tName 1) (tCons (t2 (tName 2) (tName 6) pAdd) (tNil)))) (tCons (tCall0 m_contrary (tCons (tCall0 m_letter_at (tCons (tName 3) (tCons (t2 (tName 4) (tName 6) pSub) (tNil)))) (tNil))) (tCons (tName 10) (tNil)))))) pEq) (rNil))) pMul)))))) noX { nx := fun e => Q (.d .non) e.st, rt := fun c e => Q c e.st } ⟨[.d (.str y), .d (.str w), .d (.int i), .d (.str v), .d (.int j), .d (.int ((w.length : Int) + v.length)), .d (.int (M : Nat)), .un, .un, .un, .un], s⟩ := by
      simpa?! only [lw, lv, cw, cv]
      by_cases z0 : M = 0
      · subst z0
        refine br_pos rfl ?_
        rw [if_pos (.inl rfl)] at q
        simpa?! only []
        exact q
      · refine br_neg (decide_eq_false (by omega)) ?_
        simpa?! only []
        have bl : bwd v j (-1) = con (lr v (j + 1)) := by unfold bwd; rw [Int.sub_neg]
        by_cases z1 : fwd w i (-1) = bwd v j (-1)
        · refine br_pos (decide_eq_true (by rw [bl] at z1; have z1 : lr w (i - 1) = con (lr v (j + 1)) := z1; rw [z1, con_con (hy.yd.let_ _ (av _))])) ?_
          rw [if_pos (.inr z1)] at q
          simpa?! only []
          exact q
        · rw [if_neg (fun z => z.elim z0 z1)] at q
          have hlt : M < w.length + v.length := by
            rcases Nat.lt_or_ge M (w.length + v.length) with z | z
            · exact z
            · exact absurd (nv (by omega)) z1
          have g4 := g3 hlt
          have z2 : con (lr w (i - 1)) ≠ lr v (j + 1) := fun z => z1 (by
            rw [bl, ← z, con_con (hy.yd.let_ _ (aw _))]
            rfl)
          refine br_neg (decide_eq_false (by simpa using z2)) ?_
          simpa?! only [cw, cv, lw, lv]
          refine goes_i hy.yd hy.few (hy.yd.con_ _ (aw _)) (av _) (aw _) z2 (hw.cr.cr' i).symm ?_
          simpa?! only [cw, cv, lw, lv]
          have cr2 := hw.cr.cr' (i + M)
          refine goes_i hy.yd hy.few (aw _) (hy.yd.con_ _ (av _)) (hy.yd.con_ _ (aw _)) g4 cr2 ?_
          simpa?! only []
          have e0 : fwd w i 0 = lr w i := by unfold fwd; rw [Int.add_zero]
          have e1 : fwd w i (-1) = lr w (i - 1) := rfl
          have e2 : con (bwd v j (-1)) = lr v (j + 1) := by rw [bl, con_con (hy.yd.let_ _ (av _))]
          have e3 : fwd w i ((M : Int) - 1) = lr w (i + M - 1) := by unfold fwd; congr 1; omega
          have e4 : fwd w i (M : Int) = lr w (i + M) := rfl
          have e5 : bwd v j (M : Int) = con (lr v (j - M)) := rfl
          rw [e0, e1, e2, e3, e4, e5] at q
          by_cases hE : gr y (con (lr w (i - 1))) (lr v (j + 1)) (lr w i) = gr y (lr w (i + M)) (con (lr v (j - M))) (con (lr w (i + M - 1)))
          · rw [if_pos hE] at q
            rw [if_pos (decide_eq_true hE)]
            exact ⟨cmul_r _ _, by rw [Int.mul_one]; rw [Nat.mul_one] at q; exact q⟩
          · rw [if_neg hE] at q
            rw [if_neg (by simp [hE])]
            exact ⟨cmul_r _ _, by rw [Int.mul_zero]; rw [Nat.mul_zero] at q; exact q⟩
    refine wh_on (fun m : Nat => ⟨[.d (.str y), .d (.str w), .d (.int i), .d (.str v), .d (.int j), .d (.int ((w.length : Int) + v.length)), .d (.int (m : Nat)), .un, .un, .un, .un], s⟩) (fun m => m ≤ M) (fun m => (w.length + v.length) - m) 0 rfl (Nat.zero_le _) ?_
    intro m hm N hN
    simpa?! only []
    refine br_intro (fun h1 => ?_) fun h1 => ?_
    · have h1 := of_decide_eq_true h1
      simpa?! only [lw, lv, cw, cv]
      by_cases z : fwd w i m = bwd v j m
      · refine br_pos (decide_eq_true (by unfold fwd bwd at z; rw [z])) ?_
        simpa?! only []
        refine hN (m + 1) ?_ (by omega)
        rcases Nat.lt_or_ge m M with z3 | z3
        · exact z3
        · have : m = M := by omega
          subst this
          exact absurd z (g3 (by omega))
      · refine br_neg (decide_eq_false (by unfold fwd bwd at z; simpa using z)) ?_
        have : m = M := by
          rcases Nat.lt_or_ge m M with z3 | z3
          · exact absurd (g2 m z3) z
          · omega
        subst this
        exact rest
    · have h1 := of_decide_eq_false h1
      have : m = M := by omega
      subst this
      refine br_neg rfl ?_
      exact rest
  · exact h.elim
set_option maxRecDepth 100000
set_option maxHeartbeats 1000000
def wAt (ws : List (List Nat)) (c : Nat) : List Nat := ws.getD c []
theorem wAt_some {ws : List (List Nat)} {c : Nat} (h : c < ws.length) : ws[c]? = some (wAt ws c) := by
  unfold wAt
  rw [List.getD_eq_getElem?_getD, List.getElem?_eq_getElem h]
  rfl
theorem wAt_mem {ws : List (List Nat)} {c : Nat} (h : c < ws.length) : wAt ws c ∈ ws := List.mem_of_getElem? (wAt_some h)
theorem at_wAt {ws : List (List Nat)} {c : Nat} (h : c < ws.length) : atI (ws.map D.str) (c : Int) = some (.str (wAt ws c)) := by
  have e := wAt_some h
  rw [List.getElem?_eq_getElem h] at e
  rw [atI_map, atI_nat' h, Option.some.inj e]
  rfl
set_option maxRecDepth 100000
set_option maxHeartbeats 1000000
abbrev Th := Nat × Nat × Nat × Nat × Nat × List Nat
def thI (t : Th) : List PuE.Itm := [.inl (t.1 : Nat), .inl (t.2.1 : Nat), .inl (t.2.2.1 : Nat), .inl (t.2.2.2.1 : Nat), .inl (t.2.2.2.2.1 : Nat), .inr t.2.2.2.2.2]
def thD (t : Th) : D := .tup [.int (t.1 : Nat), .int (t.2.1 : Nat), .int (t.2.2.1 : Nat), .int (t.2.2.2.1 : Nat), .int (t.2.2.2.2.1 : Nat), .str t.2.2.2.2.2]
abbrev tAc : List Nat := [97, 99, 114, 111, 115, 115]
abbrev tAl : List Nat := [97, 108, 111, 110, 103]
abbrev tAg : List Nat := [97, 103, 97, 105, 110, 115, 116]
def agIn (w v : List Nat) (c i d j ag : Nat) : Bool := decide (0 < ag) && (decide (c < d) || (decide (c = d) && HT.lexLt [(i : Int), (j : Int)] [((j : Int) - ag + 1) % (v.length : Int), ((i : Int) + ag - 1) % (w.length : Int)]))
def thAt (y : List Nat) (ws : List (List Nat)) (c i d j : Nat) : List Th :=
  (if HT.lexLt [(c : Int), (i : Int)] [(d : Int), (j : Int)] = true then (if across y (wAt ws c) i (wAt ws d) j = true then [(c, i, d, j, 0, tAc)] else []) ++ (if 0 < along y (wAt ws c) i (wAt ws d) j then [(c, i, d, j, along y (wAt ws c) i (wAt ws d) j, tAl)] else []) else []) ++
  (if agIn (wAt ws c) (wAt ws d) c i d j (against y (wAt ws c) i (wAt ws d) j) = true then [(c, i, d, j, against y (wAt ws c) i (wAt ws d) j, tAg)] else [])
theorem thAt_len (y : List Nat) (ws : List (List Nat)) (c i d j : Nat) : (thAt y ws c i d j).length ≤ 3 := by
  unfold thAt
  rw [List.length_append]
  have h1 : ∀ (b : Prop) [Decidable b] (t : Th), (if b then [t] else []).length ≤ 1 := fun b _ t => by split <;> simp
  have h2 := h1 (agIn (wAt ws c) (wAt ws d) c i d j (against y (wAt ws c) i (wAt ws d) j) = true) (c, i, d, j, against y (wAt ws c) i (wAt ws d) j, tAg)
  have h3 := h1 (across y (wAt ws c) i (wAt ws d) j = true) (c, i, d, j, 0, tAc)
  have h4 := h1 (0 < along y (wAt ws c) i (wAt ws d) j) (c, i, d, j, along y (wAt ws c) i (wAt ws d) j, tAl)
  split
  · rw [List.length_append]
    omega
  · simp only [List.length_nil]
    omega
structure WsOk (y : List Nat) (ws : List (List Nat)) : Prop where
  yk : YOk y
  wk : ∀ w ∈ ws, WOk y w
  few : ws.length ≤ 64
theorem WsOk.at {y : List Nat} {ws : List (List Nat)} (h : WsOk y ws) {c : Nat} (hc : c < ws.length) : WOk y (wAt ws c) := h.wk _ (wAt_mem hc)
abbrev tB1 : PTE := t2 (t2 (t2 (tName 5) (tName 9) pSub) (tD (.int 1)) pAdd) (tCallP pLen (rCons (tName 7) (rNil))) pMod
abbrev tB2 : PTE := t2 (t2 (t2 (tName 3) (tName 9) pAdd) (tD (.int 1)) pSub) (tCallP pLen (rCons (tName 6) (rNil))) pMod
theorem b1_ok {e : En} {x : PX} {Q : R → En → Prop} {j m : Int} {v : List Nat} (h5 : e.sl[5]? = some (.d (.int j))) (h9 : e.sl[9]? = some (.d (.int m))) (h7 : e.sl[7]? = some (.d (.str v))) (vp : 0 < v.length) (q : Q (.d (.int ((j - m + 1) % (v.length : Int)))) e) : tB1 x e Q := by
  unfold tB1
  simpa?! only [h5, h9, h7]
  exact ⟨by omega, q⟩
theorem b2_ok {e : En} {x : PX} {Q : R → En → Prop} {i m : Int} {w : List Nat} (h3 : e.sl[3]? = some (.d (.int i))) (h9 : e.sl[9]? = some (.d (.int m))) (h6 : e.sl[6]? = some (.d (.str w))) (wp : 0 < w.length) (q : Q (.d (.int ((i + m - 1) % (w.length : Int)))) e) : tB2 x e Q := by
  unfold tB2
  simpa?! only [h3, h9, h6]
  exact ⟨by omega, q⟩
abbrev sAgain : PTS := (sSeq (sAsg 9 (tCall0 m_meets_against (tCons (tName 0) (tCons (tName 6) (tCons (tName 3) (tCons (tName 7) (tCons (tName 5) (tNil)))))))) (sSeq (sAsg 10 (tTup (tCons tB1 (tCons tB2 (tNil))))) (sSeq (sIf (tAnd (tB (t2 (tName 9) (tD (.int 0)) pGt)) (tOr (tB (t2 (tName 2) (tName 4) pLt)) (tAnd (tB (t2 (tName 2) (tName 4) pEq)) (tB (t2 (tTup (tCons (tName 3) (tCons (tName 5) (tNil)))) (tName 10) pLtT))))) (sDrop (tMut mAppend (tName 8) (tCons (tTup (tCons (tName 2) (tCons (tName 3) (tCons (tName 4) (tCons (tName 5) (tCons (tName 9) (tCons (tD (.str [97, 103, 97, 105, 110, 115, 116])) (tNil)))))))) (tNil)))) (sNext)) (sRet (tName 8)))))
theorem again_ok {y w v : List Nat} {c i d j : Nat} {wd : C} {T : List Th} {c9 : C} {s : Sto} {Q : C → Sto → Prop} (hy : YOk y) (wc : WOk y w) (wd' : WOk y v) (hT : T.length ≤ 2) (q : Q (.own ((T ++ (if agIn w v c i d j (against y w i v j) = true then [(c, i, d, j, against y w i v j, tAg)] else [])).map thD)) s) : sAgain noX { nx := fun e => Q (.d .non) e.st, rt := fun c e => Q c e.st } ⟨[.d (.str y), wd, .d (.int (c : Nat)), .d (.int (i : Nat)), .d (.int (d : Nat)), .d (.int (j : Nat)), .d (.str w), .d (.str v), .own (T.map thD), c9, .un], s⟩ := by
  have vp : 0 < v.length := List.length_pos_iff.mpr wd'.cr.ne
  have wp : 0 < w.length := List.length_pos_iff.mpr wc.cr.ne
  unfold sAgain
  generalize h1 : tB1 = b1
  generalize h2 : tB2 = b2
  simpa?! only []
  refine against_i hy wc wd' ?_
  generalize against y w i v j = m at *
  simpa?! only []
  subst h1
  refine b1_ok rfl rfl rfl vp ?_
  simpa?! only []
  subst h2
  refine b2_ok rfl rfl rfl wp ?_
  simpa?! only [intL_c, intL_n, consI_s]
  have no : agIn w v c i d j m ≠ true → Q (.own (T.map thD)) s := fun z => by
    rw [if_neg z, List.append_nil] at q
    exact q
  have yes : agIn w v c i d j m = true → Q (.own (T.map thD ++ [thD (c, i, d, j, m, tAg)])) s := fun z => by
    rw [if_pos z, List.map_append] at q
    exact q
  have hl : (T.map thD).length ≤ 2 := by rw [List.length_map]; exact hT
  generalize T.map thD = L at *
  unfold agIn at no yes
  by_cases m0 : 0 < m
  · refine br_pos (decide_eq_true (by omega)) ?_
    simpa?! only []
    by_cases h1 : c < d
    · refine br_pos (decide_eq_true (by omega)) ?_
      simpa?! only []
      have := yes (by simp [m0, h1])
      exact ⟨by omega, this⟩
    · refine br_neg (decide_eq_false (by omega)) ?_
      simpa?! only []
      by_cases h2 : c = d
      · refine br_pos (decide_eq_true (by omega)) ?_
        simpa?! only []
        cases h3 : HT.lexLt [(i : Int), (j : Int)] [((j : Int) - m + 1) % (v.length : Int), ((i : Int) + m - 1) % (w.length : Int)] with
        | true =>
          have := yes (by simp [m0, h1, h2, h3])
          simpa?! only []
          exact ⟨by omega, this⟩
        | false =>
          have := no (by simp [m0, h1, h2, h3])
          simpa?! only []
          exact this
      · refine br_neg (decide_eq_false (by omega)) ?_
        simpa?! only []
        exact no (by simp [m0, h1, h2])
  · refine br_neg (decide_eq_false (by omega)) ?_
    simpa?! only []
    exact no (by simp [m0])
def m_things_at : PM := fun ds st Q => match ds with
  | [.str y, .tup wd, .int ci, .int ii, .int di, .int ji] => ∃ (ws : List (List Nat)) (c i d j : Nat), wd = ws.map D.str ∧ ci = (c : Int) ∧ ii = (i : Int) ∧ di = (d : Int) ∧ ji = (j : Int) ∧ WsOk y ws ∧ c < ws.length ∧ d < ws.length ∧ Q (.own ((thAt y ws c i d j).map thD)) st
  | _ => False
theorem things_i {y : List Nat} {ws : List (List Nat)} {c i d j : Nat} {s : Sto} {Q : C → Sto → Prop} (h : WsOk y ws) (hc : c < ws.length) (hd : d < ws.length) (q : Q (.own ((thAt y ws c i d j).map thD)) s) : m_things_at [.str y, .tup (ws.map D.str), .int (c : Nat), .int (i : Nat), .int (d : Nat), .int (j : Nat)] s Q := ⟨ws, c, i, d, j, rfl, rfl, rfl, rfl, rfl, h, hc, hd, q⟩
def t_things_at : PTS := sSeq (sPar 6 7 (tCons (t2 (tName 1) (tName 2) pIx) (tCons (t2 (tName 1) (tName 4) pIx) (tNil)))) (sSeq (sAsg 8 (tLst (tNil))) (sSeq (sIf (tB (t2 (tTup (tCons (tName 2) (tCons (tName 3) (tNil)))) (tTup (tCons (tName 4) (tCons (tName 5) (tNil)))) pLtT)) (sSeq (sIf (tB (tCall0 m_meets_across (tCons (tName 0) (tCons (tName 6) (tCons (tName 3) (tCons (tName 7) (tCons (tName 5) (tNil)))))))) (sDrop (tMut mAppend (tName 8) (tCons (tTup (tCons (tName 2) (tCons (tName 3) (tCons (tName 4) (tCons (tName 5) (tCons (tD (.int 0)) (tCons (tD (.str [97, 99, 114, 111, 115, 115])) (tNil)))))))) (tNil)))) (sNext)) (sSeq (sAsg 9 (tCall0 m_meets_along (tCons (tName 0) (tCons (tName 6) (tCons (tName 3) (tCons (tName 7) (tCons (tName 5) (tNil)))))))) (sIf (tB (t2 (tName 9) (tD (.int 0)) pGt)) (sDrop (tMut mAppend (tName 8) (tCons (tTup (tCons (tName 2) (tCons (tName 3) (tCons (tName 4) (tCons (tName 5) (tCons (tName 9) (tCons (tD (.str [97, 108, 111, 110, 103])) (tNil)))))))) (tNil)))) (sNext)))) (sNext)) (sSeq (sAsg 9 (tCall0 m_meets_against (tCons (tName 0) (tCons (tName 6) (tCons (tName 3) (tCons (tName 7) (tCons (tName 5) (tNil)))))))) (sSeq (sAsg 10 (tTup (tCons (t2 (t2 (t2 (tName 5) (tName 9) pSub) (tD (.int 1)) pAdd) (tCallP pLen (rCons (tName 7) (rNil))) pMod) (tCons (t2 (t2 (t2 (tName 3) (tName 9) pAdd) (tD (.int 1)) pSub) (tCallP pLen (rCons (tName 6) (rNil))) pMod) (tNil))))) (sSeq (sIf (tAnd (tB (t2 (tName 9) (tD (.int 0)) pGt)) (tOr (tB (t2 (tName 2) (tName 4) pLt)) (tAnd (tB (t2 (tName 2) (tName 4) pEq)) (tB (t2 (tTup (tCons (tName 3) (tCons (tName 5) (tNil)))) (tName 10) pLtT))))) (sDrop (tMut mAppend (tName 8) (tCons (tTup (tCons (tName 2) (tCons (tName 3) (tCons (tName 4) (tCons (tName 5) (tCons (tName 9) (tCons (tD (.str [97, 103, 97, 105, 110, 115, 116])) (tNil)))))))) (tNil)))) (sNext)) (sRet (tName 8)))))))
abbrev N_things_at : List Str := ["yard", "words", "c", "i", "d", "j", "one", "other", "found", "many", "back"]
theorem len_things_at (ds : List D) (s : Sto) (Q : C → Sto → Prop) (h : m_things_at ds s Q) : ds.length = 6 := by
  unfold m_things_at at h
  split at h
  · rfl
  · exact h.elim
theorem p_things_at (ds : List D) (s : Sto) (Q : C → Sto → Prop) (h : m_things_at ds s Q) : t_things_at noX { nx := fun e => Q (.d .non) e.st, rt := fun c e => Q c e.st } ⟨startC N_things_at ds, s⟩ := by
  unfold m_things_at at h
  split at h
  · rename_i y wd ci ii di ji
    obtain ⟨ws, c, i, d, j, rfl, rfl, rfl, rfl, rfl, hw, hc, hd, q⟩ := h
    have wc := hw.at hc
    have wd := hw.at hd
    have g1 := at_wAt hc
    have g2 := at_wAt hd
    unfold thAt at q
    generalize wAt ws c = w at *
    generalize wAt ws d = v at *
    have vp : 0 < v.length := List.length_pos_iff.mpr wd.cr.ne
    have wp : 0 < w.length := List.length_pos_iff.mpr wc.cr.ne
    unfold t_things_at
    show sSeq _ (sSeq _ (sSeq _ sAgain)) _ _ _
    generalize hR : sAgain = RR
    simpa?! only []
    refine opt_of g1 ?_
    simpa?! only []
    refine opt_of g2 ?_
    simpa?! only [intL_c, intL_n, consI_s]
    refine br_intro (fun h1 => ?_) fun h1 => ?_
    · rw [if_pos h1] at q
      simpa?! only []
      refine across_i hw.yk wc wd ?_
      simpa?! only []
      refine br_intro (fun h2 => ?_) fun h2 => ?_
      · rw [if_pos h2] at q
        simpa?! only []
        refine along_i hw.yk wc wd ?_
        simpa?! only []
        by_cases h3 : 0 < along y w i v j
        · rw [if_pos h3] at q
          refine br_pos (decide_eq_true (by omega)) ?_
          simpa?! only []
          subst hR
          exact again_ok (T := [(c, i, d, j, 0, tAc), (c, i, d, j, along y w i v j, tAl)]) hw.yk wc wd (Nat.le_refl _) q
        · rw [if_neg h3] at q
          refine br_neg (decide_eq_false (by omega)) ?_
          simpa?! only []
          subst hR
          exact again_ok (T := [(c, i, d, j, 0, tAc)]) hw.yk wc wd (Nat.le_succ _) q
      · rw [if_neg (by simp [h2])] at q
        simpa?! only []
        refine along_i hw.yk wc wd ?_
        simpa?! only []
        by_cases h3 : 0 < along y w i v j
        · rw [if_pos h3] at q
          refine br_pos (decide_eq_true (by omega)) ?_
          simpa?! only []
          subst hR
          exact again_ok (T := [(c, i, d, j, along y w i v j, tAl)]) hw.yk wc wd (Nat.le_succ _) q
        · rw [if_neg h3] at q
          refine br_neg (decide_eq_false (by omega)) ?_
          simpa?! only []
          subst hR
          exact again_ok (T := []) hw.yk wc wd (Nat.zero_le _) q
    · rw [if_neg (by simp [h1])] at q
      simpa?! only []
      subst hR
      exact again_ok (T := []) hw.yk wc wd (Nat.zero_le _) q
  · exact h.elim
set_option maxRecDepth 100000
set_option maxHeartbeats 1000000
theorem rf_succ {α : Type} (f : Nat → List α) (k : Nat) : (List.range (k + 1)).flatMap f = (List.range k).flatMap f ++ f k := by
  rw [List.range_succ, List.flatMap_append]
  simp
theorem rf_pre {α : Type} {f : Nat → List α} {n k : Nat} {p : List α} (h : k < n) (hp : p <+: f k) : (List.range k).flatMap f ++ p <+: (List.range n).flatMap f := by
  induction n with
  | zero => omega
  | succ n ih =>
    rw [rf_succ]
    rcases Nat.lt_or_ge k n with z | z
    · exact (ih z).trans (List.prefix_append _ _)
    · have : k = n := by omega
      subst this
      exact (List.prefix_append_right_inj _).mpr hp
theorem fm_app {α β : Type} (m : List α) (f g : α → List β) : (m.flatMap fun b => f b ++ g b).Perm (m.flatMap f ++ m.flatMap g) := by
  induction m with
  | nil => exact List.Perm.refl _
  | cons a m ih =>
    simp only [List.flatMap_cons]
    have h1 := (ih.append_left (f a ++ g a))
    refine h1.trans ?_
    simp only [List.append_assoc]
    refine List.Perm.append_left _ ?_
    rw [← List.append_assoc, ← List.append_assoc]
    exact List.Perm.append_right _ List.perm_append_comm
theorem fm_swap {α β γ : Type} (l : List α) (m : List β) (f : α → β → List γ) : (l.flatMap fun a => m.flatMap fun b => f a b).Perm (m.flatMap fun b => l.flatMap fun a => f a b) := by
  induction l with
  | nil =>
    simp only [List.flatMap_nil]
    induction m with
    | nil => exact List.Perm.refl _
    | cons b m ih => simpa only [List.flatMap_cons, List.nil_append] using ih
  | cons a l ih =>
    simp only [List.flatMap_cons]
    exact (List.Perm.append_left _ ih).trans (fm_app m _ _).symm
theorem fm_len {α β : Type} (l : List α) (f : α → List β) (k : Nat) (h : ∀ a ∈ l, (f a).length ≤ k) : (l.flatMap f).length ≤ l.length * k := by
  induction l with
  | nil => simp
  | cons a l ih =>
    rw [List.flatMap_cons, List.length_append, List.length_cons, Nat.succ_mul]
    have := h a (by simp)
    have := ih fun b hb => h b (by simp [hb])
    omega
theorem fm_perm {α β : Type} (l : List α) (f g : α → List β) (h : ∀ a ∈ l, (f a).Perm (g a)) : (l.flatMap f).Perm (l.flatMap g) := by
  induction l with
  | nil => exact List.Perm.refl _
  | cons a l ih =>
    rw [List.flatMap_cons, List.flatMap_cons]
    exact (h a (by simp)).append (ih fun b hb => h b (by simp [hb]))
def rowJ (y : List Nat) (ws : List (List Nat)) (c i d : Nat) : List Th := (List.range (wAt ws d).length).flatMap (thAt y ws c i d)
def rowI (y : List Nat) (ws : List (List Nat)) (c d : Nat) : List Th := (List.range (wAt ws c).length).flatMap fun i => rowJ y ws c i d
def rowD (y : List Nat) (ws : List (List Nat)) (c : Nat) : List Th := (List.range (ws.length - c)).flatMap fun k => rowI y ws c (c + k)
def allTh (y : List Nat) (ws : List (List Nat)) : List Th := (List.range ws.length).flatMap (rowD y ws)
def plc (ws : List (List Nat)) : List (Nat × Nat) := (List.range ws.length).flatMap fun c => (List.range (wAt ws c).length).map fun i => (c, i)
def lawTh (y : List Nat) (ws : List (List Nat)) : List Th := (plc ws).flatMap fun p => (plc ws).flatMap fun q => thAt y ws p.1 p.2 q.1 q.2
theorem lexLt_ff {c i d j : Nat} (h : d < c) : HT.lexLt [(c : Int), (i : Int)] [(d : Int), (j : Int)] = false := by
  unfold HT.lexLt
  rw [decide_eq_false (show ¬ (c : Int) < (d : Int) by omega), if_neg (by omega)]
theorem thAt_nil {y : List Nat} {ws : List (List Nat)} {c i d j : Nat} (h : d < c) : thAt y ws c i d j = [] := by
  unfold thAt agIn
  rw [if_neg (by rw [lexLt_ff h]; simp), if_neg, List.append_nil]
  have e1 : decide (c < d) = false := decide_eq_false (by omega)
  have e2 : decide (c = d) = false := decide_eq_false (by omega)
  rw [e1, e2]
  simp
theorem plc_flat {β : Type} (ws : List (List Nat)) (f : Nat × Nat → List β) : (plc ws).flatMap f = (List.range ws.length).flatMap fun c => (List.range (wAt ws c).length).flatMap fun i => f (c, i) := by
  unfold plc
  rw [List.flatMap_assoc]
  congr 1
  funext c
  rw [List.flatMap_map]
theorem all_perm (y : List Nat) (ws : List (List Nat)) : (allTh y ws).Perm (lawTh y ws) := by
  unfold allTh lawTh
  rw [plc_flat]
  refine fm_perm _ _ _ fun c hc => ?_
  have hc' : c < ws.length := List.mem_range.mp hc
  have e1 : (fun i => (plc ws).flatMap fun q => thAt y ws (c, i).1 (c, i).2 q.1 q.2) = fun i => (List.range ws.length).flatMap fun d => rowJ y ws c i d := by
    funext i
    rw [plc_flat]
    rfl
  rw [e1]
  refine List.Perm.trans ?_ (fm_swap _ _ _).symm
  have e2 : ws.length = c + (ws.length - c) := by omega
  rw [e2, List.range_add, List.flatMap_append]
  have e3 : (List.range c).flatMap (fun d => (List.range (wAt ws c).length).flatMap fun i => rowJ y ws c i d) = [] := by
    rw [List.flatMap_eq_nil_iff]
    intro d hd
    rw [List.flatMap_eq_nil_iff]
    intro i _
    unfold rowJ
    rw [List.flatMap_eq_nil_iff]
    intro j _
    exact thAt_nil (List.mem_range.mp hd)
  rw [e3, List.nil_append, List.flatMap_map]
  unfold rowD
  exact List.Perm.refl _
theorem plc_len (ws : List (List Nat)) : (plc ws).length = (ws.map List.length).sum := by
  unfold plc
  rw [List.length_flatMap]
  congr 1
  simp only [List.length_map, List.length_range]
  refine List.ext_getElem (by simp) fun k h1 h2 => ?_
  have hk : k < ws.length := by simpa using h2
  rw [List.getElem_map, List.getElem_map, List.getElem_range]
  congr 1
  have := wAt_some hk
  simpa [List.getElem?_eq_getElem hk] using this.symm
theorem law_len (y : List Nat) (ws : List (List Nat)) : (lawTh y ws).length ≤ (ws.map List.length).sum * ((ws.map List.length).sum * 3) := by
  unfold lawTh
  rw [← plc_len]
  refine fm_len _ _ _ fun p _ => fm_len _ _ _ fun q _ => thAt_len _ _ _ _ _ _
structure WsL (y : List Nat) (ws : List (List Nat)) : Prop where
  ok : WsOk y ws
  tot : (ws.map List.length).sum ≤ 24
theorem WsL.len {y : List Nat} {ws : List (List Nat)} (h : WsL y ws) : (lawTh y ws).length ≤ 1728 :=
  Nat.le_trans (law_len y ws) (Nat.le_trans (Nat.mul_le_mul h.tot (Nat.mul_le_mul_right 3 h.tot)) (by omega))
theorem WsL.len' {y : List Nat} {ws : List (List Nat)} (h : WsL y ws) : (allTh y ws).length ≤ 1728 := by
  rw [(all_perm y ws).length_eq]
  exact h.len
structure Srt (L : List Th) (qs : List (List PuE.Itm)) : Prop where
  perm : qs.Perm (L.map thI)
  up : qs.Pairwise fun x y => PuE.ltN y x = false
theorem Srt.of {L M : List Th} {qs : List (List PuE.Itm)} (h : Srt L qs) (p : L.Perm M) : Srt M qs := ⟨h.perm.trans (p.map _), h.up⟩
theorem srt_ok {L : List Th} {Q : R → Prop} (q : ∀ qs, Srt L qs → Q (.own (qs.map trD))) : sortNH (.lst (L.map thD)) (HB.mk Q ()) := by
  show pSortN [.lst (L.map thD)] Q
  unfold pSortN
  have e1 : L.map thD = (L.map thI).map trD := by rw [List.map_map]; rfl
  have hs : (D.lst (L.map thD)).seqs = some (L.map thD) := rfl
  have ht : tsD (L.map thD) = some (L.map thI) := by rw [e1]; exact tsD_map _
  simp only [hs, ht]
  refine ⟨[false, false, false, false, false, true], by simp, fun l hl => ?_, fun qs hp hps => q qs ⟨hp, hps⟩⟩
  obtain ⟨t, _, rfl⟩ := List.mem_map.mp hl
  rfl
def m_forced : PM := fun ds st Q => match ds with
  | [.str y, .tup wd] => ∃ ws : List (List Nat), wd = ws.map D.str ∧ WsL y ws ∧ ∀ qs, Srt (allTh y ws) qs → Q (.own (qs.map trD)) st
  | _ => False
theorem forced_i {y : List Nat} {ws : List (List Nat)} {s : Sto} {Q : C → Sto → Prop} (h : WsL y ws) (q : ∀ qs, Srt (allTh y ws) qs → Q (.own (qs.map trD)) s) : m_forced [.str y, .tup (ws.map D.str)] s Q := ⟨ws, rfl, h, q⟩
def t_forced : PTS := sSeq (sAsg 2 (tLst (tNil))) (sSeq (sFor (iPure pRng1 (rCons (tCallP pLen (rCons (tName 1) (rNil))) (rNil))) (gName 3) (sFor (iPure pRng2 (rCons (tName 3) (rCons (tCallP pLen (rCons (tName 1) (rNil))) (rNil)))) (gName 4) (sFor (iPure pRng1 (rCons (tCallP pLen (rCons (t2 (tName 1) (tName 3) pIx) (rNil))) (rNil))) (gName 5) (sFor (iPure pRng1 (rCons (tCallP pLen (rCons (t2 (tName 1) (tName 4) pIx) (rNil))) (rNil))) (gName 6) (sDrop (tMut mExtend (tName 2) (tCons (tCall0 m_things_at (tCons (tName 0) (tCons (tName 1) (tCons (tName 3) (tCons (tName 5) (tCons (tName 4) (tCons (tName 6) (tNil)))))))) (tNil)))))))) (sRet (tCallP pSortN (rCons (tName 2) (rNil)))))
abbrev N_forced : List Str := ["yard", "words", "found", "c", "d", "i", "j"]
theorem len_forced (ds : List D) (s : Sto) (Q : C → Sto → Prop) (h : m_forced ds s Q) : ds.length = 2 := by
  unfold m_forced at h
  split at h
  · rfl
  · exact h.elim
theorem p_forced (ds : List D) (s : Sto) (Q : C → Sto → Prop) (h : m_forced ds s Q) : t_forced noX { nx := fun e => Q (.d .non) e.st, rt := fun c e => Q c e.st } ⟨startC N_forced ds, s⟩ := by
  unfold m_forced at h
  split at h
  · rename_i y wd
    obtain ⟨ws, rfl, hw, q⟩ := h
    have few := hw.ok.few
    have big := hw.len'
    unfold t_forced
    simpa?! only []
    rw [List.length_map]
    refine ⟨⟨by omega, by omega⟩, ?_⟩
    refine forH_rng 0 _ (fun k e => ∃ c3 c4 c5 c6 : C, e = ⟨[.d (.str y), .d (.tup (ws.map D.str)), .own (((List.range k).flatMap (rowD y ws)).map thD), c3, c4, c5, c6], s⟩) ⟨_, _, _, _, rfl⟩ ?_ ?_
    · rintro e ⟨c3, c4, c5, c6, rfl⟩
      simpa?! only []
      have e9 : ((ws.length : Int)).toNat = ws.length := rfl
      rw [e9]
      refine srt_ok fun qs hqs => ?_
      exact q qs hqs
    · rintro c e hc ⟨c3, c4, c5, c6, rfl⟩ N hN
      have hc' : c < ws.length := hc
      have g1 := at_wAt hc'
      have wc := (hw.ok.at hc').few
      rw [Int.zero_add]
      simpa?! only []
      rw [List.length_map]
      refine ⟨⟨by omega, by omega, by omega, by omega⟩, ?_⟩
      rw [show ((ws.length : Int) - (c : Int)).toNat = ws.length - c from by omega]
      refine forH_rng (c : Int) _ (fun k e => ∃ c4 c5 c6 : C, e = ⟨[.d (.str y), .d (.tup (ws.map D.str)), .own (((List.range c).flatMap (rowD y ws) ++ (List.range k).flatMap fun k => rowI y ws c (c + k)).map thD), .d (.int (c : Nat)), c4, c5, c6], s⟩) ⟨_, _, _, by rw [show (List.range 0).flatMap (fun k => rowI y ws c (c + k)) = [] from rfl, List.append_nil]⟩ ?_ ?_
      · rintro e ⟨c4, c5, c6, rfl⟩
        exact hN _ ⟨_, _, _, _, by rw [rf_succ]; rfl⟩
      · rintro k e hk ⟨c4, c5, c6, rfl⟩ N hN
        have hd : c + k < ws.length := by omega
        have g2 := at_wAt hd
        have wd := (hw.ok.at hd).few
        rw [show (c : Int) + (k : Int) = ((c + k : Nat) : Int) from rfl]
        generalize hdk : c + k = d at *
        simpa?! only []
        refine opt_of g1 ?_
        simpa?! only []
        refine ⟨⟨by omega, by omega⟩, ?_⟩
        rw [show ((wAt ws c).length : Int).toNat = (wAt ws c).length from rfl]
        have px : ∀ p : List Th, p <+: rowI y ws c d → (((List.range c).flatMap (rowD y ws) ++ (List.range k).flatMap fun k => rowI y ws c (c + k)) ++ p).length ≤ 1728 := fun p hp => by
          have h1 : (List.range k).flatMap (fun k => rowI y ws c (c + k)) ++ p <+: rowD y ws c := rf_pre hk (by rw [hdk]; exact hp)
          have h2 := (rf_pre (f := rowD y ws) hc' h1).length_le
          rw [List.append_assoc]
          exact Nat.le_trans h2 big
        have hN2 : ∀ c5 c6 : C, N ⟨[.d (.str y), .d (.tup (ws.map D.str)), .own ((((List.range c).flatMap (rowD y ws) ++ (List.range k).flatMap fun k => rowI y ws c (c + k)) ++ rowI y ws c d).map thD), .d (.int (c : Nat)), .d (.int (d : Nat)), c5, c6], s⟩ := fun c5 c6 => hN _ ⟨_, _, _, by rw [rf_succ, hdk, List.append_assoc]⟩
        clear hN
        generalize (List.range c).flatMap (rowD y ws) ++ (List.range k).flatMap (fun k => rowI y ws c (c + k)) = A at *
        refine forH_rng 0 _ (fun i e => ∃ c5 c6 : C, e = ⟨[.d (.str y), .d (.tup (ws.map D.str)), .own ((A ++ (List.range i).flatMap fun i => rowJ y ws c i d).map thD), .d (.int (c : Nat)), .d (.int (d : Nat)), c5, c6], s⟩) ⟨_, _, by rw [show (List.range 0).flatMap (fun i => rowJ y ws c i d) = [] from rfl, List.append_nil]⟩ ?_ ?_
        · rintro e ⟨c5, c6, rfl⟩
          exact hN2 _ _
        · rintro i e hi ⟨c5, c6, rfl⟩ N hN
          rw [Int.zero_add]
          simpa?! only []
          refine opt_of g2 ?_
          simpa?! only []
          refine ⟨⟨by omega, by omega⟩, ?_⟩
          rw [show ((wAt ws d).length : Int).toNat = (wAt ws d).length from rfl]
          refine forH_rng 0 _ (fun j e => ∃ c6 : C, e = ⟨[.d (.str y), .d (.tup (ws.map D.str)), .own ((A ++ (List.range i).flatMap (fun i => rowJ y ws c i d) ++ (List.range j).flatMap (thAt y ws c i d)).map thD), .d (.int (c : Nat)), .d (.int (d : Nat)), .d (.int (i : Nat)), c6], s⟩) ⟨_, by rw [show (List.range 0).flatMap (thAt y ws c i d) = [] from rfl, List.append_nil]⟩ ?_ ?_
          · rintro e ⟨c6, rfl⟩
            exact hN _ ⟨_, _, by rw [rf_succ, List.append_assoc]; rfl⟩
          · rintro j e hj ⟨c6, rfl⟩ N hN3
            rw [Int.zero_add]
            simpa?! only []
            refine things_i hw.ok hc' hd ?_
            simpa?! only []
            have bd := px ((List.range i).flatMap (fun i => rowJ y ws c i d) ++ ((List.range j).flatMap (thAt y ws c i d) ++ thAt y ws c i d j)) (rf_pre hi (rf_pre hj (List.prefix_refl _)))
            refine ⟨?_, hN3 _ ⟨_, by rw [rf_succ, ← List.map_append, List.append_assoc (A ++ _)]⟩⟩
            simp only [List.length_map, List.length_append] at bd ⊢
            omega
  · exact h.elim
set_option maxRecDepth 100000
set_option maxHeartbeats 1000000
set_option maxRecDepth 100000
set_option maxHeartbeats 4000000
def RedS : List Nat → Prop
  | [] => True
  | [_] => True
  | a :: b :: l => b ≠ con a ∧ RedS (b :: l)
theorem RedS.tail {a : Nat} {l : List Nat} (h : RedS (a :: l)) : RedS l := by
  cases l with
  | nil => trivial
  | cons b l => exact h.2
theorem rpush_red {r : List Nat} {c : Nat} (h : RedS r) : RedS (rpush r c) := by
  unfold rpush
  cases r with
  | nil => trivial
  | cons x r =>
    simp only
    split
    · exact h.tail
    · rename_i hx; exact ⟨hx, h⟩
theorem redR_red {r w : List Nat} (h : RedS r) : RedS (redR r w) := by
  induction w generalizing r with
  | nil => exact h
  | cons c w ih => exact ih (rpush_red h)
theorem rpush_undo {r : List Nat} {a b : Nat} (h : RedS r) (ha : IsL a) (hb : IsL b) (e : a = con b) : rpush (rpush r a) b = r := by
  have e' : b = con a := by rw [e, con_con hb]
  cases r with
  | nil => show rpush [a] b = []; unfold rpush; simp only; rw [if_pos e]
  | cons x r =>
    by_cases hx : x = con a
    · have : rpush (x :: r) a = r := by unfold rpush; simp only; rw [if_pos hx]
      rw [this]
      have hxb : x = b := by rw [hx, ← e']
      subst hxb
      cases r with
      | nil => rfl
      | cons y r =>
        show rpush (y :: r) x = _
        unfold rpush
        simp only
        rw [if_neg h.1]
    · have : rpush (x :: r) a = a :: x :: r := by unfold rpush; simp only; rw [if_neg hx]
      rw [this]
      show rpush (a :: x :: r) b = _
      unfold rpush
      simp only
      rw [if_pos e]
theorem red_pair {u v : List Nat} {a b : Nat} (ha : IsL a) (hb : IsL b) (e : a = con b) : red (u ++ a :: b :: v) = red (u ++ v) := by
  unfold red
  rw [redR_app, redR_app]
  show (redR (rpush (rpush (redR [] u) a) b) v).reverse = _
  rw [rpush_undo (redR_red (by trivial)) ha hb e]
/-- no two that cancel stand together -/
def NoAdj : List Nat → Prop
  | [] => True
  | [_] => True
  | a :: b :: l => a ≠ con b ∧ NoAdj (b :: l)
theorem redR_noadj {r w : List Nat} (h : NoAdj w) (hh : ∀ x c, r.head? = some x → w.head? = some c → x ≠ con c) : redR r w = w.reverse ++ r := by
  induction w generalizing r with
  | nil => rfl
  | cons c w ih =>
    have e : rpush r c = c :: r := by
      unfold rpush
      cases r with
      | nil => rfl
      | cons x r => simp only; rw [if_neg (hh x c rfl rfl)]
    show redR (rpush r c) w = _
    rw [e]
    cases w with
    | nil => rfl
    | cons d w =>
      rw [ih h.2 fun x y hx hy => by cases hx; cases hy; exact h.1]
      simp
theorem red_noadj {w : List Nat} (h : NoAdj w) : red w = w := by
  unfold red
  rw [redR_noadj h fun x c hx => by cases hx]
  simp
theorem noadj_of {w : List Nat} (h : ∀ k a b, w[k]? = some a → w[k + 1]? = some b → a ≠ con b) : NoAdj w := by
  induction w with
  | nil => trivial
  | cons a w ih =>
    cases w with
    | nil => trivial
    | cons b w => exact ⟨h 0 a b rfl rfl, ih fun k x y hx hy => h (k + 1) x y hx hy⟩
theorem noadj_get {w : List Nat} (h : NoAdj w) : ∀ k a b, w[k]? = some a → w[k + 1]? = some b → a ≠ con b := by
  induction w with
  | nil => intro k a b ha; simp at ha
  | cons x w ih =>
    intro k a b ha hb
    cases w with
    | nil => simp at hb
    | cons y w =>
      cases k with
      | zero => simp at ha hb; subst ha; subst hb; exact h.1
      | succ k => exact ih h.2 k a b (by simpa using ha) (by simpa using hb)
theorem noadj_rev {l : List Nat} (hl : IsW l) (h : RedS l) : NoAdj l.reverse := by
  refine noadj_of fun k a b ha hb => ?_
  have key : ∀ (l : List Nat), RedS l → ∀ k x y, l[k]? = some x → l[k + 1]? = some y → y ≠ con x := by
    intro l
    induction l with
    | nil => intro _ k x y hx; simp at hx
    | cons c l ih =>
      intro h k x y hx hy
      cases l with
      | nil => simp at hy
      | cons d l =>
        cases k with
        | zero => simp at hx hy; subst hx; subst hy; exact h.1
        | succ k => exact ih h.2 k x y (by simpa using hx) (by simpa using hy)
  have hk : k + 1 < l.length := by
    have := (List.getElem?_eq_some_iff.mp hb).1
    simpa using this
  rw [List.getElem?_reverse (by omega)] at ha hb
  refine key l h (l.length - 1 - (k + 1)) b a hb ?_
  rw [show l.length - 1 - (k + 1) + 1 = l.length - 1 - k by omega]
  exact ha
theorem red_noadj' {w : List Nat} (hw : IsW w) : NoAdj (red w) := noadj_rev (redR_W (by intro c hc; cases hc) hw) (redR_red (by trivial))
theorem noadj_inner {v : List Nat} (h : NoAdj v) : NoAdj v.tail.dropLast := by
  refine noadj_of fun k a b ha hb => ?_
  have g : ∀ j x, v.tail.dropLast[j]? = some x → v[j + 1]? = some x := by
    intro j x hx
    rw [List.getElem?_dropLast] at hx
    split at hx
    · rw [List.getElem?_tail] at hx; exact hx
    · cases hx
  exact noadj_get h (k + 1) a b (g k a ha) (g (k + 1) b hb)
theorem cyc_noadj {v : List Nat} (h : NoAdj v) : NoAdj (cyc v) := by
  generalize hn : v.length = n
  induction n using Nat.strongRecOn generalizing v with
  | _ n ih =>
    rw [cyc]
    split
    · rename_i hc
      exact ih _ (by simp; omega) (noadj_inner h) rfl
    · exact h
theorem cyc_cyc (v : List Nat) : cyc (cyc v) = cyc v := by
  generalize hn : v.length = n
  induction n using Nat.strongRecOn generalizing v with
  | _ n ih =>
    by_cases hc : 1 < v.length ∧ v.head? = v.getLast?.map con
    · have e : cyc v = cyc v.tail.dropLast := by rw [cyc, if_pos hc]
      rw [e]
      exact ih _ (by simp; omega) _ rfl
    · have e : cyc v = v := by rw [cyc, if_neg hc]
      rw [e, e]
theorem red_cyc {w : List Nat} (hw : IsW w) : red (cyc (red w)) = cyc (red w) := red_noadj (cyc_noadj (red_noadj' hw))
theorem cyc_red_cyc {w : List Nat} (hw : IsW w) : cyc (red (cyc (red w))) = cyc (red w) := by rw [red_cyc hw, cyc_cyc]
set_option maxRecDepth 100000
set_option maxHeartbeats 1000000
def rot (l : List Nat) (k : Nat) : List Nat := l.drop k ++ l.take k
def rotL (l : List Nat) : List (List Nat) := (List.range l.length).map (rot l)
def ringL (l : List Nat) : List Nat := match rotL l with
  | [] => []
  | x :: r => minS x r
def ring (w : List Nat) : List Nat := ringL (cyc (red w))
def loop (w : List Nat) : List Nat := if ring (turn w) < ring w then ring (turn w) else ring w
theorem rot_W {l : List Nat} (h : IsW l) (k : Nat) : IsW (rot l k) := fun c hc => (List.mem_append.mp hc).elim (fun z => h c (List.mem_of_mem_drop z)) fun z => h c (List.mem_of_mem_take z)
theorem rot_len (l : List Nat) (k : Nat) : (rot l k).length = l.length := by
  unfold rot
  rw [List.length_append, Nat.add_comm, ← List.length_append, List.take_append_drop]
theorem ringL_rot {l : List Nat} (h : l ≠ []) : ∃ k, k < l.length ∧ ringL l = rot l k := by
  unfold ringL
  cases e : rotL l with
  | nil =>
    unfold rotL at e
    rw [List.map_eq_nil_iff, List.range_eq_nil] at e
    exact absurd (List.eq_nil_of_length_eq_zero e) h
  | cons x r =>
    have hm := minS_mem x r
    rw [← e] at hm
    obtain ⟨k, hk, hr⟩ := List.mem_map.mp hm
    exact ⟨k, List.mem_range.mp hk, hr.symm⟩
theorem ringL_W {l : List Nat} (h : IsW l) : IsW (ringL l) := by
  by_cases e : l = []
  · subst e; intro c hc; cases hc
  · obtain ⟨k, _, hr⟩ := ringL_rot e
    rw [hr]
    exact rot_W h k
theorem ringL_len (l : List Nat) : (ringL l).length = l.length := by
  by_cases e : l = []
  · subst e; rfl
  · obtain ⟨k, _, hr⟩ := ringL_rot e
    rw [hr, rot_len]
theorem core_len (w : List Nat) : (cyc (red w)).length ≤ w.length := Nat.le_trans (cyc_len _) (red_len w)
theorem core_W {w : List Nat} (h : IsW w) : IsW (cyc (red w)) := cyc_W (red_W h)
theorem ring_W {w : List Nat} (h : IsW w) : IsW (ring w) := ringL_W (core_W h)
theorem ring_len (w : List Nat) : (ring w).length ≤ w.length := by unfold ring; rw [ringL_len]; exact core_len w
theorem loop_W {w : List Nat} (h : IsW w) : IsW (loop w) := by
  unfold loop
  split
  · exact ring_W (turn_W h)
  · exact ring_W h
theorem loop_len (w : List Nat) : (loop w).length ≤ w.length := by
  unfold loop
  split
  · have := ring_len (turn w); rw [turn_len] at this; exact this
  · exact ring_len w
def rotD (l : List Nat) (d : D) : D := match d with
  | .int i => .str (rot l i.toNat)
  | d => d
theorem rots_map (l : List Nat) : (rngI 0 l.length).map (rotD l) = (rotL l).map D.str := by
  unfold rngI rotL
  rw [List.map_map, List.map_map]
  apply List.map_congr_left
  intro i _
  show D.str (rot l ((0 : Int) + (i : Nat)).toNat) = D.str (rot l i)
  congr 2
  omega
theorem rotL_cons {l : List Nat} (h : l ≠ []) : ∃ x r, rotL l = x :: r ∧ ringL l = minS x r := by
  unfold ringL
  cases e : rotL l with
  | nil =>
    unfold rotL at e
    rw [List.map_eq_nil_iff, List.range_eq_nil] at e
    exact absurd (List.eq_nil_of_length_eq_zero e) h
  | cons x r => exact ⟨x, r, rfl, rfl⟩
def m_ring : PM := fun ds st Q => match ds with
  | [.str w] => IsW w ∧ w.length ≤ 65536 ∧ Q (.d (.str (ring w))) st
  | _ => False
theorem e_ring {w s Q} : m_ring [.str w] s Q = (IsW w ∧ w.length ≤ 65536 ∧ Q (.d (.str (ring w))) s) := rfl
def t_ring : PTS := sSeq (sAsg 1 (tCall0 m_shortest (tCons (tName 0) (tNil)))) (sSeq (sIf (tB (t2 (tName 1) (tD (.str [])) pEq)) (sRet (tD (.str []))) (sNext)) (sRet (tCallP pMin1 (rCons (cLc (iPure pRng1 (rCons (tCallP pLen (rCons (tName 1) (rNil))) (rNil))) (gName 2) (cYes) (t2 (tSl (tName 1) (oSome (tName 2)) (oNone)) (tSl (tName 1) (oNone) (oSome (tName 2))) pAdd) [2]) (rNil)))))
abbrev N_ring : List Str := ["word", "left", "k"]
theorem len_ring (ds : List D) (s : Sto) (Q : C → Sto → Prop) (h : m_ring ds s Q) : ds.length = 1 := by
  unfold m_ring at h
  split at h
  · rfl
  · exact h.elim
theorem p_ring (ds : List D) (s : Sto) (Q : C → Sto → Prop) (h : m_ring ds s Q) : t_ring noX { nx := fun e => Q (.d .non) e.st, rt := fun c e => Q c e.st } ⟨startC N_ring ds, s⟩ := by
  unfold m_ring at h
  split at h
  · rename_i w
    obtain ⟨hw, hl, q⟩ := h
    unfold t_ring
    simpa?! only [e_shortest]
    have hcl := core_len w
    refine ⟨hw, by omega, ?_⟩
    unfold ring at q
    generalize cyc (red w) = l at q hcl
    by_cases e : l = []
    · refine br_pos (decide_eq_true e) ?_
      simpa?! only []
      subst e
      exact q
    · refine br_neg (decide_eq_false e) ?_
      simpa?! only []
      refine ⟨⟨by omega, by omega⟩, by rw [rngI_length]; omega, ?_⟩
      rw [Int.toNat_natCast]
      refine lcH_map (rotD l) (fun d hd K k => ?_) ?_
      · obtain ⟨i, hi, rfl⟩ := rngI_mem hd
        rw [Int.zero_add] at k ⊢
        simpa?! only [cut_take, cut_drop]
        have := rot_len l i
        unfold rot at this
        rw [List.length_append] at this
        refine ⟨by omega, ?_⟩
        have k : K (.str (rot l (i : Int).toNat)) ⟨[.d (.str w), .d (.str l), .un], s⟩ := k
        rw [Int.toNat_natCast] at k
        exact k
      · rw [rots_map]
        obtain ⟨x, r, h1, h2⟩ := rotL_cons e
        rw [h2] at q
        simpa?! only []
        exact minH_ok (by rw [h1]) q
  · exact h.elim
def m_loop : PM := fun ds st Q => match ds with
  | [.str w] => IsW w ∧ w.length ≤ 65536 ∧ Q (.d (.str (loop w))) st
  | _ => False
theorem e_loop {w s Q} : m_loop [.str w] s Q = (IsW w ∧ w.length ≤ 65536 ∧ Q (.d (.str (loop w))) s) := rfl
def t_loop : PTS := sRet (tCallP pMin2S (rCons (tCall0 m_ring (tCons (tName 0) (tNil))) (rCons (tCall0 m_ring (tCons (tCall0 m_turned (tCons (tName 0) (tNil))) (tNil))) (rNil))))
abbrev N_loop : List Str := ["word"]
theorem len_loop (ds : List D) (s : Sto) (Q : C → Sto → Prop) (h : m_loop ds s Q) : ds.length = 1 := by
  unfold m_loop at h
  split at h
  · rfl
  · exact h.elim
theorem p_loop (ds : List D) (s : Sto) (Q : C → Sto → Prop) (h : m_loop ds s Q) : t_loop noX { nx := fun e => Q (.d .non) e.st, rt := fun c e => Q c e.st } ⟨startC N_loop ds, s⟩ := by
  unfold m_loop at h
  split at h
  · rename_i w
    obtain ⟨hw, hl, q⟩ := h
    unfold t_loop
    simpa?! only [e_ring, e_turned]
    exact ⟨hw, hl, hw, by omega, turn_W hw, by rw [turn_len]; exact hl, q⟩
  · exact h.elim
set_option maxRecDepth 100000
set_option maxHeartbeats 1000000
def Per (l : List Nat) (k : Nat) : Prop := ∀ i, i < l.length → l[(i + k) % l.length]? = l[i]?
theorem rot_get {l : List Nat} {k i : Nat} (hk : k ≤ l.length) (hi : i < l.length) : (rot l k)[i]? = l[(i + k) % l.length]? := by
  unfold rot
  by_cases h : i < l.length - k
  · rw [List.getElem?_append_left (by rw [List.length_drop]; exact h), List.getElem?_drop, Nat.mod_eq_of_lt (by omega), Nat.add_comm]
  · rw [List.getElem?_append_right (by rw [List.length_drop]; omega), List.length_drop, List.getElem?_take_of_lt (by omega)]
    have e : (i + k) % l.length = i - (l.length - k) := by
      rw [Nat.mod_eq_sub_mod (by omega), Nat.mod_eq_of_lt (by omega)]
      omega
    rw [e]
theorem per_iff {l : List Nat} {k : Nat} (hk : k ≤ l.length) : rot l k = l ↔ Per l k := by
  constructor
  · intro h i hi
    rw [← rot_get hk hi, h]
  · intro h
    apply List.ext_getElem?
    intro i
    by_cases hi : i < l.length
    · rw [rot_get hk hi, h i hi]
    · rw [List.getElem?_eq_none (by rw [rot_len]; omega), List.getElem?_eq_none (by omega)]
theorem Per.add {l : List Nat} {a b : Nat} (h : Per l a) (g : Per l b) : Per l (a + b) := fun i hi => by
  have hm : (i + a) % l.length < l.length := Nat.mod_lt _ (by omega)
  have := g _ hm
  rw [Nat.mod_add_mod] at this
  rw [← Nat.add_assoc, this, h i hi]
theorem Per.mul {l : List Nat} {a : Nat} (h : Per l a) : ∀ q, Per l (q * a)
  | 0 => fun i hi => by rw [Nat.zero_mul, Nat.add_zero, Nat.mod_eq_of_lt hi]
  | q + 1 => by rw [Nat.succ_mul]; exact (Per.mul h q).add h
theorem Per.sub {l : List Nat} {a r : Nat} (h : Per l a) (e : (a + r) % l.length = 0) : Per l r := fun i hi => by
  have hm : (i + r) % l.length < l.length := Nat.mod_lt _ (by omega)
  have := h _ hm
  rw [Nat.mod_add_mod] at this
  have e2 : (i + r + a) % l.length = i := by
    have : i + r + a = i + (a + r) := by omega
    rw [this, Nat.add_mod, e, Nat.add_zero, Nat.mod_mod, Nat.mod_eq_of_lt hi]
  rw [e2] at this
  exact this.symm
/-- the least turn that gives the same -/
def rootK (l : List Nat) : Nat := (((List.range l.length).map (· + 1)).find? fun k => decide (rot l k = l)).getD 0
theorem rot_full (l : List Nat) : rot l l.length = l := by unfold rot; simp
theorem rootK_spec {l : List Nat} (h : l ≠ []) : 1 ≤ rootK l ∧ rootK l ≤ l.length ∧ rot l (rootK l) = l ∧ (∀ k, 1 ≤ k → k < rootK l → rot l k ≠ l) ∧ ((List.range l.length).map (· + 1)).find? (fun k => decide (rot l k = l)) = some (rootK l) := by
  have hp := List.length_pos_iff.mpr h
  unfold rootK
  cases e : ((List.range l.length).map (· + 1)).find? fun k => decide (rot l k = l) with
  | none =>
    rw [List.find?_eq_none] at e
    have := e l.length (List.mem_map.mpr ⟨l.length - 1, List.mem_range.mpr (by omega), by omega⟩)
    simp [rot_full] at this
  | some k =>
    simp only [Option.getD_some]
    have hm := List.mem_of_find?_eq_some e
    obtain ⟨j, hj, rfl⟩ := List.mem_map.mp hm
    have hj := List.mem_range.mp hj
    have hs : rot l (j + 1) = l := of_decide_eq_true (p := rot l (j + 1) = l) (List.find?_some (p := fun k => decide (rot l k = l)) e)
    refine ⟨by omega, by omega, hs, fun k hk1 hk2 hr => ?_, by simp⟩
    rw [List.find?_eq_some_iff_append] at e
    obtain ⟨_, as, bs, heq, hno⟩ := e
    have hlen : as.length = j := by
      have h1 : ((List.range l.length).map (· + 1))[as.length]? = some (j + 1) := by rw [heq]; simp
      rw [List.getElem?_map] at h1
      have hlt : as.length < l.length := by
        have := congrArg List.length heq
        simp at this
        omega
      rw [List.getElem?_range hlt] at h1
      simp at h1
      exact h1
    have hk : k ∈ as := by
      have h2 : ((List.range l.length).map (· + 1))[k - 1]? = some k := by
        rw [List.getElem?_map, List.getElem?_range (by omega)]
        simp
        omega
      rw [heq, List.getElem?_append_left (by omega)] at h2
      exact List.mem_of_getElem? h2
    have := hno k hk
    simp [hr] at this
/-- a beginning that is put down again and again -/
def Fills (l : List Nat) (k : Nat) : Prop := l.length % k = 0 ∧ (List.replicate (l.length / k) (l.take k)).flatten = l
theorem fills_rot {l : List Nat} {k : Nat} (hk1 : 1 ≤ k) (hk : k ≤ l.length) (h : Fills l k) : rot l k = l := by
  obtain ⟨h1, h2⟩ := h
  have hm : 1 ≤ l.length / k := (Nat.one_le_div_iff (by omega)).mpr hk
  obtain ⟨m, hm⟩ : ∃ m, l.length / k = m + 1 := ⟨l.length / k - 1, by omega⟩
  rw [hm] at h2
  have hu : (l.take k).length = k := by rw [List.length_take]; omega
  generalize hg : l.take k = u at h2 hu
  have e1 : l.drop k = (List.replicate m u).flatten := by
    rw [← h2, List.replicate_succ, List.flatten_cons, ← hu, List.drop_left]
  unfold rot
  rw [e1, hg]
  conv => rhs; rw [← h2]
  rw [List.replicate_succ', List.flatten_append]
  simp
theorem per_take {l : List Nat} {k : Nat} (h : Per l k) (hk : k ≤ l.length) : ∀ m, m * k ≤ l.length → (List.replicate m (l.take k)).flatten = l.take (m * k)
  | 0, _ => by simp
  | m + 1, hm => by
    have hm' : m * k + k ≤ l.length := by rw [Nat.succ_mul] at hm; exact hm
    rw [List.replicate_succ', List.flatten_append, per_take h hk m (by omega), Nat.succ_mul, List.take_add]
    congr 1
    simp only [List.flatten_cons, List.flatten_nil, List.append_nil]
    apply List.ext_getElem?
    intro i
    by_cases hi : i < k
    · rw [List.getElem?_take_of_lt hi, List.getElem?_take_of_lt hi, List.getElem?_drop]
      have := (h.mul m) i (by omega)
      rw [Nat.mod_eq_of_lt (by omega), Nat.add_comm] at this
      exact this.symm
    · rw [List.getElem?_eq_none (by rw [List.length_take]; omega), List.getElem?_eq_none (by rw [List.length_take]; omega)]
theorem rootK_fills {l : List Nat} (h : l ≠ []) : Fills l (rootK l) := by
  obtain ⟨h1, h2, h3, h4, _⟩ := rootK_spec h
  have hp := (per_iff h2).mp h3
  generalize hk : rootK l = k at *
  have hz : l.length % k = 0 := by
    refine Decidable.byContradiction fun z => ?_
    have hr : l.length % k < k := Nat.mod_lt _ (by omega)
    have hd := Nat.div_add_mod l.length k
    have hpr : Per l (l.length % k) := by
      refine (hp.mul (l.length / k)).sub ?_
      rw [Nat.mul_comm, hd, Nat.mod_self]
    exact h4 _ (by omega) hr ((per_iff (by omega)).mpr hpr)
  refine ⟨hz, ?_⟩
  have hd : l.length / k * k = l.length := Nat.div_mul_cancel (Nat.dvd_of_mod_eq_zero hz)
  rw [per_take hp h2 _ (by omega), hd, List.take_length]
/-- what root answers -/
def rootP (l : List Nat) : D := if l = [] then .tup [.str [], .int 0] else .tup [.str (l.take (rootK l)), .int ((l.length / rootK l : Nat) : Int)]
set_option maxRecDepth 100000
set_option maxHeartbeats 1000000
theorem cdiv_nat {i : Int} {k : Nat} (h1 : 0 < k) (h2 : k < 2 ^ 64) : CDivW i (k : Int) := by
  refine ⟨by omega, ?_⟩
  have : (k : Int).natAbs.log2 < 64 := by
    rw [Int.natAbs_natCast]
    exact (Nat.log2_lt (by omega)).mpr h2
  omega
def m_root : PM := fun ds st Q => match ds with
  | [.str w] => IsW w ∧ w.length ≤ 65536 ∧ Q (.d (rootP (ring w))) st
  | _ => False
theorem e_root {w s Q} : m_root [.str w] s Q = (IsW w ∧ w.length ≤ 65536 ∧ Q (.d (rootP (ring w))) s) := rfl
def t_root : PTS := sSeq (sAsg 1 (tCall0 m_ring (tCons (tName 0) (tNil)))) (sSeq (sFor (iPure pRng2 (rCons (tD (.int 1)) (rCons (t2 (tCallP pLen (rCons (tName 1) (rNil))) (tD (.int 1)) pAdd) (rNil)))) (gName 2) (sIf (tAnd (tB (t2 (t2 (tCallP pLen (rCons (tName 1) (rNil))) (tName 2) pMod) (tD (.int 0)) pEq)) (tB (t2 (t2 (tSl (tName 1) (oNone) (oSome (tName 2))) (t2 (tCallP pLen (rCons (tName 1) (rNil))) (tName 2) pFdiv) pMul) (tName 1) pEq))) (sRet (tTup (tCons (tSl (tName 1) (oNone) (oSome (tName 2))) (tCons (t2 (tCallP pLen (rCons (tName 1) (rNil))) (tName 2) pFdiv) (tNil))))) (sNext))) (sRet (tTup (tCons (tD (.str [])) (tCons (tD (.int 0)) (tNil))))))
abbrev N_root : List Str := ["word", "found", "size"]
theorem len_root (ds : List D) (s : Sto) (Q : C → Sto → Prop) (h : m_root ds s Q) : ds.length = 1 := by
  unfold m_root at h
  split at h
  · rfl
  · exact h.elim
theorem p_root (ds : List D) (s : Sto) (Q : C → Sto → Prop) (h : m_root ds s Q) : t_root noX { nx := fun e => Q (.d .non) e.st, rt := fun c e => Q c e.st } ⟨startC N_root ds, s⟩ := by
  unfold m_root at h
  split at h
  · rename_i w
    obtain ⟨hw, hl, q⟩ := h
    have hrl := ring_len w
    unfold t_root
    simpa?! only [e_ring]
    refine ⟨hw, hl, ?_⟩
    generalize ring w = l at q hrl
    refine ⟨⟨by omega, by omega⟩, ?_⟩
    rw [show ((l.length : Int) + 1 - 1).toNat = l.length by omega]
    refine forH_rng 1 l.length (fun j e => (∃ c2, e = ⟨[.d (.str w), .d (.str l), c2], s⟩) ∧ (l ≠ [] → j < rootK l)) ⟨⟨_, rfl⟩, fun h => by have := (rootK_spec h).1; omega⟩ ?_ ?_
    · rintro e ⟨⟨c2, rfl⟩, h⟩
      have e0 : l = [] := Decidable.byContradiction fun z => by have := h z; have := (rootK_spec z).2.1; omega
      subst e0
      simpa?! only []
      exact q
    · rintro j e hj ⟨⟨c2, rfl⟩, h⟩ N hN
      have l0 : l ≠ [] := fun z => by subst z; simp at hj
      have hlt := h l0
      obtain ⟨g1, g2, g3, g4, _⟩ := rootK_spec l0
      rw [show (1 : Int) + (j : Int) = ((j + 1 : Nat) : Int) by omega]
      have next : j + 1 ≠ rootK l → N ⟨[.d (.str w), .d (.str l), .d (.int ((j + 1 : Nat) : Int))], s⟩ := fun z => hN _ ⟨⟨_, rfl⟩, fun _ => by omega⟩
      have nofill : j + 1 ≠ rootK l → ¬ Fills l (j + 1) := fun z hf => g4 (j + 1) (by omega) (by omega) (fills_rot (by omega) (by omega) hf)
      simpa?! only []
      refine ⟨by omega, br_intro (fun hm => ?_) fun hm => ?_⟩
      · have hm : l.length % (j + 1) = 0 := by
          have := of_decide_eq_true hm
          omega
        simpa?! only [cut_take]
        have hdv : (l.length : Int) / ((j + 1 : Nat) : Int) = ((l.length / (j + 1) : Nat) : Int) := by simp
        rw [hdv]
        have hle : l.length / (j + 1) ≤ l.length := Nat.div_le_self ..
        have hprod : (l.take (j + 1)).length * (l.length / (j + 1)) ≤ l.length := by
          rw [List.length_take, Nat.min_eq_left (by omega)]
          exact Nat.mul_div_le ..
        have fil : l.length / (j + 1) = l.length / (j + 1) := rfl
        have hfill : Fills l (j + 1) ↔ (List.replicate (l.length / (j + 1)) (l.take (j + 1))).flatten = l := ⟨fun z => z.2, fun z => ⟨hm, z⟩⟩
        have hroot : j + 1 = rootK l → Q (.d (.tup [.str (l.take (j + 1)), .int ((l.length / (j + 1) : Nat) : Int)])) s := fun ek => by
          unfold rootP at q
          rw [if_neg l0, ← ek] at q
          exact q
        generalize l.length / (j + 1) = m at hle hprod hfill hroot hdv
        refine ⟨cdiv_nat (by omega) (by omega), ⟨by omega, by omega⟩, by rw [Int.toNat_natCast]; omega, ?_⟩
        rw [Int.toNat_natCast]
        by_cases hf : (List.replicate m (l.take (j + 1))).flatten = l
        · refine br_pos (decide_eq_true hf) ?_
          have ek : j + 1 = rootK l := Decidable.byContradiction fun z => nofill z (hfill.mpr hf)
          simpa?! only [cut_take]
          rw [hdv]
          exact ⟨cdiv_nat (by omega) (by omega), hroot ek⟩
        · refine br_neg (decide_eq_false hf) ?_
          simpa?! only []
          exact next fun z => hf (hfill.mp (by have := rootK_fills l0; rw [← z] at this; exact this))
      · simpa?! only []
        refine next fun z => ?_
        have := (rootK_fills l0).1
        rw [← z] at this
        have hm := of_decide_eq_false hm
        omega
  · exact h.elim
set_option maxRecDepth 100000
set_option maxHeartbeats 1000000
theorem redR_snoc (r v : List Nat) (c : Nat) : redR r (v ++ [c]) = rpush (redR r v) c := by rw [redR_app]; rfl
theorem redR_nil_W {v : List Nat} (h : IsW v) : IsW (redR [] v) := redR_W (fun c hc => by cases hc) h
theorem redR_nil_red (v : List Nat) : RedS (redR [] v) := redR_red (by trivial)
theorem snoc_ind {P : List Nat → Prop} (h0 : P []) (h1 : ∀ v c, P v → P (v ++ [c])) : ∀ w, P w := fun w => by
  have key : ∀ n (w : List Nat), w.length = n → P w := fun n => by
    induction n with
    | zero => intro w hw; rw [List.eq_nil_of_length_eq_zero hw]; exact h0
    | succ n ih =>
      intro w hw
      have hne : w ≠ [] := fun z => by subst z; simp at hw
      rw [← List.dropLast_concat_getLast hne]
      exact h1 _ _ (ih _ (by simp; omega))
  exact key _ w rfl
theorem redR_red_eq {r : List Nat} (hr : RedS r) : ∀ v, IsW v → redR r (red v) = redR r v := by
  refine snoc_ind (fun _ => rfl) fun v c ih hv => ?_
  have hvv : IsW v := fun d hd => hv d (by simp [hd])
  have hc : IsL c := hv c (by simp)
  have ih := ih hvv
  have hs := redR_nil_W hvv
  rw [redR_snoc, ← ih]
  unfold red at *
  rw [redR_snoc]
  cases e : redR [] v with
  | nil => rfl
  | cons x s =>
    rw [e] at hs
    have hx : IsL x := hs x (by simp)
    by_cases hxc : x = con c
    · have e1 : rpush (x :: s) c = s := by unfold rpush; simp only; rw [if_pos hxc]
      rw [e1, List.reverse_cons, redR_snoc, rpush_undo (redR_red hr) hx hc hxc]
    · have e1 : rpush (x :: s) c = c :: x :: s := by unfold rpush; simp only; rw [if_neg hxc]
      rw [e1, List.reverse_cons, redR_snoc]
theorem red_mid {u v w : List Nat} (hv : IsW v) : red (u ++ (red v ++ w)) = red (u ++ (v ++ w)) := by
  unfold red
  rw [redR_app, redR_app, redR_app, redR_app]
  have := redR_red_eq (redR_nil_red u) v hv
  unfold red at this
  rw [this]
theorem red_right {u v : List Nat} (hv : IsW v) : red (u ++ red v) = red (u ++ v) := by
  have := red_mid (u := u) (w := []) hv
  simpa using this
/-- one is a turn of the other -/
def Rt (a b : List Nat) : Prop := ∃ k, k ≤ a.length ∧ b = rot a k
theorem Rt.refl (a : List Nat) : Rt a a := ⟨0, by omega, by unfold rot; simp⟩
theorem Rt.of_eq {a b : List Nat} (h : a = b) : Rt a b := h ▸ Rt.refl a
theorem Rt.len {a b : List Nat} (h : Rt a b) : b.length = a.length := by obtain ⟨k, _, rfl⟩ := h; exact rot_len a k
theorem Rt.app (u v : List Nat) : Rt (u ++ v) (v ++ u) := ⟨u.length, by simp, by unfold rot; simp⟩
theorem Rt.split {a b : List Nat} (h : Rt a b) : ∃ u v, a = u ++ v ∧ b = v ++ u := by
  obtain ⟨k, _, rfl⟩ := h
  exact ⟨a.take k, a.drop k, (List.take_append_drop k a).symm, rfl⟩
theorem Rt.symm {a b : List Nat} (h : Rt a b) : Rt b a := by
  obtain ⟨u, v, rfl, rfl⟩ := h.split
  exact Rt.app v u
theorem Rt.trans {a b c : List Nat} (h : Rt a b) (g : Rt b c) : Rt a c := by
  obtain ⟨u, v, rfl, rfl⟩ := h.split
  obtain ⟨p, q, e, rfl⟩ := g.split
  rcases List.append_eq_append_iff.mp e with ⟨t, e1, e2⟩ | ⟨t, e1, e2⟩
  · subst e1
    subst e2
    have z := Rt.app t (q ++ v)
    simpa [List.append_assoc] using z
  · subst e1
    subst e2
    have z := Rt.app (u ++ p) t
    simpa [List.append_assoc] using z
theorem Rt.rot_ {a : List Nat} {k : Nat} (h : k ≤ a.length) : Rt a (rot a k) := ⟨k, h, rfl⟩
/-- the least turn hangs on the class alone -/
theorem minS_le (x : List Nat) (r : List (List Nat)) : ∀ z ∈ x :: r, ¬ z < minS x r := by
  unfold minS
  induction r generalizing x with
  | nil => intro z hz; rw [List.mem_singleton] at hz; subst hz; exact List.lt_irrefl z
  | cons y r ih =>
    intro z hz
    rw [List.foldl_cons]
    by_cases h : y < x
    · rw [if_pos h]
      rcases List.mem_cons.mp hz with rfl | hz
      · intro q
        exact ih y y (by simp) (List.lt_trans h q)
      · exact ih y z hz
    · rw [if_neg h]
      rcases List.mem_cons.mp hz with rfl | hz
      · exact ih z z (by simp)
      · rcases List.mem_cons.mp hz with rfl | hz
        · intro q
          have h2 := ih x x (by simp)
          exact h2 (List.lt_of_le_of_lt (List.not_lt.mp h) q)
        · exact ih x z (List.mem_cons_of_mem _ hz)
theorem minS_same {x y : List Nat} {r s : List (List Nat)} (h : ∀ z, z ∈ x :: r ↔ z ∈ y :: s) : minS x r = minS y s := by
  have h1 := minS_le x r (minS y s) ((h _).mpr (minS_mem y s))
  have h2 := minS_le y s (minS x r) ((h _).mp (minS_mem x r))
  exact List.le_antisymm (List.not_lt.mp h1) (List.not_lt.mp h2)
theorem mem_rotL {l z : List Nat} (h : l ≠ []) : z ∈ rotL l ↔ Rt l z := by
  unfold rotL
  have hp := List.length_pos_iff.mpr h
  constructor
  · intro hz
    obtain ⟨k, hk, rfl⟩ := List.mem_map.mp hz
    exact Rt.rot_ (by have := List.mem_range.mp hk; omega)
  · rintro ⟨k, hk, rfl⟩
    by_cases e : k = l.length
    · refine List.mem_map.mpr ⟨0, List.mem_range.mpr hp, ?_⟩
      rw [e, rot_full]
      unfold rot
      simp
    · exact List.mem_map.mpr ⟨k, List.mem_range.mpr (by omega), rfl⟩
theorem ringL_same {a b : List Nat} (h : Rt a b) : ringL a = ringL b := by
  by_cases ha : a = []
  · subst ha
    have := h.len
    rw [List.eq_nil_of_length_eq_zero this]
  · have hb : b ≠ [] := fun z => by
      have := h.len
      rw [z] at this
      exact ha (List.eq_nil_of_length_eq_zero this.symm)
    obtain ⟨x, r, e1, e2⟩ := rotL_cons ha
    obtain ⟨y, s, e3, e4⟩ := rotL_cons hb
    rw [e2, e4]
    refine minS_same fun z => ?_
    rw [← e1, ← e3, mem_rotL ha, mem_rotL hb]
    exact ⟨fun g => h.symm.trans g, fun g => h.trans g⟩
def core (w : List Nat) : List Nat := cyc (red w)
theorem ring_core (w : List Nat) : ring w = ringL (core w) := rfl
theorem noadj_snoc {s : List Nat} {a : Nat} (h : NoAdj s) (hl : ∀ b, s.getLast? = some b → b ≠ con a) : NoAdj (s ++ [a]) := by
  induction s with
  | nil => trivial
  | cons x s ih =>
    cases s with
    | nil => exact ⟨hl x rfl, trivial⟩
    | cons y s => exact ⟨h.1, ih h.2 fun b hb => hl b (by rw [List.getLast?_cons_cons]; exact hb)⟩
theorem noadj_cons {s : List Nat} {a : Nat} (h : NoAdj s) (hh : ∀ b, s.head? = some b → a ≠ con b) : NoAdj (a :: s) := by
  cases s with
  | nil => trivial
  | cons x s => exact ⟨hh x rfl, h⟩
theorem noadj_tail {a : Nat} {s : List Nat} (h : NoAdj (a :: s)) : NoAdj s := by
  cases s with
  | nil => trivial
  | cons b s => exact h.2
theorem noadj_init {s : List Nat} {a : Nat} (h : NoAdj (s ++ [a])) : NoAdj s := by
  refine noadj_of fun k x y hx hy => ?_
  have h1 := (List.getElem?_eq_some_iff.mp hy).1
  exact noadj_get h k x y (by rw [List.getElem?_append_left (by omega)]; exact hx) (by rw [List.getElem?_append_left h1]; exact hy)
theorem cyc_stop {v : List Nat} (h : ∀ a b, v.head? = some a → v.getLast? = some b → 1 < v.length → a ≠ con b) : cyc v = v := by
  by_cases h1 : 1 < v.length
  · obtain ⟨a, b, ha, hb, _, _⟩ := ends_of (v := v) (by omega)
    exact cyc_out ha hb (h a b ha hb h1)
  · exact cyc_one h1
theorem last_snoc (l : List Nat) (a : Nat) : (l ++ [a]).getLast? = some a := by simp
/-- a letter put round a word that cannot be shortened -/
theorem conj_one {a : Nat} {r : List Nat} (ha : IsL a) (hr : IsW r) (hn : NoAdj r) : Rt (cyc r) (cyc (red (con a :: (r ++ [a])))) := by
  have hca := con_L ha
  have pair : ∀ u v : List Nat, red (u ++ con a :: a :: v) = red (u ++ v) := fun u v => red_pair hca ha rfl
  have pair' : ∀ u v : List Nat, red (u ++ a :: con a :: v) = red (u ++ v) := fun u v => red_pair ha hca (con_con ha).symm
  by_cases h0 : r = []
  · subst h0
    have := pair [] []
    simp only [List.nil_append] at this
    show Rt _ (cyc (red [con a, a]))
    rw [this]
    exact .of_eq rfl
  cases r with
  | nil => exact absurd rfl h0
  | cons h s =>
  have hh : IsL h := hr h (by simp)
  have hs : IsW s := fun c hc => hr c (List.mem_cons_of_mem _ hc)
  by_cases e : h = a
  · subst e
    have e1 : red (con h :: ((h :: s) ++ [h])) = red (s ++ [h]) := pair [] (s ++ [h])
    rw [e1]
    by_cases l : ∃ m, s = m ++ [con h]
    · obtain ⟨m, rfl⟩ := l
      have hm : NoAdj m := noadj_init (noadj_tail hn)
      have e2 : red (m ++ [con h] ++ [h]) = m := by
        have := pair m []
        rw [List.append_nil] at this
        rw [List.append_assoc]
        show red (m ++ con h :: [h]) = m
        rw [this, red_noadj hm]
      rw [e2]
      have e3 : cyc (h :: (m ++ [con h])) = cyc m := by
        rw [cyc_in (v := h :: (m ++ [con h])) (a := h) (b := con h) (by simp) rfl (last_snoc (h :: m) (con h)) (con_con hh).symm]
        congr 1
        simp
      rw [e3]
      exact .refl _
    · have hlast : ∀ b, s.getLast? = some b → b ≠ con h := fun b hb z => by
        have hne : s ≠ [] := fun y => by subst y; cases hb
        have g := List.dropLast_concat_getLast hne
        rw [List.getLast?_eq_some_getLast hne] at hb
        have hb : s.getLast hne = b := by simpa using hb
        rw [hb, z] at g
        exact l ⟨_, g.symm⟩
      have hns := noadj_snoc (noadj_tail hn) hlast
      rw [red_noadj hns]
      have c1 : cyc (h :: s) = h :: s := cyc_stop fun x b hx hb hl => by
        have hx : h = x := by simpa using hx
        subst hx
        cases s with
        | nil => simp at hl
        | cons y s =>
          rw [List.getLast?_cons_cons] at hb
          have hbl : IsL b := hs b (List.mem_of_getLast? hb)
          intro z
          exact hlast b hb (by rw [z, con_con hbl])
      have c2 : cyc (s ++ [h]) = s ++ [h] := cyc_stop fun x b hx hb hl => by
        have hb : h = b := by simpa using hb
        subst hb
        cases s with
        | nil => simp at hl
        | cons y s =>
          have hx : y = x := by simpa using hx
          subst hx
          have hy : IsL y := hs y (by simp)
          intro z
          exact hn.1 (by rw [z, con_con hh])
      rw [c1, c2]
      exact Rt.app [h] s
  · by_cases l : ∃ m, h :: s = m ++ [con a]
    · obtain ⟨m, hm⟩ := l
      have hmW : IsW m := fun c hc => hr c (by rw [hm]; simp [hc])
      have e2 : red (con a :: ((h :: s) ++ [a])) = red (con a :: m) := by
        rw [hm]
        have := pair (con a :: m) []
        rw [List.append_nil] at this
        rw [List.append_assoc]
        exact this
      have hnm : NoAdj m := noadj_init (by rw [← hm]; exact hn)
      have hc : NoAdj (con a :: m) := noadj_cons hnm fun b hb z => by
        cases m with
        | nil => cases hb
        | cons y m =>
          have hy : y = b := by simpa using hb
          subst hy
          have hy : h = y := by simpa using congrArg List.head? hm
          subst hy
          exact e (con_inj ha hh z).symm
      rw [e2, red_noadj hc, hm]
      have c1 : cyc (m ++ [con a]) = m ++ [con a] := cyc_stop fun x b hx hb hl => by
        have hb : con a = b := by simpa using hb
        subst hb
        rw [con_con ha]
        rw [← hm] at hx
        have hx : h = x := by simpa using hx
        rw [← hx]
        exact e
      have c2 : cyc (con a :: m) = con a :: m := cyc_stop fun x b hx hb hl => by
        have hx : con a = x := by simpa using hx
        subst hx
        cases m with
        | nil => simp at hl
        | cons y m =>
          rw [List.getLast?_cons_cons] at hb
          have hbl : IsL b := hmW b (List.mem_of_getLast? hb)
          intro z
          have hab := con_inj ha hbl z
          have hne : (y :: m) ≠ [] := by simp
          have g := List.dropLast_concat_getLast hne
          rw [List.getLast?_eq_some_getLast hne] at hb
          have hb : (y :: m).getLast hne = b := by simpa using hb
          rw [hb, ← hab] at g
          rw [hm, ← g] at hn
          refine noadj_get hn (y :: m).dropLast.length a (con a) ?_ ?_ (con_con ha).symm
          · rw [List.append_assoc, List.getElem?_append_right (by omega)]; simp
          · rw [List.append_assoc, List.getElem?_append_right (by omega)]; simp
      rw [c1, c2]
      exact Rt.app m [con a]
    · have hlast : ∀ b, (h :: s).getLast? = some b → b ≠ con a := fun b hb z => by
        have hne : (h :: s) ≠ [] := by simp
        have g := List.dropLast_concat_getLast hne
        rw [List.getLast?_eq_some_getLast hne] at hb
        have hb : (h :: s).getLast hne = b := by simpa using hb
        rw [hb, z] at g
        exact l ⟨_, g.symm⟩
      have h1 := noadj_snoc hn hlast
      have h2 : NoAdj (con a :: ((h :: s) ++ [a])) := noadj_cons h1 fun b hb z => by
        have hb : h = b := by simpa using hb
        subst hb
        exact e (con_inj ha hh z).symm
      rw [red_noadj h2]
      have c2 : cyc (con a :: ((h :: s) ++ [a])) = cyc (h :: s) := by
        rw [cyc_in (v := con a :: ((h :: s) ++ [a])) (a := con a) (b := a) (by simp) rfl (last_snoc (con a :: h :: s) a) rfl]
        congr 1
        exact List.dropLast_concat (l₁ := h :: s) (b := a)
      rw [c2]
      exact .refl _
theorem core_rot1 {a : Nat} {t : List Nat} (h : IsW (a :: t)) : Rt (core (a :: t)) (core (t ++ [a])) := by
  have ha : IsL a := h a (by simp)
  have hc := conj_one (r := red (a :: t)) ha (red_W h) (red_noadj' h)
  have e : red (con a :: (red (a :: t) ++ [a])) = red (t ++ [a]) := by
    have h1 := red_mid (u := [con a]) (v := a :: t) (w := [a]) h
    rw [List.singleton_append, List.singleton_append] at h1
    rw [h1]
    exact red_pair (u := []) (v := t ++ [a]) (con_L ha) ha rfl
  rw [e] at hc
  exact hc
theorem core_conj : ∀ (u v : List Nat), IsW (u ++ v) → Rt (core (u ++ v)) (core (v ++ u))
  | [], v, _ => by simp; exact .refl _
  | a :: u, v, h => by
    have h1 := core_rot1 (a := a) (t := u ++ v) h
    have hW : IsW (u ++ (v ++ [a])) := fun c hc => h c (by simp at hc ⊢; rcases hc with z | z | z <;> simp [z])
    have h2 := core_conj u (v ++ [a]) hW
    rw [← List.append_assoc] at h2
    have h3 := h1.trans h2
    rw [List.append_assoc] at h3
    exact h3
theorem ring_conj {u v : List Nat} (h : IsW (u ++ v)) : ring (u ++ v) = ring (v ++ u) := by
  rw [ring_core, ring_core]
  exact ringL_same (core_conj u v h)
theorem ring_rot {a b : List Nat} (h : IsW a) (r : Rt a b) : ring a = ring b := by
  obtain ⟨u, v, rfl, rfl⟩ := r.split
  exact ring_conj h
set_option maxRecDepth 100000
set_option maxHeartbeats 1000000
theorem turn_snoc (v : List Nat) (c : Nat) : turn (v ++ [c]) = con c :: turn v := by rw [turn_app]; rfl
theorem turn_get {v : List Nat} {k : Nat} (hk : k < v.length) : (turn v)[k]? = (v[v.length - 1 - k]?).map con := by
  unfold turn
  rw [List.getElem?_reverse (by simpa using hk), List.length_map, List.getElem?_map]
theorem noadj_turn {v : List Nat} (hv : IsW v) (h : NoAdj v) : NoAdj (turn v) := by
  refine noadj_of fun k x y hx hy => ?_
  have hk : k + 1 < v.length := by
    have := (List.getElem?_eq_some_iff.mp hy).1
    rwa [turn_len] at this
  rw [turn_get (by omega)] at hx hy
  obtain ⟨a, ha, rfl⟩ := Option.map_eq_some_iff.mp hx
  obtain ⟨b, hb, rfl⟩ := Option.map_eq_some_iff.mp hy
  have e : v.length - 1 - (k + 1) + 1 = v.length - 1 - k := by omega
  have g := noadj_get h (v.length - 1 - (k + 1)) b a hb (by rw [e]; exact ha)
  have hbl := hv b (List.mem_of_getElem? hb)
  intro z
  rw [con_con hbl] at z
  exact g z.symm
theorem red_turn' : ∀ w, IsW w → red (turn w) = red (turn (red w)) := by
  refine snoc_ind (fun _ => rfl) fun v c ih hv => ?_
  have hvv : IsW v := fun d hd => hv d (by simp [hd])
  have hc : IsL c := hv c (by simp)
  have ih := ih hvv
  have hs := redR_nil_W hvv
  have step : red (turn (v ++ [c])) = red (con c :: turn (red v)) := by
    rw [turn_snoc]
    have h1 := red_right (u := [con c]) (v := turn v) (turn_W hvv)
    have h2 := red_right (u := [con c]) (v := turn (red v)) (turn_W (red_W hvv))
    rw [ih, h2] at h1
    exact h1.symm
  rw [step]
  have e0 : red v = (redR [] v).reverse := rfl
  have e1 : red (v ++ [c]) = (rpush (redR [] v) c).reverse := by unfold red; rw [redR_snoc]
  rw [e0, e1]
  cases e : redR [] v with
  | nil => rfl
  | cons x s =>
    rw [e] at hs
    have hx : IsL x := hs x (by simp)
    by_cases hxc : x = con c
    · have e2 : rpush (x :: s) c = s := by unfold rpush; simp only; rw [if_pos hxc]
      rw [e2, List.reverse_cons, turn_snoc]
      exact red_pair (u := []) (con_L hc) (con_L hx) (by rw [hxc, con_con hc])
    · have e2 : rpush (x :: s) c = c :: x :: s := by unfold rpush; simp only; rw [if_neg hxc]
      rw [e2, List.reverse_cons (a := c), turn_snoc]
theorem red_turn {w : List Nat} (h : IsW w) : red (turn w) = turn (red w) := by
  rw [red_turn' w h, red_noadj (noadj_turn (red_W h) (red_noadj' h))]
theorem head_turn {v : List Nat} : (turn v).head? = v.getLast?.map con := by unfold turn; rw [List.head?_reverse, List.getLast?_map]
theorem last_turn {v : List Nat} : (turn v).getLast? = v.head?.map con := by unfold turn; rw [List.getLast?_reverse, List.head?_map]
theorem inner_turn (v : List Nat) : (turn v).tail.dropLast = turn v.tail.dropLast := by
  unfold turn
  rw [List.tail_reverse, List.dropLast_reverse, List.map_dropLast, List.map_tail]
  rw [List.tail_dropLast]
theorem cyc_turn {v : List Nat} (h : IsW v) : cyc (turn v) = turn (cyc v) := by
  generalize hn : v.length = n
  induction n using Nat.strongRecOn generalizing v with
  | _ n ih =>
    by_cases h1 : 1 < v.length
    · obtain ⟨a, b, ha, hb, ma, mb⟩ := ends_of (v := v) (by omega)
      have hal := h a ma
      have hbl := h b mb
      have ha' : (turn v).head? = some (con b) := by rw [head_turn, hb]; rfl
      have hb' : (turn v).getLast? = some (con a) := by rw [last_turn, ha]; rfl
      by_cases e : a = con b
      · rw [cyc_in h1 ha hb e, cyc_in (by rw [turn_len]; exact h1) ha' hb' (by rw [con_con hal, e]), inner_turn]
        exact ih _ (by simp; omega) (inner_W h) rfl
      · rw [cyc_out ha hb e, cyc_out ha' hb' (by rw [con_con hal]; exact fun z => e z.symm)]
    · rw [cyc_one h1, cyc_one (by rw [turn_len]; exact h1)]
theorem core_turn {w : List Nat} (h : IsW w) : core (turn w) = turn (core w) := by
  unfold core
  rw [red_turn h, cyc_turn (red_W h)]
theorem core_idem {w : List Nat} (h : IsW w) : core (core w) = core w := cyc_red_cyc h
theorem core_Wc {w : List Nat} (h : IsW w) : IsW (core w) := core_W h
theorem rt_ring (w : List Nat) : Rt (core w) (ring w) := by
  rw [ring_core]
  by_cases e : core w = []
  · rw [e]; exact .of_eq rfl
  · obtain ⟨k, hk, hr⟩ := ringL_rot e
    rw [hr]
    exact Rt.rot_ (by omega)
theorem ring_of_core {w : List Nat} (h : IsW w) : ring (core w) = ring w := by rw [ring_core, core_idem h, ← ring_core]
theorem ring_ring {w : List Nat} (h : IsW w) : ring (ring w) = ring w := by
  rw [← ring_rot (core_Wc h) (rt_ring w), ring_of_core h]
theorem Rt.turn {a b : List Nat} (h : Rt a b) : Rt (turn a) (turn b) := by
  obtain ⟨u, v, rfl, rfl⟩ := h.split
  rw [turn_app, turn_app]
  exact Rt.app _ _
theorem ring_turn_core {w : List Nat} (h : IsW w) : ring (turn (core w)) = ring (turn w) := by
  rw [ring_core, ring_core, core_turn (core_Wc h), core_idem h, core_turn h]
theorem ring_turn_ring {w : List Nat} (h : IsW w) : ring (turn (ring w)) = ring (turn w) := by
  rw [← ring_rot (turn_W (core_Wc h)) (rt_ring w).turn, ring_turn_core h]
def minT (x y : List Nat) : List Nat := if y < x then y else x
theorem minT_comm (x y : List Nat) : minT x y = minT y x := by
  unfold minT
  by_cases h : y < x
  · rw [if_pos h, if_neg (fun z => List.lt_irrefl x (List.lt_trans z h))]
  · rw [if_neg h]
    by_cases g : x < y
    · rw [if_pos g]
    · rw [if_neg g]
      exact List.le_antisymm (List.not_lt.mp h) (List.not_lt.mp g)
theorem loop_min (w : List Nat) : loop w = minT (ring w) (ring (turn w)) := rfl
theorem loop_turn {w : List Nat} (h : IsW w) : loop (turn w) = loop w := by
  rw [loop_min, loop_min, turn_turn h, minT_comm]
theorem loop_ring {w : List Nat} (h : IsW w) : loop (ring w) = loop w := by
  rw [loop_min, loop_min, ring_ring h, ring_turn_ring h]
theorem loop_loop {w : List Nat} (h : IsW w) : loop (loop w) = loop w := by
  have e : loop w = ring w ∨ loop w = ring (turn w) := by
    unfold loop
    split
    · exact .inr rfl
    · exact .inl rfl
  rcases e with e | e
  · conv => lhs; rw [e]
    exact loop_ring h
  · conv => lhs; rw [e]
    rw [loop_ring (turn_W h), loop_turn h]
set_option maxRecDepth 100000
set_option maxHeartbeats 1000000
set_option maxRecDepth 100000
set_option maxHeartbeats 1000000
theorem rootK_eq {l : List Nat} {k : Nat} (hl : l ≠ []) (h1 : 1 ≤ k) (h2 : k ≤ l.length) (h3 : rot l k = l) (h4 : ∀ j, 1 ≤ j → j < k → rot l j ≠ l) : rootK l = k := by
  obtain ⟨g1, g2, g3, g4, _⟩ := rootK_spec hl
  rcases Nat.lt_trichotomy (rootK l) k with h | h | h
  · exact absurd g3 (h4 _ g1 h)
  · exact h
  · exact absurd h3 (g4 k h1 h)
theorem per_rot {l : List Nat} {j k : Nat} (hj : j ≤ l.length) (h : Per (rot l j) k) : Per l k := fun i hi => by
  have hn : 0 < l.length := by omega
  have hlen := rot_len l j
  have hi2 : (i + (l.length - j)) % l.length < l.length := Nat.mod_lt _ hn
  have := h ((i + (l.length - j)) % l.length) (by rw [hlen]; exact hi2)
  rw [hlen, Nat.mod_add_mod, rot_get hj (Nat.mod_lt _ hn), rot_get hj hi2, Nat.mod_add_mod, Nat.mod_add_mod] at this
  have e1 : (i + (l.length - j) + k + j) % l.length = (i + k) % l.length := by
    have : i + (l.length - j) + k + j = i + k + l.length := by omega
    rw [this, Nat.add_mod_right]
  have e2 : (i + (l.length - j) + j) % l.length = i := by
    have : i + (l.length - j) + j = i + l.length := by omega
    rw [this, Nat.add_mod_right, Nat.mod_eq_of_lt hi]
  rw [e1, e2] at this
  exact this
theorem rootK_rt {a b : List Nat} (h : Rt a b) : rootK a = rootK b := by
  by_cases ha : a = []
  · subst ha
    have := h.len
    rw [List.eq_nil_of_length_eq_zero this]
  · have hb : b ≠ [] := fun z => by
      have := h.len
      rw [z] at this
      exact ha (List.eq_nil_of_length_eq_zero this.symm)
    obtain ⟨j, hj, hr⟩ := h
    obtain ⟨i, hi, hr2⟩ := Rt.symm ⟨j, hj, hr⟩
    have hlen : b.length = a.length := by rw [hr, rot_len]
    obtain ⟨g1, g2, g3, g4, _⟩ := rootK_spec hb
    refine rootK_eq ha g1 (by omega) ?_ fun k h1 h2 h3 => ?_
    · exact (per_iff (by omega)).mpr (per_rot hj (by rw [← hr]; exact (per_iff g2).mp g3))
    · refine g4 k h1 h2 ((per_iff (by omega)).mpr (per_rot hi (by rw [← hr2]; exact (per_iff (by omega)).mp h3)))
set_option maxRecDepth 100000
set_option maxHeartbeats 1000000
theorem CrW.W {y w : List Nat} (hy : YardOk y) (h : CrW y w) : IsW w := fun c hc => hy.let_ c (h.mem c hc)
theorem CrW.core_ {y w : List Nat} (hy : YardOk y) (h : CrW y w) : core w = w := by
  have hW := h.W hy
  have hn : NoAdj w := noadj_of fun k a b h1 h2 e => by
    have ha := hW a (List.mem_of_getElem? h1)
    have hb := hW b (List.mem_of_getElem? h2)
    exact h.adj h1 h2 (by rw [e, con_con hb])
  unfold core
  rw [red_noadj hn]
  refine cyc_stop fun a b h1 h2 h3 => ?_
  rw [List.head?_eq_getElem?] at h1
  rw [List.getLast?_eq_getElem?] at h2
  exact h.ends h1 h2
theorem CrW.ring_ {y w : List Nat} (hy : YardOk y) (h : CrW y w) : ring w = ringL w := by rw [ring_core, h.core_ hy]
/-- how often a word goes round its root -/
def tm (w : List Nat) : Nat := w.length / rootK w
theorem rt_ringL {w : List Nat} (h : w ≠ []) : Rt w (ringL w) := by
  obtain ⟨k, hk, e⟩ := ringL_rot h
  rw [e]
  exact Rt.rot_ (by omega)
theorem CrW.rootP_ {y w : List Nat} (hy : YardOk y) (h : CrW y w) : rootP (ring w) = .tup [.str ((ringL w).take (rootK w)), .int ((tm w : Nat) : Int)] := by
  have h0 : ringL w ≠ [] := fun z => by
    have := ringL_len w
    rw [z] at this
    exact h.ne (List.eq_nil_of_length_eq_zero this.symm)
  rw [h.ring_ hy]
  unfold rootP tm
  rw [if_neg h0, ringL_len, rootK_rt (rt_ringL h.ne)]
/-- the least number of meetings -/
def lst (y : List Nat) (ws : List (List Nat)) : Int := ((allTh y ws).length : Nat) + (ws.map fun w => ((tm w : Nat) : Int) - 1).sum
/-- how many forced meetings are between two -/
def btw (y v w : List Nat) : Nat := (rowI y [v, w] 0 1).length
theorem gr_swap {y : List Nat} {a b c : Nat} (ha : a ∈ y) (hb : b ∈ y) (hc : c ∈ y) (h1 : a ≠ b) (h2 : b ≠ c) (h3 : a ≠ c) : gr y b a c = !gr y a b c := by
  have i1 : ixOf a y ≠ ixOf b y := fun z => h1 (ixOf_inj ha hb z)
  have i2 : ixOf b y ≠ ixOf c y := fun z => h2 (ixOf_inj hb hc z)
  have i3 : ixOf a y ≠ ixOf c y := fun z => h3 (ixOf_inj ha hc z)
  unfold gr
  rw [← cyc3_turn (ixOf b y) (ixOf a y) (ixOf c y), cyc3_swap i1 i2 i3]
theorem con_inj' {a b : Nat} (ha : IsL a) (hb : IsL b) (h : con a = con b) : a = b := by rw [← con_con ha, ← con_con hb, h]
/-- a line through a yard: no letter behind its contrary -/
structure Wk (y : List Nat) (f : Int → Nat) : Prop where
  yd : YardOk y
  mem : ∀ k, f k ∈ y
  cr : ∀ k, f (k + 1) ≠ con (f k)
theorem Wk.L {y : List Nat} {f : Int → Nat} (h : Wk y f) (k : Int) : IsL (f k) := h.yd.let_ _ (h.mem k)
theorem Wk.cmem {y : List Nat} {f : Int → Nat} (h : Wk y f) (k : Int) : con (f k) ∈ y := h.yd.con_ _ (h.mem k)
theorem Wk.cr' {y : List Nat} {f : Int → Nat} (h : Wk y f) (k : Int) : con (f (k - 1)) ≠ f k := fun e => by
  have := h.cr (k - 1)
  rw [Int.sub_add_cancel] at this
  exact this e.symm
theorem CrW.fwd_ {y w : List Nat} (hy : YardOk y) (h : CrW y w) (i : Int) : Wk y (fwd w i) :=
  ⟨hy, fun k => h.at _, fun k => by unfold fwd; rw [show i + (k + 1) = i + k + 1 from by omega]; exact h.cr _⟩
theorem CrW.bwd_ {y w : List Nat} (hy : YardOk y) (h : CrW y w) (j : Int) : Wk y (bwd w j) :=
  ⟨hy, fun k => hy.con_ _ (h.at _), fun k e => by
    unfold bwd at e
    rw [con_con (hy.let_ _ (h.at _))] at e
    have := h.cr (j - (k + 1))
    rw [show j - (k + 1) + 1 = j - k from by omega] at this
    exact this e.symm⟩
structure Meet (y : List Nat) (f g : Int → Nat) (m : Nat) : Prop where
  pos : 1 ≤ m
  same : ∀ j : Nat, j < m → f j = g j
  ahead : f (m : Nat) ≠ g (m : Nat)
  back : f (-1) ≠ g (-1)
  turn : gr y (con (f (-1))) (con (g (-1))) (f 0) = gr y (f (m : Nat)) (g (m : Nat)) (con (f ((m : Int) - 1)))
theorem meet_of {y : List Nat} {f g : Int → Nat} {n m : Nat} (hn : agree f g n = n → f (-1) = g (-1)) : (mt3 y f g n = m ∧ 0 < m) ↔ Meet y f g m := by
  obtain ⟨a1, a2, a3⟩ := agree_spec f g n
  constructor
  · rintro ⟨e, h0⟩
    unfold mt3 at e
    split at e
    · omega
    · rename_i h
      split at e
      · rename_i ht
        rw [Nat.mul_one] at e
        have hb : f (-1) ≠ g (-1) := fun z => h (.inr z)
        have hlt : agree f g n < n := Nat.lt_of_le_of_ne a1 fun z => hb (hn z)
        rw [e] at a2 a3 hlt ht
        exact ⟨h0, a2, a3 hlt, hb, ht⟩
      · omega
  · intro h
    have hm : m ≤ n := Decidable.byContradiction fun z => by
      refine h.back (hn ?_)
      exact agree_unique (Nat.le_refl _) (fun j hj => h.same j (by omega)) (fun z => absurd z (Nat.lt_irrefl _))
    have e := agree_unique hm h.same fun _ => h.ahead
    refine ⟨?_, h.pos⟩
    unfold mt3
    rw [e, if_neg (by rintro (z | z); exact absurd z (by have := h.pos; omega); exact h.back z), if_pos h.turn, Nat.mul_one]
theorem Meet.symm {y : List Nat} {f g : Int → Nat} {m : Nat} (hf : Wk y f) (hg : Wk y g) (h : Meet y f g m) : Meet y g f m := by
  have s0 : f 0 = g 0 := h.same 0 h.pos
  have s1 : f ((m : Int) - 1) = g ((m : Int) - 1) := by
    have := h.same (m - 1) (by have := h.pos; omega)
    rw [show (((m - 1 : Nat)) : Int) = (m : Int) - 1 from by have := h.pos; omega] at this
    exact this
  refine ⟨h.pos, fun j hj => (h.same j hj).symm, fun z => h.ahead z.symm, fun z => h.back z.symm, ?_⟩
  have fb := hf.cr' 0
  have gb := hg.cr' 0
  have fm := hf.cr' (m : Nat)
  have gm := hg.cr' (m : Nat)
  rw [show (0 : Int) - 1 = -1 from rfl] at fb gb
  rw [gr_swap (hf.cmem _) (hg.cmem _) (hg.mem _) (fun z => h.back (con_inj' (hf.L _) (hg.L _) z)) gb (by rw [← s0]; exact fb)]
  rw [gr_swap (hf.mem _) (hg.mem _) (hg.cmem _) h.ahead (fun z => gm z.symm) (by rw [← s1]; exact fun z => fm z.symm)]
  rw [← s0, ← s1, h.turn]
/-- a line gone the other way, from m on -/
def rv_ (f : Int → Nat) (m : Nat) (k : Int) : Nat := con (f ((m : Int) - 1 - k))
theorem Meet.rev {y : List Nat} {f g : Int → Nat} {m : Nat} (hf : Wk y f) (hg : Wk y g) (h : Meet y f g m) : Meet y (rv_ f m) (rv_ g m) m := by
  refine ⟨h.pos, fun j hj => ?_, fun z => ?_, fun z => ?_, ?_⟩
  · unfold rv_
    rw [show (m : Int) - 1 - (j : Int) = ((m - 1 - j : Nat) : Int) from by omega, h.same _ (by omega)]
  · unfold rv_ at z
    rw [show (m : Int) - 1 - (m : Int) = -1 from by omega] at z
    exact h.back (con_inj' (hf.L _) (hg.L _) z)
  · unfold rv_ at z
    rw [show (m : Int) - 1 - (-1) = (m : Int) from by omega] at z
    exact h.ahead (con_inj' (hf.L _) (hg.L _) z)
  · unfold rv_
    rw [show (m : Int) - 1 - (-1) = (m : Int) from by omega, show (m : Int) - 1 - (m : Int) = -1 from by omega, show (m : Int) - 1 - ((m : Int) - 1) = 0 from by omega, show (m : Int) - 1 - 0 = (m : Int) - 1 from by omega]
    rw [con_con (hf.L _), con_con (hg.L _), con_con (hf.L _), h.turn]
theorem along_iff {y w v : List Nat} (hw : w ≠ []) (hv : v ≠ []) {i j : Int} {m : Nat} : (along y w i v j = m ∧ 0 < m) ↔ Meet y (fwd w i) (fwd v j) m := meet_of (never_along hw hv i j)
theorem against_iff {y w v : List Nat} (hw : w ≠ []) (hv : v ≠ []) {i j : Int} {m : Nat} : (against y w i v j = m ∧ 0 < m) ↔ Meet y (fwd w i) (bwd v j) m := meet_of (never_against hw hv i j)
theorem along_symm {y w v : List Nat} (hy : YardOk y) (hw : CrW y w) (hv : CrW y v) {i j : Int} (h : 0 < along y w i v j) : along y v j w i = along y w i v j := by
  have m := (along_iff hw.ne hv.ne).mp ⟨rfl, h⟩
  exact ((along_iff hv.ne hw.ne).mpr (m.symm (hw.fwd_ hy i) (hv.fwd_ hy j))).1
theorem against_symm {y w v : List Nat} (hy : YardOk y) (hw : CrW y w) (hv : CrW y v) {i j : Int} {m : Nat} (h : against y w i v j = m) (h0 : 0 < m) : against y v (j - m + 1) w (i + m - 1) = m := by
  have M := (against_iff hw.ne hv.ne).mp ⟨h, h0⟩
  have M2 := (M.rev (hw.fwd_ hy i) (hv.bwd_ hy j))
  have e1 : rv_ (fwd w i) m = bwd w (i + m - 1) := by
    funext k
    unfold rv_ fwd bwd
    rw [show i + ((m : Int) - 1 - k) = i + m - 1 - k from by omega]
  have e2 : rv_ (bwd v j) m = fwd v (j - m + 1) := by
    funext k
    unfold rv_ fwd bwd
    rw [con_con (hy.let_ _ (hv.at _)), show j - ((m : Int) - 1 - k) = j - m + 1 + k from by omega]
  rw [e1, e2] at M2
  exact ((against_iff hv.ne hw.ne).mpr (M2.symm (hw.bwd_ hy _) (hv.fwd_ hy _))).1
theorem fwd_mod (w : List Nat) (i : Int) : fwd w (i % (w.length : Int)) = fwd w i := by
  funext k
  unfold fwd lr
  rw [Int.emod_add_emod]
theorem bwd_mod (w : List Nat) (i : Int) : bwd w (i % (w.length : Int)) = bwd w i := by
  funext k
  unfold bwd lr
  rw [Int.emod_sub_emod]
theorem against_mod (y w v : List Nat) (i j : Int) : against y w (i % (w.length : Int)) v (j % (v.length : Int)) = against y w i v j := by
  unfold against
  rw [fwd_mod, bwd_mod]
theorem cross4 {a b p q : Nat} (h1 : a ≠ b) (h2 : a ≠ p) (h3 : a ≠ q) (h4 : b ≠ p) (h5 : b ≠ q) (h6 : p ≠ q) : (cyc3 p a q != cyc3 p b q) = (cyc3 a p b != cyc3 a q b) := by
  have key : ∀ x y z w : Bool, ((x = true ↔ y = true) ↔ (z = true ↔ w = true)) → (x != y) = (z != w) := by decide
  refine key _ _ _ _ ?_
  unfold cyc3
  simp only [decide_eq_true_eq]
  omega
theorem across_symm {y w v : List Nat} (hy : YardOk y) (hw : CrW y w) (hv : CrW y v) (i j : Int) : across y v j w i = across y w i v j := by
  have c1 := hw.cr' i
  have c2 := hv.cr' j
  have m1 := hy.con_ _ (hw.at (i - 1))
  have m2 := hw.at i
  have m3 := hy.con_ _ (hv.at (j - 1))
  have m4 := hv.at j
  unfold across
  generalize con (lr w (i - 1)) = a at *
  generalize lr w i = b at *
  generalize con (lr v (j - 1)) = p at *
  generalize lr v j = q at *
  by_cases h : p = a ∨ p = b ∨ q = a ∨ q = b ∨ p = q
  · rw [if_pos h, if_pos]
    rcases h with h | h | h | h | h
    · exact .inl h.symm
    · exact .inr (.inr (.inl h.symm))
    · exact .inr (.inl h.symm)
    · exact .inr (.inr (.inr (.inl h.symm)))
    · exact absurd h.symm c2
  · rw [if_neg h, if_neg (by rintro (z | z | z | z | z); exact h (.inl z.symm); exact h (.inr (.inr (.inl z.symm))); exact h (.inr (.inl z.symm)); exact h (.inr (.inr (.inr (.inl z.symm)))); exact c1 z.symm)]
    have ne : ∀ {x z : Nat}, x ∈ y → z ∈ y → x ≠ z → ixOf x y ≠ ixOf z y := fun hx hz h e => h (ixOf_inj hx hz e)
    exact cross4 (ne m1 m2 fun z => c1 z.symm) (ne m1 m3 fun z => h (.inl z.symm)) (ne m1 m4 fun z => h (.inr (.inr (.inl z.symm)))) (ne m2 m3 fun z => h (.inr (.inl z.symm))) (ne m2 m4 fun z => h (.inr (.inr (.inr (.inl z.symm))))) (ne m3 m4 fun z => c2 z.symm)
def prs (n m : Nat) : List (Nat × Nat) := (List.range n).flatMap fun i => (List.range m).map fun j => (i, j)
theorem prs_mem {n m : Nat} {p : Nat × Nat} : p ∈ prs n m ↔ p.1 < n ∧ p.2 < m := by
  unfold prs
  simp only [List.mem_flatMap, List.mem_map, List.mem_range]
  constructor
  · rintro ⟨i, hi, j, hj, rfl⟩; exact ⟨hi, hj⟩
  · rintro ⟨h1, h2⟩; exact ⟨p.1, h1, p.2, h2, rfl⟩
theorem prs_nodup (n m : Nat) : (prs n m).Nodup := by
  unfold prs
  rw [List.nodup_iff_pairwise_ne, List.pairwise_flatMap]
  refine ⟨fun i _ => ?_, ?_⟩
  · rw [List.pairwise_map]
    exact (List.nodup_range (n := m)).imp fun h z => h (by injection z)
  · refine (List.nodup_range (n := n)).imp fun {a b} h x hx y hy z => ?_
    obtain ⟨j, _, rfl⟩ := List.mem_map.mp hx
    obtain ⟨k, _, rfl⟩ := List.mem_map.mp hy
    injection z with z1
    exact h z1
theorem nodup_leP {α : Type} [DecidableEq α] : ∀ {a b : List α}, a.Nodup → (∀ x ∈ a, x ∈ b) → a.length ≤ b.length
  | [], _, _, _ => Nat.zero_le _
  | x :: a, b, h, s => by
    rw [List.nodup_cons] at h
    have hx := s x (by simp)
    have := nodup_leP (b := b.erase x) h.2 fun z hz => by
      have ne : z ≠ x := fun e => h.1 (by rw [← e]; exact hz)
      exact (List.mem_erase_of_ne ne).mpr (s z (List.mem_cons_of_mem _ hz))
    rw [List.length_erase_of_mem hx] at this
    have hp := List.length_pos_of_mem hx
    rw [List.length_cons]
    omega
theorem count_le {α β : Type} [DecidableEq β] {A : List α} {B : List β} {p : α → Bool} {q : β → Bool} (F : α → β) (hA : A.Nodup) (h1 : ∀ x ∈ A, p x = true → F x ∈ B ∧ q (F x) = true) (h2 : ∀ x ∈ A, ∀ z ∈ A, p x = true → p z = true → F x = F z → x = z) : (A.filter p).length ≤ (B.filter q).length := by
  have hn : ((A.filter p).map F).Nodup := by
    rw [List.nodup_iff_pairwise_ne, List.pairwise_map]
    have := (hA.filter p)
    refine List.Pairwise.imp_of_mem (fun {a b} ha hb hne e => ?_) this
    exact hne (h2 a (List.mem_filter.mp ha).1 b (List.mem_filter.mp hb).1 (List.mem_filter.mp ha).2 (List.mem_filter.mp hb).2 e)
  have := nodup_leP (b := B.filter q) hn fun x hx => by
    obtain ⟨a, ha, rfl⟩ := List.mem_map.mp hx
    have ha := List.mem_filter.mp ha
    exact List.mem_filter.mpr (h1 a ha.1 ha.2)
  rwa [List.length_map] at this
def acF (y v w : List Nat) (p : Nat × Nat) : Bool := across y v p.1 w p.2
def alF (y v w : List Nat) (p : Nat × Nat) : Bool := decide (0 < along y v p.1 w p.2)
def agF (y v w : List Nat) (p : Nat × Nat) : Bool := decide (0 < against y v p.1 w p.2)
theorem if_len {α β : Type} (l : List α) (p : α → Bool) (f : α → β) : (l.flatMap fun a => if p a = true then [f a] else []).length = (l.filter p).length := by
  induction l with
  | nil => rfl
  | cons a l ih =>
    rw [List.flatMap_cons, List.length_append, ih, List.filter_cons]
    split
    · simp; omega
    · simp
theorem btw_count (y v w : List Nat) : btw y v w = ((prs v.length w.length).filter (acF y v w)).length + ((prs v.length w.length).filter (alF y v w)).length + ((prs v.length w.length).filter (agF y v w)).length := by
  have e1 : btw y v w = ((prs v.length w.length).flatMap fun p => (if acF y v w p = true then [(0, p.1, 1, p.2, 0, tAc)] else []) ++ ((if alF y v w p = true then [(0, p.1, 1, p.2, along y v p.1 w p.2, tAl)] else []) ++ (if agF y v w p = true then [(0, p.1, 1, p.2, against y v p.1 w p.2, tAg)] else []) : List Th)).length := by
    unfold btw rowI rowJ prs
    rw [List.flatMap_assoc]
    congr 2
    funext i
    rw [List.flatMap_map]
    show (List.range w.length).flatMap _ = _
    congr 1
    funext j
    have hl : HT.lexLt [((0 : Nat) : Int), (i : Int)] [((1 : Nat) : Int), (j : Int)] = true := by
      unfold HT.lexLt
      rw [decide_eq_true (by omega)]
      rfl
    unfold thAt agIn acF alF agF
    rw [if_pos hl]
    show _ ++ _ = _
    simp only [wAt, decide_eq_true_eq, Bool.and_eq_true, Bool.or_eq_true, List.append_assoc]
    simp
  rw [e1, (fm_app _ _ _).length_eq, List.length_append, (fm_app _ _ _).length_eq, List.length_append, if_len, if_len, if_len]
  omega
theorem ag_le {y v w : List Nat} (hy : YardOk y) (hv : CrW y v) (hw : CrW y w) : ((prs v.length w.length).filter (agF y v w)).length ≤ ((prs w.length v.length).filter (agF y w v)).length := by
  have vp := List.length_pos_iff.mpr hv.ne
  have wp := List.length_pos_iff.mpr hw.ne
  have key : ∀ x : Nat × Nat, agF y v w x = true → against y w (((((x.2 : Int) - against y v x.1 w x.2 + 1) % (w.length : Int)).toNat : Nat) : Int) v (((((x.1 : Int) + against y v x.1 w x.2 - 1) % (v.length : Int)).toNat : Nat) : Int) = against y v x.1 w x.2 := fun x h => by
    unfold agF at h
    have h := of_decide_eq_true h
    rw [Int.toNat_of_nonneg (Int.emod_nonneg _ (by omega)), Int.toNat_of_nonneg (Int.emod_nonneg _ (by omega)), against_mod]
    exact against_symm hy hv hw rfl h
  refine count_le (fun x => ((((x.2 : Int) - against y v x.1 w x.2 + 1) % (w.length : Int)).toNat, (((x.1 : Int) + against y v x.1 w x.2 - 1) % (v.length : Int)).toNat)) (prs_nodup _ _) (fun x hx hp => ⟨prs_mem.mpr ⟨?_, ?_⟩, ?_⟩) fun x hx z hz px pz e => ?_
  · have := Int.emod_lt_of_pos ((x.2 : Int) - against y v x.1 w x.2 + 1) (show (0 : Int) < w.length by omega)
    have := Int.emod_nonneg ((x.2 : Int) - against y v x.1 w x.2 + 1) (show (w.length : Int) ≠ 0 by omega)
    show (_ : Int).toNat < _
    omega
  · have := Int.emod_lt_of_pos ((x.1 : Int) + against y v x.1 w x.2 - 1) (show (0 : Int) < v.length by omega)
    have := Int.emod_nonneg ((x.1 : Int) + against y v x.1 w x.2 - 1) (show (v.length : Int) ≠ 0 by omega)
    show (_ : Int).toNat < _
    omega
  · have k := key x hp
    unfold agF at hp ⊢
    refine decide_eq_true ?_
    show 0 < against y w _ v _
    rw [k]
    exact of_decide_eq_true hp
  · have kx := key x px
    have kz := key z pz
    injection e with e1 e2
    rw [e1, e2, kz] at kx
    have hm : against y v z.1 w z.2 = against y v x.1 w x.2 := kx
    have hx := prs_mem.mp hx
    have hz := prs_mem.mp hz
    rw [hm] at e1 e2
    generalize against y v x.1 w x.2 = m at e1 e2
    have a1 := Int.toNat_of_nonneg (Int.emod_nonneg ((x.2 : Int) - m + 1) (show (w.length : Int) ≠ 0 by omega))
    have a2 := Int.toNat_of_nonneg (Int.emod_nonneg ((z.2 : Int) - m + 1) (show (w.length : Int) ≠ 0 by omega))
    have a3 := Int.toNat_of_nonneg (Int.emod_nonneg ((x.1 : Int) + m - 1) (show (v.length : Int) ≠ 0 by omega))
    have a4 := Int.toNat_of_nonneg (Int.emod_nonneg ((z.1 : Int) + m - 1) (show (v.length : Int) ≠ 0 by omega))
    have b1 : ((x.2 : Int) - m + 1) % (w.length : Int) = ((z.2 : Int) - m + 1) % (w.length : Int) := by rw [← a1, ← a2, e1]
    have b2 : ((x.1 : Int) + m - 1) % (v.length : Int) = ((z.1 : Int) + m - 1) % (v.length : Int) := by rw [← a3, ← a4, e2]
    have c1 := Int.emod_emod_of_dvd ((x.2 : Int)) (Int.dvd_refl (w.length : Int))
    have un : ∀ (n : Nat) (s t : Nat) (k : Int), s < n → t < n → ((s : Int) + k) % (n : Int) = ((t : Int) + k) % (n : Int) → s = t := fun n s t k hs ht h => by
      have h1 := Int.emod_emod_of_dvd ((s : Int) + k) (Int.dvd_refl (n : Int))
      have h2 : (((s : Int) + k) - ((t : Int) + k)) % (n : Int) = 0 := Int.emod_eq_emod_iff_emod_sub_eq_zero.mp h
      have h3 : ((s : Int) - t) % (n : Int) = 0 := by rw [show (s : Int) - t = ((s : Int) + k) - ((t : Int) + k) from by omega]; exact h2
      rcases Nat.lt_trichotomy s t with q | q | q
      · have : ((s : Int) - t) % (n : Int) = (s : Int) - t + n := by rw [emd (by omega) (by omega), if_neg (by omega)]
        omega
      · exact q
      · have : ((s : Int) - t) % (n : Int) = (s : Int) - t := by rw [emd (by omega) (by omega), if_pos (by omega)]
        omega
    refine Prod.ext (un _ _ _ (m - 1) hx.1 hz.1 ?_) (un _ _ _ (1 - m) hx.2 hz.2 ?_)
    · rw [show (x.1 : Int) + (m - 1) = x.1 + m - 1 from by omega, show (z.1 : Int) + (m - 1) = z.1 + m - 1 from by omega, b2]
    · rw [show (x.2 : Int) + (1 - m) = x.2 - m + 1 from by omega, show (z.2 : Int) + (1 - m) = z.2 - m + 1 from by omega, b1]
theorem btw_le {y v w : List Nat} (hy : YardOk y) (hv : CrW y v) (hw : CrW y w) : btw y v w ≤ btw y w v := by
  have vp := List.length_pos_iff.mpr hv.ne
  have wp := List.length_pos_iff.mpr hw.ne
  rw [btw_count, btw_count]
  have swap : ∀ (p : Nat × Nat → Bool) (q : Nat × Nat → Bool), (∀ x, p x = true → q (x.2, x.1) = true) → ((prs v.length w.length).filter p).length ≤ ((prs w.length v.length).filter q).length := fun p q h =>
    count_le (fun x => (x.2, x.1)) (prs_nodup _ _) (fun x hx hp => ⟨prs_mem.mpr ⟨(prs_mem.mp hx).2, (prs_mem.mp hx).1⟩, h x hp⟩) fun x _ z _ _ _ e => by
      injection e with e1 e2
      exact Prod.ext e2 e1
  have h1 := swap (acF y v w) (acF y w v) fun x h => by
    unfold acF at h ⊢
    rw [← h]
    exact across_symm hy hv hw _ _
  have h2 := swap (alF y v w) (alF y w v) fun x h => by
    unfold alF at h ⊢
    have h := of_decide_eq_true h
    refine decide_eq_true ?_
    show 0 < along y w x.2 v x.1
    rw [along_symm hy hv hw h]
    exact h
  have h3 := ag_le hy hv hw
  omega
theorem btw_symm {y v w : List Nat} (hy : YardOk y) (hv : CrW y v) (hw : CrW y w) : btw y v w = btw y w v := Nat.le_antisymm (btw_le hy hv hw) (btw_le hy hw hv)
set_option maxRecDepth 100000
set_option maxHeartbeats 1000000
theorem lexLt_one (i j : Nat) : HT.lexLt [(i : Int)] [(j : Int)] = decide (i < j) := by
  unfold HT.lexLt
  by_cases h : i < j
  · rw [decide_eq_true h, decide_eq_true (by omega), if_neg (by omega)]
  · rw [decide_eq_false h, decide_eq_false (by omega)]
    split
    · simp [HT.lexLt]
    · rfl
theorem lexLt_same (c i j : Nat) : HT.lexLt [(c : Int), (i : Int)] [(c : Int), (j : Int)] = decide (i < j) := by
  unfold HT.lexLt
  rw [if_pos rfl, lexLt_one]
theorem if_l {p : Prop} [Decidable p] {α : Type} (a : α) : (if p then [a] else []).length = if p then 1 else 0 := by split <;> rfl
def nAt (y w v : List Nat) (i j : Nat) (lt lt2 : Bool) : Nat :=
  (if lt = true then (if across y w i v j = true then 1 else 0) + (if 0 < along y w i v j then 1 else 0) else 0) + (if (decide (0 < against y w i v j) && lt2) = true then 1 else 0)
theorem thAt_n (y : List Nat) (ws : List (List Nat)) (c i d j : Nat) : (thAt y ws c i d j).length = nAt y (wAt ws c) (wAt ws d) i j (HT.lexLt [(c : Int), (i : Int)] [(d : Int), (j : Int)]) (decide (c < d) || (decide (c = d) && HT.lexLt [(i : Int), (j : Int)] [((j : Int) - against y (wAt ws c) i (wAt ws d) j + 1) % ((wAt ws d).length : Int), ((i : Int) + against y (wAt ws c) i (wAt ws d) j - 1) % ((wAt ws c).length : Int)])) := by
  unfold thAt nAt agIn
  rw [List.length_append, if_l]
  congr 1
  split
  · rw [List.length_append, if_l, if_l]
  · rfl
/-- how many forced meetings a word has with itself -/
def ownN (y w : List Nat) : Nat := (rowI y [w] 0 0).length
theorem flatN {α β γ : Type} {l : List α} {f : α → List β} {g : α → List γ} (h : ∀ a ∈ l, (f a).length = (g a).length) : (l.flatMap f).length = (l.flatMap g).length := by
  rw [List.length_flatMap, List.length_flatMap]
  congr 1
  exact List.map_congr_left h
theorem all_one (y w : List Nat) : (allTh y [w]).length = ownN y w := by
  have e1 : allTh y [w] = rowI y [w] 0 0 := by
    unfold allTh rowD
    simp [List.range_succ]
  rw [e1]
  rfl
theorem lst_one (y w : List Nat) : lst y [w] = (ownN y w : Nat) + (((tm w : Nat) : Int) - 1) := by
  unfold lst
  rw [all_one]
  simp
set_option maxRecDepth 100000
set_option maxHeartbeats 1000000
def rs (f : Int → Nat) : Nat → Nat
  | 0 => 0
  | n + 1 => rs f n + f n
def Prd (n : Nat) (f : Int → Nat) : Prop := ∀ i : Int, f (i + n) = f i
theorem rs_add (f : Int → Nat) (a : Nat) : ∀ b, rs f (a + b) = rs f a + rs (fun i => f (a + i)) b
  | 0 => rfl
  | b + 1 => by
    show rs f (a + b) + f ((a + b : Nat) : Int) = rs f a + (rs (fun i => f (a + i)) b + f (a + (b : Nat)))
    rw [rs_add f a b, show ((a + b : Nat) : Int) = (a : Int) + (b : Nat) from by omega]
    omega
theorem rs_congr {f g : Int → Nat} {n : Nat} (h : ∀ i : Nat, i < n → f i = g i) : rs f n = rs g n := by
  induction n with
  | zero => rfl
  | succ n ih =>
    show rs f n + f n = rs g n + g n
    rw [ih fun i hi => h i (by omega), h n (by omega)]
theorem Prd.mul {n : Nat} {f : Int → Nat} (h : Prd n f) (p : Nat) (i : Int) : f (((p * n : Nat) : Int) + i) = f i := by
  induction p with
  | zero => rw [Nat.zero_mul]; congr 1; omega
  | succ p ih =>
    rw [show (((p + 1) * n : Nat) : Int) + i = (((p * n : Nat) : Int) + i) + (n : Int) from by rw [Nat.add_mul, Nat.one_mul]; omega, h, ih]
theorem rs_mul {n : Nat} {f : Int → Nat} (h : Prd n f) : ∀ p, rs f (p * n) = p * rs f n
  | 0 => by rw [Nat.zero_mul, Nat.zero_mul]; rfl
  | p + 1 => by
    rw [Nat.add_mul, Nat.one_mul, rs_add, rs_mul h p, Nat.add_mul, Nat.one_mul]
    congr 1
    exact rs_congr fun i _ => h.mul p i
theorem rs_shift {n : Nat} {f : Int → Nat} (h : Prd n f) (k : Nat) : rs (fun i => f (i + k)) n = rs f n := by
  have h1 := rs_add f k n
  have h2 := rs_add f n k
  have e1 : rs (fun i => f ((n : Int) + i)) k = rs f k := rs_congr fun i _ => by rw [Int.add_comm]; exact h i
  have e2 : rs (fun i => f ((k : Int) + i)) n = rs (fun i => f (i + k)) n := rs_congr fun i _ => by rw [Int.add_comm]
  rw [Nat.add_comm] at h2
  omega
theorem rs_rev (f : Int → Nat) : ∀ n : Nat, rs (fun i => f ((n : Int) - 1 - i)) n = rs f n
  | 0 => rfl
  | n + 1 => by
    have h1 := rs_add (fun i => f (((n + 1 : Nat) : Int) - 1 - i)) 1 n
    rw [Nat.add_comm 1 n] at h1
    rw [h1]
    have e1 : rs (fun i => (fun i => f (((n + 1 : Nat) : Int) - 1 - i)) (((1 : Nat) : Int) + i)) n = rs (fun i => f ((n : Int) - 1 - i)) n := rs_congr fun i _ => by
      show f (((n + 1 : Nat) : Int) - 1 - (((1 : Nat) : Int) + i)) = f ((n : Int) - 1 - i)
      congr 1
      omega
    rw [e1, rs_rev f n]
    show 0 + f (((n + 1 : Nat) : Int) - 1 - ((0 : Nat) : Int)) + rs f n = rs f n + f n
    rw [show ((n + 1 : Nat) : Int) - 1 - ((0 : Nat) : Int) = (n : Int) from by omega]
    omega
theorem rs_neg {n : Nat} {f : Int → Nat} (h : Prd n f) : rs (fun i => f (-1 - i)) n = rs f n := by
  rw [← rs_rev f n]
  refine rs_congr fun i _ => ?_
  show f (-1 - (i : Int)) = f ((n : Int) - 1 - i)
  rw [← h]
  congr 1
  omega
theorem rs_sum (f g : Int → Nat) : ∀ n : Nat, rs (fun i => f i + g i) n = rs f n + rs g n
  | 0 => rfl
  | n + 1 => by
    show rs (fun i => f i + g i) n + (f n + g n) = rs f n + f n + (rs g n + g n)
    rw [rs_sum f g n]
    omega
/-- both ways -/
def r2 (f : Int → Int → Nat) (n m : Nat) : Nat := rs (fun i => rs (f i) m) n
def Prd2 (n m : Nat) (f : Int → Int → Nat) : Prop := (∀ i j : Int, f (i + n) j = f i j) ∧ ∀ i j : Int, f i (j + m) = f i j
theorem r2_congr {f g : Int → Int → Nat} {n m : Nat} (h : ∀ i j, f i j = g i j) : r2 f n m = r2 g n m := rs_congr fun i _ => rs_congr fun j _ => h i j
theorem r2_mul {n m : Nat} {f : Int → Int → Nat} (h : Prd2 n m f) (p q : Nat) : r2 f (p * n) (q * m) = p * q * r2 f n m := by
  unfold r2
  have h1 : Prd n fun i => rs (f i) (q * m) := fun i => rs_congr fun j _ => h.1 i j
  rw [rs_mul h1]
  have h2 : rs (fun i => rs (f i) (q * m)) n = rs (fun i => q * rs (f i) m) n := rs_congr fun i _ => rs_mul (fun j => h.2 i j) q
  rw [h2, Nat.mul_assoc]
  congr 1
  have : ∀ (g : Int → Nat) n, rs (fun i => q * g i) n = q * rs g n := fun g n => by
    induction n with
    | zero => rfl
    | succ n ih =>
      show rs (fun i => q * g i) n + q * g n = q * (rs g n + g n)
      rw [ih, Nat.mul_add]
  exact this _ n
theorem r2_shift {n m : Nat} {f : Int → Int → Nat} (h : Prd2 n m f) (k : Nat) : r2 (fun i j => f (i + k) j) n m = r2 f n m :=
  rs_shift (f := fun i => rs (f i) m) (fun i => rs_congr fun j _ => h.1 i j) k
theorem r2_neg {n m : Nat} {f : Int → Int → Nat} (h : Prd2 n m f) : r2 (fun i j => f (-1 - i) j) n m = r2 f n m :=
  rs_neg (f := fun i => rs (f i) m) fun i => rs_congr fun j _ => h.1 i j
theorem r2_filter (P : Int → Int → Bool) (n m : Nat) : r2 (fun i j => if P i j = true then 1 else 0) n m = ((prs n m).filter fun p => P p.1 p.2).length := by
  have h1 : ∀ (f : Int → Nat) n, rs f n = ((List.range n).map fun k : Nat => f k).sum := fun f n => by
    induction n with
    | zero => rfl
    | succ n ih =>
      rw [List.range_succ, List.map_append, List.sum_append, ← ih]
      simp [rs]
  unfold prs
  rw [List.filter_flatMap, List.length_flatMap]
  unfold r2
  rw [h1]
  congr 1
  refine List.map_congr_left fun i _ => ?_
  rw [h1, List.filter_map, List.length_map]
  induction m with
  | zero => rfl
  | succ m ih =>
    rw [List.range_succ, List.map_append, List.sum_append, ih, List.filter_append, List.length_append]
    congr 1
    simp only [List.map_cons, List.map_nil, List.sum_cons, List.sum_nil, List.filter_cons, List.filter_nil, Function.comp]
    split <;> simp
def acN (y v w : List Nat) (i j : Int) : Nat := if across y v i w j = true then 1 else 0
def alN (y v w : List Nat) (i j : Int) : Nat := if decide (0 < along y v i w j) = true then 1 else 0
def agN (y v w : List Nat) (i j : Int) : Nat := if decide (0 < against y v i w j) = true then 1 else 0
theorem btw_r2 (y v w : List Nat) : btw y v w = r2 (acN y v w) v.length w.length + r2 (alN y v w) v.length w.length + r2 (agN y v w) v.length w.length := by
  rw [btw_count]
  have e1 := r2_filter (fun i j => across y v i w j) v.length w.length
  have e2 := r2_filter (fun i j => decide (0 < along y v i w j)) v.length w.length
  have e3 := r2_filter (fun i j => decide (0 < against y v i w j)) v.length w.length
  have f1 : r2 (acN y v w) v.length w.length = _ := e1
  have f2 : r2 (alN y v w) v.length w.length = _ := e2
  have f3 : r2 (agN y v w) v.length w.length = _ := e3
  rw [f1, f2, f3]
  rfl
theorem pos_meet {y : List Nat} {f g : Int → Nat} {n : Nat} (hn : agree f g n = n → f (-1) = g (-1)) : 0 < mt3 y f g n ↔ ∃ m, Meet y f g m :=
  ⟨fun h => ⟨_, (meet_of hn).mp ⟨rfl, h⟩⟩, fun ⟨m, h⟩ => by
    have := (meet_of hn).mpr h
    omega⟩
theorem alN_iff {y v w : List Nat} (hv : v ≠ []) (hw : w ≠ []) (i j : Int) : (0 < along y v i w j) ↔ ∃ m, Meet y (fwd v i) (fwd w j) m := pos_meet (never_along hv hw i j)
theorem agN_iff {y v w : List Nat} (hv : v ≠ []) (hw : w ≠ []) (i j : Int) : (0 < against y v i w j) ↔ ∃ m, Meet y (fwd v i) (bwd w j) m := pos_meet (never_against hv hw i j)
theorem one_of {p q : Prop} [Decidable p] [Decidable q] (h : p ↔ q) : (if decide p = true then 1 else 0 : Nat) = if decide q = true then 1 else 0 := by
  by_cases hp : p
  · rw [decide_eq_true hp, decide_eq_true (h.mp hp)]
  · rw [decide_eq_false hp, decide_eq_false fun z => hp (h.mpr z)]
theorem fwd_shift (w : List Nat) (i : Int) : fwd w (i + w.length) = fwd w i := by
  funext k
  unfold fwd
  rw [show i + (w.length : Int) + k = i + k + w.length from by omega, lr_add]
theorem bwd_shift (w : List Nat) (i : Int) : bwd w (i + w.length) = bwd w i := by
  funext k
  unfold bwd
  rw [show i + (w.length : Int) - k = i - k + w.length from by omega, lr_add]
theorem across_shift (y v w : List Nat) (i j : Int) : across y v (i + v.length) w j = across y v i w j ∧ across y v i w (j + w.length) = across y v i w j := by
  unfold across
  have e1 : lr v (i + v.length) = lr v i := lr_add v i
  have e2 : lr v (i + v.length - 1) = lr v (i - 1) := by rw [show i + (v.length : Int) - 1 = i - 1 + v.length from by omega, lr_add]
  have e3 : lr w (j + w.length) = lr w j := lr_add w j
  have e4 : lr w (j + w.length - 1) = lr w (j - 1) := by rw [show j + (w.length : Int) - 1 = j - 1 + w.length from by omega, lr_add]
  rw [e1, e2, e3, e4]
  exact ⟨rfl, rfl⟩
theorem prd_ac (y v w : List Nat) : Prd2 v.length w.length (acN y v w) :=
  ⟨fun i j => by unfold acN; rw [(across_shift y v w i j).1], fun i j => by unfold acN; rw [(across_shift y v w i j).2]⟩
theorem prd_al (y v w : List Nat) : Prd2 v.length w.length (alN y v w) :=
  ⟨fun i j => by unfold alN along; rw [fwd_shift], fun i j => by unfold alN along; rw [fwd_shift]⟩
theorem prd_ag (y v w : List Nat) : Prd2 v.length w.length (agN y v w) :=
  ⟨fun i j => by unfold agN against; rw [fwd_shift], fun i j => by unfold agN against; rw [bwd_shift]⟩
/-- words whose lines are the same but for a shift have as many meetings, each as often as it goes round -/
theorem btw_lines {y v w v' w' : List Nat} {p q a b : Nat} (hv : v ≠ []) (hw : w ≠ []) (hv' : v' ≠ []) (hw' : w' ≠ []) (lv : v'.length = p * v.length) (lw : w'.length = q * w.length) (ev : ∀ i, lr v' i = lr v (i + a)) (ew : ∀ i, lr w' i = lr w (i + b)) : btw y v' w' = p * q * btw y v w := by
  have fv : ∀ i, fwd v' i = fwd v (i + a) := fun i => by funext k; unfold fwd; rw [ev]; congr 1; omega
  have fw : ∀ i, fwd w' i = fwd w (i + b) := fun i => by funext k; unfold fwd; rw [ew]; congr 1; omega
  have gw : ∀ i, bwd w' i = bwd w (i + b) := fun i => by funext k; unfold bwd; rw [ew]; congr 2; omega
  have key : ∀ f g : Int → Int → Nat, Prd2 v.length w.length f → (∀ i j, g i j = f (i + a) (j + b)) → r2 g v'.length w'.length = p * q * r2 f v.length w.length := fun f g hf h => by
    rw [lv, lw, r2_congr h]
    have h2 : Prd2 v.length w.length fun i j => f (i + a) (j + b) := ⟨fun i j => by
      show f (i + v.length + a) (j + b) = f (i + a) (j + b)
      rw [show i + (v.length : Int) + a = i + a + v.length from by omega, hf.1], fun i j => by
      show f (i + a) (j + w.length + b) = f (i + a) (j + b)
      rw [show j + (w.length : Int) + b = j + b + w.length from by omega, hf.2]⟩
    rw [r2_mul h2]
    congr 1
    have e1 : r2 (fun i j => f (i + a) (j + b)) v.length w.length = r2 (fun i j => f i (j + b)) v.length w.length := r2_shift (f := fun i j => f i (j + b)) ⟨fun i j => hf.1 _ _, fun i j => by
      show f i (j + w.length + b) = f i (j + b)
      rw [show j + (w.length : Int) + b = j + b + w.length from by omega, hf.2]⟩ a
    rw [e1]
    exact rs_congr fun i _ => rs_shift (fun j => hf.2 _ j) b
  rw [btw_r2, btw_r2, key _ _ (prd_ac y v w), key _ _ (prd_al y v w), key _ _ (prd_ag y v w), Nat.mul_add, Nat.mul_add]
  · intro i j
    unfold agN
    refine one_of ?_
    rw [agN_iff hv' hw', agN_iff hv hw, fv, gw]
  · intro i j
    unfold alN
    refine one_of ?_
    rw [alN_iff hv' hw', alN_iff hv hw, fv, fw]
  · intro i j
    unfold acN across
    rw [ev, ev, ew, ew, show i - 1 + (a : Int) = i + a - 1 from by omega, show j - 1 + (b : Int) = j + b - 1 from by omega]
set_option maxRecDepth 100000
set_option maxHeartbeats 1000000
theorem r2_swap (f : Int → Int → Nat) (n : Nat) : ∀ m : Nat, r2 f n m = r2 (fun j i => f i j) m n
  | 0 => by
    induction n with
    | zero => rfl
    | succ n ih => exact ih
  | m + 1 => by
    have e : r2 f n (m + 1) = r2 f n m + rs (fun i => f i (m : Nat)) n := rs_sum (fun i => rs (f i) m) (fun i => f i (m : Nat)) n
    rw [e, r2_swap f n m]
    rfl
theorem cnt_inj {n m : Nat} (np : 0 < n) (mp : 0 < m) (M N : Int → Int → Nat) (al be : Nat → Int) (hN : Prd2 n m N) (h : ∀ i j, 0 < M i j → N (i + al (M i j)) (j + be (M i j)) = M i j) : ((prs n m).filter fun p => decide (0 < M p.1 p.2)).length ≤ ((prs n m).filter fun p => decide (0 < N p.1 p.2)).length := by
  have hmod : ∀ i j, N (i % (n : Int)) (j % (m : Int)) = N i j := fun i j => by
    have a1 : ∀ (f : Int → Nat) (k : Nat), 0 < k → Prd k f → ∀ i, f (i % (k : Int)) = f i := fun f k kp hf i => by
      have up : ∀ (q : Nat) i, f (i + q * (k : Int)) = f i := fun q => by
        induction q with
        | zero => intro i; congr 1; simp
        | succ q ih => intro i; rw [show i + ((q + 1 : Nat) : Int) * (k : Int) = (i + q * (k : Int)) + k from by rw [Int.natCast_add, Int.add_mul]; simp; omega, hf, ih]
      have e := Int.emod_add_mul_ediv i (k : Int)
      rcases Int.le_total 0 (i / (k : Int)) with q | q
      · obtain ⟨q', hq⟩ := Int.eq_ofNat_of_zero_le q
        rw [← up q' (i % (k : Int)), ← hq, Int.mul_comm, e]
      · obtain ⟨q', hq⟩ := Int.eq_ofNat_of_zero_le (show 0 ≤ -(i / (k : Int)) by omega)
        rw [← up q' i, ← hq]
        congr 1
        rw [Int.neg_mul, Int.mul_comm]
        omega
    rw [a1 (fun i => N i (j % (m : Int))) n np (fun i => hN.1 i _) i, a1 (N i) m mp (fun j => hN.2 i j) j]
  have val : ∀ x : Nat × Nat, 0 < M x.1 x.2 → N ((((x.1 : Int) + al (M x.1 x.2)) % (n : Int)).toNat : Nat) ((((x.2 : Int) + be (M x.1 x.2)) % (m : Int)).toNat : Nat) = M x.1 x.2 := fun x h0 => by
    rw [Int.toNat_of_nonneg (Int.emod_nonneg _ (by omega)), Int.toNat_of_nonneg (Int.emod_nonneg _ (by omega)), hmod]
    exact h _ _ h0
  have un : ∀ (n : Nat) (s t : Nat) (k : Int), s < n → t < n → ((s : Int) + k) % (n : Int) = ((t : Int) + k) % (n : Int) → s = t := fun n s t k hs ht h => by
    have h2 : (((s : Int) + k) - ((t : Int) + k)) % (n : Int) = 0 := Int.emod_eq_emod_iff_emod_sub_eq_zero.mp h
    have h3 : ((s : Int) - t) % (n : Int) = 0 := by rw [show (s : Int) - t = ((s : Int) + k) - ((t : Int) + k) from by omega]; exact h2
    rcases Nat.lt_trichotomy s t with q | q | q
    · have : ((s : Int) - t) % (n : Int) = (s : Int) - t + n := by rw [emd (by omega) (by omega), if_neg (by omega)]
      omega
    · exact q
    · have : ((s : Int) - t) % (n : Int) = (s : Int) - t := by rw [emd (by omega) (by omega), if_pos (by omega)]
      omega
  refine count_le (fun x => ((((x.1 : Int) + al (M x.1 x.2)) % (n : Int)).toNat, (((x.2 : Int) + be (M x.1 x.2)) % (m : Int)).toNat)) (prs_nodup _ _) (fun x hx hp => ⟨prs_mem.mpr ⟨?_, ?_⟩, ?_⟩) fun x hx z hz px pz e => ?_
  · have := Int.emod_lt_of_pos ((x.1 : Int) + al (M x.1 x.2)) (show (0 : Int) < n by omega)
    have := Int.emod_nonneg ((x.1 : Int) + al (M x.1 x.2)) (show (n : Int) ≠ 0 by omega)
    show (_ : Int).toNat < _
    omega
  · have := Int.emod_lt_of_pos ((x.2 : Int) + be (M x.1 x.2)) (show (0 : Int) < m by omega)
    have := Int.emod_nonneg ((x.2 : Int) + be (M x.1 x.2)) (show (m : Int) ≠ 0 by omega)
    show (_ : Int).toNat < _
    omega
  · have hp := of_decide_eq_true hp
    refine decide_eq_true ?_
    show 0 < N _ _
    rw [val x hp]
    exact hp
  · have px := of_decide_eq_true px
    have pz := of_decide_eq_true pz
    have kx := val x px
    have kz := val z pz
    injection e with e1 e2
    rw [e1, e2, kz] at kx
    rw [kx] at e1 e2
    have hx := prs_mem.mp hx
    have hz := prs_mem.mp hz
    generalize M x.1 x.2 = k at e1 e2
    have a1 := Int.toNat_of_nonneg (Int.emod_nonneg ((x.1 : Int) + al k) (show (n : Int) ≠ 0 by omega))
    have a2 := Int.toNat_of_nonneg (Int.emod_nonneg ((z.1 : Int) + al k) (show (n : Int) ≠ 0 by omega))
    have a3 := Int.toNat_of_nonneg (Int.emod_nonneg ((x.2 : Int) + be k) (show (m : Int) ≠ 0 by omega))
    have a4 := Int.toNat_of_nonneg (Int.emod_nonneg ((z.2 : Int) + be k) (show (m : Int) ≠ 0 by omega))
    exact Prod.ext (un _ _ _ _ hx.1 hz.1 (by rw [← a1, ← a2, e1])) (un _ _ _ _ hx.2 hz.2 (by rw [← a3, ← a4, e2]))
theorem fwd_turn {v : List Nat} (hv : v ≠ []) (i : Int) : fwd (turn v) i = bwd v (-1 - i) := by
  funext k
  unfold fwd bwd
  rw [lr_turn hv, show -1 - (i + k) = -1 - i - k from by omega]
/-- both lines gone the other way -/
def bb (y v w : List Nat) (i j : Int) : Nat := mt3 y (bwd v i) (bwd w j) (v.length + w.length)
theorem never_bb {w v : List Nat} (hw : w ≠ []) (hv : v ≠ []) (i j : Int) (h : agree (bwd w i) (bwd v j) (w.length + v.length) = w.length + v.length) : bwd w i (-1) = bwd v j (-1) :=
  per_all (List.length_pos_iff.mpr hw) (List.length_pos_iff.mpr hv) (bwd_per w i) (bwd_per v j) fun k hk => (agree_spec _ _ _).2.1 k (by rw [h]; exact hk)
theorem bb_iff {y w v : List Nat} (hw : w ≠ []) (hv : v ≠ []) {i j : Int} {m : Nat} : (bb y w v i j = m ∧ 0 < m) ↔ Meet y (bwd w i) (bwd v j) m := meet_of (never_bb hw hv i j)
theorem rv_fwd (w : List Nat) (i : Int) (m : Nat) : rv_ (fwd w i) m = bwd w (i + m - 1) := by
  funext k
  unfold rv_ fwd bwd
  rw [show i + ((m : Int) - 1 - k) = i + m - 1 - k from by omega]
theorem rv_bwd {y v : List Nat} (hy : YardOk y) (hv : CrW y v) (j : Int) (m : Nat) : rv_ (bwd v j) m = fwd v (j - m + 1) := by
  funext k
  unfold rv_ fwd bwd
  rw [con_con (hy.let_ _ (hv.at _)), show j - ((m : Int) - 1 - k) = j - m + 1 + k from by omega]
theorem per_al (y v w : List Nat) : Prd2 v.length w.length fun i j => along y v i w j :=
  ⟨fun i j => by show along y v (i + v.length) w j = along y v i w j; unfold along; rw [fwd_shift], fun i j => by show along y v i w (j + w.length) = along y v i w j; unfold along; rw [fwd_shift]⟩
theorem per_bb (y v w : List Nat) : Prd2 v.length w.length (bb y v w) :=
  ⟨fun i j => by unfold bb; rw [bwd_shift], fun i j => by unfold bb; rw [bwd_shift]⟩
theorem bb_al {y v w : List Nat} (hy : YardOk y) (hv : CrW y v) (hw : CrW y w) : r2 (fun i j => if decide (0 < bb y v w i j) = true then 1 else 0) v.length w.length = r2 (alN y v w) v.length w.length := by
  have vp := List.length_pos_iff.mpr hv.ne
  have wp := List.length_pos_iff.mpr hw.ne
  have e1 := r2_filter (fun i j => decide (0 < bb y v w i j)) v.length w.length
  have e2 := r2_filter (fun i j => decide (0 < along y v i w j)) v.length w.length
  have f2 : r2 (alN y v w) v.length w.length = _ := e2
  rw [e1, f2]
  refine Nat.le_antisymm ?_ ?_
  · refine cnt_inj vp wp (bb y v w) (fun i j => along y v i w j) (fun m => 1 - m) (fun m => 1 - m) (per_al y v w) fun i j h => ?_
    have M := (bb_iff hv.ne hw.ne).mp ⟨rfl, h⟩
    have M2 := M.rev (hv.bwd_ hy i) (hw.bwd_ hy j)
    rw [rv_bwd hy hv, rv_bwd hy hw] at M2
    have := ((along_iff hv.ne hw.ne).mpr M2).1
    rw [← this]
    congr 1 <;> omega
  · refine cnt_inj vp wp (fun i j => along y v i w j) (bb y v w) (fun m => m - 1) (fun m => m - 1) (per_bb y v w) fun i j h => ?_
    have M := (along_iff hv.ne hw.ne).mp ⟨rfl, h⟩
    have M2 := M.rev (hv.fwd_ hy i) (hw.fwd_ hy j)
    rw [rv_fwd, rv_fwd] at M2
    have := ((bb_iff hv.ne hw.ne).mpr M2).1
    rw [← this]
    congr 1 <;> omega
theorem cross_flip {a b p q : Nat} (h1 : a ≠ b) (h2 : a ≠ p) (h3 : a ≠ q) (h4 : b ≠ p) (h5 : b ≠ q) (h6 : p ≠ q) : (cyc3 b p a != cyc3 b q a) = (cyc3 a p b != cyc3 a q b) := by
  have key : ∀ x y z w : Bool, ((x = true ↔ y = true) ↔ (z = true ↔ w = true)) → (x != y) = (z != w) := by decide
  refine key _ _ _ _ ?_
  unfold cyc3
  simp only [decide_eq_true_eq]
  omega
theorem across_turn {y v w : List Nat} (hy : YardOk y) (hv : CrW y v) (hw : CrW y w) (i j : Int) : across y (turn v) i w j = across y v (-i) w j := by
  have c1 := hv.cr' (-i)
  have c2 := hw.cr' j
  have m1 := hy.con_ _ (hv.at (-i - 1))
  have m2 := hv.at (-i)
  have m3 := hy.con_ _ (hw.at (j - 1))
  have m4 := hw.at j
  unfold across
  rw [lr_turn hv.ne, lr_turn hv.ne, show -1 - (i - 1) = -i from by omega, show -1 - i = -i - 1 from by omega, con_con (hy.let_ _ (hv.at _))]
  generalize con (lr v (-i - 1)) = a at *
  generalize lr v (-i) = b at *
  generalize con (lr w (j - 1)) = p at *
  generalize lr w j = q at *
  by_cases h : p = a ∨ p = b ∨ q = a ∨ q = b ∨ p = q
  · rw [if_pos h, if_pos]
    rcases h with h | h | h | h | h
    · exact .inr (.inl h)
    · exact .inl h
    · exact .inr (.inr (.inr (.inl h)))
    · exact .inr (.inr (.inl h))
    · exact .inr (.inr (.inr (.inr h)))
  · rw [if_neg h, if_neg (by rintro (z | z | z | z | z); exact h (.inr (.inl z)); exact h (.inl z); exact h (.inr (.inr (.inr (.inl z)))); exact h (.inr (.inr (.inl z))); exact h (.inr (.inr (.inr (.inr z)))))]
    have ne : ∀ {x z : Nat}, x ∈ y → z ∈ y → x ≠ z → ixOf x y ≠ ixOf z y := fun hx hz h e => h (ixOf_inj hx hz e)
    exact cross_flip (ne m1 m2 fun z => c1 z.symm) (ne m1 m3 fun z => h (.inl z.symm)) (ne m1 m4 fun z => h (.inr (.inr (.inl z.symm)))) (ne m2 m3 fun z => h (.inr (.inl z.symm))) (ne m2 m4 fun z => h (.inr (.inr (.inr (.inl z.symm))))) (ne m3 m4 fun z => c2 z.symm)
theorem ag_swap {y v w : List Nat} (hy : YardOk y) (hv : CrW y v) (hw : CrW y w) : r2 (agN y v w) v.length w.length = r2 (agN y w v) w.length v.length := by
  have e1 := r2_filter (fun i j => decide (0 < against y v i w j)) v.length w.length
  have e2 := r2_filter (fun i j => decide (0 < against y w i v j)) w.length v.length
  have f1 : r2 (agN y v w) v.length w.length = _ := e1
  have f2 : r2 (agN y w v) w.length v.length = _ := e2
  rw [f1, f2]
  exact Nat.le_antisymm (ag_le hy hv hw) (ag_le hy hw hv)
theorem btw_turn {y v w : List Nat} (hy : YardOk y) (hv : CrW y v) (hw : CrW y w) : btw y (turn v) w = btw y v w := by
  have ht := hv.turn_ hy
  rw [btw_r2, btw_r2, turn_len]
  have h1 : r2 (acN y (turn v) w) v.length w.length = r2 (acN y v w) v.length w.length := by
    have P := prd_ac y v w
    have P' : Prd2 v.length w.length fun i j => acN y v w (i + (1 : Nat)) j := ⟨fun i j => by
      show acN y v w (i + v.length + (1 : Nat)) j = acN y v w (i + (1 : Nat)) j
      rw [show i + (v.length : Int) + ((1 : Nat) : Int) = i + ((1 : Nat) : Int) + v.length from by omega, P.1], fun i j => P.2 _ j⟩
    rw [← r2_shift P 1, ← r2_neg P']
    refine r2_congr fun i j => ?_
    unfold acN
    rw [across_turn hy hv hw, show -1 - i + ((1 : Nat) : Int) = -i from by omega]
  have h2 : r2 (alN y (turn v) w) v.length w.length = r2 (agN y v w) v.length w.length := by
    rw [ag_swap hy hv hw, r2_swap (agN y w v)]
    have P : Prd2 v.length w.length fun j i => agN y w v i j := ⟨fun i j => (prd_ag y w v).2 _ _, fun i j => (prd_ag y w v).1 _ _⟩
    rw [← r2_neg P]
    refine r2_congr fun i j => ?_
    unfold alN agN
    refine one_of ?_
    rw [alN_iff ht.ne hw.ne, agN_iff hw.ne hv.ne, fwd_turn hv.ne]
    exact ⟨fun ⟨m, h⟩ => ⟨m, h.symm (hv.bwd_ hy _) (hw.fwd_ hy _)⟩, fun ⟨m, h⟩ => ⟨m, h.symm (hw.fwd_ hy _) (hv.bwd_ hy _)⟩⟩
  have h3 : r2 (agN y (turn v) w) v.length w.length = r2 (alN y v w) v.length w.length := by
    rw [← bb_al hy hv hw]
    have P : Prd2 v.length w.length fun i j => if decide (0 < bb y v w i j) = true then 1 else 0 := ⟨fun i j => by show (if decide (0 < bb y v w (i + v.length) j) = true then 1 else 0) = (if decide (0 < bb y v w i j) = true then 1 else 0); rw [(per_bb y v w).1], fun i j => by show (if decide (0 < bb y v w i (j + w.length)) = true then 1 else 0) = (if decide (0 < bb y v w i j) = true then 1 else 0); rw [(per_bb y v w).2]⟩
    rw [← r2_neg P]
    refine r2_congr fun i j => ?_
    unfold agN
    refine one_of ?_
    rw [agN_iff ht.ne hw.ne, fwd_turn hv.ne]
    exact ⟨fun ⟨m, h⟩ => by have := (bb_iff hv.ne hw.ne).mpr h; omega, fun h => ⟨_, (bb_iff hv.ne hw.ne).mp ⟨rfl, h⟩⟩⟩
  rw [h1, h2, h3]
  omega
theorem across_same (y w : List Nat) (i : Int) : across y w i w i = false := by
  unfold across
  rw [if_pos (.inl rfl)]
theorem along_same (y w : List Nat) (i : Int) : along y w i w i = 0 := by
  unfold along mt3
  rw [if_pos (.inr rfl)]
def fstB (p : Nat × Nat) : Bool := decide (p.1 < p.2)
/-- what holds of pairs either way about, and of none alike, holds half as often of those in order -/
theorem half_count {n : Nat} (P : Nat × Nat → Bool) (h1 : ∀ p, P p = P (p.2, p.1)) (h2 : ∀ i, P (i, i) = false) : ((prs n n).filter P).length = 2 * ((prs n n).filter fun p => P p && fstB p).length := by
  have e1 : ((prs n n).filter P).length = ((prs n n).filter fun p => P p && fstB p).length + ((prs n n).filter fun p => P p && !fstB p).length := by
    generalize prs n n = l
    induction l with
    | nil => rfl
    | cons p l ih =>
      rw [List.filter_cons, List.filter_cons, List.filter_cons]
      cases P p <;> cases fstB p <;> simp <;> omega
  have le : ∀ (P Q : Nat × Nat → Bool), (∀ p, P p = true → Q (p.2, p.1) = true) → ((prs n n).filter P).length ≤ ((prs n n).filter Q).length := fun P Q h =>
    count_le (fun x => (x.2, x.1)) (prs_nodup _ _) (fun x hx hp => ⟨prs_mem.mpr ⟨(prs_mem.mp hx).2, (prs_mem.mp hx).1⟩, h x hp⟩) fun x _ z _ _ _ e => by
      injection e with e1 e2
      exact Prod.ext e2 e1
  have e2 : ((prs n n).filter fun p => P p && !fstB p).length = ((prs n n).filter fun p => P p && fstB p).length := by
    refine Nat.le_antisymm (le _ _ fun p hp => ?_) (le _ _ fun p hp => ?_)
    · rw [Bool.and_eq_true] at hp ⊢
      obtain ⟨a, b⟩ := hp
      refine ⟨by rw [← h1]; exact a, ?_⟩
      unfold fstB at b ⊢
      have b : ¬ p.1 < p.2 := by simpa using b
      refine decide_eq_true ?_
      show p.2 < p.1
      rcases Nat.lt_trichotomy p.1 p.2 with q | q | q
      · exact absurd q b
      · have := h2 p.1
        rw [show ((p.1, p.1) : Nat × Nat) = p from Prod.ext rfl q, a] at this
        cases this
      · exact q
    · rw [Bool.and_eq_true] at hp ⊢
      obtain ⟨a, b⟩ := hp
      refine ⟨by rw [← h1]; exact a, ?_⟩
      unfold fstB at b ⊢
      have b := of_decide_eq_true b
      have : decide (p.2 < p.1) = false := decide_eq_false (by omega)
      show (!decide (p.2 < p.1)) = true
      rw [this]
      rfl
  omega
theorem pal_none {y w : List Nat} (hy : YardOk y) (hw : CrW y w) {i j : Int} {m : Nat} (h : Meet y (fwd w i) (bwd w j) m) (e : (j - i - m + 1) % (w.length : Int) = 0) : False := by
  have hp := List.length_pos_iff.mpr hw.ne
  obtain ⟨c, hc⟩ := Int.dvd_of_emod_eq_zero e
  have lc : ∀ k : Int, lr w (j - k) = lr w (i + m - 1 - k) := fun k => by
    rw [← lr_mod w (j - k), ← lr_mod w (i + m - 1 - k)]
    congr 1
    rw [show j - k = i + m - 1 - k + (w.length : Int) * c from by omega, Int.add_mul_emod_self_left]
  have s : ∀ k : Nat, k < m → lr w (i + k) = con (lr w (i + m - 1 - k)) := fun k hk => by
    have := h.same k hk
    unfold fwd bwd at this
    rw [this, lc]
  have h0 := h.pos
  rcases Nat.mod_two_eq_zero_or_one m with q | q
  · have := s (m / 2 - 1) (by omega)
    rw [show i + (m : Int) - 1 - ((m / 2 - 1 : Nat) : Int) = i + ((m / 2 - 1 : Nat) : Int) + 1 from by omega] at this
    refine hw.cr (i + ((m / 2 - 1 : Nat) : Int)) ?_
    rw [this, con_con (hy.let_ _ (hw.at _))]
  · have := s (m / 2) (by omega)
    rw [show i + (m : Int) - 1 - ((m / 2 : Nat) : Int) = i + ((m / 2 : Nat) : Int) from by omega] at this
    exact con_ne (hy.let_ _ (hw.at _)) this.symm
def lexB (w : List Nat) (m : Nat) (p : Nat × Nat) : Bool := HT.lexLt [(p.1 : Int), (p.2 : Int)] [((p.2 : Int) - m + 1) % (w.length : Int), ((p.1 : Int) + m - 1) % (w.length : Int)]
theorem lexLt_iff (a b c d : Int) : HT.lexLt [a, b] [c, d] = decide (a < c ∨ (a = c ∧ b < d)) := by
  unfold HT.lexLt
  by_cases h : a = c
  · subst h
    rw [if_pos rfl]
    unfold HT.lexLt
    by_cases h2 : b = d
    · subst h2
      rw [if_pos rfl, decide_eq_false (by omega)]
      rfl
    · rw [if_neg h2]
      rw [Bool.eq_iff_iff, decide_eq_true_eq, decide_eq_true_eq]
      omega
  · rw [if_neg h]
    rw [Bool.eq_iff_iff, decide_eq_true_eq, decide_eq_true_eq]
    omega
theorem ag_half {y w : List Nat} (hy : YardOk y) (hw : CrW y w) : ((prs w.length w.length).filter (agF y w w)).length = 2 * ((prs w.length w.length).filter fun p => agF y w w p && lexB w (against y w p.1 w p.2) p).length := by
  have hp := List.length_pos_iff.mpr hw.ne
  have e1 : ((prs w.length w.length).filter (agF y w w)).length = ((prs w.length w.length).filter fun p => agF y w w p && lexB w (against y w p.1 w p.2) p).length + ((prs w.length w.length).filter fun p => agF y w w p && !lexB w (against y w p.1 w p.2) p).length := by
    generalize prs w.length w.length = l
    induction l with
    | nil => rfl
    | cons p l ih =>
      rw [List.filter_cons, List.filter_cons, List.filter_cons]
      cases agF y w w p <;> cases lexB w (against y w p.1 w p.2) p <;> simp <;> omega
  let back : Nat × Nat → Nat × Nat := fun p => ((((p.2 : Int) - against y w p.1 w p.2 + 1) % (w.length : Int)).toNat, (((p.1 : Int) + against y w p.1 w p.2 - 1) % (w.length : Int)).toNat)
  have nn : ∀ z : Int, ((z % (w.length : Int)).toNat : Int) = z % (w.length : Int) := fun z => Int.toNat_of_nonneg (Int.emod_nonneg _ (by omega))
  have hb : ∀ p, agF y w w p = true → against y w (back p).1 w (back p).2 = against y w p.1 w p.2 := fun p h => by
    unfold agF at h
    have h := of_decide_eq_true h
    show against y w ((((p.2 : Int) - against y w p.1 w p.2 + 1) % (w.length : Int)).toNat : Nat) w ((((p.1 : Int) + against y w p.1 w p.2 - 1) % (w.length : Int)).toNat : Nat) = _
    rw [nn, nn, against_mod]
    exact against_symm hy hw hw rfl h
  have bb_ : ∀ p, p ∈ prs w.length w.length → agF y w w p = true → back (back p) = p := fun p hpm h => by
    have e := hb p h
    obtain ⟨h1, h2⟩ := prs_mem.mp hpm
    have b1 : (back (back p)).1 = (((((back p).2 : Nat) : Int) - against y w (back p).1 w (back p).2 + 1) % (w.length : Int)).toNat := rfl
    have b2 : (back (back p)).2 = (((((back p).1 : Nat) : Int) + against y w (back p).1 w (back p).2 - 1) % (w.length : Int)).toNat := rfl
    rw [e] at b1 b2
    have c1 : (((back p).2 : Nat) : Int) = ((p.1 : Int) + against y w p.1 w p.2 - 1) % (w.length : Int) := nn _
    have c2 : (((back p).1 : Nat) : Int) = ((p.2 : Int) - against y w p.1 w p.2 + 1) % (w.length : Int) := nn _
    rw [c1] at b1
    rw [c2] at b2
    generalize against y w p.1 w p.2 = m at *
    have d1 : ((((p.1 : Int) + m - 1) % (w.length : Int)) - m + 1) % (w.length : Int) = p.1 := by
      rw [show (((p.1 : Int) + m - 1) % (w.length : Int)) - m + 1 = (((p.1 : Int) + m - 1) % (w.length : Int)) + (1 - m) from by omega, Int.emod_add_emod, show (p.1 : Int) + m - 1 + (1 - m) = p.1 from by omega]
      exact Int.emod_eq_of_lt (by omega) (by omega)
    have d2 : ((((p.2 : Int) - m + 1) % (w.length : Int)) + m - 1) % (w.length : Int) = p.2 := by
      rw [show (((p.2 : Int) - m + 1) % (w.length : Int)) + m - 1 = (((p.2 : Int) - m + 1) % (w.length : Int)) + (m - 1) from by omega, Int.emod_add_emod, show (p.2 : Int) - m + 1 + (m - 1) = p.2 from by omega]
      exact Int.emod_eq_of_lt (by omega) (by omega)
    rw [d1] at b1
    rw [d2] at b2
    exact Prod.ext (by omega) (by omega)
  have bm : ∀ p, back p ∈ prs w.length w.length := fun p => by
    refine prs_mem.mpr ⟨?_, ?_⟩
    · have := Int.emod_lt_of_pos ((p.2 : Int) - against y w p.1 w p.2 + 1) (show (0 : Int) < w.length by omega)
      have := nn ((p.2 : Int) - against y w p.1 w p.2 + 1)
      show (_ : Int).toNat < _
      omega
    · have := Int.emod_lt_of_pos ((p.1 : Int) + against y w p.1 w p.2 - 1) (show (0 : Int) < w.length by omega)
      have := nn ((p.1 : Int) + against y w p.1 w p.2 - 1)
      show (_ : Int).toNat < _
      omega
  have ne : ∀ p, p ∈ prs w.length w.length → agF y w w p = true → back p ≠ p := fun p hpm h e => by
    obtain ⟨h1, h2⟩ := prs_mem.mp hpm
    unfold agF at h
    have h := of_decide_eq_true h
    have M := (against_iff hw.ne hw.ne).mp ⟨rfl, h⟩
    refine pal_none hy hw M ?_
    have c2 : (((back p).1 : Nat) : Int) = ((p.2 : Int) - against y w p.1 w p.2 + 1) % (w.length : Int) := nn _
    rw [e] at c2
    have : (((p.2 : Int) - against y w p.1 w p.2 + 1) - (p.1 : Int)) % (w.length : Int) = 0 := by
      rw [Int.sub_emod, ← c2]
      simp
    rw [show (p.2 : Int) - p.1 - against y w p.1 w p.2 + 1 = ((p.2 : Int) - against y w p.1 w p.2 + 1) - (p.1 : Int) from by omega]
    exact this
  have lx : ∀ p, p ∈ prs w.length w.length → lexB w (against y w p.1 w p.2) p = decide (p.1 < (back p).1 ∨ (p.1 = (back p).1 ∧ p.2 < (back p).2)) := fun p _ => by
    have c1 : (((back p).2 : Nat) : Int) = ((p.1 : Int) + against y w p.1 w p.2 - 1) % (w.length : Int) := nn _
    have c2 : (((back p).1 : Nat) : Int) = ((p.2 : Int) - against y w p.1 w p.2 + 1) % (w.length : Int) := nn _
    unfold lexB
    rw [lexLt_iff, ← c1, ← c2, Bool.eq_iff_iff, decide_eq_true_eq, decide_eq_true_eq]
    omega
  have flip : ∀ p, p ∈ prs w.length w.length → agF y w w p = true → lexB w (against y w (back p).1 w (back p).2) (back p) = !lexB w (against y w p.1 w p.2) p := fun p hpm h => by
    rw [lx _ hpm, lx _ (bm p), bb_ p hpm h]
    have := ne p hpm h
    have n : ¬ ((back p).1 = p.1 ∧ (back p).2 = p.2) := fun z => this (Prod.ext z.1 z.2)
    rw [Bool.eq_iff_iff]
    simp only [Bool.not_eq_true', decide_eq_true_eq, decide_eq_false_iff_not]
    omega
  have agb : ∀ p, agF y w w p = true → agF y w w (back p) = true := fun p h => by
    have := hb p h
    unfold agF at h ⊢
    rw [this]
    exact h
  have inj : ∀ x ∈ prs w.length w.length, ∀ z ∈ prs w.length w.length, agF y w w x = true → agF y w w z = true → back x = back z → x = z := fun x hx z hz px pz e => by
    rw [← bb_ x hx px, ← bb_ z hz pz, e]
  have e2 : ((prs w.length w.length).filter fun p => agF y w w p && !lexB w (against y w p.1 w p.2) p).length = ((prs w.length w.length).filter fun p => agF y w w p && lexB w (against y w p.1 w p.2) p).length := by
    refine Nat.le_antisymm (count_le back (prs_nodup _ _) (fun x hx h => ⟨bm x, ?_⟩) fun x hx z hz px pz => inj x hx z hz ?_ ?_) (count_le back (prs_nodup _ _) (fun x hx h => ⟨bm x, ?_⟩) fun x hx z hz px pz => inj x hx z hz ?_ ?_)
    · rw [Bool.and_eq_true] at h ⊢
      exact ⟨agb x h.1, by rw [flip x hx h.1]; exact h.2⟩
    · exact (Bool.and_eq_true _ _ ▸ px).1
    · exact (Bool.and_eq_true _ _ ▸ pz).1
    · rw [Bool.and_eq_true] at h ⊢
      exact ⟨agb x h.1, by rw [flip x hx h.1, h.2]; rfl⟩
    · exact (Bool.and_eq_true _ _ ▸ px).1
    · exact (Bool.and_eq_true _ _ ▸ pz).1
  omega
theorem own_count (y w : List Nat) : ownN y w = ((prs w.length w.length).filter fun p => acF y w w p && fstB p).length + ((prs w.length w.length).filter fun p => alF y w w p && fstB p).length + ((prs w.length w.length).filter fun p => agF y w w p && lexB w (against y w p.1 w p.2) p).length := by
  have e1 : ownN y w = ((prs w.length w.length).flatMap fun p => (if (acF y w w p && fstB p) = true then [()] else []) ++ ((if (alF y w w p && fstB p) = true then [()] else []) ++ (if (agF y w w p && lexB w (against y w p.1 w p.2) p) = true then [()] else []))).length := by
    unfold ownN rowI rowJ prs
    rw [List.flatMap_assoc]
    refine flatN fun i _ => ?_
    rw [List.flatMap_map]
    refine flatN fun j _ => ?_
    have e5 : wAt [w] 0 = w := rfl
    rw [thAt_n, lexLt_same, List.length_append, List.length_append, if_l, if_l, if_l, e5]
    unfold nAt acF alF agF fstB lexB
    have e3 : decide (0 < 0) = false := rfl
    have e4 : decide (0 = 0) = true := rfl
    rw [e3, e4, Bool.false_or, Bool.true_and]
    show (if decide (i < j) = true then _ else 0) + (if _ then 1 else 0) = _
    by_cases h : i < j
    · simp only [h, decide_true, if_true, Bool.and_true, decide_eq_true_eq]
      omega
    · simp only [h, decide_false, Bool.and_false]
      simp
  rw [e1, (fm_app _ _ _).length_eq, List.length_append, (fm_app _ _ _).length_eq, List.length_append, if_len, if_len, if_len]
  omega
theorem btw_self {y w : List Nat} (hy : YardOk y) (hw : CrW y w) : btw y w w = 2 * ownN y w := by
  rw [btw_count, own_count, ag_half hy hw]
  rw [half_count (acF y w w) (fun p => by unfold acF; exact (across_symm hy hw hw _ _).symm) (fun i => across_same y w i)]
  rw [half_count (alF y w w) (fun p => by
    unfold alF
    rw [Bool.eq_iff_iff, decide_eq_true_eq, decide_eq_true_eq]
    exact ⟨fun h => by rw [along_symm hy hw hw h]; exact h, fun h => by rw [along_symm hy hw hw h]; exact h⟩) (fun i => by unfold alF; rw [along_same]; rfl)]
  omega
set_option maxRecDepth 100000
set_option maxHeartbeats 1000000
theorem rot_iff {w : List Nat} (h : w ≠ []) {j : Nat} (hj : j ≤ w.length) : rot w j = w ↔ ∀ i : Int, lr w (i + j) = lr w i := by
  constructor
  · intro e i
    have := lr_rot j hj i
    unfold rot at e
    rw [e] at this
    exact this.symm
  · intro hp
    have hl := rot_len w j
    refine lr_ext (fun e => ?_) hl fun k _ => ?_
    · rw [e] at hl
      exact h (List.eq_nil_of_length_eq_zero hl.symm)
    · unfold rot
      rw [lr_rot j hj]
      exact hp k
/-- v goes k times along u's cord, either way about -/
structure Tw (y u v : List Nat) (k : Nat) : Prop where
  cr : CrW y v
  len : v.length = k * u.length
  ln : (∃ a : Nat, ∀ i, lr v i = lr u (i + a)) ∨ ∃ a : Nat, ∀ i, lr v i = lr (turn u) (i + a)
theorem tw_self {y u : List Nat} (h : CrW y u) : Tw y u u 1 := ⟨h, by omega, .inl ⟨0, fun i => by congr 1; simp⟩⟩
theorem tw_btw {y u v u' v' : List Nat} {k k' : Nat} (hy : YardOk y) (hu : CrW y u) (hu' : CrW y u') (h : Tw y u v k) (h' : Tw y u' v' k') : btw y v v' = k * k' * btw y u u' := by
  have t1 := hu.turn_ hy
  have t2 := hu'.turn_ hy
  have e2 : ∀ x, CrW y x → btw y x (turn u') = btw y x u' := fun x hx => by rw [btw_symm hy hx t2, btw_turn hy hu' hx, btw_symm hy hu' hx]
  rcases h.ln with ⟨a, ha⟩ | ⟨a, ha⟩
  · rcases h'.ln with ⟨b, hb⟩ | ⟨b, hb⟩
    · exact btw_lines hu.ne hu'.ne h.cr.ne h'.cr.ne h.len h'.len ha hb
    · rw [btw_lines hu.ne t2.ne h.cr.ne h'.cr.ne h.len (by rw [turn_len]; exact h'.len) ha hb, e2 u hu]
  · rcases h'.ln with ⟨b, hb⟩ | ⟨b, hb⟩
    · rw [btw_lines t1.ne hu'.ne h.cr.ne h'.cr.ne (by rw [turn_len]; exact h.len) h'.len ha hb, btw_turn hy hu hu']
    · rw [btw_lines t1.ne t2.ne h.cr.ne h'.cr.ne (by rw [turn_len]; exact h.len) (by rw [turn_len]; exact h'.len) ha hb, btw_turn hy hu t2, e2 u hu]
theorem tw_own {y u v : List Nat} {k : Nat} (hy : YardOk y) (hu : CrW y u) (h : Tw y u v k) : ownN y v = k * k * ownN y u := by
  have h1 := btw_self hy h.cr
  have h2 := btw_self hy hu
  have h3 := tw_btw hy hu hu h h
  rw [h1, h2, Nat.mul_left_comm] at h3
  omega
theorem tw_round {y u : List Nat} (hu : CrW y u) {k a : Nat} (hk : 0 < k) (ha : a ≤ u.length) : Tw y u (List.replicate k (u.drop a ++ u.take a)).flatten k := by
  have hr := hu.rot_ a ha
  refine ⟨hr.pow_ k hk, ?_, .inl ⟨a, fun i => ?_⟩⟩
  · rw [List.length_flatten, List.map_replicate, List.sum_replicate_nat, List.length_append, List.length_drop, List.length_take]
    congr 1
    omega
  · rw [lr_pow k hk hr.ne, lr_rot a ha]
theorem Tw.turn_ {y u v : List Nat} {k : Nat} (hy : YardOk y) (hu : CrW y u) (h : Tw y u v k) : Tw y u (turn v) k := by
  have up := List.length_pos_iff.mpr hu.ne
  have nat : ∀ (a : Nat) (f : Int → Nat), Prd u.length f → ∃ b : Nat, ∀ i, f (i - a) = f (i + b) := fun a f hf => ⟨a * u.length - a, fun i => by
    have h1 := hf.mul a (i - a)
    rw [← h1]
    have : a ≤ a * u.length := Nat.le_mul_of_pos_right _ up
    congr 1
    omega⟩
  refine ⟨h.cr.turn_ hy, by rw [turn_len]; exact h.len, ?_⟩
  rcases h.ln with ⟨a, ha⟩ | ⟨a, ha⟩
  · obtain ⟨b, hb⟩ := nat a (lr (turn u)) (fun i => by have := lr_add (turn u) i; rw [turn_len] at this; exact this)
    refine .inr ⟨b, fun i => ?_⟩
    rw [← hb, lr_turn h.cr.ne, ha, lr_turn hu.ne]
    congr 2
    omega
  · obtain ⟨b, hb⟩ := nat a (lr u) (fun i => lr_add u i)
    refine .inl ⟨b, fun i => ?_⟩
    rw [← hb, lr_turn h.cr.ne, ha, lr_turn hu.ne, con_con (hy.let_ _ (hu.at _))]
    congr 1
    omega
set_option maxRecDepth 100000
set_option maxHeartbeats 1000000
set_option maxRecDepth 100000
set_option maxHeartbeats 1000000
set_option maxRecDepth 100000
set_option maxHeartbeats 1000000
set_option maxRecDepth 100000
set_option maxHeartbeats 1000000
set_option maxRecDepth 100000
set_option maxHeartbeats 1000000
set_option maxRecDepth 100000
set_option maxHeartbeats 1000000
theorem mt3_le (y : List Nat) (f g : Int → Nat) (n : Nat) : mt3 y f g n ≤ n := by
  have h := (agree_spec f g n).1
  unfold mt3
  split
  · exact Nat.zero_le _
  · split
    · rw [Nat.mul_one]; exact h
    · rw [Nat.mul_zero]; exact Nat.zero_le _
structure ThB (t : Th) : Prop where
  a : t.1 < 2 ^ 20
  b : t.2.1 < 2 ^ 20
  c : t.2.2.1 < 2 ^ 20
  d : t.2.2.2.1 < 2 ^ 20
  e : t.2.2.2.2.1 < 2 ^ 20
  f : t.2.2.2.2.2 = tAc ∨ t.2.2.2.2.2 = tAl ∨ t.2.2.2.2.2 = tAg
theorem thAt_b {y : List Nat} {ws : List (List Nat)} {c i d j : Nat} (hc : c < 2 ^ 20) (hd : d < 2 ^ 20) (hi : i < 2 ^ 20) (hj : j < 2 ^ 20) (hn : (wAt ws c).length + (wAt ws d).length < 2 ^ 20) {t : Th} (ht : t ∈ thAt y ws c i d j) : ThB t := by
  have l1 : along y (wAt ws c) i (wAt ws d) j < 2 ^ 20 := Nat.lt_of_le_of_lt (mt3_le _ _ _ _) hn
  have l2 : against y (wAt ws c) i (wAt ws d) j < 2 ^ 20 := Nat.lt_of_le_of_lt (mt3_le _ _ _ _) hn
  have one : ∀ (b : Prop) [Decidable b] (u : Th), t ∈ (if b then [u] else []) → t = u := fun b _ u h => by
    split at h
    · exact List.mem_singleton.mp h
    · cases h
  unfold thAt at ht
  rcases List.mem_append.mp ht with h | h
  · split at h
    · rcases List.mem_append.mp h with h | h
      · rw [one _ _ h]
        exact ⟨hc, hi, hd, hj, by show 0 < 2 ^ 20; omega, .inl rfl⟩
      · rw [one _ _ h]
        exact ⟨hc, hi, hd, hj, l1, .inr (.inl rfl)⟩
    · cases h
  · rw [one _ _ h]
    exact ⟨hc, hi, hd, hj, l2, .inr (.inr rfl)⟩
theorem WsL.b {y : List Nat} {ws : List (List Nat)} (h : WsL y ws) {t : Th} (ht : t ∈ allTh y ws) : ThB t := by
  have few := h.ok.few
  unfold allTh at ht
  obtain ⟨c, hc, ht⟩ := List.mem_flatMap.mp ht
  have hc := List.mem_range.mp hc
  unfold rowD at ht
  obtain ⟨k, hk, ht⟩ := List.mem_flatMap.mp ht
  have hk := List.mem_range.mp hk
  have hd : c + k < ws.length := by omega
  unfold rowI at ht
  obtain ⟨i, hi, ht⟩ := List.mem_flatMap.mp ht
  have hi := List.mem_range.mp hi
  unfold rowJ at ht
  obtain ⟨j, hj, ht⟩ := List.mem_flatMap.mp ht
  have hj := List.mem_range.mp hj
  have l1 := (h.ok.at hc).few
  have l2 := (h.ok.at hd).few
  exact thAt_b (by omega) (by omega) (by omega) (by omega) (by omega) ht
theorem Srt.same {L : List Th} {p q : List (List PuE.Itm)} (h : Srt L p) (g : Srt L q) : p = q := ltN_unique h.up g.up (h.perm.trans g.perm.symm)
set_option maxRecDepth 100000
set_option maxHeartbeats 1000000
set_option maxRecDepth 100000
set_option maxHeartbeats 1000000
def m_least : PM := fun ds st Q => match ds with
  | [.str y, .tup wd] => ∃ ws : List (List Nat), wd = ws.map D.str ∧ WsL y ws ∧ Q (.d (.int (lst y ws))) st
  | _ => False
theorem least_i {y : List Nat} {ws : List (List Nat)} {s : Sto} {Q : C → Sto → Prop} (h : WsL y ws) (q : Q (.d (.int (lst y ws))) s) : m_least [.str y, .tup (ws.map D.str)] s Q := ⟨ws, rfl, h, q⟩
def t_least : PTS := sRet (t2 (tCallP pLen (rCons (tCall0 m_forced (tCons (tName 0) (tCons (tName 1) (tNil)))) (rNil))) (tCallP pSum (rCons (cLc (iAny (tName 1)) (gName 2) (cYes) (t2 (t2 (tCall0 m_root (tCons (tName 2) (tNil))) (tD (.int 1)) pIx) (tD (.int 1)) pSub) [2]) (rNil))) pAdd)
abbrev N_least : List Str := ["yard", "words", "word"]
theorem len_least (ds : List D) (s : Sto) (Q : C → Sto → Prop) (h : m_least ds s Q) : ds.length = 2 := by
  unfold m_least at h
  split at h
  · rfl
  · exact h.elim
theorem p_least (ds : List D) (s : Sto) (Q : C → Sto → Prop) (h : m_least ds s Q) : t_least noX { nx := fun e => Q (.d .non) e.st, rt := fun c e => Q c e.st } ⟨startC N_least ds, s⟩ := by
  unfold m_least at h
  split at h
  · rename_i y wd
    obtain ⟨ws, rfl, hw, q⟩ := h
    have few := hw.ok.few
    unfold t_least
    simpa?! only []
    refine forced_i hw fun qs hqs => ?_
    have hl : qs.length = (allTh y ws).length := by rw [hqs.perm.length_eq, List.length_map]
    simpa?! only []
    refine ⟨by rw [List.length_map]; omega, ?_⟩
    refine lcH_mm (fun w => .int (((tm w : Nat) : Int) - 1)) (fun w hwm K k => ?_) ?_
    · have hc := hw.ok.wk w hwm
      have hW := hc.cr.W hw.ok.yk.yd
      have hl := hc.few
      simpa?! only [e_root]
      refine ⟨hW, by omega, ?_⟩
      rw [hc.cr.rootP_ hw.ok.yk.yd]
      simpa?! only []
      refine opt_of (a := .int ((tm w : Nat) : Int)) rfl ?_
      simpa?! only []
      exact k
    · simpa?! only []
      refine sum_ok (ns := ws.map fun w => ((tm w : Nat) : Int) - 1) (by rw [List.map_map]; rfl) ?_
      simpa?! only []
      rw [List.length_map, hl]
      exact q
  · exact h.elim
def m_own : PM := fun ds st Q => match ds with
  | [.str y, .str w] => WsL y [w] ∧ Q (.d (.int (lst y [w]))) st
  | _ => False
theorem own_i {y w : List Nat} {s : Sto} {Q : C → Sto → Prop} (h : WsL y [w]) (q : Q (.d (.int (lst y [w]))) s) : m_own [.str y, .str w] s Q := ⟨h, q⟩
def t_own : PTS := sRet (tCall0 m_least (tCons (tName 0) (tCons (tTup (tCons (tName 1) (tNil))) (tNil))))
abbrev N_own : List Str := ["yard", "word"]
theorem len_own (ds : List D) (s : Sto) (Q : C → Sto → Prop) (h : m_own ds s Q) : ds.length = 2 := by
  unfold m_own at h
  split at h
  · rfl
  · exact h.elim
theorem p_own (ds : List D) (s : Sto) (Q : C → Sto → Prop) (h : m_own ds s Q) : t_own noX { nx := fun e => Q (.d .non) e.st, rt := fun c e => Q c e.st } ⟨startC N_own ds, s⟩ := by
  unfold m_own at h
  split at h
  · rename_i y w
    obtain ⟨hw, q⟩ := h
    unfold t_own
    simpa?! only []
    refine least_i (ws := [w]) hw ?_
    simpa?! only []
    exact q
  · exact h.elim
set_option maxRecDepth 100000
set_option maxHeartbeats 1000000
theorem redR_mem : ∀ (w s : List Nat) (c : Nat), c ∈ redR s w → c ∈ s ∨ c ∈ w
  | [], s, c, h => .inl h
  | a :: w, s, c, h => by
    rcases redR_mem w (rpush s a) c h with h | h
    · unfold rpush at h
      split at h
      · exact .inr (by rw [List.mem_singleton.mp h]; simp)
      · split at h
        · exact .inl (List.mem_cons_of_mem _ h)
        · rcases List.mem_cons.mp h with h | h
          · exact .inr (by rw [h]; simp)
          · exact .inl h
    · exact .inr (List.mem_cons_of_mem _ h)
theorem red_mem {w : List Nat} {c : Nat} (h : c ∈ red w) : c ∈ w := by
  unfold red at h
  rcases redR_mem w [] c (List.mem_reverse.mp h) with h | h
  · cases h
  · exact h
theorem cyc_mem (v : List Nat) : ∀ c ∈ cyc v, c ∈ v := by
  induction v using cyc.induct with
  | case1 v h ih =>
    rw [cyc, if_pos h]
    exact fun c hc => List.mem_of_mem_tail ((List.dropLast_sublist _).subset (ih c hc))
  | case2 v h =>
    rw [cyc, if_neg h]
    exact fun c hc => hc
theorem core_len_ (w : List Nat) : (core w).length ≤ w.length := core_len w
theorem core_cr {y w : List Nat} (hy : YardOk y) (hw : ∀ c ∈ w, c ∈ y) (h : core w ≠ []) : CrW y (core w) := by
  have hW : IsW w := fun c hc => hy.let_ _ (hw c hc)
  have na : NoAdj (core w) := cyc_noadj (red_noadj' hW)
  have nc : cyc (core w) = core w := cyc_cyc _
  have hm : ∀ c ∈ core w, c ∈ y := fun c hc => hw _ (red_mem (cyc_mem _ _ hc))
  refine crW_of h hm (fun k a b ha hb e => ?_) fun a b ha hb e => ?_
  · refine noadj_get na k a b ha hb ?_
    rw [e, con_con (hy.let_ _ (hm _ (List.mem_of_getElem? ha)))]
  · by_cases l : 1 < (core w).length
    · have h1 : (core w).head? = some a := by rw [List.head?_eq_getElem?]; exact ha
      have h2 : (core w).getLast? = some b := by rw [List.getLast?_eq_getElem?]; exact hb
      have := cyc_in l h1 h2 e
      rw [nc] at this
      have l2 := congrArg List.length this
      have l3 := cyc_len (core w).tail.dropLast
      rw [List.length_dropLast, List.length_tail] at l3
      omega
    · have l1 : (core w).length - 1 = 0 := by omega
      rw [l1, ha] at hb
      have : a = b := Option.some.inj hb
      rw [← this] at e
      exact con_ne (hy.let_ _ (hm _ (List.mem_of_getElem? ha))) e.symm
def loneB (y w : List Nat) : Bool := decide (core w ≠ []) && decide (lst y [core w] = 0)
structure Ln (y w : List Nat) : Prop where
  yk : YOk y
  mem : ∀ c ∈ w, c ∈ y
  few : w.length ≤ 24
theorem Ln.W {y w : List Nat} (h : Ln y w) : IsW w := fun c hc => h.yk.yd.let_ _ (h.mem c hc)
theorem Ln.wk {y w : List Nat} (h : Ln y w) (h0 : core w ≠ []) : WOk y (core w) := ⟨core_cr h.yk.yd h.mem h0, by have := core_len_ w; have := h.few; omega⟩
theorem Ln.ws {y w : List Nat} (h : Ln y w) (h0 : core w ≠ []) : WsL y [core w] := ⟨⟨h.yk, fun v hv => by rw [List.mem_singleton.mp hv]; exact h.wk h0, by simp⟩, by have := core_len_ w; have := h.few; simp; omega⟩
def m_is_lone : PM := fun ds st Q => match ds with
  | [.str y, .str w] => Ln y w ∧ Q (.d (.bl (loneB y w))) st
  | _ => False
theorem lone_i {y w : List Nat} (h : Ln y w) {st : Sto} {Q : C → Sto → Prop} : m_is_lone [.str y, .str w] st Q = Q (.d (.bl (loneB y w))) st := propext ⟨fun z => z.2, fun z => ⟨h, z⟩⟩
def t_is_lone : PTS := sSeq (sAsg 2 (tCall0 m_shortest (tCons (tName 1) (tNil)))) (sRet (tAndV (t2 (tName 2) (tD (.str [])) pNe) (t2 (tCall0 m_own (tCons (tName 0) (tCons (tName 2) (tNil)))) (tD (.int 0)) pEq)))
abbrev N_is_lone : List Str := ["yard", "word", "short"]
theorem len_is_lone (ds : List D) (s : Sto) (Q : C → Sto → Prop) (h : m_is_lone ds s Q) : ds.length = 2 := by
  unfold m_is_lone at h
  split at h
  · rfl
  · exact h.elim
theorem p_is_lone (ds : List D) (s : Sto) (Q : C → Sto → Prop) (h : m_is_lone ds s Q) : t_is_lone noX { nx := fun e => Q (.d .non) e.st, rt := fun c e => Q c e.st } ⟨startC N_is_lone ds, s⟩ := by
  unfold m_is_lone at h
  split at h
  · rename_i y w
    obtain ⟨hl, q⟩ := h
    have hW := hl.W
    have hf := hl.few
    have es : ∀ {s Q}, m_shortest [.str w] s Q = Q (.d (.str (core w))) s := fun {s Q} => by
      rw [e_shortest]
      exact propext ⟨fun z => z.2.2, fun z => ⟨hW, by omega, z⟩⟩
    unfold t_is_lone
    simpa?! only [es]
    unfold loneB at q
    by_cases z : core w = []
    · rw [z] at q ⊢
      simpa?! only []
      exact q
    · rw [decide_eq_false z]
      rw [decide_eq_true z] at q
      simpa?! only []
      refine own_i (hl.ws z) ?_
      simpa?! only []
      exact q
  · exact h.elim
set_option maxRecDepth 100000
set_option maxHeartbeats 1000000
set_option maxRecDepth 100000
set_option maxHeartbeats 1000000
def sortAH (ds : List D) (h : HB (R → Prop)) : Prop := pSortA [.lst ds] h.b
theorem x_sortA {ds Q} : pSortA [.lst ds] Q = sortAH ds (HB.mk Q ()) := rfl
theorem sortA_ok {ls : List (List Nat)} {Q : R → Prop} (hl : ls.length ≤ 16777216) (q : Q (.own ((srt ls).map D.str))) : sortAH (ls.map D.str) (HB.mk Q ()) := by
  show pSortA [.lst (ls.map D.str)] Q
  unfold pSortA
  have e : strL (ls.map D.str) = some ls := strL_map ls
  simp only [e]
  refine ⟨hl, fun r' hp hs => ?_⟩
  have : r' = srt ls := asc_unique (asc_of hs) (srt_asc ls) (hp.trans (srt_perm ls).symm)
  rw [this]
  exact q
def lastN (w : List Nat) : Nat := w.getLast?.getD 0
def nextW (y : List Nat) (l : List (List Nat)) : List (List Nat) := l.flatMap fun w => (y.filter fun c => !decide (c = con (lastN w))).map fun c => w ++ [c]
def wds (y : List Nat) : Nat → List (List Nat)
  | 0 => y.map fun c => [c]
  | m + 1 => nextW y (wds y m)
theorem wds_mem {y : List Nat} : ∀ {m : Nat} {w : List Nat}, w ∈ wds y m → w.length = m + 1 ∧ ∀ c ∈ w, c ∈ y
  | 0, w, h => by
    obtain ⟨c, hc, rfl⟩ := List.mem_map.mp h
    exact ⟨rfl, fun d hd => by rw [List.mem_singleton.mp hd]; exact hc⟩
  | m + 1, w, h => by
    obtain ⟨v, hv, h2⟩ := List.mem_flatMap.mp h
    obtain ⟨c, hc, rfl⟩ := List.mem_map.mp h2
    obtain ⟨l1, l2⟩ := wds_mem hv
    refine ⟨by rw [List.length_append, l1]; rfl, fun d hd => ?_⟩
    rcases List.mem_append.mp hd with z | z
    · exact l2 d z
    · rw [List.mem_singleton.mp z]; exact (List.mem_filter.mp hc).1
theorem next_len (y : List Nat) (l : List (List Nat)) : (nextW y l).length ≤ l.length * y.length := by
  unfold nextW
  induction l with
  | nil => simp
  | cons w l ih =>
    rw [List.flatMap_cons, List.length_append, List.length_map, List.length_cons, Nat.add_mul, Nat.one_mul]
    have := List.length_filter_le (fun c => !decide (c = con (lastN w))) y
    omega
theorem wds_len {y : List Nat} (h : y.length ≤ 8) : ∀ m, (wds y m).length ≤ 8 ^ (m + 1)
  | 0 => by show (y.map _).length ≤ _; rw [List.length_map]; simpa using h
  | m + 1 => by
    have h1 := next_len y (wds y m)
    have h2 := wds_len h m
    have : (wds y m).length * y.length ≤ 8 ^ (m + 1) * 8 := Nat.mul_le_mul h2 h
    exact Nat.le_trans h1 (by rw [Nat.pow_succ 8 (m + 1)]; exact this)
theorem last_ok {w : List Nat} (h : w ≠ []) : w.getLast? = some (lastN w) := by
  unfold lastN
  rw [List.getLast?_eq_some_getLast h]
  rfl
/-- loops of lone cords of so many letters -/
def isLL (y w : List Nat) : Bool := decide (core w = w) && (decide (loop w = w) && loneB y w)
def pick (y : List Nat) (l : List (List Nat)) : List (List Nat) := srt (l.filter (isLL y))
def LL (y : List Nat) (n : Nat) : List (List Nat) := (List.range n).flatMap fun m => pick y (wds y m)
theorem LL_succ (y : List Nat) (n : Nat) : LL y (n + 1) = LL y n ++ pick y (wds y n) := by
  unfold LL
  rw [List.range_succ, List.flatMap_append]
  simp
theorem pick_len (y : List Nat) (l : List (List Nat)) : (pick y l).length ≤ l.length := by
  unfold pick
  rw [srt_len]
  exact List.length_filter_le _ _
theorem LL_len {y : List Nat} (h : y.length ≤ 8) : ∀ n, (LL y n).length ≤ n * 8 ^ n
  | 0 => by simp [LL]
  | n + 1 => by
    rw [LL_succ, List.length_append]
    have h1 := LL_len h n
    have h2 := Nat.le_trans (pick_len y (wds y n)) (wds_len h n)
    have h3 : n * 8 ^ n ≤ n * 8 ^ (n + 1) := Nat.mul_le_mul_left n (Nat.pow_le_pow_right (by omega) (by omega))
    rw [Nat.add_mul, Nat.one_mul]
    omega
def m_longer : PM := fun ds st Q => match ds with
  | [.str y, .lst wd] => ∃ l : List (List Nat), wd = l.map D.str ∧ YardOk y ∧ y.length ≤ 8 ∧ l.length ≤ 262144 ∧ (∀ w ∈ l, w ≠ [] ∧ (∀ c ∈ w, c ∈ y) ∧ w.length ≤ 64) ∧ Q (.own ((nextW y l).map D.str)) st
  | _ => False
def t_longer : PTS := sSeq (sAsg 2 (tLst (tNil))) (sSeq (sFor (iAny (tName 1)) (gName 3) (sDrop (tMut mExtend (tName 2) (tCons (cLc (iAny (tName 0)) (gName 4) (tB (t2 (tName 4) (tCall0 m_contrary (tCons (t2 (tName 3) (t1 (tD (.int 1)) pNeg) pIx) (tNil))) pNe)) (t2 (tName 3) (tName 4) pAdd) [4]) (tNil))))) (sRet (tName 2)))
abbrev N_longer : List Str := ["yard", "words", "found", "word", "letter"]
theorem len_longer (ds : List D) (s : Sto) (Q : C → Sto → Prop) (h : m_longer ds s Q) : ds.length = 2 := by
  unfold m_longer at h
  split at h
  · rfl
  · exact h.elim
theorem p_longer (ds : List D) (s : Sto) (Q : C → Sto → Prop) (h : m_longer ds s Q) : t_longer noX { nx := fun e => Q (.d .non) e.st, rt := fun c e => Q c e.st } ⟨startC N_longer ds, s⟩ := by
  unfold m_longer at h
  split at h
  · rename_i y wd
    obtain ⟨l, rfl, hy, yl, hl, hw, q⟩ := h
    unfold t_longer
    try simpa?! only []
    refine forH_map (fun w => .str w) l (fun pre suf e => ∃ c3 : C, e = ⟨[.d (.str y), .d (.lst (l.map D.str)), .own ((nextW y pre).map D.str), c3, .un], s⟩) ⟨_, rfl⟩ ?_ ?_
    · rintro e ⟨c3, rfl⟩
      try simpa?! only []
      exact q
    · rintro pre w suf e hps ⟨c3, rfl⟩ N hN
      obtain ⟨w0, w1, w2⟩ := hw w (by rw [← hps]; simp)
      have hlc : lastN w ∈ y := w1 _ (List.mem_of_getLast? (last_ok w0))
      try simpa?! only []
      refine ⟨by rw [signs_len]; omega, ?_⟩
      refine lcH_fm (l := y) (g0 := fun c => .str [c]) (fun c => !decide (c = con (lastN w))) (fun c => .str (w ++ [c])) (fun c hc K k => ?_) ?_
      · have cc : ∀ {s Q}, m_contrary [.str [lastN w]] s Q = Q (.d (.str [con (lastN w)])) s := fun {s Q} => @con_eq _ (hy.let_ _ hlc) s Q
        try simpa?! only []
        refine at_last (last_ok w0) ?_
        try simpa?! only [cc]
        by_cases h2 : c = con (lastN w)
        · rw [decide_eq_true h2] at k
          refine br_neg (by simp [h2]) ?_
          try simpa?! only []
          exact k
        · rw [decide_eq_false h2] at k
          refine br_pos (by simp [h2]) ?_
          try simpa?! only []
          exact ⟨by omega, k⟩
      · try simpa?! only []
        have pl : pre.length ≤ 262144 := by
          have := congrArg List.length hps
          rw [List.length_append] at this
          omega
        have n1 := next_len y pre
        have n2 : pre.length * y.length ≤ 262144 * 8 := Nat.mul_le_mul pl yl
        have n3 := List.length_filter_le (fun c => !decide (c = con (lastN w))) y
        refine ⟨by rw [List.length_map, List.length_map]; omega, ?_⟩
        have eL : (nextW y pre).map D.str ++ ((y.filter fun c => !decide (c = con (lastN w))).map fun c => D.str (w ++ [c])) = (nextW y (pre ++ [w])).map D.str := by
          unfold nextW
          rw [List.flatMap_append, List.map_append]
          congr 1
          simp
        rw [eL]
        exact hN _ ⟨_, rfl⟩
  · exact h.elim
def m_lone_loops : PM := fun ds st Q => match ds with
  | [.str y, .int n] => YOk y ∧ y ≠ [] ∧ y.length ≤ 8 ∧ 0 ≤ n ∧ n ≤ 6 ∧ Q (.own ((LL y n.toNat).map D.str)) st
  | _ => False
theorem LL_i {y : List Nat} {n : Int} (h1 : YOk y) (h2 : y ≠ []) (h3 : y.length ≤ 8) (h4 : 0 ≤ n) (h5 : n ≤ 6) {st : Sto} {Q : C → Sto → Prop} (q : Q (.own ((LL y n.toNat).map D.str)) st) : m_lone_loops [.str y, .int n] st Q := ⟨h1, h2, h3, h4, h5, q⟩
def t_lone_loops : PTS := sSeq (sAsg 2 (tLst (tNil))) (sSeq (sAsg 3 (tCallP pList (rCons (tName 0) (rNil)))) (sSeq (sFor (iPure pRng1 (rCons (tName 1) (rNil))) (gName 4) (sSeq (sAsg 5 (cLc (iAny (tName 3)) (gName 6) (tAnd (tB (t2 (tCall0 m_shortest (tCons (tName 6) (tNil))) (tName 6) pEq)) (tB (t2 (tCall0 m_loop (tCons (tName 6) (tNil))) (tName 6) pEq))) (tName 6) [6])) (sSeq (sDrop (tMut mExtend (tName 2) (tCons (tCallP pSortA (rCons (cLc (iAny (tName 5)) (gName 6) (tB (tCall0 m_is_lone (tCons (tName 0) (tCons (tName 6) (tNil))))) (tName 6) [6]) (rNil))) (tNil)))) (sIf (tB (t2 (tName 4) (t2 (tName 1) (tD (.int 1)) pSub) pLt)) (sAsg 3 (tCall0 m_longer (tCons (tName 0) (tCons (tName 3) (tNil))))) (sNext))))) (sRet (tName 2))))
abbrev N_lone_loops : List Str := ["yard", "length", "found", "words", "many", "some", "word"]
theorem len_lone_loops (ds : List D) (s : Sto) (Q : C → Sto → Prop) (h : m_lone_loops ds s Q) : ds.length = 2 := by
  unfold m_lone_loops at h
  split at h
  · rfl
  · exact h.elim
theorem wds_n {y : List Nat} (h : y.length ≤ 8) {m : Nat} (hm : m ≤ 5) : (wds y m).length ≤ 262144 := Nat.le_trans (wds_len h m) (Nat.le_trans (Nat.pow_le_pow_right (by omega) (show m + 1 ≤ 6 by omega)) (by decide))
theorem LL_n {y : List Nat} (h : y.length ≤ 8) {m : Nat} (hm : m ≤ 6) : (LL y m).length ≤ 1572864 := by
  have h1 := LL_len h m
  have h2 : m * 8 ^ m ≤ 6 * 8 ^ 6 := Nat.mul_le_mul hm (Nat.pow_le_pow_right (by omega) hm)
  have : 6 * 8 ^ 6 = 1572864 := by decide
  omega
theorem wds_ln {y : List Nat} (h : YOk y) {m : Nat} (hm : m ≤ 5) {w : List Nat} (hw : w ∈ wds y m) : Ln y w := ⟨h, (wds_mem hw).2, by have := (wds_mem hw).1; omega⟩
theorem p_lone_loops (ds : List D) (s : Sto) (Q : C → Sto → Prop) (h : m_lone_loops ds s Q) : t_lone_loops noX { nx := fun e => Q (.d .non) e.st, rt := fun c e => Q c e.st } ⟨startC N_lone_loops ds, s⟩ := by
  unfold m_lone_loops at h
  split at h
  · rename_i y n
    obtain ⟨yk, y0, yl, n0, n1, q⟩ := h
    obtain ⟨n, rfl⟩ := Int.eq_ofNat_of_zero_le n0
    rw [Int.toNat_natCast] at q
    unfold t_lone_loops
    try simpa?! only [x_sortA]
    refine ⟨⟨by omega, by omega⟩, ?_⟩
    refine forH_rng 0 n (fun k e => ∃ (c3 c4 c5 : C), e = ⟨[.d (.str y), .d (.int (n : Nat)), .own ((LL y k).map D.str), c3, c4, c5, .un], s⟩ ∧ (k < n → c3 = .own ((wds y k).map D.str))) ⟨_, _, _, rfl, fun _ => by simp only [wds]; rw [List.map_map]; rfl⟩ ?_ ?_
    · rintro e ⟨c3, c4, c5, rfl, _⟩
      try simpa?! only []
      exact q
    · rintro k e hk ⟨c3, c4, c5, rfl, h3⟩ N hN
      rw [h3 hk]
      have ln : ∀ w ∈ wds y k, Ln y w := fun w hw => wds_ln yk (by omega) hw
      have wn := wds_n yl (m := k) (by omega)
      try simpa?! only []
      refine ⟨by rw [List.length_map]; omega, ?_⟩
      refine lcH_fm (fun w => decide (core w = w) && decide (loop w = w)) (fun w => .str w) (fun w hw K kk => ?_) ?_
      · have hl := ln w hw
        have hf := hl.few
        have es : ∀ {s Q}, m_shortest [.str w] s Q = Q (.d (.str (core w))) s := fun {s Q} => by
          rw [e_shortest]
          exact propext ⟨fun z => z.2.2, fun z => ⟨hl.W, by omega, z⟩⟩
        have el : ∀ {s Q}, m_loop [.str w] s Q = Q (.d (.str (loop w))) s := fun {s Q} => by
          rw [e_loop]
          exact propext ⟨fun z => z.2.2, fun z => ⟨hl.W, by omega, z⟩⟩
        try simpa?! only [es]
        by_cases h1 : core w = w
        · refine br_pos (decide_eq_true h1) ?_
          try simpa?! only [el]
          by_cases h2 : loop w = w
          · have e1 : (decide (core w = w) && decide (loop w = w)) = true := by rw [decide_eq_true h1, decide_eq_true h2]; rfl
            rw [e1] at kk
            refine br_pos (decide_eq_true h2) ?_
            try simpa?! only []
            exact kk
          · have e1 : (decide (core w = w) && decide (loop w = w)) = false := by rw [decide_eq_false h2, Bool.and_false]
            rw [e1] at kk
            refine br_neg (decide_eq_false h2) ?_
            try simpa?! only []
            exact kk
        · have e1 : (decide (core w = w) && decide (loop w = w)) = false := by rw [decide_eq_false h1]; rfl
          rw [e1] at kk
          refine br_neg (decide_eq_false h1) ?_
          try simpa?! only []
          exact kk
      · try simpa?! only []
        have fl := List.length_filter_le (fun w => decide (core w = w) && decide (loop w = w)) (wds y k)
        refine ⟨by rw [List.length_map]; omega, ?_⟩
        refine lcH_fm (loneB y) (fun w => .str w) (fun w hw K kk => ?_) ?_
        · have e1 := @lone_i y w (ln w (List.mem_filter.mp hw).1)
          try simpa?! only [e1]
          cases hz : loneB y w with
          | true =>
            rw [hz] at kk
            refine br_pos rfl ?_
            try simpa?! only []
            exact kk
          | false =>
            rw [hz] at kk
            refine br_neg rfl ?_
            try simpa?! only []
            exact kk
        · try simpa?! only [x_sortA]
          have ef : ((wds y k).filter fun w => decide (core w = w) && decide (loop w = w)).filter (loneB y) = (wds y k).filter (isLL y) := by
            rw [List.filter_filter]
            refine List.filter_congr fun w _ => ?_
            unfold isLL
            cases loneB y w <;> cases decide (core w = w) <;> cases decide (loop w = w) <;> rfl
          rw [ef]
          have fl2 := List.length_filter_le (isLL y) (wds y k)
          have pl := pick_len y (wds y k)
          have ll := LL_n yl (m := k) (by omega)
          refine sortA_ok (ls := (wds y k).filter (isLL y)) (by omega) ?_
          have ep : srt ((wds y k).filter (isLL y)) = pick y (wds y k) := rfl
          rw [ep]
          try simpa?! only []
          refine ⟨by rw [List.length_map, List.length_map]; omega, ?_⟩
          have eL : (LL y k).map D.str ++ (pick y (wds y k)).map D.str = (LL y (k + 1)).map D.str := by rw [LL_succ, List.map_append]
          rw [eL]
          refine br_intro (fun z => ?_) fun z => ?_
          · have z := of_decide_eq_true z
            try simpa?! only []
            refine ⟨wds y k, rfl, yk.yd, yl, wn, fun w hw => ⟨fun q => by have := (wds_mem hw).1; rw [q] at this; simp at this, (wds_mem hw).2, by have := (wds_mem hw).1; omega⟩, ?_⟩
            try simpa?! only []
            exact hN _ ⟨_, _, _, rfl, fun _ => rfl⟩
          · have z := of_decide_eq_false z
            try simpa?! only []
            exact hN _ ⟨_, _, _, rfl, fun q => by omega⟩
  · exact h.elim
set_option maxRecDepth 100000
set_option maxHeartbeats 1000000
def y00 : List Nat := [97, 98, 65, 66]
def isCl (es : List (List Nat)) (w : List Nat) : Bool := es.any fun e => decide (e.length = w.length) && (List.range w.length).any fun k => decide (rot e k = w) || decide (rot (turn e) k = w)
/-- as even as can be -/
def evE (x y p q : Nat) : Nat → Nat → List Nat
  | 0, _ => []
  | m + 1, at_ => (if (at_ + q) % (p + q) < q then y else x) :: evE x y p q m ((at_ + q) % (p + q))
def evenE (x y p q : Nat) : List Nat := evE x y p q (p + q) 0
def dueE (x y n : Nat) : List (List Nat) := ((List.range (n + 1)).flatMap fun p => (List.range (n + 1 - p)).flatMap fun q => if Nat.gcd p q = 1 then [evenE x y p q, evenE x (con y) p q] else []) ++ (if 3 < n then [[x, y, con x, con y]] else [])
def chkW (es : List (List Nat)) (y w : List Nat) : Bool := !decide (core w = w) || (isCl es w || !loneB y w)
/-- k letters more -/
def nxW (y : List Nat) : Nat → List (List Nat) → List (List Nat)
  | 0, l => l
  | k + 1, l => nxW y k (nextW y l)
theorem next_flat (y : List Nat) (l : List (List Nat)) : nextW y l = l.flatMap fun w => nextW y [w] := by
  unfold nextW
  simp
theorem nxW_flat (y : List Nat) : ∀ (k : Nat) (l : List (List Nat)), nxW y k l = l.flatMap fun w => nxW y k [w]
  | 0, l => by simp [nxW]
  | k + 1, l => by
    show nxW y k (nextW y l) = l.flatMap fun w => nxW y k (nextW y [w])
    rw [nxW_flat y k, next_flat, List.flatMap_assoc]
    refine congrArg (fun f => List.flatMap f l) (funext fun w => ?_)
    rw [← nxW_flat]
theorem wds_nx (y : List Nat) (m : Nat) : ∀ k, wds y (m + k) = nxW y k (wds y m) := by
  intro k
  have key : ∀ (k : Nat) (l : List (List Nat)), nxW y k (nextW y l) = nextW y (nxW y k l) := fun k => by
    induction k with
    | zero => intro l; rfl
    | succ k ih => intro l; show nxW y k (nextW y (nextW y l)) = nextW y (nxW y k (nextW y l)); exact ih _
  induction k with
  | zero => rfl
  | succ k ih =>
    show nextW y (wds y (m + k)) = nxW y k (nextW y (wds y m))
    rw [ih, key]
theorem wE0 : (wds y00 0).all (chkW (dueE 97 98 6) y00) = true := by decide +kernel
theorem wE1 : (wds y00 1).all (chkW (dueE 97 98 6) y00) = true := by decide +kernel
theorem wE2 : (wds y00 2).all (chkW (dueE 97 98 6) y00) = true := by decide +kernel
theorem wE3 : (wds y00 3).all (chkW (dueE 97 98 6) y00) = true := by decide +kernel
theorem wE4_0 : (nxW y00 4 [[97]]).all (chkW (dueE 97 98 6) y00) = true := by decide +kernel
theorem wE4_1 : (nxW y00 4 [[98]]).all (chkW (dueE 97 98 6) y00) = true := by decide +kernel
theorem wE4_2 : (nxW y00 4 [[65]]).all (chkW (dueE 97 98 6) y00) = true := by decide +kernel
theorem wE4_3 : (nxW y00 4 [[66]]).all (chkW (dueE 97 98 6) y00) = true := by decide +kernel
theorem wE5_0 : (nxW y00 4 [[97, 97]]).all (chkW (dueE 97 98 6) y00) = true := by decide +kernel
theorem wE5_1 : (nxW y00 4 [[97, 98]]).all (chkW (dueE 97 98 6) y00) = true := by decide +kernel
theorem wE5_2 : (nxW y00 4 [[97, 66]]).all (chkW (dueE 97 98 6) y00) = true := by decide +kernel
theorem wE5_3 : (nxW y00 4 [[98, 97]]).all (chkW (dueE 97 98 6) y00) = true := by decide +kernel
theorem wE5_4 : (nxW y00 4 [[98, 98]]).all (chkW (dueE 97 98 6) y00) = true := by decide +kernel
theorem wE5_5 : (nxW y00 4 [[98, 65]]).all (chkW (dueE 97 98 6) y00) = true := by decide +kernel
theorem wE5_6 : (nxW y00 4 [[65, 98]]).all (chkW (dueE 97 98 6) y00) = true := by decide +kernel
theorem wE5_7 : (nxW y00 4 [[65, 65]]).all (chkW (dueE 97 98 6) y00) = true := by decide +kernel
theorem wE5_8 : (nxW y00 4 [[65, 66]]).all (chkW (dueE 97 98 6) y00) = true := by decide +kernel
theorem wE5_9 : (nxW y00 4 [[66, 97]]).all (chkW (dueE 97 98 6) y00) = true := by decide +kernel
theorem wE5_10 : (nxW y00 4 [[66, 65]]).all (chkW (dueE 97 98 6) y00) = true := by decide +kernel
theorem wE5_11 : (nxW y00 4 [[66, 66]]).all (chkW (dueE 97 98 6) y00) = true := by decide +kernel
theorem wE : ∀ m, m < 6 → (wds y00 m).all (chkW (dueE 97 98 6) y00) = true
  | 0, _ => wE0
  | 1, _ => wE1
  | 2, _ => wE2
  | 3, _ => wE3
  | 4, _ => by
    have e : wds y00 0 = [[97], [98], [65], [66]] := by decide +kernel
    rw [show (4 : Nat) = 0 + 4 from rfl, wds_nx, nxW_flat, e]
    simp only [List.flatMap_cons, List.flatMap_nil, List.all_append, wE4_0, wE4_1, wE4_2, wE4_3]
    rfl
  | 5, _ => by
    have e : wds y00 1 = [[97, 97], [97, 98], [97, 66], [98, 97], [98, 98], [98, 65], [65, 98], [65, 65], [65, 66], [66, 97], [66, 65], [66, 66]] := by decide +kernel
    rw [show (5 : Nat) = 1 + 4 from rfl, wds_nx, nxW_flat, e]
    simp only [List.flatMap_cons, List.flatMap_nil, List.all_append, wE5_0, wE5_1, wE5_2, wE5_3, wE5_4, wE5_5, wE5_6, wE5_7, wE5_8, wE5_9, wE5_10, wE5_11]
    rfl
theorem wE_lone : (dueE 97 98 6).all (fun e => decide (core e = e) && loneB y00 e) = true := by decide +kernel
def y01 : List Nat := [97, 65, 98, 66]
def due3 (x y : Nat) : List (List Nat) := [[x], [y], [x, y]]
theorem wF : ∀ m, m < 4 → (wds y01 m).all (chkW (due3 97 98) y01) = true
  | 0, _ => by decide +kernel
  | 1, _ => by decide +kernel
  | 2, _ => by decide +kernel
  | 3, _ => by decide +kernel
theorem wF_lone : (due3 97 98).all (fun e => decide (core e = e) && loneB y01 e) = true := by decide +kernel
def y02 : List Nat := [97, 65]
theorem wG : ∀ m, m < 6 → (wds y02 m).all (chkW [[97]] y02) = true
  | 0, _ => by decide +kernel
  | 1, _ => by decide +kernel
  | 2, _ => by decide +kernel
  | 3, _ => by decide +kernel
  | 4, _ => by decide +kernel
  | 5, _ => by decide +kernel
theorem wG_lone : (([[97]] : List (List Nat))).all (fun e => decide (core e = e) && loneB y02 e) = true := by decide +kernel
set_option maxRecDepth 100000
set_option maxHeartbeats 1000000
structure Iso (y z : List Nat) (φ : Nat → Nat) (fl : Bool) : Prop where
  mem : ∀ c ∈ y, φ c ∈ z
  inj : ∀ a ∈ y, ∀ b ∈ y, φ a = φ b → a = b
  con_ : ∀ c ∈ y, φ (con c) = con (φ c)
  gr_ : ∀ a ∈ y, ∀ b ∈ y, ∀ c ∈ y, a ≠ b → b ≠ c → a ≠ c → gr z (φ a) (φ b) (φ c) = (gr y a b c != fl)
section
variable {y z : List Nat} {φ : Nat → Nat} {fl : Bool}
theorem lr_map (φ : Nat → Nat) {w : List Nat} (h : w ≠ []) (i : Int) : lr (w.map φ) i = φ (lr w i) := by
  obtain ⟨g1, g2⟩ := lr_get h i
  have h2 : w.map φ ≠ [] := fun e => h (List.map_eq_nil_iff.mp e)
  obtain ⟨g3, g4⟩ := lr_get h2 i
  rw [List.length_map, List.getElem?_map, g1] at g3
  exact (Option.some.inj g3).symm
theorem Iso.ne (I : Iso y z φ fl) {a b : Nat} (ha : a ∈ y) (hb : b ∈ y) (h : a ≠ b) : φ a ≠ φ b := fun e => h (I.inj a ha b hb e)
theorem Iso.eq (I : Iso y z φ fl) {a b : Nat} (ha : a ∈ y) (hb : b ∈ y) : (φ a = φ b) = (a = b) := propext ⟨I.inj a ha b hb, fun e => e ▸ rfl⟩
theorem Iso.cr (I : Iso y z φ fl) (hy : YardOk y) {w : List Nat} (hw : CrW y w) : CrW z (w.map φ) := by
  refine ⟨fun e => hw.ne (List.map_eq_nil_iff.mp e), fun c hc => ?_, fun i e => ?_⟩
  · obtain ⟨a, ha, rfl⟩ := List.mem_map.mp hc
    exact I.mem a (hw.mem a ha)
  · rw [lr_map φ hw.ne, lr_map φ hw.ne, ← I.con_ _ (hw.at i)] at e
    exact hw.cr i (I.inj _ (hw.at _) _ (hy.con_ _ (hw.at i)) e)
theorem Iso.fwd (I : Iso y z φ fl) {w : List Nat} (hw : CrW y w) (i : Int) : fwd (w.map φ) i = fun k => φ (fwd w i k) := by
  funext k
  unfold Pu.fwd
  rw [lr_map φ hw.ne]
theorem Iso.bwd (I : Iso y z φ fl) {w : List Nat} (hw : CrW y w) (i : Int) : bwd (w.map φ) i = fun k => φ (bwd w i k) := by
  funext k
  unfold Pu.bwd
  rw [lr_map φ hw.ne, I.con_ _ (hw.at _)]
theorem Iso.meet (I : Iso y z φ fl) {f g : Int → Nat} (F : Wk y f) (G : Wk y g) (m : Nat) : Meet z (fun k => φ (f k)) (fun k => φ (g k)) m ↔ Meet y f g m := by
  have key : 1 ≤ m → (∀ j : Nat, j < m → f j = g j) → f (m : Nat) ≠ g (m : Nat) → f (-1) ≠ g (-1) →
      ((gr z (con (φ (f (-1)))) (con (φ (g (-1)))) (φ (f 0)) = gr z (φ (f (m : Nat))) (φ (g (m : Nat))) (con (φ (f ((m : Int) - 1))))) ↔ (gr y (con (f (-1))) (con (g (-1))) (f 0) = gr y (f (m : Nat)) (g (m : Nat)) (con (f ((m : Int) - 1))))) := fun h1 h2 h3 h4 => by
    have e0 : f 0 = g 0 := h2 0 h1
    have em : f ((m : Int) - 1) = g ((m : Int) - 1) := by
      have := h2 (m - 1) (by omega)
      rw [show ((m - 1 : Nat) : Int) = (m : Int) - 1 from by omega] at this
      exact this
    have a1 := F.cr' 0
    have a2 := G.cr' 0
    have b1 := F.cr' m
    have b2 := G.cr' m
    rw [show (0 : Int) - 1 = -1 from rfl] at a1 a2
    have cne : con (f (-1)) ≠ con (g (-1)) := fun e => h4 (con_inj (F.L _) (G.L _) e)
    rw [← I.con_ _ (F.mem _), ← I.con_ _ (G.mem _), ← I.con_ _ (F.mem _), I.gr_ _ (F.cmem _) _ (G.cmem _) _ (F.mem _) cne (by rw [e0]; exact a2) a1,
      I.gr_ _ (F.mem _) _ (G.mem _) _ (F.cmem _) h3 (by rw [em]; exact b2.symm) b1.symm]
    cases gr y (con (f (-1))) (con (g (-1))) (f 0) <;> cases gr y (f (m : Nat)) (g (m : Nat)) (con (f ((m : Int) - 1))) <;> cases fl <;> simp
  constructor
  · rintro ⟨h1, h2, h3, h4, h5⟩
    have h2 : ∀ j : Nat, j < m → f j = g j := fun j hj => I.inj _ (F.mem _) _ (G.mem _) (h2 j hj)
    have h3 : f (m : Nat) ≠ g (m : Nat) := fun e => h3 (congrArg φ e)
    have h4 : f (-1) ≠ g (-1) := fun e => h4 (congrArg φ e)
    exact ⟨h1, h2, h3, h4, (key h1 h2 h3 h4).mp h5⟩
  · rintro ⟨h1, h2, h3, h4, h5⟩
    exact ⟨h1, fun j hj => congrArg φ (h2 j hj), I.ne (F.mem _) (G.mem _) h3, I.ne (F.mem _) (G.mem _) h4, (key h1 h2 h3 h4).mpr h5⟩
theorem Iso.across (I : Iso y z φ fl) (hy : YardOk y) {v w : List Nat} (hv : CrW y v) (hw : CrW y w) (i j : Int) : across z (v.map φ) i (w.map φ) j = across y v i w j := by
  have ma := hy.con_ _ (hv.at (i - 1))
  have mb := hv.at i
  have mp := hy.con_ _ (hw.at (j - 1))
  have mx := hw.at j
  have ba := hv.cr' i
  have xp := hw.cr' j
  unfold Pu.across
  rw [lr_map φ hv.ne, lr_map φ hv.ne, lr_map φ hw.ne, lr_map φ hw.ne, ← I.con_ _ (hv.at _), ← I.con_ _ (hw.at _)]
  generalize con (lr v (i - 1)) = a at *
  generalize lr v i = b at *
  generalize con (lr w (j - 1)) = p at *
  generalize lr w j = x at *
  have hi : (φ p = φ a ∨ φ p = φ b ∨ φ x = φ a ∨ φ x = φ b ∨ φ p = φ x) ↔ (p = a ∨ p = b ∨ x = a ∨ x = b ∨ p = x) := by
    rw [I.eq mp ma, I.eq mp mb, I.eq mx ma, I.eq mx mb, I.eq mp mx]
  by_cases h : p = a ∨ p = b ∨ x = a ∨ x = b ∨ p = x
  · rw [if_pos (hi.mpr h), if_pos h]
  · rw [if_neg fun z => h (hi.mp z), if_neg h]
    have n1 : a ≠ p := fun e => h (.inl e.symm)
    have n2 : p ≠ b := fun e => h (.inr (.inl e))
    have n3 : a ≠ x := fun e => h (.inr (.inr (.inl e.symm)))
    have n4 : x ≠ b := fun e => h (.inr (.inr (.inr (.inl e))))
    rw [I.gr_ a ma p mp b mb n1 n2 ba.symm, I.gr_ a ma x mx b mb n3 n4 ba.symm]
    cases gr y a p b <;> cases gr y a x b <;> cases fl <;> rfl
theorem Iso.btw (I : Iso y z φ fl) (hy : YardOk y) {v w : List Nat} (hv : CrW y v) (hw : CrW y w) : btw z (v.map φ) (w.map φ) = btw y v w := by
  have hv' := I.cr hy hv
  have hw' := I.cr hy hw
  rw [btw_r2, btw_r2, List.length_map, List.length_map]
  have e1 : ∀ i j, acN z (v.map φ) (w.map φ) i j = acN y v w i j := fun i j => by unfold acN; rw [I.across hy hv hw]
  have e2 : ∀ i j, alN z (v.map φ) (w.map φ) i j = alN y v w i j := fun i j => by
    unfold alN
    refine one_of ?_
    rw [alN_iff hv'.ne hw'.ne, alN_iff hv.ne hw.ne, I.fwd hv, I.fwd hw]
    exact exists_congr fun m => I.meet (hv.fwd_ hy i) (hw.fwd_ hy j) m
  have e3 : ∀ i j, agN z (v.map φ) (w.map φ) i j = agN y v w i j := fun i j => by
    unfold agN
    refine one_of ?_
    rw [agN_iff hv'.ne hw'.ne, agN_iff hv.ne hw.ne, I.fwd hv, I.bwd hw]
    exact exists_congr fun m => I.meet (hv.fwd_ hy i) (hw.bwd_ hy j) m
  rw [r2_congr e1, r2_congr e2, r2_congr e3]
theorem Iso.own (I : Iso y z φ fl) (hy : YardOk y) (hz : YardOk z) {w : List Nat} (hw : CrW y w) : ownN z (w.map φ) = ownN y w := by
  have h1 := btw_self hz (I.cr hy hw)
  have h2 := btw_self hy hw
  rw [I.btw hy hw hw] at h1
  omega
theorem Iso.map_inj (I : Iso y z φ fl) : ∀ {v w : List Nat}, (∀ c ∈ v, c ∈ y) → (∀ c ∈ w, c ∈ y) → v.map φ = w.map φ → v = w
  | [], [], _, _, _ => rfl
  | [], _ :: _, _, _, e => by cases e
  | _ :: _, [], _, _, e => by cases e
  | a :: v, b :: w, hv, hw, e => by
    rw [List.map_cons, List.map_cons] at e
    injection e with e1 e2
    rw [I.inj a (hv a (by simp)) b (hw b (by simp)) e1, I.map_inj (fun c hc => hv c (List.mem_cons_of_mem _ hc)) (fun c hc => hw c (List.mem_cons_of_mem _ hc)) e2]
theorem Iso.root (I : Iso y z φ fl) {w : List Nat} (hw : CrW y w) : rootK (w.map φ) = rootK w := by
  obtain ⟨r1, r2, r3, r4, _⟩ := rootK_spec hw.ne
  have rm : ∀ k, rot (w.map φ) k = (rot w k).map φ := fun k => by unfold rot; rw [List.map_append, List.map_drop, List.map_take]
  refine rootK_eq (fun e => hw.ne (List.map_eq_nil_iff.mp e)) r1 (by rw [List.length_map]; exact r2) (by rw [rm, r3]) fun j j1 j2 e => r4 j j1 j2 ?_
  rw [rm] at e
  refine I.map_inj (fun c hc => hw.mem c ?_) hw.mem e
  unfold rot at hc
  rcases List.mem_append.mp hc with h | h
  · exact List.mem_of_mem_drop h
  · exact List.mem_of_mem_take h
theorem Iso.lst (I : Iso y z φ fl) (hy : YardOk y) (hz : YardOk z) {w : List Nat} (hw : CrW y w) : lst z [w.map φ] = lst y [w] := by
  rw [lst_one, lst_one, I.own hy hz hw]
  unfold tm
  rw [I.root hw, List.length_map]
end
theorem isoMap {y : List Nat} {φ : Nat → Nat} (inj : ∀ a ∈ y, ∀ b ∈ y, φ a = φ b → a = b) (hc : ∀ c ∈ y, φ (con c) = con (φ c)) : Iso y (y.map φ) φ false := by
  have ix : ∀ (l : List Nat) (c : Nat), (∀ a ∈ l, ∀ b ∈ l, φ a = φ b → a = b) → c ∈ l → ixOf (φ c) (l.map φ) = ixOf c l := by
    intro l
    induction l with
    | nil => intro c _ h; cases h
    | cons a l ih =>
      intro c hi h
      show (if φ a = φ c then 0 else ixOf (φ c) (l.map φ) + 1) = if a = c then 0 else ixOf c l + 1
      by_cases e : a = c
      · rw [if_pos e, if_pos (congrArg φ e)]
      · rw [if_neg e, if_neg fun z => e (hi a (by simp) c h z)]
        have : c ∈ l := by
          rcases List.mem_cons.mp h with z | z
          · exact absurd z.symm e
          · exact z
        rw [ih c (fun a ha b hb => hi a (List.mem_cons_of_mem _ ha) b (List.mem_cons_of_mem _ hb)) this]
  refine ⟨fun c h => List.mem_map_of_mem h, inj, hc, fun a ha b hb c hc _ _ _ => ?_⟩
  unfold gr
  rw [ix y a inj ha, ix y b inj hb, ix y c inj hc]
  cases cyc3 (ixOf a y) (ixOf b y) (ixOf c y) <;> rfl
theorem isoRot {y : List Nat} (hn : y.Nodup) (k : Nat) (hk : k ≤ y.length) : Iso y (y.drop k ++ y.take k) id false := by
  have ix : ∀ c ∈ y, (k ≤ ixOf c y ∧ ixOf c (y.drop k ++ y.take k) + k = ixOf c y) ∨ (ixOf c y < k ∧ ixOf c (y.drop k ++ y.take k) + k = ixOf c y + y.length) := fun c hc => by
    by_cases h : k ≤ ixOf c y
    · obtain ⟨_, h2, h3⟩ := ixOf_post hc h
      refine .inl ⟨h, ?_⟩
      rw [ixOf_app_mem h2]
      omega
    · obtain ⟨h2, h3⟩ := ixOf_pre hc (Nat.lt_of_not_le h)
      refine .inr ⟨by omega, ?_⟩
      have n : c ∉ y.drop k := fun z => by
        have := (List.nodup_append.mp (by rw [List.take_append_drop]; exact hn : (y.take k ++ y.drop k).Nodup)).2.2
        exact this c h2 c z rfl
      rw [ixOf_app_not n, h3, List.length_drop]
      omega
  refine ⟨fun c h => by
    rw [id, List.mem_append, Or.comm, ← List.mem_append, List.take_append_drop]
    exact h, fun _ _ _ _ e => e, fun _ _ => rfl, fun a ha b hb c hc _ _ _ => ?_⟩
  have i1 := ix a ha
  have i2 := ix b hb
  have i3 := ix c hc
  have l1 := ixOf_lt ha
  have l2 := ixOf_lt hb
  have l3 := ixOf_lt hc
  unfold gr cyc3
  rw [Bool.bne_false, Bool.eq_iff_iff]
  simp only [decide_eq_true_eq, id]
  omega
theorem Iso.trans {x y z : List Nat} {φ ψ : Nat → Nat} {f g : Bool} (I : Iso x y φ f) (J : Iso y z ψ g) : Iso x z (fun c => ψ (φ c)) (f != g) := by
  refine ⟨fun c h => J.mem _ (I.mem c h), fun a ha b hb e => I.inj a ha b hb (J.inj _ (I.mem a ha) _ (I.mem b hb) e), fun c h => by
    show ψ (φ (con c)) = _
    rw [I.con_ c h, J.con_ _ (I.mem c h)], fun a ha b hb c hc h1 h2 h3 => ?_⟩
  show gr z (ψ (φ a)) (ψ (φ b)) (ψ (φ c)) = _
  rw [J.gr_ _ (I.mem a ha) _ (I.mem b hb) _ (I.mem c hc) (I.ne ha hb h1) (I.ne hb hc h2) (I.ne ha hc h3), I.gr_ a ha b hb c hc h1 h2 h3]
  cases gr x a b c <;> cases f <;> cases g <;> rfl
set_option maxRecDepth 100000
set_option maxHeartbeats 1000000
structure Ap (y : List Nat) (ws : List (List Nat)) : Prop where
  yk : YOk y
  mem : ∀ w ∈ ws, ∀ c ∈ w, c ∈ y
  few : ∀ w ∈ ws, w.length ≤ 24
  many : ws.length ≤ 24
theorem Ap.ln {y : List Nat} {ws : List (List Nat)} (h : Ap y ws) {w : List Nat} (hw : w ∈ ws) : Ln y w := ⟨h.yk, h.mem w hw, h.few w hw⟩
theorem Ln.core {y w : List Nat} (h : Ln y w) : Ln y (core w) := ⟨h.yk, fun c hc => h.mem c (red_mem (cyc_mem _ c hc)), Nat.le_trans (core_len_ w) h.few⟩
theorem lone_ne {y w : List Nat} (h : loneB y w = true) : core w ≠ [] := by
  unfold loneB at h
  rw [Bool.and_eq_true, decide_eq_true_eq] at h
  exact h.1
set_option maxRecDepth 100000
set_option maxHeartbeats 1000000
set_option maxRecDepth 100000
set_option maxHeartbeats 1000000
section
variable {y u v : List Nat}
theorem rootK_per (hu : u ≠ []) (hl : v.length = u.length) (h : ∀ k : Nat, (∀ i : Int, lr v (i + k) = lr v i) ↔ ∀ i : Int, lr u (i + k) = lr u i) : rootK v = rootK u := by
  have hv : v ≠ [] := fun e => hu (List.eq_nil_of_length_eq_zero (by rw [← hl, e]; rfl))
  obtain ⟨r1, r2, r3, r4, _⟩ := rootK_spec hu
  refine rootK_eq hv r1 (by rw [hl]; exact r2) ((rot_iff hv (by rw [hl]; exact r2)).mpr ((h _).mpr ((rot_iff hu r2).mp r3))) fun j j1 j2 e => r4 j j1 j2 ?_
  exact (rot_iff hu (by omega)).mpr ((h j).mp ((rot_iff hv (by rw [hl]; omega)).mp e))
theorem tw1_root (hy : YardOk y) (hu : CrW y u) (h : Tw y u v 1) : rootK v = rootK u := by
  have hl : v.length = u.length := by have := h.len; omega
  refine rootK_per hu.ne hl fun k => ?_
  rcases h.ln with ⟨a, e⟩ | ⟨a, e⟩
  · constructor
    · intro g i
      have := g (i - a)
      rw [e, e, show i - (a : Int) + k + a = i + k from by omega, show i - (a : Int) + a = i from by omega] at this
      exact this
    · intro g i
      rw [e, e, show i + (k : Int) + a = i + a + k from by omega]
      exact g _
  · have e : ∀ i, lr v i = con (lr u (-1 - (i + a))) := fun i => by rw [e, lr_turn hu.ne]
    have ci : ∀ i j, con (lr u i) = con (lr u j) → lr u i = lr u j := fun i j => con_inj (hy.let_ _ (hu.at i)) (hy.let_ _ (hu.at j))
    constructor
    · intro g i
      have := g (-1 - i - k - a)
      rw [e, e, show -1 - (-1 - i - (k : Int) - a + k + a) = i from by omega, show -1 - (-1 - i - (k : Int) - a + a) = i + k from by omega] at this
      exact (ci _ _ this).symm
    · intro g i
      rw [e, e]
      have := g (-1 - (i + k + a))
      rw [show -1 - (i + (k : Int) + a) + k = -1 - (i + a) from by omega] at this
      rw [this]
theorem tw1_lst (hy : YardOk y) (hu : CrW y u) (h : Tw y u v 1) : lst y [v] = lst y [u] := by
  have hl : v.length = u.length := by have := h.len; omega
  rw [lst_one, lst_one, tw_own hy hu h]
  unfold tm
  rw [tw1_root hy hu h, hl, Nat.one_mul]
theorem tw1_rot (hu : CrW y u) {a : Nat} (ha : a ≤ u.length) : Tw y u (u.drop a ++ u.take a) 1 := by
  have := tw_round hu (k := 1) (by omega) ha
  simpa using this
theorem tw1_turn (hy : YardOk y) (hu : CrW y u) : Tw y u (turn u) 1 := (tw_self hu).turn_ hy hu
theorem lone_cr (hy : YardOk y) (h : CrW y u) : loneB y u = decide (lst y [u] = 0) := by
  unfold loneB
  rw [h.core_ hy, decide_eq_true h.ne, Bool.true_and]
theorem tw1_lone (hy : YardOk y) (hu : CrW y u) (h : Tw y u v 1) : loneB y v = loneB y u := by
  rw [lone_cr hy hu, lone_cr hy h.cr, tw1_lst hy hu h]
theorem iso_lone {z : List Nat} {φ : Nat → Nat} {fl : Bool} (I : Iso y z φ fl) (hy : YardOk y) (hz : YardOk z) (hu : CrW y u) : loneB z (u.map φ) = loneB y u := by
  rw [lone_cr hy hu, lone_cr hz (I.cr hy hu), I.lst hy hz hu]
end
set_option maxRecDepth 100000
set_option maxHeartbeats 1000000
theorem wds_all {y : List Nat} : ∀ {m : Nat} {w : List Nat}, w.length = m + 1 → (∀ c ∈ w, c ∈ y) → (∀ k a b, w[k]? = some a → w[k + 1]? = some b → b ≠ con a) → w ∈ wds y m
  | 0, w, hl, hm, _ => by
    match w, hl with
    | [c], _ => exact List.mem_map.mpr ⟨c, hm c (by simp), rfl⟩
  | m + 1, w, hl, hm, ha => by
    have hne : w ≠ [] := fun e => by rw [e] at hl; simp at hl
    have ew : w.dropLast ++ [w.getLast hne] = w := List.dropLast_concat_getLast hne
    have dl : w.dropLast.length = m + 1 := by rw [List.length_dropLast, hl]; rfl
    have hd : w.dropLast ∈ wds y m := wds_all dl (fun c hc => hm c (by rw [List.dropLast_eq_take] at hc; exact List.mem_of_mem_take hc)) fun k a b h1 h2 => by
      have k1 : k + 1 < w.dropLast.length := (List.getElem?_eq_some_iff.mp h2).1
      rw [List.getElem?_dropLast, if_pos (by omega)] at h1 h2
      exact ha k a b h1 h2
    have hdn : w.dropLast ≠ [] := fun e => by rw [e] at dl; simp at dl
    refine List.mem_flatMap.mpr ⟨_, hd, List.mem_map.mpr ⟨w.getLast hne, List.mem_filter.mpr ⟨hm _ (List.getLast_mem hne), ?_⟩, ew⟩⟩
    have h1 : w[m]? = some (lastN w.dropLast) := by
      have := last_ok hdn
      rw [List.getLast?_eq_getElem?, dl, List.getElem?_dropLast, if_pos (by omega)] at this
      exact this
    have h2 : w[m + 1]? = some (w.getLast hne) := by
      rw [← List.getLast?_eq_some_getLast hne, List.getLast?_eq_getElem?, hl]
      rfl
    simpa using ha m _ _ h1 h2
theorem cr_wds {y w : List Nat} (h : CrW y w) : w ∈ wds y (w.length - 1) := by
  have := List.length_pos_iff.mpr h.ne
  refine wds_all (by omega) h.mem fun k a b h1 h2 => ?_
  have := h.cr k
  rw [lr_nat h1, show (k : Int) + 1 = ((k + 1 : Nat) : Int) from rfl, lr_nat h2] at this
  exact this
theorem next_nd {y : List Nat} (hy : y.Nodup) {l : List (List Nat)} (hl : l.Nodup) : (nextW y l).Nodup := by
  unfold nextW
  induction l with
  | nil => exact .nil
  | cons w l ih =>
    obtain ⟨h1, h2⟩ := List.nodup_cons.mp hl
    rw [List.flatMap_cons]
    refine List.nodup_append.mpr ⟨?_, ih h2, fun a ha b hb e => ?_⟩
    · refine List.Pairwise.map _ (fun a b hab e => hab ?_) (hy.filter _)
      simpa using e
    · obtain ⟨c, _, rfl⟩ := List.mem_map.mp ha
      obtain ⟨v, hv, hb⟩ := List.mem_flatMap.mp hb
      obtain ⟨d, _, rfl⟩ := List.mem_map.mp hb
      have := List.append_inj_left e (by
        have := congrArg List.length e
        simpa using this)
      exact h1 (this ▸ hv)
theorem wds_nd {y : List Nat} (hy : y.Nodup) : ∀ m, (wds y m).Nodup
  | 0 => List.Pairwise.map _ (fun a b hab e => hab (by simpa using e)) hy
  | m + 1 => next_nd hy (wds_nd hy m)
theorem LL_mem {z l : List Nat} {n : Nat} (hz : YardOk z) : l ∈ LL z n ↔ l.length ≤ n ∧ CrW z l ∧ loop l = l ∧ loneB z l = true := by
  unfold LL
  rw [List.mem_flatMap]
  constructor
  · rintro ⟨m, hm, h⟩
    have hm := List.mem_range.mp hm
    obtain ⟨h1, h2⟩ := List.mem_filter.mp (srt_mem.mp h)
    obtain ⟨h3, h4⟩ := wds_mem h1
    unfold isLL at h2
    rw [Bool.and_eq_true, Bool.and_eq_true, decide_eq_true_eq, decide_eq_true_eq] at h2
    obtain ⟨h5, h6, h7⟩ := h2
    have ne : core l ≠ [] := by rw [h5]; exact fun e => by rw [e] at h3; simp at h3
    have := core_cr hz h4 ne
    rw [h5] at this
    exact ⟨by omega, this, h6, h7⟩
  · rintro ⟨h1, h2, h3, h4⟩
    have := List.length_pos_iff.mpr h2.ne
    refine ⟨l.length - 1, List.mem_range.mpr (by omega), srt_mem.mpr (List.mem_filter.mpr ⟨cr_wds h2, ?_⟩)⟩
    unfold isLL
    rw [h2.core_ hz, h3, h4]
    simp
theorem asc_lw : ∀ {l : List (List Nat)} {k : Nat}, Asc l → (∀ w ∈ l, w.length = k) → l.Pairwise ltLW
  | [], _, _, _ => .nil
  | a :: l, k, h, hk => by
    obtain ⟨h1, h2⟩ := h
    exact .cons (fun b hb => .inr ⟨by rw [hk a (by simp), hk b (by simp [hb])], h1 b hb⟩) (asc_lw h2 fun w hw => hk w (List.mem_cons_of_mem _ hw))
theorem pick_at {z w : List Nat} {m : Nat} (h : w ∈ pick z (wds z m)) : w.length = m + 1 := (wds_mem (List.mem_filter.mp (srt_mem.mp h)).1).1
theorem LL_asc (z : List Nat) : ∀ n, (LL z n).Pairwise ltLW
  | 0 => by simp [LL]
  | n + 1 => by
    rw [LL_succ]
    refine List.pairwise_append.mpr ⟨LL_asc z n, asc_lw (srt_asc _) fun w hw => pick_at hw, fun a ha b hb => .inl ?_⟩
    rw [pick_at hb]
    unfold LL at ha
    obtain ⟨m, hm, ha⟩ := List.mem_flatMap.mp ha
    have := List.mem_range.mp hm
    rw [pick_at ha]
    omega
theorem LL_nd {z : List Nat} (hz : YardOk z) : ∀ n, (LL z n).Nodup
  | 0 => by simp [LL]
  | n + 1 => by
    rw [LL_succ]
    refine List.nodup_append.mpr ⟨LL_nd hz n, (srt_perm _).nodup_iff.mpr ((wds_nd hz.nd n).filter _), fun a ha b hb e => ?_⟩
    have h1 := pick_at hb
    unfold LL at ha
    obtain ⟨m, hm, ha⟩ := List.mem_flatMap.mp ha
    have := List.mem_range.mp hm
    have h2 := pick_at ha
    rw [e] at h2
    omega
theorem LL_same {z : List Nat} (hz : YardOk z) {n : Nat} {L : List (List Nat)} (hn : L.Nodup) (hm : ∀ l, l ∈ L ↔ l ∈ LL z n) : LL z n = srtL L :=
  srtL_unique ((List.perm_ext_iff_of_nodup (LL_nd hz n) hn).mpr fun l => (hm l).symm) (LL_asc z n)
theorem cr_loop_tw {z w : List Nat} (hz : YardOk z) (h : CrW z w) : Tw z w (loop w) 1 := by
  have hW : IsW w := fun c hc => hz.let_ c (h.mem c hc)
  have e : loop w = ring w ∨ loop w = ring (turn w) := by
    unfold loop
    split
    · exact .inr rfl
    · exact .inl rfl
  rcases e with e | e
  · rw [e, ring_core, h.core_ hz]
    obtain ⟨k, hk, hr⟩ := ringL_rot h.ne
    rw [hr]
    exact tw1_rot h (by omega)
  · rw [e, ring_core, core_turn hW, h.core_ hz]
    have t1 := tw1_turn hz h
    obtain ⟨k, hk, hr⟩ := ringL_rot t1.cr.ne
    rw [hr]
    have hk' : k ≤ (turn w).length := by omega
    refine ⟨t1.cr.rot_ k hk', ?_, .inr ⟨k, fun i => lr_rot k hk' i⟩⟩
    unfold rot
    rw [List.length_append, List.length_drop, List.length_take, turn_len]
    rw [turn_len] at hk'
    omega
/-- the loops of a yard told by another one's -/
structure Bse (y0 z : List Nat) (φ : Nat → Nat) : Prop where
  iso : Iso y0 z φ false
  hy : YardOk y0
  hz : YardOk z
  sur : ∀ c ∈ z, ∃ d ∈ y0, φ d = c
section
variable {y0 z : List Nat} {φ : Nat → Nat} (B : Bse y0 z φ)
include B
theorem Bse.pull {l : List Nat} (h : ∀ c ∈ l, c ∈ z) : ∃ w : List Nat, (∀ c ∈ w, c ∈ y0) ∧ w.map φ = l := by
  induction l with
  | nil => exact ⟨[], by simp, rfl⟩
  | cons c l ih =>
    obtain ⟨d, h1, h2⟩ := B.sur c (h c (by simp))
    obtain ⟨w, h3, h4⟩ := ih fun c hc => h c (List.mem_cons_of_mem _ hc)
    exact ⟨d :: w, fun x hx => (List.mem_cons.mp hx).elim (fun e => e ▸ h1) (h3 x), by rw [List.map_cons, h2, h4]⟩
theorem Bse.pull_cr {w : List Nat} (hw : ∀ c ∈ w, c ∈ y0) (h : CrW z (w.map φ)) : CrW y0 w := by
  have ne : w ≠ [] := fun e => h.ne (by rw [e]; rfl)
  refine ⟨ne, hw, fun i e => h.cr i ?_⟩
  rw [lr_map φ ne, lr_map φ ne, e]
  exact B.iso.con_ _ (hw _ (lr_mem ne i))
theorem Bse.turn_ {w : List Nat} (hw : ∀ c ∈ w, c ∈ y0) : (turn w).map φ = turn (w.map φ) := by
  unfold turn
  rw [List.map_reverse, List.map_map, List.map_map]
  congr 1
  exact List.map_congr_left fun c hc => B.iso.con_ c (hw c hc)
theorem Bse.loops {N : Nat} {E0 : List (List Nat)} (hc : ∀ m, m < N → (wds y0 m).all (chkW E0 y0) = true) (hl : E0.all (fun e => decide (core e = e) && loneB y0 e) = true) (hE : ∀ e ∈ E0, ∀ c ∈ e, c ∈ y0) {n : Nat} (hn : n ≤ N) {l : List Nat} :
    l ∈ LL z n ↔ ∃ e ∈ E0, e.length ≤ n ∧ l = loop (e.map φ) := by
  rw [LL_mem B.hz]
  constructor
  · rintro ⟨h1, h2, h3, h4⟩
    obtain ⟨w, w1, rfl⟩ := B.pull h2.mem
    have wc := B.pull_cr w1 h2
    have wp := List.length_pos_iff.mpr wc.ne
    rw [List.length_map] at h1
    rw [iso_lone B.iso B.hy B.hz wc] at h4
    have := List.all_eq_true.mp (hc (w.length - 1) (by omega)) w (cr_wds wc)
    unfold chkW at this
    rw [wc.core_ B.hy, h4] at this
    simp only [decide_true, Bool.not_true, Bool.or_false, Bool.false_or] at this
    unfold isCl at this
    obtain ⟨e, he, h5⟩ := List.any_eq_true.mp this
    rw [Bool.and_eq_true, decide_eq_true_eq] at h5
    obtain ⟨el, h5⟩ := h5
    obtain ⟨k, hk, h6⟩ := List.any_eq_true.mp h5
    have hk := List.mem_range.mp hk
    have eW : IsW (e.map φ) := fun c hc => by
      obtain ⟨d, hd, rfl⟩ := List.mem_map.mp hc
      exact B.hz.let_ _ (B.iso.mem d (hE e he d hd))
    have rm : ∀ (v : List Nat) (k : Nat), (rot v k).map φ = rot (v.map φ) k := fun v k => by
      unfold rot
      rw [List.map_append, List.map_drop, List.map_take]
    refine ⟨e, he, by omega, ?_⟩
    rw [← h3]
    rw [Bool.or_eq_true, decide_eq_true_eq, decide_eq_true_eq] at h6
    rcases h6 with h6 | h6
    · rw [← h6, rm]
      have rW : IsW (rot (e.map φ) k) := rot_W eW k
      rw [← loop_ring rW, ← loop_ring eW, ring_rot eW (Rt.rot_ (a := e.map φ) (k := k) (by rw [List.length_map]; omega))]
    · rw [← h6, rm, B.turn_ (hE e he)]
      have tW := turn_W eW
      have rW : IsW (rot (turn (e.map φ)) k) := rot_W tW k
      rw [← loop_ring rW, ← ring_rot tW (Rt.rot_ (a := turn (e.map φ)) (k := k) (by rw [turn_len, List.length_map]; omega)), loop_ring tW, loop_turn eW]
  · rintro ⟨e, he, h1, rfl⟩
    have h2 := List.all_eq_true.mp hl e he
    rw [Bool.and_eq_true, decide_eq_true_eq] at h2
    have ne : core e ≠ [] := lone_ne h2.2
    have ec := core_cr B.hy (hE e he) ne
    rw [h2.1] at ec
    have fc := B.iso.cr B.hy ec
    have t := cr_loop_tw B.hz fc
    refine ⟨by have := t.len; rw [List.length_map] at this; omega, t.cr, loop_loop fun c hc => B.hz.let_ c (fc.mem c hc), ?_⟩
    rw [tw1_lone B.hz fc t, iso_lone B.iso B.hy B.hz ec, h2.2]
end
set_option maxRecDepth 100000
set_option maxHeartbeats 1000000
def addL (l : List (List Nat)) (w : List Nat) : List (List Nat) := if w ∈ l then l else l ++ [w]
theorem addL_mem {l : List (List Nat)} {w v : List Nat} : v ∈ addL l w ↔ v ∈ l ∨ v = w := by
  unfold addL
  by_cases e : w ∈ l
  · rw [if_pos e]
    exact ⟨.inl, fun h => h.elim id fun q => q ▸ e⟩
  · rw [if_neg e, List.mem_append, List.mem_singleton]
theorem addL_nd {l : List (List Nat)} {w : List Nat} (h : l.Nodup) : (addL l w).Nodup := by
  unfold addL
  by_cases e : w ∈ l
  · rw [if_pos e]; exact h
  · rw [if_neg e]
    exact List.nodup_append.mpr ⟨h, by simp, fun a ha b hb => by rw [List.mem_singleton.mp hb]; exact fun q => e (q ▸ ha)⟩
theorem addsL_mem : ∀ {r l : List (List Nat)} {v : List Nat}, v ∈ r.foldl addL l ↔ v ∈ l ∨ v ∈ r
  | [], l, v => by simp
  | w :: r, l, v => by
    rw [List.foldl_cons, addsL_mem, addL_mem, List.mem_cons, or_assoc]
theorem addsL_nd : ∀ {r l : List (List Nat)}, l.Nodup → (r.foldl addL l).Nodup
  | [], _, h => h
  | w :: r, l, h => by rw [List.foldl_cons]; exact addsL_nd (addL_nd h)
theorem addL_len (l : List (List Nat)) (w : List Nat) : (addL l w).length ≤ l.length + 1 := by
  unfold addL
  split
  · omega
  · simp
theorem addsL_len : ∀ (r l : List (List Nat)), (r.foldl addL l).length ≤ l.length + r.length
  | [], l => by simp
  | w :: r, l => by
    have := addsL_len r (addL l w)
    have := addL_len l w
    rw [List.foldl_cons, List.length_cons]
    omega
/-- the keys of a dict of texts -/
def keysL (kvs : List (Key × D)) : List Key := kvs.map (·.1)
theorem setK_keys (kvs : List (Key × D)) (l : List (List Nat)) (w : List Nat) (d : D) (h : keysL kvs = l.map kS) : keysL (setK kvs (kS w) d) = (addL l w).map kS := by
  have hm : (kvs.any fun kv => decide (kv.1 = kS w)) = decide (w ∈ l) := by
    rw [Bool.eq_iff_iff, List.any_eq_true, decide_eq_true_eq]
    constructor
    · rintro ⟨kv, h1, h2⟩
      have h2 := of_decide_eq_true h2
      have : kv.1 ∈ keysL kvs := List.mem_map_of_mem h1
      rw [h, h2] at this
      obtain ⟨v, hv, e⟩ := List.mem_map.mp this
      rw [kS_eq] at e
      exact e ▸ hv
    · intro hw
      have : kS w ∈ keysL kvs := by rw [h]; exact List.mem_map_of_mem hw
      obtain ⟨kv, h1, h2⟩ := List.mem_map.mp this
      exact ⟨kv, h1, decide_eq_true h2⟩
  unfold setK addL
  rw [hm]
  by_cases e : w ∈ l
  · rw [decide_eq_true e, if_pos rfl, if_pos e, ← h]
    unfold keysL
    rw [List.map_map]
    refine List.map_congr_left fun kv _ => ?_
    show (if kv.1 = kS w then (kv.1, d) else kv).1 = kv.1
    split <;> rfl
  · rw [decide_eq_false e, if_neg (by decide), if_neg e, List.map_append, ← h]
    unfold keysL
    rw [List.map_append]
    rfl
structure Lt2 (x y : Nat) : Prop where
  lx : IsL x
  ly : IsL y
  ne : x ≠ y
  nc : x ≠ con y
def phX (x y c : Nat) : Nat := if c = 97 then x else if c = 65 then con x else if c = 98 then y else con y
section
variable {x y : Nat} (h : Lt2 x y)
include h
theorem Lt2.all : x ≠ y ∧ x ≠ con x ∧ x ≠ con y ∧ y ≠ x ∧ y ≠ con x ∧ y ≠ con y ∧ con x ≠ x ∧ con x ≠ y ∧ con x ≠ con y ∧ con y ≠ x ∧ con y ≠ y ∧ con y ≠ con x := by
  have c1 := con_ne h.lx
  have c2 := con_ne h.ly
  have cx : con x ≠ con y := fun e => h.ne (con_inj h.lx h.ly e)
  have cy : con x ≠ y := fun e => h.nc (by rw [← e, con_con h.lx])
  exact ⟨h.ne, c1.symm, h.nc, h.ne.symm, cy.symm, c2.symm, c1, cy, cx, h.nc.symm, c2, cx.symm⟩
theorem Lt2.yard : YardOk [x, y, con x, con y] := by
  obtain ⟨a1, a2, a3, a4, a5, a6, a7, a8, a9, a10, a11, a12⟩ := h.all
  refine ⟨by simp [a1, a2, a3, a5, a6, a9], fun c hc => ?_, fun c hc => ?_⟩
  · simp only [List.mem_cons, List.not_mem_nil, or_false] at hc
    rcases hc with rfl | rfl | rfl | rfl
    · exact h.lx
    · exact h.ly
    · exact con_L h.lx
    · exact con_L h.ly
  · simp only [List.mem_cons, List.not_mem_nil, or_false] at hc
    rcases hc with rfl | rfl | rfl | rfl
    · simp
    · simp
    · rw [con_con h.lx]; simp
    · rw [con_con h.ly]; simp
end
theorem yard_perm {y z : List Nat} (hy : YardOk y) (p : z.Perm y) : YardOk z :=
  ⟨p.nodup_iff.mpr hy.nd, fun c hc => hy.let_ c (p.mem_iff.mp hc), fun c hc => p.mem_iff.mpr (hy.con_ c (p.mem_iff.mp hc))⟩
theorem rot_permX (z : List Nat) (k : Nat) : (z.drop k ++ z.take k).Perm z := List.perm_append_comm.trans (by rw [List.take_append_drop])
theorem phX_inj {x y : Nat} (h : Lt2 x y) : ∀ a ∈ y00, ∀ b ∈ y00, phX x y a = phX x y b → a = b := by
  obtain ⟨a1, a2, a3, a4, a5, a6, a7, a8, a9, a10, a11, a12⟩ := h.all
  have v1 : phX x y 97 = x := rfl
  have v2 : phX x y 98 = y := rfl
  have v3 : phX x y 65 = con x := rfl
  have v4 : phX x y 66 = con y := rfl
  intro a ha b hb e
  unfold y00 at ha hb
  simp only [List.mem_cons, List.not_mem_nil, or_false] at ha hb
  rcases ha with rfl | rfl | rfl | rfl <;> rcases hb with rfl | rfl | rfl | rfl <;> first | rfl | (simp only [v1, v2, v3, v4] at e; contradiction)
theorem phX_con {x y : Nat} (h : Lt2 x y) : ∀ c ∈ y00, phX x y (con c) = con (phX x y c) := by
  intro c hc
  unfold y00 at hc
  simp only [List.mem_cons, List.not_mem_nil, or_false] at hc
  rcases hc with rfl | rfl | rfl | rfl
  · rfl
  · rfl
  · exact (con_con h.lx).symm
  · exact (con_con h.ly).symm
theorem yard00 : YardOk y00 := ⟨by decide +kernel, by decide +kernel, by decide +kernel⟩
theorem base_of {x y : Nat} (h : Lt2 x y) {b : List Nat} (pb : b.Perm y00) {z : List Nat} {k : Nat} (hk : k ≤ b.length) (e : b.map (phX x y) = z) : Bse b (z.drop k ++ z.take k) (phX x y) := by
  subst e
  have yb := yard_perm yard00 pb
  have I := isoMap (y := b) (φ := phX x y) (fun a ha c hc => phX_inj h a (pb.mem_iff.mp ha) c (pb.mem_iff.mp hc)) fun c hc => phX_con h c (pb.mem_iff.mp hc)
  have zy : YardOk (b.map (phX x y)) := by
    refine yard_perm h.yard ((pb.map _).trans ?_)
    exact .of_eq rfl
  have J := isoRot zy.nd k (by rw [List.length_map]; exact hk)
  refine ⟨I.trans J, yb, yard_perm zy (rot_permX _ k), fun c hc => ?_⟩
  obtain ⟨d, hd, e⟩ := List.mem_map.mp ((rot_permX _ k).mem_iff.mp hc)
  exact ⟨d, hd, e⟩
theorem evE_len (x y p q : Nat) : ∀ m a, (evE x y p q m a).length = m
  | 0, _ => rfl
  | m + 1, a => by unfold evE; rw [List.length_cons, evE_len]
theorem even_len (x y p q : Nat) : (evenE x y p q).length = p + q := evE_len x y p q _ 0
theorem evE_map (φ : Nat → Nat) (x y p q : Nat) : ∀ m a, (evE x y p q m a).map φ = evE (φ x) (φ y) p q m a
  | 0, _ => rfl
  | m + 1, a => by
    unfold evE
    rw [List.map_cons, evE_map]
    congr 1
    split <;> rfl
theorem evE_mem {x y p q c : Nat} : ∀ {m a}, c ∈ evE x y p q m a → c = x ∨ c = y
  | 0, _, h => by cases h
  | m + 1, a, h => by
    unfold evE at h
    rcases List.mem_cons.mp h with e | h
    · rw [e]; split
      · exact .inr rfl
      · exact .inl rfl
    · exact evE_mem h
theorem due_mem {x y n : Nat} {e : List Nat} : e ∈ dueE x y n ↔ (∃ p q, p + q ≤ n ∧ Nat.gcd p q = 1 ∧ (e = evenE x y p q ∨ e = evenE x (con y) p q)) ∨ (3 < n ∧ e = [x, y, con x, con y]) := by
  unfold dueE
  rw [List.mem_append, List.mem_flatMap]
  refine or_congr ?_ ?_
  · constructor
    · rintro ⟨p, hp, h⟩
      obtain ⟨q, hq, h⟩ := List.mem_flatMap.mp h
      have hp := List.mem_range.mp hp
      have hq := List.mem_range.mp hq
      by_cases g : Nat.gcd p q = 1
      · rw [if_pos g] at h
        exact ⟨p, q, by omega, g, by simpa using h⟩
      · rw [if_neg g] at h; cases h
    · rintro ⟨p, q, h1, g, h⟩
      refine ⟨p, List.mem_range.mpr (by omega), List.mem_flatMap.mpr ⟨q, List.mem_range.mpr (by omega), ?_⟩⟩
      rw [if_pos g]
      simpa using h
  · by_cases g : 3 < n
    · rw [if_pos g]; simp [g]
    · rw [if_neg g]; simp [g]
/-- the law's own loops, as they come into its dict -/
def dueL (x y n : Nat) : List (List Nat) := ((dueE x y n).map loop).foldl addL []
theorem due_base {x y n : Nat} (hn : n ≤ 6) (h : Lt2 x y) {l : List Nat} : l ∈ dueL x y n ↔ ∃ e ∈ dueE 97 98 6, e.length ≤ n ∧ l = loop (e.map (phX x y)) := by
  unfold dueL
  rw [addsL_mem, List.mem_map]
  have v1 : phX x y 97 = x := rfl
  have v2 : phX x y 98 = y := rfl
  have v4 : phX x y (con 98) = con y := rfl
  constructor
  · rintro (h | ⟨e, he, rfl⟩)
    · cases h
    · rcases due_mem.mp he with ⟨p, q, h1, g, h2⟩ | ⟨h1, h2⟩
      · rcases h2 with rfl | rfl
        · exact ⟨_, due_mem.mpr (.inl ⟨p, q, by omega, g, .inl rfl⟩), by rw [even_len]; exact h1, by unfold evenE; rw [evE_map, v1, v2]⟩
        · exact ⟨_, due_mem.mpr (.inl ⟨p, q, by omega, g, .inr rfl⟩), by rw [even_len]; exact h1, by unfold evenE; rw [evE_map, v1, v4]⟩
      · subst h2
        exact ⟨_, due_mem.mpr (.inr ⟨by omega, rfl⟩), (by show 4 ≤ n; omega), rfl⟩
  · rintro ⟨e, he, hl, rfl⟩
    refine .inr ⟨e.map (phX x y), ?_, rfl⟩
    rcases due_mem.mp he with ⟨p, q, h1, g, h2⟩ | ⟨h1, h2⟩
    · rcases h2 with rfl | rfl
      · rw [even_len] at hl
        exact due_mem.mpr (.inl ⟨p, q, hl, g, .inl (by unfold evenE; rw [evE_map, v1, v2])⟩)
      · rw [even_len] at hl
        exact due_mem.mpr (.inl ⟨p, q, hl, g, .inr (by unfold evenE; rw [evE_map, v1, v4])⟩)
    · subst h2
      exact due_mem.mpr (.inr ⟨(by have hl : 4 ≤ n := hl; omega), rfl⟩)
theorem due_nd (x y n : Nat) : (dueL x y n).Nodup := addsL_nd .nil
/-- bands crossed -/
theorem LL_crossed {x y n k : Nat} (h : Lt2 x y) (hn : n ≤ 6) (hk : k ≤ 4) : LL ([x, y, con x, con y].drop k ++ [x, y, con x, con y].take k) n = srtL (dueL x y n) := by
  have B := base_of h (b := y00) (.refl _) (z := [x, y, con x, con y]) hk rfl
  refine LL_same B.hz (due_nd x y n) fun l => ?_
  rw [due_base hn h, B.loops wE wE_lone (fun e he c hc => ?_) hn]
  rcases due_mem.mp he with ⟨p, q, h1, g, h2⟩ | ⟨h1, h2⟩
  · rcases h2 with rfl | rfl
    · rcases evE_mem hc with e | e <;> rw [e] <;> decide
    · rcases evE_mem hc with e | e <;> rw [e] <;> decide
  · rw [h2] at hc
    exact hc
/-- bands side by side -/
theorem LL_side {x y n k : Nat} (h : Lt2 x y) (hn : n ≤ 4) (hk : k ≤ 4) : LL ([x, con x, y, con y].drop k ++ [x, con x, y, con y].take k) n = srtL (((due3 x y).filter fun w => decide ((w.length : Int) ≤ n)).map loop) := by
  have B := base_of h (b := y01) (by decide) (z := [x, con x, y, con y]) hk rfl
  obtain ⟨a1, a2, a3, a4, a5, a6, a7, a8, a9, a10, a11, a12⟩ := h.all
  have crs : ∀ w : List Nat, core w = w → (∀ c ∈ w, c ∈ y00) → w ≠ [] → CrW [x, y, con x, con y] (w.map (phX x y)) := fun w e hw h0 => by
    have c0 := core_cr yard00 hw (by rw [e]; exact h0)
    rw [e] at c0
    exact (isoMap (y := y00) (φ := phX x y) (phX_inj h) (phX_con h)).cr yard00 c0
  have cx : CrW [x, y, con x, con y] [x] := crs [97] (by decide +kernel) (by decide) (by decide)
  have cy : CrW [x, y, con x, con y] [y] := crs [98] (by decide +kernel) (by decide) (by decide)
  have c2 : CrW [x, y, con x, con y] [x, y] := crs [97, 98] (by decide +kernel) (by decide) (by decide)
  have one : ∀ c, CrW [x, y, con x, con y] [c] → loop [c] = [c] ∨ loop [c] = [con c] := fun c hc => by
    have hW : IsW [c] := fun d hd => h.yard.let_ d (hc.mem d hd)
    have l1 : ring [c] = [c] := by rw [ring_core, hc.core_ h.yard]; rfl
    have l2 : ring (turn [c]) = [con c] := by rw [ring_core, core_turn hW, hc.core_ h.yard]; rfl
    unfold loop
    rw [l1, l2]
    split
    · exact .inr rfl
    · exact .inl rfl
  have len2 : (loop [x, y]).length = 2 := by
    have := (cr_loop_tw h.yard c2).len
    simpa using this
  have n1 : loop [x] ≠ loop [y] := by
    rcases one x cx with e | e <;> rcases one y cy with f | f <;> rw [e, f] <;> simp [a1, a3, a8, a9]
  have l1 : ∀ c, CrW [x, y, con x, con y] [c] → (loop [c]).length = 1 := fun c hc => by rcases one c hc with e | e <;> rw [e] <;> rfl
  refine LL_same B.hz ?_ fun l => ?_
  · have nd : ((due3 x y).map loop).Nodup := by
      unfold due3
      simp only [List.map_cons, List.map_nil, List.nodup_cons, List.mem_cons, List.not_mem_nil, or_false, not_or, List.nodup_nil, and_true, not_false_eq_true]
      refine ⟨⟨n1, fun e => ?_⟩, fun e => ?_⟩
      · have := congrArg List.length e; rw [l1 x cx, len2] at this; cases this
      · have := congrArg List.length e; rw [l1 y cy, len2] at this; cases this
    exact ((List.filter_sublist (p := fun w : List Nat => decide ((w.length : Int) ≤ n))).map loop).nodup nd
  · rw [B.loops wF wF_lone (by decide) hn, List.mem_map]
    have em : (due3 97 98).map (List.map (phX x y)) = due3 x y := rfl
    constructor
    · rintro ⟨e, he, rfl⟩
      obtain ⟨h1, h2⟩ := List.mem_filter.mp he
      rw [← em] at h1
      obtain ⟨e0, h3, rfl⟩ := List.mem_map.mp h1
      have h2 := of_decide_eq_true h2
      rw [List.length_map] at h2
      exact ⟨e0, h3, by omega, rfl⟩
    · rintro ⟨e, he, h1, rfl⟩
      exact ⟨e.map (phX x y), List.mem_filter.mpr ⟨by rw [← em]; exact List.mem_map_of_mem he, decide_eq_true (by rw [List.length_map]; omega)⟩, rfl⟩
/-- one band -/
theorem LL_one {x n : Nat} (hx : IsL x) (hn : n ≤ 6) : LL [x, con x] n = [loop [x]].take n := by
  have c1 := con_ne hx
  have yb : YardOk y02 := ⟨by decide +kernel, by decide +kernel, by decide +kernel⟩
  have I := isoMap (y := y02) (φ := phX x x) (fun a ha c hc e => by
    have v1 : phX x x 97 = x := rfl
    have v3 : phX x x 65 = con x := rfl
    unfold y02 at ha hc
    simp only [List.mem_cons, List.not_mem_nil, or_false] at ha hc
    rcases ha with rfl | rfl <;> rcases hc with rfl | rfl <;> first | rfl | (simp only [v1, v3] at e; first | exact absurd e c1 | exact absurd e.symm c1)) (fun c hc => by
    unfold y02 at hc
    simp only [List.mem_cons, List.not_mem_nil, or_false] at hc
    rcases hc with rfl | rfl
    · rfl
    · exact (con_con hx).symm)
  have zy : YardOk [x, con x] := ⟨by simp [c1.symm], fun c hc => by
    simp only [List.mem_cons, List.not_mem_nil, or_false] at hc
    rcases hc with rfl | rfl
    · exact hx
    · exact con_L hx, fun c hc => by
    simp only [List.mem_cons, List.not_mem_nil, or_false] at hc
    rcases hc with rfl | rfl
    · simp
    · rw [con_con hx]; simp⟩
  have B : Bse y02 [x, con x] (phX x x) := ⟨I, yb, zy, fun c hc => by
    simp only [List.mem_cons, List.not_mem_nil, or_false] at hc
    rcases hc with rfl | rfl
    · exact ⟨97, by decide, rfl⟩
    · exact ⟨65, by decide, rfl⟩⟩
  have s1 : ([loop [x]].take n).Nodup := by cases n <;> simp
  have s2 : ([loop [x]].take n).Pairwise ltLW := by cases n <;> simp
  rw [srtL_unique (.refl _) s2]
  refine LL_same zy s1 fun l => ?_
  rw [B.loops wG wG_lone (by decide) hn]
  cases n with
  | zero =>
    constructor
    · intro h; cases h
    · rintro ⟨e, he, h1, _⟩
      rw [List.mem_singleton.mp he] at h1
      simp at h1
  | succ n =>
    constructor
    · intro h
      have h : l = loop [x] := by simpa using h
      exact ⟨[97], by simp, by simp, h⟩
    · rintro ⟨e, he, h1, h2⟩
      rw [List.mem_singleton.mp he] at h2
      rw [h2]
      simp
      rfl
end Pu
set_option maxRecDepth 100000
set_option maxHeartbeats 1000000
namespace Pu
open PySem L2
local macro_rules | `(tactic| simpa?! only [$xs,*]) => `(tactic| simp -dsimp only [↓opt_some, ↓br_true, ↓br_false, ↓nameC_d, ↓nameC_own, ↓nameC_dK, ↓nameC_dT, ↓x_name, ↓fzC_d, ↓fzC_own, ↓fzC_dK, ↓fzC_dT, ↓x_fzn, ↓x_fzK, ↓x_fzT, ↓x_fzd, ↓x_fzo, ↓x_rvn, ↓x_rvd, ↓x_rvo, ↓retC_d, ↓retC_own, ↓x_retn, ↓x_retd, ↓x_reto, ↓x_hd, ↓x_ho, ↓x_hn, ↓x_ad, ↓x_ao, ↓x_an, ↓x_set, ↓x_seq, ↓x_next, ↓x_break, ↓x_cont, ↓x_drop, ↓x_ret, ↓x_retN, ↓x_if, ↓x_asg, ↓x_asgG, ↓x_while, ↓x_for, ↓x_2, ↓x_k2ad, ↓x_k2ao, ↓x_k2an, ↓x_k2b, ↓x_k2c, ↓x_1, ↓x_k1c, ↓x_D, ↓bC_b, ↓x_B, ↓x_kBc, ↓x_and, ↓x_kAn, ↓x_or, ↓x_kOr, ↓x_not, ↓x_kNo, ↓x_andV, ↓x_kAV, ↓x_orV, ↓x_kOV, ↓x_notV, ↓x_kNV, ↓x_tif, ↓x_nil, ↓x_kC2, ↓x_cons, ↓x_kC1d, ↓x_kC1o, ↓x_kC1k, ↓x_kC1t, ↓x_kC1n, ↓x_kC3d, ↓x_kC3o, ↓x_kC3k, ↓x_kC3t, ↓x_tup, ↓x_kTu, ↓x_lst, ↓x_kLs, ↓x_rnil, ↓x_kR2, ↓x_rcons, ↓x_kR1d, ↓x_kR1o, ↓x_kR1n, ↓x_callP, ↓x_kCP, ↓x_rvLc, ↓x_rvLn, ↓x_meth, ↓x_kM0d, ↓x_kM0o, ↓x_kM0n, ↓x_kM1, ↓x_kM2, ↓x_kM3, ↓x_meth0, ↓x_mut, ↓x_kU1n, ↓x_kU1d, ↓x_kU2, ↓x_kU3, ↓x_mg, ↓x_ms, ↓x_sl, ↓x_kS0d, ↓x_kS0o, ↓x_kS0n, ↓x_kS1, ↓x_kS2, ↓x_kS3, ↓x_on, ↓iC_i, ↓x_os, ↓x_kOs, ↓x_lc, ↓x_any, ↓x_pure, ↓sC_s, ↓x_rev, ↓x_call, ↓x_kCa, ↓x_gn, ↓x_gnil, ↓x_gcons, ↓x_isi, ↓a_ii, ↓a_ss, ↓a_ll, ↓a_tt, ↓a_I, ↓a_neg, ↓a_mul, ↓a_mulL, ↓a_mulS, ↓a_eq, ↓a_ne, ↓a_lt, ↓a_le, ↓a_gt, ↓a_ge, ↓a_ltS, ↓a_leS, ↓a_inS, ↓a_ninS, ↓a_inL, ↓a_ninL, ↓a_inT, ↓a_ninT, ↓a_ixL, ↓a_ixT, ↓a_ixS, ↓a_ixR, ↓a_ixB, ↓a_slL, ↓a_slT, ↓a_slS, ↓a_lenS, ↓a_lenL, ↓a_lenT, ↓a_lenR, ↓a_join, ↓a_ixof, ↓a_ixofL, ↓a_rng1, ↓a_rng2, ↓a_min2, ↓a_max2, ↓a_lstS, ↓a_lstL, ↓a_lstT, ↓a_int, ↓a_intB, ↓a_isN, ↓x_popAt, ↓x_all, ↓x_anyB, ↓a_isB, ↓a_pop, ↓x_dict0, ↓x_aK, ↓x_kg, ↓x_kgRn, ↓x_kgRf, ↓x_zips, ↓x_ks, ↓x_dg, ↓x_di, ↓x_dpt, ↓x_enum, ↓a_backL, ↓a_backS, ↓a_backT, ↓x_never, ↓a_tupL, ↓a_tupT, ↓x_sort, ↓x_sortS, ↓x_sortP, ↓a_slR, ↓x_zip, ↓x_sum, ↓a_count, ↓augC_i, ↓x_aug, ↓x_par, ↓x_raise, ↓x_callX, ↓x_try, ↓x_subA, ↓x_setN, ↓a_two, ↓x_swIx, ↓x_mkX, ↓x_mk0, ↓x_raise0, ↓a_exB, ↓a_tbl, ↓a_cbl, ↓x_isX, ↓x_xattr, ↓x_dictT0, ↓x_aT, ↓retC_dT, ↓retC_dK, ↓x_retT, ↓x_retK, ↓x_tgg, ↓x_tgRn, ↓x_tgRf, ↓x_tss, ↓x_dgT, ↓x_dptT, ↓x_callT, ↓a_lenTT, ↓a_listT, ↓a_dictT, ↓a_dictK, ↓x_chn, ↓a_mmT, ↓x_sortN, ↓a_lenSS, ↓a_ltT, ↓x_chn3, ↓a_dictN, ↓a_gN, ↓x_gls, ↓x_revT, ↓x_chS, ↓x_ltN, ↓x_try0, ↓x_fld, ↓x_kF, ↓x_kSF, ↓x_sfldZ, ↓x_sfldP, ↓x_kpd, ↓x_kpo, ↓x_kpK, ↓x_kpT, ↓x_kpC, ↓x_kpn, ↓x_2O, ↓x_k2adO, ↓x_k2aoO, ↓x_k2anO, ↓x_k2bO, ↓x_k2cO, ↓x_im, ↓x_kIM, ↓x_make, ↓x_kMk, ↓x_gtN, ↓x_methT, ↓x_kMTd, ↓x_mT1, ↓x_prK, ↓x_ixT, ↓x_prI, ↓x_splitA, ↓x_strI, ↓x_intS, ↓x_fs3, ↓x_f3I, ↓x_zipS, ↓x_parO, ↓x_asgZ, ↓x_asgK, ↓x_gd, ↓x_kGD, ↓x_case, ↓x_imX, ↓x_kIMX, ↓x_lcX, ↓x_ksr, ↓x_msr, ↓x_disp2, ↓x_kD2, ↓x_dgk2, ↓x_kG2, ↓x_clear, ↓x_kin, ↓x_kKI, ↓x_khas, ↓x_kKH, ↓x_igt, ↓x_izg, ↓x_kIG, ↓x_tzC, ↓x_tz, ↓x_split1, ↓x_strAi, ↓x_strAs, ↓x_forL, ↓x_callPS, ↓x_lcL, ↓x_remD, ↓x_slw, ↓x_listK, ↓x_lkH, ↓x_slwD, rvC_d, rvC_own, consO_s, isTy_s, isTy_l, mgC_own, walk_l, walk_t, walk_s, toR_d, toR_o, items_l, items_t, ok_s, ok_i, ok_b, ok_n, ok_l, ok_t, okL_n, okL_c, e_ss, e_ii, e_bb, e_ll, e_tt, eL_nn, eL_cc, eL_nc, eL_cn, ty_s, ty_i, ty_l, ty_b, kgC_dK, key_i, key_s, kI_eq, kS_eq, oneR_1, walkE_l, walkE_t, walkE_s, ty_t, twoR_2, side_l, side_t, twoD_2, ow_nil, ow_un, ow_d, toR_T, toR_K, tgC_dT, tupK_t, consK_s, keyL_n, keyL_c, fold1, intL_n, consI_s, intL_c, consS_s, strL_n, strL_c, tC_s, m_app, m_ext, m_rev, sline, startC, restE, restC, wipeE, wipeC, plainC, List.getElem?_cons_zero, List.getElem?_cons_succ, List.getD_cons_zero, List.getD_cons_succ, List.set_cons_zero, List.set_cons_succ, List.length_cons, List.length_nil, List.map_cons, List.map_nil, List.replicate_succ, List.replicate_zero, List.cons_append, List.nil_append, Nat.reduceAdd, Nat.reduceMul, Int.reduceAdd, Int.reduceSub, Int.reduceMul, Nat.reduceSub, Nat.reduceLT, Nat.reduceLeDiff, Nat.lt_add_one, Int.reduceNeg, Int.reduceLT, Int.reduceLE, Int.reduceToNat, Int.reducePow, Nat.reducePow, List.flatten_cons, List.flatten_nil, List.append_nil, true_and, and_true, true_or, or_true, eq_self, and_self, decide_true, decide_false, Bool.not_true, Bool.not_false, Bool.not_not, Option.isSome_some, Bool.and_true, Bool.true_and, Bool.and_self, reduceIte, ↓reduceIte, Bool.false_eq_true, ite_self, reduceCtorEq, ne_eq, not_false_eq_true, forall_const, ↓x_gtup, ↓a_repr, ↓x_min1, ↓a_min2S, ↓x_yes, ↓x_ite, x_gnil, walk_l, walk_t, walk_s, $xs,*])
def m_law_common : PM := fun ds st Q => match ds with
  | [.int p, .int q] => ∃ a b : Nat, p = a ∧ q = b ∧ a ≤ 64 ∧ b ≤ 64 ∧ Q (.d (.int (Nat.gcd a b : Nat))) st
  | _ => False
theorem common_i {a b : Nat} (h1 : a ≤ 64) (h2 : b ≤ 64) {st : Sto} {Q : C → Sto → Prop} (q : Q (.d (.int (Nat.gcd a b : Nat))) st) : m_law_common [.int (a : Nat), .int (b : Nat)] st Q := ⟨a, b, rfl, rfl, h1, h2, q⟩
def t_law_common : PTS := sSeq (sWhile (tB (t2 (tName 1) (tD (.int 0)) pGt)) (sPar 0 1 (tCons (tName 1) (tCons (t2 (tName 0) (tName 1) pMod) (tNil))))) (sRet (tName 0))
abbrev N_law_common : List Str := ["_law_p", "_law_q"]
theorem len_law_common (ds : List D) (s : Sto) (Q : C → Sto → Prop) (h : m_law_common ds s Q) : ds.length = 2 := by
  unfold m_law_common at h
  split at h
  · rfl
  · exact h.elim
theorem p_law_common (ds : List D) (s : Sto) (Q : C → Sto → Prop) (h : m_law_common ds s Q) : t_law_common noX { nx := fun e => Q (.d .non) e.st, rt := fun c e => Q c e.st } ⟨startC N_law_common ds, s⟩ := by
  unfold m_law_common at h
  split at h
  · rename_i p q
    obtain ⟨a, b, rfl, rfl, h1, h2, q⟩ := h
    unfold t_law_common
    simpa?! only []
    refine wh_on (fun v : Nat × Nat => ⟨[.d (.int (v.1 : Nat)), .d (.int (v.2 : Nat))], s⟩) (fun v => Nat.gcd v.1 v.2 = Nat.gcd a b ∧ v.1 ≤ 64 ∧ v.2 ≤ 64) (fun v => v.2) (a, b) rfl ⟨rfl, h1, h2⟩ ?_
    rintro ⟨c, d⟩ ⟨g1, g2, g3⟩ K hK
    simp only at g1 g2 g3 hK ⊢
    simpa?! only []
    by_cases z : d = 0
    · subst z
      refine br_neg (by decide) ?_
      simpa?! only []
      rw [Nat.gcd_zero_right] at g1
      rw [g1]
      exact q
    · refine br_pos (decide_eq_true (by omega)) ?_
      simpa?! only []
      have e1 : (c : Int) % (d : Nat) = ((c % d : Nat) : Int) := by rw [Int.natCast_emod]
      rw [e1]
      have l1 := Nat.mod_lt c (show d > 0 by omega)
      refine ⟨by omega, hK (d, c % d) ⟨?_, by simp only; omega, by simp only; omega⟩ l1⟩
      show Nat.gcd d (c % d) = Nat.gcd a b
      rw [← g1, Nat.gcd_comm c d, Nat.gcd_rec d c, Nat.gcd_comm]
  · exact h.elim
def m_law_even : PM := fun ds st Q => match ds with
  | [.str [x], .str [y], .int p, .int q] => ∃ a b : Nat, p = a ∧ q = b ∧ a ≤ 64 ∧ b ≤ 64 ∧ Q (.d (.str (evenE x y a b))) st
  | _ => False
theorem even_i {x y a b : Nat} (h1 : a ≤ 64) (h2 : b ≤ 64) {st : Sto} {Q : C → Sto → Prop} (q : Q (.d (.str (evenE x y a b))) st) : m_law_even [.str [x], .str [y], .int (a : Nat), .int (b : Nat)] st Q := ⟨a, b, rfl, rfl, h1, h2, q⟩
def t_law_even : PTS := sSeq (sAsg 4 (tD (.str []))) (sSeq (sAsg 5 (tD (.int 0))) (sSeq (sFor (iPure pRng1 (rCons (t2 (tName 2) (tName 3) pAdd) (rNil))) (gName 6) (sSeq (sAsg 5 (t2 (t2 (tName 5) (tName 3) pAdd) (t2 (tName 2) (tName 3) pAdd) pMod)) (sAsg 4 (t2 (tName 4) (t2 (tLst (tCons (tName 0) (tCons (tName 1) (tNil)))) (tCallP pInt (rCons (t2 (tName 5) (tName 3) pLt) (rNil))) pIx) pAdd)))) (sRet (tName 4))))
abbrev N_law_even : List Str := ["_law_x", "_law_y", "_law_p", "_law_q", "_law_found", "_law_at", "_law_k"]
theorem len_law_even (ds : List D) (s : Sto) (Q : C → Sto → Prop) (h : m_law_even ds s Q) : ds.length = 4 := by
  unfold m_law_even at h
  split at h
  · rfl
  · exact h.elim
theorem p_law_even (ds : List D) (s : Sto) (Q : C → Sto → Prop) (h : m_law_even ds s Q) : t_law_even noX { nx := fun e => Q (.d .non) e.st, rt := fun c e => Q c e.st } ⟨startC N_law_even ds, s⟩ := by
  unfold m_law_even at h
  split at h
  · rename_i x y p q
    obtain ⟨a, b, rfl, rfl, h1, h2, q⟩ := h
    unfold t_law_even
    simpa?! only []
    refine ⟨by omega, ?_⟩
    refine forH_rng 0 _ (fun j e => ∃ (f : List Nat) (at_ : Nat) (c6 : C), e = ⟨[.d (.str [x]), .d (.str [y]), .d (.int (a : Nat)), .d (.int (b : Nat)), .d (.str f), .d (.int (at_ : Nat)), c6], s⟩ ∧ f ++ evE x y a b (a + b - j) at_ = evenE x y a b ∧ f.length = j) ⟨[], 0, .un, rfl, rfl, rfl⟩ ?_ ?_
    · rintro e ⟨f, at_, c6, rfl, g1, g2⟩
      rw [show a + b - ((a : Int) + (b : Int)).toNat = 0 by omega] at g1
      have g1 : f ++ [] = evenE x y a b := g1
      rw [List.append_nil] at g1
      simpa?! only []
      rw [g1]
      exact q
    · rintro j e hj ⟨f, at_, c6, rfl, g1, g2⟩ N hN
      have hj : j < a + b := by omega
      simpa?! only []
      have e1 : ((at_ : Int) + (b : Int)) % ((a : Int) + (b : Int)) = (((at_ + b) % (a + b) : Nat) : Int) := by rw [Int.natCast_emod]; push_cast; rfl
      rw [e1]
      refine ⟨by omega, ?_⟩
      have eS : evE x y a b (a + b - j) at_ = (if (at_ + b) % (a + b) < b then y else x) :: evE x y a b (a + b - (j + 1)) ((at_ + b) % (a + b)) := by
        rw [show a + b - j = (a + b - (j + 1)) + 1 by omega]
        rfl
      rw [eS] at g1
      generalize (at_ + b) % (a + b) = at2 at *
      by_cases z : at2 < b
      · rw [if_pos z] at g1
        rw [show decide ((at2 : Int) < (b : Nat)) = true from decide_eq_true (by omega)]
        refine opt_of (a := .str [y]) (by rfl) ?_
        simpa?! only []
        refine ⟨by rw [g2]; omega, hN _ ⟨f ++ [y], at2, _, rfl, by rw [List.append_assoc]; exact g1, by simp [g2]⟩⟩
      · rw [if_neg z] at g1
        rw [show decide ((at2 : Int) < (b : Nat)) = false from decide_eq_false (by omega)]
        refine opt_of (a := .str [x]) (by rfl) ?_
        simpa?! only []
        refine ⟨by rw [g2]; omega, hN _ ⟨f ++ [x], at2, _, rfl, by rw [List.append_assoc]; exact g1, by simp [g2]⟩⟩
  · exact h.elim
def cellE (x y p q : Nat) : List (List Nat) := if Nat.gcd p q = 1 then [evenE x y p q, evenE x (con y) p q] else []
def rowE (x y n p : Nat) : List (List Nat) := (List.range (n + 1 - p)).flatMap fun q => cellE x y p q
theorem cell_len (x y p q : Nat) : (cellE x y p q).length ≤ 2 := by unfold cellE; split <;> simp
theorem flatB_len {α β : Type} {B : Nat} {f : α → List β} (h : ∀ a, (f a).length ≤ B) : ∀ l : List α, (l.flatMap f).length ≤ l.length * B
  | [] => by simp
  | a :: l => by
    have := flatB_len h l
    have := h a
    rw [List.flatMap_cons, List.length_append, List.length_cons, Nat.add_mul]
    omega
theorem row_len (x y n p : Nat) : (rowE x y n p).length ≤ (n + 1) * 2 := by
  have := flatB_len (cell_len x y p) (List.range (n + 1 - p))
  rw [List.length_range] at this
  show ((List.range (n + 1 - p)).flatMap (cellE x y p)).length ≤ _
  omega
def dkE (L : List (List Nat)) : List (List Nat) := (L.map loop).foldl addL []
theorem dkE_app (L : List (List Nat)) (w : List Nat) : dkE (L ++ [w]) = addL (dkE L) (loop w) := by
  unfold dkE
  rw [List.map_append, List.foldl_append]
  rfl
theorem dkE_len (L : List (List Nat)) : (dkE L).length ≤ L.length := by
  have := addsL_len (L.map loop) []
  rw [List.length_map] at this
  unfold dkE
  simpa using this
theorem keys_len {kvs : List (Key × D)} {l : List (List Nat)} (h : keysL kvs = l.map kS) : kvs.length = l.length := by
  have := congrArg List.length h
  unfold keysL at this
  rw [List.length_map, List.length_map] at this
  exact this
def m_law_due : PM := fun ds st Q => match ds with
  | [.str [x], .str [y], .int n] => ∃ m : Nat, n = m ∧ m ≤ 6 ∧ Lt2 x y ∧ Q (.own ((srtL (dueL x y m)).map D.str)) st
  | _ => False
theorem due_i {x y m : Nat} (h1 : m ≤ 6) (h2 : Lt2 x y) {st : Sto} {Q : C → Sto → Prop} (q : Q (.own ((srtL (dueL x y m)).map D.str)) st) : m_law_due [.str [x], .str [y], .int (m : Nat)] st Q := ⟨m, rfl, h1, h2, q⟩
def t_law_due : PTS := sSeq (sAsg 3 (tDict0)) (sSeq (sFor (iPure pRng1 (rCons (t2 (tName 2) (tD (.int 1)) pAdd) (rNil))) (gName 4) (sFor (iPure pRng1 (rCons (t2 (t2 (tName 2) (tD (.int 1)) pAdd) (tName 4) pSub) (rNil))) (gName 5) (sIf (tB (t2 (tCall0 m_law_common (tCons (tName 4) (tCons (tName 5) (tNil)))) (tD (.int 1)) pEq)) (sSeq (sDPt (tD (.bl true)) (tName 3) (tCall0 m_loop (tCons (tCall0 m_law_even (tCons (tName 0) (tCons (tName 1) (tCons (tName 4) (tCons (tName 5) (tNil)))))) (tNil)))) (sDPt (tD (.bl true)) (tName 3) (tCall0 m_loop (tCons (tCall0 m_law_even (tCons (tName 0) (tCons (tCall0 m_law_other (tCons (tName 1) (tNil))) (tCons (tName 4) (tCons (tName 5) (tNil)))))) (tNil))))) (sNext)))) (sSeq (sIf (tB (t2 (tName 2) (tD (.int 3)) pGt)) (sDPt (tD (.bl true)) (tName 3) (tCall0 m_loop (tCons (t2 (t2 (t2 (tName 0) (tName 1) pAdd) (tCall0 m_law_other (tCons (tName 0) (tNil))) pAdd) (tCall0 m_law_other (tCons (tName 1) (tNil))) pAdd) (tNil)))) (sNext)) (sRet (tSLWD (tName 3)))))
abbrev N_law_due : List Str := ["_law_x", "_law_y", "_law_length", "_law_found", "_law_p", "_law_q"]
theorem len_law_due (ds : List D) (s : Sto) (Q : C → Sto → Prop) (h : m_law_due ds s Q) : ds.length = 3 := by
  unfold m_law_due at h
  split at h
  · rfl
  · exact h.elim
theorem p_law_due (ds : List D) (s : Sto) (Q : C → Sto → Prop) (h : m_law_due ds s Q) : t_law_due noX { nx := fun e => Q (.d .non) e.st, rt := fun c e => Q c e.st } ⟨startC N_law_due ds, s⟩ := by
  unfold m_law_due at h
  split at h
  · rename_i x y n
    obtain ⟨n, rfl, hn, h2, q⟩ := h
    have hz := h2.yard
    have ew : ∀ y' p q, (y' = y ∨ y' = con y) → p + q ≤ 6 → ∀ {s Q}, m_loop [.str (evenE x y' p q)] s Q = Q (.d (.str (loop (evenE x y' p q)))) s := fun y' p q hy' hpq {s Q} => propext ⟨fun z => z.2.2, fun z => ⟨fun c hc => by
      rcases evE_mem hc with e | e
      · rw [e]; exact h2.lx
      · rw [e]
        rcases hy' with rfl | rfl
        · exact h2.ly
        · exact con_L h2.ly, by rw [even_len]; omega, z⟩⟩
    have eo : ∀ {s Q}, m_law_other [.str [y]] s Q = Q (.d (.str [con y])) s := fun {s Q} => @con_eq y h2.ly s Q
    have eox : ∀ {s Q}, m_law_other [.str [x]] s Q = Q (.d (.str [con x])) s := fun {s Q} => @con_eq x h2.lx s Q
    have okw : ∀ L : List (List Nat), (∀ w ∈ L, IsW w ∧ w.length ≤ 64) → ∀ s ∈ dkE L, SOk s := fun L hL s hs => by
      unfold dkE at hs
      rcases addsL_mem.mp hs with h | h
      · cases h
      · obtain ⟨w, hw, rfl⟩ := List.mem_map.mp h
        obtain ⟨w1, w2⟩ := hL w hw
        refine ⟨?_, fun c hc => ?_⟩
        · show (loop w).length ≤ 16777216
          have := loop_len w
          omega
        · have := loop_W w1 c hc
          unfold IsL at this
          omega
    unfold t_law_due
    simpa?! only []
    refine ⟨⟨by omega, by omega⟩, ?_⟩
    refine forH_rng 0 _ (fun j e => ∃ (kvs : List (Key × D)) (c4 c5 : C), e = ⟨[.d (.str [x]), .d (.str [y]), .d (.int (n : Nat)), .dK kvs, c4, c5], s⟩ ∧ keysL kvs = (dkE ((List.range j).flatMap (rowE x y n))).map kS) ⟨[], .un, .un, rfl, rfl⟩ ?_ ?_
    · rintro e ⟨kvs, c4, c5, rfl, hk⟩
      rw [show ((n : Int) + 1).toNat = n + 1 by omega] at hk
      have b1 := flatB_len (row_len x y n) (List.range (n + 1))
      rw [List.length_range] at b1
      have b2 : (n + 1) * ((n + 1) * 2) ≤ 98 := Nat.mul_le_mul (show n + 1 ≤ 7 by omega) (show (n + 1) * 2 ≤ 14 by omega)
      have b3 := dkE_len ((List.range (n + 1)).flatMap (rowE x y n))
      have b4 := keys_len hk
      have ed : dueE x y n = (List.range (n + 1)).flatMap (rowE x y n) ++ (if 3 < n then [[x, y, con x, con y]] else []) := rfl
      have fin : ∀ (kvs : List (Key × D)), keysL kvs = (dueL x y n).map kS → sRet (tSLWD (tName 3)) noX { nx := fun e => Q (C.d D.non) e.st, rt := fun c e => Q c e.st } ⟨[.d (.str [x]), .d (.str [y]), .d (.int (n : Nat)), .dK kvs, c4, c5], s⟩ := fun kvs hk => by
        simpa?! only []
        refine slwD_ok (ks := dueL x y n) hk ?_ ?_ ?_
        · have := dkE_len (dueE x y n)
          have e2 : (dueE x y n).length ≤ 99 := by
            rw [ed, List.length_append]
            have : (if 3 < n then [[x, y, con x, con y]] else [] : List (List Nat)).length ≤ 1 := by split <;> simp
            omega
          show (dkE (dueE x y n)).length ≤ 16777216
          omega
        · refine okw (dueE x y n) fun w hw => ?_
          rcases due_mem.mp hw with ⟨p, r, h3, _, h4⟩ | ⟨_, rfl⟩
          · have wl : w.length = p + r := by rcases h4 with rfl | rfl <;> exact even_len ..
            refine ⟨fun c hc => ?_, by omega⟩
            have hc4 : c = x ∨ c = y ∨ c = con y := by
              rcases h4 with rfl | rfl <;> rcases evE_mem hc with e | e <;> simp [e]
            rcases hc4 with rfl | rfl | rfl
            · exact h2.lx
            · exact h2.ly
            · exact con_L h2.ly
          · exact ⟨hz.let_, by simp⟩
        · simpa?! only []
          exact q
      simpa?! only []
      by_cases g : 3 < n
      · refine br_pos (decide_eq_true (by omega)) ?_
        have el : ∀ {s Q}, m_loop [.str [x, y, con x, con y]] s Q = Q (.d (.str (loop [x, y, con x, con y]))) s := fun {s Q} => propext ⟨fun z => z.2.2, fun z => ⟨hz.let_, by simp, z⟩⟩
        simpa?! only [eox, eo, el]
        refine ⟨by show kvs.length < 16777216; omega, ?_⟩
        have k1 := setK_keys kvs _ (loop [x, y, con x, con y]) (.bl true) hk
        rw [← dkE_app] at k1
        refine fin _ ?_
        rw [k1]
        show (dkE _).map kS = (dkE (dueE x y n)).map kS
        rw [ed, if_pos g]
      · refine br_neg (decide_eq_false (by omega)) ?_
        simpa?! only []
        refine fin kvs ?_
        rw [hk]
        show (dkE _).map kS = (dkE (dueE x y n)).map kS
        rw [ed, if_neg g, List.append_nil]
    · rintro j e hj ⟨kvs, c4, c5, rfl, hk⟩ N hN
      have hj : j < n + 1 := by omega
      simpa?! only []
      refine ⟨⟨by omega, by omega⟩, ?_⟩
      rw [Int.zero_add]
      refine forH_rng 0 _ (fun i e => ∃ (kvs : List (Key × D)) (c5 : C), e = ⟨[.d (.str [x]), .d (.str [y]), .d (.int (n : Nat)), .dK kvs, .d (.int (j : Nat)), c5], s⟩ ∧ keysL kvs = (dkE ((List.range j).flatMap (rowE x y n) ++ (List.range i).flatMap (cellE x y j))).map kS) ⟨kvs, _, rfl, by simpa using hk⟩ ?_ ?_
      · rintro e ⟨kvs, c5, rfl, hk⟩
        refine hN _ ⟨kvs, _, _, rfl, ?_⟩
        rw [hk, List.range_succ, List.flatMap_append, show ((n : Int) + 1 - (j : Int)).toNat = n + 1 - j by omega]
        simp [rowE]
      · rintro i e hi ⟨kvs, c5, rfl, hk⟩ M hM
        have hi : i < n + 1 - j := by omega
        simpa?! only []
        rw [Int.zero_add]
        refine common_i (by omega) (by omega) ?_
        have es : (List.range (i + 1)).flatMap (cellE x y j) = (List.range i).flatMap (cellE x y j) ++ cellE x y j i := by rw [List.range_succ, List.flatMap_append]; simp
        have b1 := flatB_len (row_len x y n) (List.range j)
        have b2 := flatB_len (cell_len x y j) (List.range i)
        rw [List.length_range] at b1 b2
        have b3 : j * ((n + 1) * 2) ≤ 6 * 14 := Nat.mul_le_mul (by omega) (by omega)
        rw [es] at hM
        generalize hLL : (List.range j).flatMap (rowE x y n) ++ (List.range i).flatMap (cellE x y j) = LL at *
        have b4 : LL.length ≤ 200 := by rw [← hLL, List.length_append]; omega
        have b5 := dkE_len LL
        have b6 := keys_len hk
        rw [← List.append_assoc, hLL] at hM
        simpa?! only []
        by_cases g : Nat.gcd j i = 1
        · refine br_pos (decide_eq_true (by omega)) ?_
          have ec : cellE x y j i = [evenE x y j i, evenE x (con y) j i] := by unfold cellE; rw [if_pos g]
          simpa?! only []
          refine even_i (by omega) (by omega) ?_
          simpa?! only []
          rw [ew y j i (.inl rfl) (by omega)]
          simpa?! only []
          refine ⟨by omega, ?_⟩
          have k1 := setK_keys kvs (dkE LL) (loop (evenE x y j i)) (.bl true) hk
          rw [← dkE_app] at k1
          have b7 := keys_len k1
          have b8 : (dkE (LL ++ [evenE x y j i])).length ≤ LL.length + 1 := by have := dkE_len (LL ++ [evenE x y j i]); simpa using this
          simpa?! only [eo]
          refine even_i (by omega) (by omega) ?_
          simpa?! only []
          rw [ew (con y) j i (.inr rfl) (by omega)]
          simpa?! only []
          have b9 : (LL ++ [evenE x y j i]).length = LL.length + 1 := by simp
          refine ⟨by show (setK kvs (kS (loop (evenE x y j i))) (.bl true)).length < 16777216; omega, ?_⟩
          have k2 := setK_keys _ _ (loop (evenE x (con y) j i)) (.bl true) k1
          rw [← dkE_app] at k2
          refine hM _ ⟨_, _, rfl, ?_⟩
          rw [k2, ec]
          simp
        · refine br_neg (decide_eq_false (by omega)) ?_
          have ec : cellE x y j i = [] := by unfold cellE; rw [if_neg g]
          simpa?! only []
          refine hM _ ⟨kvs, _, rfl, ?_⟩
          rw [hk, ec, List.append_nil]
  · exact h.elim
theorem smL : ∀ c ∈ SM, IsL c := by decide +kernel
theorem smC : ∀ c ∈ SM, 97 ≤ c ∧ con c < 97 := by decide +kernel
theorem lt2_of {x0 y0 x y : Nat} (hx0 : x0 ∈ SM) (hy0 : y0 ∈ SM) (ne : x0 ≠ y0) (hx : x = x0 ∨ x = con x0) (hy : y = y0 ∨ y = con y0) : Lt2 x y := by
  have xL := smL x0 hx0
  have yL := smL y0 hy0
  obtain ⟨c1, c2⟩ := smC x0 hx0
  obtain ⟨c3, c4⟩ := smC y0 hy0
  have cn : con x0 ≠ con y0 := fun e => ne (con_inj xL yL e)
  rcases hx with rfl | rfl <;> rcases hy with rfl | rfl
  · exact ⟨xL, yL, ne, fun e => by omega⟩
  · exact ⟨xL, con_L yL, fun e => by omega, by rw [con_con yL]; exact ne⟩
  · exact ⟨con_L xL, yL, fun e => by omega, cn⟩
  · exact ⟨con_L xL, con_L yL, cn, by rw [con_con yL]; exact fun e => by omega⟩
theorem eqL_strs (l m : List (List Nat)) : D.eqL (l.map D.str) (m.map D.str) = decide (l = m) := by
  induction l generalizing m with
  | nil => cases m <;> simp [D.eqL]
  | cons a l ih =>
    cases m with
    | nil => simp [D.eqL]
    | cons b m =>
      rw [List.map_cons, List.map_cons]
      show (D.eq (.str a) (.str b) && D.eqL (l.map D.str) (m.map D.str)) = _
      rw [ih]
      rw [e_ss, Bool.eq_iff_iff]
      simp
theorem yard1 {x : Nat} (hx : IsL x) : YardOk [x, con x] := ⟨by simp [(con_ne hx).symm], fun c hc => by
  simp only [List.mem_cons, List.not_mem_nil, or_false] at hc
  rcases hc with rfl | rfl
  · exact hx
  · exact con_L hx, fun c hc => by
  simp only [List.mem_cons, List.not_mem_nil, or_false] at hc
  rcases hc with rfl | rfl
  · simp
  · rw [con_con hx]; simp⟩
theorem okL_strL (l : List (List Nat)) (n : Nat) : D.okL (l.map D.str) n = true := okL_map fun _ _ => rfl
def m_law : PM := fun ds st Q => match ds with
  | [.scr n] => n ≤ 63 ∧ ∀ s', Q (.d (.bl true)) s'
  | _ => False
def t_law : PTS := sSeq (sFor (iPure pRng1 (rCons (t2 (tD (.int 1)) (tCallP pLen (rCons (tSl (tName 0) (oSome (tD (.int 1))) (oSome (tD (.int 4)))) (rNil))) pAdd) (rNil))) (gName 1) (sSeq (sAsg 2 (tCall0 m_law_box (tCons (tName 0) (tCons (tName 1) (tNil))))) (sSeq (sAsg 3 (tCall0 m_law_take (tCons (tName 2) (tCons (tD (.int 7)) (tNil))))) (sSeq (sIf (tB (t2 (tName 1) (tD (.int 0)) pGt)) (sAsg 3 (tCallP pMin2 (rCons (tName 3) (rCons (tD (.int 4)) (rNil))))) (sNext)) (sSeq (sAsg 4 (tCallP pList (rCons (tD (.str SM)) (rNil)))) (sSeq (sAsg 5 (tMut mPopAt (tName 4) (tCons (tCall0 m_law_take (tCons (tName 2) (tCons (tD (.int 26)) (tNil)))) (tNil)))) (sSeq (sAsg 6 (tMut mPopAt (tName 4) (tCons (tCall0 m_law_take (tCons (tName 2) (tCons (tD (.int 25)) (tNil)))) (tNil)))) (sSeq (sPar 5 6 (tCons (t2 (tLst (tCons (tName 5) (tCons (tCall0 m_law_other (tCons (tName 5) (tNil))) (tNil)))) (tCall0 m_law_take (tCons (tName 2) (tCons (tD (.int 2)) (tNil)))) pIx) (tCons (t2 (tLst (tCons (tName 6) (tCons (tCall0 m_law_other (tCons (tName 6) (tNil))) (tNil)))) (tCall0 m_law_take (tCons (tName 2) (tCons (tD (.int 2)) (tNil)))) pIx) (tNil)))) (sSeq (sAsg 7 (tCall0 m_law_take (tCons (tName 2) (tCons (tD (.int 4)) (tNil))))) (sSeq (sAsg 8 (t2 (t2 (t2 (tName 5) (tName 6) pAdd) (tCall0 m_law_other (tCons (tName 5) (tNil))) pAdd) (tCall0 m_law_other (tCons (tName 6) (tNil))) pAdd)) (sSeq (sIf (tB (t2 (tCall0 m_lone_loops (tCons (t2 (tSl (tName 8) (oSome (tName 7)) (oNone)) (tSl (tName 8) (oNone) (oSome (tName 7))) pAdd) (tCons (tName 3) (tNil)))) (tCall0 m_law_due (tCons (tName 5) (tCons (tName 6) (tCons (tName 3) (tNil))))) pNe)) (sRet (tD (.bl false))) (sNext)) (sSeq (sAsg 8 (t2 (t2 (t2 (tName 5) (tCall0 m_law_other (tCons (tName 5) (tNil))) pAdd) (tName 6) pAdd) (tCall0 m_law_other (tCons (tName 6) (tNil))) pAdd)) (sSeq (sAsg 3 (tCallP pMin2 (rCons (tName 3) (rCons (tD (.int 4)) (rNil))))) (sSeq (sAsg 9 (cLc (iAny (tTup (tCons (tName 5) (tCons (tName 6) (tCons (t2 (tName 5) (tName 6) pAdd) (tNil)))))) (gName 10) (tB (t2 (tCallP pLen (rCons (tName 10) (rNil))) (tName 3) pLe)) (tCall0 m_loop (tCons (tName 10) (tNil))) [10])) (sSeq (sIf (tB (t2 (tCall0 m_lone_loops (tCons (t2 (tSl (tName 8) (oSome (tName 7)) (oNone)) (tSl (tName 8) (oNone) (oSome (tName 7))) pAdd) (tCons (tName 3) (tNil)))) (tSLW (tName 9)) pNe)) (sRet (tD (.bl false))) (sNext)) (sIf (tB (t2 (tCall0 m_lone_loops (tCons (t2 (tName 5) (tCall0 m_law_other (tCons (tName 5) (tNil))) pAdd) (tCons (tName 3) (tNil)))) (tSl (tLst (tCons (tCall0 m_loop (tCons (tName 5) (tNil))) (tNil))) (oNone) (oSome (tName 3))) pNe)) (sRet (tD (.bl false))) (sNext))))))))))))))))) (sRet (tD (.bl true)))
abbrev N_law : List Str := ["_law_script", "_law_k", "_law_box_here", "_law_length", "_law_left", "_law_x", "_law_y", "_law_at", "_law_yard", "_law_due_here", "_law_word"]
theorem len_law (ds : List D) (s : Sto) (Q : C → Sto → Prop) (h : m_law ds s Q) : ds.length = 1 := by
  unfold m_law at h
  split at h
  · rfl
  · exact h.elim
theorem p_law (ds : List D) (s : Sto) (Q : C → Sto → Prop) (h : m_law ds s Q) : t_law noX { nx := fun e => Q (.d .non) e.st, rt := fun c e => Q c e.st } ⟨startC N_law ds, s⟩ := by
  unfold m_law at h
  split at h
  · rename_i n
    obtain ⟨hn, q⟩ := h
    unfold t_law
    simpa?! only []
    intro ns hns
    have nl : ns.length ≤ 4 := by
      have := cut_mid (List.range n) 1 4
      have e : cut (List.range n) (some 1) (some 4) = _ := this
      rw [hns, e]
      simp
      omega
    have nl2 : (ns.map D.int).length ≤ 4 := by rw [List.length_map]; exact nl
    generalize ns.map D.int = nsD at *
    refine ⟨⟨by omega, by omega⟩, ?_⟩
    refine forH_rng 0 _ (fun _ e => ∃ (c1 c2 c3 c4 c5 c6 c7 c8 c9 : C), e = ⟨[.d (.scr n), c1, c2, c3, c4, c5, c6, c7, c8, c9, .un], s⟩) ⟨_, _, _, _, _, _, _, _, _, rfl⟩ ?_ ?_
    · rintro e ⟨c1, c2, c3, c4, c5, c6, c7, c8, c9, rfl⟩
      simpa?! only []
      exact q _
    · rintro j e hj ⟨c1, c2, c3, c4, c5, c6, c7, c8, c9, rfl⟩ N hN
      simpa?! only [e_box, e_take]
      refine ⟨by omega, by omega, fun d d0 d1 => ?_⟩
      obtain ⟨d, rfl⟩ := Int.eq_ofNat_of_zero_le d0
      refine br_intro (fun _ => ?_) fun _ => ?_
      · simpa?! only []
        rw [show min ((d : Nat) : Int) 4 = ((min d 4 : Nat) : Int) by omega]
        have hm : min d 4 ≤ 6 := by omega
        generalize min d 4 = m at *
        simpa?! only [e_take]
        intro f f0 f1
        refine signs_pop f0 (by show f < 26; omega) fun kf hkf => ?_
        have hx0 : SM[kf] ∈ SM := List.getElem_mem hkf
        have nd : SM.Nodup := by decide +kernel
        have pe := perm_erase hkf
        have nd2 := (pe.nodup_iff.mp nd)
        have sl : (SM.eraseIdx kf).length = 25 := by rw [List.length_eraseIdx_of_lt hkf]; rfl
        generalize SM[kf] = x0 at *
        simpa?! only [e_take]
        intro g g0 g1
        refine signs_pop g0 (by rw [sl]; omega) fun kg hkg => ?_
        have hy0 : (SM.eraseIdx kf)[kg] ∈ SM.eraseIdx kf := List.getElem_mem hkg
        generalize (SM.eraseIdx kf)[kg] = y0 at *
        have hy1 : y0 ∈ SM := pe.mem_iff.mpr (List.mem_cons_of_mem _ hy0)
        have hxy : x0 ≠ y0 := fun e => (List.nodup_cons.mp nd2).1 (e ▸ hy0)
        have xL : IsL x0 := smL x0 hx0
        have yL : IsL y0 := smL y0 hy1
        have eox : ∀ {s Q}, m_law_other [.str [x0]] s Q = Q (.d (.str [con x0])) s := fun {s Q} => @con_eq x0 xL s Q
        have eoy : ∀ {s Q}, m_law_other [.str [y0]] s Q = Q (.d (.str [con y0])) s := fun {s Q} => @con_eq y0 yL s Q
        simpa?! only [e_take, eox, eoy]
        intro u u0 u1
        refine at_mem u0 u1 fun ax hax => ?_
        obtain ⟨x, rfl, hx⟩ : ∃ x, ax = .str [x] ∧ (x = x0 ∨ x = con x0) := by
          simp only [List.mem_cons, List.not_mem_nil, or_false] at hax
          rcases hax with rfl | rfl
          · exact ⟨_, rfl, .inl rfl⟩
          · exact ⟨_, rfl, .inr rfl⟩
        simpa?! only [e_take, eox, eoy]
        intro v v0 v1
        refine at_mem v0 v1 fun ay hay => ?_
        obtain ⟨y, rfl, hy⟩ : ∃ y, ay = .str [y] ∧ (y = y0 ∨ y = con y0) := by
          simp only [List.mem_cons, List.not_mem_nil, or_false] at hay
          rcases hay with rfl | rfl
          · exact ⟨_, rfl, .inl rfl⟩
          · exact ⟨_, rfl, .inr rfl⟩
        have L2 := lt2_of hx0 hy1 hxy hx hy
        generalize (SM.eraseIdx kf).eraseIdx kg = lf at *
        clear hx hy hax hay eox eoy xL yL hxy hy0 hy1 hx0
        simpa?! only [e_take]
        intro t t0 t1
        obtain ⟨t, rfl⟩ := Int.eq_ofNat_of_zero_le t0
        have eox : ∀ {s Q}, m_law_other [.str [x]] s Q = Q (.d (.str [con x])) s := fun {s Q} => @con_eq x L2.lx s Q
        have eoy : ∀ {s Q}, m_law_other [.str [y]] s Q = Q (.d (.str [con y])) s := fun {s Q} => @con_eq y L2.ly s Q
        simpa?! only [eox, eoy, cut_drop, cut_take]
        have rl : ∀ l : List Nat, l.length = 4 → (l.drop t).length + (l.take t).length ≤ 16777216 := fun l hl => by rw [List.length_drop, List.length_take]; omega
        refine ⟨rl _ rfl, ?_⟩
        have p1 := rot_permX [x, y, con x, con y] t
        have Y1 : YOk ([x, y, con x, con y].drop t ++ [x, y, con x, con y].take t) := ⟨yard_perm L2.yard p1, by rw [p1.length_eq]; show 4 ≤ 64; omega⟩
        refine LL_i Y1 (fun e => by have := p1.length_eq; rw [e] at this; simp at this) (by rw [p1.length_eq]; show 4 ≤ 8; omega) (by omega) (by omega) ?_
        rw [Int.toNat_natCast, LL_crossed L2 hm (by omega)]
        simpa?! only []
        refine due_i hm L2 ?_
        simpa?! only []
        refine ⟨okL_strL _ _, okL_strL _ _, br_neg (by rw [eqL_strs, decide_eq_true rfl]; rfl) ?_⟩
        simpa?! only [eox, eoy]
        rw [show min ((m : Nat) : Int) 4 = ((min m 4 : Nat) : Int) by omega]
        have hm4 : min m 4 ≤ 4 := by omega
        generalize min m 4 = m at *
        rw [show [D.str [x], D.str [y], D.str [x, y]] = (due3 x y).map D.str from rfl]
        have dW : ∀ w ∈ due3 x y, IsW w ∧ w.length ≤ 64 := fun w hw => by
          unfold due3 at hw
          simp only [List.mem_cons, List.not_mem_nil, or_false] at hw
          rcases hw with rfl | rfl | rfl
          · exact ⟨fun c hc => by rw [List.mem_singleton.mp hc]; exact L2.lx, by simp⟩
          · exact ⟨fun c hc => by rw [List.mem_singleton.mp hc]; exact L2.ly, by simp⟩
          · exact ⟨fun c hc => by
              simp only [List.mem_cons, List.not_mem_nil, or_false] at hc
              rcases hc with rfl | rfl
              · exact L2.lx
              · exact L2.ly, by simp⟩
        refine lcH_fm (fun w => decide ((w.length : Int) ≤ (m : Nat))) (fun w => .str (loop w)) (fun w hw K k => ?_) ?_
        · obtain ⟨w1, w2⟩ := dW w hw
          simpa?! only []
          cases e : decide ((w.length : Int) ≤ (m : Nat)) with
          | false => rw [e] at k; refine br_neg rfl ?_; simpa?! only []; exact k
          | true =>
            rw [e] at k
            refine br_pos rfl ?_
            simpa?! only [e_loop]
            exact ⟨w1, by omega, k⟩
        · rw [show (((due3 x y).filter fun w => decide ((w.length : Int) ≤ (m : Nat))).map fun w => D.str (loop w)) = (((due3 x y).filter fun w => decide ((w.length : Int) ≤ (m : Nat))).map loop).map D.str from by rw [List.map_map]; rfl]
          have fl : (((due3 x y).filter fun w => decide ((w.length : Int) ≤ (m : Nat))).map loop).length ≤ 3 := by rw [List.length_map]; exact List.length_filter_le _ _
          have e2 := LL_side (x := x) (y := y) (n := m) (k := t) L2 hm4 (by omega)
          generalize ((due3 x y).filter fun w => decide ((w.length : Int) ≤ (m : Nat))).map loop = DL at *
          simpa?! only [cut_drop, cut_take]
          refine ⟨rl _ rfl, ?_⟩
          have p2 := rot_permX [x, con x, y, con y] t
          have p3 : [x, con x, y, con y].Perm [x, y, con x, con y] := .cons _ (.swap _ _ _)
          have Y2 : YOk ([x, con x, y, con y].drop t ++ [x, con x, y, con y].take t) := ⟨yard_perm (yard_perm L2.yard p3) p2, by rw [p2.length_eq]; show 4 ≤ 64; omega⟩
          refine LL_i Y2 (fun e => by have := p2.length_eq; rw [e] at this; simp at this) (by rw [p2.length_eq]; show 4 ≤ 8; omega) (by omega) (by omega) ?_
          rw [Int.toNat_natCast, e2]
          simpa?! only []
          refine slw_ok (by omega) ?_
          simpa?! only []
          refine ⟨okL_strL _ _, okL_strL _ _, br_neg (by rw [eqL_strs, decide_eq_true rfl]; rfl) ?_⟩
          simpa?! only [eox, eoy]
          have Y3 : YOk [x, con x] := ⟨yard1 L2.lx, by show 2 ≤ 64; omega⟩
          refine LL_i Y3 (by simp) (by show 2 ≤ 8; omega) (by omega) (by omega) ?_
          rw [Int.toNat_natCast, LL_one L2.lx (by omega)]
          have el : ∀ {s Q}, m_loop [.str [x]] s Q = Q (.d (.str (loop [x]))) s := fun {s Q} => propext ⟨fun z => z.2.2, fun z => ⟨fun c hc => by rw [List.mem_singleton.mp hc]; exact L2.lx, by simp, z⟩⟩
          have et : [D.str (loop [x])].take m = ([loop [x]].take m).map D.str := by rw [List.map_take]; rfl
          simpa?! only [el, cut_take]
          rw [et]
          refine ⟨okL_strL _ _, okL_strL _ _, br_neg (by rw [eqL_strs, decide_eq_true rfl]; rfl) ?_⟩
          simpa?! only []
          exact hN _ ⟨_, _, _, _, _, _, _, _, _, rfl⟩
      · simpa?! only []
        have hm : d ≤ 6 := by omega
        generalize d = m at *
        simpa?! only [e_take]
        intro f f0 f1
        refine signs_pop f0 (by show f < 26; omega) fun kf hkf => ?_
        have hx0 : SM[kf] ∈ SM := List.getElem_mem hkf
        have nd : SM.Nodup := by decide +kernel
        have pe := perm_erase hkf
        have nd2 := (pe.nodup_iff.mp nd)
        have sl : (SM.eraseIdx kf).length = 25 := by rw [List.length_eraseIdx_of_lt hkf]; rfl
        generalize SM[kf] = x0 at *
        simpa?! only [e_take]
        intro g g0 g1
        refine signs_pop g0 (by rw [sl]; omega) fun kg hkg => ?_
        have hy0 : (SM.eraseIdx kf)[kg] ∈ SM.eraseIdx kf := List.getElem_mem hkg
        generalize (SM.eraseIdx kf)[kg] = y0 at *
        have hy1 : y0 ∈ SM := pe.mem_iff.mpr (List.mem_cons_of_mem _ hy0)
        have hxy : x0 ≠ y0 := fun e => (List.nodup_cons.mp nd2).1 (e ▸ hy0)
        have xL : IsL x0 := smL x0 hx0
        have yL : IsL y0 := smL y0 hy1
        have eox : ∀ {s Q}, m_law_other [.str [x0]] s Q = Q (.d (.str [con x0])) s := fun {s Q} => @con_eq x0 xL s Q
        have eoy : ∀ {s Q}, m_law_other [.str [y0]] s Q = Q (.d (.str [con y0])) s := fun {s Q} => @con_eq y0 yL s Q
        simpa?! only [e_take, eox, eoy]
        intro u u0 u1
        refine at_mem u0 u1 fun ax hax => ?_
        obtain ⟨x, rfl, hx⟩ : ∃ x, ax = .str [x] ∧ (x = x0 ∨ x = con x0) := by
          simp only [List.mem_cons, List.not_mem_nil, or_false] at hax
          rcases hax with rfl | rfl
          · exact ⟨_, rfl, .inl rfl⟩
          · exact ⟨_, rfl, .inr rfl⟩
        simpa?! only [e_take, eox, eoy]
        intro v v0 v1
        refine at_mem v0 v1 fun ay hay => ?_
        obtain ⟨y, rfl, hy⟩ : ∃ y, ay = .str [y] ∧ (y = y0 ∨ y = con y0) := by
          simp only [List.mem_cons, List.not_mem_nil, or_false] at hay
          rcases hay with rfl | rfl
          · exact ⟨_, rfl, .inl rfl⟩
          · exact ⟨_, rfl, .inr rfl⟩
        have L2 := lt2_of hx0 hy1 hxy hx hy
        generalize (SM.eraseIdx kf).eraseIdx kg = lf at *
        clear hx hy hax hay eox eoy xL yL hxy hy0 hy1 hx0
        simpa?! only [e_take]
        intro t t0 t1
        obtain ⟨t, rfl⟩ := Int.eq_ofNat_of_zero_le t0
        have eox : ∀ {s Q}, m_law_other [.str [x]] s Q = Q (.d (.str [con x])) s := fun {s Q} => @con_eq x L2.lx s Q
        have eoy : ∀ {s Q}, m_law_other [.str [y]] s Q = Q (.d (.str [con y])) s := fun {s Q} => @con_eq y L2.ly s Q
        simpa?! only [eox, eoy, cut_drop, cut_take]
        have rl : ∀ l : List Nat, l.length = 4 → (l.drop t).length + (l.take t).length ≤ 16777216 := fun l hl => by rw [List.length_drop, List.length_take]; omega
        refine ⟨rl _ rfl, ?_⟩
        have p1 := rot_permX [x, y, con x, con y] t
        have Y1 : YOk ([x, y, con x, con y].drop t ++ [x, y, con x, con y].take t) := ⟨yard_perm L2.yard p1, by rw [p1.length_eq]; show 4 ≤ 64; omega⟩
        refine LL_i Y1 (fun e => by have := p1.length_eq; rw [e] at this; simp at this) (by rw [p1.length_eq]; show 4 ≤ 8; omega) (by omega) (by omega) ?_
        rw [Int.toNat_natCast, LL_crossed L2 hm (by omega)]
        simpa?! only []
        refine due_i hm L2 ?_
        simpa?! only []
        refine ⟨okL_strL _ _, okL_strL _ _, br_neg (by rw [eqL_strs, decide_eq_true rfl]; rfl) ?_⟩
        simpa?! only [eox, eoy]
        rw [show min ((m : Nat) : Int) 4 = ((min m 4 : Nat) : Int) by omega]
        have hm4 : min m 4 ≤ 4 := by omega
        generalize min m 4 = m at *
        rw [show [D.str [x], D.str [y], D.str [x, y]] = (due3 x y).map D.str from rfl]
        have dW : ∀ w ∈ due3 x y, IsW w ∧ w.length ≤ 64 := fun w hw => by
          unfold due3 at hw
          simp only [List.mem_cons, List.not_mem_nil, or_false] at hw
          rcases hw with rfl | rfl | rfl
          · exact ⟨fun c hc => by rw [List.mem_singleton.mp hc]; exact L2.lx, by simp⟩
          · exact ⟨fun c hc => by rw [List.mem_singleton.mp hc]; exact L2.ly, by simp⟩
          · exact ⟨fun c hc => by
              simp only [List.mem_cons, List.not_mem_nil, or_false] at hc
              rcases hc with rfl | rfl
              · exact L2.lx
              · exact L2.ly, by simp⟩
        refine lcH_fm (fun w => decide ((w.length : Int) ≤ (m : Nat))) (fun w => .str (loop w)) (fun w hw K k => ?_) ?_
        · obtain ⟨w1, w2⟩ := dW w hw
          simpa?! only []
          cases e : decide ((w.length : Int) ≤ (m : Nat)) with
          | false => rw [e] at k; refine br_neg rfl ?_; simpa?! only []; exact k
          | true =>
            rw [e] at k
            refine br_pos rfl ?_
            simpa?! only [e_loop]
            exact ⟨w1, by omega, k⟩
        · rw [show (((due3 x y).filter fun w => decide ((w.length : Int) ≤ (m : Nat))).map fun w => D.str (loop w)) = (((due3 x y).filter fun w => decide ((w.length : Int) ≤ (m : Nat))).map loop).map D.str from by rw [List.map_map]; rfl]
          have fl : (((due3 x y).filter fun w => decide ((w.length : Int) ≤ (m : Nat))).map loop).length ≤ 3 := by rw [List.length_map]; exact List.length_filter_le _ _
          have e2 := LL_side (x := x) (y := y) (n := m) (k := t) L2 hm4 (by omega)
          generalize ((due3 x y).filter fun w => decide ((w.length : Int) ≤ (m : Nat))).map loop = DL at *
          simpa?! only [cut_drop, cut_take]
          refine ⟨rl _ rfl, ?_⟩
          have p2 := rot_permX [x, con x, y, con y] t
          have p3 : [x, con x, y, con y].Perm [x, y, con x, con y] := .cons _ (.swap _ _ _)
          have Y2 : YOk ([x, con x, y, con y].drop t ++ [x, con x, y, con y].take t) := ⟨yard_perm (yard_perm L2.yard p3) p2, by rw [p2.length_eq]; show 4 ≤ 64; omega⟩
          refine LL_i Y2 (fun e => by have := p2.length_eq; rw [e] at this; simp at this) (by rw [p2.length_eq]; show 4 ≤ 8; omega) (by omega) (by omega) ?_
          rw [Int.toNat_natCast, e2]
          simpa?! only []
          refine slw_ok (by omega) ?_
          simpa?! only []
          refine ⟨okL_strL _ _, okL_strL _ _, br_neg (by rw [eqL_strs, decide_eq_true rfl]; rfl) ?_⟩
          simpa?! only [eox, eoy]
          have Y3 : YOk [x, con x] := ⟨yard1 L2.lx, by show 2 ≤ 64; omega⟩
          refine LL_i Y3 (by simp) (by show 2 ≤ 8; omega) (by omega) (by omega) ?_
          rw [Int.toNat_natCast, LL_one L2.lx (by omega)]
          have el : ∀ {s Q}, m_loop [.str [x]] s Q = Q (.d (.str (loop [x]))) s := fun {s Q} => propext ⟨fun z => z.2.2, fun z => ⟨fun c hc => by rw [List.mem_singleton.mp hc]; exact L2.lx, by simp, z⟩⟩
          have et : [D.str (loop [x])].take m = ([loop [x]].take m).map D.str := by rw [List.map_take]; rfl
          simpa?! only [el, cut_take]
          rw [et]
          refine ⟨okL_strL _ _, okL_strL _ _, br_neg (by rw [eqL_strs, decide_eq_true rfl]; rfl) ?_⟩
          simpa?! only []
          exact hN _ ⟨_, _, _, _, _, _, _, _, _, rfl⟩
  · exact h.elim
theorem law_m (n : Nat) (s : Sto) (Q : C → Sto → Prop) (h : n ≤ 63) (q : ∀ s', Q (.d (.bl true)) s') : m_law [.scr n] s Q := ⟨h, q⟩
end Pu
set_option maxRecDepth 100000
set_option maxHeartbeats 4000000
namespace Lw
open PySem L2 Pu
def top (i : Nat) : Stmt := PySem.Challenge.pw_mustmeet_k80_whole_lone_loops_of_crossed.main.body.getD i (.Pass ⟨0, 0, 0, 0⟩)
abbrev s_contrary : Stmt := top 3
def t_contrary : PTS := sRet (t2 (t2 (tD (.str CP)) (tD (.str SM)) pAdd) (tMeth "str" pIndexS (t2 (tD (.str SM)) (tD (.str CP)) pAdd) (rCons (tName 0) (rNil))) pIx)
abbrev N_contrary : List Str := ["letter"]
theorem sc_contrary : FnScope N_contrary ["letter"] (defScope s_contrary) := ⟨rfl, rfl, rfl, by decide +kernel, rfl, by decide +kernel, by decide +kernel⟩
abbrev s_turned : Stmt := top 4
def t_turned : PTS := sRet (tMeth "str" pJoin (tD (.str [])) (rCons (cLc (iRevP (tName 0)) (gName 1) (cYes) (tCall0 m_contrary (tCons (tName 1) (tNil))) [1]) (rNil)))
abbrev N_turned : List Str := ["word", "letter"]
theorem sc_turned : FnScope N_turned ["word"] (defScope s_turned) := ⟨rfl, rfl, rfl, by decide +kernel, rfl, by decide +kernel, by decide +kernel⟩
abbrev s_goes_round : Stmt := top 6
def t_goes_round : PTS := sSeq (sAsg 4 (tMeth "str" pIndexS (tName 0) (rCons (tName 1) (rNil)))) (sSeq (sAsg 5 (t2 (tSl (tName 0) (oSome (t2 (tName 4) (tD (.int 1)) pAdd)) (oNone)) (tSl (tName 0) (oNone) (oSome (tName 4))) pAdd)) (sRet (t2 (tMeth "str" pIndexS (tName 5) (rCons (tName 2) (rNil))) (tMeth "str" pIndexS (tName 5) (rCons (tName 3) (rNil))) pLt)))
abbrev N_goes_round : List Str := ["yard", "x", "y", "z", "at", "rest"]
theorem sc_goes_round : FnScope N_goes_round ["yard", "x", "y", "z"] (defScope s_goes_round) := ⟨rfl, rfl, rfl, by decide +kernel, rfl, by decide +kernel, by decide +kernel⟩
abbrev s_letter_at : Stmt := top 8
def t_letter_at : PTS := sRet (t2 (tName 0) (t2 (tName 1) (tCallP pLen (rCons (tName 0) (rNil))) pMod) pIx)
abbrev N_letter_at : List Str := ["word", "k"]
theorem sc_letter_at : FnScope N_letter_at ["word", "k"] (defScope s_letter_at) := ⟨rfl, rfl, rfl, by decide +kernel, rfl, by decide +kernel, by decide +kernel⟩
abbrev s_meets_across : Stmt := top 9
def t_meets_across : PTS := sSeq (sPar 5 6 (tCons (tCall0 m_contrary (tCons (tCall0 m_letter_at (tCons (tName 1) (tCons (t2 (tName 2) (tD (.int 1)) pSub) (tNil)))) (tNil))) (tCons (tCall0 m_letter_at (tCons (tName 1) (tCons (tName 2) (tNil)))) (tNil)))) (sSeq (sPar 7 8 (tCons (tCall0 m_contrary (tCons (tCall0 m_letter_at (tCons (tName 3) (tCons (t2 (tName 4) (tD (.int 1)) pSub) (tNil)))) (tNil))) (tCons (tCall0 m_letter_at (tCons (tName 3) (tCons (tName 4) (tNil)))) (tNil)))) (sSeq (sIf (tOr (tB (t2 (tName 7) (tTup (tCons (tName 5) (tCons (tName 6) (tNil)))) (pIn false))) (tOr (tB (t2 (tName 8) (tTup (tCons (tName 5) (tCons (tName 6) (tNil)))) (pIn false))) (tB (t2 (tName 7) (tName 8) pEq)))) (sRet (tD (.bl false))) (sNext)) (sRet (t2 (tCall0 m_goes_round (tCons (tName 0) (tCons (tName 5) (tCons (tName 7) (tCons (tName 6) (tNil)))))) (tCall0 m_goes_round (tCons (tName 0) (tCons (tName 5) (tCons (tName 8) (tCons (tName 6) (tNil)))))) pNe))))
abbrev N_meets_across : List Str := ["yard", "one", "i", "other", "j", "a", "b", "p", "q"]
theorem sc_meets_across : FnScope N_meets_across ["yard", "one", "i", "other", "j"] (defScope s_meets_across) := ⟨rfl, rfl, rfl, by decide +kernel, rfl, by decide +kernel, by decide +kernel⟩
abbrev s_meets_along : Stmt := top 10
def t_meets_along : PTS := sSeq (sAsg 5 (t2 (tCallP pLen (rCons (tName 1) (rNil))) (tCallP pLen (rCons (tName 3) (rNil))) pAdd)) (sSeq (sAsg 6 (tD (.int 0))) (sSeq (sWhile (tAnd (tB (t2 (tName 6) (tName 5) pLt)) (tB (t2 (tCall0 m_letter_at (tCons (tName 1) (tCons (t2 (tName 2) (tName 6) pAdd) (tNil)))) (tCall0 m_letter_at (tCons (tName 3) (tCons (t2 (tName 4) (tName 6) pAdd) (tNil)))) pEq))) (sAug 6 (tD (.int 1)))) (sSeq (sPar 7 8 (tCons (tCall0 m_letter_at (tCons (tName 1) (tCons (t2 (tName 2) (tD (.int 1)) pSub) (tNil)))) (tCons (tCall0 m_letter_at (tCons (tName 3) (tCons (t2 (tName 4) (tD (.int 1)) pSub) (tNil)))) (tNil)))) (sSeq (sIf (tOr (tB (t2 (tName 6) (tD (.int 0)) pEq)) (tB (t2 (tName 7) (tName 8) pEq))) (sRet (tD (.int 0))) (sNext)) (sSeq (sAsg 9 (tCall0 m_goes_round (tCons (tName 0) (tCons (tCall0 m_contrary (tCons (tName 7) (tNil))) (tCons (tCall0 m_contrary (tCons (tName 8) (tNil))) (tCons (tCall0 m_letter_at (tCons (tName 1) (tCons (tName 2) (tNil)))) (tNil))))))) (sSeq (sAsg 10 (tCall0 m_contrary (tCons (tCall0 m_letter_at (tCons (tName 1) (tCons (t2 (t2 (tName 2) (tName 6) pAdd) (tD (.int 1)) pSub) (tNil)))) (tNil)))) (sRet (t2 (tName 6) (tCallP pInt (rCons (t2 (tName 9) (tCall0 m_goes_round (tCons (tName 0) (tCons (tCall0 m_letter_at (tCons (tName 1) (tCons (t2 (tName 2) (tName 6) pAdd) (tNil)))) (tCons (tCall0 m_letter_at (tCons (tName 3) (tCons (t2 (tName 4) (tName 6) pAdd) (tNil)))) (tCons (tName 10) (tNil)))))) pEq) (rNil))) pMul))))))))
abbrev N_meets_along : List Str := ["yard", "one", "i", "other", "j", "most", "many", "p", "q", "begun", "last"]
theorem sc_meets_along : FnScope N_meets_along ["yard", "one", "i", "other", "j"] (defScope s_meets_along) := ⟨rfl, rfl, rfl, by decide +kernel, rfl, by decide +kernel, by decide +kernel⟩
abbrev s_meets_against : Stmt := top 11
def t_meets_against : PTS := sSeq (sAsg 5 (t2 (tCallP pLen (rCons (tName 1) (rNil))) (tCallP pLen (rCons (tName 3) (rNil))) pAdd)) (sSeq (sAsg 6 (tD (.int 0))) (sSeq (sWhile (tAnd (tB (t2 (tName 6) (tName 5) pLt)) (tB (t2 (tCall0 m_letter_at (tCons (tName 1) (tCons (t2 (tName 2) (tName 6) pAdd) (tNil)))) (tCall0 m_contrary (tCons (tCall0 m_letter_at (tCons (tName 3) (tCons (t2 (tName 4) (tName 6) pSub) (tNil)))) (tNil))) pEq))) (sAug 6 (tD (.int 1)))) (sSeq (sPar 7 8 (tCons (tCall0 m_contrary (tCons (tCall0 m_letter_at (tCons (tName 1) (tCons (t2 (tName 2) (tD (.int 1)) pSub) (tNil)))) (tNil))) (tCons (tCall0 m_letter_at (tCons (tName 3) (tCons (t2 (tName 4) (tD (.int 1)) pAdd) (tNil)))) (tNil)))) (sSeq (sIf (tOr (tB (t2 (tName 6) (tD (.int 0)) pEq)) (tB (t2 (tName 7) (tName 8) pEq))) (sRet (tD (.int 0))) (sNext)) (sSeq (sAsg 9 (tCall0 m_goes_round (tCons (tName 0) (tCons (tName 7) (tCons (tName 8) (tCons (tCall0 m_letter_at (tCons (tName 1) (tCons (tName 2) (tNil)))) (tNil))))))) (sSeq (sAsg 10 (tCall0 m_contrary (tCons (tCall0 m_letter_at (tCons (tName 1) (tCons (t2 (t2 (tName 2) (tName 6) pAdd) (tD (.int 1)) pSub) (tNil)))) (tNil)))) (sRet (t2 (tName 6) (tCallP pInt (rCons (t2 (tName 9) (tCall0 m_goes_round (tCons (tName 0) (tCons (tCall0 m_letter_at (tCons (tName 1) (tCons (t2 (tName 2) (tName 6) pAdd) (tNil)))) (tCons (tCall0 m_contrary (tCons (tCall0 m_letter_at (tCons (tName 3) (tCons (t2 (tName 4) (tName 6) pSub) (tNil)))) (tNil))) (tCons (tName 10) (tNil)))))) pEq) (rNil))) pMul))))))))
abbrev N_meets_against : List Str := ["yard", "one", "i", "other", "j", "most", "many", "p", "q", "begun", "last"]
theorem sc_meets_against : FnScope N_meets_against ["yard", "one", "i", "other", "j"] (defScope s_meets_against) := ⟨rfl, rfl, rfl, by decide +kernel, rfl, by decide +kernel, by decide +kernel⟩
abbrev s_things_at : Stmt := top 12
def t_things_at : PTS := sSeq (sPar 6 7 (tCons (t2 (tName 1) (tName 2) pIx) (tCons (t2 (tName 1) (tName 4) pIx) (tNil)))) (sSeq (sAsg 8 (tLst (tNil))) (sSeq (sIf (tB (t2 (tTup (tCons (tName 2) (tCons (tName 3) (tNil)))) (tTup (tCons (tName 4) (tCons (tName 5) (tNil)))) pLtT)) (sSeq (sIf (tB (tCall0 m_meets_across (tCons (tName 0) (tCons (tName 6) (tCons (tName 3) (tCons (tName 7) (tCons (tName 5) (tNil)))))))) (sDrop (tMut mAppend (tName 8) (tCons (tTup (tCons (tName 2) (tCons (tName 3) (tCons (tName 4) (tCons (tName 5) (tCons (tD (.int 0)) (tCons (tD (.str [97, 99, 114, 111, 115, 115])) (tNil)))))))) (tNil)))) (sNext)) (sSeq (sAsg 9 (tCall0 m_meets_along (tCons (tName 0) (tCons (tName 6) (tCons (tName 3) (tCons (tName 7) (tCons (tName 5) (tNil)))))))) (sIf (tB (t2 (tName 9) (tD (.int 0)) pGt)) (sDrop (tMut mAppend (tName 8) (tCons (tTup (tCons (tName 2) (tCons (tName 3) (tCons (tName 4) (tCons (tName 5) (tCons (tName 9) (tCons (tD (.str [97, 108, 111, 110, 103])) (tNil)))))))) (tNil)))) (sNext)))) (sNext)) (sSeq (sAsg 9 (tCall0 m_meets_against (tCons (tName 0) (tCons (tName 6) (tCons (tName 3) (tCons (tName 7) (tCons (tName 5) (tNil)))))))) (sSeq (sAsg 10 (tTup (tCons (t2 (t2 (t2 (tName 5) (tName 9) pSub) (tD (.int 1)) pAdd) (tCallP pLen (rCons (tName 7) (rNil))) pMod) (tCons (t2 (t2 (t2 (tName 3) (tName 9) pAdd) (tD (.int 1)) pSub) (tCallP pLen (rCons (tName 6) (rNil))) pMod) (tNil))))) (sSeq (sIf (tAnd (tB (t2 (tName 9) (tD (.int 0)) pGt)) (tOr (tB (t2 (tName 2) (tName 4) pLt)) (tAnd (tB (t2 (tName 2) (tName 4) pEq)) (tB (t2 (tTup (tCons (tName 3) (tCons (tName 5) (tNil)))) (tName 10) pLtT))))) (sDrop (tMut mAppend (tName 8) (tCons (tTup (tCons (tName 2) (tCons (tName 3) (tCons (tName 4) (tCons (tName 5) (tCons (tName 9) (tCons (tD (.str [97, 103, 97, 105, 110, 115, 116])) (tNil)))))))) (tNil)))) (sNext)) (sRet (tName 8)))))))
abbrev N_things_at : List Str := ["yard", "words", "c", "i", "d", "j", "one", "other", "found", "many", "back"]
theorem sc_things_at : FnScope N_things_at ["yard", "words", "c", "i", "d", "j"] (defScope s_things_at) := ⟨rfl, rfl, rfl, by decide +kernel, rfl, by decide +kernel, by decide +kernel⟩
abbrev s_forced : Stmt := top 13
def t_forced : PTS := sSeq (sAsg 2 (tLst (tNil))) (sSeq (sFor (iPure pRng1 (rCons (tCallP pLen (rCons (tName 1) (rNil))) (rNil))) (gName 3) (sFor (iPure pRng2 (rCons (tName 3) (rCons (tCallP pLen (rCons (tName 1) (rNil))) (rNil)))) (gName 4) (sFor (iPure pRng1 (rCons (tCallP pLen (rCons (t2 (tName 1) (tName 3) pIx) (rNil))) (rNil))) (gName 5) (sFor (iPure pRng1 (rCons (tCallP pLen (rCons (t2 (tName 1) (tName 4) pIx) (rNil))) (rNil))) (gName 6) (sDrop (tMut mExtend (tName 2) (tCons (tCall0 m_things_at (tCons (tName 0) (tCons (tName 1) (tCons (tName 3) (tCons (tName 5) (tCons (tName 4) (tCons (tName 6) (tNil)))))))) (tNil)))))))) (sRet (tCallP pSortN (rCons (tName 2) (rNil)))))
abbrev N_forced : List Str := ["yard", "words", "found", "c", "d", "i", "j"]
theorem sc_forced : FnScope N_forced ["yard", "words"] (defScope s_forced) := ⟨rfl, rfl, rfl, by decide +kernel, rfl, by decide +kernel, by decide +kernel⟩
abbrev s_shortened : Stmt := top 15
def t_shortened : PTS := sSeq (sAsg 1 (tLst (tNil))) (sSeq (sFor (iAny (tName 0)) (gName 2) (sIf (tAnd (tB (t2 (tCallP pLen (rCons (tName 1) (rNil))) (tD (.int 0)) pGt)) (tB (t2 (t2 (tName 1) (t1 (tD (.int 1)) pNeg) pIx) (tCall0 m_contrary (tCons (tName 2) (tNil))) pEq))) (sDrop (tMut mPop (tName 1) tNil)) (sDrop (tMut mAppend (tName 1) (tCons (tName 2) (tNil)))))) (sRet (tMeth "str" pJoin (tD (.str [])) (rCons (tName 1) (rNil)))))
abbrev N_shortened : List Str := ["word", "left", "letter"]
theorem sc_shortened : FnScope N_shortened ["word"] (defScope s_shortened) := ⟨rfl, rfl, rfl, by decide +kernel, rfl, by decide +kernel, by decide +kernel⟩
abbrev s_shortest : Stmt := top 16
def t_shortest : PTS := sSeq (sAsg 1 (tCall0 m_shortened (tCons (tName 0) (tNil)))) (sSeq (sWhile (tAnd (tB (t2 (tCallP pLen (rCons (tName 1) (rNil))) (tD (.int 1)) pGt)) (tB (t2 (t2 (tName 1) (tD (.int 0)) pIx) (tCall0 m_contrary (tCons (t2 (tName 1) (t1 (tD (.int 1)) pNeg) pIx) (tNil))) pEq))) (sAsg 1 (tSl (tName 1) (oSome (tD (.int 1))) (oSome (t1 (tD (.int 1)) pNeg))))) (sRet (tName 1)))
abbrev N_shortest : List Str := ["word", "left"]
theorem sc_shortest : FnScope N_shortest ["word"] (defScope s_shortest) := ⟨rfl, rfl, rfl, by decide +kernel, rfl, by decide +kernel, by decide +kernel⟩
abbrev s_ring : Stmt := top 17
def t_ring : PTS := sSeq (sAsg 1 (tCall0 m_shortest (tCons (tName 0) (tNil)))) (sSeq (sIf (tB (t2 (tName 1) (tD (.str [])) pEq)) (sRet (tD (.str []))) (sNext)) (sRet (tCallP pMin1 (rCons (cLc (iPure pRng1 (rCons (tCallP pLen (rCons (tName 1) (rNil))) (rNil))) (gName 2) (cYes) (t2 (tSl (tName 1) (oSome (tName 2)) (oNone)) (tSl (tName 1) (oNone) (oSome (tName 2))) pAdd) [2]) (rNil)))))
abbrev N_ring : List Str := ["word", "left", "k"]
theorem sc_ring : FnScope N_ring ["word"] (defScope s_ring) := ⟨rfl, rfl, rfl, by decide +kernel, rfl, by decide +kernel, by decide +kernel⟩
abbrev s_loop : Stmt := top 18
def t_loop : PTS := sRet (tCallP pMin2S (rCons (tCall0 m_ring (tCons (tName 0) (tNil))) (rCons (tCall0 m_ring (tCons (tCall0 m_turned (tCons (tName 0) (tNil))) (tNil))) (rNil))))
abbrev N_loop : List Str := ["word"]
theorem sc_loop : FnScope N_loop ["word"] (defScope s_loop) := ⟨rfl, rfl, rfl, by decide +kernel, rfl, by decide +kernel, by decide +kernel⟩
abbrev s_root : Stmt := top 19
def t_root : PTS := sSeq (sAsg 1 (tCall0 m_ring (tCons (tName 0) (tNil)))) (sSeq (sFor (iPure pRng2 (rCons (tD (.int 1)) (rCons (t2 (tCallP pLen (rCons (tName 1) (rNil))) (tD (.int 1)) pAdd) (rNil)))) (gName 2) (sIf (tAnd (tB (t2 (t2 (tCallP pLen (rCons (tName 1) (rNil))) (tName 2) pMod) (tD (.int 0)) pEq)) (tB (t2 (t2 (tSl (tName 1) (oNone) (oSome (tName 2))) (t2 (tCallP pLen (rCons (tName 1) (rNil))) (tName 2) pFdiv) pMul) (tName 1) pEq))) (sRet (tTup (tCons (tSl (tName 1) (oNone) (oSome (tName 2))) (tCons (t2 (tCallP pLen (rCons (tName 1) (rNil))) (tName 2) pFdiv) (tNil))))) (sNext))) (sRet (tTup (tCons (tD (.str [])) (tCons (tD (.int 0)) (tNil))))))
abbrev N_root : List Str := ["word", "found", "size"]
theorem sc_root : FnScope N_root ["word"] (defScope s_root) := ⟨rfl, rfl, rfl, by decide +kernel, rfl, by decide +kernel, by decide +kernel⟩
abbrev s_least : Stmt := top 21
def t_least : PTS := sRet (t2 (tCallP pLen (rCons (tCall0 m_forced (tCons (tName 0) (tCons (tName 1) (tNil)))) (rNil))) (tCallP pSum (rCons (cLc (iAny (tName 1)) (gName 2) (cYes) (t2 (t2 (tCall0 m_root (tCons (tName 2) (tNil))) (tD (.int 1)) pIx) (tD (.int 1)) pSub) [2]) (rNil))) pAdd)
abbrev N_least : List Str := ["yard", "words", "word"]
theorem sc_least : FnScope N_least ["yard", "words"] (defScope s_least) := ⟨rfl, rfl, rfl, by decide +kernel, rfl, by decide +kernel, by decide +kernel⟩
abbrev s_own : Stmt := top 22
def t_own : PTS := sRet (tCall0 m_least (tCons (tName 0) (tCons (tTup (tCons (tName 1) (tNil))) (tNil))))
abbrev N_own : List Str := ["yard", "word"]
theorem sc_own : FnScope N_own ["yard", "word"] (defScope s_own) := ⟨rfl, rfl, rfl, by decide +kernel, rfl, by decide +kernel, by decide +kernel⟩
abbrev s_is_lone : Stmt := top 24
def t_is_lone : PTS := sSeq (sAsg 2 (tCall0 m_shortest (tCons (tName 1) (tNil)))) (sRet (tAndV (t2 (tName 2) (tD (.str [])) pNe) (t2 (tCall0 m_own (tCons (tName 0) (tCons (tName 2) (tNil)))) (tD (.int 0)) pEq)))
abbrev N_is_lone : List Str := ["yard", "word", "short"]
theorem sc_is_lone : FnScope N_is_lone ["yard", "word"] (defScope s_is_lone) := ⟨rfl, rfl, rfl, by decide +kernel, rfl, by decide +kernel, by decide +kernel⟩
abbrev s_longer : Stmt := top 25
def t_longer : PTS := sSeq (sAsg 2 (tLst (tNil))) (sSeq (sFor (iAny (tName 1)) (gName 3) (sDrop (tMut mExtend (tName 2) (tCons (cLc (iAny (tName 0)) (gName 4) (tB (t2 (tName 4) (tCall0 m_contrary (tCons (t2 (tName 3) (t1 (tD (.int 1)) pNeg) pIx) (tNil))) pNe)) (t2 (tName 3) (tName 4) pAdd) [4]) (tNil))))) (sRet (tName 2)))
abbrev N_longer : List Str := ["yard", "words", "found", "word", "letter"]
theorem sc_longer : FnScope N_longer ["yard", "words"] (defScope s_longer) := ⟨rfl, rfl, rfl, by decide +kernel, rfl, by decide +kernel, by decide +kernel⟩
abbrev s_lone_loops : Stmt := top 26
def t_lone_loops : PTS := sSeq (sAsg 2 (tLst (tNil))) (sSeq (sAsg 3 (tCallP pList (rCons (tName 0) (rNil)))) (sSeq (sFor (iPure pRng1 (rCons (tName 1) (rNil))) (gName 4) (sSeq (sAsg 5 (cLc (iAny (tName 3)) (gName 6) (tAnd (tB (t2 (tCall0 m_shortest (tCons (tName 6) (tNil))) (tName 6) pEq)) (tB (t2 (tCall0 m_loop (tCons (tName 6) (tNil))) (tName 6) pEq))) (tName 6) [6])) (sSeq (sDrop (tMut mExtend (tName 2) (tCons (tCallP pSortA (rCons (cLc (iAny (tName 5)) (gName 6) (tB (tCall0 m_is_lone (tCons (tName 0) (tCons (tName 6) (tNil))))) (tName 6) [6]) (rNil))) (tNil)))) (sIf (tB (t2 (tName 4) (t2 (tName 1) (tD (.int 1)) pSub) pLt)) (sAsg 3 (tCall0 m_longer (tCons (tName 0) (tCons (tName 3) (tNil))))) (sNext))))) (sRet (tName 2))))
abbrev N_lone_loops : List Str := ["yard", "length", "found", "words", "many", "some", "word"]
theorem sc_lone_loops : FnScope N_lone_loops ["yard", "length"] (defScope s_lone_loops) := ⟨rfl, rfl, rfl, by decide +kernel, rfl, by decide +kernel, by decide +kernel⟩
abbrev s_law_box : Stmt := top 28
def t_law_box : PTS := sSeq (sAsg 2 (t2 (t2 (tD (.int 7919)) (tName 1) pMul) (tD (.int 11)) pAdd)) (sSeq (sIf (tB (t2 (tName 1) (tCallP pLen (rCons (tName 0) (rNil))) pLt)) (sAsg 2 (t2 (tName 0) (tName 1) pIx)) (sIf (tB (t2 (tCallP pLen (rCons (tName 0) (rNil))) (tD (.int 0)) pGt)) (sAsg 2 (t2 (tName 2) (t2 (t2 (t2 (tName 0) (t2 (tName 1) (tCallP pLen (rCons (tName 0) (rNil))) pMod) pIx) (tD (.int 2147483629)) pMod) (tD (.int 69623)) pMul) pAdd)) (sNext))) (sSeq (sAsg 3 (t2 (t2 (t2 (t2 (t2 (tName 2) (tD (.int 2147483629)) pMod) (t2 (tD (.int 104729)) (tName 1) pMul) pAdd) (tD (.int 1)) pAdd) (tD (.int 5)) pPow) (tD (.int 2147483647)) pMod)) (sRet (tLst (tCons (t2 (tLst (tCons (tD (.int 0)) (tCons (tName 2) (tNil)))) (tCallP pInt (rCons (t2 (tName 2) (t2 (tD (.int 10)) (tD (.int 18)) pPow) pGe) (rNil))) pIx) (tCons (t2 (t2 (tName 3) (tD (.int 2147483646)) pMod) (tD (.int 1)) pAdd) (tNil)))))))
abbrev N_law_box : List Str := ["_law_script", "_law_k", "_law_cell", "_law_seed"]
theorem sc_law_box : FnScope N_law_box ["_law_script", "_law_k"] (defScope s_law_box) := ⟨rfl, rfl, rfl, by decide +kernel, rfl, by decide +kernel, by decide +kernel⟩
abbrev s_law_take : Stmt := top 29
def t_law_take : PTS := sSeq (sIf (tB (t2 (t2 (tName 0) (tD (.int 0)) pIx) (tD (.int 0)) pGt)) (sSeq (sAsg 3 (t2 (t2 (tName 0) (tD (.int 0)) pIx) (tName 1) pMod)) (sSeq (sSetIx (t2 (t2 (tName 0) (tD (.int 0)) pIx) (tName 1) pFdiv) (tName 0) (tD (.int 0))) (sRet (tName 3)))) (sNext)) (sSeq (sAsg 2 (t2 (t2 (t2 (tName 0) (tD (.int 1)) pIx) (tD (.int 69623)) pMul) (tD (.int 2147483647)) pMod)) (sSeq (sSetIx (t2 (t2 (t2 (t2 (tName 2) (tD (.int 48271)) pMul) (tD (.int 30103)) pAdd) (tD (.int 2147483629)) pMod) (tD (.int 1)) pAdd) (tName 0) (tD (.int 1))) (sRet (t2 (t2 (t2 (t2 (tName 2) (tD (.int 2147483647)) pMul) (t2 (tName 0) (tD (.int 1)) pIx) pAdd) (tD (.int 8191)) pFdiv) (tName 1) pMod))))
abbrev N_law_take : List Str := ["_law_box_here", "_law_many", "_law_one", "_law_digit"]
theorem sc_law_take : FnScope N_law_take ["_law_box_here", "_law_many"] (defScope s_law_take) := ⟨rfl, rfl, rfl, by decide +kernel, rfl, by decide +kernel, by decide +kernel⟩
abbrev s_law_other : Stmt := top 30
def t_law_other : PTS := sSeq (sAsg 1 (tD (.str SM))) (sSeq (sAsg 2 (tD (.str CP))) (sSeq (sIf (tB (t2 (tName 0) (tName 1) (pIn false))) (sRet (t2 (tName 2) (tMeth "str" pIndexS (tName 1) (rCons (tName 0) (rNil))) pIx)) (sNext)) (sRet (t2 (tName 1) (tMeth "str" pIndexS (tName 2) (rCons (tName 0) (rNil))) pIx))))
abbrev N_law_other : List Str := ["_law_letter", "_law_small", "_law_capital"]
theorem sc_law_other : FnScope N_law_other ["_law_letter"] (defScope s_law_other) := ⟨rfl, rfl, rfl, by decide +kernel, rfl, by decide +kernel, by decide +kernel⟩
abbrev s_law_common : Stmt := top 31
def t_law_common : PTS := sSeq (sWhile (tB (t2 (tName 1) (tD (.int 0)) pGt)) (sPar 0 1 (tCons (tName 1) (tCons (t2 (tName 0) (tName 1) pMod) (tNil))))) (sRet (tName 0))
abbrev N_law_common : List Str := ["_law_p", "_law_q"]
theorem sc_law_common : FnScope N_law_common ["_law_p", "_law_q"] (defScope s_law_common) := ⟨rfl, rfl, rfl, by decide +kernel, rfl, by decide +kernel, by decide +kernel⟩
abbrev s_law_even : Stmt := top 32
def t_law_even : PTS := sSeq (sAsg 4 (tD (.str []))) (sSeq (sAsg 5 (tD (.int 0))) (sSeq (sFor (iPure pRng1 (rCons (t2 (tName 2) (tName 3) pAdd) (rNil))) (gName 6) (sSeq (sAsg 5 (t2 (t2 (tName 5) (tName 3) pAdd) (t2 (tName 2) (tName 3) pAdd) pMod)) (sAsg 4 (t2 (tName 4) (t2 (tLst (tCons (tName 0) (tCons (tName 1) (tNil)))) (tCallP pInt (rCons (t2 (tName 5) (tName 3) pLt) (rNil))) pIx) pAdd)))) (sRet (tName 4))))
abbrev N_law_even : List Str := ["_law_x", "_law_y", "_law_p", "_law_q", "_law_found", "_law_at", "_law_k"]
theorem sc_law_even : FnScope N_law_even ["_law_x", "_law_y", "_law_p", "_law_q"] (defScope s_law_even) := ⟨rfl, rfl, rfl, by decide +kernel, rfl, by decide +kernel, by decide +kernel⟩
abbrev s_law_due : Stmt := top 33
def t_law_due : PTS := sSeq (sAsg 3 (tDict0)) (sSeq (sFor (iPure pRng1 (rCons (t2 (tName 2) (tD (.int 1)) pAdd) (rNil))) (gName 4) (sFor (iPure pRng1 (rCons (t2 (t2 (tName 2) (tD (.int 1)) pAdd) (tName 4) pSub) (rNil))) (gName 5) (sIf (tB (t2 (tCall0 m_law_common (tCons (tName 4) (tCons (tName 5) (tNil)))) (tD (.int 1)) pEq)) (sSeq (sDPt (tD (.bl true)) (tName 3) (tCall0 m_loop (tCons (tCall0 m_law_even (tCons (tName 0) (tCons (tName 1) (tCons (tName 4) (tCons (tName 5) (tNil)))))) (tNil)))) (sDPt (tD (.bl true)) (tName 3) (tCall0 m_loop (tCons (tCall0 m_law_even (tCons (tName 0) (tCons (tCall0 m_law_other (tCons (tName 1) (tNil))) (tCons (tName 4) (tCons (tName 5) (tNil)))))) (tNil))))) (sNext)))) (sSeq (sIf (tB (t2 (tName 2) (tD (.int 3)) pGt)) (sDPt (tD (.bl true)) (tName 3) (tCall0 m_loop (tCons (t2 (t2 (t2 (tName 0) (tName 1) pAdd) (tCall0 m_law_other (tCons (tName 0) (tNil))) pAdd) (tCall0 m_law_other (tCons (tName 1) (tNil))) pAdd) (tNil)))) (sNext)) (sRet (tSLWD (tName 3)))))
abbrev N_law_due : List Str := ["_law_x", "_law_y", "_law_length", "_law_found", "_law_p", "_law_q"]
theorem sc_law_due : FnScope N_law_due ["_law_x", "_law_y", "_law_length"] (defScope s_law_due) := ⟨rfl, rfl, rfl, by decide +kernel, rfl, by decide +kernel, by decide +kernel⟩
abbrev s_law : Stmt := top 34
def t_law : PTS := sSeq (sFor (iPure pRng1 (rCons (t2 (tD (.int 1)) (tCallP pLen (rCons (tSl (tName 0) (oSome (tD (.int 1))) (oSome (tD (.int 4)))) (rNil))) pAdd) (rNil))) (gName 1) (sSeq (sAsg 2 (tCall0 m_law_box (tCons (tName 0) (tCons (tName 1) (tNil))))) (sSeq (sAsg 3 (tCall0 m_law_take (tCons (tName 2) (tCons (tD (.int 7)) (tNil))))) (sSeq (sIf (tB (t2 (tName 1) (tD (.int 0)) pGt)) (sAsg 3 (tCallP pMin2 (rCons (tName 3) (rCons (tD (.int 4)) (rNil))))) (sNext)) (sSeq (sAsg 4 (tCallP pList (rCons (tD (.str SM)) (rNil)))) (sSeq (sAsg 5 (tMut mPopAt (tName 4) (tCons (tCall0 m_law_take (tCons (tName 2) (tCons (tD (.int 26)) (tNil)))) (tNil)))) (sSeq (sAsg 6 (tMut mPopAt (tName 4) (tCons (tCall0 m_law_take (tCons (tName 2) (tCons (tD (.int 25)) (tNil)))) (tNil)))) (sSeq (sPar 5 6 (tCons (t2 (tLst (tCons (tName 5) (tCons (tCall0 m_law_other (tCons (tName 5) (tNil))) (tNil)))) (tCall0 m_law_take (tCons (tName 2) (tCons (tD (.int 2)) (tNil)))) pIx) (tCons (t2 (tLst (tCons (tName 6) (tCons (tCall0 m_law_other (tCons (tName 6) (tNil))) (tNil)))) (tCall0 m_law_take (tCons (tName 2) (tCons (tD (.int 2)) (tNil)))) pIx) (tNil)))) (sSeq (sAsg 7 (tCall0 m_law_take (tCons (tName 2) (tCons (tD (.int 4)) (tNil))))) (sSeq (sAsg 8 (t2 (t2 (t2 (tName 5) (tName 6) pAdd) (tCall0 m_law_other (tCons (tName 5) (tNil))) pAdd) (tCall0 m_law_other (tCons (tName 6) (tNil))) pAdd)) (sSeq (sIf (tB (t2 (tCall0 m_lone_loops (tCons (t2 (tSl (tName 8) (oSome (tName 7)) (oNone)) (tSl (tName 8) (oNone) (oSome (tName 7))) pAdd) (tCons (tName 3) (tNil)))) (tCall0 m_law_due (tCons (tName 5) (tCons (tName 6) (tCons (tName 3) (tNil))))) pNe)) (sRet (tD (.bl false))) (sNext)) (sSeq (sAsg 8 (t2 (t2 (t2 (tName 5) (tCall0 m_law_other (tCons (tName 5) (tNil))) pAdd) (tName 6) pAdd) (tCall0 m_law_other (tCons (tName 6) (tNil))) pAdd)) (sSeq (sAsg 3 (tCallP pMin2 (rCons (tName 3) (rCons (tD (.int 4)) (rNil))))) (sSeq (sAsg 9 (cLc (iAny (tTup (tCons (tName 5) (tCons (tName 6) (tCons (t2 (tName 5) (tName 6) pAdd) (tNil)))))) (gName 10) (tB (t2 (tCallP pLen (rCons (tName 10) (rNil))) (tName 3) pLe)) (tCall0 m_loop (tCons (tName 10) (tNil))) [10])) (sSeq (sIf (tB (t2 (tCall0 m_lone_loops (tCons (t2 (tSl (tName 8) (oSome (tName 7)) (oNone)) (tSl (tName 8) (oNone) (oSome (tName 7))) pAdd) (tCons (tName 3) (tNil)))) (tSLW (tName 9)) pNe)) (sRet (tD (.bl false))) (sNext)) (sIf (tB (t2 (tCall0 m_lone_loops (tCons (t2 (tName 5) (tCall0 m_law_other (tCons (tName 5) (tNil))) pAdd) (tCons (tName 3) (tNil)))) (tSl (tLst (tCons (tCall0 m_loop (tCons (tName 5) (tNil))) (tNil))) (oNone) (oSome (tName 3))) pNe)) (sRet (tD (.bl false))) (sNext))))))))))))))))) (sRet (tD (.bl true)))
abbrev N_law : List Str := ["_law_script", "_law_k", "_law_box_here", "_law_length", "_law_left", "_law_x", "_law_y", "_law_at", "_law_yard", "_law_due_here", "_law_word"]
theorem sc_law : FnScope N_law ["_law_script"] (defScope s_law) := ⟨rfl, rfl, rfl, by decide +kernel, rfl, by decide +kernel, by decide +kernel⟩
structure Tx (K : PySem.W.Frag) (mg : Str → Option Value) where
  f_contrary : Addr
  fd_contrary : FuncData
  d_contrary : DefOk K mg "contrary" s_contrary ["letter"] f_contrary fd_contrary
  f_turned : Addr
  fd_turned : FuncData
  d_turned : DefOk K mg "turned" s_turned ["word"] f_turned fd_turned
  f_goes_round : Addr
  fd_goes_round : FuncData
  d_goes_round : DefOk K mg "goes_round" s_goes_round ["yard", "x", "y", "z"] f_goes_round fd_goes_round
  f_letter_at : Addr
  fd_letter_at : FuncData
  d_letter_at : DefOk K mg "letter_at" s_letter_at ["word", "k"] f_letter_at fd_letter_at
  f_meets_across : Addr
  fd_meets_across : FuncData
  d_meets_across : DefOk K mg "meets_across" s_meets_across ["yard", "one", "i", "other", "j"] f_meets_across fd_meets_across
  f_meets_along : Addr
  fd_meets_along : FuncData
  d_meets_along : DefOk K mg "meets_along" s_meets_along ["yard", "one", "i", "other", "j"] f_meets_along fd_meets_along
  f_meets_against : Addr
  fd_meets_against : FuncData
  d_meets_against : DefOk K mg "meets_against" s_meets_against ["yard", "one", "i", "other", "j"] f_meets_against fd_meets_against
  f_things_at : Addr
  fd_things_at : FuncData
  d_things_at : DefOk K mg "things_at" s_things_at ["yard", "words", "c", "i", "d", "j"] f_things_at fd_things_at
  f_forced : Addr
  fd_forced : FuncData
  d_forced : DefOk K mg "forced" s_forced ["yard", "words"] f_forced fd_forced
  f_shortened : Addr
  fd_shortened : FuncData
  d_shortened : DefOk K mg "shortened" s_shortened ["word"] f_shortened fd_shortened
  f_shortest : Addr
  fd_shortest : FuncData
  d_shortest : DefOk K mg "shortest" s_shortest ["word"] f_shortest fd_shortest
  f_ring : Addr
  fd_ring : FuncData
  d_ring : DefOk K mg "ring" s_ring ["word"] f_ring fd_ring
  f_loop : Addr
  fd_loop : FuncData
  d_loop : DefOk K mg "loop" s_loop ["word"] f_loop fd_loop
  f_root : Addr
  fd_root : FuncData
  d_root : DefOk K mg "root" s_root ["word"] f_root fd_root
  f_least : Addr
  fd_least : FuncData
  d_least : DefOk K mg "least" s_least ["yard", "words"] f_least fd_least
  f_own : Addr
  fd_own : FuncData
  d_own : DefOk K mg "own" s_own ["yard", "word"] f_own fd_own
  f_is_lone : Addr
  fd_is_lone : FuncData
  d_is_lone : DefOk K mg "is_lone" s_is_lone ["yard", "word"] f_is_lone fd_is_lone
  f_longer : Addr
  fd_longer : FuncData
  d_longer : DefOk K mg "longer" s_longer ["yard", "words"] f_longer fd_longer
  f_lone_loops : Addr
  fd_lone_loops : FuncData
  d_lone_loops : DefOk K mg "lone_loops" s_lone_loops ["yard", "length"] f_lone_loops fd_lone_loops
  f_law_box : Addr
  fd_law_box : FuncData
  d_law_box : DefOk K mg "_law_box" s_law_box ["_law_script", "_law_k"] f_law_box fd_law_box
  f_law_take : Addr
  fd_law_take : FuncData
  d_law_take : DefOk K mg "_law_take" s_law_take ["_law_box_here", "_law_many"] f_law_take fd_law_take
  f_law_other : Addr
  fd_law_other : FuncData
  d_law_other : DefOk K mg "_law_other" s_law_other ["_law_letter"] f_law_other fd_law_other
  f_law_common : Addr
  fd_law_common : FuncData
  d_law_common : DefOk K mg "_law_common" s_law_common ["_law_p", "_law_q"] f_law_common fd_law_common
  f_law_even : Addr
  fd_law_even : FuncData
  d_law_even : DefOk K mg "_law_even" s_law_even ["_law_x", "_law_y", "_law_p", "_law_q"] f_law_even fd_law_even
  f_law_due : Addr
  fd_law_due : FuncData
  d_law_due : DefOk K mg "_law_due" s_law_due ["_law_x", "_law_y", "_law_length"] f_law_due fd_law_due
  cc_law_due : Addr
  PP_law_due : Addr
  cd_law_due : fd_law_due.code = .ref cc_law_due
  f_law : Addr
  fd_law : FuncData
  d_law : DefOk K mg "law" s_law ["_law_script"] f_law fd_law
  cc_law : Addr
  PP_law : Addr
  cd_law : fd_law.code = .ref cc_law
  np_law_due_law : PP_law_due ≠ PP_law
  n_int : mg "int" = none
  n_len : mg "len" = none
  n_list : mg "list" = none
  n_min : mg "min" = none
  n_range : mg "range" = none
  n_reversed : mg "reversed" = none
  n_sorted : mg "sorted" = none
  n_sum : mg "sum" = none
  tk_SMALL : Tok
  c_SMALL : mg "SMALL" = some (.str "abcdefghijklmnopqrstuvwxyz" tk_SMALL)
  tk_CAPITALS : Tok
  c_CAPITALS : mg "CAPITALS" = some (.str "ABCDEFGHIJKLMNOPQRSTUVWXYZ" tk_CAPITALS)
section
variable {P : Program} {w : World} {K : PySem.W.Frag} {mg : Str → Option Value} {base : Heap} (T : Tx K mg)
abbrev clsT (P : Program) (w : World) : Cl := ⟨fun _ => 0, P, w, [(T.PP_law_due, (PyProof.Rows.envOfC "_law_due" (defScope s_law_due) 0 0 .none).qual ++ ("<lambda>" : Str)), (T.PP_law, (PyProof.Rows.envOfC "law" (defScope s_law) 0 0 .none).qual ++ ("<lambda>" : Str))]⟩
abbrev flds0 : Nat → List Str := fun _ => []
class TBs (b : Heap) : Prop where
  t_law_due : LamX.TabB b mg T.cc_law_due T.PP_law_due
  t_law : LamX.TabB b mg T.cc_law T.PP_law
variable (TB : TBs T base)
theorem tabm_law_due : (T.PP_law_due, (PyProof.Rows.envOfC "_law_due" (defScope s_law_due) 0 0 .none).qual ++ ("<lambda>" : Str)) ∈ (clsT T P w).tabs := .head _
theorem tabn_law_due : ∀ t ∈ (clsT T P w).tabs, t.1 = T.PP_law_due → t.2 = (PyProof.Rows.envOfC "_law_due" (defScope s_law_due) 0 0 .none).qual ++ ("<lambda>" : Str) := by
  intro t ht e
  simp only [List.mem_cons, List.not_mem_nil, or_false] at ht
  rcases ht with rfl | rfl <;> first | exact absurd e T.np_law_due_law | exact absurd e.symm T.np_law_due_law | rfl
theorem tabm_law : (T.PP_law, (PyProof.Rows.envOfC "law" (defScope s_law) 0 0 .none).qual ++ ("<lambda>" : Str)) ∈ (clsT T P w).tabs := .tail _ (.head _)
theorem tabn_law : ∀ t ∈ (clsT T P w).tabs, t.1 = T.PP_law → t.2 = (PyProof.Rows.envOfC "law" (defScope s_law) 0 0 .none).qual ++ ("<lambda>" : Str) := by
  intro t ht e
  simp only [List.mem_cons, List.not_mem_nil, or_false] at ht
  rcases ht with rfl | rfl <;> first | exact absurd e T.np_law_due_law | exact absurd e.symm T.np_law_due_law | rfl
include TB
theorem w_contrary : VSs (fam0 P w K mg base N_contrary "contrary" (defScope s_contrary) T.f_contrary 0 (clsT T P w) flds0) (defBody s_contrary) t_contrary :=
  vss_one (vs_ret (ve_ix (ve_add (ve_globS CP (fun _ => T.c_CAPITALS)) (ve_globS SM (fun _ => T.c_SMALL))) (ve_indexS (ve_add (ve_globS SM (fun _ => T.c_SMALL)) (ve_globS CP (fun _ => T.c_CAPITALS))) (vr_cons (ve_name 0) (vr_nil)))))
theorem ok_contrary : FnG P w K mg base CX0 1 T.f_contrary T.fd_contrary ["letter"] (sp0 K (clsT T P w) flds0 m_contrary) := fn0 T.d_contrary.fn sc_contrary (w_contrary T TB) len_contrary p_contrary
theorem w_turned : VSs (fam0 P w K mg base N_turned "turned" (defScope s_turned) T.f_turned 1 (clsT T P w) flds0) (defBody s_turned) t_turned :=
  vss_one (vs_ret (ve_join (ve_str []) (vr_cons (ve_lc (fun _ => sc_turned.nd) (vi_revS (fun _ => T.n_reversed) (ve_name 0)) (fun _ => blkOk_by (own := [("letter", 1)]) (by show blkC N_turned (defScope s_turned) _ _ = true; decide +kernel)) (vg_name (i := 1) (fun _ => sc_turned.nd)) (vts_nil) (ve_call0 (fun _ => ok_contrary T TB) (fun p => p.1.hr.mono (by decide)) (hg_blk hg0) (fun _ => T.d_contrary.g) T.d_contrary.fn.kp T.d_contrary.b (va_cons (ve_name 1) (va_nil)))) (vr_nil))))
theorem ok_turned : FnG P w K mg base CX0 2 T.f_turned T.fd_turned ["word"] (sp0 K (clsT T P w) flds0 m_turned) := fn0 T.d_turned.fn sc_turned (w_turned T TB) len_turned p_turned
theorem w_goes_round : VSs (fam0 P w K mg base N_goes_round "goes_round" (defScope s_goes_round) T.f_goes_round 0 (clsT T P w) flds0) (defBody s_goes_round) t_goes_round :=
  vss_cons (vs_set (i := 4) (fun _ => sc_goes_round.nd) (ve_indexS (ve_name 0) (vr_cons (ve_name 1) (vr_nil)))) (vss_cons (vs_set (i := 5) (fun _ => sc_goes_round.nd) (ve_add (ve_slice (ve_name 0) (vo_some (ve_add (ve_name 4) (ve_int))) (vo_none)) (ve_slice (ve_name 0) (vo_none) (vo_some (ve_name 4))))) (vss_one (vs_ret (ve_lt (ve_indexS (ve_name 5) (vr_cons (ve_name 2) (vr_nil))) (ve_indexS (ve_name 5) (vr_cons (ve_name 3) (vr_nil)))))))
theorem ok_goes_round : FnG P w K mg base CX0 1 T.f_goes_round T.fd_goes_round ["yard", "x", "y", "z"] (sp0 K (clsT T P w) flds0 m_goes_round) := fn0 T.d_goes_round.fn sc_goes_round (w_goes_round T TB) len_goes_round p_goes_round
theorem w_letter_at : VSs (fam0 P w K mg base N_letter_at "letter_at" (defScope s_letter_at) T.f_letter_at 0 (clsT T P w) flds0) (defBody s_letter_at) t_letter_at :=
  vss_one (vs_ret (ve_ix (ve_name 0) (ve_mod (ve_name 1) (ve_len (fun _ => T.n_len) (vr_cons (ve_name 0) (vr_nil))))))
theorem ok_letter_at : FnG P w K mg base CX0 1 T.f_letter_at T.fd_letter_at ["word", "k"] (sp0 K (clsT T P w) flds0 m_letter_at) := fn0 T.d_letter_at.fn sc_letter_at (w_letter_at T TB) len_letter_at p_letter_at
theorem w_meets_across : VSs (fam0 P w K mg base N_meets_across "meets_across" (defScope s_meets_across) T.f_meets_across 1 (clsT T P w) flds0) (defBody s_meets_across) t_meets_across :=
  vss_cons (vs_par (i := 5) (j := 6) (fun _ => sc_meets_across.nd) (va_cons (ve_call0 (fun _ => ok_contrary T TB) (fun p => p.hr.mono (by decide)) hg0 (fun _ => T.d_contrary.g) T.d_contrary.fn.kp T.d_contrary.b (va_cons (ve_call0 (fun _ => ok_letter_at T TB) (fun p => p.hr.mono (by decide)) hg0 (fun _ => T.d_letter_at.g) T.d_letter_at.fn.kp T.d_letter_at.b (va_cons (ve_name 1) (va_cons (ve_sub (ve_name 2) (ve_int)) (va_nil)))) (va_nil))) (va_cons (ve_call0 (fun _ => ok_letter_at T TB) (fun p => p.hr.mono (by decide)) hg0 (fun _ => T.d_letter_at.g) T.d_letter_at.fn.kp T.d_letter_at.b (va_cons (ve_name 1) (va_cons (ve_name 2) (va_nil)))) (va_nil)))) (vss_cons (vs_par (i := 7) (j := 8) (fun _ => sc_meets_across.nd) (va_cons (ve_call0 (fun _ => ok_contrary T TB) (fun p => p.hr.mono (by decide)) hg0 (fun _ => T.d_contrary.g) T.d_contrary.fn.kp T.d_contrary.b (va_cons (ve_call0 (fun _ => ok_letter_at T TB) (fun p => p.hr.mono (by decide)) hg0 (fun _ => T.d_letter_at.g) T.d_letter_at.fn.kp T.d_letter_at.b (va_cons (ve_name 3) (va_cons (ve_sub (ve_name 4) (ve_int)) (va_nil)))) (va_nil))) (va_cons (ve_call0 (fun _ => ok_letter_at T TB) (fun p => p.hr.mono (by decide)) hg0 (fun _ => T.d_letter_at.g) T.d_letter_at.fn.kp T.d_letter_at.b (va_cons (ve_name 3) (va_cons (ve_name 4) (va_nil)))) (va_nil)))) (vss_cons (vs_if (VW.vt (vw_or (vt_in hu0 (ve_name 7) (ve_tup (va_cons (ve_name 5) (va_cons (ve_name 6) (va_nil))))) (vw_or (vt_in hu0 (ve_name 8) (ve_tup (va_cons (ve_name 5) (va_cons (ve_name 6) (va_nil))))) (vw_or1 (vt_eq hu0 (ve_name 7) (ve_name 8)))))) (vss_one (vs_ret (ve_bl))) (vss_nil)) (vss_one (vs_ret (ve_ne hu0 (ve_call0 (fun _ => ok_goes_round T TB) (fun p => p.hr.mono (by decide)) hg0 (fun _ => T.d_goes_round.g) T.d_goes_round.fn.kp T.d_goes_round.b (va_cons (ve_name 0) (va_cons (ve_name 5) (va_cons (ve_name 7) (va_cons (ve_name 6) (va_nil)))))) (ve_call0 (fun _ => ok_goes_round T TB) (fun p => p.hr.mono (by decide)) hg0 (fun _ => T.d_goes_round.g) T.d_goes_round.fn.kp T.d_goes_round.b (va_cons (ve_name 0) (va_cons (ve_name 5) (va_cons (ve_name 8) (va_cons (ve_name 6) (va_nil)))))))))))
theorem ok_meets_across : FnG P w K mg base CX0 2 T.f_meets_across T.fd_meets_across ["yard", "one", "i", "other", "j"] (sp0 K (clsT T P w) flds0 m_meets_across) := fn0 T.d_meets_across.fn sc_meets_across (w_meets_across T TB) len_meets_across p_meets_across
theorem w_meets_along : VSs (fam0 P w K mg base N_meets_along "meets_along" (defScope s_meets_along) T.f_meets_along 1 (clsT T P w) flds0) (defBody s_meets_along) t_meets_along :=
  vss_cons (vs_set (i := 5) (fun _ => sc_meets_along.nd) (ve_add (ve_len (fun _ => T.n_len) (vr_cons (ve_name 1) (vr_nil))) (ve_len (fun _ => T.n_len) (vr_cons (ve_name 3) (vr_nil))))) (vss_cons (vs_set (i := 6) (fun _ => sc_meets_along.nd) (ve_int)) (vss_cons (vs_while (fun _ => PassesOwn.never) (VW.vt (vw_and (vt_lt (ve_name 6) (ve_name 5)) (vw_and1 (vt_eq hu0 (ve_call0 (fun _ => ok_letter_at T TB) (fun p => p.hr.mono (by decide)) hg0 (fun _ => T.d_letter_at.g) T.d_letter_at.fn.kp T.d_letter_at.b (va_cons (ve_name 1) (va_cons (ve_add (ve_name 2) (ve_name 6)) (va_nil)))) (ve_call0 (fun _ => ok_letter_at T TB) (fun p => p.hr.mono (by decide)) hg0 (fun _ => T.d_letter_at.g) T.d_letter_at.fn.kp T.d_letter_at.b (va_cons (ve_name 3) (va_cons (ve_add (ve_name 4) (ve_name 6)) (va_nil)))))))) (vss_one (vs_aug (i := 6) (fun _ => sc_meets_along.nd) (ve_int)))) (vss_cons (vs_par (i := 7) (j := 8) (fun _ => sc_meets_along.nd) (va_cons (ve_call0 (fun _ => ok_letter_at T TB) (fun p => p.hr.mono (by decide)) hg0 (fun _ => T.d_letter_at.g) T.d_letter_at.fn.kp T.d_letter_at.b (va_cons (ve_name 1) (va_cons (ve_sub (ve_name 2) (ve_int)) (va_nil)))) (va_cons (ve_call0 (fun _ => ok_letter_at T TB) (fun p => p.hr.mono (by decide)) hg0 (fun _ => T.d_letter_at.g) T.d_letter_at.fn.kp T.d_letter_at.b (va_cons (ve_name 3) (va_cons (ve_sub (ve_name 4) (ve_int)) (va_nil)))) (va_nil)))) (vss_cons (vs_if (VW.vt (vw_or (vt_eq hu0 (ve_name 6) (ve_int)) (vw_or1 (vt_eq hu0 (ve_name 7) (ve_name 8))))) (vss_one (vs_ret (ve_int))) (vss_nil)) (vss_cons (vs_set (i := 9) (fun _ => sc_meets_along.nd) (ve_call0 (fun _ => ok_goes_round T TB) (fun p => p.hr.mono (by decide)) hg0 (fun _ => T.d_goes_round.g) T.d_goes_round.fn.kp T.d_goes_round.b (va_cons (ve_name 0) (va_cons (ve_call0 (fun _ => ok_contrary T TB) (fun p => p.hr.mono (by decide)) hg0 (fun _ => T.d_contrary.g) T.d_contrary.fn.kp T.d_contrary.b (va_cons (ve_name 7) (va_nil))) (va_cons (ve_call0 (fun _ => ok_contrary T TB) (fun p => p.hr.mono (by decide)) hg0 (fun _ => T.d_contrary.g) T.d_contrary.fn.kp T.d_contrary.b (va_cons (ve_name 8) (va_nil))) (va_cons (ve_call0 (fun _ => ok_letter_at T TB) (fun p => p.hr.mono (by decide)) hg0 (fun _ => T.d_letter_at.g) T.d_letter_at.fn.kp T.d_letter_at.b (va_cons (ve_name 1) (va_cons (ve_name 2) (va_nil)))) (va_nil))))))) (vss_cons (vs_set (i := 10) (fun _ => sc_meets_along.nd) (ve_call0 (fun _ => ok_contrary T TB) (fun p => p.hr.mono (by decide)) hg0 (fun _ => T.d_contrary.g) T.d_contrary.fn.kp T.d_contrary.b (va_cons (ve_call0 (fun _ => ok_letter_at T TB) (fun p => p.hr.mono (by decide)) hg0 (fun _ => T.d_letter_at.g) T.d_letter_at.fn.kp T.d_letter_at.b (va_cons (ve_name 1) (va_cons (ve_sub (ve_add (ve_name 2) (ve_name 6)) (ve_int)) (va_nil)))) (va_nil)))) (vss_one (vs_ret (ve_mul (ve_name 6) (ve_int1 (fun _ => T.n_int) (vr_cons (ve_eq hu0 (ve_name 9) (ve_call0 (fun _ => ok_goes_round T TB) (fun p => p.hr.mono (by decide)) hg0 (fun _ => T.d_goes_round.g) T.d_goes_round.fn.kp T.d_goes_round.b (va_cons (ve_name 0) (va_cons (ve_call0 (fun _ => ok_letter_at T TB) (fun p => p.hr.mono (by decide)) hg0 (fun _ => T.d_letter_at.g) T.d_letter_at.fn.kp T.d_letter_at.b (va_cons (ve_name 1) (va_cons (ve_add (ve_name 2) (ve_name 6)) (va_nil)))) (va_cons (ve_call0 (fun _ => ok_letter_at T TB) (fun p => p.hr.mono (by decide)) hg0 (fun _ => T.d_letter_at.g) T.d_letter_at.fn.kp T.d_letter_at.b (va_cons (ve_name 3) (va_cons (ve_add (ve_name 4) (ve_name 6)) (va_nil)))) (va_cons (ve_name 10) (va_nil))))))) (vr_nil))))))))))))
theorem ok_meets_along : FnG P w K mg base CX0 2 T.f_meets_along T.fd_meets_along ["yard", "one", "i", "other", "j"] (sp0 K (clsT T P w) flds0 m_meets_along) := fn0 T.d_meets_along.fn sc_meets_along (w_meets_along T TB) len_meets_along p_meets_along
theorem w_meets_against : VSs (fam0 P w K mg base N_meets_against "meets_against" (defScope s_meets_against) T.f_meets_against 1 (clsT T P w) flds0) (defBody s_meets_against) t_meets_against :=
  vss_cons (vs_set (i := 5) (fun _ => sc_meets_against.nd) (ve_add (ve_len (fun _ => T.n_len) (vr_cons (ve_name 1) (vr_nil))) (ve_len (fun _ => T.n_len) (vr_cons (ve_name 3) (vr_nil))))) (vss_cons (vs_set (i := 6) (fun _ => sc_meets_against.nd) (ve_int)) (vss_cons (vs_while (fun _ => PassesOwn.never) (VW.vt (vw_and (vt_lt (ve_name 6) (ve_name 5)) (vw_and1 (vt_eq hu0 (ve_call0 (fun _ => ok_letter_at T TB) (fun p => p.hr.mono (by decide)) hg0 (fun _ => T.d_letter_at.g) T.d_letter_at.fn.kp T.d_letter_at.b (va_cons (ve_name 1) (va_cons (ve_add (ve_name 2) (ve_name 6)) (va_nil)))) (ve_call0 (fun _ => ok_contrary T TB) (fun p => p.hr.mono (by decide)) hg0 (fun _ => T.d_contrary.g) T.d_contrary.fn.kp T.d_contrary.b (va_cons (ve_call0 (fun _ => ok_letter_at T TB) (fun p => p.hr.mono (by decide)) hg0 (fun _ => T.d_letter_at.g) T.d_letter_at.fn.kp T.d_letter_at.b (va_cons (ve_name 3) (va_cons (ve_sub (ve_name 4) (ve_name 6)) (va_nil)))) (va_nil))))))) (vss_one (vs_aug (i := 6) (fun _ => sc_meets_against.nd) (ve_int)))) (vss_cons (vs_par (i := 7) (j := 8) (fun _ => sc_meets_against.nd) (va_cons (ve_call0 (fun _ => ok_contrary T TB) (fun p => p.hr.mono (by decide)) hg0 (fun _ => T.d_contrary.g) T.d_contrary.fn.kp T.d_contrary.b (va_cons (ve_call0 (fun _ => ok_letter_at T TB) (fun p => p.hr.mono (by decide)) hg0 (fun _ => T.d_letter_at.g) T.d_letter_at.fn.kp T.d_letter_at.b (va_cons (ve_name 1) (va_cons (ve_sub (ve_name 2) (ve_int)) (va_nil)))) (va_nil))) (va_cons (ve_call0 (fun _ => ok_letter_at T TB) (fun p => p.hr.mono (by decide)) hg0 (fun _ => T.d_letter_at.g) T.d_letter_at.fn.kp T.d_letter_at.b (va_cons (ve_name 3) (va_cons (ve_add (ve_name 4) (ve_int)) (va_nil)))) (va_nil)))) (vss_cons (vs_if (VW.vt (vw_or (vt_eq hu0 (ve_name 6) (ve_int)) (vw_or1 (vt_eq hu0 (ve_name 7) (ve_name 8))))) (vss_one (vs_ret (ve_int))) (vss_nil)) (vss_cons (vs_set (i := 9) (fun _ => sc_meets_against.nd) (ve_call0 (fun _ => ok_goes_round T TB) (fun p => p.hr.mono (by decide)) hg0 (fun _ => T.d_goes_round.g) T.d_goes_round.fn.kp T.d_goes_round.b (va_cons (ve_name 0) (va_cons (ve_name 7) (va_cons (ve_name 8) (va_cons (ve_call0 (fun _ => ok_letter_at T TB) (fun p => p.hr.mono (by decide)) hg0 (fun _ => T.d_letter_at.g) T.d_letter_at.fn.kp T.d_letter_at.b (va_cons (ve_name 1) (va_cons (ve_name 2) (va_nil)))) (va_nil))))))) (vss_cons (vs_set (i := 10) (fun _ => sc_meets_against.nd) (ve_call0 (fun _ => ok_contrary T TB) (fun p => p.hr.mono (by decide)) hg0 (fun _ => T.d_contrary.g) T.d_contrary.fn.kp T.d_contrary.b (va_cons (ve_call0 (fun _ => ok_letter_at T TB) (fun p => p.hr.mono (by decide)) hg0 (fun _ => T.d_letter_at.g) T.d_letter_at.fn.kp T.d_letter_at.b (va_cons (ve_name 1) (va_cons (ve_sub (ve_add (ve_name 2) (ve_name 6)) (ve_int)) (va_nil)))) (va_nil)))) (vss_one (vs_ret (ve_mul (ve_name 6) (ve_int1 (fun _ => T.n_int) (vr_cons (ve_eq hu0 (ve_name 9) (ve_call0 (fun _ => ok_goes_round T TB) (fun p => p.hr.mono (by decide)) hg0 (fun _ => T.d_goes_round.g) T.d_goes_round.fn.kp T.d_goes_round.b (va_cons (ve_name 0) (va_cons (ve_call0 (fun _ => ok_letter_at T TB) (fun p => p.hr.mono (by decide)) hg0 (fun _ => T.d_letter_at.g) T.d_letter_at.fn.kp T.d_letter_at.b (va_cons (ve_name 1) (va_cons (ve_add (ve_name 2) (ve_name 6)) (va_nil)))) (va_cons (ve_call0 (fun _ => ok_contrary T TB) (fun p => p.hr.mono (by decide)) hg0 (fun _ => T.d_contrary.g) T.d_contrary.fn.kp T.d_contrary.b (va_cons (ve_call0 (fun _ => ok_letter_at T TB) (fun p => p.hr.mono (by decide)) hg0 (fun _ => T.d_letter_at.g) T.d_letter_at.fn.kp T.d_letter_at.b (va_cons (ve_name 3) (va_cons (ve_sub (ve_name 4) (ve_name 6)) (va_nil)))) (va_nil))) (va_cons (ve_name 10) (va_nil))))))) (vr_nil))))))))))))
theorem ok_meets_against : FnG P w K mg base CX0 2 T.f_meets_against T.fd_meets_against ["yard", "one", "i", "other", "j"] (sp0 K (clsT T P w) flds0 m_meets_against) := fn0 T.d_meets_against.fn sc_meets_against (w_meets_against T TB) len_meets_against p_meets_against
theorem w_things_at : VSs (fam0 P w K mg base N_things_at "things_at" (defScope s_things_at) T.f_things_at 2 (clsT T P w) flds0) (defBody s_things_at) t_things_at :=
  vss_cons (vs_par (i := 6) (j := 7) (fun _ => sc_things_at.nd) (va_cons (ve_ix (ve_name 1) (ve_name 2)) (va_cons (ve_ix (ve_name 1) (ve_name 4)) (va_nil)))) (vss_cons (vs_set (i := 8) (fun _ => sc_things_at.nd) (ve_lst (va_nil))) (vss_cons (vs_if (vt_ltT hu0 (ve_tup (va_cons (ve_name 2) (va_cons (ve_name 3) (va_nil)))) (ve_tup (va_cons (ve_name 4) (va_cons (ve_name 5) (va_nil))))) (vss_cons (vs_if (vt_val (ve_call0 (fun _ => ok_meets_across T TB) (fun p => p.hr.mono (by decide)) hg0 (fun _ => T.d_meets_across.g) T.d_meets_across.fn.kp T.d_meets_across.b (va_cons (ve_name 0) (va_cons (ve_name 6) (va_cons (ve_name 3) (va_cons (ve_name 7) (va_cons (ve_name 5) (va_nil)))))))) (vss_one (vs_expr (ve_append (ve_name 8) (va_cons (ve_tup (va_cons (ve_name 2) (va_cons (ve_name 3) (va_cons (ve_name 4) (va_cons (ve_name 5) (va_cons (ve_int) (va_cons (ve_str [97, 99, 114, 111, 115, 115]) (va_nil)))))))) (va_nil))))) (vss_nil)) (vss_cons (vs_set (i := 9) (fun _ => sc_things_at.nd) (ve_call0 (fun _ => ok_meets_along T TB) (fun p => p.hr.mono (by decide)) hg0 (fun _ => T.d_meets_along.g) T.d_meets_along.fn.kp T.d_meets_along.b (va_cons (ve_name 0) (va_cons (ve_name 6) (va_cons (ve_name 3) (va_cons (ve_name 7) (va_cons (ve_name 5) (va_nil)))))))) (vss_one (vs_if (vt_gt (ve_name 9) (ve_int)) (vss_one (vs_expr (ve_append (ve_name 8) (va_cons (ve_tup (va_cons (ve_name 2) (va_cons (ve_name 3) (va_cons (ve_name 4) (va_cons (ve_name 5) (va_cons (ve_name 9) (va_cons (ve_str [97, 108, 111, 110, 103]) (va_nil)))))))) (va_nil))))) (vss_nil))))) (vss_nil)) (vss_cons (vs_set (i := 9) (fun _ => sc_things_at.nd) (ve_call0 (fun _ => ok_meets_against T TB) (fun p => p.hr.mono (by decide)) hg0 (fun _ => T.d_meets_against.g) T.d_meets_against.fn.kp T.d_meets_against.b (va_cons (ve_name 0) (va_cons (ve_name 6) (va_cons (ve_name 3) (va_cons (ve_name 7) (va_cons (ve_name 5) (va_nil)))))))) (vss_cons (vs_set (i := 10) (fun _ => sc_things_at.nd) (ve_tup (va_cons (ve_mod (ve_add (ve_sub (ve_name 5) (ve_name 9)) (ve_int)) (ve_len (fun _ => T.n_len) (vr_cons (ve_name 7) (vr_nil)))) (va_cons (ve_mod (ve_sub (ve_add (ve_name 3) (ve_name 9)) (ve_int)) (ve_len (fun _ => T.n_len) (vr_cons (ve_name 6) (vr_nil)))) (va_nil))))) (vss_cons (vs_if (VW.vt (vw_and (vt_gt (ve_name 9) (ve_int)) (vw_and1 (VW.vt (vw_or (vt_lt (ve_name 2) (ve_name 4)) (vw_or1 (VW.vt (vw_and (vt_eq hu0 (ve_name 2) (ve_name 4)) (vw_and1 (vt_ltT hu0 (ve_tup (va_cons (ve_name 3) (va_cons (ve_name 5) (va_nil)))) (ve_name 10))))))))))) (vss_one (vs_expr (ve_append (ve_name 8) (va_cons (ve_tup (va_cons (ve_name 2) (va_cons (ve_name 3) (va_cons (ve_name 4) (va_cons (ve_name 5) (va_cons (ve_name 9) (va_cons (ve_str [97, 103, 97, 105, 110, 115, 116]) (va_nil)))))))) (va_nil))))) (vss_nil)) (vss_one (vs_ret (ve_name 8))))))))
theorem ok_things_at : FnG P w K mg base CX0 3 T.f_things_at T.fd_things_at ["yard", "words", "c", "i", "d", "j"] (sp0 K (clsT T P w) flds0 m_things_at) := fn0 T.d_things_at.fn sc_things_at (w_things_at T TB) len_things_at p_things_at
theorem w_forced : VSs (fam0 P w K mg base N_forced "forced" (defScope s_forced) T.f_forced 3 (clsT T P w) flds0) (defBody s_forced) t_forced :=
  vss_cons (vs_set (i := 2) (fun _ => sc_forced.nd) (ve_lst (va_nil))) (vss_cons (vs_for (fun _ => PassesOwn.never) (vi_range1 (fun _ => T.n_range) (vr_cons (ve_len (fun _ => T.n_len) (vr_cons (ve_name 1) (vr_nil))) (vr_nil))) (vg_name (i := 3) (fun _ => sc_forced.nd)) (vss_one (vs_for (fun _ => PassesOwn.never) (vi_range2 (fun _ => T.n_range) (vr_cons (ve_name 3) (vr_cons (ve_len (fun _ => T.n_len) (vr_cons (ve_name 1) (vr_nil))) (vr_nil)))) (vg_name (i := 4) (fun _ => sc_forced.nd)) (vss_one (vs_for (fun _ => PassesOwn.never) (vi_range1 (fun _ => T.n_range) (vr_cons (ve_len (fun _ => T.n_len) (vr_cons (ve_ix (ve_name 1) (ve_name 3)) (vr_nil))) (vr_nil))) (vg_name (i := 5) (fun _ => sc_forced.nd)) (vss_one (vs_for (fun _ => PassesOwn.never) (vi_range1 (fun _ => T.n_range) (vr_cons (ve_len (fun _ => T.n_len) (vr_cons (ve_ix (ve_name 1) (ve_name 4)) (vr_nil))) (vr_nil))) (vg_name (i := 6) (fun _ => sc_forced.nd)) (vss_one (vs_expr (ve_extend (ve_name 2) (va_cons (ve_call0 (fun _ => ok_things_at T TB) (fun p => p.hr.mono (by decide)) hg0 (fun _ => T.d_things_at.g) T.d_things_at.fn.kp T.d_things_at.b (va_cons (ve_name 0) (va_cons (ve_name 1) (va_cons (ve_name 3) (va_cons (ve_name 5) (va_cons (ve_name 4) (va_cons (ve_name 6) (va_nil)))))))) (va_nil)))))))))))) (vss_one (vs_ret (ve_sortN (fun _ => T.n_sorted) (vr_cons (ve_name 2) (vr_nil))))))
theorem ok_forced : FnG P w K mg base CX0 4 T.f_forced T.fd_forced ["yard", "words"] (sp0 K (clsT T P w) flds0 m_forced) := fn0 T.d_forced.fn sc_forced (w_forced T TB) len_forced p_forced
theorem w_shortened : VSs (fam0 P w K mg base N_shortened "shortened" (defScope s_shortened) T.f_shortened 1 (clsT T P w) flds0) (defBody s_shortened) t_shortened :=
  vss_cons (vs_set (i := 1) (fun _ => sc_shortened.nd) (ve_lst (va_nil))) (vss_cons (vs_for (fun _ => PassesOwn.never) (vi_any (ve_name 0)) (vg_name (i := 2) (fun _ => sc_shortened.nd)) (vss_one (vs_if (VW.vt (vw_and (vt_gt (ve_len (fun _ => T.n_len) (vr_cons (ve_name 1) (vr_nil))) (ve_int)) (vw_and1 (vt_eq hu0 (ve_ix (ve_name 1) (ve_neg (ve_int))) (ve_call0 (fun _ => ok_contrary T TB) (fun p => p.hr.mono (by decide)) hg0 (fun _ => T.d_contrary.g) T.d_contrary.fn.kp T.d_contrary.b (va_cons (ve_name 2) (va_nil))))))) (vss_one (vs_expr (ve_pop (ve_name 1)))) (vss_one (vs_expr (ve_append (ve_name 1) (va_cons (ve_name 2) (va_nil)))))))) (vss_one (vs_ret (ve_join (ve_str []) (vr_cons (ve_name 1) (vr_nil))))))
theorem ok_shortened : FnG P w K mg base CX0 2 T.f_shortened T.fd_shortened ["word"] (sp0 K (clsT T P w) flds0 m_shortened) := fn0 T.d_shortened.fn sc_shortened (w_shortened T TB) len_shortened p_shortened
theorem w_shortest : VSs (fam0 P w K mg base N_shortest "shortest" (defScope s_shortest) T.f_shortest 2 (clsT T P w) flds0) (defBody s_shortest) t_shortest :=
  vss_cons (vs_set (i := 1) (fun _ => sc_shortest.nd) (ve_call0 (fun _ => ok_shortened T TB) (fun p => p.hr.mono (by decide)) hg0 (fun _ => T.d_shortened.g) T.d_shortened.fn.kp T.d_shortened.b (va_cons (ve_name 0) (va_nil)))) (vss_cons (vs_while (fun _ => PassesOwn.never) (VW.vt (vw_and (vt_gt (ve_len (fun _ => T.n_len) (vr_cons (ve_name 1) (vr_nil))) (ve_int)) (vw_and1 (vt_eq hu0 (ve_ix (ve_name 1) (ve_int)) (ve_call0 (fun _ => ok_contrary T TB) (fun p => p.hr.mono (by decide)) hg0 (fun _ => T.d_contrary.g) T.d_contrary.fn.kp T.d_contrary.b (va_cons (ve_ix (ve_name 1) (ve_neg (ve_int))) (va_nil))))))) (vss_one (vs_set (i := 1) (fun _ => sc_shortest.nd) (ve_slice (ve_name 1) (vo_some (ve_int)) (vo_some (ve_neg (ve_int))))))) (vss_one (vs_ret (ve_name 1))))
theorem ok_shortest : FnG P w K mg base CX0 3 T.f_shortest T.fd_shortest ["word"] (sp0 K (clsT T P w) flds0 m_shortest) := fn0 T.d_shortest.fn sc_shortest (w_shortest T TB) len_shortest p_shortest
theorem w_ring : VSs (fam0 P w K mg base N_ring "ring" (defScope s_ring) T.f_ring 3 (clsT T P w) flds0) (defBody s_ring) t_ring :=
  vss_cons (vs_set (i := 1) (fun _ => sc_ring.nd) (ve_call0 (fun _ => ok_shortest T TB) (fun p => p.hr.mono (by decide)) hg0 (fun _ => T.d_shortest.g) T.d_shortest.fn.kp T.d_shortest.b (va_cons (ve_name 0) (va_nil)))) (vss_cons (vs_if (vt_eq hu0 (ve_name 1) (ve_str [])) (vss_one (vs_ret (ve_str []))) (vss_nil)) (vss_one (vs_ret (ve_min1 hu0 (fun _ => T.n_min) (vr_cons (ve_lc (fun _ => sc_ring.nd) (vi_range1 (fun _ => T.n_range) (vr_cons (ve_len (fun _ => T.n_len) (vr_cons (ve_name 1) (vr_nil))) (vr_nil))) (fun _ => blkOk_by (own := [("k", 2)]) (by show blkC N_ring (defScope s_ring) _ _ = true; decide +kernel)) (vg_name (i := 2) (fun _ => sc_ring.nd)) (vts_nil) (ve_add (ve_slice (ve_name 1) (vo_some (ve_name 2)) (vo_none)) (ve_slice (ve_name 1) (vo_none) (vo_some (ve_name 2))))) (vr_nil))))))
theorem ok_ring : FnG P w K mg base CX0 4 T.f_ring T.fd_ring ["word"] (sp0 K (clsT T P w) flds0 m_ring) := fn0 T.d_ring.fn sc_ring (w_ring T TB) len_ring p_ring
theorem w_loop : VSs (fam0 P w K mg base N_loop "loop" (defScope s_loop) T.f_loop 4 (clsT T P w) flds0) (defBody s_loop) t_loop :=
  vss_one (vs_ret (ve_min2S (fun _ => T.n_min) (vr_cons (ve_call0 (fun _ => ok_ring T TB) (fun p => p.hr.mono (by decide)) hg0 (fun _ => T.d_ring.g) T.d_ring.fn.kp T.d_ring.b (va_cons (ve_name 0) (va_nil))) (vr_cons (ve_call0 (fun _ => ok_ring T TB) (fun p => p.hr.mono (by decide)) hg0 (fun _ => T.d_ring.g) T.d_ring.fn.kp T.d_ring.b (va_cons (ve_call0 (fun _ => ok_turned T TB) (fun p => p.hr.mono (by decide)) hg0 (fun _ => T.d_turned.g) T.d_turned.fn.kp T.d_turned.b (va_cons (ve_name 0) (va_nil))) (va_nil))) (vr_nil)))))
theorem ok_loop : FnG P w K mg base CX0 5 T.f_loop T.fd_loop ["word"] (sp0 K (clsT T P w) flds0 m_loop) := fn0 T.d_loop.fn sc_loop (w_loop T TB) len_loop p_loop
theorem w_root : VSs (fam0 P w K mg base N_root "root" (defScope s_root) T.f_root 4 (clsT T P w) flds0) (defBody s_root) t_root :=
  vss_cons (vs_set (i := 1) (fun _ => sc_root.nd) (ve_call0 (fun _ => ok_ring T TB) (fun p => p.hr.mono (by decide)) hg0 (fun _ => T.d_ring.g) T.d_ring.fn.kp T.d_ring.b (va_cons (ve_name 0) (va_nil)))) (vss_cons (vs_for (fun _ => PassesOwn.never) (vi_range2 (fun _ => T.n_range) (vr_cons (ve_int) (vr_cons (ve_add (ve_len (fun _ => T.n_len) (vr_cons (ve_name 1) (vr_nil))) (ve_int)) (vr_nil)))) (vg_name (i := 2) (fun _ => sc_root.nd)) (vss_one (vs_if (VW.vt (vw_and (vt_eq hu0 (ve_mod (ve_len (fun _ => T.n_len) (vr_cons (ve_name 1) (vr_nil))) (ve_name 2)) (ve_int)) (vw_and1 (vt_eq hu0 (ve_mul (ve_slice (ve_name 1) (vo_none) (vo_some (ve_name 2))) (ve_fdiv (ve_len (fun _ => T.n_len) (vr_cons (ve_name 1) (vr_nil))) (ve_name 2))) (ve_name 1))))) (vss_one (vs_ret (ve_tup (va_cons (ve_slice (ve_name 1) (vo_none) (vo_some (ve_name 2))) (va_cons (ve_fdiv (ve_len (fun _ => T.n_len) (vr_cons (ve_name 1) (vr_nil))) (ve_name 2)) (va_nil)))))) (vss_nil)))) (vss_one (vs_ret (ve_tup (va_cons (ve_str []) (va_cons (ve_int) (va_nil)))))))
theorem ok_root : FnG P w K mg base CX0 5 T.f_root T.fd_root ["word"] (sp0 K (clsT T P w) flds0 m_root) := fn0 T.d_root.fn sc_root (w_root T TB) len_root p_root
theorem w_least : VSs (fam0 P w K mg base N_least "least" (defScope s_least) T.f_least 5 (clsT T P w) flds0) (defBody s_least) t_least :=
  vss_one (vs_ret (ve_add (ve_len (fun _ => T.n_len) (vr_cons (ve_call0 (fun _ => ok_forced T TB) (fun p => p.hr.mono (by decide)) hg0 (fun _ => T.d_forced.g) T.d_forced.fn.kp T.d_forced.b (va_cons (ve_name 0) (va_cons (ve_name 1) (va_nil)))) (vr_nil))) (ve_sum (fun _ => T.n_sum) (vr_cons (ve_lc (fun _ => sc_least.nd) (vi_any (ve_name 1)) (fun _ => blkOk_by (own := [("word", 2)]) (by show blkC N_least (defScope s_least) _ _ = true; decide +kernel)) (vg_name (i := 2) (fun _ => sc_least.nd)) (vts_nil) (ve_sub (ve_ix (ve_call0 (fun _ => ok_root T TB) (fun p => p.1.hr.mono (by decide)) (hg_blk hg0) (fun _ => T.d_root.g) T.d_root.fn.kp T.d_root.b (va_cons (ve_name 2) (va_nil))) (ve_int)) (ve_int))) (vr_nil)))))
theorem ok_least : FnG P w K mg base CX0 6 T.f_least T.fd_least ["yard", "words"] (sp0 K (clsT T P w) flds0 m_least) := fn0 T.d_least.fn sc_least (w_least T TB) len_least p_least
theorem w_own : VSs (fam0 P w K mg base N_own "own" (defScope s_own) T.f_own 6 (clsT T P w) flds0) (defBody s_own) t_own :=
  vss_one (vs_ret (ve_call0 (fun _ => ok_least T TB) (fun p => p.hr.mono (by decide)) hg0 (fun _ => T.d_least.g) T.d_least.fn.kp T.d_least.b (va_cons (ve_name 0) (va_cons (ve_tup (va_cons (ve_name 1) (va_nil))) (va_nil)))))
theorem ok_own : FnG P w K mg base CX0 7 T.f_own T.fd_own ["yard", "word"] (sp0 K (clsT T P w) flds0 m_own) := fn0 T.d_own.fn sc_own (w_own T TB) len_own p_own
theorem w_is_lone : VSs (fam0 P w K mg base N_is_lone "is_lone" (defScope s_is_lone) T.f_is_lone 7 (clsT T P w) flds0) (defBody s_is_lone) t_is_lone :=
  vss_cons (vs_set (i := 2) (fun _ => sc_is_lone.nd) (ve_call0 (fun _ => ok_shortest T TB) (fun p => p.hr.mono (by decide)) hg0 (fun _ => T.d_shortest.g) T.d_shortest.fn.kp T.d_shortest.b (va_cons (ve_name 1) (va_nil)))) (vss_one (vs_ret (ve_and (ve_ne hu0 (ve_name 2) (ve_str [])) (ve_one (ve_eq hu0 (ve_call0 (fun _ => ok_own T TB) (fun p => p.hr.mono (by decide)) hg0 (fun _ => T.d_own.g) T.d_own.fn.kp T.d_own.b (va_cons (ve_name 0) (va_cons (ve_name 2) (va_nil)))) (ve_int))))))
theorem ok_is_lone : FnG P w K mg base CX0 8 T.f_is_lone T.fd_is_lone ["yard", "word"] (sp0 K (clsT T P w) flds0 m_is_lone) := fn0 T.d_is_lone.fn sc_is_lone (w_is_lone T TB) len_is_lone p_is_lone
theorem w_longer : VSs (fam0 P w K mg base N_longer "longer" (defScope s_longer) T.f_longer 1 (clsT T P w) flds0) (defBody s_longer) t_longer :=
  vss_cons (vs_set (i := 2) (fun _ => sc_longer.nd) (ve_lst (va_nil))) (vss_cons (vs_for (fun _ => PassesOwn.never) (vi_any (ve_name 1)) (vg_name (i := 3) (fun _ => sc_longer.nd)) (vss_one (vs_expr (ve_extend (ve_name 2) (va_cons (ve_lc (fun _ => sc_longer.nd) (vi_any (ve_name 0)) (fun _ => blkOk_by (own := [("letter", 4)]) (by show blkC N_longer (defScope s_longer) _ _ = true; decide +kernel)) (vg_name (i := 4) (fun _ => sc_longer.nd)) (vts_one (vt_ne (hu_blk hu0) (ve_name 4) (ve_call0 (fun _ => ok_contrary T TB) (fun p => p.1.hr.mono (by decide)) (hg_blk hg0) (fun _ => T.d_contrary.g) T.d_contrary.fn.kp T.d_contrary.b (va_cons (ve_ix (ve_name 3) (ve_neg (ve_int))) (va_nil))))) (ve_add (ve_name 3) (ve_name 4))) (va_nil)))))) (vss_one (vs_ret (ve_name 2))))
theorem ok_longer : FnG P w K mg base CX0 2 T.f_longer T.fd_longer ["yard", "words"] (sp0 K (clsT T P w) flds0 m_longer) := fn0 T.d_longer.fn sc_longer (w_longer T TB) len_longer p_longer
theorem w_lone_loops : VSs (fam0 P w K mg base N_lone_loops "lone_loops" (defScope s_lone_loops) T.f_lone_loops 8 (clsT T P w) flds0) (defBody s_lone_loops) t_lone_loops :=
  vss_cons (vs_set (i := 2) (fun _ => sc_lone_loops.nd) (ve_lst (va_nil))) (vss_cons (vs_set (i := 3) (fun _ => sc_lone_loops.nd) (ve_list (fun _ => T.n_list) (vr_cons (ve_name 0) (vr_nil)))) (vss_cons (vs_for (fun _ => PassesOwn.never) (vi_range1 (fun _ => T.n_range) (vr_cons (ve_name 1) (vr_nil))) (vg_name (i := 4) (fun _ => sc_lone_loops.nd)) (vss_cons (vs_setLc (i := 5) (fun _ => sc_lone_loops.nd) (vi_any (ve_name 3)) (fun _ => blkOk_by (own := [("word", 6)]) (by show blkC N_lone_loops (defScope s_lone_loops) _ _ = true; decide +kernel)) (vg_name (i := 6) (fun _ => sc_lone_loops.nd)) (vts_one (VW.vt (vw_and (vt_eq (hu_blk hu0) (ve_call0 (fun _ => ok_shortest T TB) (fun p => p.1.hr.mono (by decide)) (hg_blk hg0) (fun _ => T.d_shortest.g) T.d_shortest.fn.kp T.d_shortest.b (va_cons (ve_name 6) (va_nil))) (ve_name 6)) (vw_and1 (vt_eq (hu_blk hu0) (ve_call0 (fun _ => ok_loop T TB) (fun p => p.1.hr.mono (by decide)) (hg_blk hg0) (fun _ => T.d_loop.g) T.d_loop.fn.kp T.d_loop.b (va_cons (ve_name 6) (va_nil))) (ve_name 6)))))) (ve_name 6)) (vss_cons (vs_expr (ve_extend (ve_name 2) (va_cons (ve_sortA (fun _ => T.n_sorted) (vr_cons (ve_lc (fun _ => sc_lone_loops.nd) (vi_any (ve_name 5)) (fun _ => blkOk_by (own := [("word", 6)]) (by show blkC N_lone_loops (defScope s_lone_loops) _ _ = true; decide +kernel)) (vg_name (i := 6) (fun _ => sc_lone_loops.nd)) (vts_one (vt_val (ve_call0 (fun _ => ok_is_lone T TB) (fun p => p.1.hr.mono (by decide)) (hg_blk hg0) (fun _ => T.d_is_lone.g) T.d_is_lone.fn.kp T.d_is_lone.b (va_cons (ve_name 0) (va_cons (ve_name 6) (va_nil)))))) (ve_name 6)) (vr_nil))) (va_nil)))) (vss_one (vs_if (vt_lt (ve_name 4) (ve_sub (ve_name 1) (ve_int))) (vss_one (vs_set (i := 3) (fun _ => sc_lone_loops.nd) (ve_call0 (fun _ => ok_longer T TB) (fun p => p.hr.mono (by decide)) hg0 (fun _ => T.d_longer.g) T.d_longer.fn.kp T.d_longer.b (va_cons (ve_name 0) (va_cons (ve_name 3) (va_nil)))))) (vss_nil)))))) (vss_one (vs_ret (ve_name 2)))))
theorem ok_lone_loops : FnG P w K mg base CX0 9 T.f_lone_loops T.fd_lone_loops ["yard", "length"] (sp0 K (clsT T P w) flds0 m_lone_loops) := fn0 T.d_lone_loops.fn sc_lone_loops (w_lone_loops T TB) len_lone_loops p_lone_loops
theorem w_law_box : VSs (fam0 P w K mg base N_law_box "_law_box" (defScope s_law_box) T.f_law_box 0 (clsT T P w) flds0) (defBody s_law_box) t_law_box :=
  vss_cons (vs_set (i := 2) (fun _ => sc_law_box.nd) (ve_add (ve_mul (ve_int) (ve_name 1)) (ve_int))) (vss_cons (vs_if (vt_lt (ve_name 1) (ve_len (fun _ => T.n_len) (vr_cons (ve_name 0) (vr_nil)))) (vss_one (vs_set (i := 2) (fun _ => sc_law_box.nd) (ve_ix (ve_name 0) (ve_name 1)))) (vss_one (vs_if (vt_gt (ve_len (fun _ => T.n_len) (vr_cons (ve_name 0) (vr_nil))) (ve_int)) (vss_one (vs_set (i := 2) (fun _ => sc_law_box.nd) (ve_add (ve_name 2) (ve_mul (ve_mod (ve_ix (ve_name 0) (ve_mod (ve_name 1) (ve_len (fun _ => T.n_len) (vr_cons (ve_name 0) (vr_nil))))) (ve_int)) (ve_int))))) (vss_nil)))) (vss_cons (vs_set (i := 3) (fun _ => sc_law_box.nd) (ve_mod (ve_pow (ve_add (ve_add (ve_mod (ve_name 2) (ve_int)) (ve_mul (ve_int) (ve_name 1))) (ve_int)) (ve_int)) (ve_int))) (vss_one (vs_ret (ve_lst (va_cons (ve_ix (ve_lst (va_cons (ve_int) (va_cons (ve_name 2) (va_nil)))) (ve_int1 (fun _ => T.n_int) (vr_cons (ve_ge (ve_name 2) (ve_pow (ve_int) (ve_int))) (vr_nil)))) (va_cons (ve_add (ve_mod (ve_name 3) (ve_int)) (ve_int)) (va_nil))))))))
theorem ok_law_box0 : FnG P w K mg base CX0 1 T.f_law_box T.fd_law_box ["_law_script", "_law_k"] (sp0 K (clsT T P w) flds0 mb_law_box) := fn0 T.d_law_box.fn sc_law_box (w_law_box T TB) len_law_box p_law_box
theorem ok_law_box : FnG P w K mg base CX0 1 T.f_law_box T.fd_law_box ["_law_script", "_law_k"] (sp0 K (clsT T P w) flds0 m_law_box) := Pu.FnG.imp0 (Pu.FnG.boxed (ok_law_box0 T TB)) box_law_box
theorem w_law_take : VSs (fam0 P w K mg base N_law_take "_law_take" (defScope s_law_take) T.f_law_take 0 (clsT T P w) flds0) (defBody s_law_take) t_law_take :=
  vss_cons (vs_if (vt_gt (ve_ix (ve_name 0) (ve_int)) (ve_int)) (vss_cons (vs_set (i := 3) (fun _ => sc_law_take.nd) (ve_mod (ve_ix (ve_name 0) (ve_int)) (ve_name 1))) (vss_cons (vs_setIx (ve_fdiv (ve_ix (ve_name 0) (ve_int)) (ve_name 1)) (ve_name 0) (ve_int)) (vss_one (vs_ret (ve_name 3))))) (vss_nil)) (vss_cons (vs_set (i := 2) (fun _ => sc_law_take.nd) (ve_mod (ve_mul (ve_ix (ve_name 0) (ve_int)) (ve_int)) (ve_int))) (vss_cons (vs_setIx (ve_add (ve_mod (ve_add (ve_mul (ve_name 2) (ve_int)) (ve_int)) (ve_int)) (ve_int)) (ve_name 0) (ve_int)) (vss_one (vs_ret (ve_mod (ve_fdiv (ve_add (ve_mul (ve_name 2) (ve_int)) (ve_ix (ve_name 0) (ve_int))) (ve_int)) (ve_name 1))))))
theorem ok_law_take : FnG P w K mg base CX0 1 T.f_law_take T.fd_law_take ["_law_box_here", "_law_many"] (sp0 K (clsT T P w) flds0 m_law_take) := fn0 T.d_law_take.fn sc_law_take (w_law_take T TB) len_law_take p_law_take
theorem w_law_other : VSs (fam0 P w K mg base N_law_other "_law_other" (defScope s_law_other) T.f_law_other 0 (clsT T P w) flds0) (defBody s_law_other) t_law_other :=
  vss_cons (vs_set (i := 1) (fun _ => sc_law_other.nd) (ve_str SM)) (vss_cons (vs_set (i := 2) (fun _ => sc_law_other.nd) (ve_str CP)) (vss_cons (vs_if (vt_in hu0 (ve_name 0) (ve_name 1)) (vss_one (vs_ret (ve_ix (ve_name 2) (ve_indexS (ve_name 1) (vr_cons (ve_name 0) (vr_nil)))))) (vss_nil)) (vss_one (vs_ret (ve_ix (ve_name 1) (ve_indexS (ve_name 2) (vr_cons (ve_name 0) (vr_nil))))))))
theorem ok_law_other : FnG P w K mg base CX0 1 T.f_law_other T.fd_law_other ["_law_letter"] (sp0 K (clsT T P w) flds0 m_law_other) := fn0 T.d_law_other.fn sc_law_other (w_law_other T TB) len_law_other p_law_other
theorem w_law_common : VSs (fam0 P w K mg base N_law_common "_law_common" (defScope s_law_common) T.f_law_common 0 (clsT T P w) flds0) (defBody s_law_common) t_law_common :=
  vss_cons (vs_while (fun _ => PassesOwn.never) (vt_gt (ve_name 1) (ve_int)) (vss_one (vs_par (i := 0) (j := 1) (fun _ => sc_law_common.nd) (va_cons (ve_name 1) (va_cons (ve_mod (ve_name 0) (ve_name 1)) (va_nil)))))) (vss_one (vs_ret (ve_name 0)))
theorem ok_law_common : FnG P w K mg base CX0 1 T.f_law_common T.fd_law_common ["_law_p", "_law_q"] (sp0 K (clsT T P w) flds0 m_law_common) := fn0 T.d_law_common.fn sc_law_common (w_law_common T TB) len_law_common p_law_common
theorem w_law_even : VSs (fam0 P w K mg base N_law_even "_law_even" (defScope s_law_even) T.f_law_even 0 (clsT T P w) flds0) (defBody s_law_even) t_law_even :=
  vss_cons (vs_set (i := 4) (fun _ => sc_law_even.nd) (ve_str [])) (vss_cons (vs_set (i := 5) (fun _ => sc_law_even.nd) (ve_int)) (vss_cons (vs_for (fun _ => PassesOwn.never) (vi_range1 (fun _ => T.n_range) (vr_cons (ve_add (ve_name 2) (ve_name 3)) (vr_nil))) (vg_name (i := 6) (fun _ => sc_law_even.nd)) (vss_cons (vs_set (i := 5) (fun _ => sc_law_even.nd) (ve_mod (ve_add (ve_name 5) (ve_name 3)) (ve_add (ve_name 2) (ve_name 3)))) (vss_one (vs_set (i := 4) (fun _ => sc_law_even.nd) (ve_add (ve_name 4) (ve_ix (ve_lst (va_cons (ve_name 0) (va_cons (ve_name 1) (va_nil)))) (ve_int1 (fun _ => T.n_int) (vr_cons (ve_lt (ve_name 5) (ve_name 3)) (vr_nil))))))))) (vss_one (vs_ret (ve_name 4)))))
theorem ok_law_even : FnG P w K mg base CX0 1 T.f_law_even T.fd_law_even ["_law_x", "_law_y", "_law_p", "_law_q"] (sp0 K (clsT T P w) flds0 m_law_even) := fn0 T.d_law_even.fn sc_law_even (w_law_even T TB) len_law_even p_law_even
theorem w_law_due : VSs (fam0L T.cc_law_due P w K mg base N_law_due "_law_due" (defScope s_law_due) T.f_law_due 5 (clsT T P w) flds0) (defBody s_law_due) t_law_due :=
  vss_cons (vs_set (i := 3) (fun _ => sc_law_due.nd) (ve_dict0)) (vss_cons (vs_for (fun _ => PassesOwn.never) (vi_range1 (fun _ => T.n_range) (vr_cons (ve_add (ve_name 2) (ve_int)) (vr_nil))) (vg_name (i := 4) (fun _ => sc_law_due.nd)) (vss_one (vs_for (fun _ => PassesOwn.never) (vi_range1 (fun _ => T.n_range) (vr_cons (ve_sub (ve_add (ve_name 2) (ve_int)) (ve_name 4)) (vr_nil))) (vg_name (i := 5) (fun _ => sc_law_due.nd)) (vss_one (vs_if (vt_eq huL (ve_call0 (fun _ => ok_law_common T TB) (fun p => p.hr.mono (by decide)) hgL (fun _ => T.d_law_common.g) T.d_law_common.fn.kp T.d_law_common.b (va_cons (ve_name 4) (va_cons (ve_name 5) (va_nil)))) (ve_int)) (vss_cons (vs_dput huL (ve_bl) (ve_name 3) (ve_call0 (fun _ => ok_loop T TB) (fun p => p.hr.mono (by decide)) hgL (fun _ => T.d_loop.g) T.d_loop.fn.kp T.d_loop.b (va_cons (ve_call0 (fun _ => ok_law_even T TB) (fun p => p.hr.mono (by decide)) hgL (fun _ => T.d_law_even.g) T.d_law_even.fn.kp T.d_law_even.b (va_cons (ve_name 0) (va_cons (ve_name 1) (va_cons (ve_name 4) (va_cons (ve_name 5) (va_nil)))))) (va_nil)))) (vss_one (vs_dput huL (ve_bl) (ve_name 3) (ve_call0 (fun _ => ok_loop T TB) (fun p => p.hr.mono (by decide)) hgL (fun _ => T.d_loop.g) T.d_loop.fn.kp T.d_loop.b (va_cons (ve_call0 (fun _ => ok_law_even T TB) (fun p => p.hr.mono (by decide)) hgL (fun _ => T.d_law_even.g) T.d_law_even.fn.kp T.d_law_even.b (va_cons (ve_name 0) (va_cons (ve_call0 (fun _ => ok_law_other T TB) (fun p => p.hr.mono (by decide)) hgL (fun _ => T.d_law_other.g) T.d_law_other.fn.kp T.d_law_other.b (va_cons (ve_name 1) (va_nil))) (va_cons (ve_name 4) (va_cons (ve_name 5) (va_nil)))))) (va_nil)))))) (vss_nil)))))) (vss_cons (vs_if (vt_gt (ve_name 2) (ve_int)) (vss_one (vs_dput huL (ve_bl) (ve_name 3) (ve_call0 (fun _ => ok_loop T TB) (fun p => p.hr.mono (by decide)) hgL (fun _ => T.d_loop.g) T.d_loop.fn.kp T.d_loop.b (va_cons (ve_add (ve_add (ve_add (ve_name 0) (ve_name 1)) (ve_call0 (fun _ => ok_law_other T TB) (fun p => p.hr.mono (by decide)) hgL (fun _ => T.d_law_other.g) T.d_law_other.fn.kp T.d_law_other.b (va_cons (ve_name 0) (va_nil)))) (ve_call0 (fun _ => ok_law_other T TB) (fun p => p.hr.mono (by decide)) hgL (fun _ => T.d_law_other.g) T.d_law_other.fn.kp T.d_law_other.b (va_cons (ve_name 1) (va_nil)))) (va_nil))))) (vss_nil)) (vss_one (vs_ret (ve_slwD (c := T.cc_law_due) (P := T.PP_law_due) (fun _ => T.n_sorted) (fun _ => T.n_len) (ve_name 3) (fun _ => TB.t_law_due) (fun _ => rfl) (fun _ => rfl) (tabm_law_due T) (tabn_law_due T) ⟨rfl, rfl, rfl, by decide, rfl, rfl, by decide, fun _ _ _ _ _ => rfl, fun _ => rfl, fun _ => rfl⟩ huL (fun p => p.hr.depth))))))
theorem ok_law_due : FnG P w K mg base CX0 6 T.f_law_due T.fd_law_due ["_law_x", "_law_y", "_law_length"] (sp0 K (clsT T P w) flds0 m_law_due) := fn0L T.d_law_due.fn T.cd_law_due sc_law_due (w_law_due T TB) len_law_due p_law_due
theorem w_law : VSs (fam0L T.cc_law P w K mg base N_law "law" (defScope s_law) T.f_law 9 (clsT T P w) flds0) (defBody s_law) t_law :=
  vss_cons (vs_for (fun _ => PassesOwn.never) (vi_range1 (fun _ => T.n_range) (vr_cons (ve_add (ve_int) (ve_len (fun _ => T.n_len) (vr_cons (ve_slice (ve_name 0) (vo_some (ve_int)) (vo_some (ve_int))) (vr_nil)))) (vr_nil))) (vg_name (i := 1) (fun _ => sc_law.nd)) (vss_cons (vs_set (i := 2) (fun _ => sc_law.nd) (ve_call0 (fun _ => ok_law_box T TB) (fun p => p.hr.mono (by decide)) hgL (fun _ => T.d_law_box.g) T.d_law_box.fn.kp T.d_law_box.b (va_cons (ve_name 0) (va_cons (ve_name 1) (va_nil))))) (vss_cons (vs_set (i := 3) (fun _ => sc_law.nd) (ve_call0 (fun _ => ok_law_take T TB) (fun p => p.hr.mono (by decide)) hgL (fun _ => T.d_law_take.g) T.d_law_take.fn.kp T.d_law_take.b (va_cons (ve_name 2) (va_cons (ve_int) (va_nil))))) (vss_cons (vs_if (vt_gt (ve_name 1) (ve_int)) (vss_one (vs_set (i := 3) (fun _ => sc_law.nd) (ve_min2 (fun _ => T.n_min) (vr_cons (ve_name 3) (vr_cons (ve_int) (vr_nil)))))) (vss_nil)) (vss_cons (vs_set (i := 4) (fun _ => sc_law.nd) (ve_list (fun _ => T.n_list) (vr_cons (ve_str SM) (vr_nil)))) (vss_cons (vs_set (i := 5) (fun _ => sc_law.nd) (ve_popAt (ve_name 4) (va_cons (ve_call0 (fun _ => ok_law_take T TB) (fun p => p.hr.mono (by decide)) hgL (fun _ => T.d_law_take.g) T.d_law_take.fn.kp T.d_law_take.b (va_cons (ve_name 2) (va_cons (ve_int) (va_nil)))) (va_nil)))) (vss_cons (vs_set (i := 6) (fun _ => sc_law.nd) (ve_popAt (ve_name 4) (va_cons (ve_call0 (fun _ => ok_law_take T TB) (fun p => p.hr.mono (by decide)) hgL (fun _ => T.d_law_take.g) T.d_law_take.fn.kp T.d_law_take.b (va_cons (ve_name 2) (va_cons (ve_int) (va_nil)))) (va_nil)))) (vss_cons (vs_par (i := 5) (j := 6) (fun _ => sc_law.nd) (va_cons (ve_ix (ve_lst (va_cons (ve_name 5) (va_cons (ve_call0 (fun _ => ok_law_other T TB) (fun p => p.hr.mono (by decide)) hgL (fun _ => T.d_law_other.g) T.d_law_other.fn.kp T.d_law_other.b (va_cons (ve_name 5) (va_nil))) (va_nil)))) (ve_call0 (fun _ => ok_law_take T TB) (fun p => p.hr.mono (by decide)) hgL (fun _ => T.d_law_take.g) T.d_law_take.fn.kp T.d_law_take.b (va_cons (ve_name 2) (va_cons (ve_int) (va_nil))))) (va_cons (ve_ix (ve_lst (va_cons (ve_name 6) (va_cons (ve_call0 (fun _ => ok_law_other T TB) (fun p => p.hr.mono (by decide)) hgL (fun _ => T.d_law_other.g) T.d_law_other.fn.kp T.d_law_other.b (va_cons (ve_name 6) (va_nil))) (va_nil)))) (ve_call0 (fun _ => ok_law_take T TB) (fun p => p.hr.mono (by decide)) hgL (fun _ => T.d_law_take.g) T.d_law_take.fn.kp T.d_law_take.b (va_cons (ve_name 2) (va_cons (ve_int) (va_nil))))) (va_nil)))) (vss_cons (vs_set (i := 7) (fun _ => sc_law.nd) (ve_call0 (fun _ => ok_law_take T TB) (fun p => p.hr.mono (by decide)) hgL (fun _ => T.d_law_take.g) T.d_law_take.fn.kp T.d_law_take.b (va_cons (ve_name 2) (va_cons (ve_int) (va_nil))))) (vss_cons (vs_set (i := 8) (fun _ => sc_law.nd) (ve_add (ve_add (ve_add (ve_name 5) (ve_name 6)) (ve_call0 (fun _ => ok_law_other T TB) (fun p => p.hr.mono (by decide)) hgL (fun _ => T.d_law_other.g) T.d_law_other.fn.kp T.d_law_other.b (va_cons (ve_name 5) (va_nil)))) (ve_call0 (fun _ => ok_law_other T TB) (fun p => p.hr.mono (by decide)) hgL (fun _ => T.d_law_other.g) T.d_law_other.fn.kp T.d_law_other.b (va_cons (ve_name 6) (va_nil))))) (vss_cons (vs_if (vt_ne huL (ve_call0 (fun _ => ok_lone_loops T TB) (fun p => p.hr.mono (by decide)) hgL (fun _ => T.d_lone_loops.g) T.d_lone_loops.fn.kp T.d_lone_loops.b (va_cons (ve_add (ve_slice (ve_name 8) (vo_some (ve_name 7)) (vo_none)) (ve_slice (ve_name 8) (vo_none) (vo_some (ve_name 7)))) (va_cons (ve_name 3) (va_nil)))) (ve_call0 (fun _ => ok_law_due T TB) (fun p => p.hr.mono (by decide)) hgL (fun _ => T.d_law_due.g) T.d_law_due.fn.kp T.d_law_due.b (va_cons (ve_name 5) (va_cons (ve_name 6) (va_cons (ve_name 3) (va_nil)))))) (vss_one (vs_ret (ve_bl))) (vss_nil)) (vss_cons (vs_set (i := 8) (fun _ => sc_law.nd) (ve_add (ve_add (ve_add (ve_name 5) (ve_call0 (fun _ => ok_law_other T TB) (fun p => p.hr.mono (by decide)) hgL (fun _ => T.d_law_other.g) T.d_law_other.fn.kp T.d_law_other.b (va_cons (ve_name 5) (va_nil)))) (ve_name 6)) (ve_call0 (fun _ => ok_law_other T TB) (fun p => p.hr.mono (by decide)) hgL (fun _ => T.d_law_other.g) T.d_law_other.fn.kp T.d_law_other.b (va_cons (ve_name 6) (va_nil))))) (vss_cons (vs_set (i := 3) (fun _ => sc_law.nd) (ve_min2 (fun _ => T.n_min) (vr_cons (ve_name 3) (vr_cons (ve_int) (vr_nil))))) (vss_cons (vs_setLc (i := 9) (fun _ => sc_law.nd) (vi_any (ve_tup (va_cons (ve_name 5) (va_cons (ve_name 6) (va_cons (ve_add (ve_name 5) (ve_name 6)) (va_nil)))))) (fun _ => blkOk_by (own := [("_law_word", 10)]) (by show blkC N_law (defScope s_law) _ _ = true; decide +kernel)) (vg_name (i := 10) (fun _ => sc_law.nd)) (vts_one (vt_le (ve_len (fun _ => T.n_len) (vr_cons (ve_name 10) (vr_nil))) (ve_name 3))) (ve_call0 (fun _ => ok_loop T TB) (fun p => p.1.hr.mono (by decide)) (hg_blk hgL) (fun _ => T.d_loop.g) T.d_loop.fn.kp T.d_loop.b (va_cons (ve_name 10) (va_nil)))) (vss_cons (vs_if (vt_ne huL (ve_call0 (fun _ => ok_lone_loops T TB) (fun p => p.hr.mono (by decide)) hgL (fun _ => T.d_lone_loops.g) T.d_lone_loops.fn.kp T.d_lone_loops.b (va_cons (ve_add (ve_slice (ve_name 8) (vo_some (ve_name 7)) (vo_none)) (ve_slice (ve_name 8) (vo_none) (vo_some (ve_name 7)))) (va_cons (ve_name 3) (va_nil)))) (ve_slw (c := T.cc_law) (P := T.PP_law) (fun _ => T.n_sorted) (fun _ => T.n_len) (ve_name 9) (fun _ => TB.t_law) (fun _ => rfl) (fun _ => rfl) (tabm_law T) (tabn_law T) ⟨rfl, rfl, rfl, by decide, rfl, rfl, by decide, fun _ _ _ _ _ => rfl, fun _ => rfl, fun _ => rfl⟩ huL (fun p => p.hr.depth))) (vss_one (vs_ret (ve_bl))) (vss_nil)) (vss_one (vs_if (vt_ne huL (ve_call0 (fun _ => ok_lone_loops T TB) (fun p => p.hr.mono (by decide)) hgL (fun _ => T.d_lone_loops.g) T.d_lone_loops.fn.kp T.d_lone_loops.b (va_cons (ve_add (ve_name 5) (ve_call0 (fun _ => ok_law_other T TB) (fun p => p.hr.mono (by decide)) hgL (fun _ => T.d_law_other.g) T.d_law_other.fn.kp T.d_law_other.b (va_cons (ve_name 5) (va_nil)))) (va_cons (ve_name 3) (va_nil)))) (ve_slice (ve_lst (va_cons (ve_call0 (fun _ => ok_loop T TB) (fun p => p.hr.mono (by decide)) hgL (fun _ => T.d_loop.g) T.d_loop.fn.kp T.d_loop.b (va_cons (ve_name 5) (va_nil))) (va_nil))) (vo_none) (vo_some (ve_name 3)))) (vss_one (vs_ret (ve_bl))) (vss_nil)))))))))))))))))) (vss_one (vs_ret (ve_bl)))
theorem ok_law : FnG P w K mg base CX0 10 T.f_law T.fd_law ["_law_script"] (sp0 K (clsT T P w) flds0 m_law) := fn0L T.d_law.fn T.cd_law sc_law (w_law T TB) len_law p_law
end
theorem all_mk {ts : List Addr} {l : PySem.W.OpenLaw} {w : World} {K : PySem.W.Frag} {h : Heap} {mg : Str → Option Value} {fa f1 f2 f3 f4 f5 f6 f7 f8 f9 f10 f11 f12 f13 f14 f15 f16 f17 f18 f19 f20 f21 f22 f23 f24 f25 f26 : Addr} (X : K.In h) (G : h.Ns mainGlobals mg) (hfa : mg "law" = some (.ref fa))
    {od1 an1 od2 an2 od3 an3 od4 an4 od5 an5 od6 an6 od7 an7 od8 an8 od9 an9 od10 an10 od11 an11 od12 an12 od13 an13 od14 an14 od15 an15 od16 an16 od17 an17 od18 an18 od19 an19 od20 an20 od21 an21 od22 an22 od23 an23 od24 an24 od25 an25 od26 an26 : Option Addr} {sl1 sl2 sl3 sl4 sl5 sl6 sl7 sl8 sl9 sl10 sl11 sl12 sl13 sl14 sl15 sl16 sl17 sl18 sl19 sl20 sl21 sl22 sl23 sl24 sl25 sl26 : Array (Option Value)} {oc1 kV1 dc1 pm1 cd1 ct1 oc2 kV2 dc2 pm2 cd2 ct2 oc3 kV3 dc3 pm3 cd3 ct3 oc4 kV4 dc4 pm4 cd4 ct4 oc5 kV5 dc5 pm5 cd5 ct5 oc6 kV6 dc6 pm6 cd6 ct6 oc7 kV7 dc7 pm7 cd7 ct7 oc8 kV8 dc8 pm8 cd8 ct8 oc9 kV9 dc9 pm9 cd9 ct9 oc10 kV10 dc10 pm10 cd10 ct10 oc11 kV11 dc11 pm11 cd11 ct11 oc12 kV12 dc12 pm12 cd12 ct12 oc13 kV13 dc13 pm13 cd13 ct13 oc14 kV14 dc14 pm14 cd14 ct14 oc15 kV15 dc15 pm15 cd15 ct15 oc16 kV16 dc16 pm16 cd16 ct16 oc17 kV17 dc17 pm17 cd17 ct17 oc18 kV18 dc18 pm18 cd18 ct18 oc19 kV19 dc19 pm19 cd19 ct19 oc20 kV20 dc20 pm20 cd20 ct20 oc21 kV21 dc21 pm21 cd21 ct21 oc22 kV22 dc22 pm22 cd22 ct22 oc23 kV23 dc23 pm23 cd23 ct23 oc24 kV24 dc24 pm24 cd24 ct24 oc25 kV25 dc25 pm25   ct25 oc26 kV26 dc26 pm26   ct26 : Value} {gt1 gt2 : Tok} 
        (a1 : PySem.W.nsIn K mainGlobals "contrary" = some (some (.ref f1))) (l1 : K.lookup f1 = some ⟨oc1, od1, .func (PySem.W.fnOf "contrary" "contrary" (defArgs s_contrary) (defBody s_contrary) (defScope s_contrary) .none kV1 dc1 pm1 an1 cd1 ct1), sl1⟩) (c1 : PySem.W.codeIn K cd1 "contrary" = true) (k1 : PySem.W.keepIn K (.ref f1) = true)
    (a2 : PySem.W.nsIn K mainGlobals "turned" = some (some (.ref f2))) (l2 : K.lookup f2 = some ⟨oc2, od2, .func (PySem.W.fnOf "turned" "turned" (defArgs s_turned) (defBody s_turned) (defScope s_turned) .none kV2 dc2 pm2 an2 cd2 ct2), sl2⟩) (c2 : PySem.W.codeIn K cd2 "turned" = true) (k2 : PySem.W.keepIn K (.ref f2) = true)
    (a3 : PySem.W.nsIn K mainGlobals "goes_round" = some (some (.ref f3))) (l3 : K.lookup f3 = some ⟨oc3, od3, .func (PySem.W.fnOf "goes_round" "goes_round" (defArgs s_goes_round) (defBody s_goes_round) (defScope s_goes_round) .none kV3 dc3 pm3 an3 cd3 ct3), sl3⟩) (c3 : PySem.W.codeIn K cd3 "goes_round" = true) (k3 : PySem.W.keepIn K (.ref f3) = true)
    (a4 : PySem.W.nsIn K mainGlobals "letter_at" = some (some (.ref f4))) (l4 : K.lookup f4 = some ⟨oc4, od4, .func (PySem.W.fnOf "letter_at" "letter_at" (defArgs s_letter_at) (defBody s_letter_at) (defScope s_letter_at) .none kV4 dc4 pm4 an4 cd4 ct4), sl4⟩) (c4 : PySem.W.codeIn K cd4 "letter_at" = true) (k4 : PySem.W.keepIn K (.ref f4) = true)
    (a5 : PySem.W.nsIn K mainGlobals "meets_across" = some (some (.ref f5))) (l5 : K.lookup f5 = some ⟨oc5, od5, .func (PySem.W.fnOf "meets_across" "meets_across" (defArgs s_meets_across) (defBody s_meets_across) (defScope s_meets_across) .none kV5 dc5 pm5 an5 cd5 ct5), sl5⟩) (c5 : PySem.W.codeIn K cd5 "meets_across" = true) (k5 : PySem.W.keepIn K (.ref f5) = true)
    (a6 : PySem.W.nsIn K mainGlobals "meets_along" = some (some (.ref f6))) (l6 : K.lookup f6 = some ⟨oc6, od6, .func (PySem.W.fnOf "meets_along" "meets_along" (defArgs s_meets_along) (defBody s_meets_along) (defScope s_meets_along) .none kV6 dc6 pm6 an6 cd6 ct6), sl6⟩) (c6 : PySem.W.codeIn K cd6 "meets_along" = true) (k6 : PySem.W.keepIn K (.ref f6) = true)
    (a7 : PySem.W.nsIn K mainGlobals "meets_against" = some (some (.ref f7))) (l7 : K.lookup f7 = some ⟨oc7, od7, .func (PySem.W.fnOf "meets_against" "meets_against" (defArgs s_meets_against) (defBody s_meets_against) (defScope s_meets_against) .none kV7 dc7 pm7 an7 cd7 ct7), sl7⟩) (c7 : PySem.W.codeIn K cd7 "meets_against" = true) (k7 : PySem.W.keepIn K (.ref f7) = true)
    (a8 : PySem.W.nsIn K mainGlobals "things_at" = some (some (.ref f8))) (l8 : K.lookup f8 = some ⟨oc8, od8, .func (PySem.W.fnOf "things_at" "things_at" (defArgs s_things_at) (defBody s_things_at) (defScope s_things_at) .none kV8 dc8 pm8 an8 cd8 ct8), sl8⟩) (c8 : PySem.W.codeIn K cd8 "things_at" = true) (k8 : PySem.W.keepIn K (.ref f8) = true)
    (a9 : PySem.W.nsIn K mainGlobals "forced" = some (some (.ref f9))) (l9 : K.lookup f9 = some ⟨oc9, od9, .func (PySem.W.fnOf "forced" "forced" (defArgs s_forced) (defBody s_forced) (defScope s_forced) .none kV9 dc9 pm9 an9 cd9 ct9), sl9⟩) (c9 : PySem.W.codeIn K cd9 "forced" = true) (k9 : PySem.W.keepIn K (.ref f9) = true)
    (a10 : PySem.W.nsIn K mainGlobals "shortened" = some (some (.ref f10))) (l10 : K.lookup f10 = some ⟨oc10, od10, .func (PySem.W.fnOf "shortened" "shortened" (defArgs s_shortened) (defBody s_shortened) (defScope s_shortened) .none kV10 dc10 pm10 an10 cd10 ct10), sl10⟩) (c10 : PySem.W.codeIn K cd10 "shortened" = true) (k10 : PySem.W.keepIn K (.ref f10) = true)
    (a11 : PySem.W.nsIn K mainGlobals "shortest" = some (some (.ref f11))) (l11 : K.lookup f11 = some ⟨oc11, od11, .func (PySem.W.fnOf "shortest" "shortest" (defArgs s_shortest) (defBody s_shortest) (defScope s_shortest) .none kV11 dc11 pm11 an11 cd11 ct11), sl11⟩) (c11 : PySem.W.codeIn K cd11 "shortest" = true) (k11 : PySem.W.keepIn K (.ref f11) = true)
    (a12 : PySem.W.nsIn K mainGlobals "ring" = some (some (.ref f12))) (l12 : K.lookup f12 = some ⟨oc12, od12, .func (PySem.W.fnOf "ring" "ring" (defArgs s_ring) (defBody s_ring) (defScope s_ring) .none kV12 dc12 pm12 an12 cd12 ct12), sl12⟩) (c12 : PySem.W.codeIn K cd12 "ring" = true) (k12 : PySem.W.keepIn K (.ref f12) = true)
    (a13 : PySem.W.nsIn K mainGlobals "loop" = some (some (.ref f13))) (l13 : K.lookup f13 = some ⟨oc13, od13, .func (PySem.W.fnOf "loop" "loop" (defArgs s_loop) (defBody s_loop) (defScope s_loop) .none kV13 dc13 pm13 an13 cd13 ct13), sl13⟩) (c13 : PySem.W.codeIn K cd13 "loop" = true) (k13 : PySem.W.keepIn K (.ref f13) = true)
    (a14 : PySem.W.nsIn K mainGlobals "root" = some (some (.ref f14))) (l14 : K.lookup f14 = some ⟨oc14, od14, .func (PySem.W.fnOf "root" "root" (defArgs s_root) (defBody s_root) (defScope s_root) .none kV14 dc14 pm14 an14 cd14 ct14), sl14⟩) (c14 : PySem.W.codeIn K cd14 "root" = true) (k14 : PySem.W.keepIn K (.ref f14) = true)
    (a15 : PySem.W.nsIn K mainGlobals "least" = some (some (.ref f15))) (l15 : K.lookup f15 = some ⟨oc15, od15, .func (PySem.W.fnOf "least" "least" (defArgs s_least) (defBody s_least) (defScope s_least) .none kV15 dc15 pm15 an15 cd15 ct15), sl15⟩) (c15 : PySem.W.codeIn K cd15 "least" = true) (k15 : PySem.W.keepIn K (.ref f15) = true)
    (a16 : PySem.W.nsIn K mainGlobals "own" = some (some (.ref f16))) (l16 : K.lookup f16 = some ⟨oc16, od16, .func (PySem.W.fnOf "own" "own" (defArgs s_own) (defBody s_own) (defScope s_own) .none kV16 dc16 pm16 an16 cd16 ct16), sl16⟩) (c16 : PySem.W.codeIn K cd16 "own" = true) (k16 : PySem.W.keepIn K (.ref f16) = true)
    (a17 : PySem.W.nsIn K mainGlobals "is_lone" = some (some (.ref f17))) (l17 : K.lookup f17 = some ⟨oc17, od17, .func (PySem.W.fnOf "is_lone" "is_lone" (defArgs s_is_lone) (defBody s_is_lone) (defScope s_is_lone) .none kV17 dc17 pm17 an17 cd17 ct17), sl17⟩) (c17 : PySem.W.codeIn K cd17 "is_lone" = true) (k17 : PySem.W.keepIn K (.ref f17) = true)
    (a18 : PySem.W.nsIn K mainGlobals "longer" = some (some (.ref f18))) (l18 : K.lookup f18 = some ⟨oc18, od18, .func (PySem.W.fnOf "longer" "longer" (defArgs s_longer) (defBody s_longer) (defScope s_longer) .none kV18 dc18 pm18 an18 cd18 ct18), sl18⟩) (c18 : PySem.W.codeIn K cd18 "longer" = true) (k18 : PySem.W.keepIn K (.ref f18) = true)
    (a19 : PySem.W.nsIn K mainGlobals "lone_loops" = some (some (.ref f19))) (l19 : K.lookup f19 = some ⟨oc19, od19, .func (PySem.W.fnOf "lone_loops" "lone_loops" (defArgs s_lone_loops) (defBody s_lone_loops) (defScope s_lone_loops) .none kV19 dc19 pm19 an19 cd19 ct19), sl19⟩) (c19 : PySem.W.codeIn K cd19 "lone_loops" = true) (k19 : PySem.W.keepIn K (.ref f19) = true)
    (a20 : PySem.W.nsIn K mainGlobals "_law_box" = some (some (.ref f20))) (l20 : K.lookup f20 = some ⟨oc20, od20, .func (PySem.W.fnOf "_law_box" "_law_box" (defArgs s_law_box) (defBody s_law_box) (defScope s_law_box) .none kV20 dc20 pm20 an20 cd20 ct20), sl20⟩) (c20 : PySem.W.codeIn K cd20 "_law_box" = true) (k20 : PySem.W.keepIn K (.ref f20) = true)
    (a21 : PySem.W.nsIn K mainGlobals "_law_take" = some (some (.ref f21))) (l21 : K.lookup f21 = some ⟨oc21, od21, .func (PySem.W.fnOf "_law_take" "_law_take" (defArgs s_law_take) (defBody s_law_take) (defScope s_law_take) .none kV21 dc21 pm21 an21 cd21 ct21), sl21⟩) (c21 : PySem.W.codeIn K cd21 "_law_take" = true) (k21 : PySem.W.keepIn K (.ref f21) = true)
    (a22 : PySem.W.nsIn K mainGlobals "_law_other" = some (some (.ref f22))) (l22 : K.lookup f22 = some ⟨oc22, od22, .func (PySem.W.fnOf "_law_other" "_law_other" (defArgs s_law_other) (defBody s_law_other) (defScope s_law_other) .none kV22 dc22 pm22 an22 cd22 ct22), sl22⟩) (c22 : PySem.W.codeIn K cd22 "_law_other" = true) (k22 : PySem.W.keepIn K (.ref f22) = true)
    (a23 : PySem.W.nsIn K mainGlobals "_law_common" = some (some (.ref f23))) (l23 : K.lookup f23 = some ⟨oc23, od23, .func (PySem.W.fnOf "_law_common" "_law_common" (defArgs s_law_common) (defBody s_law_common) (defScope s_law_common) .none kV23 dc23 pm23 an23 cd23 ct23), sl23⟩) (c23 : PySem.W.codeIn K cd23 "_law_common" = true) (k23 : PySem.W.keepIn K (.ref f23) = true)
    (a24 : PySem.W.nsIn K mainGlobals "_law_even" = some (some (.ref f24))) (l24 : K.lookup f24 = some ⟨oc24, od24, .func (PySem.W.fnOf "_law_even" "_law_even" (defArgs s_law_even) (defBody s_law_even) (defScope s_law_even) .none kV24 dc24 pm24 an24 cd24 ct24), sl24⟩) (c24 : PySem.W.codeIn K cd24 "_law_even" = true) (k24 : PySem.W.keepIn K (.ref f24) = true)
    {cc25 PT25 : Addr} {vc25 : Array Value} {dc_25 : Option Addr} {lc_25 : Array (Option Value)} (a25 : PySem.W.nsIn K mainGlobals "_law_due" = some (some (.ref f25))) (l25 : K.lookup f25 = some ⟨oc25, od25, .func (PySem.W.fnOf "_law_due" "_law_due" (defArgs s_law_due) (defBody s_law_due) (defScope s_law_due) .none kV25 dc25 pm25 an25 (.ref cc25) ct25), sl25⟩) (c25 : PySem.W.codeIn K (.ref cc25) "_law_due" = true) (k25 : PySem.W.keepIn K (.ref f25) = true) (zl25 : K.lookup cc25 = some ⟨.type "code", dc_25, .fields vc25, lc_25⟩) (zv25 : vc25[11]? = some (.ref PT25)) (zh25 : PySem.W.codeHdIn K cc25 PT25 = true) (zk25 : K.lookup PT25 = none) (zt25 : PT25 ∈ ts)
    {cc26 PT26 : Addr} {vc26 : Array Value} {dc_26 : Option Addr} {lc_26 : Array (Option Value)} (a26 : PySem.W.nsIn K mainGlobals "law" = some (some (.ref f26))) (l26 : K.lookup f26 = some ⟨oc26, od26, .func (PySem.W.fnOf "law" "law" (defArgs s_law) (defBody s_law) (defScope s_law) .none kV26 dc26 pm26 an26 (.ref cc26) ct26), sl26⟩) (c26 : PySem.W.codeIn K (.ref cc26) "law" = true) (k26 : PySem.W.keepIn K (.ref f26) = true) (zl26 : K.lookup cc26 = some ⟨.type "code", dc_26, .fields vc26, lc_26⟩) (zv26 : vc26[11]? = some (.ref PT26)) (zh26 : PySem.W.codeHdIn K cc26 PT26 = true) (zk26 : K.lookup PT26 = none) (zt26 : PT26 ∈ ts)
    (b1 : PySem.W.nsIn K mainGlobals "int" = some none) (b2 : PySem.W.nsIn K mainGlobals "len" = some none) (b3 : PySem.W.nsIn K mainGlobals "list" = some none) (b4 : PySem.W.nsIn K mainGlobals "min" = some none) (b5 : PySem.W.nsIn K mainGlobals "range" = some none) (b6 : PySem.W.nsIn K mainGlobals "reversed" = some none) (b7 : PySem.W.nsIn K mainGlobals "sorted" = some none) (b8 : PySem.W.nsIn K mainGlobals "sum" = some none) (g1 : PySem.W.nsIn K mainGlobals "SMALL" = some (some (.str "abcdefghijklmnopqrstuvwxyz" gt1))) (g2 : PySem.W.nsIn K mainGlobals "CAPITALS" = some (some (.str "ABCDEFGHIJKLMNOPQRSTUVWXYZ" gt2))) (zn25_26 : PT25 ≠ PT26) :
    ∃ (fd : FuncData) (cs : List (Addr × Addr)), (∀ p ∈ cs, p.2 ∈ ts) ∧ (∀ p ∈ cs, K.lookup p.2 = none) ∧ (∀ p ∈ cs, PySem.W.CodeHd h p.1 p.2) ∧ (∀ (s : Shared) (v : Value), BindsTo s fd ⟨[v], []⟩ [("_law_script", v)]) ∧ ∀ base : Heap, K.In base → base.Ns mainGlobals mg → (∀ p ∈ cs, LamX.TabB base mg p.1 p.2) → FnG l.prog w K mg base CX0 10 fa fd ["_law_script"] (spLawT cs K) := by
  have e := hfa.symm.trans (PySem.W.mg_of X G a26)
  cases e
  have F1 := fun_mk (st := s_contrary) l1 c1 k1
  have B1 := F1.binds (ps := ["letter"]) fun _ _ _ _ _ _ us hl => match us, hl with | [_], _ => rfl
  have F2 := fun_mk (st := s_turned) l2 c2 k2
  have B2 := F2.binds (ps := ["word"]) fun _ _ _ _ _ _ us hl => match us, hl with | [_], _ => rfl
  have F3 := fun_mk (st := s_goes_round) l3 c3 k3
  have B3 := F3.binds (ps := ["yard", "x", "y", "z"]) fun _ _ _ _ _ _ us hl => match us, hl with | [_, _, _, _], _ => rfl
  have F4 := fun_mk (st := s_letter_at) l4 c4 k4
  have B4 := F4.binds (ps := ["word", "k"]) fun _ _ _ _ _ _ us hl => match us, hl with | [_, _], _ => rfl
  have F5 := fun_mk (st := s_meets_across) l5 c5 k5
  have B5 := F5.binds (ps := ["yard", "one", "i", "other", "j"]) fun _ _ _ _ _ _ us hl => match us, hl with | [_, _, _, _, _], _ => rfl
  have F6 := fun_mk (st := s_meets_along) l6 c6 k6
  have B6 := F6.binds (ps := ["yard", "one", "i", "other", "j"]) fun _ _ _ _ _ _ us hl => match us, hl with | [_, _, _, _, _], _ => rfl
  have F7 := fun_mk (st := s_meets_against) l7 c7 k7
  have B7 := F7.binds (ps := ["yard", "one", "i", "other", "j"]) fun _ _ _ _ _ _ us hl => match us, hl with | [_, _, _, _, _], _ => rfl
  have F8 := fun_mk (st := s_things_at) l8 c8 k8
  have B8 := F8.binds (ps := ["yard", "words", "c", "i", "d", "j"]) fun _ _ _ _ _ _ us hl => match us, hl with | [_, _, _, _, _, _], _ => rfl
  have F9 := fun_mk (st := s_forced) l9 c9 k9
  have B9 := F9.binds (ps := ["yard", "words"]) fun _ _ _ _ _ _ us hl => match us, hl with | [_, _], _ => rfl
  have F10 := fun_mk (st := s_shortened) l10 c10 k10
  have B10 := F10.binds (ps := ["word"]) fun _ _ _ _ _ _ us hl => match us, hl with | [_], _ => rfl
  have F11 := fun_mk (st := s_shortest) l11 c11 k11
  have B11 := F11.binds (ps := ["word"]) fun _ _ _ _ _ _ us hl => match us, hl with | [_], _ => rfl
  have F12 := fun_mk (st := s_ring) l12 c12 k12
  have B12 := F12.binds (ps := ["word"]) fun _ _ _ _ _ _ us hl => match us, hl with | [_], _ => rfl
  have F13 := fun_mk (st := s_loop) l13 c13 k13
  have B13 := F13.binds (ps := ["word"]) fun _ _ _ _ _ _ us hl => match us, hl with | [_], _ => rfl
  have F14 := fun_mk (st := s_root) l14 c14 k14
  have B14 := F14.binds (ps := ["word"]) fun _ _ _ _ _ _ us hl => match us, hl with | [_], _ => rfl
  have F15 := fun_mk (st := s_least) l15 c15 k15
  have B15 := F15.binds (ps := ["yard", "words"]) fun _ _ _ _ _ _ us hl => match us, hl with | [_, _], _ => rfl
  have F16 := fun_mk (st := s_own) l16 c16 k16
  have B16 := F16.binds (ps := ["yard", "word"]) fun _ _ _ _ _ _ us hl => match us, hl with | [_, _], _ => rfl
  have F17 := fun_mk (st := s_is_lone) l17 c17 k17
  have B17 := F17.binds (ps := ["yard", "word"]) fun _ _ _ _ _ _ us hl => match us, hl with | [_, _], _ => rfl
  have F18 := fun_mk (st := s_longer) l18 c18 k18
  have B18 := F18.binds (ps := ["yard", "words"]) fun _ _ _ _ _ _ us hl => match us, hl with | [_, _], _ => rfl
  have F19 := fun_mk (st := s_lone_loops) l19 c19 k19
  have B19 := F19.binds (ps := ["yard", "length"]) fun _ _ _ _ _ _ us hl => match us, hl with | [_, _], _ => rfl
  have F20 := fun_mk (st := s_law_box) l20 c20 k20
  have B20 := F20.binds (ps := ["_law_script", "_law_k"]) fun _ _ _ _ _ _ us hl => match us, hl with | [_, _], _ => rfl
  have F21 := fun_mk (st := s_law_take) l21 c21 k21
  have B21 := F21.binds (ps := ["_law_box_here", "_law_many"]) fun _ _ _ _ _ _ us hl => match us, hl with | [_, _], _ => rfl
  have F22 := fun_mk (st := s_law_other) l22 c22 k22
  have B22 := F22.binds (ps := ["_law_letter"]) fun _ _ _ _ _ _ us hl => match us, hl with | [_], _ => rfl
  have F23 := fun_mk (st := s_law_common) l23 c23 k23
  have B23 := F23.binds (ps := ["_law_p", "_law_q"]) fun _ _ _ _ _ _ us hl => match us, hl with | [_, _], _ => rfl
  have F24 := fun_mk (st := s_law_even) l24 c24 k24
  have B24 := F24.binds (ps := ["_law_x", "_law_y", "_law_p", "_law_q"]) fun _ _ _ _ _ _ us hl => match us, hl with | [_, _, _, _], _ => rfl
  have F25 := fun_mk (st := s_law_due) l25 c25 k25
  have B25 := F25.binds (ps := ["_law_x", "_law_y", "_law_length"]) fun _ _ _ _ _ _ us hl => match us, hl with | [_, _, _], _ => rfl
  have F26 := fun_mk (st := s_law) l26 c26 k26
  have B26 := F26.binds (ps := ["_law_script"]) fun _ _ _ _ _ _ us hl => match us, hl with | [_], _ => rfl
  let T : Tx K mg := ⟨_, _, ⟨F1, B1, PySem.W.mg_of X G a1⟩, _, _, ⟨F2, B2, PySem.W.mg_of X G a2⟩, _, _, ⟨F3, B3, PySem.W.mg_of X G a3⟩, _, _, ⟨F4, B4, PySem.W.mg_of X G a4⟩, _, _, ⟨F5, B5, PySem.W.mg_of X G a5⟩, _, _, ⟨F6, B6, PySem.W.mg_of X G a6⟩, _, _, ⟨F7, B7, PySem.W.mg_of X G a7⟩, _, _, ⟨F8, B8, PySem.W.mg_of X G a8⟩, _, _, ⟨F9, B9, PySem.W.mg_of X G a9⟩, _, _, ⟨F10, B10, PySem.W.mg_of X G a10⟩, _, _, ⟨F11, B11, PySem.W.mg_of X G a11⟩, _, _, ⟨F12, B12, PySem.W.mg_of X G a12⟩, _, _, ⟨F13, B13, PySem.W.mg_of X G a13⟩, _, _, ⟨F14, B14, PySem.W.mg_of X G a14⟩, _, _, ⟨F15, B15, PySem.W.mg_of X G a15⟩, _, _, ⟨F16, B16, PySem.W.mg_of X G a16⟩, _, _, ⟨F17, B17, PySem.W.mg_of X G a17⟩, _, _, ⟨F18, B18, PySem.W.mg_of X G a18⟩, _, _, ⟨F19, B19, PySem.W.mg_of X G a19⟩, _, _, ⟨F20, B20, PySem.W.mg_of X G a20⟩, _, _, ⟨F21, B21, PySem.W.mg_of X G a21⟩, _, _, ⟨F22, B22, PySem.W.mg_of X G a22⟩, _, _, ⟨F23, B23, PySem.W.mg_of X G a23⟩, _, _, ⟨F24, B24, PySem.W.mg_of X G a24⟩, _, _, ⟨F25, B25, PySem.W.mg_of X G a25⟩, cc25, PT25, rfl, _, _, ⟨F26, B26, PySem.W.mg_of X G a26⟩, cc26, PT26, rfl, zn25_26, PySem.W.mg_none_of X G b1, PySem.W.mg_none_of X G b2, PySem.W.mg_none_of X G b3, PySem.W.mg_none_of X G b4, PySem.W.mg_none_of X G b5, PySem.W.mg_none_of X G b6, PySem.W.mg_none_of X G b7, PySem.W.mg_none_of X G b8, _, PySem.W.mg_of X G g1, _, PySem.W.mg_of X G g2⟩
  exact ⟨_, [(cc25, PT25), (cc26, PT26)], (List.forall_mem_cons.mpr ⟨zt25, (List.forall_mem_cons.mpr ⟨zt26, (fun _ h => absurd h List.not_mem_nil)⟩)⟩), (List.forall_mem_cons.mpr ⟨zk25, (List.forall_mem_cons.mpr ⟨zk26, (fun _ h => absurd h List.not_mem_nil)⟩)⟩), (List.forall_mem_cons.mpr ⟨PySem.W.codeHd_of_K X zh25, (List.forall_mem_cons.mpr ⟨PySem.W.codeHd_of_K X zh26, (fun _ h => absurd h List.not_mem_nil)⟩)⟩), fun s v => .of_eq rfl, fun base _ _ tb => have TBh : TBs T base := ⟨tb _ (.head _), tb _ (.tail _ (.head _))⟩; Pu.FnG.lawT (cls := clsT T l.prog w) (flds := flds0) law_m (ok_law T TBh) (List.forall_mem_cons.mpr ⟨⟨(cc25, PT25), .head _, rfl⟩, (List.forall_mem_cons.mpr ⟨⟨(cc26, PT26), .tail _ (.head _), rfl⟩, (fun _ h => absurd h List.not_mem_nil)⟩)⟩)⟩
end Lw
set_option maxRecDepth 100000 in
set_option maxHeartbeats 0 in
theorem PySem.Challenge.cw_mustmeet_k80_whole_lone_loops_of_crossed_holds : PySem.Challenge.rw_mustmeet_k80_whole_lone_loops_of_crossed.Holds := by
  w_on; o_law; k_head; (case hw => w_witness2)
  k_fill
  refine Pu.walkT (k := 10) ⟨rfl, by decide, by decide⟩ (l := PySem.Challenge.rw_mustmeet_k80_whole_lone_loops_of_crossed) rfl rfl (fun w h Y => PySem.W.km_in_of Y) (fun w h Y => PySem.W.km_tabs_of Y) ?F
  case F =>
    intro w mg fa h KX G hmg
    refine' Lw.all_mk KX G hmg ?a1 ?l1 ?c1 ?k1 ?a2 ?l2 ?c2 ?k2 ?a3 ?l3 ?c3 ?k3 ?a4 ?l4 ?c4 ?k4 ?a5 ?l5 ?c5 ?k5 ?a6 ?l6 ?c6 ?k6 ?a7 ?l7 ?c7 ?k7 ?a8 ?l8 ?c8 ?k8 ?a9 ?l9 ?c9 ?k9 ?a10 ?l10 ?c10 ?k10 ?a11 ?l11 ?c11 ?k11 ?a12 ?l12 ?c12 ?k12 ?a13 ?l13 ?c13 ?k13 ?a14 ?l14 ?c14 ?k14 ?a15 ?l15 ?c15 ?k15 ?a16 ?l16 ?c16 ?k16 ?a17 ?l17 ?c17 ?k17 ?a18 ?l18 ?c18 ?k18 ?a19 ?l19 ?c19 ?k19 ?a20 ?l20 ?c20 ?k20 ?a21 ?l21 ?c21 ?k21 ?a22 ?l22 ?c22 ?k22 ?a23 ?l23 ?c23 ?k23 ?a24 ?l24 ?c24 ?k24 ?a25 ?l25 ?c25 ?k25 ?zl25 ?zv25 ?zh25 ?zk25 ?zt25 ?a26 ?l26 ?c26 ?k26 ?zl26 ?zv26 ?zh26 ?zk26 ?zt26 ?b1 ?b2 ?b3 ?b4 ?b5 ?b6 ?b7 ?b8 ?g1 ?g2 ?zn25_26
    (case a1 => k_is); (case l1 => k_is); (case c1 => k_is); (case k1 => k_is); (case a2 => k_is); (case l2 => k_is); (case c2 => k_is); (case k2 => k_is); (case a3 => k_is); (case l3 => k_is); (case c3 => k_is); (case k3 => k_is); (case a4 => k_is); (case l4 => k_is); (case c4 => k_is); (case k4 => k_is); (case a5 => k_is); (case l5 => k_is); (case c5 => k_is); (case k5 => k_is); (case a6 => k_is); (case l6 => k_is); (case c6 => k_is); (case k6 => k_is); (case a7 => k_is); (case l7 => k_is); (case c7 => k_is); (case k7 => k_is); (case a8 => k_is); (case l8 => k_is); (case c8 => k_is); (case k8 => k_is); (case a9 => k_is); (case l9 => k_is); (case c9 => k_is); (case k9 => k_is); (case a10 => k_is); (case l10 => k_is); (case c10 => k_is); (case k10 => k_is); (case a11 => k_is); (case l11 => k_is); (case c11 => k_is); (case k11 => k_is); (case a12 => k_is); (case l12 => k_is); (case c12 => k_is); (case k12 => k_is); (case a13 => k_is); (case l13 => k_is); (case c13 => k_is); (case k13 => k_is); (case a14 => k_is); (case l14 => k_is); (case c14 => k_is); (case k14 => k_is); (case a15 => k_is); (case l15 => k_is); (case c15 => k_is); (case k15 => k_is); (case a16 => k_is); (case l16 => k_is); (case c16 => k_is); (case k16 => k_is); (case a17 => k_is); (case l17 => k_is); (case c17 => k_is); (case k17 => k_is); (case a18 => k_is); (case l18 => k_is); (case c18 => k_is); (case k18 => k_is); (case a19 => k_is); (case l19 => k_is); (case c19 => k_is); (case k19 => k_is); (case a20 => k_is); (case l20 => k_is); (case c20 => k_is); (case k20 => k_is); (case a21 => k_is); (case l21 => k_is); (case c21 => k_is); (case k21 => k_is); (case a22 => k_is); (case l22 => k_is); (case c22 => k_is); (case k22 => k_is); (case a23 => k_is); (case l23 => k_is); (case c23 => k_is); (case k23 => k_is); (case a24 => k_is); (case l24 => k_is); (case c24 => k_is); (case k24 => k_is); (case a25 => k_is); (case l25 => k_is); (case c25 => k_is); (case k25 => k_is); (case zl25 => k_is); (case zv25 => rfl); (case zh25 => kernel_rfl); (case zk25 => kernel_rfl); (case zt25 => decide); (case a26 => k_is); (case l26 => k_is); (case c26 => k_is); (case k26 => k_is); (case zl26 => k_is); (case zv26 => rfl); (case zh26 => kernel_rfl); (case zk26 => kernel_rfl); (case zt26 => decide); (case b1 => k_is); (case b2 => k_is); (case b3 => k_is); (case b4 => k_is); (case b5 => k_is); (case b6 => k_is); (case b7 => k_is); (case b8 => k_is); (case g1 => k_is); (case g2 => k_is); (case zn25_26 => decide)
