import PyProof.Rows.All
import Wide.All
import OpenK.AllK
import Wide.FinOn
import HandS.ForList
import HandS.ForMost
import HandS.ForExc
import HandS.Wide
import HandS.Flow
import HandS.Rev
import HandS.Zip
import HandS.TupAny
import HandS.Call
import HandS.List
import HandS.Exc
import KE.KDictKeyed
import HandS.Deep
import HandS.Replace
import HandS.Text
import KE.KDictList
import PyProof.StrWalks
import HandS.Codes
import HandS.IsInst
import HandS.More
import PyProof.StrOps2
import PyProof.Rows.ReprOcc
import PyProof.ReprRoads
import PyProof.StrLawsRepr
import KE.DataMinMax
import HandS.RaiseMore
import HandS.SortRule
import PyProof.TupleOfSeq
import KE.GoesEnum
import KE.GoesZip
import PyProof.EnumMake
import HandS.Dict
import HandS.Style
import KE.KRevSl
import KE.KSortTupAny
import HandS.TupLen
import HandS.Conv
import HandS.Strs
import KE.KDictOf
import HandS.TryOnly
import PyProof.JoinWalk
import HandS.SetFor
import PyProof.Truth
import PyProof.Rows.SortShellAny
import PyProof.Rows.TupAssign
import KE.DataCmp
import HandS.ExcInit
import HandS.ExcIs
import HandS.ExcField
import HandS.ExcOwn
import HandS.WordsExc
import KE.KExcIs
import HandS.Words
import HandS.ExcValue
import KE.DatumIndex
import HandS.FStr
import KE.GoesComp
import KE.GoesRaise
import HandS.StrSplit
import KE.KDictZip
import KE.KItemsList
import KE.DataFind
import PySem.Challenge.RW_mustmeet_k85_whole_rank_and_handles
set_option Elab.async false
set_option linter.all false
set_option maxRecDepth 100000
set_option maxHeartbeats 4000000
namespace PuE
open PySem PySem.Spec PyProof.Rows L2
/-- a new tuple, as such or frozen as the object without a dict that it is -/
def nT (H : Hp) (xs : List V) (Q : VK) : Prop := (∀ p, H p = none → Q (.ref p) (upd H p (.tup xs))) ∨ (∀ p (ob : Obj), H p = none → ob.dict = none → ob.cls = .type "tuple" → Q (.ref p) (upd H p (.frz ob (.tup xs))))
section
variable {X : Cx} {pins : List (Addr × Obj)} {σ : L2.St} {H : Hp} {s : Shared} {Q : VK} {es : List Expr} {t : TA} {pos : Pos}
/-- the new object is laid -/
theorem laidT {xs : List V} {its : Array Value} {tk : Nat} (I : Inv X pins σ H s) (r : Vals xs its.toList) (hz : xs.length ≤ sizeLine) (q : nT H xs Q) :
    EP X pins σ Q (.ref s.heap.objs.size) { s with heap := s.heap.push { cls := .type "tuple", data := .seq its }, toks := tk } := by
  have hf : H s.heap.objs.size = none := I.hok.fresh (Nat.le_refl _)
  have hb : IsTup (s.heap.push { cls := .type "tuple", data := .seq its }) s.heap.objs.size its.toList.toArray := by
    have := IsTup.new s.heap its
    simpa using this
  rcases q with q | q
  · exact ⟨.ref s.heap.objs.size, upd H s.heap.objs.size (.tup xs), I.laid (t' := tk) (fun b u e => Heap.get?_push_of_some _ e) (Nat.le_refl _) ⟨hz, its.toList, r, hb⟩, rfl, q _ hf⟩
  · exact ⟨.ref s.heap.objs.size, upd H s.heap.objs.size (.frz { cls := .type "tuple", data := .seq its } (.tup xs)), I.laid (t' := tk) (fun b u e => Heap.get?_push_of_some _ e) (Nat.le_refl _) ⟨Heap.get?_push_size _ rfl, hz, its.toList, r, hb⟩, rfl, q _ _ hf rfl rfl⟩
def tTupB (t : TA) : TE := fun σ H Q => t σ H fun xs H1 => xs.length ≤ sizeLine ∧ nT H1 xs Q
theorem pe_tupB {x1} (h : PA X es t) : PE X (.Tuple es x1 pos) (tTupB t) := by
  refine ⟨fun pins s σ H Q I hq => ?_⟩
  refine wpAny_Tuple_spliced (thn (h.run pos pins s σ H _ I hq) fun us s1 ⟨xs, H1, I1, r, z, q⟩ => ⟨by rw [← r.length]; exact z, ?_⟩)
  exact laidT (tk := s1.toks) (its := us.toArray) I1 (by simpa using r) z q
def rCatTB (K : PySem.W.Frag) : R2 := fun x y H Q => ∃ a b xs ys, x = .ref a ∧ y = .ref b ∧ SqT K H a xs ∧ SqT K H b ys ∧ xs.length + ys.length ≤ sizeLine ∧
  (xs = [] → Q (.ref b) H) ∧ (xs ≠ [] → ys = [] → Q (.ref a) H) ∧ (xs ≠ [] → ys ≠ [] → nT H (xs ++ ys) Q)
theorem op_catB : OpR X (binaryOp .Add) (rCatTB X.K) := by
  intro pins s σ H x y v u Q I rx ry h
  obtain ⟨a, b, xs, ys, rfl, rfl, ha, hb, hz, q0, q1, q2⟩ := h
  cases rx
  cases ry
  obtain ⟨its, r1, p1, _⟩ := I.tuple ha
  obtain ⟨its2, r2, p2, _⟩ := I.tuple hb
  by_cases hx : xs = []
  · subst hx
    cases r1
    exact cat_tup0 p1 p2 ⟨.ref b, H, I, rfl, q0 rfl⟩
  · have l1 := r1.length
    have l2 := r2.length
    have hx' : its ≠ [] := fun z => by subst z; cases r1; exact hx rfl
    refine HT.cat_tup p1 p2 hx' (fun z => ?_) (fun z => ?_) (by omega)
    · subst z
      cases r2
      exact ⟨.ref a, H, I, rfl, q1 hx rfl⟩
    · have hy : ys ≠ [] := fun e => by subst e; cases r2; exact z rfl
      exact laidT (tk := s.toks) (its := (its ++ its2).toArray) I (by simpa using r1.append r2) (by rw [List.length_append]; exact hz) (q2 hx hy)
def rSlTB (K : PySem.W.Frag) : V → Option Int → Option Int → Hp → VK → Prop := fun x lo hi H Q => ∃ a xs, x = .ref a ∧ SqT K H a xs ∧
  (HT.sIx xs.length 0 lo = 0 ∧ HT.sIx xs.length xs.length hi = xs.length → Q (.ref a) H) ∧ (¬ (HT.sIx xs.length 0 lo = 0 ∧ HT.sIx xs.length xs.length hi = xs.length) → nT H (cutV xs lo hi) Q)
theorem sl_tupB : SlR X (rSlTB X.K) := by
  intro pins s σ H x v vl vu lo hi sl Q I rx hs pl pu h
  obtain ⟨a, xs, rfl, hx, q1, q2⟩ := h
  cases rx
  obtain ⟨its, r, ht, hz⟩ := I.tuple hx
  have hlen : its.toArray.size = xs.length := by rw [List.size_toArray]; exact r.length.symm
  refine ⟨"tuple", _, PyProof.Rows.slot_tuple_getitem.lookup, ht.typeIs, ?_⟩
  by_cases hw : HT.sIx xs.length 0 lo = 0 ∧ HT.sIx xs.length xs.length hi = xs.length
  · exact getItem_tuple_whole ht hs pl pu (by rw [hlen]; exact hw) ⟨.ref a, H, I, rfl, q1 hw⟩
  · refine HT.getItem_tuple_cut ht hs pl pu (by rw [hlen]; exact hw) ?_ (by rw [hlen]; exact hz)
    rw [hlen]
    exact laidT (tk := s.toks) (its := ((its.drop (HT.sIx xs.length 0 lo)).take (HT.sIx xs.length xs.length hi - HT.sIx xs.length 0 lo)).toArray) I (by unfold cutV; simpa using (r.drop (HT.sIx xs.length 0 lo)).take (HT.sIx xs.length xs.length hi - HT.sIx xs.length 0 lo)) (Nat.le_trans (cutV_length xs lo hi) hz) (q2 hw)
theorem call_tuple_ofB : CallR X (.type "tuple") (fun xs H Q => ∃ p ys, xs = [.ref p] ∧ ((SqL X.K H p ys ∧ nT H ys Q) ∨ (SqT X.K H p ys ∧ Q (.ref p) H))) := by
  intro pins s σ H xs us Q I r h
  obtain ⟨p, ys, rfl, h⟩ := h
  obtain ⟨u, rfl, rx⟩ := vals1 r
  cases rx
  rcases h with ⟨hq, q⟩ | ⟨hq, q⟩
  · obtain ⟨its, r', pl, hz⟩ := I.list hq
    have hlen := r'.length
    refine call_tuple_list pl.isList (fun h' kp => ?_) (by simp only [List.size_toArray] <;> omega)
    have I1 : Inv X pins σ H { s with heap := h' } := I.kept (t' := s.toks) kp
    exact laidT (tk := s.toks) (its := its.toArray) I1 (by simpa using r') hz q
  · obtain ⟨its, r', pl, hz⟩ := I.tuple hq
    exact call_tuple_same pl ⟨.ref p, H, I, rfl, q⟩
end
end PuE
set_option maxRecDepth 100000
set_option maxHeartbeats 4000000
namespace Pu
open PySem L2
/-- the classes by number, and the program's world -/
structure Cl where
  f : Nat → Addr
  P : Program
  w : World
instance : CoeFun Cl (fun _ => Nat → Addr) := ⟨Cl.f⟩
/-- data: what never changes any more, boxes of the law's draws, objects by number -/
inductive D where
  | non | bl (b : Bool) | int (i : Int) | str (s : List Nat) | tup (ds : List D) | lst (ds : List D) | scr (n : Nat) | box | ref (k : Nat) | cls (k : Nat) | exc (c : Nat) (ns : List Str) (ds : List D) | dct (ks : List (List Key)) (ds : List D) | dck (ks : List Key) (ds : List D) | dcn (ks : List D) (is : List Int)
/-- what a slot holds: nothing, data, a list or dict of its own -/
inductive C where
  | un | d (d : D) | own (ds : List D) | dK (kvs : List (Key × D)) | dT (kvs : List (List Key × D))
/-- what an expression comes to: data, a new list or dict, what the slot i holds -/
inductive R where
  | d (d : D) | own (ds : List D) | dK (kvs : List (Key × D)) | dT (kvs : List (List Key × D)) | nam (i : Nat)
/-- an object of the store -/
inductive SO where
  | lst (ds : List D) | dK (kvs : List (Key × D)) | dT (kvs : List (List Key × D)) | ins (c : Nat) (fs : List (Str × D)) | exc (c : Nat) (ds : List D)
structure En where
  sl : List C
  st : List SO
structure Ex where
  c : Nat
  ds : List D
/-- the sort of an address -/
inductive Kd where
  | frz | box | obj (k : Nat)
abbrev Ka := Addr → Option Kd
abbrev Sto := List SO
abbrev Sl := List (Option V)
def KL (K : PySem.W.Frag) (a : Addr) (xs : List V) : Prop :=
  ∃ (o : Obj) (its : Array Value) (n : Nat), K.lookup a = some o ∧ o.cls = .type "list" ∧ o.dict = none ∧ o.data = .seq its n ∧ its.size ≤ sizeLine ∧ Vals xs its.toList
/-- what does not change in a def: the written part, the heap and the sorts at its entry -/
structure Gm where
  K : PySem.W.Frag
  H0 : Hp
  k0 : Ka
  cls : Cl
  flds : Nat → List Str
  E : XK
  x : Ex → Sto → Prop
/-- a text that the model lays -/
def SOk (l : List Nat) : Prop := l.length ≤ sizeLine ∧ ∀ c ∈ l, c < 1114112
instance (l : List Nat) : Decidable (SOk l) := by unfold SOk; infer_instance
/-- a caught or made exception of the class at C, its dict (none | at d) -/
def exT (a C : Addr) (d : Option Addr) : HO := .ext fun h => ∃ (oe : Obj) (vs : Array Value), h.get? a = some oe ∧ Zc (.ref C) d oe ∧ oe.data = .fields vs
/-- an exception's dict -/
def ExD (κ : Ka) (H : Hp) (d : Option Addr) (ns : List Str) (vs : List V) : Prop := (d = none ∧ ns = []) ∨ ∃ dd, d = some dd ∧ κ dd = some .frz ∧ H dd = some (.xd (ns.zip vs).reverse)
mutual
/-- a key of any depth -/
def nkD : D → Option NestedKey
  | .int i => some (.num i)
  | .str s => some (.text ⟨s.toArray⟩)
  | .tup ds => (nkL ds).map .tup
  | _ => none
def nkL : List D → Option (List NestedKey)
  | [] => some []
  | d :: ds => (nkD d).bind fun k => (nkL ds).map fun ks => k :: ks
end
/-- a dict of nested keys and ints, its keys' tuples at as -/
def dcnO (cl : Cl) (a : Addr) (as : List Addr) (nks : List NestedKey) (is : List Int) : HO := .ext fun h =>
  (a == sysModules) = false ∧ ∃ (o : Obj) (es : Array DictEntry) (ep : Nat) (vs : List Value), h.get? a = some o ∧ o.ExactDict ∧ o.data = .dict es ep ∧ vs.length = is.length ∧ (∀ (j : Nat) (i : Int), is[j]? = some i → ∃ t, vs[j]? = some (.int i t)) ∧ es.toList = (nks.zip (as.zip vs)).map (fun p => entryOfKey (nestedKind cl.P cl.w) p) ∧ nks.Nodup
/-- a pair of ints; a row of such, not empty (such tuples are known to be plain) -/
def isPr : D → Bool
  | .tup [.int _, .int _] => true
  | _ => false
def ordL : List D → Bool
  | [] => false
  | d :: ds => isPr d && ds.all isPr
mutual
inductive Rep (K : PySem.W.Frag) (cl : Cl) (κ : Ka) (H : Hp) : V → D → Prop
  | non : Rep K cl κ H .non .non
  | bl (b : Bool) : Rep K cl κ H (.bl b) (.bl b)
  | int (i : Int) : Rep K cl κ H (.int i) (.int i)
  | str (l : List Nat) : SOk l → Rep K cl κ H (.str ⟨l.toArray⟩) (.str l)
  | lst {a : Addr} {vs : List V} {ds : List D} : κ a = some .frz → H a = some (.lst vs) → vs.length ≤ sizeLine → RepL K cl κ H vs ds → Rep K cl κ H (.ref a) (.lst ds)
  | tup {a : Addr} {vs : List V} {ds : List D} : ordL ds = false → κ a = some .frz → H a = some (.tup vs) → vs.length ≤ sizeLine → RepL K cl κ H vs ds → Rep K cl κ H (.ref a) (.tup ds)
  | tupF {a : Addr} {vs : List V} {ds : List D} {ob : Obj} : ordL ds = true → ob.dict = none → ob.cls = .type "tuple" → κ a = some .frz → H a = some (.frz ob (.tup vs)) → vs.length ≤ sizeLine → RepL K cl κ H vs ds → Rep K cl κ H (.ref a) (.tup ds)
  | scr {a : Addr} {ns : List Int} {n : Nat} : ((κ a = some .frz ∧ Rd H a (.lst (ns.map V.int))) ∨ KL K a (ns.map V.int)) → ns.length = n → n ≤ 63 → Rep K cl κ H (.ref a) (.scr n)
  | box {a : Addr} : κ a = some .box → Rep K cl κ H (.ref a) .box
  | ref {a : Addr} {k : Nat} : κ a = some (.obj k) → Rep K cl κ H (.ref a) (.ref k)
  | cls (k : Nat) : Rep K cl κ H (.ref (cl k)) (.cls k)
  | exc {a : Addr} {c : Nat} {ns : List Str} {vs : List V} {ds : List D} {d : Option Addr} : κ a = some .frz → H a = some (exT a (cl c) d) → ExD κ H d ns vs → RepL K cl κ H vs ds → Rep K cl κ H (.ref a) (.exc c ns ds)
  | dct {a : Addr} {ks : List (List Key)} {vs : List V} {ds : List D} : κ a = some .frz → H a = some (.dT (ks.zip vs)) → vs.length = ks.length → RepL K cl κ H vs ds → Rep K cl κ H (.ref a) (.dct ks ds)
  | dck {a : Addr} {ks : List Key} {vs : List V} {ds : List D} : κ a = some .frz → H a = some (.dK (ks.zip vs)) → vs.length = ks.length → RepL K cl κ H vs ds → Rep K cl κ H (.ref a) (.dck ks ds)
  | dcn {a : Addr} {as : List Addr} {ks : List D} {nks : List NestedKey} {is : List Int} : κ a = some .frz → H a = some (dcnO cl a as nks is) → nkL ks = some nks → as.length = ks.length → is.length = ks.length → (∀ k ∈ nks, k.depth ≤ 8) → RepL K cl κ H (as.map V.ref) ks → Rep K cl κ H (.ref a) (.dcn ks is)
inductive RepL (K : PySem.W.Frag) (cl : Cl) (κ : Ka) (H : Hp) : List V → List D → Prop
  | nil : RepL K cl κ H [] []
  | cons {v : V} {vs : List V} {d : D} {ds : List D} : Rep K cl κ H v d → RepL K cl κ H vs ds → RepL K cl κ H (v :: vs) (d :: ds)
end
/-- entries of a dict, attributes -/
inductive PR {α : Type} (K : PySem.W.Frag) (cl : Cl) (κ : Ka) (H : Hp) : List (α × V) → List (α × D) → Prop
  | nil : PR K cl κ H [] []
  | cons {a : α} {v : V} {vs : List (α × V)} {d : D} {ds : List (α × D)} : Rep K cl κ H v d → PR K cl κ H vs ds → PR K cl κ H ((a, v) :: vs) ((a, d) :: ds)
def Ext (κ : Ka) (H : Hp) (κ' : Ka) (H' : Hp) : Prop := (∀ a x, κ a = some x → κ' a = some x) ∧ ∀ a, κ a = some .frz → H' a = H a
theorem Ext.refl (κ : Ka) (H : Hp) : Ext κ H κ H := ⟨fun _ _ h => h, fun _ _ => rfl⟩
theorem Ext.trans {κ κ1 κ2 : Ka} {H H1 H2 : Hp} (a : Ext κ H κ1 H1) (b : Ext κ1 H1 κ2 H2) : Ext κ H κ2 H2 :=
  ⟨fun x y h => b.1 x y (a.1 x y h), fun x h => (b.2 x (a.1 x _ h)).trans (a.2 x h)⟩
section
variable {K : PySem.W.Frag} {cl : Cl} {κ κ' : Ka} {H H' : Hp}
mutual
theorem Rep.mono (e : Ext κ H κ' H') : ∀ {d : D} {v : V}, Rep K cl κ H v d → Rep K cl κ' H' v d
  | .non, _, h => by cases h; exact .non
  | .bl b, _, h => by cases h; exact .bl b
  | .int i, _, h => by cases h; exact .int i
  | .str l, _, h => by cases h with | str _ h => exact .str l h
  | .lst ds, _, h => by
    cases h with
    | lst h1 h2 h3 h4 => exact .lst (e.1 _ _ h1) ((e.2 _ h1).trans h2) h3 (RepL.mono e h4)
  | .tup ds, _, h => by
    cases h with
    | tup h0 h1 h2 h3 h4 => exact .tup h0 (e.1 _ _ h1) ((e.2 _ h1).trans h2) h3 (RepL.mono e h4)
    | tupF h0 h5 h6 h1 h2 h3 h4 => exact .tupF h0 h5 h6 (e.1 _ _ h1) ((e.2 _ h1).trans h2) h3 (RepL.mono e h4)
  | .scr n, _, h => by
    cases h with
    | scr h1 h2 h3 =>
      refine .scr ?_ h2 h3
      rcases h1 with ⟨h1, h2⟩ | h1
      · refine .inl ⟨e.1 _ _ h1, ?_⟩
        unfold Rd
        rw [e.2 _ h1]
        exact h2
      · exact .inr h1
  | .box, _, h => by cases h with | box h => exact .box (e.1 _ _ h)
  | .ref k, _, h => by cases h with | ref h => exact .ref (e.1 _ _ h)
  | .cls k, _, h => by cases h; exact .cls k
  | .exc c ns ds, _, h => by
    cases h with
    | exc h1 h2 h3 h4 =>
      refine .exc (e.1 _ _ h1) ((e.2 _ h1).trans h2) ?_ (RepL.mono e h4)
      rcases h3 with h3 | ⟨dd, h3, h5, h6⟩
      · exact .inl h3
      · exact .inr ⟨dd, h3, e.1 _ _ h5, (e.2 _ h5).trans h6⟩
  | .dct ks ds, _, h => by
    cases h with
    | dct h1 h2 h3 h4 => exact .dct (e.1 _ _ h1) ((e.2 _ h1).trans h2) h3 (RepL.mono e h4)
  | .dck ks ds, _, h => by
    cases h with
    | dck h1 h2 h3 h4 => exact .dck (e.1 _ _ h1) ((e.2 _ h1).trans h2) h3 (RepL.mono e h4)
  | .dcn ks is, _, h => by
    cases h with
    | dcn h1 h2 h3 h4 h5 h6 h7 => exact .dcn (e.1 _ _ h1) ((e.2 _ h1).trans h2) h3 h4 h5 h6 (RepL.mono e h7)
theorem RepL.mono (e : Ext κ H κ' H') : ∀ {ds : List D} {vs : List V}, RepL K cl κ H vs ds → RepL K cl κ' H' vs ds
  | [], _, h => by cases h; exact .nil
  | d :: ds, _, h => by cases h with | cons h1 h2 => exact .cons (Rep.mono e h1) (RepL.mono e h2)
end
theorem PR.mono {α : Type} (e : Ext κ H κ' H') : ∀ {ds : List (α × D)} {vs : List (α × V)}, PR K cl κ H vs ds → PR K cl κ' H' vs ds
  | [], _, h => by cases h; exact .nil
  | _ :: ds, _, h => by cases h with | cons h1 h2 => exact .cons (Rep.mono e h1) (PR.mono e h2)
theorem RepL.length : ∀ {ds : List D} {vs : List V}, RepL K cl κ H vs ds → vs.length = ds.length
  | [], _, h => by cases h; rfl
  | d :: ds, _, h => by cases h with | cons h1 h2 => simp [RepL.length h2]
theorem PR.length {α : Type} : ∀ {ds : List (α × D)} {vs : List (α × V)}, PR K cl κ H vs ds → vs.length = ds.length
  | [], _, h => by cases h; rfl
  | d :: ds, _, h => by cases h with | cons h1 h2 => simp [PR.length h2]
theorem RepL.append : ∀ {ds es : List D} {vs ws : List V}, RepL K cl κ H vs ds → RepL K cl κ H ws es → RepL K cl κ H (vs ++ ws) (ds ++ es)
  | [], _, _, _, h, g => by cases h; exact g
  | d :: ds, _, _, _, h, g => by cases h with | cons h1 h2 => exact .cons h1 (RepL.append h2 g)
theorem RepL.get : ∀ {ds : List D} {vs : List V} {i : Nat} {d : D}, RepL K cl κ H vs ds → ds[i]? = some d → ∃ v, vs[i]? = some v ∧ Rep K cl κ H v d
  | [], _, _, _, h, e => by simp at e
  | d :: ds, _, 0, _, h, e => by
    cases h with
    | cons h1 h2 => simp at e; subst e; exact ⟨_, rfl, h1⟩
  | d :: ds, _, i + 1, _, h, e => by
    cases h with
    | cons h1 h2 =>
      obtain ⟨v, e1, r⟩ := RepL.get (i := i) h2 (by simpa using e)
      exact ⟨v, by simpa using e1, r⟩
theorem RepL.set : ∀ {ds : List D} {vs : List V} {v : V} {d : D} (i : Nat), Rep K cl κ H v d → RepL K cl κ H vs ds → RepL K cl κ H (vs.set i v) (ds.set i d)
  | [], _, _, _, _, _, h => by cases h; exact .nil
  | _ :: _, _, _, _, 0, r, h => by cases h with | cons h1 h2 => exact .cons r h2
  | _ :: _, _, _, _, i + 1, r, h => by cases h with | cons h1 h2 => exact .cons h1 (RepL.set i r h2)
theorem RepL.take : ∀ {ds : List D} {vs : List V} (n : Nat), RepL K cl κ H vs ds → RepL K cl κ H (vs.take n) (ds.take n)
  | _, _, 0, _ => by simpa using .nil
  | [], _, n + 1, h => by cases h; exact .nil
  | _ :: _, _, n + 1, h => by cases h with | cons h1 h2 => exact .cons h1 (RepL.take n h2)
theorem RepL.drop : ∀ {ds : List D} {vs : List V} (n : Nat), RepL K cl κ H vs ds → RepL K cl κ H (vs.drop n) (ds.drop n)
  | _, _, 0, h => h
  | [], _, n + 1, h => by cases h; exact .nil
  | _ :: _, _, n + 1, h => by cases h with | cons h1 h2 => exact RepL.drop n h2
theorem RepL.eraseIdx : ∀ {ds : List D} {vs : List V} (n : Nat), RepL K cl κ H vs ds → RepL K cl κ H (vs.eraseIdx n) (ds.eraseIdx n)
  | [], _, _, h => by cases h; exact .nil
  | _ :: _, _, 0, h => by cases h with | cons h1 h2 => exact h2
  | _ :: _, _, n + 1, h => by cases h with | cons h1 h2 => exact .cons h1 (RepL.eraseIdx n h2)
theorem RepL.dropLast : ∀ {ds : List D} {vs : List V}, RepL K cl κ H vs ds → RepL K cl κ H vs.dropLast ds.dropLast
  | ds, vs, h => by
    rw [List.dropLast_eq_take, List.dropLast_eq_take, h.length]
    exact h.take _
theorem RepL.reverse : ∀ {ds : List D} {vs : List V}, RepL K cl κ H vs ds → RepL K cl κ H vs.reverse ds.reverse
  | [], _, h => by cases h; exact .nil
  | _ :: _, _, h => by
    cases h with
    | cons h1 h2 =>
      rw [List.reverse_cons, List.reverse_cons]
      exact (RepL.reverse h2).append (.cons h1 .nil)
end
/-- keys and values apart -/
theorem PR.split {α : Type} {K : PySem.W.Frag} {cl : Cl} {κ : Ka} {H : Hp} : ∀ {ds : List (α × D)} {vs : List (α × V)}, PR K cl κ H vs ds → vs = (ds.map (·.1)).zip (vs.map (·.2)) ∧ (vs.map (·.2)).length = (ds.map (·.1)).length ∧ RepL K cl κ H (vs.map (·.2)) (ds.map (·.2))
  | [], _, h => by cases h; exact ⟨rfl, rfl, .nil⟩
  | _ :: ds, _, h => by
    cases h with
    | cons h1 h2 =>
      obtain ⟨e1, e2, e3⟩ := PR.split h2
      refine ⟨?_, by simpa using e2, .cons h1 e3⟩
      rw [List.map_cons, List.map_cons, List.zip_cons_cons, ← e1]
theorem PR.zipKV {α : Type} {K : PySem.W.Frag} {cl : Cl} {κ : Ka} {H : Hp} : ∀ {ks : List α} {vs : List V} {ds : List D}, vs.length = ks.length → RepL K cl κ H vs ds → PR K cl κ H (ks.zip vs) (ks.zip ds)
  | [], vs, ds, _, h => by simp only [List.zip_nil_left]; exact .nil
  | k :: ks, [], ds, e, h => by simp at e
  | k :: ks, v :: vs, _, e, .cons h1 h2 => by
    rw [List.zip_cons_cons, List.zip_cons_cons]
    exact .cons h1 (PR.zipKV (by simpa using e) h2)
theorem zip_split {α β : Type} : ∀ l : List (α × β), (l.map (·.1)).zip (l.map (·.2)) = l
  | [] => rfl
  | a :: l => by rw [List.map_cons, List.map_cons, List.zip_cons_cons, zip_split l]
/-- what a fresh own thing at a slot or a result is -/
def OwnC (Γ : Gm) (κ : Ka) (H : Hp) (a : Addr) : C → Prop
  | .own ds => κ a = none ∧ Γ.H0 a = none ∧ ∃ vs, H a = some (.lst vs) ∧ vs.length ≤ sizeLine ∧ RepL Γ.K Γ.cls κ H vs ds
  | .dK kvs => κ a = none ∧ Γ.H0 a = none ∧ ∃ vs, H a = some (.dK vs) ∧ PR Γ.K Γ.cls κ H vs kvs
  | .dT kvs => κ a = none ∧ Γ.H0 a = none ∧ ∃ vs, H a = some (.dT vs) ∧ PR Γ.K Γ.cls κ H vs kvs
  | _ => False
def C.isOwn : C → Bool
  | .own _ => true
  | .dK _ => true
  | .dT _ => true
  | _ => false
def RelS (Γ : Gm) (κ : Ka) (H : Hp) (o : Option (Option V)) : C → Prop
  | .un => True
  | .d d => ∃ v, o = some (some v) ∧ Rep Γ.K Γ.cls κ H v d
  | c => ∃ a, o = some (some (.ref a)) ∧ OwnC Γ κ H a c
def RelC (Γ : Gm) (κ : Ka) (H : Hp) (v : V) : C → Prop
  | .un => False
  | .d d => Rep Γ.K Γ.cls κ H v d
  | c => ∃ a, v = .ref a ∧ OwnC Γ κ H a c
def ObjR (Γ : Gm) (κ : Ka) (H : Hp) (a : Addr) : SO → Prop
  | .lst ds => ∃ vs, H a = some (.lst vs) ∧ vs.length ≤ sizeLine ∧ RepL Γ.K Γ.cls κ H vs ds
  | .dK kvs => ∃ vs, H a = some (.dK vs) ∧ PR Γ.K Γ.cls κ H vs kvs
  | .dT kvs => ∃ vs, H a = some (.dT vs) ∧ PR Γ.K Γ.cls κ H vs kvs
  | .ins c fs => ∃ dx vs, H a = some (.ins (Γ.cls c) dx vs) ∧ PR Γ.K Γ.cls κ H vs fs
  | .exc _ _ => False
/-- the ghost's part of the invariant -/
structure Gh (Γ : Gm) (κ : Ka) (st : Sto) (H : Hp) : Prop where
  sub : ∀ a x, Γ.k0 a = some x → κ a = some x
  new : ∀ a x, κ a = some x → Γ.k0 a = some x ∨ Γ.H0 a = none ∨ (x = .frz ∧ ∃ vs, Γ.H0 a = some (.tup vs))
  trk : ∀ a x, κ a = some x → H a ≠ none
  trk0 : ∀ a, Γ.H0 a ≠ none → H a ≠ none
  box : ∀ a, κ a = some .box → ∃ i j, H a = some (.lst [.int i, .int j])
  obj : ∀ a k, κ a = some (.obj k) → ∃ so, st[k]? = some so ∧ ObjR Γ κ H a so
  inj : ∀ a b k, κ a = some (.obj k) → κ b = some (.obj k) → a = b
  base : ∀ a o, Γ.H0 a = some o → (Γ.k0 a = none ∨ Γ.k0 a = some .frz) → H a = some o
def OwnS (env : En) (σ : Sl) (i : Nat) (a : Addr) : Prop := σ[i]? = some (some (.ref a)) ∧ ∃ c, env.sl[i]? = some c ∧ c.isOwn = true
structure Rl (Γ : Gm) (κ : Ka) (env : En) (σ : Sl) (H : Hp) : Prop where
  len : σ.length = env.sl.length
  sl : ∀ (i : Nat) (c : C), env.sl[i]? = some c → RelS Γ κ H σ[i]? c
  dist : ∀ (i j : Nat) (a : Addr), OwnS env σ i a → OwnS env σ j a → i = j
  gh : Gh Γ κ env.st H
/-- what an expression came to -/
def RelR (Γ : Gm) (κ : Ka) (H : Hp) (env : En) (σ : Sl) (v : V) : R → Prop
  | .d d => Rep Γ.K Γ.cls κ H v d
  | .nam i => σ[i]? = some (some v)
  | .own ds => ∃ a, v = .ref a ∧ OwnC Γ κ H a (.own ds) ∧ ∀ i, ¬ OwnS env σ i a
  | .dK kvs => ∃ a, v = .ref a ∧ OwnC Γ κ H a (.dK kvs) ∧ ∀ i, ¬ OwnS env σ i a
  | .dT kvs => ∃ a, v = .ref a ∧ OwnC Γ κ H a (.dT kvs) ∧ ∀ i, ¬ OwnS env σ i a
abbrev PX := Ex → Sto → Prop
abbrev PTE := PX → En → (R → En → Prop) → Prop
abbrev PTT := PX → En → (Bool → En → Prop) → Prop
abbrev PTA := PX → En → (List D → En → Prop) → Prop
structure PEn where
  nx : En → Prop
  rt : C → En → Prop
  bk : En → Prop := fun _ => False
  ct : En → Prop := fun _ => False
abbrev PTS := PX → PEn → En → Prop
/-- the contexts in which a piece of text runs -/
structure Fam where
  ι : Type
  X : ι → Cx
  E : ι → XK
  K : PySem.W.Frag
  hK : ∀ i, (X i).K = K
  cls : Cl
  flds : Nat → List Str
/-- what is wanted of an exception, purely, is what is wanted of it -/
def XOk (Γ : Gm) : Prop := ∀ (κ : Ka) (H : Hp) (st : Sto) (c : Nat) (ds : List D) (vs : List V) (d : Option Addr), Gh Γ κ st H → Γ.x ⟨c, ds⟩ st → RepL Γ.K Γ.cls κ H vs ds → ExD κ H d (Γ.flds c) vs → Γ.E (.ref (Γ.cls c)) d H
structure GK (Y : Fam) (Γ : Gm) : Prop where
  k : Γ.K = Y.K
  c : Γ.cls = Y.cls
  f : Γ.flds = Y.flds
  x : XOk Γ
section
variable (Y : Fam)
structure VE (e : Expr) (t : PTE) : Prop where
  ex : ∃ rd : XK → TE, (∀ i, PE (Y.X i) e (rd (Y.E i))) ∧ ∀ (Γ : Gm) (σ : Sl) (κ : Ka) (H : Hp) (env : En) (Q : R → En → Prop) (Q' : VK), GK Y Γ → Rl Γ κ env σ H → t Γ.x env Q →
    (∀ v κ' H' r env', Ext κ H κ' H' → Rl Γ κ' env' σ H' → RelR Γ κ' H' env' σ v r → Q r env' → Q' v H') → rd Γ.E σ H Q'
structure VT (e : Expr) (t : PTT) : Prop where
  ex : ∃ rd : XK → TT, (∀ i, PT (Y.X i) e (rd (Y.E i))) ∧ ∀ (Γ : Gm) (σ : Sl) (κ : Ka) (H : Hp) (env : En) (Q : Bool → En → Prop) (Q' : Bool → Hp → Prop), GK Y Γ → Rl Γ κ env σ H → t Γ.x env Q →
    (∀ b κ' H' env', Ext κ H κ' H' → Rl Γ κ' env' σ H' → Q b env' → Q' b H') → rd Γ.E σ H Q'
structure VW (e : Expr) (t : PTT) : Prop where
  ex : ∃ rd : XK → TT, (∀ i, PW (Y.X i) e (rd (Y.E i))) ∧ ∀ (Γ : Gm) (σ : Sl) (κ : Ka) (H : Hp) (env : En) (Q : Bool → En → Prop) (Q' : Bool → Hp → Prop), GK Y Γ → Rl Γ κ env σ H → t Γ.x env Q →
    (∀ b κ' H' env', Ext κ H κ' H' → Rl Γ κ' env' σ H' → Q b env' → Q' b H') → rd Γ.E σ H Q'
/-- arguments, all data -/
structure VA (es : List Expr) (t : PTA) : Prop where
  ex : ∃ rd : XK → TA, (∀ i, PA (Y.X i) es (rd (Y.E i))) ∧ ∀ (Γ : Gm) (σ : Sl) (κ : Ka) (H : Hp) (env : En) (Q : List D → En → Prop) (Q' : List V → Hp → Prop), GK Y Γ → Rl Γ κ env σ H → t Γ.x env Q →
    (∀ vs κ' H' ds env', Ext κ H κ' H' → Rl Γ κ' env' σ H' → RepL Γ.K Γ.cls κ' H' vs ds → Q ds env' → Q' vs H') → rd Γ.E σ H Q'
def LiftTo (Γ : Gm) (κ : Ka) (H : Hp) (D : PEn) (D' : Ends) : Prop :=
  (∀ σ' κ' H' env', Ext κ H κ' H' → Rl Γ κ' env' σ' H' → D.nx env' → D'.nx σ' H') ∧
  (∀ v κ' H' c env', Ext κ H κ' H' → Gh Γ κ' env'.st H' → RelC Γ κ' H' v c → D.rt c env' → D'.rt v H') ∧
  (∀ σ' κ' H' env', Ext κ H κ' H' → Rl Γ κ' env' σ' H' → D.bk env' → D'.bk σ' H') ∧
  (∀ σ' κ' H' env', Ext κ H κ' H' → Rl Γ κ' env' σ' H' → D.ct env' → D'.ct σ' H')
structure VS (s : Stmt) (t : PTS) : Prop where
  ex : ∃ rd : XK → TS, (∀ i, PS (Y.X i) s (rd (Y.E i))) ∧ ∀ (Γ : Gm) (σ : Sl) (κ : Ka) (H : Hp) (env : En) (D : PEn) (D' : Ends), GK Y Γ → Rl Γ κ env σ H → t Γ.x D env → LiftTo Γ κ H D D' → rd Γ.E D' σ H
structure VSs (s : List Stmt) (t : PTS) : Prop where
  ex : ∃ rd : XK → TS, (∀ i, PSs (Y.X i) s (rd (Y.E i))) ∧ ∀ (Γ : Gm) (σ : Sl) (κ : Ka) (H : Hp) (env : En) (D : PEn) (D' : Ends), GK Y Γ → Rl Γ κ env σ H → t Γ.x D env → LiftTo Γ κ H D D' → rd Γ.E D' σ H
end
theorem LiftTo.ext {Γ : Gm} {κ κ1 : Ka} {H H1 : Hp} {D : PEn} {D' : Ends} (e : Ext κ H κ1 H1) (l : LiftTo Γ κ H D D') : LiftTo Γ κ1 H1 D D' :=
  ⟨fun σ' κ' H' env' x => l.1 σ' κ' H' env' (e.trans x), fun v κ' H' c env' x => l.2.1 v κ' H' c env' (e.trans x), fun σ' κ' H' env' x => l.2.2.1 σ' κ' H' env' (e.trans x), fun σ' κ' H' env' x => l.2.2.2 σ' κ' H' env' (e.trans x)⟩
def rv : R → En → Option D
  | .d d, _ => some d
  | .own ds, _ => some (.lst ds)
  | .nam i, e => match e.sl[i]? with
    | some (.d d) => some d
    | some (.own ds) => some (.lst ds)
    | _ => none
  | _, _ => none
/-- data at its top: a list may be one's own -/
def RepT (Γ : Gm) (κ : Ka) (H : Hp) (v : V) : D → Prop
  | .lst ds => ∃ a vs, v = .ref a ∧ H a = some (.lst vs) ∧ vs.length ≤ sizeLine ∧ RepL Γ.K Γ.cls κ H vs ds
  | d => Rep Γ.K Γ.cls κ H v d
section
variable {Γ : Gm} {κ κ' : Ka} {H H' : Hp} {env env' : En} {σ : Sl} {v : V}
theorem Rep.top {d : D} (h : Rep Γ.K Γ.cls κ H v d) : RepT Γ κ H v d := by
  cases d with
  | lst ds => cases h with | lst h1 h2 h3 h4 => exact ⟨_, _, rfl, h2, h3, h4⟩
  | _ => exact h
theorem Rl.get {i : Nat} {c : C} (r : Rl Γ κ env σ H) (e : env.sl[i]? = some c) : RelS Γ κ H σ[i]? c := r.sl i c e
theorem rv_ok {r : R} {d : D} (I : Rl Γ κ env σ H) (h : RelR Γ κ H env σ v r) (e : rv r env = some d) : RepT Γ κ H v d := by
  cases r with
  | d d' => cases e; exact h.top
  | own ds =>
    cases e
    obtain ⟨a, rfl, ⟨_, _, vs, h2, h3, h4⟩, _⟩ := h
    exact ⟨a, vs, rfl, h2, h3, h4⟩
  | dK _ => cases e
  | dT _ => cases e
  | nam i =>
    have h : σ[i]? = some (some v) := h
    unfold rv at e
    simp only at e
    cases q : env.sl[i]? with
    | none => rw [q] at e; cases e
    | some c =>
      have s := I.get q
      rw [q] at e
      cases c with
      | un => cases e
      | d d' =>
        cases e
        obtain ⟨w, e1, r⟩ := s
        rw [h] at e1
        cases e1
        exact r.top
      | own ds =>
        cases e
        obtain ⟨a, e1, _, _, vs, h2, h3, h4⟩ := s
        rw [h] at e1
        cases e1
        exact ⟨a, vs, rfl, h2, h3, h4⟩
      | dK _ => cases e
      | dT _ => cases e
/-- a result that is kept while something else is evaluated -/
def hold : R → En → (R → En → Prop) → Prop
  | .own ds, e, Q => Q (.d (.lst ds)) e
  | .d d, e, Q => Q (.d d) e
  | .nam i, e, Q => Q (.nam i) e
  | _, _, _ => False
def HeldR (Γ : Gm) (κ : Ka) (H : Hp) (σ : Sl) (v : V) : R → Prop
  | .d d => Rep Γ.K Γ.cls κ H v d
  | .nam i => σ[i]? = some (some v)
  | _ => False
theorem HeldR.ext {r : R} (e : Ext κ H κ' H') (h : HeldR Γ κ H σ v r) : HeldR Γ κ' H' σ v r := by
  cases r with
  | d d => exact Rep.mono e h
  | nam i => exact h
  | _ => exact h.elim
theorem HeldR.rel {r : R} (h : HeldR Γ κ H σ v r) : RelR Γ κ H env σ v r := by
  cases r with
  | d d => exact h
  | nam i => exact h
  | _ => exact h.elim
/-- the sort of one address more -/
def put (κ : Ka) (a : Addr) (k : Kd) : Ka := fun b => if b = a then some k else κ b
theorem put_same {κ : Ka} {a : Addr} {k : Kd} : put κ a k a = some k := if_pos rfl
theorem put_ne {κ : Ka} {a b : Addr} {k : Kd} (h : b ≠ a) : put κ a k b = κ b := if_neg h
theorem Ext.put {a : Addr} {k : Kd} (h : κ a = none) : Ext κ H (put κ a k) H := by
  refine ⟨fun b x e => ?_, fun _ _ => rfl⟩
  rw [put_ne (fun z => by rw [z, h] at e; cases e)]
  exact e
theorem ObjR.ext {a : Addr} {so : SO} (e : Ext κ H κ' H') (ha : H' a = H a) (h : ObjR Γ κ H a so) : ObjR Γ κ' H' a so := by
  cases so with
  | lst ds => obtain ⟨vs, h1, h2, h3⟩ := h; exact ⟨vs, ha.trans h1, h2, h3.mono e⟩
  | dK ds => obtain ⟨vs, h1, h3⟩ := h; exact ⟨vs, ha.trans h1, h3.mono e⟩
  | dT ds => obtain ⟨vs, h1, h3⟩ := h; exact ⟨vs, ha.trans h1, h3.mono e⟩
  | ins c fs => obtain ⟨dx, vs, h1, h3⟩ := h; exact ⟨dx, vs, ha.trans h1, h3.mono e⟩
  | exc c ds => exact h
theorem Gh.put_frz0 {st : Sto} {a : Addr} (g : Gh Γ κ st H) (h : κ a = none) (h0 : Γ.H0 a = none ∨ ∃ vs, Γ.H0 a = some (.tup vs)) (ht : H a ≠ none) : Gh Γ (put κ a .frz) st H := by
  have nk : Γ.k0 a = none := by
    cases q : Γ.k0 a with
    | none => rfl
    | some x => have := g.sub a x q; rw [h] at this; cases this
  have ne : ∀ b x, κ b = some x → b ≠ a := fun b x e z => by rw [z, h] at e; cases e
  refine ⟨fun b x e => (Ext.put (H := H) h).1 b x (g.sub b x e), fun b x e => ?_, fun b x e => ?_, g.trk0, fun b e => ?_, fun b k e => ?_, fun b c k e1 e2 => ?_, g.base⟩
  · by_cases hb : b = a
    · subst hb; rw [put_same] at e; cases e; exact .inr (h0.imp id fun z => ⟨rfl, z⟩)
    · rw [put_ne hb] at e; exact g.new b x e
  · by_cases hb : b = a
    · subst hb; exact ht
    · rw [put_ne hb] at e; exact g.trk b x e
  · by_cases hb : b = a
    · subst hb; rw [put_same] at e; cases e
    · rw [put_ne hb] at e; exact g.box b e
  · by_cases hb : b = a
    · subst hb; rw [put_same] at e; cases e
    · rw [put_ne hb] at e
      obtain ⟨so, h1, h2⟩ := g.obj b k e
      exact ⟨so, h1, h2.ext (Ext.put h) rfl⟩
  · have hb : b ≠ a := fun z => by subst z; rw [put_same] at e1; cases e1
    have hc : c ≠ a := fun z => by subst z; rw [put_same] at e2; cases e2
    rw [put_ne hb] at e1
    rw [put_ne hc] at e2
    exact g.inj b c k e1 e2
theorem Gh.put_frz {st : Sto} {a : Addr} (g : Gh Γ κ st H) (h : κ a = none) (h0 : Γ.H0 a = none) (ht : H a ≠ none) : Gh Γ (put κ a .frz) st H := g.put_frz0 h (.inl h0) ht
theorem OwnC.ext {a : Addr} {c : C} (e : Ext κ H κ' H') (hk : κ' a = none) (ha : H' a = H a) (h : OwnC Γ κ H a c) : OwnC Γ κ' H' a c := by
  cases c with
  | own ds => obtain ⟨_, h0, vs, h1, h2, h3⟩ := h; exact ⟨hk, h0, vs, ha.trans h1, h2, h3.mono e⟩
  | dK ds => obtain ⟨_, h0, vs, h1, h3⟩ := h; exact ⟨hk, h0, vs, ha.trans h1, h3.mono e⟩
  | dT ds => obtain ⟨_, h0, vs, h1, h3⟩ := h; exact ⟨hk, h0, vs, ha.trans h1, h3.mono e⟩
  | _ => exact h.elim
theorem OwnC.facts {a : Addr} {c : C} (h : OwnC Γ κ H a c) : κ a = none ∧ Γ.H0 a = none ∧ H a ≠ none := by
  cases c with
  | own ds => obtain ⟨h, h0, vs, h1, _⟩ := h; exact ⟨h, h0, by rw [h1]; simp⟩
  | dK ds => obtain ⟨h, h0, vs, h1, _⟩ := h; exact ⟨h, h0, by rw [h1]; simp⟩
  | dT ds => obtain ⟨h, h0, vs, h1, _⟩ := h; exact ⟨h, h0, by rw [h1]; simp⟩
  | _ => exact h.elim
theorem RelS.own {o : Option (Option V)} {c : C} (h : RelS Γ κ H o c) (hc : c.isOwn = true) : ∃ a, o = some (some (.ref a)) ∧ OwnC Γ κ H a c := by
  cases c with
  | un => cases hc
  | d _ => cases hc
  | _ => exact h
theorem RelS.mk {o : Option (Option V)} {a : Addr} {c : C} (e : o = some (some (.ref a))) (h : OwnC Γ κ H a c) : RelS Γ κ H o c := by
  cases c with
  | un => exact h.elim
  | d _ => exact h.elim
  | _ => exact ⟨a, e, h⟩
theorem Rl.ownS {i : Nat} {a : Addr} (I : Rl Γ κ env σ H) (h : OwnS env σ i a) : ∃ c, env.sl[i]? = some c ∧ OwnC Γ κ H a c := by
  obtain ⟨e, c, e1, hc⟩ := h
  obtain ⟨b, e2, ho⟩ := (I.get e1).own hc
  rw [e] at e2
  cases e2
  exact ⟨c, e1, ho⟩
/-- THE STEP: the slots as they are -/
theorem OwnC.notTup {a : Addr} {c : C} {vs : List V} (h : OwnC Γ κ H a c) (e : H a = some (.tup vs)) : False := by
  cases c with
  | own ds => obtain ⟨_, _, ws, h1, _⟩ := h; rw [e] at h1; cases h1
  | dK ds => obtain ⟨_, _, ws, h1, _⟩ := h; rw [e] at h1; cases h1
  | dT ds => obtain ⟨_, _, ws, h1, _⟩ := h; rw [e] at h1; cases h1
  | _ => exact h.elim
theorem Rl.step {st' : Sto} (I : Rl Γ κ env σ H) (e : Ext κ H κ' H') (ho : ∀ i a, OwnS env σ i a → κ' a = none ∧ H' a = H a) (g : Gh Γ κ' st' H') : Rl Γ κ' ⟨env.sl, st'⟩ σ H' := by
  refine ⟨I.len, fun i c ec => ?_, fun i j a h1 h2 => I.dist i j a h1 h2, g⟩
  have s := I.get ec
  cases hc : c.isOwn with
  | true =>
    obtain ⟨a, e1, h⟩ := s.own hc
    obtain ⟨k1, k2⟩ := ho i a ⟨e1, c, ec, hc⟩
    exact .mk e1 (h.ext e k1 k2)
  | false =>
    cases c with
    | un => trivial
    | d d => obtain ⟨v, e1, r⟩ := s; exact ⟨v, e1, r.mono e⟩
    | _ => cases hc
/-- a fresh list becomes data -/
theorem Rl.put_frz {a : Addr} (I : Rl Γ κ env σ H) (h : κ a = none) (h0 : Γ.H0 a = none) (ht : H a ≠ none) (hs : ∀ i, ¬ OwnS env σ i a) : Rl Γ (put κ a .frz) env σ H :=
  I.step (Ext.put h) (fun i b hb => ⟨by rw [put_ne (fun z => hs i (by rw [← z]; exact hb))]; exact (I.ownS hb).elim fun c hc => hc.2.facts.1, rfl⟩) (I.gh.put_frz h h0 ht)
theorem hold_ok {r : R} {Q : R → En → Prop} {P : Prop} (I : Rl Γ κ env σ H) (h : RelR Γ κ H env σ v r) (q : hold r env Q)
    (k : ∀ κ' r', Ext κ H κ' H → Rl Γ κ' env σ H → HeldR Γ κ' H σ v r' → Q r' env → P) : P := by
  cases r with
  | d d => exact k κ (.d d) (.refl ..) I h q
  | nam i => exact k κ (.nam i) (.refl ..) I h q
  | own ds =>
    obtain ⟨a, rfl, ⟨h1, h2, vs, h3, h4, h5⟩, h6⟩ := h
    refine k (put κ a .frz) (.d (.lst ds)) (Ext.put h1) (I.put_frz h1 h2 (by rw [h3]; simp) h6) ?_ q
    exact .lst put_same h3 h4 (h5.mono (Ext.put h1))
  | dK _ => exact False.elim q
  | dT _ => exact False.elim q
/-- as data: a list of one's own is one's own no more -/
def En.setC (e : En) (i : Nat) (c : C) : En := ⟨e.sl.set i c, e.st⟩
def fz : R → En → (D → En → Prop) → Prop
  | .d d, e, Q => Q d e
  | .own ds, e, Q => Q (.lst ds) e
  | .dK kvs, e, Q => Q (.dck (kvs.map (·.1)) (kvs.map (·.2))) e
  | .dT kvs, e, Q => Q (.dct (kvs.map (·.1)) (kvs.map (·.2))) e
  | .nam i, e, Q => match e.sl[i]? with
    | some (.d d) => Q d e
    | some (.own ds) => Q (.lst ds) (e.setC i (.d (.lst ds)))
    | some (.dK kvs) => Q (.dck (kvs.map (·.1)) (kvs.map (·.2))) (e.setC i (.d (.dck (kvs.map (·.1)) (kvs.map (·.2)))))
    | some (.dT kvs) => Q (.dct (kvs.map (·.1)) (kvs.map (·.2))) (e.setC i (.d (.dct (kvs.map (·.1)) (kvs.map (·.2)))))
    | _ => False
/-- what stands at a slot becomes data -/
theorem frz_slot {i : Nat} {a : Addr} {c : C} {d : D} (I : Rl Γ κ env σ H) (h : σ[i]? = some (some (.ref a))) (qe : env.sl[i]? = some c) (hc : c.isOwn = true) (h1 : κ a = none) (h2 : Γ.H0 a = none) (ht : H a ≠ none) (rep : Rep Γ.K Γ.cls (put κ a .frz) H (.ref a) d) : Rl Γ (put κ a .frz) (env.setC i (.d d)) σ H := by
  have x : Ext κ H (put κ a .frz) H := Ext.put h1
  have own_i : OwnS env σ i a := ⟨h, _, qe, hc⟩
  have hi : i < env.sl.length := (List.getElem?_eq_some_iff.mp qe).1
  refine ⟨by rw [I.len]; simp [En.setC], fun j c ec => ?_, fun j l b o1 o2 => ?_, I.gh.put_frz h1 h2 ht⟩
  · by_cases hj : j = i
    · subst hj
      have ec : (env.sl.set j (C.d d))[j]? = some c := ec
      rw [List.getElem?_set_self hi] at ec
      cases ec
      exact ⟨_, h, rep⟩
    · have ec : (env.sl.set i (C.d d))[j]? = some c := ec
      rw [List.getElem?_set_ne (Ne.symm hj)] at ec
      have s := I.get ec
      cases hc : c.isOwn with
      | true =>
        obtain ⟨b, e1, hb⟩ := s.own hc
        have hba : b ≠ a := fun z => hj (I.dist j i a ⟨z ▸ e1, c, ec, hc⟩ own_i)
        exact .mk e1 (hb.ext x (by rw [put_ne hba]; exact hb.facts.1) rfl)
      | false =>
        cases c with
        | un => trivial
        | d d => obtain ⟨v, e1, r⟩ := s; exact ⟨v, e1, r.mono x⟩
        | _ => cases hc
  · have old : ∀ m, OwnS (env.setC i (.d d)) σ m b → OwnS env σ m b := fun m ⟨z1, c, z2, z3⟩ => by
      by_cases hm : m = i
      · subst hm
        have z2 : (env.sl.set m (C.d d))[m]? = some c := z2
        rw [List.getElem?_set_self hi] at z2
        cases z2
        cases z3
      · have z2 : (env.sl.set i (C.d d))[m]? = some c := z2
        rw [List.getElem?_set_ne (Ne.symm hm)] at z2
        exact ⟨z1, c, z2, z3⟩
    exact I.dist j l b (old j o1) (old l o2)
theorem dct_rep {a : Addr} {vs : List (List Key × V)} {kvs : List (List Key × D)} (h1 : κ a = none) (h3 : H a = some (.dT vs)) (h5 : PR Γ.K Γ.cls κ H vs kvs) : Rep Γ.K Γ.cls (put κ a .frz) H (.ref a) (.dct (kvs.map (·.1)) (kvs.map (·.2))) := by
  obtain ⟨e1, e2, e3⟩ := h5.split
  exact .dct put_same (by rw [← e1]; exact h3) e2 (e3.mono (Ext.put h1))
theorem dck_rep {a : Addr} {vs : List (Key × V)} {kvs : List (Key × D)} (h1 : κ a = none) (h3 : H a = some (.dK vs)) (h5 : PR Γ.K Γ.cls κ H vs kvs) : Rep Γ.K Γ.cls (put κ a .frz) H (.ref a) (.dck (kvs.map (·.1)) (kvs.map (·.2))) := by
  obtain ⟨e1, e2, e3⟩ := h5.split
  exact .dck put_same (by rw [← e1]; exact h3) e2 (e3.mono (Ext.put h1))
theorem fz_ok {r : R} {Q : D → En → Prop} {P : Prop} (I : Rl Γ κ env σ H) (h : RelR Γ κ H env σ v r) (q : fz r env Q)
    (k : ∀ κ' d env', Ext κ H κ' H → Rl Γ κ' env' σ H → Rep Γ.K Γ.cls κ' H v d → Q d env' → P) : P := by
  cases r with
  | d d => exact k κ _ _ (.refl ..) I h q
  | own ds =>
    obtain ⟨a, rfl, ⟨h1, h2, vs, h3, h4, h5⟩, h6⟩ := h
    refine k (put κ a .frz) (.lst ds) env (Ext.put h1) (I.put_frz h1 h2 (by rw [h3]; simp) h6) ?_ q
    exact .lst put_same h3 h4 (h5.mono (Ext.put h1))
  | dK ds =>
    obtain ⟨a, rfl, ⟨h1, h2, vs, h3, h5⟩, h6⟩ := h
    exact k (put κ a .frz) _ env (Ext.put h1) (I.put_frz h1 h2 (by rw [h3]; simp) h6) (dck_rep h1 h3 h5) q
  | dT ds =>
    obtain ⟨a, rfl, ⟨h1, h2, vs, h3, h5⟩, h6⟩ := h
    exact k (put κ a .frz) _ env (Ext.put h1) (I.put_frz h1 h2 (by rw [h3]; simp) h6) (dct_rep h1 h3 h5) q
  | nam i =>
    have h : σ[i]? = some (some v) := h
    unfold fz at q
    simp only at q
    cases qe : env.sl[i]? with
    | none => rw [qe] at q; exact False.elim q
    | some c =>
      have s := I.get qe
      rw [qe] at q
      cases c with
      | un => exact False.elim q
      | dK kvs =>
        obtain ⟨a, e1, h1, h2, vs, h3, h5⟩ := s
        rw [h] at e1
        cases e1
        have rep := dck_rep h1 h3 h5
        exact k (put κ a .frz) _ _ (Ext.put h1) (frz_slot I h qe rfl h1 h2 (by rw [h3]; simp) rep) rep q
      | dT kvs =>
        obtain ⟨a, e1, h1, h2, vs, h3, h5⟩ := s
        rw [h] at e1
        cases e1
        have rep := dct_rep h1 h3 h5
        exact k (put κ a .frz) _ _ (Ext.put h1) (frz_slot I h qe rfl h1 h2 (by rw [h3]; simp) rep) rep q
      | d d' =>
        obtain ⟨w, e1, r⟩ := s
        rw [h] at e1
        cases e1
        exact k κ _ _ (.refl ..) I r q
      | own ds =>
        obtain ⟨a, e1, h1, h2, vs, h3, h4, h5⟩ := s
        rw [h] at e1
        cases e1
        have rep : Rep Γ.K Γ.cls (put κ a .frz) H (.ref a) (.lst ds) := .lst put_same h3 h4 (h5.mono (Ext.put h1))
        exact k (put κ a .frz) _ _ (Ext.put h1) (frz_slot I h qe rfl h1 h2 (by rw [h3]; simp) rep) rep q
end
end Pu
set_option maxRecDepth 100000
set_option maxHeartbeats 4000000
namespace Pu
open PySem L2
section
variable {Γ : Gm} {κ κ' : Ka} {H H' : Hp} {env env' : En} {σ : Sl} {v : V} {st : Sto}
theorem Gh.nokap {a : Addr} (g : Gh Γ κ st H) (h : H a = none) : κ a = none := by
  cases q : κ a with
  | none => rfl
  | some x => exact absurd h (g.trk a x q)
theorem Gh.nokap0 {a : Addr} (g : Gh Γ κ st H) (h : H a = none) : Γ.H0 a = none := by
  cases q : Γ.H0 a with
  | none => rfl
  | some x => exact absurd h (g.trk0 a (by rw [q]; simp))
theorem Ext.upd_new {p : Addr} {o : HO} (g : Gh Γ κ st H) (h : H p = none) : Ext κ H κ (upd H p o) :=
  ⟨fun _ _ e => e, fun a e => upd_ne fun z => by rw [z] at e; rw [g.nokap h] at e; cases e⟩
/-- an unsorted address is laid or changed -/
theorem Ext.upd {p : Addr} {o : HO} (h : κ p = none) : Ext κ H κ (upd H p o) :=
  ⟨fun _ _ e => e, fun a e => upd_ne fun z => by rw [z, h] at e; cases e⟩
theorem Gh.upd {p : Addr} {o : HO} (g : Gh Γ κ st H) (h : κ p = none) (h0 : Γ.H0 p = none) : Gh Γ κ st (upd H p o) := by
  have ne : ∀ b x, κ b = some x → b ≠ p := fun b x e z => by rw [z, h] at e; cases e
  refine ⟨g.sub, g.new, fun b x e => ?_, fun b e => ?_, fun b e => ?_, fun b k e => ?_, g.inj, fun b u e hk => ?_⟩
  · rw [upd_ne (ne b x e)]; exact g.trk b x e
  · by_cases hb : b = p
    · rw [hb, upd_same]; simp
    · rw [upd_ne hb]; exact g.trk0 b e
  · rw [upd_ne (ne b _ e)]; exact g.box b e
  · obtain ⟨so, h1, h2⟩ := g.obj b k e
    exact ⟨so, h1, h2.ext (Ext.upd h) (upd_ne (ne b _ e))⟩
  · rw [upd_ne (fun z => by rw [z, h0] at e; cases e)]; exact g.base b u e hk
theorem Rl.upd_new {p : Addr} {o : HO} (I : Rl Γ κ env σ H) (h : H p = none) : Rl Γ κ env σ (upd H p o) :=
  I.step (Ext.upd_new I.gh h) (fun i a ho => by
    obtain ⟨c, _, hc⟩ := I.ownS ho
    obtain ⟨f1, f2, f3⟩ := hc.facts
    exact ⟨f1, upd_ne fun z => f3 (z ▸ h)⟩) (I.gh.upd (I.gh.nokap h) (I.gh.nokap0 h))
theorem Rl.fresh {p : Addr} (I : Rl Γ κ env σ H) (h : H p = none) : ∀ i, ¬ OwnS env σ i p := fun i ho => by
  obtain ⟨c, _, hc⟩ := I.ownS ho
  exact hc.facts.2.2 h
theorem new_lst {p : Addr} {vs : List V} {ds : List D} (I : Rl Γ κ env σ H) (h : H p = none) (hl : vs.length ≤ sizeLine) (r : RepL Γ.K Γ.cls κ H vs ds) :
    RelR Γ κ (upd H p (.lst vs)) env σ (.ref p) (.own ds) :=
  ⟨p, rfl, ⟨I.gh.nokap h, I.gh.nokap0 h, vs, upd_same, hl, r.mono (Ext.upd_new I.gh h)⟩, I.fresh h⟩
theorem new_dK {p : Addr} {vs : List (Key × V)} {ds : List (Key × D)} (I : Rl Γ κ env σ H) (h : H p = none) (r : PR Γ.K Γ.cls κ H vs ds) :
    RelR Γ κ (upd H p (.dK vs)) env σ (.ref p) (.dK ds) :=
  ⟨p, rfl, ⟨I.gh.nokap h, I.gh.nokap0 h, vs, upd_same, r.mono (Ext.upd_new I.gh h)⟩, I.fresh h⟩
/-- a new tuple is data at once -/
theorem new_tup {p : Addr} {vs : List V} {ds : List D} (ho : ordL ds = false) (I : Rl Γ κ env σ H) (h : H p = none) (hl : vs.length ≤ sizeLine) (r : RepL Γ.K Γ.cls κ H vs ds) :
    Ext κ H (put κ p .frz) (upd H p (.tup vs)) ∧ Rl Γ (put κ p .frz) env σ (upd H p (.tup vs)) ∧ Rep Γ.K Γ.cls (put κ p .frz) (upd H p (.tup vs)) (.ref p) (.tup ds) := by
  have J := I.upd_new (o := .tup vs) h
  have k := I.gh.nokap h
  have e : Ext κ H (put κ p .frz) (upd H p (.tup vs)) := (Ext.upd_new I.gh h).trans (Ext.put k)
  exact ⟨e, J.put_frz k (I.gh.nokap0 h) (by rw [upd_same]; simp) (I.fresh h), .tup ho put_same upd_same hl (r.mono e)⟩
theorem new_tupF {p : Addr} {vs : List V} {ds : List D} {ob : Obj} (ho : ordL ds = true) (h5 : ob.dict = none) (h6 : ob.cls = .type "tuple") (I : Rl Γ κ env σ H) (h : H p = none) (hl : vs.length ≤ sizeLine) (r : RepL Γ.K Γ.cls κ H vs ds) :
    Ext κ H (put κ p .frz) (upd H p (.frz ob (.tup vs))) ∧ Rl Γ (put κ p .frz) env σ (upd H p (.frz ob (.tup vs))) ∧ Rep Γ.K Γ.cls (put κ p .frz) (upd H p (.frz ob (.tup vs))) (.ref p) (.tup ds) := by
  have J := I.upd_new (o := .frz ob (.tup vs)) h
  have k := I.gh.nokap h
  have e : Ext κ H (put κ p .frz) (upd H p (.frz ob (.tup vs))) := (Ext.upd_new I.gh h).trans (Ext.put k)
  exact ⟨e, J.put_frz k (I.gh.nokap0 h) (by rw [upd_same]; simp) (I.fresh h), .tupF ho h5 h6 put_same upd_same hl (r.mono e)⟩
/-- either way -/
theorem new_tupB {vs : List V} {ds : List D} {Q' : VK} (I : Rl Γ κ env σ H) (hl : vs.length ≤ sizeLine) (r : RepL Γ.K Γ.cls κ H vs ds)
    (k : ∀ κ' H' p, Ext κ H κ' H' → Rl Γ κ' env σ H' → Rep Γ.K Γ.cls κ' H' (.ref p) (.tup ds) → Q' (.ref p) H') : PuE.nT H vs Q' := by
  cases ho : ordL ds with
  | false =>
    refine .inl fun p hp => ?_
    obtain ⟨x1, I1, r1⟩ := new_tup ho I hp hl r
    exact k _ _ _ x1 I1 r1
  | true =>
    refine .inr fun p ob hp h5 h6 => ?_
    obtain ⟨x1, I1, r1⟩ := new_tupF ho h5 h6 I hp hl r
    exact k _ _ _ x1 I1 r1
/-- a rule by values carries a pure one -/
def OpRef (r : PySem.W.Frag → R2) (p : D → D → (R → Prop) → Prop) : Prop :=
  ∀ (Γ : Gm) (σ : Sl) (κ : Ka) (H : Hp) (env : En) (v u : V) (d e : D) (Q : R → Prop) (Q' : VK), Rl Γ κ env σ H → RepT Γ κ H v d → RepT Γ κ H u e → p d e Q →
    (∀ v' κ' H' r, Ext κ H κ' H' → Rl Γ κ' env σ H' → RelR Γ κ' H' env σ v' r → Q r → Q' v' H') → r Γ.K v u H Q'
def t2 (ta tb : PTE) (p : D → D → (R → Prop) → Prop) : PTE := fun x env Q => ta x env fun r1 e1 => hold r1 e1 fun r1 e1 => tb x e1 fun r2 e2 =>
  match rv r1 e2, rv r2 e2 with
  | some d1, some d2 => p d1 d2 (fun r => Q r e2)
  | _, _ => False
def t1 (ta : PTE) (p : D → (R → Prop) → Prop) : PTE := fun x env Q => ta x env fun r1 e1 =>
  match rv r1 e1 with
  | some d1 => p d1 (fun r => Q r e1)
  | _ => False
variable {Y : Fam} {a b : Expr} {ta tb : PTE} {pos : Pos}
/-- two expressions in a row, both read -/
theorem two_ref {ra rb : XK → TE} {p : D → D → (R → Prop) → Prop} {r : PySem.W.Frag → R2} (hr : OpRef r p)
    (fa : ∀ (Γ : Gm) (σ : Sl) (κ : Ka) (H : Hp) (env : En) (Q : R → En → Prop) (Q' : VK), GK Y Γ → Rl Γ κ env σ H → ta Γ.x env Q →
    (∀ v κ' H' r env', Ext κ H κ' H' → Rl Γ κ' env' σ H' → RelR Γ κ' H' env' σ v r → Q r env' → Q' v H') → ra Γ.E σ H Q')
    (fb : ∀ (Γ : Gm) (σ : Sl) (κ : Ka) (H : Hp) (env : En) (Q : R → En → Prop) (Q' : VK), GK Y Γ → Rl Γ κ env σ H → tb Γ.x env Q →
    (∀ v κ' H' r env', Ext κ H κ' H' → Rl Γ κ' env' σ H' → RelR Γ κ' H' env' σ v r → Q r env' → Q' v H') → rb Γ.E σ H Q')
    {Q : R → En → Prop} {Q' : VK} (hK : GK Y Γ) (I : Rl Γ κ env σ H) (q : t2 ta tb p Γ.x env Q)
    (k : ∀ v κ' H' r env', Ext κ H κ' H' → Rl Γ κ' env' σ H' → RelR Γ κ' H' env' σ v r → Q r env' → Q' v H') :
    ra Γ.E σ H fun x H1 => rb Γ.E σ H1 fun y H2 => r Y.K x y H2 Q' := by
  refine fa Γ σ κ H env _ _ hK I q fun v κ1 H1 r1 e1 x1 I1 h1 q1 => ?_
  refine hold_ok I1 h1 q1 fun κ2 r2 x2 I2 h2 q2 => ?_
  refine fb Γ σ κ2 H1 e1 _ _ hK I2 q2 fun u κ3 H3 r3 e3 x3 I3 h3 q3 => ?_
  have h2' : RelR Γ κ3 H3 e3 σ v r2 := (h2.ext x3).rel
  cases e1' : rv r2 e3 with
  | none => rw [e1'] at q3; exact False.elim q3
  | some d1 =>
    cases e2' : rv r3 e3 with
    | none => rw [e1', e2'] at q3; exact False.elim q3
    | some d2 =>
      rw [e1', e2'] at q3
      rw [← hK.k]
      exact hr Γ σ κ3 H3 e3 v u d1 d2 _ Q' I3 (rv_ok I3 h2' e1') (rv_ok I3 h3 e2') q3 fun v' κ' H' r x I' h' q' => k v' κ' H' r e3 (((x1.trans x2).trans x3).trans x) I' h' q'
theorem ve_op {op : Operator} {r : PySem.W.Frag → R2} {p : D → D → (R → Prop) → Prop} (ho : ∀ X : Cx, OpR X (binaryOp op) (r X.K)) (hr : OpRef r p) (ha : VE Y a ta) (hb : VE Y b tb) : VE Y (.BinOp a op b pos) (t2 ta tb p) := by
  obtain ⟨ra, pa, fa⟩ := ha.ex
  obtain ⟨rb, pb, fb⟩ := hb.ex
  refine ⟨⟨fun E => tOp (r Y.K) (ra E) (rb E), fun i => pe_op (by have := ho (Y.X i); rw [Y.hK i] at this; exact this) (pa i) (pb i), fun Γ σ κ H env Q Q' hK I q k => ?_⟩⟩
  exact two_ref hr fa fb hK I q k
theorem ve_cmp {op : CmpOp} {r : PySem.W.Frag → R2} {p : D → D → (R → Prop) → Prop} (ho : ∀ i, OpR (Y.X i) (compareOp op) (r (Y.X i).K)) (hr : OpRef r p) (ha : VE Y a ta) (hb : VE Y b tb) (hm : behindInMarks op b = false) : VE Y (.Compare a [op] [b] pos) (t2 ta tb p) := by
  obtain ⟨ra, pa, fa⟩ := ha.ex
  obtain ⟨rb, pb, fb⟩ := hb.ex
  refine ⟨⟨fun E => tOp (r Y.K) (ra E) (rb E), fun i => pe_cmpR (by have := ho i; rw [Y.hK i] at this; exact this) (pa i) (pb i) hm, fun Γ σ κ H env Q Q' hK I q k => ?_⟩⟩
  exact two_ref hr fa fb hK I q k
/-- a bool as a test -/
def tB (t : PTE) : PTT := fun x env Q => t x env fun r e => match rv r e with
  | some (.bl b) => Q b e
  | _ => False
theorem vt_val {e : Expr} {t : PTE} (h : VE Y e t) (he : ∀ (X : Cx) whole, isTrue e X.env whole = (do let v ← whole; standAt e.pos; holding [v] (truthy v)) := by intro _ _; rfl) : VT Y e (tB t) := by
  obtain ⟨ra, pa, fa⟩ := h.ex
  refine ⟨⟨fun E => L2.tB (ra E), fun i => pt_val (pa i) (he _), fun Γ σ κ H env Q Q' hK I q k => ?_⟩⟩
  refine fa Γ σ κ H env _ _ hK I q fun v κ1 H1 r1 e1 x1 I1 h1 q1 => ?_
  cases e1' : rv r1 e1 with
  | none => rw [e1'] at q1; exact False.elim q1
  | some d =>
    rw [e1'] at q1
    have rt := rv_ok I1 h1 e1'
    cases d with
    | bl b => cases rt; exact ⟨b, rfl, k b κ1 H1 e1 x1 I1 q1⟩
    | _ => exact False.elim q1
theorem vt_cmp {op : CmpOp} {r : PySem.W.Frag → R2} {p : D → D → (R → Prop) → Prop} (ho : ∀ i, OpR (Y.X i) (compareOp op) (r (Y.X i).K)) (hr : OpRef r p) (ha : VE Y a ta) (hb : VE Y b tb) (hm : behindInMarks op b = false) : VT Y (.Compare a [op] [b] pos) (tB (t2 ta tb p)) := by
  obtain ⟨ra, pa, fa⟩ := ha.ex
  obtain ⟨rb, pb, fb⟩ := hb.ex
  refine ⟨⟨fun E => tTest (tOp (r Y.K) (ra E) (rb E)), fun i => pt_cmpR (by have := ho i; rw [Y.hK i] at this; exact this) (pa i) (pb i) hm, fun Γ σ κ H env Q Q' hK I q k => ?_⟩⟩
  refine two_ref hr fa fb hK I q fun v κ1 H1 r1 e1 x1 I1 h1 q1 => ?_
  cases e1' : rv r1 e1 with
  | none => rw [e1'] at q1; exact False.elim q1
  | some d =>
    rw [e1'] at q1
    have rt := rv_ok I1 h1 e1'
    cases d with
    | bl b => cases rt; exact ⟨b, rfl, k b κ1 H1 e1 x1 I1 q1⟩
    | _ => exact False.elim q1
def tName (i : Nat) : PTE := fun _ env Q => match env.sl[i]? with
  | some (.d d) => Q (.d d) env
  | some .un => False
  | none => False
  | some _ => Q (.nam i) env
theorem ve_name (i : Nat) {x : Str} (hN : ∀ j, (Y.X j).N[i]? = some x := by intro _; rfl) (hv : ∀ j, Vis (Y.X j).env.scope x := by first | exact fun _ => Or.inl rfl | exact fun _ => Or.inr (Or.inl rfl) | exact fun _ => Or.inr (Or.inr rfl))
    (hd : (x == ("__debug__" : Str)) = false := by decide) (hcd : (x == ("__classdict__" : Str)) = false := by decide) : VE Y (.Name x pos) (tName i) := by
  refine ⟨⟨fun _ => tVar i, fun j => pe_var (hN j) (hv j) hd hcd, fun Γ σ κ H env Q Q' hK I q k => ?_⟩⟩
  unfold tName at q
  cases e : env.sl[i]? with
  | none => rw [e] at q; exact False.elim q
  | some c =>
    have s := I.get e
    rw [e] at q
    cases c with
    | un => exact False.elim q
    | d d => obtain ⟨v, e1, r⟩ := s; exact ⟨v, e1, k v κ H (.d d) env (.refl ..) I r q⟩
    | own ds => obtain ⟨a, e1, r⟩ := s; exact ⟨.ref a, e1, k _ κ H (.nam i) env (.refl ..) I e1 q⟩
    | dK ds => obtain ⟨a, e1, r⟩ := s; exact ⟨.ref a, e1, k _ κ H (.nam i) env (.refl ..) I e1 q⟩
    | dT ds => obtain ⟨a, e1, r⟩ := s; exact ⟨.ref a, e1, k _ κ H (.nam i) env (.refl ..) I e1 q⟩
def tD (d : D) : PTE := fun _ env Q => Q (.d d) env
theorem ve_int {i j} : VE Y (.Constant (.int i) j pos) (tD (.int i)) := ⟨⟨fun _ => tC (.int i), fun _ => pe_int, fun Γ σ κ H env Q Q' hK I q k => k _ κ H (.d (.int i)) env (.refl ..) I (.int i) q⟩⟩
theorem ve_bl {i j} : VE Y (.Constant (.bool i) j pos) (tD (.bl i)) := ⟨⟨fun _ => tC (.bl i), fun _ => pe_bl, fun Γ σ κ H env Q Q' hK I q k => k _ κ H (.d (.bl i)) env (.refl ..) I (.bl i) q⟩⟩
theorem ve_str (l : List Nat) {x : Str} {j} (hx : x = ⟨l.toArray⟩ := by decide +kernel) (hl : SOk l := by decide +kernel) : VE Y (.Constant (.str x) j pos) (tD (.str l)) := by
  subst hx
  exact ⟨⟨fun _ => tC (.str ⟨l.toArray⟩), fun _ => pe_str, fun Γ σ κ H env Q Q' hK I q k => k _ κ H (.d (.str l)) env (.refl ..) I (.str l hl) q⟩⟩
/-- a text that the top has bound -/
theorem ve_globS (l : List Nat) {x y : Str} {t : Tok} (hm : ∀ i, (Y.X i).mg x = some (.str y t)) (hg : ∀ i, Gl (Y.X i) x := by intro _; rfl) (hy : y = ⟨l.toArray⟩ := by decide +kernel) (hl : SOk l := by decide +kernel) (hd : (x == ("__debug__" : Str)) = false := by decide) :
    VE Y (.Name x pos) (tD (.str l)) := by
  subst hy
  exact ⟨⟨fun _ => tC (.str ⟨l.toArray⟩), fun i => pe_glob (hg i) (hm i) ⟨_, rfl⟩ hd, fun Γ σ κ H env Q Q' hK I q k => k _ κ H (.d (.str l)) env (.refl ..) I (.str l hl) q⟩⟩
def pAdd (d e : D) (Q : R → Prop) : Prop := match d, e with
  | .int i, .int j => Q (.d (.int (i + j)))
  | .str s, .str t => s.length + t.length ≤ sizeLine ∧ Q (.d (.str (s ++ t)))
  | .lst xs, .lst ys => xs.length + ys.length ≤ sizeLine ∧ Q (.own (xs ++ ys))
  | .tup xs, .tup ys => xs.length + ys.length ≤ sizeLine ∧ Q (.d (.tup (xs ++ ys)))
  | _, _ => False
def rStrAdd : R2 := fun x y H Q => ∃ i j, x = .str i ∧ y = .str j ∧ i.length + j.length ≤ sizeLine ∧ Q (.str (i ++ j)) H
def rAddAll (K : PySem.W.Frag) : R2 := fun x y H Q => rI0 (fun i j => .int (i + j)) x y H Q ∨ rStrAdd x y H Q ∨ rCat x y H Q ∨ PuE.rCatTB K x y H Q
theorem op_addAll (X : Cx) : OpR X (binaryOp .Add) (rAddAll X.K) := OpR.or op_add (OpR.or op_add_str (OpR.or op_cat PuE.op_catB))
theorem str_add (s t : List Nat) : ((⟨s.toArray⟩ : Str) ++ (⟨t.toArray⟩ : Str)) = ⟨(s ++ t).toArray⟩ := by
  show Str.append _ _ = _
  unfold Str.append
  simp
theorem str_len (s : List Nat) : (⟨s.toArray⟩ : Str).length = s.length := by
  unfold Str.length
  simp
theorem Rep.strE {K : PySem.W.Frag} {cl : Cl} {s : List Nat} (h : Rep K cl κ H v (.str s)) : v = .str ⟨s.toArray⟩ ∧ SOk s := by cases h with | str _ h => exact ⟨rfl, h⟩
theorem Rep.sqT {K : PySem.W.Frag} {cl : Cl} {ds : List D} (h : Rep K cl κ H v (.tup ds)) : ∃ a vs, v = .ref a ∧ SqT K H a vs ∧ vs.length ≤ sizeLine ∧ RepL K cl κ H vs ds := by
  cases h with
  | tup _ _ h1 h2 h3 => exact ⟨_, _, rfl, SqT.of h1, h2, h3⟩
  | tupF _ _ _ _ h1 h2 h3 => exact ⟨_, _, rfl, .inl (.inr ⟨_, h1⟩), h2, h3⟩
theorem SOk.append {s t : List Nat} (h : SOk s) (g : SOk t) (q : s.length + t.length ≤ sizeLine) : SOk (s ++ t) :=
  ⟨by rw [List.length_append]; exact q, fun c hc => (List.mem_append.mp hc).elim (h.2 c) (g.2 c)⟩
theorem ref_add : OpRef rAddAll pAdd := by
  intro Γ σ κ H env v u d e Q Q' I hd he q k
  cases d with
  | int i =>
    cases e with
    | int j => cases hd; cases he; exact .inl ⟨i, j, rfl, rfl, k _ κ H (.d (.int (i + j))) (.refl ..) I (.int _) q⟩
    | _ => exact False.elim q
  | str s =>
    cases e with
    | str t =>
      obtain ⟨rfl, h1⟩ := hd.strE
      obtain ⟨rfl, h2⟩ := he.strE
      refine .inr (.inl ⟨_, _, rfl, rfl, by rw [str_len, str_len]; exact q.1, ?_⟩)
      rw [str_add]
      exact k _ κ H (.d (.str (s ++ t))) (.refl ..) I (.str _ (h1.append h2 q.1)) q.2
    | _ => exact False.elim q
  | lst xs =>
    cases e with
    | lst ys =>
      obtain ⟨a, vs, rfl, h1, h2, h3⟩ := hd
      obtain ⟨b, ws, rfl, g1, g2, g3⟩ := he
      refine .inr (.inr (.inl ⟨a, b, vs, ws, rfl, rfl, h1, g1, by rw [h3.length, g3.length]; exact q.1, fun p hp => ?_⟩))
      refine k _ κ _ (.own (xs ++ ys)) (Ext.upd_new I.gh hp) (I.upd_new hp) (new_lst I hp (by rw [List.length_append, h3.length, g3.length]; exact q.1) (h3.append g3)) q.2
    | _ => exact False.elim q
  | tup xs =>
    cases e with
    | tup ys =>
      obtain ⟨a, vs, rfl, h1, h2, h3⟩ := Rep.sqT hd
      obtain ⟨b, ws, rfl, g1, g2, g3⟩ := Rep.sqT he
      have hl : vs.length + ws.length ≤ sizeLine := by rw [h3.length, g3.length]; exact q.1
      refine .inr (.inr (.inr ⟨a, b, vs, ws, rfl, rfl, h1, g1, hl, fun z => ?_, fun _ z => ?_, fun _ _ => ?_⟩))
      · subst z
        have e : xs = [] := List.eq_nil_of_length_eq_zero (by rw [← h3.length]; rfl)
        subst e
        have q := q.2
        exact k _ κ H (.d (.tup ys)) (.refl ..) I he q
      · subst z
        have e : ys = [] := List.eq_nil_of_length_eq_zero (by rw [← g3.length]; rfl)
        subst e
        have q := q.2
        rw [List.append_nil] at q
        exact k _ κ H (.d (.tup xs)) (.refl ..) I hd q
      · exact new_tupB I (by rw [List.length_append]; exact hl) (h3.append g3) fun κ' H' p x1 I1 r1 => k _ _ _ (.d (.tup (xs ++ ys))) x1 I1 r1 q.2
    | _ => exact False.elim q
  | _ => exact False.elim q
theorem ve_add (ha : VE Y a ta) (hb : VE Y b tb) : VE Y (.BinOp a .Add b pos) (t2 ta tb pAdd) := ve_op op_addAll ref_add ha hb
/-- two ints -/
def pI (C : Int → Int → Prop) (f : Int → Int → D) (d e : D) (Q : R → Prop) : Prop := match d, e with
  | .int i, .int j => C i j ∧ Q (.d (f i j))
  | _, _ => False
theorem ref_I {C : Int → Int → Prop} {f : Int → Int → Int} : OpRef (fun _ => rI C fun i j => .int (f i j)) (pI C fun i j => .int (f i j)) := by
  intro Γ σ κ H env v u d e Q Q' I hd he q k
  cases d with
  | int i =>
    cases e with
    | int j => cases hd; cases he; exact ⟨i, j, rfl, rfl, q.1, k _ κ H (.d (.int (f i j))) (.refl ..) I (.int _) q.2⟩
    | _ => exact False.elim q
  | _ => exact False.elim q
theorem ref_I0 {f : Int → Int → Int} : OpRef (fun _ => rI0 fun i j => .int (f i j)) (pI (fun _ _ => True) fun i j => .int (f i j)) := by
  intro Γ σ κ H env v u d e Q Q' I hd he q k
  cases d with
  | int i =>
    cases e with
    | int j => cases hd; cases he; exact ⟨i, j, rfl, rfl, k _ κ H (.d (.int (f i j))) (.refl ..) I (.int _) q.2⟩
    | _ => exact False.elim q
  | _ => exact False.elim q
theorem ve_sub (ha : VE Y a ta) (hb : VE Y b tb) : VE Y (.BinOp a .Sub b pos) (t2 ta tb (pI (fun _ _ => True) fun i j => .int (i - j))) := ve_op (fun _ => op_sub) ref_I0 ha hb
theorem ve_mod (ha : VE Y a ta) (hb : VE Y b tb) : VE Y (.BinOp a .Mod b pos) (t2 ta tb (pI (fun _ j => 0 < j) fun i j => .int (i % j))) := ve_op (fun _ => op_mod) ref_I ha hb
theorem ve_fdiv (ha : VE Y a ta) (hb : VE Y b tb) : VE Y (.BinOp a .FloorDiv b pos) (t2 ta tb (pI CDivW fun i j => .int (i / j))) := ve_op (fun _ => op_fdivW) ref_I ha hb
theorem ve_pow (ha : VE Y a ta) (hb : VE Y b tb) : VE Y (.BinOp a .Pow b pos) (t2 ta tb (pI CPow fun i j => .int (i ^ j.toNat))) := ve_op (fun _ => op_pow) ref_I ha hb
end
end Pu
set_option maxRecDepth 100000
set_option maxHeartbeats 4000000
namespace Pu
open PySem L2
mutual
def D.py : D → PyData
  | .non => .none
  | .bl b => .bool b
  | .int i => .int i
  | .str s => .str ⟨s.toArray⟩
  | .lst ds => .list (D.pyL ds)
  | .tup ds => .tuple (D.pyL ds)
  | .scr _ => .none
  | .box => .none
  | .ref _ => .none
  | .cls _ => .none
  | .exc _ _ _ => .none
  | .dct _ _ => .none
  | .dck _ _ => .none
  | .dcn _ _ => .none
def D.pyL : List D → List PyData
  | [] => []
  | d :: ds => d.py :: D.pyL ds
end
mutual
/-- no object within, not too deep -/
def D.ok : D → Nat → Bool
  | .non, _ => true
  | .bl _, _ => true
  | .int _, _ => true
  | .str _, _ => true
  | .lst ds, n + 1 => D.okL ds n
  | .tup ds, n + 1 => D.okL ds n
  | .lst _, 0 => false
  | .tup _, 0 => false
  | .scr _, _ => false
  | .box, _ => false
  | .ref _, _ => false
  | .cls _, _ => false
  | .exc _ _ _, _ => false
  | .dct _ _, _ => false
  | .dck _ _, _ => false
  | .dcn _ _, _ => false
def D.okL : List D → Nat → Bool
  | [], _ => true
  | d :: ds, n => d.ok n && D.okL ds n
end
mutual
def D.eq : D → D → Bool
  | .non, .non => true
  | .bl a, .bl b => a == b
  | .bl a, .int j => (if a then 1 else 0) == j
  | .int i, .bl b => i == (if b then 1 else 0)
  | .int i, .int j => i == j
  | .str x, .str y => x == y
  | .lst xs, .lst ys => D.eqL xs ys
  | .tup xs, .tup ys => D.eqL xs ys
  | _, _ => false
def D.eqL : List D → List D → Bool
  | [], [] => true
  | x :: xs, y :: ys => D.eq x y && D.eqL xs ys
  | _, _ => false
end
theorem str_beq (x y : List Nat) : ((⟨x.toArray⟩ : Str) == (⟨y.toArray⟩ : Str)) = (x == y) := by
  by_cases h : x = y
  · subst h; simp
  · have h2 : ¬ (⟨x.toArray⟩ : Str) = ⟨y.toArray⟩ := fun z => h (by injection z with z; simpa using z)
    rw [beq_eq_false_iff_ne.mpr h, beq_eq_false_iff_ne.mpr h2]
mutual
theorem D.eqv_eq : ∀ (d e : D) (n m : Nat), d.ok n = true → e.ok m = true → PyData.eqv d.py e.py = D.eq d e
  | .lst xs, .lst ys, n + 1, m + 1, h, g => by
    simp only [D.py, PyData.eqv, D.eq]
    exact D.eqvL_eq xs ys n m (by simpa [D.ok] using h) (by simpa [D.ok] using g)
  | .tup xs, .tup ys, n + 1, m + 1, h, g => by
    simp only [D.py, PyData.eqv, D.eq]
    exact D.eqvL_eq xs ys n m (by simpa [D.ok] using h) (by simpa [D.ok] using g)
  | .str x, .str y, _, _, _, _ => by simp only [D.py, PyData.eqv, D.eq, str_beq]
  | .lst _, _, 0, _, h, _ => by simp [D.ok] at h
  | .tup _, _, 0, _, h, _ => by simp [D.ok] at h
  | _, .lst _, _, 0, _, h => by simp [D.ok] at h
  | _, .tup _, _, 0, _, h => by simp [D.ok] at h
  | .scr _, _, _, _, h, _ => by simp [D.ok] at h
  | .box, _, _, _, h, _ => by simp [D.ok] at h
  | .ref _, _, _, _, h, _ => by simp [D.ok] at h
  | .cls _, _, _, _, h, _ => by simp [D.ok] at h
  | .exc _ _ _, _, _, _, h, _ => by simp [D.ok] at h
  | .dct _ _, _, _, _, h, _ => by simp [D.ok] at h
  | .dck _ _, _, _, _, h, _ => by simp [D.ok] at h
  | .dcn _ _, _, _, _, h, _ => by simp [D.ok] at h
  | _, .scr _, _, _, _, h => by simp [D.ok] at h
  | _, .box, _, _, _, h => by simp [D.ok] at h
  | _, .ref _, _, _, _, h => by simp [D.ok] at h
  | _, .cls _, _, _, _, h => by simp [D.ok] at h
  | _, .exc _ _ _, _, _, _, h => by simp [D.ok] at h
  | _, .dct _ _, _, _, _, h => by simp [D.ok] at h
  | _, .dck _ _, _, _, _, h => by simp [D.ok] at h
  | _, .dcn _ _, _, _, _, h => by simp [D.ok] at h
  | .non, .non, _, _, _, _ => by simp only [D.py, PyData.eqv, D.eq]
  | .non, .bl _, _, _, _, _ => by simp only [D.py, PyData.eqv, D.eq]
  | .non, .int _, _, _, _, _ => by simp only [D.py, PyData.eqv, D.eq]
  | .non, .str _, _, _, _, _ => by simp only [D.py, PyData.eqv, D.eq]
  | .non, .lst _, _, _ + 1, _, _ => by simp only [D.py, PyData.eqv, D.eq]
  | .non, .tup _, _, _ + 1, _, _ => by simp only [D.py, PyData.eqv, D.eq]
  | .bl _, .non, _, _, _, _ => by simp only [D.py, PyData.eqv, D.eq]
  | .bl _, .bl _, _, _, _, _ => by simp only [D.py, PyData.eqv, D.eq]
  | .bl _, .int _, _, _, _, _ => by simp only [D.py, PyData.eqv, D.eq]
  | .bl _, .str _, _, _, _, _ => by simp only [D.py, PyData.eqv, D.eq]
  | .bl _, .lst _, _, _ + 1, _, _ => by simp only [D.py, PyData.eqv, D.eq]
  | .bl _, .tup _, _, _ + 1, _, _ => by simp only [D.py, PyData.eqv, D.eq]
  | .int _, .non, _, _, _, _ => by simp only [D.py, PyData.eqv, D.eq]
  | .int _, .bl _, _, _, _, _ => by simp only [D.py, PyData.eqv, D.eq]
  | .int _, .int _, _, _, _, _ => by simp only [D.py, PyData.eqv, D.eq]
  | .int _, .str _, _, _, _, _ => by simp only [D.py, PyData.eqv, D.eq]
  | .int _, .lst _, _, _ + 1, _, _ => by simp only [D.py, PyData.eqv, D.eq]
  | .int _, .tup _, _, _ + 1, _, _ => by simp only [D.py, PyData.eqv, D.eq]
  | .str _, .non, _, _, _, _ => by simp only [D.py, PyData.eqv, D.eq]
  | .str _, .bl _, _, _, _, _ => by simp only [D.py, PyData.eqv, D.eq]
  | .str _, .int _, _, _, _, _ => by simp only [D.py, PyData.eqv, D.eq]
  | .str _, .lst _, _, _ + 1, _, _ => by simp only [D.py, PyData.eqv, D.eq]
  | .str _, .tup _, _, _ + 1, _, _ => by simp only [D.py, PyData.eqv, D.eq]
  | .lst _, .non, _ + 1, _, _, _ => by simp only [D.py, PyData.eqv, D.eq]
  | .lst _, .bl _, _ + 1, _, _, _ => by simp only [D.py, PyData.eqv, D.eq]
  | .lst _, .int _, _ + 1, _, _, _ => by simp only [D.py, PyData.eqv, D.eq]
  | .lst _, .str _, _ + 1, _, _, _ => by simp only [D.py, PyData.eqv, D.eq]
  | .lst _, .tup _, _ + 1, _ + 1, _, _ => by simp only [D.py, PyData.eqv, D.eq]
  | .tup _, .non, _ + 1, _, _, _ => by simp only [D.py, PyData.eqv, D.eq]
  | .tup _, .bl _, _ + 1, _, _, _ => by simp only [D.py, PyData.eqv, D.eq]
  | .tup _, .int _, _ + 1, _, _, _ => by simp only [D.py, PyData.eqv, D.eq]
  | .tup _, .str _, _ + 1, _, _, _ => by simp only [D.py, PyData.eqv, D.eq]
  | .tup _, .lst _, _ + 1, _ + 1, _, _ => by simp only [D.py, PyData.eqv, D.eq]
theorem D.eqvL_eq : ∀ (xs ys : List D) (n m : Nat), D.okL xs n = true → D.okL ys m = true → PyData.eqvAll (D.pyL xs) (D.pyL ys) = D.eqL xs ys
  | [], [], _, _, _, _ => by simp only [D.pyL, PyData.eqvAll, D.eqL]
  | [], _ :: _, _, _, _, _ => by simp only [D.pyL, PyData.eqvAll, D.eqL]
  | _ :: _, [], _, _, _, _ => by simp only [D.pyL, PyData.eqvAll, D.eqL]
  | x :: xs, y :: ys, n, m, h, g => by
    simp only [D.okL, Bool.and_eq_true] at h g
    simp only [D.pyL, PyData.eqvAll, D.eqL]
    rw [D.eqv_eq x y n m h.1 g.1, D.eqvL_eq xs ys n m h.2 g.2]
end
mutual
theorem D.ok_depth : ∀ (d : D) (n : Nat), d.ok n = true → d.py.depth ≤ n
  | .lst xs, n + 1, h => by
    simp only [D.py, PyData.depth]
    have := D.okL_depth xs n (by simpa [D.ok] using h)
    omega
  | .tup xs, n + 1, h => by
    simp only [D.py, PyData.depth]
    have := D.okL_depth xs n (by simpa [D.ok] using h)
    omega
  | .lst _, 0, h => by simp [D.ok] at h
  | .tup _, 0, h => by simp [D.ok] at h
  | .non, _, _ => by simp [D.py, PyData.depth]
  | .bl _, _, _ => by simp [D.py, PyData.depth]
  | .int _, _, _ => by simp [D.py, PyData.depth]
  | .str _, _, _ => by simp [D.py, PyData.depth]
  | .scr _, _, _ => by simp [D.py, PyData.depth]
  | .box, _, _ => by simp [D.py, PyData.depth]
  | .ref _, _, _ => by simp [D.py, PyData.depth]
  | .cls _, _, _ => by simp [D.py, PyData.depth]
  | .exc _ _ _, _, _ => by simp [D.py, PyData.depth]
  | .dct _ _, _, _ => by simp [D.py, PyData.depth]
  | .dck _ _, _, _ => by simp [D.py, PyData.depth]
  | .dcn _ _, _, _ => by simp [D.py, PyData.depth]
theorem D.okL_depth : ∀ (xs : List D) (n : Nat), D.okL xs n = true → PyData.depthAll (D.pyL xs) ≤ n
  | [], _, _ => by simp [D.pyL, PyData.depthAll]
  | x :: xs, n, h => by
    simp only [D.okL, Bool.and_eq_true] at h
    simp only [D.pyL, PyData.depthAll]
    have h1 := D.ok_depth x n h.1
    have h2 := D.okL_depth xs n h.2
    omega
end
theorem strOk_of {l : List Nat} (h : SOk l) : PyData.strOk ⟨l.toArray⟩ = true := by
  unfold PyData.strOk
  simp only [List.all_toArray, List.all_eq_true, decide_eq_true_eq]
  exact h.2
section
variable {K : PySem.W.Frag} {cl : Cl} {κ : Ka} {H : Hp}
mutual
theorem Rep.dp : ∀ {d : D} {v : V} {n : Nat}, Rep K cl κ H v d → d.ok n = true → Dp K H v d.py ∧ d.py.canLay0 = true
  | .non, _, _, h, _ => by cases h; exact ⟨.non, rfl⟩
  | .bl b, _, _, h, _ => by cases h; exact ⟨.bl b, rfl⟩
  | .int i, _, _, h, _ => by cases h; exact ⟨.int i, rfl⟩
  | .str l, _, _, h, _ => by
    obtain ⟨rfl, hl⟩ := h.strE
    exact ⟨.str _, by simp only [D.py, PyData.canLay0]; exact strOk_of hl⟩
  | .lst ds, _, n + 1, h, ok => by
    cases h with
    | lst h1 h2 h3 h4 =>
      obtain ⟨g1, g2⟩ := RepL.dp (n := n) h4 (by simpa [D.ok] using ok)
      exact ⟨.lst (SqL.of h2) g1, by simp only [D.py, PyData.canLay0]; exact g2⟩
  | .tup ds, _, n + 1, h, ok => by
    obtain ⟨a, vs, rfl, h2, h3, h4⟩ := h.sqT
    obtain ⟨g1, g2⟩ := RepL.dp (n := n) h4 (by simpa [D.ok] using ok)
    exact ⟨.tup h2 g1, by simp only [D.py, PyData.canLay0]; exact g2⟩
  | .lst _, _, 0, _, ok => by simp [D.ok] at ok
  | .tup _, _, 0, _, ok => by simp [D.ok] at ok
  | .scr _, _, _, _, ok => by simp [D.ok] at ok
  | .box, _, _, _, ok => by simp [D.ok] at ok
  | .ref _, _, _, _, ok => by simp [D.ok] at ok
  | .cls _, _, _, _, ok => by simp [D.ok] at ok
  | .exc _ _ _, _, _, _, ok => by simp [D.ok] at ok
  | .dct _ _, _, _, _, ok => by simp [D.ok] at ok
  | .dck _ _, _, _, _, ok => by simp [D.ok] at ok
  | .dcn _ _, _, _, _, ok => by simp [D.ok] at ok
theorem RepL.dp : ∀ {ds : List D} {vs : List V} {n : Nat}, RepL K cl κ H vs ds → D.okL ds n = true → DpAll K H vs (D.pyL ds) ∧ PyData.canLayAll0 (D.pyL ds) = true
  | [], _, _, h, _ => by cases h; exact ⟨.nil, rfl⟩
  | d :: ds, _, n, h, ok => by
    cases h with
    | cons h1 h2 =>
      simp only [D.okL, Bool.and_eq_true] at ok
      obtain ⟨a1, a2⟩ := Rep.dp h1 ok.1
      obtain ⟨b1, b2⟩ := RepL.dp h2 ok.2
      exact ⟨.cons a1 b1, by simp only [D.pyL, PyData.canLayAll0]; rw [a2, b2]; rfl⟩
end
end
section
variable {Γ : Gm} {κ κ' : Ka} {H H' : Hp} {env env' : En} {σ : Sl} {v : V} {st : Sto}
theorem RepT.dp {d : D} (h : RepT Γ κ H v d) (ok : d.ok 64 = true) : Dp Γ.K H v d.py ∧ SeqAt.shaped d.py = true := by
  have key : Dp Γ.K H v d.py ∧ d.py.canLay0 = true := by
    cases d with
    | lst ds =>
      obtain ⟨a, vs, rfl, h1, h2, h3⟩ := h
      obtain ⟨g1, g2⟩ := RepL.dp (n := 63) h3 (by simpa [D.ok] using ok)
      exact ⟨.lst (SqL.of h1) g1, by simp only [D.py, PyData.canLay0]; exact g2⟩
    | _ => exact Rep.dp h ok
  refine ⟨key.1, ?_⟩
  unfold SeqAt.shaped
  rw [key.2, decide_eq_true (D.ok_depth d 64 ok)]
  rfl
def pEq (d e : D) (Q : R → Prop) : Prop := d.ok 64 = true ∧ e.ok 64 = true ∧ Q (.d (.bl (D.eq d e)))
def pNe (d e : D) (Q : R → Prop) : Prop := d.ok 64 = true ∧ e.ok 64 = true ∧ Q (.d (.bl (!D.eq d e)))
theorem ref_eq : OpRef rEqD pEq := by
  intro Γ σ κ H env v u d e Q Q' I hd he q k
  obtain ⟨a1, a2⟩ := hd.dp q.1
  obtain ⟨b1, b2⟩ := he.dp q.2.1
  refine ⟨_, _, a1, b1, a2, b2, ?_⟩
  rw [D.eqv_eq d e 64 64 q.1 q.2.1]
  exact k _ κ H (.d (.bl (D.eq d e))) (.refl ..) I (.bl _) q.2.2
theorem ref_ne : OpRef rNeD pNe := by
  intro Γ σ κ H env v u d e Q Q' I hd he q k
  obtain ⟨a1, a2⟩ := hd.dp q.1
  obtain ⟨b1, b2⟩ := he.dp q.2.1
  refine ⟨_, _, a1, b1, a2, b2, ?_⟩
  rw [D.eqv_eq d e 64 64 q.1 q.2.1]
  exact k _ κ H (.d (.bl (!D.eq d e))) (.refl ..) I (.bl _) q.2.2
variable {Y : Fam} {a b : Expr} {ta tb : PTE} {pos : Pos}
/-- room for built-in work -/
abbrev Hu (Y : Fam) : Prop := ∀ i, (Y.X i).A.units + 65 < cLine
theorem ve_eq (hu : Hu Y) (ha : VE Y a ta) (hb : VE Y b tb) : VE Y (.Compare a [.Eq] [b] pos) (t2 ta tb pEq) := ve_cmp (fun i => op_eqD (by have := hu i; omega)) ref_eq ha hb (nomark _)
theorem vt_eq (hu : Hu Y) (ha : VE Y a ta) (hb : VE Y b tb) : VT Y (.Compare a [.Eq] [b] pos) (tB (t2 ta tb pEq)) := vt_cmp (fun i => op_eqD (by have := hu i; omega)) ref_eq ha hb (nomark _)
theorem vt_ne (hu : Hu Y) (ha : VE Y a ta) (hb : VE Y b tb) : VT Y (.Compare a [.NotEq] [b] pos) (tB (t2 ta tb pNe)) := vt_cmp (fun i => op_neD (by have := hu i; omega)) ref_ne ha hb (nomark _)
/-- <, of ints and of texts -/
def pLt (d e : D) (Q : R → Prop) : Prop := match d, e with
  | .int i, .int j => Q (.d (.bl (decide (i < j))))
  | .str i, .str j => Q (.d (.bl (decide (i < j))))
  | _, _ => False
def pLe (d e : D) (Q : R → Prop) : Prop := match d, e with
  | .int i, .int j => Q (.d (.bl (decide (i ≤ j))))
  | .str i, .str j => Q (.d (.bl (!decide (j < i))))
  | _, _ => False
def pGt (d e : D) (Q : R → Prop) : Prop := match d, e with
  | .int i, .int j => Q (.d (.bl (decide (j < i))))
  | .str i, .str j => Q (.d (.bl (decide (j < i))))
  | _, _ => False
def pGe (d e : D) (Q : R → Prop) : Prop := match d, e with
  | .int i, .int j => Q (.d (.bl (decide (j ≤ i))))
  | .str i, .str j => Q (.d (.bl (!decide (i < j))))
  | _, _ => False
def rS (f : List Nat → List Nat → Bool) : R2 := fun x y H Q => ∃ i j : Str, x = .str i ∧ y = .str j ∧ Q (.bl (f i.cps.toList j.cps.toList)) H
def rOrd (f : Int → Int → Bool) (g : List Nat → List Nat → Bool) : PySem.W.Frag → R2 := fun _ x y H Q => rI0 (fun i j => .bl (f i j)) x y H Q ∨ rS g x y H Q
theorem ref_ord {f : Int → Int → Bool} {g : List Nat → List Nat → Bool} {p : D → D → (R → Prop) → Prop} (h1 : ∀ i j Q, p (.int i) (.int j) Q → Q (.d (.bl (f i j)))) (h2 : ∀ i j Q, p (.str i) (.str j) Q → Q (.d (.bl (g i j))))
    (h3 : ∀ d e Q, p d e Q → (∃ i j, d = .int i ∧ e = .int j) ∨ ∃ i j, d = .str i ∧ e = .str j) : OpRef (rOrd f g) p := by
  intro Γ σ κ H env v u d e Q Q' I hd he q k
  rcases h3 d e Q q with ⟨i, j, rfl, rfl⟩ | ⟨i, j, rfl, rfl⟩
  · cases hd; cases he
    exact .inl ⟨i, j, rfl, rfl, k _ κ H (.d (.bl (f i j))) (.refl ..) I (.bl _) (h1 i j Q q)⟩
  · obtain ⟨rfl, _⟩ := Rep.strE hd
    obtain ⟨rfl, _⟩ := Rep.strE he
    exact .inr ⟨_, _, rfl, rfl, k _ κ H (.d (.bl (g i j))) (.refl ..) I (.bl _) (h2 i j Q q)⟩
theorem ord3 {p : D → D → (R → Prop) → Prop} (h : ∀ d e Q, p d e Q → match d, e with | .int _, .int _ => True | .str _, .str _ => True | _, _ => False) : ∀ d e Q, p d e Q → (∃ i j, d = .int i ∧ e = .int j) ∨ ∃ i j, d = .str i ∧ e = .str j := by
  intro d e Q q
  have := h d e Q q
  cases d <;> cases e <;> first | exact .inl ⟨_, _, rfl, rfl⟩ | exact .inr ⟨_, _, rfl, rfl⟩ | exact False.elim this
theorem ref_lt : OpRef (rOrd (fun i j => decide (i < j)) fun i j => decide (i < j)) pLt := ref_ord (fun _ _ _ q => q) (fun _ _ _ q => q) (ord3 fun d e Q q => by unfold pLt at q; split at q <;> first | trivial | exact q.elim)
theorem ref_gt : OpRef (rOrd (fun i j => decide (j < i)) fun i j => decide (j < i)) pGt := ref_ord (fun _ _ _ q => q) (fun _ _ _ q => q) (ord3 fun d e Q q => by unfold pGt at q; split at q <;> first | trivial | exact q.elim)
theorem ref_ge : OpRef (rOrd (fun i j => decide (j ≤ i)) fun i j => !decide (i < j)) pGe := ref_ord (fun _ _ _ q => q) (fun _ _ _ q => q) (ord3 fun d e Q q => by unfold pGe at q; split at q <;> first | trivial | exact q.elim)
theorem o_lt (X : Cx) : OpR X (compareOp .Lt) (rOrd (fun i j => decide (i < j)) (fun i j => decide (i < j)) X.K) := OpR.or op_lt op_lt_str
theorem o_gt (X : Cx) : OpR X (compareOp .Gt) (rOrd (fun i j => decide (j < i)) (fun i j => decide (j < i)) X.K) := OpR.or op_gt op_gt_str
theorem o_ge (X : Cx) : OpR X (compareOp .GtE) (rOrd (fun i j => decide (j ≤ i)) (fun i j => !decide (i < j)) X.K) := OpR.or op_ge op_ge_str
theorem ve_lt (ha : VE Y a ta) (hb : VE Y b tb) : VE Y (.Compare a [.Lt] [b] pos) (t2 ta tb pLt) := ve_cmp (fun i => o_lt _) ref_lt ha hb (nomark _)
theorem ve_ge (ha : VE Y a ta) (hb : VE Y b tb) : VE Y (.Compare a [.GtE] [b] pos) (t2 ta tb pGe) := ve_cmp (fun i => o_ge _) ref_ge ha hb (nomark _)
theorem vt_lt (ha : VE Y a ta) (hb : VE Y b tb) : VT Y (.Compare a [.Lt] [b] pos) (tB (t2 ta tb pLt)) := vt_cmp (fun i => o_lt _) ref_lt ha hb (nomark _)
theorem vt_gt (ha : VE Y a ta) (hb : VE Y b tb) : VT Y (.Compare a [.Gt] [b] pos) (tB (t2 ta tb pGt)) := vt_cmp (fun i => o_gt _) ref_gt ha hb (nomark _)
def D.flat : D → Bool
  | .non => true
  | .bl _ => true
  | .int _ => true
  | .str _ => true
  | _ => false
def pIn (neg : Bool) (d e : D) (Q : R → Prop) : Prop := match e with
  | .str l => match d with
    | .str [c] => Q (.d (.bl (if neg then !decide (c ∈ l) else decide (c ∈ l))))
    | _ => False
  | .lst ds => d.ok 64 = true ∧ D.okL ds 63 = true ∧ Q (.d (.bl (if neg then !ds.any (fun z => D.eq z d) else ds.any fun z => D.eq z d)))
  | .tup ds => d.flat = true ∧ ds.all D.flat = true ∧ Q (.d (.bl (if neg then !ds.any (fun z => D.eq z d) else ds.any fun z => D.eq z d)))
  | _ => False
theorem any_eqv {d : D} (hd : d.ok 64 = true) : ∀ {ds : List D}, D.okL ds 63 = true → ((D.pyL ds).any fun z => PyData.eqv z d.py) = ds.any fun z => D.eq z d
  | [], _ => rfl
  | e :: ds, h => by
    simp only [D.okL, Bool.and_eq_true] at h
    simp only [D.pyL, List.any_cons]
    rw [D.eqv_eq e d 63 64 h.1 hd, any_eqv hd h.2]
theorem flat_V {d : D} (h : Rep Γ.K Γ.cls κ H v d) (f : d.flat = true) : flatV v = true := by
  cases d with
  | non => cases h; rfl
  | bl b => cases h; rfl
  | int i => cases h; rfl
  | str s => obtain ⟨rfl, _⟩ := h.strE; rfl
  | _ => cases f
theorem flat_eqV {d e : D} {w u : V} (h : Rep Γ.K Γ.cls κ H w d) (g : Rep Γ.K Γ.cls κ H u e) (f : d.flat = true) (f2 : e.flat = true) : eqV w u = D.eq d e := by
  cases d with
  | non =>
    cases h
    cases e with
    | non => cases g; rfl
    | bl b => cases g; rfl
    | int i => cases g; rfl
    | str s => obtain ⟨rfl, _⟩ := g.strE; rfl
    | _ => cases f2
  | bl b =>
    cases h
    cases e with
    | non => cases g; rfl
    | bl b => cases g; rfl
    | int i => cases g; rfl
    | str s => obtain ⟨rfl, _⟩ := g.strE; rfl
    | _ => cases f2
  | int i =>
    cases h
    cases e with
    | non => cases g; rfl
    | bl b => cases g; rfl
    | int i => cases g; rfl
    | str s => obtain ⟨rfl, _⟩ := g.strE; rfl
    | _ => cases f2
  | str s =>
    obtain ⟨rfl, _⟩ := h.strE
    cases e with
    | non => cases g; rfl
    | bl b => cases g; rfl
    | int i => cases g; rfl
    | str s => obtain ⟨rfl, _⟩ := g.strE; exact str_beq _ _
    | _ => cases f2
  | _ => cases f
theorem flat_all : ∀ {ds : List D} {vs : List V}, RepL Γ.K Γ.cls κ H vs ds → ds.all D.flat = true → vs.all flatV = true
  | [], _, h, _ => by cases h; rfl
  | d :: ds, _, h, f => by
    cases h with
    | cons h1 h2 =>
      rw [List.all_cons, Bool.and_eq_true] at f
      rw [List.all_cons, flat_V h1 f.1, flat_all h2 f.2]
      rfl
theorem flat_in {d : D} (h : Rep Γ.K Γ.cls κ H v d) (f : d.flat = true) : ∀ {ds : List D} {vs : List V}, RepL Γ.K Γ.cls κ H vs ds → ds.all D.flat = true → inV v vs = ds.any fun z => D.eq z d
  | [], _, g, _ => by cases g; rfl
  | e :: ds, _, g, fs => by
    cases g with
    | cons h1 h2 =>
      rw [List.all_cons, Bool.and_eq_true] at fs
      have ih := flat_in h f h2 fs.2
      unfold inV at ih ⊢
      rw [List.any_cons, List.any_cons, flat_eqV h1 h fs.1 f, ih]
def rSign (neg : Bool) : R2 := fun x y H Q => ∃ (c : Nat) (z : Str), x = .str ⟨#[c]⟩ ∧ y = .str z ∧ Q (.bl (if neg then !decide (c ∈ z.cps.toList) else decide (c ∈ z.cps.toList))) H
def rInDn (K : PySem.W.Frag) (neg : Bool) : R2 := fun x y H Q => ∃ d ds, Dp K H x d ∧ Dp K H y (.list ds) ∧ SeqAt.shaped d = true ∧ SeqAt.shaped (.list ds) = true ∧ Q (.bl (if neg then !ds.any (fun z => PyData.eqv z d) else ds.any fun z => PyData.eqv z d)) H
def rInAll (neg : Bool) (K : PySem.W.Frag) : R2 := fun x y H Q => rSign neg x y H Q ∨ rInDn K neg x y H Q ∨ rIn K neg x y H Q
theorem o_in {X : Cx} (hu : X.A.units + 65 < cLine) : OpR X (compareOp .In) (rInAll false X.K) := OpR.or op_in_sign (OpR.or (op_inD hu) op_in_seq)
theorem ref_in {neg : Bool} : OpRef (rInAll neg) (pIn neg) := by
  intro Γ σ κ H env v u d e Q Q' I hd he q k
  cases e with
  | str l =>
    cases d with
    | str s =>
      match s, hd, q with
      | [c], hd, q =>
        obtain ⟨rfl, _⟩ := Rep.strE hd
        obtain ⟨rfl, _⟩ := Rep.strE he
        exact .inl ⟨c, _, rfl, rfl, k _ κ H (.d (.bl _)) (.refl ..) I (.bl _) q⟩
    | _ => exact False.elim q
  | lst ds =>
    obtain ⟨q1, q2, q3⟩ := q
    obtain ⟨a1, a2⟩ := hd.dp q1
    obtain ⟨b1, b2⟩ := he.dp (d := .lst ds) (by simpa [D.ok] using q2)
    refine .inr (.inl ⟨_, _, a1, b1, a2, b2, ?_⟩)
    rw [any_eqv q1 q2]
    exact k _ κ H (.d (.bl _)) (.refl ..) I (.bl _) q3
  | tup ds =>
    obtain ⟨q1, q2, q3⟩ := q
    obtain ⟨a, vs, rfl, h1, h2, h3⟩ := Rep.sqT he
    have hd' : Rep Γ.K Γ.cls κ H v d := by
      cases d with
      | lst _ => cases q1
      | _ => exact hd
    refine .inr (.inr ⟨a, vs, rfl, .inr h1, flat_V hd' q1, flat_all h3 q2, ?_⟩)
    rw [flat_in hd' q1 h3 q2]
    exact k _ κ H (.d (.bl _)) (.refl ..) I (.bl _) q3
  | _ => exact False.elim q
theorem vt_in (hu : Hu Y) (ha : VE Y a ta) (hb : VE Y b tb) (hm : behindInMarks .In b = false := by rfl) : VT Y (.Compare a [.In] [b] pos) (tB (t2 ta tb (pIn false))) := vt_cmp (fun i => o_in (hu i)) ref_in ha hb hm
def D.isNon : D → Bool
  | .non => true
  | _ => false
def pIsN (neg : Bool) (d e : D) (Q : R → Prop) : Prop := match e with
  | .non => Q (.d (.bl (if neg then !d.isNon else d.isNon)))
  | .bl b => match d with
    | .bl a => Q (.d (.bl (if neg then !decide (a = b) else decide (a = b))))
    | _ => False
  | _ => False
variable {tA tC : PTT} {rest : List Expr}
def tAnd (t u : PTT) : PTT := fun x e Q => t x e fun c e1 => if c = true then u x e1 Q else Q false e1
def tOr (t u : PTT) : PTT := fun x e Q => t x e fun c e1 => if c = true then Q true e1 else u x e1 Q
def tNot (t : PTT) : PTT := fun x e Q => t x e fun c e1 => Q (!c) e1
theorem VW.vt {e : Expr} {t : PTT} (h : VW Y e t) : VT Y e t := by
  obtain ⟨ra, pa, fa⟩ := h.ex
  exact ⟨⟨ra, fun i => (pa i).pt, fa⟩⟩
theorem vw_and1 (ha : VT Y a tA) : VW Y (.BoolOp .And [a] pos) tA := by
  obtain ⟨ra, pa, fa⟩ := ha.ex
  exact ⟨⟨ra, fun i => pw_and1 (pa i), fa⟩⟩
theorem vw_or1 (ha : VT Y a tA) : VW Y (.BoolOp .Or [a] pos) tA := by
  obtain ⟨ra, pa, fa⟩ := ha.ex
  exact ⟨⟨ra, fun i => pw_or1 (pa i), fa⟩⟩
theorem vw_and (ha : VT Y a tA) (hb : VW Y (.BoolOp .And (b :: rest) pos) tC) : VW Y (.BoolOp .And (a :: b :: rest) pos) (tAnd tA tC) := by
  obtain ⟨ra, pa, fa⟩ := ha.ex
  obtain ⟨rb, pb, fb⟩ := hb.ex
  refine ⟨⟨fun E => L2.tAnd (ra E) (rb E), fun i => pw_and (pa i) (pb i), fun Γ σ κ H env Q Q' hK I q k => ?_⟩⟩
  refine fa Γ σ κ H env _ _ hK I q fun c κ1 H1 e1 x1 I1 q1 => ?_
  cases c with
  | true => exact fb Γ σ κ1 H1 e1 Q Q' hK I1 q1 fun b κ2 H2 e2 x2 => k b κ2 H2 e2 (x1.trans x2)
  | false => exact k false κ1 H1 e1 x1 I1 q1
theorem vw_or (ha : VT Y a tA) (hb : VW Y (.BoolOp .Or (b :: rest) pos) tC) : VW Y (.BoolOp .Or (a :: b :: rest) pos) (tOr tA tC) := by
  obtain ⟨ra, pa, fa⟩ := ha.ex
  obtain ⟨rb, pb, fb⟩ := hb.ex
  refine ⟨⟨fun E => L2.tOr (ra E) (rb E), fun i => pw_or (pa i) (pb i), fun Γ σ κ H env Q Q' hK I q k => ?_⟩⟩
  refine fa Γ σ κ H env _ _ hK I q fun c κ1 H1 e1 x1 I1 q1 => ?_
  cases c with
  | false => exact fb Γ σ κ1 H1 e1 Q Q' hK I1 q1 fun b κ2 H2 e2 x2 => k b κ2 H2 e2 (x1.trans x2)
  | true => exact k true κ1 H1 e1 x1 I1 q1
theorem vt_not (ha : VT Y a tA) : VT Y (.UnaryOp .Not a pos) (tNot tA) := by
  obtain ⟨ra, pa, fa⟩ := ha.ex
  exact ⟨⟨fun E => L2.tNot (ra E), fun i => pt_not (pa i), fun Γ σ κ H env Q Q' hK I q k => fa Γ σ κ H env _ _ hK I q fun c κ1 H1 e1 x1 I1 q1 => k _ κ1 H1 e1 x1 I1 q1⟩⟩
/-- as values, all but the last bools -/
def tAndV (ta tb : PTE) : PTE := fun x e Q => ta x e fun r e1 => match rv r e1 with
  | some (.bl c) => if c = true then tb x e1 Q else Q (.d (.bl false)) e1
  | _ => False
def tOrV (ta tb : PTE) : PTE := fun x e Q => ta x e fun r e1 => match rv r e1 with
  | some (.bl c) => if c = true then Q (.d (.bl true)) e1 else tb x e1 Q
  | _ => False
def tNotV (ta : PTE) : PTE := fun x e Q => ta x e fun r e1 => match rv r e1 with
  | some (.bl c) => Q (.d (.bl (!c))) e1
  | _ => False
theorem bl_of {r : R} {P : D → Prop} (I : Rl Γ κ env σ H) (h : RelR Γ κ H env σ v r) {F : Bool → Prop} (q : match rv r env with | some (.bl c) => F c | _ => False) : ∃ c, v = .bl c ∧ F c := by
  cases e1' : rv r env with
  | none => rw [e1'] at q; exact False.elim q
  | some d =>
    rw [e1'] at q
    have rt := rv_ok I h e1'
    cases d with
    | bl b => cases rt; exact ⟨b, rfl, q⟩
    | _ => exact False.elim q
def tIf (t : PTT) (ta tb : PTE) : PTE := fun x e Q => t x e fun c e1 => if c = true then ta x e1 Q else tb x e1 Q
end
end Pu
set_option maxRecDepth 100000
set_option maxHeartbeats 4000000
namespace Pu
open PySem L2
section
variable {Γ : Gm} {κ κ' : Ka} {H H' : Hp} {env env' : En} {σ : Sl} {v : V} {st : Sto} {Y : Fam} {a b e : Expr} {es : List Expr} {ta tb te : PTE} {pos : Pos}
def tNil : PTA := fun _ e Q => Q [] e
def tCons (ta : PTE) (tr : PTA) : PTA := fun x e Q => ta x e fun r e1 => fz r e1 fun d e2 => tr x e2 fun ds e3 => Q (d :: ds) e3
theorem va_nil : VA Y [] tNil := ⟨⟨fun _ => L2.tNil, fun _ => pa_nil, fun Γ σ κ H env Q Q' hK I q k => k [] κ H [] env (.refl ..) I .nil q⟩⟩
theorem va_cons {tr : PTA} (ha : VE Y e ta) (hr : VA Y es tr) (hs : ∀ X : Cx, starEach (e :: es) X.env = (false, eval e X.env) :: starEach es X.env := by intro _; rfl) : VA Y (e :: es) (tCons ta tr) := by
  obtain ⟨ra, pa, fa⟩ := ha.ex
  obtain ⟨rb, pb, fb⟩ := hr.ex
  refine ⟨⟨fun E => L2.tCons (ra E) (rb E), fun i => pa_cons (pa i) (pb i) (hs _), fun Γ σ κ H env Q Q' hK I q k => ?_⟩⟩
  refine fa Γ σ κ H env _ _ hK I q fun v κ1 H1 r1 e1 x1 I1 h1 q1 => ?_
  refine fz_ok I1 h1 q1 fun κ2 d e2 x2 I2 h2 q2 => ?_
  refine fb Γ σ κ2 H1 e2 _ _ hK I2 q2 fun vs κ3 H3 ds e3 x3 I3 h3 q3 => ?_
  exact k (v :: vs) κ3 H3 (d :: ds) e3 ((x1.trans x2).trans x3) I3 (.cons (h2.mono x3) h3) q3
def tTup (t : PTA) : PTE := fun x e Q => t x e fun ds e1 => ds.length ≤ sizeLine ∧ Q (.d (.tup ds)) e1
def tLst (t : PTA) : PTE := fun x e Q => t x e fun ds e1 => ds.length ≤ sizeLine ∧ Q (.own ds) e1
theorem ve_tup {x1} {t : PTA} (h : VA Y es t) : VE Y (.Tuple es x1 pos) (tTup t) := by
  obtain ⟨ra, pa, fa⟩ := h.ex
  refine ⟨⟨fun E => PuE.tTupB (ra E), fun i => PuE.pe_tupB (pa i), fun Γ σ κ H env Q Q' hK I q k => ?_⟩⟩
  refine fa Γ σ κ H env _ _ hK I q fun vs κ1 H1 ds e1 x1 I1 h1 q1 => ⟨by rw [h1.length]; exact q1.1, ?_⟩
  exact new_tupB I1 (by rw [h1.length]; exact q1.1) h1 fun κ' H' p x2 I2 r2 => k _ _ _ (.d (.tup ds)) e1 (x1.trans x2) I2 r2 q1.2
theorem ve_lst {t : PTA} (h : VA Y es t) : VE Y (.List es pos) (tLst t) := by
  obtain ⟨ra, pa, fa⟩ := h.ex
  refine ⟨⟨fun E => L2.tLst (ra E), fun i => pe_lst (pa i), fun Γ σ κ H env Q Q' hK I q k => ?_⟩⟩
  refine fa Γ σ κ H env _ _ hK I q fun vs κ1 H1 ds e1 x1 I1 h1 q1 => ⟨by rw [h1.length]; exact q1.1, fun p hp => ?_⟩
  exact k _ κ1 _ (.own ds) e1 (x1.trans (Ext.upd_new I1.gh hp)) (I1.upd_new hp) (new_lst I1 hp (by rw [h1.length]; exact q1.1) h1) q1.2
abbrev PTR := PX → En → (List R → En → Prop) → Prop
inductive HeldL (Γ : Gm) (κ : Ka) (H : Hp) (σ : Sl) : List V → List R → Prop
  | nil : HeldL Γ κ H σ [] []
  | cons {v : V} {vs : List V} {r : R} {rs : List R} : HeldR Γ κ H σ v r → HeldL Γ κ H σ vs rs → HeldL Γ κ H σ (v :: vs) (r :: rs)
inductive RepTL (Γ : Gm) (κ : Ka) (H : Hp) : List V → List D → Prop
  | nil : RepTL Γ κ H [] []
  | cons {v : V} {vs : List V} {d : D} {ds : List D} : RepT Γ κ H v d → RepTL Γ κ H vs ds → RepTL Γ κ H (v :: vs) (d :: ds)
theorem HeldL.ext : ∀ {rs : List R} {vs : List V}, Ext κ H κ' H' → HeldL Γ κ H σ vs rs → HeldL Γ κ' H' σ vs rs
  | [], _, _, h => by cases h; exact .nil
  | _ :: _, _, e, h => by cases h with | cons h1 h2 => exact .cons (h1.ext e) (HeldL.ext e h2)
structure VR (Y : Fam) (es : List Expr) (t : PTR) : Prop where
  ex : ∃ rd : XK → TA, (∀ i, PA (Y.X i) es (rd (Y.E i))) ∧ ∀ (Γ : Gm) (σ : Sl) (κ : Ka) (H : Hp) (env : En) (Q : List R → En → Prop) (Q' : List V → Hp → Prop), GK Y Γ → Rl Γ κ env σ H → t Γ.x env Q →
    (∀ vs κ' H' rs env', Ext κ H κ' H' → Rl Γ κ' env' σ H' → HeldL Γ κ' H' σ vs rs → Q rs env' → Q' vs H') → rd Γ.E σ H Q'
def rNil : PTR := fun _ e Q => Q [] e
def rCons (ta : PTE) (tr : PTR) : PTR := fun x e Q => ta x e fun r e1 => hold r e1 fun r e2 => tr x e2 fun rs e3 => Q (r :: rs) e3
theorem vr_nil : VR Y [] rNil := ⟨⟨fun _ => L2.tNil, fun _ => pa_nil, fun Γ σ κ H env Q Q' hK I q k => k [] κ H [] env (.refl ..) I .nil q⟩⟩
theorem vr_cons {tr : PTR} (ha : VE Y e ta) (hr : VR Y es tr) (hs : ∀ X : Cx, starEach (e :: es) X.env = (false, eval e X.env) :: starEach es X.env := by intro _; rfl) : VR Y (e :: es) (rCons ta tr) := by
  obtain ⟨ra, pa, fa⟩ := ha.ex
  obtain ⟨rb, pb, fb⟩ := hr.ex
  refine ⟨⟨fun E => L2.tCons (ra E) (rb E), fun i => pa_cons (pa i) (pb i) (hs _), fun Γ σ κ H env Q Q' hK I q k => ?_⟩⟩
  refine fa Γ σ κ H env _ _ hK I q fun v κ1 H1 r1 e1 x1 I1 h1 q1 => ?_
  refine hold_ok I1 h1 q1 fun κ2 r2 x2 I2 h2 q2 => ?_
  refine fb Γ σ κ2 H1 e1 _ _ hK I2 q2 fun vs κ3 H3 rs e3 x3 I3 h3 q3 => ?_
  exact k (v :: vs) κ3 H3 (r2 :: rs) e3 ((x1.trans x2).trans x3) I3 (.cons (h2.ext x3) h3) q3
def rvL : List R → En → Option (List D)
  | [], _ => some []
  | r :: rs, e => match rv r e with
    | none => none
    | some d => match rvL rs e with
      | none => none
      | some ds => some (d :: ds)
theorem rvL_ok (I : Rl Γ κ env σ H) : ∀ {rs : List R} {vs : List V} {ds : List D}, HeldL Γ κ H σ vs rs → rvL rs env = some ds → RepTL Γ κ H vs ds
  | [], _, _, h, e => by cases h; cases e; exact .nil
  | r :: rs, _, _, h, e => by
    cases h with
    | cons h1 h2 =>
      unfold rvL at e
      cases e1 : rv r env with
      | none => rw [e1] at e; cases e
      | some d =>
        rw [e1] at e
        cases e2 : rvL rs env with
        | none => simp only [e2] at e; cases e
        | some ds =>
          simp only [e2] at e
          cases e
          exact .cons (rv_ok I h1.rel e1) (rvL_ok I h2 e2)
def CallRef (r : PySem.W.Frag → List V → Hp → VK → Prop) (p : List D → (R → Prop) → Prop) : Prop :=
  ∀ (Γ : Gm) (σ : Sl) (κ : Ka) (H : Hp) (env : En) (vs : List V) (ds : List D) (Q : R → Prop) (Q' : VK), Rl Γ κ env σ H → RepTL Γ κ H vs ds → p ds Q →
    (∀ v' κ' H' r, Ext κ H κ' H' → Rl Γ κ' env σ H' → RelR Γ κ' H' env σ v' r → Q r → Q' v' H') → r Γ.K vs H Q'
def tCallP (p : List D → (R → Prop) → Prop) (t : PTR) : PTE := fun x e Q => t x e fun rs e1 => match rvL rs e1 with
  | some ds => p ds (fun r => Q r e1)
  | none => False
theorem callP {r : PySem.W.Frag → List V → Hp → VK → Prop} {p : List D → (R → Prop) → Prop} {t : PTR} {rd : XK → TA} (hr : CallRef r p)
    (f : ∀ (Γ : Gm) (σ : Sl) (κ : Ka) (H : Hp) (env : En) (Q : List R → En → Prop) (Q' : List V → Hp → Prop), GK Y Γ → Rl Γ κ env σ H → t Γ.x env Q →
    (∀ vs κ' H' rs env', Ext κ H κ' H' → Rl Γ κ' env' σ H' → HeldL Γ κ' H' σ vs rs → Q rs env' → Q' vs H') → rd Γ.E σ H Q')
    {Q : R → En → Prop} {Q' : VK} (hK : GK Y Γ) (I : Rl Γ κ env σ H) (q : tCallP p t Γ.x env Q)
    (k : ∀ v κ' H' r env', Ext κ H κ' H' → Rl Γ κ' env' σ H' → RelR Γ κ' H' env' σ v r → Q r env' → Q' v H') : tCB (r Y.K) (rd Γ.E) σ H Q' := by
  refine f Γ σ κ H env _ _ hK I q fun vs κ1 H1 rs e1 x1 I1 h1 q1 => ?_
  cases e : rvL rs e1 with
  | none => rw [e] at q1; exact False.elim q1
  | some ds =>
    rw [e] at q1
    have := hr Γ σ κ1 H1 e1 vs ds _ Q' I1 (rvL_ok I1 h1 e) q1 fun v' κ' H' r x I' h' q' => k v' κ' H' r e1 (x1.trans x) I' h' q'
    rw [hK.k] at this
    exact this
theorem ve_callB {x : Str} {id : String} {p' : Pos} {r : PySem.W.Frag → List V → Hp → VK → Prop} {p : List D → (R → Prop) → Prop} {t : PTR} (hc : ∀ i, CallR (Y.X i) (.builtin id) (r (Y.X i).K)) (hr : CallRef r p) (hm : ∀ i, (Y.X i).mg x = none) (ha : VR Y (e :: es) t)
    (hg : ∀ i, Gl (Y.X i) x := by intro _; rfl) (hv : bootBuiltins x = some (.builtin id) := by decide +kernel) (hn : x ≠ "__name__" := by decide) (hdb : (x == ("__debug__" : Str)) = false := by decide)
    (he : ∀ X : Cx, starEach (e :: es) X.env = (false, eval e X.env) :: starEach es X.env := by intro _; rfl) (hpl : ∀ X : Cx, (backTo pos (starEach es X.env)).any (·.1) = false := by intro _; rfl) : VE Y (.Call (.Name x p') (e :: es) [] pos) (tCallP p t) := by
  obtain ⟨ra, pa, fa⟩ := ha.ex
  exact ⟨⟨fun E => tCB (r Y.K) (ra E), fun i => pe_callB (by have := hc i; rw [Y.hK i] at this; exact this) (hg i) (hm i) hv (pa i) hn hdb (he _) (hpl _), fun Γ σ κ H env Q Q' hK I q k => callP hr fa hK I q k⟩⟩
theorem ve_callTy {x : Str} {T : String} {p' : Pos} {r : PySem.W.Frag → List V → Hp → VK → Prop} {p : List D → (R → Prop) → Prop} {t : PTR} (hc : ∀ i, CallR (Y.X i) (.type T) (r (Y.X i).K)) (hr : CallRef r p) (hm : ∀ i, (Y.X i).mg x = none) (ha : VR Y (e :: es) t)
    (hg : ∀ i, Gl (Y.X i) x := by intro _; rfl) (hv : bootBuiltins x = some (.type T) := by decide +kernel) (hn : x ≠ "__name__" := by decide) (hdb : (x == ("__debug__" : Str)) = false := by decide)
    (he : ∀ X : Cx, starEach (e :: es) X.env = (false, eval e X.env) :: starEach es X.env := by intro _; rfl) (hpl : ∀ X : Cx, (backTo pos (starEach es X.env)).any (·.1) = false := by intro _; rfl) : VE Y (.Call (.Name x p') (e :: es) [] pos) (tCallP p t) := by
  obtain ⟨ra, pa, fa⟩ := ha.ex
  exact ⟨⟨fun E => tCB (r Y.K) (ra E), fun i => pe_callTy (by have := hc i; rw [Y.hK i] at this; exact this) (hg i) (hm i) hv (pa i) hn hdb (he _) (hpl _), fun Γ σ κ H env Q Q' hK I q k => callP hr fa hK I q k⟩⟩
/-- len -/
def pLen : List D → (R → Prop) → Prop
  | [.str s], Q => Q (.d (.int s.length))
  | [.lst ds], Q => Q (.d (.int ds.length))
  | [.tup ds], Q => Q (.d (.int ds.length))
  | [.scr n], Q => Q (.d (.int n))
  | _, _ => False
def rLen (K : PySem.W.Frag) : List V → Hp → VK → Prop := fun xs H Q => ∃ x n, xs = [x] ∧ LenV K x H n ∧ Q (.int n) H
theorem lenL {K : PySem.W.Frag} {a : Addr} {vs : List V} (h : SqL K H a vs) : LenV K (.ref a) H vs.length := by
  unfold LenV
  first | exact .inl ⟨vs, h, rfl⟩ | exact ⟨vs, .inl h, rfl⟩
theorem ref_len : CallRef rLen pLen := by
  intro Γ σ κ H env vs ds Q Q' I h q k
  match ds, vs, h, q with
  | [.str s], _, .cons h .nil, q =>
    obtain ⟨rfl, h1⟩ := Rep.strE h
    refine ⟨_, s.length, rfl, ?_, k _ κ H (.d (.int s.length)) (.refl ..) I (.int _) q⟩
    show _ ≤ sizeLine ∧ _
    rw [str_len]
    exact ⟨h1.1, rfl⟩
  | [.lst ds], _, .cons h .nil, q =>
    obtain ⟨a, ws, rfl, h1, h2, h3⟩ := h
    refine ⟨_, ws.length, rfl, lenL (SqL.of h1), ?_⟩
    rw [h3.length]
    exact k _ κ H (.d (.int ds.length)) (.refl ..) I (.int _) q
  | [.tup ds], _, .cons h .nil, q =>
    obtain ⟨a, ws, rfl, h1, h2, h3⟩ := Rep.sqT h
    refine ⟨_, ws.length, rfl, .inr ⟨ws, h1, rfl⟩, ?_⟩
    rw [h3.length]
    exact k _ κ H (.d (.int ds.length)) (.refl ..) I (.int _) q
  | [.scr n], _, .cons h .nil, q =>
    cases h with
    | @scr a ns _ h1 hn h2 =>
      subst hn
      refine ⟨_, ns.length, rfl, ?_, k _ κ H (.d (.int (ns.length : Nat))) (.refl ..) I (.int _) q⟩
      have := lenL (H := H) (K := Γ.K) (a := a) (vs := ns.map V.int) (by
        rcases h1 with ⟨_, h1⟩ | h1
        · exact .inl h1
        · exact .inr h1)
      rw [List.length_map] at this
      exact this
theorem ve_len {p' : Pos} {t : PTR} (hm : ∀ i, (Y.X i).mg "len" = none) (ha : VR Y [e] t) (hg : ∀ i, Gl (Y.X i) "len" := by intro _; rfl) (he : ∀ X : Cx, starEach [e] X.env = (false, eval e X.env) :: starEach [] X.env := by intro _; rfl) : VE Y (.Call (.Name "len" p') [e] [] pos) (tCallP pLen t) :=
  ve_callB (r := rLen) (fun _ => call_len) ref_len hm ha hg (he := he)
def pIx (d e : D) (Q : R → Prop) : Prop := match d, e with
  | .lst ds, .int i => match atI ds i with | some y => Q (.d y) | none => False
  | .tup ds, .int i => match atI ds i with | some y => Q (.d y) | none => False
  | .str s, .int i => match atI s i with | some c => Q (.d (.str [c])) | none => False
  | .scr n, .int i => (0 ≤ i ∧ i < n) ∧ ∀ z, Q (.d (.int z))
  | .box, .int i => (i = 0 ∨ i = 1) ∧ ∀ z, Q (.d (.int z))
  | _, _ => False
theorem atI_rep {ds : List D} {vs : List V} {i : Int} {d : D} (h : RepL Γ.K Γ.cls κ H vs ds) (e : atI ds i = some d) : ∃ v, atI vs i = some v ∧ Rep Γ.K Γ.cls κ H v d := by
  unfold atI at e ⊢
  rw [h.length]
  cases q : ixN ds.length i with
  | none => rw [q] at e; cases e
  | some j =>
    rw [q] at e
    obtain ⟨v, e1, r⟩ := h.get (i := j) e
    exact ⟨v, e1, r⟩
theorem SOk.one {s : List Nat} {c : Nat} (h : SOk s) (hc : c ∈ s) : SOk [c] := ⟨by show 1 ≤ sizeLine; decide, fun d hd => by
  have : d = c := by simpa using hd
  rw [this]; exact h.2 c hc⟩
theorem atI_mem {α : Type} {xs : List α} {i : Int} {x : α} (e : atI xs i = some x) : x ∈ xs := by
  unfold atI at e
  cases q : ixN xs.length i with
  | none => rw [q] at e; cases e
  | some j => rw [q] at e; exact List.mem_of_getElem? e
theorem ref_ix : OpRef rIx pIx := by
  intro Γ σ κ H env v u d e Q Q' I hd he q k
  cases e with
  | int i =>
    cases he
    cases d with
    | lst ds =>
      obtain ⟨a, vs, rfl, h1, h2, h3⟩ := hd
      unfold pIx at q
      simp only at q
      cases qe : atI ds i with
      | none => rw [qe] at q; exact False.elim q
      | some y =>
        rw [qe] at q
        obtain ⟨w, e1, r1⟩ := atI_rep h3 qe
        exact .inl ⟨a, vs, i, w, rfl, rfl, SqL.of h1, e1, k w κ H (.d y) (.refl ..) I r1 q⟩
    | tup ds =>
      obtain ⟨a, vs, rfl, h1, h2, h3⟩ := Rep.sqT hd
      unfold pIx at q
      simp only at q
      cases qe : atI ds i with
      | none => rw [qe] at q; exact False.elim q
      | some y =>
        rw [qe] at q
        obtain ⟨w, e1, r1⟩ := atI_rep h3 qe
        exact .inr (.inl ⟨a, vs, i, w, rfl, rfl, h1, e1, k w κ H (.d y) (.refl ..) I r1 q⟩)
    | str s =>
      obtain ⟨rfl, hs⟩ := Rep.strE hd
      unfold pIx at q
      simp only at q
      cases qe : atI s i with
      | none => rw [qe] at q; exact False.elim q
      | some c =>
        rw [qe] at q
        exact .inr (.inr ⟨_, i, c, rfl, rfl, by rw [str_len]; exact hs.1, qe, k _ κ H (.d (.str [c])) (.refl ..) I (.str _ (hs.one (atI_mem qe))) q⟩)
    | scr n =>
      cases hd with
      | @scr a ns _ h1 hn h2 =>
        subst hn
        obtain ⟨⟨i0, i1⟩, q⟩ := q
        obtain ⟨j, rfl⟩ : ∃ j : Nat, i = (j : Int) := ⟨i.toNat, by omega⟩
        have hj : j < ns.length := by omega
        refine .inl ⟨a, ns.map V.int, (j : Int), .int ns[j], rfl, rfl, ?_, atI_nat (by rw [List.getElem?_map, List.getElem?_eq_getElem hj]; rfl), k _ κ H (.d (.int ns[j])) (.refl ..) I (.int _) (q _)⟩
        rcases h1 with ⟨_, h1⟩ | h1
        · exact .inl h1
        · exact .inr h1
    | box =>
      cases hd with
      | @box a hk =>
        obtain ⟨x, y, hx⟩ := I.gh.box a hk
        obtain ⟨hi, q⟩ := q
        rcases hi with rfl | rfl
        · exact .inl ⟨a, _, 0, .int x, rfl, rfl, SqL.of hx, rfl, k _ κ H (.d (.int x)) (.refl ..) I (.int _) (q _)⟩
        · exact .inl ⟨a, _, 1, .int y, rfl, rfl, SqL.of hx, rfl, k _ κ H (.d (.int y)) (.refl ..) I (.int _) (q _)⟩
    | _ => exact False.elim q
  | _ => cases d <;> exact False.elim q
theorem ve_ix (ha : VE Y a ta) (hb : VE Y b tb) (hs : PlainIx b := by exact fun _ _ => rfl) : VE Y (.Subscript a b pos) (t2 ta tb pIx) := by
  obtain ⟨ra, pa, fa⟩ := ha.ex
  obtain ⟨rb, pb, fb⟩ := hb.ex
  refine ⟨⟨fun E => tOp (rIx Y.K) (ra E) (rb E), fun i => pe_ix (by have := ix_seq (X := Y.X i); rw [Y.hK i] at this; exact this) (pa i) (pb i) hs, fun Γ σ κ H env Q Q' hK I q k => ?_⟩⟩
  exact two_ref (r := rIx) ref_ix fa fb hK I q k
abbrev PTO := PX → En → (Option Int → En → Prop) → Prop
structure VO (Y : Fam) (e : Option Expr) (t : PTO) : Prop where
  ex : ∃ rd : XK → L2.TO, (∀ i, PO (Y.X i) e (rd (Y.E i))) ∧ ∀ (Γ : Gm) (σ : Sl) (κ : Ka) (H : Hp) (env : En) (Q : Option Int → En → Prop) (Q' : Option Int → Hp → Prop), GK Y Γ → Rl Γ κ env σ H → t Γ.x env Q →
    (∀ o κ' H' env', Ext κ H κ' H' → Rl Γ κ' env' σ H' → Q o env' → Q' o H') → rd Γ.E σ H Q'
def oNone : PTO := fun _ e Q => Q none e
def oSome (t : PTE) : PTO := fun x e Q => t x e fun r e1 => match rv r e1 with
  | some (.int i) => Q (some i) e1
  | _ => False
theorem vo_none : VO Y none oNone := ⟨⟨fun _ => tNoPart, fun _ => po_none, fun Γ σ κ H env Q Q' hK I q k => k none κ H env (.refl ..) I q⟩⟩
theorem vo_some (h : VE Y e te) : VO Y (some e) (oSome te) := by
  obtain ⟨ra, pa, fa⟩ := h.ex
  refine ⟨⟨fun E => tPart (ra E), fun i => po_some (pa i), fun Γ σ κ H env Q Q' hK I q k => ?_⟩⟩
  refine fa Γ σ κ H env _ _ hK I q fun v κ1 H1 r1 e1 x1 I1 h1 q1 => ?_
  cases e1' : rv r1 e1 with
  | none => rw [e1'] at q1; exact False.elim q1
  | some d =>
    rw [e1'] at q1
    have rt := rv_ok I1 h1 e1'
    cases d with
    | int i => cases rt; exact ⟨i, rfl, k (some i) κ1 H1 e1 x1 I1 q1⟩
    | _ => exact False.elim q1
/-- a piece of a list -/
def cut {α : Type} (xs : List α) (lo hi : Option Int) : List α := (xs.drop (HT.sIx xs.length 0 lo)).take (HT.sIx xs.length xs.length hi - HT.sIx xs.length 0 lo)
def pSl (d : D) (lo hi : Option Int) (Q : R → Prop) : Prop := match d with
  | .lst ds => Q (.own (cut ds lo hi))
  | .tup ds => Q (.d (.tup (cut ds lo hi)))
  | .str s => Q (.d (.str (cut s lo hi)))
  | .scr n => ∀ ns : List Int, ns.length = (cut (List.range n) lo hi).length → Q (.own (ns.map D.int))
  | _ => False
def tSl (te : PTE) (tl th : PTO) : PTE := fun x e Q => te x e fun r e1 => hold r e1 fun r e1 => tl x e1 fun lo e2 => th x e2 fun hi e3 => match rv r e3 with
  | some d => pSl d lo hi (fun r => Q r e3)
  | none => False
theorem cut_length {α : Type} (xs : List α) (lo hi : Option Int) : (cut xs lo hi).length ≤ xs.length := by
  unfold cut
  rw [List.length_take, List.length_drop]
  omega
theorem cut_mem {α : Type} {xs : List α} {lo hi : Option Int} {x : α} (h : x ∈ cut xs lo hi) : x ∈ xs := by
  unfold cut at h
  exact List.mem_of_mem_drop (List.mem_of_mem_take h)
theorem SOk.cut {s : List Nat} (h : SOk s) (lo hi : Option Int) : SOk (cut s lo hi) := ⟨Nat.le_trans (cut_length ..) h.1, fun c hc => h.2 c (cut_mem hc)⟩
theorem RepL.cut {ds : List D} {vs : List V} (h : RepL Γ.K Γ.cls κ H vs ds) (lo hi : Option Int) : RepL Γ.K Γ.cls κ H (cutV vs lo hi) (cut ds lo hi) := by
  unfold cutV Pu.cut
  rw [h.length]
  exact (h.drop _).take _
def rSlAll (K : PySem.W.Frag) : V → Option Int → Option Int → Hp → VK → Prop := fun x lo hi H Q => rSlL K x lo hi H Q ∨ PuE.rSlTB K x lo hi H Q ∨ rSlS x lo hi H Q
theorem sl_all {X : Cx} : SlR X (rSlAll X.K) := SlR.or sl_list (SlR.or PuE.sl_tupB sl_str)
theorem cut_whole {α : Type} {xs : List α} {lo hi : Option Int} (h : HT.sIx xs.length 0 lo = 0 ∧ HT.sIx xs.length xs.length hi = xs.length) : cut xs lo hi = xs := by
  unfold cut
  rw [h.1, h.2]
  simp
theorem line_eq' : (sizeLine : Nat) = 16777216 := sizeLine_eq
theorem rep_ints : ∀ ns : List Int, RepL Γ.K Γ.cls κ H (ns.map V.int) (ns.map D.int)
  | [] => .nil
  | i :: ns => .cons (.int i) (rep_ints ns)
theorem cutV_map {α : Type} (f : α → V) (xs : List α) (lo hi : Option Int) : cutV (xs.map f) lo hi = (cut xs lo hi).map f := by
  unfold cutV cut
  rw [List.length_map, ← List.map_drop, ← List.map_take]
theorem cut_len_eq {α β : Type} {xs : List α} {ys : List β} (h : xs.length = ys.length) (lo hi : Option Int) : (cut xs lo hi).length = (cut ys lo hi).length := by
  unfold cut
  simp only [List.length_take, List.length_drop, h]
theorem ve_slice {lo hi : Option Expr} {tl th : PTO} {p2 : Pos} (ha : VE Y e te) (hl : VO Y lo tl) (hh : VO Y hi th) : VE Y (.Subscript e (.Slice lo hi none p2) pos) (tSl te tl th) := by
  obtain ⟨ra, pa, fa⟩ := ha.ex
  obtain ⟨rl, pl, fl⟩ := hl.ex
  obtain ⟨rh, ph, fh⟩ := hh.ex
  refine ⟨⟨fun E => L2.tSl (rSlAll Y.K) (ra E) (rl E) (rh E), fun i => pe_slice (by have := sl_all (X := Y.X i); rw [Y.hK i] at this; exact this) (pa i) (pl i) (ph i), fun Γ σ κ H env Q Q' hK I q k => ?_⟩⟩
  refine fa Γ σ κ H env _ _ hK I q fun v κ1 H1 r1 e1 x1 I1 h1 q1 => ?_
  refine hold_ok I1 h1 q1 fun κ2 r2 x2 I2 h2 q2 => ?_
  refine fl Γ σ κ2 H1 e1 _ _ hK I2 q2 fun l κ3 H3 e3 x3 I3 q3 => ?_
  refine fh Γ σ κ3 H3 e3 _ _ hK I3 q3 fun h κ4 H4 e4 x4 I4 q4 => ?_
  have x := ((x1.trans x2).trans x3).trans x4
  have h2' : RelR Γ κ4 H4 e4 σ v r2 := ((h2.ext x3).ext x4).rel
  rw [← hK.k]
  cases e1' : rv r2 e4 with
  | none => rw [e1'] at q4; exact False.elim q4
  | some d =>
    rw [e1'] at q4
    have rt := rv_ok I4 h2' e1'
    cases d with
    | lst ds =>
      obtain ⟨a, vs, rfl, g1, g2, g3⟩ := rt
      refine .inl ⟨a, vs, rfl, SqL.of g1, fun p hp => ?_⟩
      exact k _ κ4 _ (.own (cut ds l h)) e4 (x.trans (Ext.upd_new I4.gh hp)) (I4.upd_new hp) (new_lst I4 hp (Nat.le_trans (cutV_length ..) g2) (g3.cut l h)) q4
    | tup ds =>
      have rt0 : Rep Γ.K Γ.cls κ4 H4 v (.tup ds) := rt
      obtain ⟨a, vs, rfl, g1, g2, g3⟩ := Rep.sqT rt
      refine .inr (.inl ⟨a, vs, rfl, g1, fun hw => ?_, fun hw => ?_⟩)
      · have : cut ds l h = ds := cut_whole (by rw [← g3.length]; exact hw)
        have q4 : Q (.d (.tup (cut ds l h))) e4 := q4
        rw [this] at q4
        exact k _ κ4 H4 (.d (.tup ds)) e4 x I4 rt0 q4
      · exact new_tupB I4 (Nat.le_trans (cutV_length vs l h) g2) (g3.cut l h) fun κ' H' p x5 I5 r5 => k _ _ _ (.d (.tup (cut ds l h))) e4 (x.trans x5) I5 r5 q4
    | scr n =>
      cases rt with
      | @scr a ns _ g1 hn g2 =>
        subst hn
        refine .inl ⟨a, ns.map V.int, rfl, ?_, fun p hp => ?_⟩
        · rcases g1 with ⟨_, g1⟩ | g1
          · exact .inl g1
          · exact .inr g1
        · rw [cutV_map]
          refine k _ κ4 _ (.own ((cut ns l h).map D.int)) e4 (x.trans (Ext.upd_new I4.gh hp)) (I4.upd_new hp) (new_lst I4 hp ?_ (rep_ints _)) (q4 _ (cut_len_eq (by simp) l h))
          rw [List.length_map, line_eq']
          have := cut_length ns l h
          omega
    | str s =>
      obtain ⟨rfl, hs⟩ := Rep.strE rt
      refine .inr (.inr ⟨_, rfl, by rw [str_len]; exact hs.1, ?_⟩)
      have : cutS ⟨s.toArray⟩ l h = ⟨(cut s l h).toArray⟩ := by
        unfold cutS Pu.cut
        rw [str_len]
      rw [this]
      exact k _ κ4 H4 (.d (.str (cut s l h))) e4 x I4 (.str _ (hs.cut l h)) q4
    | _ => exact False.elim q4
def asgR (i : Nat) : R → En → (En → Prop) → Prop
  | .d d, e, Q => Q (e.setC i (.d d))
  | .own ds, e, Q => Q (e.setC i (.own ds))
  | .dK ds, e, Q => Q (e.setC i (.dK ds))
  | .dT ds, e, Q => Q (e.setC i (.dT ds))
  | .nam j, e, Q => fz (.nam j) e fun d e1 => Q (e1.setC i (.d d))
theorem Rl.assign {i : Nat} {c : C} (I : Rl Γ κ env σ H) (hi : i < σ.length) (r : RelS Γ κ H (some (some v)) c) (hn : c.isOwn = true → ∀ j a, v = .ref a → ¬ OwnS env σ j a) : Rl Γ κ (env.setC i c) (σ.set i (some v)) H := by
  have hi' : i < env.sl.length := by rw [← I.len]; exact hi
  have old : ∀ m b, m ≠ i → OwnS (env.setC i c) (σ.set i (some v)) m b → OwnS env σ m b := fun m b hm ⟨z1, c', z2, z3⟩ => by
    have z2 : (env.sl.set i c)[m]? = some c' := z2
    rw [List.getElem?_set_ne (Ne.symm hm)] at z1 z2
    exact ⟨z1, c', z2, z3⟩
  have new : ∀ b, OwnS (env.setC i c) (σ.set i (some v)) i b → c.isOwn = true ∧ v = .ref b := fun b ⟨z1, c', z2, z3⟩ => by
    have z2 : (env.sl.set i c)[i]? = some c' := z2
    rw [List.getElem?_set_self hi] at z1
    rw [List.getElem?_set_self hi'] at z2
    cases z2
    exact ⟨z3, by cases z1; rfl⟩
  refine ⟨by simp [En.setC, I.len], fun j c' ec => ?_, fun j l b o1 o2 => ?_, I.gh⟩
  · have ec : (env.sl.set i c)[j]? = some c' := ec
    by_cases hj : j = i
    · subst hj
      rw [List.getElem?_set_self hi'] at ec
      cases ec
      rw [List.getElem?_set_self hi]
      exact r
    · rw [List.getElem?_set_ne (Ne.symm hj)] at ec ⊢
      exact I.get ec
  · by_cases hj : j = i
    · by_cases hl : l = i
      · exact hj.trans hl.symm
      · subst hj
        obtain ⟨n1, n2⟩ := new b o1
        exact absurd (old l b hl o2) (hn n1 l b n2)
    · by_cases hl : l = i
      · subst hl
        obtain ⟨n1, n2⟩ := new b o2
        exact absurd (old j b hj o1) (hn n1 j b n2)
      · exact I.dist j l b (old j b hj o1) (old l b hl o2)
theorem asg_ok {i : Nat} {r : R} {Q : En → Prop} {P : Prop} (I : Rl Γ κ env σ H) (hi : i < σ.length) (h : RelR Γ κ H env σ v r) (q : asgR i r env Q)
    (k : ∀ κ' env', Ext κ H κ' H → Rl Γ κ' env' (σ.set i (some v)) H → Q env' → P) : P := by
  cases r with
  | d d => exact k κ _ (.refl ..) (I.assign (c := .d d) hi ⟨v, rfl, h⟩ fun z => nomatch z) q
  | own ds =>
    obtain ⟨a, rfl, h1, h2⟩ := h
    exact k κ _ (.refl ..) (I.assign (c := .own ds) hi ⟨a, rfl, h1⟩ fun _ j b e => by cases e; exact h2 j) q
  | dK ds =>
    obtain ⟨a, rfl, h1, h2⟩ := h
    exact k κ _ (.refl ..) (I.assign (c := .dK ds) hi ⟨a, rfl, h1⟩ fun _ j b e => by cases e; exact h2 j) q
  | dT ds =>
    obtain ⟨a, rfl, h1, h2⟩ := h
    exact k κ _ (.refl ..) (I.assign (c := .dT ds) hi ⟨a, rfl, h1⟩ fun _ j b e => by cases e; exact h2 j) q
  | nam j =>
    have q : fz (.nam j) env (fun d e1 => Q (e1.setC i (.d d))) := q
    refine fz_ok I h q fun κ1 d e1 x1 I1 h1 q1 => ?_
    exact k κ1 _ x1 (I1.assign (c := .d d) hi ⟨v, rfl, h1⟩ fun z => nomatch z) q1
abbrev PTG := D → En → (En → Prop) → Prop
abbrev PTGs := List D → En → (En → Prop) → Prop
/-- vs: the slots that may be stored -/
def Off (vs : List Nat) (σ σ' : Sl) : Prop := σ'.length = σ.length ∧ ∀ j, j ∉ vs → σ'[j]? = σ[j]?
theorem Off.refl (vs : List Nat) (σ : Sl) : Off vs σ σ := ⟨rfl, fun _ _ => rfl⟩
theorem Off.trans {vs : List Nat} {σ σ1 σ2 : Sl} (a : Off vs σ σ1) (b : Off vs σ1 σ2) : Off vs σ σ2 := ⟨b.1.trans a.1, fun j h => (b.2 j h).trans (a.2 j h)⟩
theorem Off.mono {vs ws : List Nat} {σ σ' : Sl} (a : Off vs σ σ') (h : ∀ j ∈ vs, j ∈ ws) : Off ws σ σ' := ⟨a.1, fun j hj => a.2 j fun z => hj (h j z)⟩
structure VG (Y : Fam) (tg : Expr) (vs : List Nat) (t : PTG) : Prop where
  ex : ∃ rd : TG, (∀ i, PG (Y.X i) tg rd) ∧ ∀ (Γ : Gm) (σ : Sl) (κ : Ka) (H : Hp) (env : En) (v : V) (d : D) (Q : En → Prop) (Q' : Sl → Hp → Prop), GK Y Γ → Rl Γ κ env σ H → Rep Γ.K Γ.cls κ H v d → t d env Q →
    (∀ σ' env', Off vs σ σ' → Rl Γ κ env' σ' H → Q env' → Q' σ' H) → rd v σ H Q'
structure VGs (Y : Fam) (tg : List Expr) (vs : List Nat) (t : PTGs) : Prop where
  ex : ∃ rd : TGs, (∀ i, PGs (Y.X i) tg rd) ∧ ∀ (Γ : Gm) (σ : Sl) (κ : Ka) (H : Hp) (env : En) (ws : List V) (ds : List D) (Q : En → Prop) (Q' : Sl → Hp → Prop), GK Y Γ → Rl Γ κ env σ H → RepL Γ.K Γ.cls κ H ws ds → t ds env Q →
    (∀ σ' env', Off vs σ σ' → Rl Γ κ env' σ' H → Q env' → Q' σ' H) → rd ws σ H Q'
def gName (i : Nat) : PTG := fun d e Q => i < e.sl.length ∧ Q (e.setC i (.d d))
theorem vg_name {i : Nat} {x : Str} (hN : ∀ j, (Y.X j).N.Nodup) (hi : ∀ j, (Y.X j).N[i]? = some x := by intro _; rfl) (hx : ∀ j, Loc (Y.X j).env.scope x := by first | exact fun _ => Or.inl rfl | exact fun _ => Or.inr rfl)
    (hf : ∀ j, (Y.X j).fn x = true ∨ (Y.X j).env.scope.names.lookup x = some .local := by first | exact fun _ => .inl rfl | exact fun _ => .inr rfl | assumption) : VG Y (.Name x pos) [i] (gName i) := by
  refine ⟨⟨L2.gName i, fun j => pg_name (hN j) (hi j) (hx j) (hf j), fun Γ σ κ H env v d Q Q' hK I r q k => ?_⟩⟩
  have hl : i < σ.length := by rw [I.len]; exact q.1
  refine k _ _ ⟨by simp, fun j hj => List.getElem?_set_ne (fun z => hj (by simp [z]))⟩ (I.assign (c := .d d) hl ⟨v, rfl, r⟩ fun z => nomatch z) q.2
def gNil : PTGs := fun ds e Q => ds = [] ∧ Q e
def gCons (t : PTG) (u : PTGs) : PTGs := fun ds e Q => match ds with
  | d :: r => t d e fun e' => u r e' Q
  | [] => False
theorem vgs_nil : VGs Y [] [] gNil := ⟨⟨L2.gNil, fun _ => pgs_nil, fun Γ σ κ H env ws ds Q Q' hK I r q k => by
  obtain ⟨rfl, q⟩ := q
  cases r
  exact ⟨rfl, k σ env (.refl ..) I q⟩⟩⟩
theorem vgs_cons {vs ws : List Nat} {t : PTG} {u : PTGs} (h1 : VG Y e vs t) (h2 : VGs Y es ws u) (hs : ∀ X : Cx, (assignEach (e :: es) X.env).map (·.2) = assign e X.env :: (assignEach es X.env).map (·.2) := by intro _; rfl) : VGs Y (e :: es) (vs ++ ws) (gCons t u) := by
  obtain ⟨ra, pa, fa⟩ := h1.ex
  obtain ⟨rb, pb, fb⟩ := h2.ex
  refine ⟨⟨L2.gCons ra rb, fun i => pgs_cons (pa i) (pb i) (hs _), fun Γ σ κ H env ys ds Q Q' hK I r q k => ?_⟩⟩
  match ds, ys, r, q with
  | d :: ds, _, .cons (v := v) (vs := ys) r1 r2, q =>
    refine ⟨v, ys, rfl, fa Γ σ κ H env v d _ _ hK I r1 q fun σ1 e1 o1 I1 q1 => ?_⟩
    exact fb Γ σ1 κ H e1 ys ds _ _ hK I1 r2 q1 fun σ2 e2 o2 I2 q2 => k σ2 e2 ((o1.mono fun j h => List.mem_append_left _ h).trans (o2.mono fun j h => List.mem_append_right _ h)) I2 q2
def gTup (n : Nat) (t : PTGs) : PTG := fun d e Q => match d with
  | .tup ds => ds.length = n ∧ t ds e Q
  | _ => False
theorem vg_tup {k : Nat} {vs : List Nat} {n : Nat} {t : PTGs} (h : VGs Y es vs t) (hc : ∀ i, (Y.X i).calm = true := by intro _; rfl) (hn : ∀ X : Cx, (assignEach es X.env).length = n := by intro _; rfl) (hst : ∀ X : Cx, (assignEach es X.env).findIdx? (·.1) = none := by intro _; rfl) : VG Y (.Tuple es k pos) vs (gTup n t) := by
  obtain ⟨ra, pa, fa⟩ := h.ex
  refine ⟨⟨L2.gTup Y.K n ra, fun i => by have := pg_tup (pos := pos) (k := k) (hc i) (pa i) (hn _) (hst _); rw [Y.hK i] at this; exact this, fun Γ σ κ H env v d Q Q' hK I r q k => ?_⟩⟩
  cases d with
  | tup ds =>
    obtain ⟨a, vs, rfl, h1, h2, h3⟩ := r.sqT
    exact ⟨a, vs, rfl, by rw [← hK.k]; exact h1, h3.length.trans q.1, fa Γ σ κ H env vs ds Q Q' hK I h3 q.2 k⟩
  | _ => exact False.elim q
end
end Pu
set_option maxRecDepth 100000
set_option maxHeartbeats 4000000
namespace Pu
open PySem L2
section
variable {Γ : Gm} {κ κ' : Ka} {H H' : Hp} {env env' : En} {σ : Sl} {v : V} {st : Sto} {Y : Fam} {a b e : Expr} {es : List Expr} {ta tb te : PTE} {pos : Pos} {s : Stmt} {ss body : List Stmt} {t u : PTS}
def sNext : PTS := fun _ D e => D.nx e
def sSeq (t u : PTS) : PTS := fun x D e => t x { D with nx := u x D } e
theorem vss_nil : VSs Y [] sNext := ⟨⟨fun _ => tNext, fun _ => pss_nil, fun Γ σ κ H env D D' hK I q l => l.1 σ κ H env (.refl ..) I q⟩⟩
theorem vss_cons (h1 : VS Y s t) (h2 : VSs Y ss u) : VSs Y (s :: ss) (sSeq t u) := by
  obtain ⟨ra, pa, fa⟩ := h1.ex
  obtain ⟨rb, pb, fb⟩ := h2.ex
  refine ⟨⟨fun E => tSeq (ra E) (rb E), fun i => pss_cons (pa i) (pb i), fun Γ σ κ H env D D' hK I q l => ?_⟩⟩
  exact fa Γ σ κ H env { D with nx := u Γ.x D } { D' with nx := rb Γ.E D' } hK I q ⟨fun σ' κ' H' env' x I' q' => fb Γ σ' κ' H' env' D D' hK I' q' (l.ext x), l.2.1, l.2.2.1, l.2.2.2⟩
theorem vss_one (h1 : VS Y s t) : VSs Y [s] t := by
  obtain ⟨ra, pa, fa⟩ := h1.ex
  exact ⟨⟨ra, fun i => pss_one (pa i), fa⟩⟩
def sBreak : PTS := fun _ D e => D.bk e
def sCont : PTS := fun _ D e => D.ct e
def sDrop (te : PTE) : PTS := fun x D e => te x e fun _ e1 => D.nx e1
theorem vs_expr (he : VE Y e te) (hs : ∀ i, swapsWith e none pos.line (Y.X i).env = pure false := by intro _; rfl) : VS Y (.Expr e pos) (sDrop te) := by
  obtain ⟨ra, pa, fa⟩ := he.ex
  refine ⟨⟨fun E => tDrop (ra E), fun i => ps_expr (pa i) (hs i), fun Γ σ κ H env D D' hK I q l => ?_⟩⟩
  exact fa Γ σ κ H env _ _ hK I q fun v κ1 H1 r1 e1 x1 I1 h1 q1 => l.1 σ κ1 H1 e1 x1 I1 q1
/-- what is handed back -/
def retR (D : PEn) : R → En → Prop
  | .d d, e => D.rt (.d d) e
  | .own ds, e => D.rt (.own ds) e
  | .dK ds, e => D.rt (.dK ds) e
  | .dT ds, e => D.rt (.dT ds) e
  | .nam i, e => match e.sl[i]? with
    | some .un => False
    | some c => D.rt c e
    | none => False
def sRet (te : PTE) : PTS := fun x D e => te x e fun r e1 => retR D r e1
theorem vs_ret (he : VE Y e te) : VS Y (.Return (some e) pos) (sRet te) := by
  obtain ⟨ra, pa, fa⟩ := he.ex
  refine ⟨⟨fun E => tRet (ra E), fun i => ps_ret (pa i), fun Γ σ κ H env D D' hK I q l => ?_⟩⟩
  refine fa Γ σ κ H env _ _ hK I q fun v κ1 H1 r1 e1 x1 I1 h1 q1 => ?_
  cases r1 with
  | d d => exact l.2.1 v κ1 H1 (.d d) e1 x1 I1.gh h1 q1
  | own ds => obtain ⟨a, rfl, h1, _⟩ := h1; exact l.2.1 _ κ1 H1 (.own ds) e1 x1 I1.gh ⟨a, rfl, h1⟩ q1
  | dK ds => obtain ⟨a, rfl, h1, _⟩ := h1; exact l.2.1 _ κ1 H1 (.dK ds) e1 x1 I1.gh ⟨a, rfl, h1⟩ q1
  | dT ds => obtain ⟨a, rfl, h1, _⟩ := h1; exact l.2.1 _ κ1 H1 (.dT ds) e1 x1 I1.gh ⟨a, rfl, h1⟩ q1
  | nam i =>
    have h1 : σ[i]? = some (some v) := h1
    unfold retR at q1
    simp only at q1
    cases qe : e1.sl[i]? with
    | none => rw [qe] at q1; exact False.elim q1
    | some c =>
      have s := I1.get qe
      rw [qe] at q1
      cases c with
      | un => exact False.elim q1
      | d d => obtain ⟨w, g, r⟩ := s; rw [h1] at g; cases g; exact l.2.1 v κ1 H1 (.d d) e1 x1 I1.gh r q1
      | own ds => obtain ⟨w, g, r⟩ := s; rw [h1] at g; cases g; exact l.2.1 _ κ1 H1 (.own ds) e1 x1 I1.gh ⟨w, rfl, r⟩ q1
      | dK ds => obtain ⟨w, g, r⟩ := s; rw [h1] at g; cases g; exact l.2.1 _ κ1 H1 (.dK ds) e1 x1 I1.gh ⟨w, rfl, r⟩ q1
      | dT ds => obtain ⟨w, g, r⟩ := s; rw [h1] at g; cases g; exact l.2.1 _ κ1 H1 (.dT ds) e1 x1 I1.gh ⟨w, rfl, r⟩ q1
def sRetN : PTS := fun _ D e => D.rt (.d .non) e
def sIf (c : PTT) (t u : PTS) : PTS := fun x D e => c x e fun b e1 => if b = true then t x D e1 else u x D e1
theorem vs_if {c : Expr} {x y : List Stmt} {tc : PTT} (hc : VT Y c tc) (ha : VSs Y x t) (hb : VSs Y y u) : VS Y (.If c x y pos) (sIf tc t u) := by
  obtain ⟨rc, pc, fc⟩ := hc.ex
  obtain ⟨ra, pa, fa⟩ := ha.ex
  obtain ⟨rb, pb, fb⟩ := hb.ex
  refine ⟨⟨fun E => tIfS (rc E) (ra E) (rb E), fun i => ps_if (pc i) (pa i) (pb i), fun Γ σ κ H env D D' hK I q l => ?_⟩⟩
  refine fc Γ σ κ H env _ _ hK I q fun c κ1 H1 e1 x1 I1 q1 => ?_
  cases c with
  | true => exact fa Γ σ κ1 H1 e1 D D' hK I1 q1 (l.ext x1)
  | false => exact fb Γ σ κ1 H1 e1 D D' hK I1 q1 (l.ext x1)
def sAsg (i : Nat) (te : PTE) : PTS := fun x D e => te x e fun r e1 => i < e1.sl.length ∧ asgR i r e1 D.nx
theorem vs_set {i : Nat} {x : Str} {p' : Pos} (hN : ∀ j, (Y.X j).N.Nodup) (he : VE Y e te) (hi : ∀ j, (Y.X j).N[i]? = some x := by intro _; rfl) (hx : ∀ j, Loc (Y.X j).env.scope x := by first | exact fun _ => Or.inl rfl | exact fun _ => Or.inr rfl)
    (hs : ∀ j, swapsWith e (some (.Name x p')) pos.line (Y.X j).env = pure false := by intro _; rfl)
    (hf : ∀ j, (Y.X j).fn x = true ∨ (Y.X j).env.scope.names.lookup x = some .local := by first | exact fun _ => .inl rfl | exact fun _ => .inr rfl | assumption) : VS Y (.Assign [.Name x p'] e pos) (sAsg i te) := by
  obtain ⟨ra, pa, fa⟩ := he.ex
  refine ⟨⟨fun E => tAsg (ra E) (L2.gName i), fun j => ps_set (hN j) (hi j) (hx j) (pa j) (hs j) (hf j), fun Γ σ κ H env D D' hK I q l => ?_⟩⟩
  refine fa Γ σ κ H env _ _ hK I q fun v κ1 H1 r1 e1 x1 I1 h1 q1 => ?_
  exact asg_ok I1 (by rw [I1.len]; exact q1.1) h1 q1.2 fun κ2 e2 x2 I2 q2 => l.1 _ κ2 H1 e2 (x1.trans x2) I2 q2
/-- a target of names takes data -/
def sAsgG (g : PTG) (te : PTE) : PTS := fun x D e => te x e fun r e1 => fz r e1 fun d e2 => g d e2 D.nx
theorem vs_asgG {tg : Expr} {vs : List Nat} {g : PTG} (he : VE Y e te) (hg : VG Y tg vs g) (hs : ∀ i, swapsWithSole [tg] e pos.line (Y.X i).env = pure false := by intro _; rfl) (hw : ∀ i, swappedStores [tg] e (Y.X i).env = pure none := by intro _; rfl)
    (h1 : ∀ X : Cx, (assignEach [tg] X.env).map (·.2) = [assign tg X.env] := by intro _; rfl) : VS Y (.Assign [tg] e pos) (sAsgG g te) := by
  obtain ⟨ra, pa, fa⟩ := he.ex
  obtain ⟨rg, pg, fg⟩ := hg.ex
  refine ⟨⟨fun E => tAsg (ra E) rg, fun j => ps_asg (pa j) (pg j) (hs j) (hw j) (h1 _), fun Γ σ κ H env D D' hK I q l => ?_⟩⟩
  refine fa Γ σ κ H env _ _ hK I q fun v κ1 H1 r1 e1 x1 I1 h1 q1 => ?_
  refine fz_ok I1 h1 q1 fun κ2 d e2 x2 I2 h2 q2 => ?_
  exact fg Γ σ κ2 H1 e2 v d _ _ hK I2 h2 q2 fun σ' e3 _ I3 q3 => l.1 σ' κ2 H1 e3 (x1.trans x2) I3 q3
/-- a, b = x, y -/
def sPar (i j : Nat) (t : PTA) : PTS := fun x D e => t x e fun ds e1 => match ds with
  | [d1, d2] => i < e1.sl.length ∧ j < e1.sl.length ∧ D.nx ((e1.setC i (.d d1)).setC j (.d d2))
  | _ => False
theorem vs_par {i j : Nat} {x y : Str} {px py pt : Pos} {kt k2 pt2} {t : PTA} (hN : ∀ j, (Y.X j).N.Nodup) (ha : VA Y [a, b] t) (hij : i ≠ j := by decide) (hc : ∀ i, (Y.X i).calm = true := by intro _; rfl) (hi : ∀ k, (Y.X k).N[i]? = some x := by intro _; rfl) (hj : ∀ k, (Y.X k).N[j]? = some y := by intro _; rfl)
    (hx : ∀ k, (Y.X k).env.scope.names.lookup x = some .local := by intro _; rfl) (hy : ∀ k, (Y.X k).env.scope.names.lookup y = some .local := by intro _; rfl)
    (hw : ∀ k, swappedStores [.Tuple [.Name x px, .Name y py] kt pt] (.Tuple [a, b] k2 pt2) (Y.X k).env = pure (some [x, y]) := by intro _; rfl)
    (hs : ∀ k, swapsWithSole [.Tuple [.Name x px, .Name y py] kt pt] (.Tuple [a, b] k2 pt2) pos.line (Y.X k).env = pure false := by intro _; rfl) :
    VS Y (.Assign [.Tuple [.Name x px, .Name y py] kt pt] (.Tuple [a, b] k2 pt2) pos) (sPar i j t) := by
  obtain ⟨ra, pa, fa⟩ := ha.ex
  refine ⟨⟨fun E => tPar i j (ra E), fun k => ps_par (hc k) (hN k) (hi k) (hj k) hij (hx k) (hy k) (pa k) (hw k) (hs k), fun Γ σ κ H env D D' hK I q l => ?_⟩⟩
  refine fa Γ σ κ H env _ _ hK I q fun vs κ1 H1 ds e1 x1 I1 h1 q1 => ?_
  match ds, vs, h1, q1 with
  | [d1, d2], _, .cons (v := v1) r1 (.cons (v := v2) r2 .nil), q1 =>
    refine ⟨v1, v2, rfl, l.1 _ κ1 H1 _ x1 ?_ q1.2.2⟩
    have l1 : i < σ.length := by rw [I1.len]; exact q1.1
    have l2 : j < σ.length := by rw [I1.len]; exact q1.2.1
    have J := I1.assign (c := .d d1) l1 ⟨v1, rfl, r1⟩ fun z => nomatch z
    exact J.assign (c := .d d2) (by simpa using l2) ⟨v2, rfl, r2⟩ fun z => nomatch z
def sWhile (c : PTT) (tb : PTS) : PTS := fun x D e => ∃ (W : En → Prop) (m : En → Nat), W e ∧ ∀ e, W e →
  c x e fun b e1 => if b = true then tb x { D with nx := fun e' => W e' ∧ m e' < m e, ct := fun e' => W e' ∧ m e' < m e, bk := D.nx } e1 else D.nx e1
theorem vs_while {c : Expr} {tc : PTT} (hp : ∀ i, PassesOwn (model (Y.X i).prog (Y.X i).w) (Y.X i).A (Y.X i).env (Y.X i).xe) (hc : VT Y c tc) (hb : VSs Y body t) : VS Y (.While c body [] pos) (sWhile tc t) := by
  obtain ⟨rc, pc, fc⟩ := hc.ex
  obtain ⟨rb, pb, fb⟩ := hb.ex
  refine ⟨⟨fun E => tWhile (rc E) (rb E), fun i => ps_while (hp i) (pc i) (pb i), fun Γ σ κ H env D D' hK I q l => ?_⟩⟩
  obtain ⟨W, m, w0, turn⟩ := q
  refine ⟨fun n σ1 H1 => ∃ κ1 e1, Ext κ H κ1 H1 ∧ Rl Γ κ1 e1 σ1 H1 ∧ W e1 ∧ n = m e1, ⟨_, κ, env, .refl .., I, w0, rfl⟩, ?_⟩
  rintro n σ1 H1 ⟨κ1, e1, x1, I1, w1, rfl⟩
  refine fc Γ σ1 κ1 H1 e1 _ _ hK I1 (turn e1 w1) fun b κ2 H2 e2 x2 I2 q2 => ?_
  have x12 := x1.trans x2
  cases b with
  | true =>
    rw [if_pos rfl] at q2 ⊢
    refine ⟨fun σ' H' => ∃ κ' e', Ext κ H κ' H' ∧ Rl Γ κ' e' σ' H' ∧ W e' ∧ m e' < m e1, fun σ' H' ⟨κ', e', x', I', w', lt⟩ => ⟨_, lt, κ', e', x', I', w', rfl⟩, ?_⟩
    refine fb Γ σ1 κ2 H2 e2 _ _ hK I2 q2 ⟨fun σ' κ' H' e' x' I' q' => ⟨κ', e', x12.trans x', I', q'⟩, fun v κ' H' c e' x' g r q' => l.2.1 v κ' H' c e' (x12.trans x') g r q', fun σ' κ' H' e' x' I' q' => l.1 σ' κ' H' e' (x12.trans x') I' q', fun σ' κ' H' e' x' I' q' => ⟨κ', e', x12.trans x', I', q'⟩⟩
  | false =>
    rw [if_neg Bool.false_ne_true] at q2 ⊢
    exact l.1 σ1 κ2 H2 e2 x12 I2 q2
def Src (K : PySem.W.Frag) (cl : Cl) (κ : Ka) (H : Hp) (J : It) (items : List D) : Prop := ∀ (Γ : Gm), Γ.K = K → Γ.cls = cl → ∀ (σ : Sl) (κ1 : Ka) (H1 : Hp) (env : En) (i : Nat), Rl Γ κ1 env σ H1 → Ext κ H κ1 H1 →
  (∀ d, items[i]? = some d → J.go i H1 ∧ ∀ v H', J.yld i H1 v H' → ∃ κ', Ext κ1 H1 κ' H' ∧ Rl Γ κ' env σ H' ∧ Rep Γ.K Γ.cls κ' H' v d) ∧ (items.length = i → J.stop i H1)
abbrev PTI := PX → En → (List D → En → Prop) → Prop
structure VI (Y : Fam) (tg it : Expr) (t : PTI) : Prop where
  ex : ∃ rd : XK → TI, (∀ i, PI (Y.X i) tg it (rd (Y.E i))) ∧ ∀ (Γ : Gm) (σ : Sl) (κ : Ka) (H : Hp) (env : En) (Q : List D → En → Prop) (Q' : It → Hp → Prop), GK Y Γ → Rl Γ κ env σ H → t Γ.x env Q →
    (∀ J κ' H' items env', Ext κ H κ' H' → Rl Γ κ' env' σ H' → Src Γ.K Γ.cls κ' H' J items → Q items env' → Q' J H') → rd Γ.E σ H Q'
theorem Src.ext {K : PySem.W.Frag} {cl : Cl} {J : It} {items : List D} {κ1 : Ka} {H1 : Hp} (h : Src K cl κ H J items) (x : Ext κ H κ1 H1) : Src K cl κ1 H1 J items := fun Γ hK hc σ κ2 H2 env i I x2 => h Γ hK hc σ κ2 H2 env i I (x.trans x2)
theorem src_list {a : Addr} {vs : List V} {ds : List D} (hk : κ a = some .frz) (ha : H a = some (.lst vs)) (r : RepL Γ.K Γ.cls κ H vs ds) : Src Γ.K Γ.cls κ H (Itl Γ.K a) ds := by
  intro Γ2 hK hc
  rw [← hK, ← hc] at r
  rw [← hK]
  intro σ κ1 H1 env i I x
  have h1 : SqL Γ2.K H1 a vs := SqL.of ((x.2 a hk).trans ha)
  refine ⟨fun d e => ?_, fun e => ⟨vs, h1, by rw [r.length, e]; exact Nat.le_refl _⟩⟩
  obtain ⟨v, e1, r1⟩ := r.get e
  refine ⟨⟨vs, v, h1, e1⟩, fun w H' y => ?_⟩
  obtain ⟨rfl, y⟩ := y
  have := y vs h1
  rw [e1] at this
  cases this
  exact ⟨κ1, .refl .., I, r1.mono x⟩
theorem src_tup {a : Addr} {vs : List V} {ds : List D} (h : Rep Γ.K Γ.cls κ H (.ref a) (.tup ds)) : Src Γ.K Γ.cls κ H (Itt Γ.K a) ds := by
  intro Γ2 hK hc
  rw [← hK, ← hc] at h
  rw [← hK]
  intro σ κ1 H1 env i I x
  obtain ⟨b, vs, e0, h1, _, r⟩ := (h.mono x).sqT
  cases e0
  refine ⟨fun d e => ?_, fun e => ⟨vs, h1, by rw [r.length, e]; exact Nat.le_refl _⟩⟩
  obtain ⟨v, e1, r1⟩ := r.get e
  refine ⟨⟨vs, v, h1, e1⟩, fun w H' y => ?_⟩
  obtain ⟨rfl, y⟩ := y
  have := y vs h1
  rw [e1] at this
  cases this
  exact ⟨κ1, .refl .., I, r1⟩
/-- a text, sign by sign -/
def signs (s : List Nat) : List D := s.map fun c => .str [c]
theorem src_str {K : PySem.W.Frag} {cl : Cl} {s : List Nat} (hs : SOk s) : Src K cl κ H (Its ⟨s.toArray⟩) (signs s) := by
  intro Γ2 hK hc σ κ1 H1 env i I x
  refine ⟨fun d e => ?_, fun e => ?_⟩
  · unfold signs at e
    rw [List.getElem?_map] at e
    cases q : s[i]? with
    | none => rw [q] at e; cases e
    | some c =>
      rw [q] at e
      cases e
      refine ⟨?_, fun v H' y => ?_⟩
      · show i < s.toArray.size
        rw [List.size_toArray]
        exact (List.getElem?_eq_some_iff.mp q).1
      · obtain ⟨rfl, c', e1, rfl⟩ := y
        have e1 : s.toArray[i]? = some c' := e1
        rw [List.getElem?_toArray, q] at e1
        cases e1
        exact ⟨κ1, .refl .., I, .str _ (hs.one (List.mem_of_getElem? q))⟩
  · show s.toArray.size ≤ i
    rw [List.size_toArray, ← e]
    unfold signs
    rw [List.length_map]
    exact Nat.le_refl _
/-- range -/
def rngI (lo : Int) (n : Nat) : List D := (List.range n).map fun (i : Nat) => .int (lo + i)
theorem src_range {K : PySem.W.Frag} {cl : Cl} {lo : Int} {n : Nat} : Src K cl κ H (Itr lo n) (rngI lo n) := by
  intro Γ2 hK hc σ κ1 H1 env i I x
  refine ⟨fun d e => ?_, fun e => ?_⟩
  · unfold rngI at e
    rw [List.getElem?_map] at e
    by_cases hi : i < n
    · rw [List.getElem?_range hi] at e
      cases e
      refine ⟨hi, fun v H' y => ?_⟩
      obtain ⟨rfl, rfl⟩ := y
      exact ⟨κ1, .refl .., I, .int _⟩
    · rw [List.getElem?_eq_none (by simpa using hi)] at e
      cases e
  · show n ≤ i
    rw [← e]
    unfold rngI
    simp
def pRng1 : List D → (List D → Prop) → Prop
  | [.int j], Q => (-(2 ^ 62) ≤ j ∧ j < 2 ^ 62) ∧ Q (rngI 0 j.toNat)
  | _, _ => False
def pRng2 : List D → (List D → Prop) → Prop
  | [.int i, .int j], Q => (-(2 ^ 62) ≤ i ∧ i < 2 ^ 62 ∧ -(2 ^ 62) ≤ j ∧ j < 2 ^ 62) ∧ Q (rngI i (j - i).toNat)
  | _, _ => False
def iPure (p : List D → (List D → Prop) → Prop) (t : PTR) : PTI := fun x e Q => t x e fun rs e1 => match rvL rs e1 with
  | some ds => p ds (fun l => Q l e1)
  | none => False
theorem vi_range1 {tg : Expr} {p : Pos} {t : PTR} (hm : ∀ i, (Y.X i).mg "range" = none) (ha : VR Y [a] t) (hg : ∀ i, Gl (Y.X i) "range" := by intro _; rfl) (hs : ∀ X : Cx, starEach [a] X.env = [(false, eval a X.env)] := by intro _; rfl) : VI Y tg (.Call (.Name "range" p) [a] [] pos) (iPure pRng1 t) := by
  obtain ⟨ra, pa, fa⟩ := ha.ex
  refine ⟨⟨fun E => iRng1 (ra E), fun i => pi_range1 (hg i) (hm i) (pa i) (hs _), fun Γ σ κ H env Q Q' hK I q k => ?_⟩⟩
  refine fa Γ σ κ H env _ _ hK I q fun vs κ1 H1 rs e1 x1 I1 h1 q1 => ?_
  cases e : rvL rs e1 with
  | none => rw [e] at q1; exact False.elim q1
  | some ds =>
    rw [e] at q1
    have rt := rvL_ok I1 h1 e
    match ds, vs, rt, q1 with
    | [.int j], _, .cons h .nil, q1 =>
      cases h
      exact ⟨j, rfl, q1.1.1, q1.1.2, k _ κ1 H1 _ e1 x1 I1 src_range q1.2⟩
def forR (g : PTG) (tb : PTS) (x : PX) (P : PEn) : List D → En → Prop
  | [], e => P.nx e
  | d :: ds, e => g d e fun e' => tb x { P with nx := forR g tb x P ds, ct := forR g tb x P ds, bk := P.nx } e'
def sFor (ti : PTI) (g : PTG) (tb : PTS) : PTS := fun x D e => ti x e fun items e1 => forR g tb x D items e1
theorem vs_for {tg it : Expr} {ti : PTI} {g : PTG} {vs : List Nat} (hp : ∀ i, PassesOwn (model (Y.X i).prog (Y.X i).w) (Y.X i).A (Y.X i).env (Y.X i).xe) (hi : VI Y tg it ti) (hg : VG Y tg vs g) (hb : VSs Y body t)
    (hc : ∀ i, (Y.X i).calm = true := by intro _; rfl) (hs : ∀ (X : Cx) x, foldedSetIterable it X.env x = pure x := by intro _ _; rfl) : VS Y (.For tg it body [] pos) (sFor ti g t) := by
  obtain ⟨ri, pi, fi⟩ := hi.ex
  obtain ⟨rg, pg, fg⟩ := hg.ex
  obtain ⟨rb, pb, fb⟩ := hb.ex
  refine ⟨⟨fun E => tFor (ri E) rg (rb E), fun i => ps_for (hp i) (hc i) (pi i) (pg i) (pb i) (hs _), fun Γ σ κ H env D D' hK I q l => ?_⟩⟩
  refine fi Γ σ κ H env _ _ hK I q fun J κ1 H1 items e1 x1 I1 src q1 => ?_
  refine ⟨fun i m σ2 H2 => ∃ κ2 e2, Ext κ1 H1 κ2 H2 ∧ Rl Γ κ2 e2 σ2 H2 ∧ m = items.length - i ∧ i ≤ items.length ∧ forR g t Γ.x D (items.drop i) e2, ⟨_, κ1, e1, .refl .., I1, rfl, Nat.zero_le _, q1⟩, ?_⟩
  rintro i m σ2 H2 ⟨κ2, e2, x2, I2, rfl, hi, q2⟩
  obtain ⟨s1, s2⟩ := src Γ rfl rfl σ2 κ2 H2 e2 i I2 x2
  by_cases hlt : i < items.length
  · have hd : items.drop i = items[i] :: items.drop (i + 1) := List.drop_eq_getElem_cons hlt
    rw [hd] at q2
    obtain ⟨go, yl⟩ := s1 items[i] (List.getElem?_eq_getElem hlt)
    refine .inr ⟨go, fun σ' H' => ∃ κ' e', Ext κ1 H1 κ' H' ∧ Rl Γ κ' e' σ' H' ∧ forR g t Γ.x D (items.drop (i + 1)) e', fun σ' H' ⟨κ', e', x', I', q'⟩ => ⟨items.length - (i + 1), by omega, κ', e', x', I', rfl, hlt, q'⟩, fun v H' y => ?_⟩
    obtain ⟨κ3, x3, I3, r3⟩ := yl v H' y
    refine fg Γ σ2 κ3 H' e2 v _ _ _ hK I3 r3 q2 fun σ4 e4 _ I4 q4 => ?_
    have x13 := x2.trans x3
    exact fb Γ σ4 κ3 H' e4 _ _ hK I4 q4 ⟨fun σ' κ' H' e' x' I' q' => ⟨κ', e', x13.trans x', I', q'⟩, fun v κ' H' c e' x' gg r q' => l.2.1 v κ' H' c e' (x1.trans (x13.trans x')) gg r q', fun σ' κ' H' e' x' I' q' => l.1 σ' κ' H' e' (x1.trans (x13.trans x')) I' q', fun σ' κ' H' e' x' I' q' => ⟨κ', e', x13.trans x', I', q'⟩⟩
  · have e : i = items.length := by omega
    subst e
    rw [List.drop_length] at q2
    exact .inl ⟨s2 rfl, l.1 σ2 κ2 H2 e2 (x1.trans x2) I2 q2⟩
end
end Pu
set_option maxRecDepth 100000
set_option maxHeartbeats 4000000
namespace Pu
open PySem L2
section
variable {Γ Γ' : Gm} {κ κ' : Ka} {H H' : Hp} {env env' : En} {σ : Sl} {v : V} {st : Sto} {Y : Fam} {a b e : Expr} {es : List Expr} {ta tb te : PTE} {pos : Pos}
theorem OwnC.switch {a : Addr} {c : C} (hK : Γ'.K = Γ.K) (hc : Γ'.cls = Γ.cls) (h0 : Γ'.H0 a = none) (h : OwnC Γ κ H a c) : OwnC Γ' κ H a c := by
  cases c with
  | own ds => obtain ⟨h1, _, vs, h2, h3, h4⟩ := h; exact ⟨h1, h0, vs, h2, h3, by rw [hK, hc]; exact h4⟩
  | dK ds => obtain ⟨h1, _, vs, h2, h4⟩ := h; exact ⟨h1, h0, vs, h2, by rw [hK, hc]; exact h4⟩
  | dT ds => obtain ⟨h1, _, vs, h2, h4⟩ := h; exact ⟨h1, h0, vs, h2, by rw [hK, hc]; exact h4⟩
  | _ => exact h.elim
theorem ObjR.switch {a : Addr} {so : SO} (hK : Γ'.K = Γ.K) (hc : Γ'.cls = Γ.cls) (h : ObjR Γ κ H a so) : ObjR Γ' κ H a so := by
  cases so with
  | lst ds => obtain ⟨vs, h1, h2, h3⟩ := h; exact ⟨vs, h1, h2, by rw [hK, hc]; exact h3⟩
  | dK ds => obtain ⟨vs, h1, h3⟩ := h; exact ⟨vs, h1, by rw [hK, hc]; exact h3⟩
  | dT ds => obtain ⟨vs, h1, h3⟩ := h; exact ⟨vs, h1, by rw [hK, hc]; exact h3⟩
  | ins c fs => obtain ⟨dx, vs, h1, h3⟩ := h; exact ⟨dx, vs, by rw [hc]; exact h1, by rw [hK, hc]; exact h3⟩
  | exc c ds => exact h
theorem Rl.switch (hK : Γ'.K = Γ.K) (hc : Γ'.cls = Γ.cls) (I : Rl Γ κ env σ H) (own : ∀ i a, OwnS env σ i a → Γ'.H0 a = none) (g : Gh Γ' κ env.st H) : Rl Γ' κ env σ H := by
  refine ⟨I.len, fun i c ec => ?_, I.dist, g⟩
  have s := I.get ec
  cases h : c.isOwn with
  | true =>
    obtain ⟨a, e1, ho⟩ := s.own h
    exact .mk e1 (ho.switch hK hc (own i a ⟨e1, c, ec, h⟩))
  | false =>
    cases c with
    | un => trivial
    | d d => obtain ⟨v, e1, r⟩ := s; exact ⟨v, e1, by rw [hK, hc]; exact r⟩
    | _ => cases h
/-- one address more stands still; no exception leaves -/
def Gm.prot (Γ : Gm) (D : Addr) (o : HO) : Gm := { Γ with H0 := upd Γ.H0 D o, E := E0, x := fun _ _ => False }
theorem Rl.prot {D : Addr} {o : HO} (I : Rl Γ κ env σ H) (h : H D = some o) (hk : κ D = none) (ho : ∀ i, ¬ OwnS env σ i D) : Rl (Γ.prot D o) κ env σ H := by
  have nk : Γ.k0 D = none := by
    cases q : Γ.k0 D with
    | none => rfl
    | some x => have := I.gh.sub D x q; rw [hk] at this; cases this
  have g := I.gh
  refine Rl.switch (Γ := Γ) (Γ' := Γ.prot D o) rfl rfl I (fun i a hs => ?_) ⟨g.sub, fun a x e => ?_, g.trk, fun a e => ?_, g.box, fun a k e => ?_, g.inj, fun a u e hk' => ?_⟩
  · have hne : a ≠ D := fun z => ho i (z ▸ hs)
    show upd Γ.H0 D o a = none
    rw [upd_ne hne]
    obtain ⟨c, _, hc⟩ := I.ownS hs
    exact hc.facts.2.1
  · have hne : a ≠ D := fun q => by rw [q, hk] at e; cases e
    rcases g.new a x e with z | z | ⟨z1, vs, z⟩
    · exact .inl z
    · refine .inr (.inl ?_)
      show upd Γ.H0 D o a = none
      rw [upd_ne hne]
      exact z
    · refine .inr (.inr ⟨z1, vs, ?_⟩)
      show upd Γ.H0 D o a = _
      rw [upd_ne hne]
      exact z
  · by_cases ha : a = D
    · rw [ha, h]; simp
    · have e : upd Γ.H0 D o a ≠ none := e
      rw [upd_ne ha] at e
      exact g.trk0 a e
  · obtain ⟨so, h1, h2⟩ := g.obj a k e
    exact ⟨so, h1, h2.switch rfl rfl⟩
  · have e : upd Γ.H0 D o a = some u := e
    by_cases ha : a = D
    · subst ha
      rw [upd_same] at e
      cases e
      exact h
    · rw [upd_ne ha] at e
      exact g.base a u e hk'
theorem Rl.unprot {D : Addr} {o : HO} (I : Rl (Γ.prot D o) κ env σ H) (nk : Γ.k0 D = none) (h0 : Γ.H0 D = none) (hot : ∀ vs, o ≠ .tup vs := by intro _ z; cases z) : Rl Γ κ env σ H ∧ κ D = none ∧ H D = some o ∧ ∀ i, ¬ OwnS env σ i D := by
  have g := I.gh
  have hD : (Γ.prot D o).H0 D = some o := upd_same
  have kD : κ D = none := by
    cases q : κ D with
    | none => rfl
    | some x =>
      rcases g.new D x q with z | z | ⟨_, vs, z⟩
      · have z : Γ.k0 D = some x := z
        rw [nk] at z; cases z
      · rw [hD] at z; cases z
      · rw [hD] at z; exact (hot vs (Option.some.inj z)).elim
  have ho : ∀ i, ¬ OwnS env σ i D := fun i hs => by
    obtain ⟨c, _, hc⟩ := I.ownS hs
    have := hc.facts.2.1
    rw [hD] at this; cases this
  have low : ∀ a, (Γ.prot D o).H0 a = none → Γ.H0 a = none := fun a z => by
    by_cases ha : a = D
    · rw [ha]; exact h0
    · have z : upd Γ.H0 D o a = none := z
      rw [upd_ne ha] at z; exact z
  have up : ∀ a u, Γ.H0 a = some u → (Γ.prot D o).H0 a = some u := fun a u z => by
    show upd Γ.H0 D o a = some u
    rw [upd_ne (fun q => by rw [q, h0] at z; cases z)]; exact z
  refine ⟨Rl.switch (Γ := Γ.prot D o) (Γ' := Γ) rfl rfl I (fun i a hs => ?_) ⟨g.sub, fun a x e => ?_, g.trk, fun a e => ?_, g.box, fun a k e => ?_, g.inj, fun a u e hk' => g.base a u (up a u e) hk'⟩, kD, g.base D o hD (.inl nk), ho⟩
  · obtain ⟨c, _, hc⟩ := I.ownS hs
    exact low a hc.facts.2.1
  · rcases g.new a x e with z | z | ⟨z1, vs, z⟩
    · exact .inl z
    · exact .inr (.inl (low a z))
    · refine .inr (.inr ⟨z1, vs, ?_⟩)
      have z : upd Γ.H0 D o a = some (.tup vs) := z
      rw [upd_ne (fun q => by rw [q, kD] at e; cases e)] at z
      exact z
  · refine g.trk0 a ?_
    cases q : Γ.H0 a with
    | none => exact absurd q e
    | some u => rw [up a u q]; simp
  · obtain ⟨so, h1, h2⟩ := g.obj a k e
    exact ⟨so, h1, h2.switch rfl rfl⟩
def Fam.blk (Y : Fam) (scope : Scope) : Fam where
  ι := Y.ι × Shared × Hp × Addr × List (Str × Addr) × List Addr
  X := fun p => (Y.X p.1).blk p.2.1 p.2.2.1 scope (compEnvC scope p.2.2.2.2.1 p.2.2.2.1 (Y.X p.1).env) p.2.2.2.2.2
  E := fun _ => E0
  K := Y.K
  hK := fun p => Y.hK p.1
  cls := Y.cls
  flds := Y.flds
def wipeC (l : List C) : List Nat → List C
  | [] => l
  | v :: vs => (wipeC l vs).set v .un
def wipeE (vs : List Nat) (e : En) : En := ⟨wipeC e.sl vs, e.st⟩
def restC (old : List C) (l : List C) : List Nat → List C
  | [] => l
  | v :: vs => (restC old l vs).set v (old.getD v .un)
def restE (vs : List Nat) (old e : En) : En := ⟨restC old.sl e.sl vs, e.st⟩
def plainC (l : List C) : List Nat → Bool
  | [] => true
  | v :: vs => (match l.getD v .un with | .d _ => true | .un => true | _ => false) && plainC l vs
theorem wipeC_length (l : List C) : ∀ vs, (wipeC l vs).length = l.length
  | [] => rfl
  | v :: vs => by unfold wipeC; rw [List.length_set, wipeC_length l vs]
theorem restC_length (old l : List C) : ∀ vs, (restC old l vs).length = l.length
  | [] => rfl
  | v :: vs => by unfold restC; rw [List.length_set, restC_length old l vs]
theorem wipeC_get {l : List C} {i : Nat} : ∀ {vs : List Nat}, (wipeC l vs)[i]? = if i ∈ vs then l[i]?.map (fun _ => C.un) else l[i]?
  | [] => by simp [wipeC]
  | v :: vs => by
    unfold wipeC
    by_cases hi : v = i
    · subst hi
      rw [if_pos (by simp)]
      by_cases hl : v < l.length
      · rw [List.getElem?_set_self (by rw [wipeC_length]; exact hl), List.getElem?_eq_getElem hl]; rfl
      · rw [List.getElem?_eq_none (by rw [List.length_set, wipeC_length]; omega), List.getElem?_eq_none (by omega)]; rfl
    · rw [List.getElem?_set_ne hi, wipeC_get (vs := vs)]
      have : i ∈ v :: vs ↔ i ∈ vs := by simp [Ne.symm hi]
      by_cases h : i ∈ vs
      · rw [if_pos h, if_pos (this.mpr h)]
      · rw [if_neg h, if_neg (fun z => h (this.mp z))]
theorem restC_get {old l : List C} {i : Nat} : ∀ {vs : List Nat}, (restC old l vs)[i]? = if i ∈ vs then l[i]?.map (fun _ => old.getD i .un) else l[i]?
  | [] => by simp [restC]
  | v :: vs => by
    unfold restC
    by_cases hi : v = i
    · subst hi
      rw [if_pos (by simp)]
      by_cases hl : v < l.length
      · rw [List.getElem?_set_self (by rw [restC_length]; exact hl), List.getElem?_eq_getElem hl]; rfl
      · rw [List.getElem?_eq_none (by rw [List.length_set, restC_length]; omega), List.getElem?_eq_none (by omega)]; rfl
    · rw [List.getElem?_set_ne hi, restC_get (vs := vs)]
      have : i ∈ v :: vs ↔ i ∈ vs := by simp [Ne.symm hi]
      by_cases h : i ∈ vs
      · rw [if_pos h, if_pos (this.mpr h)]
      · rw [if_neg h, if_neg (fun z => h (this.mp z))]
theorem wipe_get {σ : Sl} {i : Nat} : ∀ {vs : List Nat}, (L2.wipe σ vs)[i]? = if i ∈ vs then σ[i]?.map (fun _ => none) else σ[i]?
  | [] => by simp [L2.wipe]
  | v :: vs => by
    unfold L2.wipe
    by_cases hi : v = i
    · subst hi
      rw [if_pos (by simp)]
      by_cases hl : v < σ.length
      · rw [List.getElem?_set_self (by rw [wipe_length]; exact hl), List.getElem?_eq_getElem hl]; rfl
      · rw [List.getElem?_eq_none (by rw [List.length_set, wipe_length]; omega), List.getElem?_eq_none (by omega)]; rfl
    · rw [List.getElem?_set_ne hi, wipe_get (vs := vs)]
      have : i ∈ v :: vs ↔ i ∈ vs := by simp [Ne.symm hi]
      by_cases h : i ∈ vs
      · rw [if_pos h, if_pos (this.mpr h)]
      · rw [if_neg h, if_neg (fun z => h (this.mp z))]
/-- off vs both are the same -/
theorem wipe_off {vs : List Nat} {σ σ' : Sl} (o : Off vs (L2.wipe σ vs) σ') : L2.wipe σ' vs = L2.wipe σ vs := by
  apply List.ext_getElem?
  intro i
  rw [wipe_get, wipe_get]
  by_cases h : i ∈ vs
  · rw [if_pos h, if_pos h]
    have l := o.1
    rw [wipe_length] at l
    by_cases hl : i < σ.length
    · rw [List.getElem?_eq_getElem hl, List.getElem?_eq_getElem (show i < σ'.length by omega)]; rfl
    · rw [List.getElem?_eq_none (by omega), List.getElem?_eq_none (by omega)]
  · rw [if_neg h, if_neg h, o.2 i h, wipe_get, if_neg h]
theorem OwnS.unwipe {vs : List Nat} {i : Nat} {a : Addr} (h : OwnS (wipeE vs env) (L2.wipe σ vs) i a) : OwnS env σ i a := by
  obtain ⟨z1, c, z2, z3⟩ := h
  have z2 : (wipeC env.sl vs)[i]? = some c := z2
  rw [wipeC_get] at z2
  rw [wipe_get] at z1
  by_cases h : i ∈ vs
  · rw [if_pos h] at z2
    cases q : env.sl[i]? with
    | none => rw [q] at z2; cases z2
    | some c' => rw [q] at z2; cases z2; cases z3
  · rw [if_neg h] at z1 z2
    exact ⟨z1, c, z2, z3⟩
theorem Rl.wipe {vs : List Nat} (I : Rl Γ κ env σ H) : Rl Γ κ (wipeE vs env) (L2.wipe σ vs) H := by
  have sub : ∀ i a, OwnS (wipeE vs env) (L2.wipe σ vs) i a → OwnS env σ i a := fun i a h => h.unwipe
  refine ⟨by rw [wipe_length, I.len]; exact (wipeC_length _ _).symm, fun i c ec => ?_, fun i j a h1 h2 => I.dist i j a (sub i a h1) (sub j a h2), I.gh⟩
  have ec : (wipeC env.sl vs)[i]? = some c := ec
  rw [wipeC_get] at ec
  rw [wipe_get]
  by_cases h : i ∈ vs
  · rw [if_pos h] at ec
    cases q : env.sl[i]? with
    | none => rw [q] at ec; cases ec
    | some c' => rw [q] at ec; cases ec; trivial
  · rw [if_neg h] at ec ⊢
    exact I.get ec
theorem plainC_at {l : List C} : ∀ {ws : List Nat}, plainC l ws = true → ∀ i ∈ ws, l.getD i .un = .un ∨ ∃ d, l.getD i .un = .d d
  | [], _, i, hi => by cases hi
  | w :: ws, h, i, hi => by
    unfold plainC at h
    rw [Bool.and_eq_true] at h
    rcases List.mem_cons.mp hi with rfl | hi
    · cases q : l.getD i .un with
      | un => exact .inl rfl
      | d d => exact .inr ⟨d, rfl⟩
      | own _ => rw [q] at h; cases h.1
      | dK _ => rw [q] at h; cases h.1
      | dT _ => rw [q] at h; cases h.1
    · exact plainC_at h.2 i hi
theorem OwnS.unrest {vs : List Nat} {e0 : En} {i : Nat} {a : Addr} (hp : plainC e0.sl vs = true) (h : OwnS (restE vs e0 env) σ i a) : OwnS env (L2.wipe σ vs) i a := by
  obtain ⟨z1, c, z2, z3⟩ := h
  have z2 : (restC e0.sl env.sl vs)[i]? = some c := z2
  rw [restC_get] at z2
  by_cases h : i ∈ vs
  · rw [if_pos h] at z2
    cases q : env.sl[i]? with
    | none => rw [q] at z2; cases z2
    | some c' =>
      rw [q] at z2
      cases z2
      rcases plainC_at hp i h with z | ⟨d, z⟩ <;> (rw [z] at z3; cases z3)
  · rw [if_neg h] at z2
    exact ⟨by rw [wipe_get, if_neg h]; exact z1, c, z2, z3⟩
/-- the block's names as they were ahead -/
theorem Rl.rest {vs : List Nat} {e0 : En} {κ0 : Ka} {H0 : Hp} (I0 : Rl Γ κ0 e0 σ H0) (hp : plainC e0.sl vs = true) (x : Ext κ0 H0 κ H) (I : Rl Γ κ env (L2.wipe σ vs) H) : Rl Γ κ (restE vs e0 env) σ H := by
  have pl := fun i hi => plainC_at hp i hi
  have hl : env.sl.length = σ.length := by rw [← I.len, wipe_length]
  have sub : ∀ i a, OwnS (restE vs e0 env) σ i a → OwnS env (L2.wipe σ vs) i a := fun i a h => h.unrest hp
  refine ⟨by rw [← hl]; exact (restC_length _ _ _).symm, fun i c ec => ?_, fun i j a h1 h2 => I.dist i j a (sub i a h1) (sub j a h2), I.gh⟩
  have ec : (restC e0.sl env.sl vs)[i]? = some c := ec
  rw [restC_get] at ec
  by_cases h : i ∈ vs
  · rw [if_pos h] at ec
    cases q : env.sl[i]? with
    | none => rw [q] at ec; cases ec
    | some c' =>
      rw [q] at ec
      cases ec
      have hi : i < e0.sl.length := by rw [← I0.len, ← hl]; exact (List.getElem?_eq_some_iff.mp q).1
      have g : e0.sl[i]? = some (e0.sl.getD i .un) := by rw [List.getD_eq_getElem?_getD, List.getElem?_eq_getElem hi]; rfl
      have s := I0.get g
      rcases pl i h with z | ⟨d, z⟩
      · rw [z]; trivial
      · rw [z] at s ⊢
        obtain ⟨w, e1, r⟩ := s
        exact ⟨w, e1, r.mono x⟩
  · rw [if_neg h] at ec
    have s := I.get ec
    rw [wipe_get, if_neg h] at s
    exact s
structure VTs (Y : Fam) (ifs : List Expr) (t : PTT) : Prop where
  ex : ∃ rd : XK → TT, (∀ i, PTs (Y.X i) ifs (rd (Y.E i))) ∧ ∀ (Γ : Gm) (σ : Sl) (κ : Ka) (H : Hp) (env : En) (Q : Bool → En → Prop) (Q' : Bool → Hp → Prop), GK Y Γ → Rl Γ κ env σ H → t Γ.x env Q →
    (∀ b κ' H' env', Ext κ H κ' H' → Rl Γ κ' env' σ H' → Q b env' → Q' b H') → rd Γ.E σ H Q'
def cYes : PTT := fun _ e Q => Q true e
theorem vts_nil : VTs Y [] cYes := ⟨⟨fun _ => tYes, fun _ => pts_nil, fun Γ σ κ H env Q Q' hK I q k => k true κ H env (.refl ..) I q⟩⟩
theorem vts_one {c : Expr} {t : PTT} (h : VT Y c t) : VTs Y [c] t := by
  obtain ⟨ra, pa, fa⟩ := h.ex
  exact ⟨⟨ra, fun i => pts_one (pa i), fa⟩⟩
def noX : PX := fun _ _ => False
def lcR (g : PTG) (tt : PTT) (te : PTE) (vs : List Nat) : List D → List D → En → (List D → En → Prop) → Prop
  | [], acc, e, Q => Q acc e
  | d :: ds, acc, e, Q => g d e fun e1 => tt noX e1 fun b e2 => if b = true then te noX e2 fun r e3 => fz r e3 fun y e4 => lcR g tt te vs ds (acc ++ [y]) (wipeE vs e4) Q else lcR g tt te vs ds acc (wipeE vs e2) Q
def cLc (ti : PTI) (g : PTG) (tt : PTT) (te : PTE) (vs : List Nat) : PTE := fun x e Q => ti x e fun items e1 => items.length ≤ sizeLine ∧ plainC e1.sl vs = true ∧
  lcR g tt te vs items [] (wipeE vs e1) fun acc e2 => Q (.own acc) (restE vs e1 e2)
theorem lc_ref {scope : Scope} {tg it elt : Expr} {ifs : List Expr} {own : List (Str × Nat)} {ti : PTI} {g : PTG} {tt : PTT} {te : PTE} {vs : List Nat} {ri : XK → TI} {rg : TG} {rt : TT} {re : TE}
    (hv : own.map (·.2) = vs)
    (fi : ∀ (Γ : Gm) (σ : Sl) (κ : Ka) (H : Hp) (env : En) (Q : List D → En → Prop) (Q' : It → Hp → Prop), GK Y Γ → Rl Γ κ env σ H → ti Γ.x env Q →
    (∀ J κ' H' items env', Ext κ H κ' H' → Rl Γ κ' env' σ H' → Src Γ.K Γ.cls κ' H' J items → Q items env' → Q' J H') → ri Γ.E σ H Q')
    (fg : ∀ (Γ : Gm) (σ : Sl) (κ : Ka) (H : Hp) (env : En) (v : V) (d : D) (Q : En → Prop) (Q' : Sl → Hp → Prop), GK (Y.blk scope) Γ → Rl Γ κ env σ H → Rep Γ.K Γ.cls κ H v d → g d env Q →
    (∀ σ' env', Off vs σ σ' → Rl Γ κ env' σ' H → Q env' → Q' σ' H) → rg v σ H Q')
    (ft : ∀ (Γ : Gm) (σ : Sl) (κ : Ka) (H : Hp) (env : En) (Q : Bool → En → Prop) (Q' : Bool → Hp → Prop), GK (Y.blk scope) Γ → Γ.E = E0 → Rl Γ κ env σ H → tt Γ.x env Q →
    (∀ b κ' H' env', Ext κ H κ' H' → Rl Γ κ' env' σ H' → Q b env' → Q' b H') → rt σ H Q')
    (fe : ∀ (Γ : Gm) (σ : Sl) (κ : Ka) (H : Hp) (env : En) (Q : R → En → Prop) (Q' : VK), GK (Y.blk scope) Γ → Γ.E = E0 → Rl Γ κ env σ H → te Γ.x env Q →
    (∀ v κ' H' r env', Ext κ H κ' H' → Rl Γ κ' env' σ H' → RelR Γ κ' H' env' σ v r → Q r env' → Q' v H') → re σ H Q')
    {Q : R → En → Prop} {Q' : VK} (hK : GK Y Γ) (I : Rl Γ κ env σ H) (q : cLc ti g tt te vs Γ.x env Q)
    (k : ∀ v κ' H' r env', Ext κ H κ' H' → Rl Γ κ' env' σ H' → RelR Γ κ' H' env' σ v r → Q r env' → Q' v H') : L2.tLc (ri Γ.E) rg rt re (own.map (·.2)) σ H Q' := by
  rw [hv]
  refine fi Γ σ κ H env _ _ hK I q fun J κ1 H1 items e1 x1 I1 src q1 => ?_
  obtain ⟨hz, hp, q1⟩ := q1
  intro D hD
  have kD1 : κ1 D = none := I1.gh.nokap hD
  have hD0 : Γ.H0 D = none := I1.gh.nokap0 hD
  have nk : Γ.k0 D = none := by
    cases z : Γ.k0 D with
    | none => rfl
    | some x => have := I1.gh.sub D x z; rw [kD1] at this; cases this
  have x2 : Ext κ1 H1 κ1 (upd H1 D (.lst [])) := Ext.upd_new I1.gh hD
  have I2 := (I1.upd_new (o := .lst []) hD)
  refine ⟨fun i m H2 => ∃ κ2 e2 acc vacc, Ext κ1 H1 κ2 H2 ∧ Rl Γ κ2 e2 (L2.wipe σ vs) H2 ∧ m = items.length - i ∧ i ≤ items.length ∧ H2 D = some (.lst vacc) ∧ RepL Γ.K Γ.cls κ2 H2 vacc acc ∧ κ2 D = none ∧ (∀ j, ¬ OwnS e2 (L2.wipe σ vs) j D) ∧ acc.length ≤ i ∧
      lcR g tt te vs (items.drop i) acc e2 (fun acc e2 => Q (.own acc) (restE vs e1 e2)), ⟨_, κ1, wipeE vs e1, [], [], x2, I2.wipe, rfl, Nat.zero_le _, upd_same, .nil, kD1, (fun j hj => I1.fresh hD j hj.unwipe), Nat.le_refl _, q1⟩, ?_⟩
  rintro i m H2 ⟨κ2, e2, acc, vacc, y2, J2, rfl, hi, hD2, ra, kD, oD, la, q2⟩
  obtain ⟨s1, s2⟩ := src Γ rfl rfl _ κ2 H2 e2 i J2 y2
  by_cases hlt : i < items.length
  · have hd : items.drop i = items[i] :: items.drop (i + 1) := List.drop_eq_getElem_cons hlt
    rw [hd] at q2
    have P2 := J2.prot hD2 kD oD
    have gk : GK (Y.blk scope) (Γ.prot D (.lst vacc)) := ⟨hK.k, hK.c, hK.f, fun _ _ _ _ _ _ _ _ z _ _ => False.elim z⟩
    obtain ⟨go, _⟩ := s1 items[i] (List.getElem?_eq_getElem hlt)
    refine .inr ⟨go, fun H' => ∃ κ' e' acc' vacc', Ext κ1 H1 κ' H' ∧ Rl Γ κ' e' (L2.wipe σ vs) H' ∧ H' D = some (.lst vacc') ∧ RepL Γ.K Γ.cls κ' H' vacc' acc' ∧ κ' D = none ∧ (∀ j, ¬ OwnS e' (L2.wipe σ vs) j D) ∧ acc'.length ≤ i + 1 ∧
      lcR g tt te vs (items.drop (i + 1)) acc' e' (fun acc e2 => Q (.own acc) (restE vs e1 e2)), fun H' ⟨κ', e', acc', vacc', z1, z2, z3, z4, z5, z6, z7, z8⟩ => ⟨items.length - (i + 1), by omega, κ', e', acc', vacc', z1, z2, rfl, hlt, z3, z4, z5, z6, z7, z8⟩, fun w H' yl => ?_⟩
    -- the item, with the new list standing still
    obtain ⟨s1', _⟩ := src (Γ.prot D (.lst vacc)) rfl rfl _ κ2 H2 e2 i P2 y2
    obtain ⟨_, yy⟩ := s1' items[i] (List.getElem?_eq_getElem hlt)
    obtain ⟨κ3, y3, P3, r3⟩ := yy w H' yl
    refine fg (Γ.prot D (.lst vacc)) _ κ3 H' e2 w _ _ _ gk P3 r3 q2 fun σ4 e4 o4 P4 q4 => ?_
    refine ⟨wipe_off o4, ft (Γ.prot D (.lst vacc)) σ4 κ3 H' e4 _ _ gk rfl P4 q4 fun bb κ5 H5 e5 y5 P5 q5 => ?_⟩
    have w4 : L2.wipe σ4 vs = L2.wipe σ vs := wipe_off o4
    cases bb with
    | true =>
      rw [if_pos rfl] at q5 ⊢
      refine fe (Γ.prot D (.lst vacc)) σ4 κ5 H5 e5 _ _ gk rfl P5 q5 fun u κ6 H6 r6 e6 y6 P6 h6 q6 => ?_
      refine fz_ok P6 h6 q6 fun κ7 d e7 y7 P7 r7 q7 => ?_
      obtain ⟨J7, k7, hD7, o7⟩ := P7.unprot nk hD0
      have y27 : Ext κ2 H2 κ7 H6 := ((y3.trans y5).trans y6).trans y7
      refine ⟨vacc, hD7, Nat.lt_of_le_of_lt (by rw [ra.length]; exact la) (Nat.lt_of_lt_of_le hlt hz), ?_⟩
      have y8 : Ext κ7 H6 κ7 (upd H6 D (.lst (vacc ++ [u]))) := Ext.upd k7
      have J8 : Rl Γ κ7 e7 σ4 (upd H6 D (.lst (vacc ++ [u]))) := J7.step (st' := e7.st) y8 (fun j c hj => ⟨by
        obtain ⟨c', _, hc⟩ := J7.ownS hj
        exact hc.facts.1, upd_ne fun z => o7 j (z ▸ hj)⟩) (J7.gh.upd k7 hD0)
      have J9 : Rl Γ κ7 (wipeE vs e7) (L2.wipe σ vs) (upd H6 D (.lst (vacc ++ [u]))) := by rw [← w4]; exact J8.wipe
      refine ⟨κ7, wipeE vs e7, acc ++ [d], vacc ++ [u], y2.trans (y27.trans y8), J9, upd_same, (ra.mono (y27.trans y8)).append (.cons (r7.mono y8) .nil), k7, fun j hj => ?_, by simp only [List.length_append, List.length_singleton]; omega, q7⟩
      rw [← w4] at hj
      exact o7 j hj.unwipe
    | false =>
      rw [if_neg Bool.false_ne_true] at q5 ⊢
      obtain ⟨J7, k7, hD7, o7⟩ := P5.unprot nk hD0
      have y27 : Ext κ2 H2 κ5 H5 := y3.trans y5
      refine ⟨κ5, wipeE vs e5, acc, vacc, y2.trans y27, by rw [← w4]; exact J7.wipe, hD7, ra.mono y27, k7, fun j hj => ?_, by omega, q5⟩
      rw [← w4] at hj
      exact o7 j hj.unwipe
  · have e : i = items.length := by omega
    subst e
    rw [List.drop_length] at q2
    refine .inl ⟨s2 rfl, ?_⟩
    have J3 : Rl Γ κ2 (restE vs e1 e2) σ H2 := Rl.rest I1 hp y2 J2
    refine k (.ref D) κ2 H2 (.own acc) (restE vs e1 e2) (x1.trans y2) J3 ⟨D, rfl, ⟨kD, hD0, vacc, hD2, by rw [ra.length]; exact Nat.le_trans la hz, ra⟩, fun j hj => ?_⟩ q2
    exact oD j (hj.unrest hp)
end
end Pu
set_option maxRecDepth 100000
set_option maxHeartbeats 400000
namespace Pu
open PySem L2 PySem.Spec PyProof.Rows
/-- a def's promise where no guard stands -/
structure FnG (P : Program) (w : World) (K : PySem.W.Frag) (mg : Str → Option Value) (base : Heap) (CX : CXT) (k : Nat) (f : Addr) (fd : FuncData) (ps : List Str) (sp : Sp) : Prop where
  many : ∀ us H Q E, sp us H Q E → us.length = ps.length
  go : ∀ (A : Around) (out : List Env) (t : Shared) (H : Hp) (ar : Args) (gs : List Value) (us : List V) (Q : VK) (E : XK), Room k A → A.guards = some [] → Env0 P w K mg base A out t H → BindsTo t fd ar (ps.zip gs) →
    Vals us gs → sp us H Q E → codeAny (model P w) A (.call (.ref f) ar) (CR CX out P w H t Q E) t
section
variable {P : Program} {w : World} {K : PySem.W.Frag} {mg : Str → Option Value} {base : Heap} {CX : CXT} {j k : Nat} {f : Addr} {fd : FuncData} {ps : List Str} {sp sp' : Sp}
theorem FnG.of (F : FnOk P w K mg base CX k f fd ps sp) : FnG P w K mg base CX k f fd ps sp :=
  ⟨F.len, fun A out t H ar gs us Q E r _ => F.run A out t H ar gs us Q E r⟩
theorem FnG.mono (F : FnG P w K mg base CX j f fd ps sp) (h : j ≤ k) : FnG P w K mg base CX k f fd ps sp :=
  ⟨F.many, fun A out t H ar gs us Q E r => F.go A out t H ar gs us Q E (r.mono h)⟩
theorem FnG.imp (F : FnG P w K mg base CX k f fd ps sp) (h : ∀ us H Q E, sp' us H Q E → sp us H Q E) : FnG P w K mg base CX k f fd ps sp' :=
  ⟨fun us H Q E z => F.many us H Q E (h _ _ _ _ z), fun A out t H ar gs us Q E r hg e b v z => F.go A out t H ar gs us Q E r hg e b v (h _ _ _ _ z)⟩
end
section
variable {X : Cx} {CX : CXT} {k : Nat} {f : Addr} {fd : FuncData} {ps : List Str} {sp : Sp} {dvs : List V} {ds : List Value} {E : XK} {x : Str} {p pos : Pos} {e : Expr} {es : List Expr} {t : TA}
theorem goG {pins : List (Addr × Obj)} {σ : L2.St} {H : Hp} {s : Shared} {Q : VK} {gs : List Value} {us : List V} (F : FnG X.prog X.w X.K X.mg X.base CX k f fd ps sp) (hr : Room k X.A) (hgd : X.A.guards = some []) (hb : Binds X.K fd ps ds) (hd : Vals dvs ds) (hx : Passes CX X E)
    (I : Inv X pins σ H s) (r : Vals us gs) (h : sp (us ++ dvs) H Q E) : wpAny (model X.prog X.w) X.A (call (.ref f) gs) (EP X pins σ Q) X.xe s := by
  have rr := r.append hd
  have hl : (gs ++ ds).length = ps.length := rr.length.symm.trans (F.many _ _ _ _ h)
  have body := F.go X.A X.stack s H ⟨gs, []⟩ _ _ Q E hr hgd I.env0 (hb s gs I.kIn hl) rr h
  refine wpAny_call (codeAny_mono body fun res s' z => ?_)
  match res, z with
  | .error e, z => exact hx pins σ H s e s' I z
  | .ok (.ret u), z => exact I.after z
theorem pe_callG (F : FnG X.prog X.w X.K X.mg X.base CX k f fd ps sp) (hr : Room k X.A) (hgd : X.A.guards = some []) (hg : Gl X x) (hm : X.mg x = some (.ref f)) (hk : PySem.W.keepIn X.K (.ref f) = true) (hb : Binds X.K fd ps ds) (hd : Vals dvs ds) (hx : Passes CX X E)
    (ha : PA X (e :: es) t) (hdb : (x == ("__debug__" : Str)) = false := by decide) (he : starEach (e :: es) X.env = (false, eval e X.env) :: starEach es X.env := by rfl) (hpl : (backTo pos (starEach es X.env)).any (·.1) = false := by rfl) :
    PE X (.Call (.Name x p) (e :: es) [] pos) (tCall sp dvs E t) := by
  constructor
  intro pins s σ H Q I z
  refine wpAny_Call_Name_kw (ld_glob I hg hm (PySem.W.callWith_K (h₀ := X.base) I.ok.mod.kin hk ?_ he hpl) hdb)
  exact thn (ha.run pos pins s σ H _ I z) fun gs s1 ⟨us, H1, J, r, q⟩ => ⟨J.kIn, goG F hr hgd hb hd hx J r q⟩
end
section
variable {P : Program} {w : World} {K : PySem.W.Frag} {mg : Str → Option Value} {base : Heap}
/-- a def, from its body -/
theorem fnG_of {CX : CXT} {k : Nat} {x qual : Str} {st : Stmt} {f : Addr} {fd : FuncData} {N ps : List Str} {sp : Sp} (F : Fun K x qual st f fd) (S : FnScope N ps (defScope st)) (many : ∀ us H Q E, sp us H Q E → us.length = ps.length)
    (hbody : ∀ (cdv : Value) (A : Around) (out : List Env) (t : Shared) (H : Hp) (us : List V) (Q : VK) (E : XK), Room k (A.deeper (envOfC qual (defScope st) t.heap.objs.size f cdv)) → A.guards = some [] → sp us H Q E →
      ∃ r, PSs (cxOf CX P w K mg base N qual (defScope st) f cdv A out t H E) (defBody st) r ∧ r { nx := fun _ H' => Q .non H', rt := Q } (L2.start N us) H) : FnG P w K mg base CX (k + 1) f fd ps sp := by
  obtain ⟨oc, od, kV, doc, pm, an, cdv, ct, osl, hfd, look, code⟩ := F.ex
  subst hfd
  constructor
  · exact many
  intro A out t H ar gs us Q E room hgd e0 bind vals want
  have kept : ∀ b o, base.get? b = some o → t.heap.get? b = some o := fun b o z => (e0.bs b o z).1
  have inK : K.In t.heap := e0.mod.kin.keeps kept
  have par : ∀ y ∈ ps.zip gs, (defScope st).names.lookup y.1 = some .local ∨ ((defScope st).names.lookup y.1 = some .cell ∧ ((cellsFrom (t.heap.objs.size + 1) (defScope st).names []).lookup y.1).isSome = true) := by
    intro y hy
    have hy1 : y.1 ∈ ps := by
      obtain ⟨n, v⟩ := y
      exact (List.of_mem_zip hy).1
    exact (S.par y.1 hy1).imp id fun z => ⟨z, PySem.W.cellsFrom_some _ _ _ (.inl z)⟩
  refine codeAny_call_function room.depth (inK _ _ look) rfl S.co S.gen rfl (PySem.W.codeRec_of inK code) (bind _ _ _ _ ?_)
  refine wpAny_newFunctionEnv_cells S.kind par fun env heq t1 x => ?_
  subst heq
  refine ⟨(e0.mod.nolimit.keeps kept).keeps x.toInCall.keep, codeAny_func ?_⟩
  obtain ⟨r, hr, hq⟩ := hbody cdv A out t H us Q E (room.deeper _) hgd want
  have I0 := inv_start (CX := CX) (E := E) S room.hd e0 (many _ _ _ _ want) vals x
  refine wpAny_mono (hr.run [] t1 (L2.start N us) H _ I0 hq) (fun fl t2 z => ?_) fun _ _ z => z
  have fin : ∀ {σ' : L2.St} {H' : Hp} {v : V} {u : Value}, Inv (cxOf CX P w K mg base N qual (defScope st) f cdv A out t H E) [] σ' H' t2 → RelV v u → Q v H' → CE out P w H t Q u t2 := fun {σ' H' v u} J rv q => ⟨v, H', J.os, J.bare, J.base, J.hok, rv, q⟩
  cases fl with
  | ret u => obtain ⟨v, σ', H', J, rv, q⟩ := z; exact fin J rv q
  | next => obtain ⟨σ', H', J, q⟩ := z; exact fin (v := V.non) (u := Value.none) J rfl q
  | brk => obtain ⟨σ', H', J, q⟩ := z; exact False.elim q
  | cont => obtain ⟨σ', H', J, q⟩ := z; exact False.elim q
end
end Pu
set_option maxRecDepth 100000
set_option maxHeartbeats 1000000
namespace Pu
open PySem L2 PySem.Spec PyProof.Rows
/-- what stands behind the top: the script alone may be tracked -/
theorem lawG_at {P : Program} {w : World} {K : PySem.W.Frag} {mg mb : Str → Option Value} {k : Nat} {fa a : Addr} {fd : FuncData} {x : Str} {sp : Sp} {s0 : Shared} {us : List Value} {H : Hp}
    (inK : K.In s0.heap) (ns1 : s0.heap.Ns mainGlobals mg) (ns2 : s0.heap.Ns builtinsNs mb) (boot : ∀ y : Str, y ≠ "__name__" → mb y = bootBuiltins y) (lim : s0.heap.NoLimit) (gen : s0.gens = #[])
    (obj : s0.heap.get? a = some { cls := .type "list", data := .seq us.toArray }) (room : Room k callerA)
    (F : ∀ base : Heap, K.In base → base.Ns mainGlobals mg → FnG P w K mg base CX0 k fa fd [x] sp) (bind : ∀ (s : Shared) (u : Value), BindsTo s fd ⟨[u], []⟩ [(x, u)])
    (only : Only H) (want : sp [.ref a] H (fun v _ => v = .bl true) fun _ _ _ => False) (ok : HOk P w H s0.heap) (one : ∀ b, H b ≠ none → b = a) (out : H a ≠ none → K.lookup a = none) :
    codeAny (model P w) callerA (.call (.ref fa) ⟨[.ref a], []⟩) (fun r s' => r = .ok (.ret (.bool true)) ∧ OldK s0.heap s'.heap ∧ s'.os = s0.os ∧ AllBare s'.gens) s0 := by
  have hid : ∀ {b : Addr} {o : Obj}, s0.heap.get? b = some o → H b = none → (hidT s0.heap H).get? b = some o := fun z n => hidT_get z n
  have nodict : ∀ {b : Addr} {o : Obj} {es : Array DictEntry} {ep : Nat}, s0.heap.get? b = some o → o.data = .dict es ep → H b = none := by
    intro b o es ep z d
    cases q : H b with
    | none => rfl
    | some u =>
      have hb := one b (by rw [q]; exact fun y => nomatch y)
      rw [hb, obj] at z
      cases z
      cases (show Data.seq us.toArray _ = Data.dict es ep from d)
  have ns : ∀ {b : Addr} {m : Str → Option Value}, s0.heap.Ns b m → (hidT s0.heap H).Ns b m := by
    rintro b m ⟨o, es, ep, z, d, r⟩
    exact ⟨o, es, ep, hid z (nodict z d), d, r⟩
  have inB : K.In (hidT s0.heap H) := by
    intro b o z
    refine hid (inK b o z) ?_
    cases q : H b with
    | none => rfl
    | some u =>
      have hb := one b (by rw [q]; exact fun y => nomatch y)
      subst hb
      rw [out (by rw [q]; exact fun y => nomatch y)] at z
      cases z
  obtain ⟨mc, l1, l2⟩ := lim
  have env : Env0 P w K mg (hidT s0.heap H) callerA [] s0 H :=
    ⟨rfl, ⟨inB, ns ns1, ⟨mb, ns ns2, boot⟩, ⟨mc, ns l1, l2⟩⟩, fun b o z => of_hidT z, Nat.le_of_eq (hidT_size _ _), trivial, fun b hb => (List.not_mem_nil hb).elim, ok, .of_eq gen⟩
  have run := (F _ inB (ns ns1)).go callerA [] s0 H ⟨[.ref a], []⟩ [.ref a] [.ref a] _ _ room rfl env (bind s0 (.ref a)) (.cons rfl .nil) want
  refine codeAny_mono run fun r s' z => ?_
  cases r with
  | error e => exact False.elim z
  | ok fl =>
    cases fl with
    | next => exact False.elim z
    | brk => exact False.elim z
    | cont => exact False.elim z
    | ret u =>
      obtain ⟨v, H', os, bare, un, ok', rel, q⟩ := z
      have q : v = .bl true := q
      subst q
      have rel : u = Value.bool true := rel
      subst rel
      refine ⟨rfl, OldK.of_keep ?_, os, bare⟩
      intro b o z
      cases q : H b with
      | none => exact un.keep b o z q (fun y => List.not_mem_nil y) (fun y => List.not_mem_nil y)
      | some u =>
        rcases only b with y | ⟨ob, xs, y⟩
        · rw [q] at y; cases y
        · have y1 := (ok b _ y).1
          have y2 := (ok' b _ (un.frzs b ob _ y)).1
          rw [z] at y1
          cases y1
          exact y2
theorem walkG {l : PySem.W.OpenLaw} {q : Program} {loose : List Str} {XP : (Str → Option Value) → Heap → Prop} {YP : World → Heap → Prop} {d : DefRec} {K : Params → PySem.W.Frag} {k : Nat} {sp : PySem.W.Frag → Sp} (room : Room k callerA) (most : l.most = some 63) (nodef : d.params.defaults = [])
    (hY : ∀ (w : World) (h : Heap), YP w h → (K w.params).In h)
    (F : ∀ (w : World) (mg : Str → Option Value) (fa : Addr) (h : Heap), (K w.params).In h → h.Ns mainGlobals mg → mg d.name = some (.ref fa) →
      ∃ fd : FuncData, (∀ (s : Shared) (u : Value), BindsTo s fd ⟨[u], []⟩ [("_law_script", u)]) ∧ ∀ base : Heap, (K w.params).In base → base.Ns mainGlobals mg → FnG l.prog w (K w.params) mg base CX0 k fa fd ["_law_script"] (sp (K w.params)))
    (hsp : ∀ (w : World) (H : Hp) (a : Addr) (ns : List Int), ns.length ≤ 63 → SqL (K w.params) H a (ns.map V.int) → sp (K w.params) [.ref a] H (fun v _ => v = .bl true) fun _ _ _ => False) :
    PySem.W.WalkO q loose XP YP l.row.toRowW d [] (fun f vs => PySem.call f vs) := by
  refine Att.attach_call most nodef ?_
  intro w s1 s0 mg mb fa o pm cd doc a us ns G Y ho hd hcd hmg obj areI len gen
  have inK := hY w _ Y
  obtain ⟨fd, bind, F⟩ := F w mg fa _ inK G.T.g hmg
  have lens := areI.length
  have vals := vals_ints areI
  have short : ns.length ≤ sizeLine := Nat.le_trans len (by decide)
  have go := fun (H : Hp) (o1 : Only H) (o2 : SqL (K w.params) H a (ns.map V.int)) => lawG_at (H := H) inK G.T.g G.T.b G.T.builtins G.T.nolimit gen obj room F bind o1 (hsp w H a ns len o2)
  cases hk : (K w.params).lookup a with
  | some o' =>
    have z := inK a o' hk
    rw [obj] at z
    cases z
    refine go (fun _ => none) (fun _ => .inl rfl) (.inr ⟨_, us.toArray, _, hk, rfl, rfl, rfl, ?_, by simpa using vals⟩) (fun b u z => nomatch z) (fun b z => absurd rfl z) fun z => absurd rfl z
    rw [List.size_toArray, lens]
    exact short
  | none =>
    have at_ : ∀ b, b ≠ a → (if b = a then some (HO.frz { cls := .type "list", data := .seq us.toArray } (.lst (ns.map V.int))) else none) = none := fun b z => if_neg z
    refine go (fun b => if b = a then some (.frz { cls := .type "list", data := .seq us.toArray } (.lst (ns.map V.int))) else none) (fun b => ?_) (.inl (.inr ⟨_, if_pos rfl⟩)) (fun b u z => ?_) (fun b z => ?_) fun _ => hk
    · by_cases y : b = a
      · right; exact ⟨_, _, if_pos y⟩
      · left; exact at_ b y
    · by_cases y : b = a
      · subst y
        cases (if_pos rfl).symm.trans z
        exact ⟨obj, by rw [List.length_map]; exact short, us, _, vals, obj⟩
      · cases (at_ b y).symm.trans z
    · exact Decidable.byContradiction fun y => z (at_ b y)
end Pu
set_option maxRecDepth 100000
set_option maxHeartbeats 2000000
namespace PuE
open PySem PySem.Spec PyProof.Rows L2 RT PySem.W
def IsRs (h : Heap) (a : Addr) (x : Str) (t : Tok) (i : Int) : Prop := ∃ o, h.get? a = some o ∧ o.cls = .type "reversed" ∧ o.data = .fields #[.str x t, rawInt i]
section
variable {prog : Program} {w : World} {A : Around} {E : Value → Shared → Prop} {s : Shared}
theorem IsRs.typeIs {a : Addr} {x : Str} {t : Tok} {i : Int} (y : IsRs s.heap a x t i) : s.TypeIs (.ref a) "reversed" := let ⟨o, ho, hc, _⟩ := y; ⟨o, ho, hc⟩
theorem hint_str {x : Str} {t : Tok} {Q : Bool → Shared → Prop} (h : Q false s) : wpAny (model prog w) A (Builtin.List.listLengthHint (.str x t)) Q E s := by
  have hT : s.TypeIs (.str x t) "str" := typeIs_str s x t
  unfold Builtin.List.listLengthHint
  refine wpAny_bind (wpAny_specialOf hT PySem.F.slot_str_len.lookup ?_)
  generalize hid : ("str.__len__" : String) = id0
  wp_delta
  rw [show splitId id0 = some ("str", "__len__") from by subst hid; decide +kernel]
  subst hid
  refine wpAny_bind (wpAny_isInstance (T := "str") (b := true) hT (by rw [isSubtype_type]; kernel_rfl) ?_)
  refine wpAny_ite_split (fun hab => absurd hab (by decide)) (fun _ => ?_)
  refine wpAny_ite_split (fun _ => ?_) (fun hab => absurd (by decide +kernel) hab)
  refine wpAny_bind (wpAny_typeOf hT ?_)
  exact wpAny_pure h
theorem ks_extend {R : Result → Shared → Prop} {x : Str} {t : Tok} (hh : A.handled = none) (S : Addr) (res : Value) (c₀ : Nat) (hS : s.heap.get? S = some { cls := .type "list", data := .seq #[] c₀ })
    (hR : ∀ h' tk acc' c', (∀ b o, b ≠ S → s.heap.get? b = some o → h'.get? b = some o) → h'.get? S = some { cls := .type "list", dict := none, data := .seq acc' c', slots := #[] } → ItemsOf (SignAt x) acc' x.cps.size → R (.ok (.ret res)) { s with heap := h', toks := tk }) (hn : x.cps.size ≤ sizeLine) :
    wpAny (model prog w) A.in1 (Builtin.List.listExtendWith (.ref S) (.str x t) res)
      (fun fin s' => match fin with | .done f => R (.ok f) s' | .again c' => c'.quiet = true ∧ codeAny (model prog w) A c' R s') (fun e s' => R (.error e) s') s := by
  have hSI : S ≠ s.heap.objs.size := Nat.ne_of_lt (Heap.lt_size hS)
  have hSf : S ∉ [s.heap.objs.size] := by simp only [List.mem_cons, List.not_mem_nil, or_false]; exact hSI
  unfold Builtin.List.listExtendWith
  refine wpAny_bind (wpAny_typeOf (T := "str") (typeIs_str s x t) ?_)
  have h1 : Builtin.List.listSameRef (.ref S) (.str x t) = false := by simp [Builtin.List.listSameRef]
  rw [if_neg (by rw [h1]; decide)]
  refine wpAny_bind (wpAny_pyIter_str fun oI St hW st => ?_)
  have W := hW A.in1 hh
  refine wpAny_bind (wpAny_holding (hint_str ?_))
  have hS₁ := Heap.get?_push_of_some oI hS
  have key : ∀ (h : Heap) (c₁ tk : Nat), St 0 h → (∀ b o, b ≠ S → s.heap.get? b = some o → h.get? b = some o) →
      h.get? S = some { cls := .type "list", data := .seq #[] c₁ } → codeAny (model prog w) A (.builtin "list.extend.loop" ⟨[.ref S, .ref s.heap.objs.size, res], []⟩) R { s with heap := h, toks := tk } := by
    intro h c₁ tk hst hk hS₁
    refine codeAny_extend_loopS W.toS hn S hSf res x.cps.size 0 _ #[] c₁ rfl (Nat.zero_le _) hst hS₁ (ItemsOf.nil _) fun s' acc' c' hm hS' hacc => ?_
    rw [Moved.eq_with hm]
    refine hR s'.heap s'.toks acc' c' (fun b o hb e => hm.heap b o (fun hmem => ?_) (hk b o hb e)) hS' hacc
    rcases List.mem_cons.mp hmem with e' | hmem
    · exact hb e'
    · exact absurd (Heap.lt_size e) (by rw [List.mem_singleton.mp hmem]; exact Nat.lt_irrefl _)
  refine wpAny_ite_split (fun _ => ?_) (fun _ => wpAny_pure ⟨plainId_quiet PySem.F.plain_extend_loop _, key _ c₀ _ st (fun b o _ e => Heap.get?_push_of_some _ e) hS₁⟩)
  refine wpAny_bind (wpAny_rule ?_)
  refine wpAny_bind ?_
  show wpAny _ _ (updateSeq S (·.push .none) >>= fun _ => updateSeq S (·.pop)) _ _ _
  refine wpAny_bind (wpAny_updateSeq hS₁ rfl ?_)
  have hS₂ := Heap.get?_update_self (Obj.mapSeq (·.push Value.none)) hS₁ rfl
  refine wpAny_updateSeq (hz := by seq_fits) hS₂ rfl ?_
  have hS₃ := Heap.get?_update_self (Obj.mapSeq (·.pop)) hS₂ rfl
  refine wpAny_pure ⟨plainId_quiet PySem.F.plain_extend_loop _, key _ _ _ ?_ (fun b o hb e => ?_) hS₃⟩
  · refine W.frame 0 _ _ st fun b hb o e => ?_
    have hbS : b ≠ S := fun h => hSf (h ▸ hb)
    exact (Heap.get?_update_other _ _ (Ne.symm hbS)).trans ((Heap.get?_update_other _ _ (Ne.symm hbS)).trans e)
  · exact (Heap.get?_update_other _ _ (Ne.symm hb)).trans ((Heap.get?_update_other _ _ (Ne.symm hb)).trans (Heap.get?_push_of_some _ e))
theorem ks_init {R : Result → Shared → Prop} {x : Str} {t : Tok} (hh : A.handled = none) (S : Addr) (hS : s.heap.get? S = some { cls := .type "list", data := .seq #[] })
    (hR : ∀ h' tk acc' c', (∀ b o, b ≠ S → s.heap.get? b = some o → h'.get? b = some o) → h'.get? S = some { cls := .type "list", dict := none, data := .seq acc' c', slots := #[] } → ItemsOf (SignAt x) acc' x.cps.size → R (.ok (.ret .none)) { s with heap := h', toks := tk }) (hn : x.cps.size ≤ sizeLine) :
    wpAny (model prog w) A.in1 (Builtin.«list.__init__» ⟨[.ref S, .str x t], []⟩)
      (fun fin s' => match fin with | .done f => R (.ok f) s' | .again c' => c'.quiet = true ∧ codeAny (model prog w) A c' R s') (fun e s' => R (.error e) s') s := by
  show wpAny _ _ (do let old ← Builtin.List.listItems (.ref S); Builtin.List.listUpdate (.ref S) (fun _ => #[]); letGo old.toList.reverse; Builtin.List.listExtendWith (.ref S) (.str x t) .none) _ _ s
  refine wpAny_bind ?_
  unfold Builtin.List.listItems
  refine wpAny_bind (wpAny_seqItems hS rfl (wpAny_pure ?_))
  show wpAny _ _ (updateSeq S (fun _ => #[]) >>= fun _ => letGo (#[] : Array Value).toList.reverse >>= fun _ => Builtin.List.listExtendWith (.ref S) (.str x t) .none) _ _ s
  refine wpAny_bind (wpAny_updateSeq hS rfl ?_)
  have hS₂ := Heap.get?_update_self (Obj.mapSeq (fun _ => (#[] : Array Value))) hS rfl
  have oth : ∀ b o, b ≠ S → s.heap.get? b = some o → (s.heap.update S (Obj.mapSeq (fun _ => (#[] : Array Value)))).get? b = some o :=
    fun b o hb e => (Heap.get?_update_other _ _ (Ne.symm hb)).trans e
  refine wpAny_bind (wpAny_letGo ?_)
  refine ks_extend hh S .none _ hS₂ (fun h' tk acc' c' hk hS' hacc => ?_) hn
  exact hR h' tk acc' c' (fun b o hb e => hk b o hb (oth b o hb e)) hS' hacc
theorem ks_call {x : Str} {t : Tok} {Q : Value → Shared → Prop} (hh : A.handled = none) (hn : x.cps.size ≤ sizeLine)
    (hQ : ∀ h' tk acc' c', (∀ b o, s.heap.get? b = some o → h'.get? b = some o) → h'.get? s.heap.objs.size = some { cls := .type "list", dict := none, data := .seq acc' c', slots := #[] } → ItemsOf (SignAt x) acc' x.cps.size → Q (.ref s.heap.objs.size) { s with heap := h', toks := tk }) :
    wpAny (model prog w) A (call (.type "list") [.str x t]) Q E s := by
  refine callType_codes (Q₁ := fun obj s₁ => obj = .ref s.heap.objs.size ∧ s₁ = { s with heap := s.heap.push { cls := .type "list", data := .seq #[] } }) PySem.F.called_list (PySem.F.typeCall_list_1 _) PySem.F.entry_list_init
    (code_list_new _ ⟨rfl, rfl⟩) fun obj s₁ h₁ => ?_
  obtain ⟨rfl, rfl⟩ := h₁
  have hS : (s.heap.push { cls := .type "list", data := .seq #[] }).get? s.heap.objs.size = some { cls := .type "list", data := .seq #[] } := Heap.get?_push_size _ rfl
  refine ⟨⟨_, hS, rfl⟩, PySem.F.args_list_init_2 _ _, ks_init (A := A.in1) hh _ hS (fun h' tk acc' c' hk hS' hacc => ?_) hn⟩
  exact ⟨rfl, hQ h' tk acc' c' (fun b o e => hk b o (Nat.ne_of_lt (Heap.lt_size e)) (Heap.get?_push_of_some _ e)) hS' hacc⟩
end
theorem call_listS {X : Cx} (hc : X.calm = true) : CallR X (.type "list") (fun xs H Q => ∃ x : Str, xs = [.str x] ∧ x.length ≤ sizeLine ∧ ∀ l, H l = none → Q (.ref l) (upd H l (.lst (x.cps.toList.map fun c => V.str ⟨#[c]⟩)))) := by
  intro pins s σ H xs us Q I r h
  obtain ⟨x, rfl, hz, q⟩ := h
  obtain ⟨u, rfl, t, rfl⟩ := vals1 r
  refine ks_call (I.ok.hd hc) hz fun h' tk acc' c' hk hS' hacc => ?_
  have hf : H s.heap.objs.size = none := I.hok.fresh (Nat.le_refl _)
  have hl : acc'.size = x.cps.size := hacc.1
  refine ⟨.ref s.heap.objs.size, _, I.laid (t' := tk) (o := .lst (x.cps.toList.map fun c => V.str ⟨#[c]⟩)) hk (Nat.le_refl _) ⟨?_, acc'.toList, c', ?_, ?_⟩, rfl, q _ hf⟩
  · rw [List.length_map, Array.length_toList]; exact hz
  · have key : ∀ (cs : List Nat) (us : List Value), us.length = cs.length → (∀ (j : Nat) (v : Value), us[j]? = some v → ∃ c u, cs[j]? = some c ∧ v = .str ⟨#[c]⟩ u) → Vals (cs.map fun c => V.str ⟨#[c]⟩) us := by
      intro cs
      induction cs with
      | nil => intro us hl _; cases us with
        | nil => exact .nil
        | cons _ _ => cases hl
      | cons c cs ih => intro us hl hv; cases us with
        | nil => cases hl
        | cons v vs =>
          obtain ⟨c', u, e1, e2⟩ := hv 0 v rfl
          cases e1
          exact .cons ⟨u, e2⟩ (ih vs (by simpa using hl) fun j w hw => by simpa using hv (j + 1) w (by simpa using hw))
    refine key _ _ (by rw [Array.length_toList, Array.length_toList]; exact hl) fun j v e => ?_
    obtain ⟨c, u, e1, e2⟩ := hacc.2 j v (by rw [← Array.getElem?_toList]; exact e)
    exact ⟨c, u, by rw [Array.getElem?_toList]; exact e1, e2⟩
  · rw [hS']
end PuE
set_option maxRecDepth 100000
set_option maxHeartbeats 4000000
namespace Pu
open PySem L2 PySem.Spec PyProof.Rows
section
variable {Γ Γ' : Gm} {κ κ' : Ka} {H H' : Hp} {env env' : En} {σ : Sl} {v : V} {st : Sto} {Y : Fam} {a b e : Expr} {es : List Expr} {ta tb te : PTE} {pos : Pos}
theorem ve_lc {scope : Scope} {tg it elt : Expr} {ifs : List Expr} {own : List (Str × Nat)} {ti : PTI} {g : PTG} {tt : PTT} {vs : List Nat} (hN : ∀ i, (Y.X i).N.Nodup) (hi : VI Y tg it ti) (ok : ∀ i, BlkOk (Y.X i).N (Y.X i).env.scope scope own) (hg : VG (Y.blk scope) tg vs g) (ht : VTs (Y.blk scope) ifs tt) (he : VE (Y.blk scope) elt te)
    (hv : own.map (·.2) = vs := by rfl) (hc : ∀ i, (Y.X i).calm = true := by intro _; rfl) (hs : ∀ (X : Cx) x, foldedSetIterable it X.env x = pure x := by intro _ _; rfl) : VE Y (.ListComp elt [⟨tg, it, ifs, 0⟩] scope pos) (cLc ti g tt te vs) := by
  obtain ⟨ri, pi, fi⟩ := hi.ex
  obtain ⟨rg, pg, fg⟩ := hg.ex
  obtain ⟨rt, pt, ft⟩ := ht.ex
  obtain ⟨re, pe, fe⟩ := he.ex
  have pg' : ∀ (i : Y.ι) (s : Shared) (H : Hp) (C : Addr) (cl : List (Str × Addr)) (fp : List Addr), PG ((Y.X i).blk s H scope (compEnvC scope cl C (Y.X i).env) fp) tg rg := fun i s H C cl fp => pg (i, s, H, C, cl, fp)
  have pt' : ∀ (i : Y.ι) (s : Shared) (H : Hp) (C : Addr) (cl : List (Str × Addr)) (fp : List Addr), PTs ((Y.X i).blk s H scope (compEnvC scope cl C (Y.X i).env) fp) ifs (rt E0) := fun i s H C cl fp => pt (i, s, H, C, cl, fp)
  have pe' : ∀ (i : Y.ι) (s : Shared) (H : Hp) (C : Addr) (cl : List (Str × Addr)) (fp : List Addr), PE ((Y.X i).blk s H scope (compEnvC scope cl C (Y.X i).env) fp) elt (re E0) := fun i s H C cl fp => pe (i, s, H, C, cl, fp)
  refine ⟨⟨fun E => L2.tLc (ri E) rg (rt E0) (re E0) (own.map (·.2)), fun i => pe_lc (hc i) (hN i) (pi i) (ok i) (pg' i) (pt' i) (pe' i) (hs _), fun Γ σ κ H env Q Q' hK I q k => ?_⟩⟩
  exact lc_ref (it := it) (elt := elt) (ifs := ifs) (tg := tg) hv fi fg (fun Γ σ κ H env Q Q' gk eE I q k => by rw [← eE]; exact ft Γ σ κ H env Q Q' gk I q k) (fun Γ σ κ H env Q Q' gk eE I q k => by rw [← eE]; exact fe Γ σ κ H env Q Q' gk I q k) hK I q k
theorem vs_setLc {i : Nat} {y : Str} {py spos : Pos} {scope : Scope} {tg it elt : Expr} {ifs : List Expr} {own : List (Str × Nat)} {ti : PTI} {g : PTG} {tt : PTT} {vs : List Nat} (hN : ∀ i, (Y.X i).N.Nodup) (hi : VI Y tg it ti) (ok : ∀ i, BlkOk (Y.X i).N (Y.X i).env.scope scope own) (hg : VG (Y.blk scope) tg vs g) (ht : VTs (Y.blk scope) ifs tt) (he : VE (Y.blk scope) elt te)
    (hy : ∀ j, (Y.X j).N[i]? = some y := by intro _; rfl) (hyl : ∀ j, (Y.X j).env.scope.names.lookup y = some .local := by intro _; rfl)
    (hsw : ∀ j, swapsWith (.ListComp elt [⟨tg, it, ifs, 0⟩] scope pos) (some (.Name y py)) spos.line (Y.X j).env = pure true := by intro _; exact sw_true rfl rfl rfl (by decide +kernel))
    (hv : own.map (·.2) = vs := by rfl) (hc : ∀ i, (Y.X i).calm = true := by intro _; rfl) (hs : ∀ (X : Cx) x, foldedSetIterable it X.env x = pure x := by intro _ _; rfl) :
    VS Y (.Assign [.Name y py] (.ListComp elt [⟨tg, it, ifs, 0⟩] scope pos) spos) (sAsg i (cLc ti g tt te vs)) := by
  obtain ⟨ri, pi, fi⟩ := hi.ex
  obtain ⟨rg, pg, fg⟩ := hg.ex
  obtain ⟨rt, pt, ft⟩ := ht.ex
  obtain ⟨re, pe, fe⟩ := he.ex
  have pg' : ∀ (i : Y.ι) (s : Shared) (H : Hp) (C : Addr) (cl : List (Str × Addr)) (fp : List Addr), PG ((Y.X i).blk s H scope (compEnvC scope cl C (Y.X i).env) fp) tg rg := fun i s H C cl fp => pg (i, s, H, C, cl, fp)
  have pt' : ∀ (i : Y.ι) (s : Shared) (H : Hp) (C : Addr) (cl : List (Str × Addr)) (fp : List Addr), PTs ((Y.X i).blk s H scope (compEnvC scope cl C (Y.X i).env) fp) ifs (rt E0) := fun i s H C cl fp => pt (i, s, H, C, cl, fp)
  have pe' : ∀ (i : Y.ι) (s : Shared) (H : Hp) (C : Addr) (cl : List (Str × Addr)) (fp : List Addr), PE ((Y.X i).blk s H scope (compEnvC scope cl C (Y.X i).env) fp) elt (re E0) := fun i s H C cl fp => pe (i, s, H, C, cl, fp)
  refine ⟨⟨fun E => tAsg (L2.tLc (ri E) rg (rt E0) (re E0) (own.map (·.2))) (L2.gName i), fun j => ps_setLc (hc j) (hN j) (hy j) (hyl j) (hsw j) (pi j) (ok j) (pg' j) (pt' j) (pe' j) (hs _), fun Γ σ κ H env D D' hK I q l => ?_⟩⟩
  refine lc_ref (it := it) (elt := elt) (ifs := ifs) (tg := tg) hv fi fg (fun Γ σ κ H env Q Q' gk eE I q k => by rw [← eE]; exact ft Γ σ κ H env Q Q' gk I q k) (fun Γ σ κ H env Q Q' gk eE I q k => by rw [← eE]; exact fe Γ σ κ H env Q Q' gk I q k) hK I q fun v κ1 H1 r1 e1 x1 I1 h1 q1 => ?_
  exact asg_ok I1 (by rw [I1.len]; exact q1.1) h1 q1.2 fun κ2 e2 x2 I2 q2 => l.1 _ κ2 H1 e2 (x1.trans x2) I2 q2
abbrev PM := List D → Sto → (C → Sto → Prop) → Prop
/-- a def that raises nothing, by its pure promise -/
def sp0 (K : PySem.W.Frag) (cls : Cl) (flds : Nat → List Str) (m : PM) : Sp := fun vs H Q _ => ∃ (κ : Ka) (ds : List D) (st : Sto) (Q' : C → Sto → Prop),
  Gh ⟨K, H, κ, cls, flds, E0, noX⟩ κ st H ∧ RepL K cls κ H vs ds ∧ m ds st Q' ∧
  ∀ v κ' H' c st', Gh ⟨K, H, κ, cls, flds, E0, noX⟩ κ' st' H' → RelC ⟨K, H, κ, cls, flds, E0, noX⟩ κ' H' v c → Q' c st' → Q v H'
def C.toR (c : C) : R := match c with
  | .un => .d .non
  | .d y => .d y
  | .own ys => .own ys
  | .dK ys => .dK ys
  | .dT ys => .dT ys
def tCall0 (m : PM) (t : PTA) : PTE := fun x e Q => t x e fun ds e1 => m ds e1.st fun c st' => Q c.toR ⟨e1.sl, st'⟩
theorem Gh.enter {E' : XK} {x' : PX} (I : Rl Γ κ env σ H) : Gh ⟨Γ.K, H, κ, Γ.cls, Γ.flds, E', x'⟩ κ env.st H := by
  have g := I.gh
  refine ⟨fun _ _ e => e, fun _ _ e => .inl e, g.trk, fun _ e => e, g.box, fun a k e => ?_, g.inj, fun a o e _ => e⟩
  obtain ⟨so, h1, h2⟩ := g.obj a k e
  exact ⟨so, h1, h2.switch rfl rfl⟩
theorem Gh.leave {E' : XK} {x' : PX} {st' : Sto} (g : Gh Γ κ st H) (h : Gh ⟨Γ.K, H, κ, Γ.cls, Γ.flds, E', x'⟩ κ' st' H') : Gh Γ κ' st' H' := by
  refine ⟨fun a x e => h.sub a x (g.sub a x e), fun a x e => ?_, h.trk, fun a e => h.trk0 a (g.trk0 a e), h.box, fun a k e => ?_, h.inj, fun a o e hk => ?_⟩
  · rcases h.new a x e with z | z | ⟨z1, vs, z⟩
    · exact g.new a x z
    · exact .inr (.inl (g.nokap0 z))
    · cases q0 : Γ.H0 a with
      | none => exact .inr (.inl rfl)
      | some o =>
        cases qk : Γ.k0 a with
        | none =>
          have z : H a = some (.tup vs) := z
          have := g.base a o q0 (.inl qk)
          rw [z] at this
          exact .inr (.inr ⟨z1, vs, this.symm⟩)
        | some y =>
          have := h.sub a y (g.sub a y qk)
          rw [e] at this
          exact .inl this.symm
  · obtain ⟨so, h1, h2⟩ := h.obj a k e
    exact ⟨so, h1, h2.switch rfl rfl⟩
  · refine h.base a o (g.base a o e hk) ?_
    show κ a = none ∨ κ a = some .frz
    rcases hk with hk | hk
    · cases q : κ a with
      | none => exact .inl rfl
      | some x =>
        rcases g.new a x q with z | z | ⟨z, _⟩
        · rw [hk] at z; cases z
        · rw [e] at z; cases z
        · exact .inr (by rw [z])
    · exact .inr (g.sub a _ hk)
theorem Ext.leave {E' : XK} {x' : PX} {st' : Sto} (g : Gh Γ κ st H) (h : Gh ⟨Γ.K, H, κ, Γ.cls, Γ.flds, E', x'⟩ κ' st' H') : Ext κ H κ' H' := by
  refine ⟨h.sub, fun a e => ?_⟩
  cases q : H a with
  | none => exact absurd q (g.trk a _ e)
  | some o => exact h.base a o q (.inr e)
theorem Rl.leave {E' : XK} {x' : PX} {st' : Sto} (I : Rl Γ κ env σ H) (h : Gh ⟨Γ.K, H, κ, Γ.cls, Γ.flds, E', x'⟩ κ' st' H') : Rl Γ κ' ⟨env.sl, st'⟩ σ H' := by
  refine I.step (Ext.leave I.gh h) (fun i a hs => ?_) (I.gh.leave h)
  obtain ⟨c, _, hc⟩ := I.ownS hs
  obtain ⟨k1, _, k3⟩ := hc.facts
  constructor
  · cases q : κ' a with
    | none => rfl
    | some x =>
      rcases h.new a x q with z | z | ⟨_, vs, z⟩
      · have z : κ a = some x := z
        rw [k1] at z; cases z
      · exact absurd z k3
      · exact (hc.notTup z).elim
  · cases q : H a with
    | none => exact absurd q k3
    | some o => exact h.base a o q (.inl k1)
theorem RelC.leave {E' : XK} {x' : PX} {st' : Sto} {c : C} (I : Rl Γ κ env σ H) (h : RelC ⟨Γ.K, H, κ, Γ.cls, Γ.flds, E', x'⟩ κ' H' v c) : RelR Γ κ' H' ⟨env.sl, st'⟩ σ v c.toR := by
  have low : ∀ a, H a = none → Γ.H0 a = none := fun a z => I.gh.nokap0 z
  have ns : ∀ a, H a = none → ∀ i, ¬ OwnS ⟨env.sl, st'⟩ σ i a := fun a z i hs => I.fresh z i hs
  cases c with
  | un => exact h.elim
  | d d => exact h
  | own ds => obtain ⟨a, rfl, h1⟩ := h; exact ⟨a, rfl, OwnC.switch (Γ := ⟨Γ.K, H, κ, Γ.cls, Γ.flds, E', x'⟩) (Γ' := Γ) rfl rfl (low a h1.facts.2.1) h1, ns a h1.facts.2.1⟩
  | dK ds => obtain ⟨a, rfl, h1⟩ := h; exact ⟨a, rfl, OwnC.switch (Γ := ⟨Γ.K, H, κ, Γ.cls, Γ.flds, E', x'⟩) (Γ' := Γ) rfl rfl (low a h1.facts.2.1) h1, ns a h1.facts.2.1⟩
  | dT ds => obtain ⟨a, rfl, h1⟩ := h; exact ⟨a, rfl, OwnC.switch (Γ := ⟨Γ.K, H, κ, Γ.cls, Γ.flds, E', x'⟩) (Γ' := Γ) rfl rfl (low a h1.facts.2.1) h1, ns a h1.facts.2.1⟩
/-- a call of a def of the text that raises nothing -/
theorem ve_call0 {k : Nat} {f : Addr} {fd : FuncData} {ps : List Str} {x : Str} {p : Pos} {m : PM} {t : PTA} (F : ∀ i, FnG (Y.X i).prog (Y.X i).w (Y.X i).K (Y.X i).mg (Y.X i).base CX0 k f fd ps (sp0 Y.K Y.cls Y.flds m)) (hr : ∀ i, Room k (Y.X i).A) (hgd : ∀ i, (Y.X i).A.guards = some []) (hm : ∀ i, (Y.X i).mg x = some (.ref f)) (hk : PySem.W.keepIn Y.K (.ref f) = true) (hb : Binds Y.K fd ps [])
    (ha : VA Y (e :: es) t) (hg : ∀ i, Gl (Y.X i) x := by intro _; rfl) (hdb : (x == ("__debug__" : Str)) = false := by decide) (he : ∀ X : Cx, starEach (e :: es) X.env = (false, eval e X.env) :: starEach es X.env := by intro _; rfl) (hpl : ∀ X : Cx, (backTo pos (starEach es X.env)).any (·.1) = false := by intro _; rfl) :
    VE Y (.Call (.Name x p) (e :: es) [] pos) (tCall0 m t) := by
  obtain ⟨ra, pa, fa⟩ := ha.ex
  refine ⟨⟨fun E => tCall (sp0 Y.K Y.cls Y.flds m) [] E0 (ra E), fun i => pe_callG (F i) (hr i) (hgd i) (hg i) (hm i) (by rw [Y.hK i]; exact hk) (by rw [Y.hK i]; exact hb) .nil pass0 (pa i) hdb (he _) (hpl _), fun Γ σ κ H env Q Q' hK I q k => ?_⟩⟩
  refine fa Γ σ κ H env _ _ hK I q fun vs κ1 H1 ds e1 x1 I1 h1 q1 => ?_
  rw [List.append_nil, ← hK.k, ← hK.c, ← hK.f]
  refine ⟨κ1, ds, e1.st, _, Gh.enter I1, h1, q1, fun v κ' H' c st' g r q => ?_⟩
  exact k v κ' H' c.toR ⟨e1.sl, st'⟩ (x1.trans (Ext.leave I1.gh g)) (I1.leave g) (RelC.leave I1 r) q
/-- where a def's body runs -/
structure DI (qual : Str) (sc : Scope) (f : Addr) (k : Nat) where
  cdv : Value
  A : Around
  outer : List Env
  s : Shared
  H : Hp
  E : XK
  hr : Room k (A.deeper (envOfC qual sc s.heap.objs.size f cdv))
  gd : A.guards = some []
def fam0 (P : Program) (w : World) (K : PySem.W.Frag) (mg : Str → Option Value) (base : Heap) (N : List Str) (qual : Str) (sc : Scope) (f : Addr) (k : Nat) (cls : Cl) (flds : Nat → List Str) : Fam where
  ι := DI qual sc f k
  X := fun i => (cxOf CX0 P w K mg base N qual sc f i.cdv i.A i.outer i.s i.H i.E).nox
  E := fun _ => E0
  K := K
  hK := fun _ => rfl
  cls := cls
  flds := flds
def startC (N : List Str) (ds : List D) : List C := ds.map C.d ++ List.replicate (N.length - ds.length) C.un
theorem start_rl {N : List Str} {vs : List V} {ds : List D} {K : PySem.W.Frag} {cls : Cl} {flds : Nat → List Str} {E : XK} {x : PX} (g : Gh ⟨K, H, κ, cls, flds, E, x⟩ κ st H) (r : RepL K cls κ H vs ds) : Rl ⟨K, H, κ, cls, flds, E, x⟩ κ ⟨startC N ds, st⟩ (L2.start N vs) H := by
  refine ⟨by unfold L2.start startC; simp [r.length], fun i c ec => ?_, fun i j a h1 _ => ?_, g⟩
  · have ec : (startC N ds)[i]? = some c := ec
    unfold startC at ec
    by_cases hi : i < ds.length
    · rw [List.getElem?_append_left (by simpa using hi), List.getElem?_map, List.getElem?_eq_getElem hi] at ec
      cases ec
      obtain ⟨v, e1, r1⟩ := r.get (List.getElem?_eq_getElem hi)
      refine ⟨v, ?_, r1⟩
      unfold L2.start
      rw [List.getElem?_append_left (by rw [List.length_map, r.length]; exact hi), List.getElem?_map, e1]
      rfl
    · rw [List.getElem?_append_right (by simpa using hi), List.getElem?_replicate] at ec
      split at ec
      · cases ec; trivial
      · cases ec
  · obtain ⟨_, c, ec, hc⟩ := h1
    have ec : (startC N ds)[i]? = some c := ec
    unfold startC at ec
    by_cases hi : i < ds.length
    · rw [List.getElem?_append_left (by simpa using hi), List.getElem?_map, List.getElem?_eq_getElem hi] at ec
      cases ec
      cases hc
    · rw [List.getElem?_append_right (by simpa using hi), List.getElem?_replicate] at ec
      split at ec
      · cases ec; cases hc
      · cases ec
/-- THE RULE for a def that raises nothing -/
theorem fn0 {P : Program} {w : World} {K : PySem.W.Frag} {mg : Str → Option Value} {base : Heap} {N ps : List Str} {x qual : Str} {st : Stmt} {f : Addr} {fd : FuncData} {k : Nat} {cls : Cl} {flds : Nat → List Str} {t : PTS} {m : PM}
    (F : Fun K x qual st f fd) (S : FnScope N ps (defScope st)) (h : VSs (fam0 P w K mg base N qual (defScope st) f k cls flds) (defBody st) t) (len : ∀ ds s Q, m ds s Q → ds.length = ps.length)
    (ok : ∀ ds s Q, m ds s Q → t noX { nx := fun e => Q (.d .non) e.st, rt := fun c e => Q c e.st } ⟨startC N ds, s⟩) : FnG P w K mg base CX0 (k + 1) f fd ps (sp0 K cls flds m) := by
  refine fnG_of F S (fun vs H Q E hq => ?_) (fun cdv A outer s H vs Q E hr gd hq => ?_)
  · obtain ⟨κ, ds, st, Q', g, r, hm, _⟩ := hq
    rw [r.length]
    exact len ds st Q' hm
  · obtain ⟨κ, ds, st', Q', g, r, hm, fin⟩ := hq
    obtain ⟨rd, ph, fh⟩ := h.ex
    refine ⟨rd E0, (ph ⟨cdv, A, outer, s, H, E, hr, gd⟩).nox, ?_⟩
    refine fh ⟨K, H, κ, cls, flds, E0, noX⟩ (L2.start N vs) κ H ⟨startC N ds, st'⟩ _ _ ⟨rfl, rfl, rfl, fun _ _ _ _ _ _ _ _ z _ _ => False.elim z⟩ (start_rl g r) (ok ds st' Q' hm) ⟨fun σ' κ' H' e' x I q => ?_, fun v κ' H' c e' x gg rr q => fin v κ' H' c e'.st gg rr q, fun _ _ _ _ _ _ q => False.elim q, fun _ _ _ _ _ _ q => False.elim q⟩
    exact fin .non κ' H' (.d .non) e'.st I.gh .non q
/-- a weaker promise -/
theorem FnG.imp0 {P : Program} {w : World} {K : PySem.W.Frag} {mg : Str → Option Value} {base : Heap} {ps : List Str} {f : Addr} {fd : FuncData} {k : Nat} {cls : Cl} {flds : Nat → List Str} {m m' : PM}
    (F : FnG P w K mg base CX0 k f fd ps (sp0 K cls flds m)) (h : ∀ ds s Q, m' ds s Q → m ds s Q) : FnG P w K mg base CX0 k f fd ps (sp0 K cls flds m') :=
  F.imp fun vs H Q E ⟨κ, ds, st, Q', g, r, hm, fin⟩ => ⟨κ, ds, st, Q', g, r, h _ _ _ hm, fin⟩
end
end Pu
set_option maxRecDepth 100000
set_option maxHeartbeats 4000000
namespace Pu
open PySem L2
section
variable {Γ Γ' : Gm} {κ κ' : Ka} {H H' : Hp} {env env' : En} {σ : Sl} {v : V} {st : Sto} {Y : Fam} {a b e o : Expr} {es : List Expr} {ta tb te to : PTE} {pos : Pos}
def MtRef (T : String) (r : PySem.W.Frag → V → List V → Hp → VK → Prop) (p : D → List D → (R → Prop) → Prop) : Prop :=
  ∀ (Γ : Gm) (σ : Sl) (κ : Ka) (H : Hp) (env : En) (v : V) (d : D) (vs : List V) (ds : List D) (Q : R → Prop) (Q' : VK), Rl Γ κ env σ H → RepT Γ κ H v d → RepTL Γ κ H vs ds → p d ds Q →
    (∀ v' κ' H' r, Ext κ H κ' H' → Rl Γ κ' env σ H' → RelR Γ κ' H' env σ v' r → Q r → Q' v' H') → r Γ.K v vs H Q'
/-- what is of a built-in type, at its top -/
def D.isTy (T : String) : D → Prop
  | .str _ => T = "str"
  | .lst _ => T = "list"
  | _ => False
theorem tyV_of {T : String} {d : D} (h : RepT Γ κ H v d) (e : d.isTy T) : tyV Γ.K T v H := by
  cases d with
  | str s => obtain ⟨rfl, _⟩ := Rep.strE h; exact e
  | lst ds => obtain ⟨a, vs, rfl, h1, _⟩ := h; exact .inl ⟨e, vs, SqL.of h1⟩
  | _ => exact e.elim
def tMeth (T : String) (p : D → List D → (R → Prop) → Prop) (to : PTE) (t : PTR) : PTE := fun x e Q => to x e fun r e1 => hold r e1 fun r e1 => (match rv r e1 with
  | some d => d.isTy T
  | none => False) ∧ t x e1 fun rs e2 => match rv r e2, rvL rs e2 with
    | some d, some ds => p d ds (fun r => Q r e2)
    | _, _ => False
theorem ve_meth {id T : String} {name : Str} {apos cpos : Pos} {r : PySem.W.Frag → V → List V → Hp → VK → Prop} {p : D → List D → (R → Prop) → Prop} {t : PTR} (pa : PlainAttrs T) (slot : Slot T name id) (hty : typeOf (.builtin id) = pure (.type "method_descriptor")) (hm : ∀ i, MtR (Y.X i) id (r (Y.X i).K)) (hr : MtRef T r p) (ho : VE Y o to) (ha : VR Y (e :: es) t)
    (hbase : ∀ X : Cx, attributeBase o name X.env (eval o X.env) = eval o X.env := by intro _; rfl)
    (hfew : ∀ X : Cx, ((backTo cpos (starEach (e :: es) X.env)).all (fun x => !x.1) && (backToKw cpos (keywordEach [] X.env)).all (fun x => x.1.isSome)
      && decide ((e :: es).length + ([] : List Keyword).length + (if ([] : List Keyword).isEmpty then 0 else 1) < 30)) = true := by intro _; rfl)
    (hline : (apos.endLine == cpos.line) = true := by rfl) (hs : ∀ X : Cx, starEach (e :: es) X.env = (false, eval e X.env) :: starEach es X.env := by intro _; rfl) (hplain : ∀ X : Cx, (backTo cpos (starEach es X.env)).any (·.1) = false := by intro _; rfl) :
    VE Y (.Call (.Attribute o name apos) (e :: es) [] cpos) (tMeth T p to t) := by
  obtain ⟨ro, po, fo⟩ := ho.ex
  obtain ⟨ra, pa', fa⟩ := ha.ex
  refine ⟨⟨fun E => tBM Y.K T (r Y.K) (ro E) (ra E), fun i => ?_, fun Γ σ κ H env Q Q' hK I q k => ?_⟩⟩
  · have h1 := hm i
    have h2 := pe_bm pa slot hty h1 (po i) (pa' i) (hbase _) (hfew _) hline (hs _) (hplain _)
    rw [Y.hK i] at h2
    exact h2
  · refine fo Γ σ κ H env _ _ hK I q fun v κ1 H1 r1 e1 x1 I1 h1 q1 => ?_
    refine hold_ok I1 h1 q1 fun κ2 r2 x2 I2 h2 q2 => ?_
    obtain ⟨q2a, q2⟩ := q2
    rw [← hK.k]
    constructor
    · cases e' : rv r2 e1 with
      | none => rw [e'] at q2a; exact q2a.elim
      | some d => rw [e'] at q2a; exact tyV_of (rv_ok I2 h2.rel e') q2a
    · refine fa Γ σ κ2 H1 e1 _ _ hK I2 q2 fun vs κ3 H3 rs e3 x3 I3 h3 q3 => ?_
      have h2' : RelR Γ κ3 H3 e3 σ v r2 := (h2.ext x3).rel
      cases e1' : rv r2 e3 with
      | none => rw [e1'] at q3; exact False.elim q3
      | some d1 =>
        cases e2' : rvL rs e3 with
        | none => rw [e1', e2'] at q3; exact False.elim q3
        | some ds =>
          rw [e1', e2'] at q3
          exact hr Γ σ κ3 H3 e3 v d1 vs ds _ Q' I3 (rv_ok I3 h2' e1') (rvL_ok I3 h3 e2') q3 fun v' κ' H' r x I' h' q' => k v' κ' H' r e3 (((x1.trans x2).trans x3).trans x) I' h' q'
def tMeth0 (T : String) (p : D → List D → (R → Prop) → Prop) (to : PTE) : PTE := fun x e Q => to x e fun r e1 => match rv r e1 with
  | some d => d.isTy T ∧ p d [] (fun r => Q r e1)
  | none => False
/-- sep.join(list or tuple of texts) -/
def strL : List D → Option (List (List Nat))
  | [] => some []
  | .str s :: ds => match strL ds with
    | some r => some (s :: r)
    | none => none
  | _ => none
def joinN (s : List Nat) : List (List Nat) → List Nat
  | [] => []
  | [x] => x
  | x :: y :: r => x ++ (s ++ joinN s (y :: r))
def D.items : D → List D
  | .lst ds => ds
  | .tup ds => ds
  | _ => [.non]
def pJoin (d : D) (ds : List D) (Q : R → Prop) : Prop := match d, ds with
  | .str s, [x] => match strL x.items with
    | some r => (r.map List.length).sum + r.length * s.length ≤ 16777216 ∧ Q (.d (.str (joinN s r)))
    | none => False
  | _, _ => False
theorem strL_rep : ∀ {ds : List D} {vs : List V} {r : List (List Nat)}, RepL Γ.K Γ.cls κ H vs ds → strL ds = some r → vs = r.map (fun s => V.str ⟨s.toArray⟩) ∧ (∀ s ∈ r, SOk s)
  | [], _, _, h, e => by cases h; cases e; exact ⟨rfl, by simp⟩
  | .str s :: ds, _, _, .cons h1 h2, e => by
    unfold strL at e
    cases q : strL ds with
    | none => rw [q] at e; cases e
    | some r' =>
      rw [q] at e
      cases e
      obtain ⟨rfl, hs⟩ := h1.strE
      obtain ⟨rfl, hr⟩ := strL_rep h2 q
      refine ⟨rfl, fun t ht => ?_⟩
      rcases List.mem_cons.mp ht with rfl | ht
      · exact hs
      · exact hr t ht
  | .non :: _, _, _, _, e => by simp [strL] at e
  | .bl _ :: _, _, _, _, e => by simp [strL] at e
  | .int _ :: _, _, _, _, e => by simp [strL] at e
  | .tup _ :: _, _, _, _, e => by simp [strL] at e
  | .lst _ :: _, _, _, _, e => by simp [strL] at e
  | .scr _ :: _, _, _, _, e => by simp [strL] at e
  | .box :: _, _, _, _, e => by simp [strL] at e
  | .ref _ :: _, _, _, _, e => by simp [strL] at e
  | .cls _ :: _, _, _, _, e => by simp [strL] at e
  | .exc _ _ _ :: _, _, _, _, e => by simp [strL] at e
theorem joinN_eq (s : List Nat) : ∀ r : List (List Nat), joinN s r = TL.joinL s r
  | [] => rfl
  | [_] => rfl
  | x :: y :: r => by
    show x ++ (s ++ joinN s (y :: r)) = x ++ (s ++ TL.joinL s (y :: r))
    rw [joinN_eq s (y :: r)]
theorem joinN_len (s : List Nat) : ∀ r : List (List Nat), (joinN s r).length ≤ (r.map List.length).sum + r.length * s.length
  | [] => by simp [joinN]
  | [x] => by simp [joinN]
  | x :: y :: r => by
    have ih := joinN_len s (y :: r)
    show (x ++ (s ++ joinN s (y :: r))).length ≤ _
    rw [List.length_append, List.length_append, List.map_cons, List.sum_cons, List.length_cons, Nat.add_mul, Nat.one_mul]
    omega
theorem joinN_mem (s : List Nat) : ∀ (r : List (List Nat)) (c : Nat), c ∈ joinN s r → c ∈ s ∨ ∃ x ∈ r, c ∈ x
  | [], c, h => by simp [joinN] at h
  | [x], c, h => .inr ⟨x, by simp, h⟩
  | x :: y :: r, c, h => by
    have h : c ∈ x ++ (s ++ joinN s (y :: r)) := h
    rcases List.mem_append.mp h with h | h
    · exact .inr ⟨x, by simp, h⟩
    · rcases List.mem_append.mp h with h | h
      · exact .inl h
      · rcases joinN_mem s (y :: r) c h with h | ⟨z, hz, h⟩
        · exact .inl h
        · exact .inr ⟨z, List.mem_cons_of_mem _ hz, h⟩
def rJoin (K : PySem.W.Frag) : V → List V → Hp → VK → Prop := fun x xs H Q => ∃ a p, ∃ ys : List Str, x = .str a ∧ xs = [.ref p] ∧ (SqL K H p (ys.map V.str) ∨ SqT K H p (ys.map V.str)) ∧
    (ys.map (·.length)).sum + ys.length * a.length ≤ 16777216 ∧ Q (.str (Txt.join a ys)) H
theorem ref_join : MtRef "str" rJoin pJoin := by
  intro Γ σ κ H env v d vs ds Q Q' I hd hs q k
  match d, ds, vs, hd, hs, q with
  | .str s, [x], _, hd, .cons hx .nil, q =>
    obtain ⟨rfl, hs⟩ := Rep.strE hd
    unfold pJoin at q
    simp only at q
    cases qe : strL x.items with
    | none => rw [qe] at q; exact q.elim
    | some r =>
      rw [qe] at q
      have key : ∀ (p : Addr) (ws : List V), (SqL Γ.K H p ws ∨ SqT Γ.K H p ws) → RepL Γ.K Γ.cls κ H ws x.items → rJoin Γ.K (.str ⟨s.toArray⟩) [.ref p] H Q' := by
        intro p ws hp hr
        obtain ⟨rfl, hall⟩ := strL_rep hr qe
        have e1 : r.map (fun s => V.str ⟨s.toArray⟩) = (r.map fun s => (⟨s.toArray⟩ : Str)).map V.str := by rw [List.map_map]; rfl
        rw [e1] at hp
        refine ⟨_, p, r.map fun s => (⟨s.toArray⟩ : Str), rfl, rfl, hp, ?_, ?_⟩
        · rw [List.map_map, List.length_map, str_len]
          have : ((fun x => x.length) ∘ fun s : List Nat => (⟨s.toArray⟩ : Str)) = List.length := by
            funext s
            exact str_len s
          rw [this]
          exact q.1
        · have e2 : Txt.join ⟨s.toArray⟩ (r.map fun s => (⟨s.toArray⟩ : Str)) = ⟨(joinN s r).toArray⟩ := by
            rw [joinN_eq]
            exact SX.join_S s r
          rw [e2]
          refine k _ κ H (.d (.str (joinN s r))) (.refl ..) I (.str _ ⟨?_, fun c hc => ?_⟩) q.2
          · have h1 := joinN_len s r
            have h2 := q.1
            rw [sizeLine_eq]
            omega
          · rcases joinN_mem s r c hc with h | ⟨y, hy, h⟩
            · exact hs.2 c h
            · exact (hall y hy).2 c h
      cases x with
      | lst ds => obtain ⟨p, ws, rfl, h1, h2, h3⟩ := hx; exact key p ws (.inl (SqL.of h1)) h3
      | tup ds => obtain ⟨p, ws, rfl, h1, h2, h3⟩ := Rep.sqT hx; exact key p ws (.inr h1) h3
      | _ => simp [D.items, strL] at qe
theorem ve_join {apos cpos : Pos} {t : PTR} (ho : VE Y o to) (ha : VR Y [e] t) (hbase : ∀ X : Cx, attributeBase o "join" X.env (eval o X.env) = eval o X.env := by intro _; rfl)
    (hfew : ∀ X : Cx, ((backTo cpos (starEach [e] X.env)).all (fun x => !x.1) && (backToKw cpos (keywordEach [] X.env)).all (fun x => x.1.isSome)
      && decide (([e] : List Expr).length + ([] : List Keyword).length + (if ([] : List Keyword).isEmpty then 0 else 1) < 30)) = true := by intro _; rfl)
    (hline : (apos.endLine == cpos.line) = true := by rfl) (hs : ∀ X : Cx, starEach [e] X.env = (false, eval e X.env) :: starEach [] X.env := by intro _; rfl) :
    VE Y (.Call (.Attribute o "join" apos) [e] [] cpos) (tMeth "str" pJoin to t) :=
  ve_meth PySem.F.plainAttrs_str PySem.F.slot_str_join PySem.F.type_str_join (fun _ => mt_join) ref_join ho ha hbase hfew hline hs
/-- text.index(sign) -/
def ixOf (c : Nat) : List Nat → Nat
  | [] => 0
  | x :: xs => if x = c then 0 else ixOf c xs + 1
theorem ixOf_spec {c : Nat} : ∀ {l : List Nat}, c ∈ l → l[ixOf c l]? = some c ∧ ∀ j, j < ixOf c l → l[j]? ≠ some c
  | [], h => by cases h
  | x :: xs, h => by
    unfold ixOf
    by_cases e : x = c
    · rw [if_pos e]
      exact ⟨by simp [e], fun j hj => absurd hj (Nat.not_lt_zero _)⟩
    · rw [if_neg e]
      rcases List.mem_cons.mp h with h | h
      · exact absurd h.symm e
      · obtain ⟨h1, h2⟩ := ixOf_spec h
        refine ⟨by simpa using h1, fun j hj => ?_⟩
        cases j with
        | zero => simpa using e
        | succ j => simpa using h2 j (by omega)
theorem occ_stay (x y : Str) (hi i : Nat) : ∀ (l : List Nat) (st : Array Nat × Nat), st.fst = #[i] → (forIn l st (StrLaws.occBody x y hi 1)).run.fst = #[i]
  | [], st, h => h
  | a :: l, st, h => by
    rw [List.forIn_cons]
    unfold StrLaws.occBody
    rw [if_neg (by rw [h]; simp)]
    exact occ_stay x y hi i l _ h
theorem occ_first (x y : Str) (hi i : Nat) : ∀ (l : List Nat) (free : Nat), (∀ j ∈ l, free ≤ j) → i ∈ l → (i + y.length ≤ hi ∧ Builtin.Str.subAt x y i = true) → l.Pairwise (· < ·) → (∀ j ∈ l, j < i → ¬ (j + y.length ≤ hi ∧ Builtin.Str.subAt x y j = true)) →
    (forIn l ((#[] : Array Nat), free) (StrLaws.occBody x y hi 1)).run.fst = #[i]
  | [], _, _, h, _, _, _ => by cases h
  | a :: l, free, hf, hm, hc, hp, hn => by
    rw [List.forIn_cons]
    unfold StrLaws.occBody
    by_cases e : a = i
    · subst e
      rw [if_pos ⟨⟨⟨by simp, hf a (by simp)⟩, hc.1⟩, hc.2⟩]
      exact occ_stay x y hi a l _ (by simp)
    · have hil : i ∈ l := by
        rcases List.mem_cons.mp hm with h | h
        · exact absurd h.symm e
        · exact h
      have hai : a < i := (List.pairwise_cons.mp hp).1 i hil
      rw [if_neg (fun z => hn a (by simp) hai ⟨z.1.2, z.2⟩)]
      exact occ_first x y hi i l free (fun j hj => hf j (List.mem_cons_of_mem _ hj)) hil hc (List.pairwise_cons.mp hp).2 fun j hj => hn j (List.mem_cons_of_mem _ hj)
theorem occ_ix {l : List Nat} {c : Nat} (h : c ∈ l) : Builtin.Str.occurrences ⟨l.toArray⟩ ⟨#[c]⟩ 0 (⟨l.toArray⟩ : Str).length 1 = [ixOf c l] := by
  obtain ⟨h1, h2⟩ := ixOf_spec h
  rw [StrLaws.occ_eq, occ_first _ _ _ (ixOf c l)]
  · exact fun j _ => Nat.zero_le _
  · have := (List.getElem?_eq_some_iff.mp h1).1
    rw [str_len]
    simp only [List.mem_range'_1]
    omega
  · exact (StrLaws.subAt_one _ c _).mpr (by simpa using h1)
  · exact List.pairwise_lt_range' ..
  · exact fun j _ hj z => h2 j hj (by simpa using (StrLaws.subAt_one _ c j).mp z)
def pIndexS (d : D) (ds : List D) (Q : R → Prop) : Prop := match d, ds with
  | .str l, [.str [c]] => c ∈ l ∧ Q (.d (.int (ixOf c l)))
  | _, _ => False
theorem ref_indexS : MtRef "str" (fun _ x xs H Q => ∃ a b i rest, x = .str a ∧ xs = [.str b] ∧ Builtin.Str.occurrences a b 0 a.length 1 = i :: rest ∧ Q (.int (i : Nat)) H) pIndexS := by
  intro Γ σ κ H env v d vs ds Q Q' I hd hs q k
  match d, ds, vs, hd, hs, q with
  | .str l, [.str [c]], _, hd, .cons hx .nil, q =>
    obtain ⟨rfl, _⟩ := Rep.strE hd
    obtain ⟨rfl, _⟩ := Rep.strE hx
    exact ⟨_, _, _, _, rfl, rfl, occ_ix q.1, k _ κ H (.d (.int (ixOf c l))) (.refl ..) I (.int _) q.2⟩
theorem ve_indexS {apos cpos : Pos} {t : PTR} (ho : VE Y o to) (ha : VR Y [e] t) (hbase : ∀ X : Cx, attributeBase o "index" X.env (eval o X.env) = eval o X.env := by intro _; rfl)
    (hfew : ∀ X : Cx, ((backTo cpos (starEach [e] X.env)).all (fun x => !x.1) && (backToKw cpos (keywordEach [] X.env)).all (fun x => x.1.isSome)
      && decide (([e] : List Expr).length + ([] : List Keyword).length + (if ([] : List Keyword).isEmpty then 0 else 1) < 30)) = true := by intro _; rfl)
    (hline : (apos.endLine == cpos.line) = true := by rfl) (hs : ∀ X : Cx, starEach [e] X.env = (false, eval e X.env) :: starEach [] X.env := by intro _; rfl) :
    VE Y (.Call (.Attribute o "index" apos) [e] [] cpos) (tMeth "str" pIndexS to t) :=
  ve_meth PySem.F.plainAttrs_str PySem.F.slot_str_index PySem.F.type_str_index (fun _ => mt_sindex) ref_indexS ho ha hbase hfew hline hs
/-- list.index(data) -/
def ixD (d : D) : List D → Nat
  | [] => 0
  | x :: xs => if D.eq x d = true then 0 else ixD d xs + 1
def pIndexL (d : D) (ds : List D) (Q : R → Prop) : Prop := match d, ds with
  | .lst l, [y] => y.ok 64 = true ∧ D.okL l 63 = true ∧ (l.any fun z => D.eq z y) = true ∧ Q (.d (.int (ixD y l)))
  | _, _ => False
theorem ixD_spec {y : D} (hy : y.ok 64 = true) : ∀ {l : List D}, D.okL l 63 = true → (l.any fun z => D.eq z y) = true → ∃ z, (D.pyL l)[ixD y l]? = some z ∧ PyData.eqv z y.py = true ∧ ∀ (m : Nat) (z' : PyData), m < ixD y l → (D.pyL l)[m]? = some z' → PyData.eqv z' y.py = false
  | [], _, h => by cases h
  | x :: xs, ok, h => by
    simp only [D.okL, Bool.and_eq_true] at ok
    unfold ixD
    have ex : PyData.eqv x.py y.py = D.eq x y := D.eqv_eq x y 63 64 ok.1 hy
    by_cases e : D.eq x y = true
    · rw [if_pos e]
      exact ⟨x.py, by simp [D.pyL], by rw [ex]; exact e, fun m z' hm => absurd hm (Nat.not_lt_zero _)⟩
    · rw [if_neg e]
      rw [List.any_cons, Bool.or_eq_true] at h
      rcases h with h | h
      · exact absurd h e
      · obtain ⟨z, h1, h2, h3⟩ := ixD_spec hy ok.2 h
        refine ⟨z, by simpa [D.pyL] using h1, h2, fun m z' hm hz => ?_⟩
        cases m with
        | zero =>
          have : z' = x.py := by simpa [D.pyL] using hz.symm
          rw [this, ex]
          simpa using e
        | succ m => exact h3 m z' (by omega) (by simpa [D.pyL] using hz)
end
end Pu
set_option maxRecDepth 100000
set_option maxHeartbeats 4000000
namespace Pu
open PySem L2
section
variable {Γ Γ' : Gm} {κ κ' : Ka} {H H' : Hp} {env env' : En} {σ : Sl} {v : V} {st : Sto} {Y : Fam} {a b e o : Expr} {es : List Expr} {ta tb te to : PTE} {pos : Pos}
def mget : R → En → Option (List D)
  | .nam i, e => match e.sl[i]? with
    | some (.own ds) => some ds
    | _ => none
  | .d (.ref k), e => match e.st[k]? with
    | some (.lst ds) => some ds
    | _ => none
  | _, _ => none
def mset : R → En → List D → En
  | .nam i, e, ds => e.setC i (.own ds)
  | .d (.ref k), e, ds => ⟨e.sl, e.st.set k (.lst ds)⟩
  | _, e, _ => e
theorem Gh.upd_obj {p : Addr} {k : Nat} {o : HO} {so : SO} (g : Gh Γ κ st H) (h : κ p = some (.obj k)) (hr : ∀ H', H' p = some o → Ext κ H κ H' → ObjR Γ κ H' p so) (hk : k < st.length) : Gh Γ κ (st.set k so) (L2.upd H p o) := by
  have x : Ext κ H κ (L2.upd H p o) := ⟨fun _ _ e => e, fun a e => upd_ne fun z => by rw [z, h] at e; cases e⟩
  refine ⟨g.sub, g.new, fun b y e => ?_, fun b e => ?_, fun b e => ?_, fun b j e => ?_, g.inj, fun b u e hk' => ?_⟩
  · by_cases hb : b = p
    · rw [hb, upd_same]; simp
    · rw [upd_ne hb]; exact g.trk b y e
  · by_cases hb : b = p
    · rw [hb, upd_same]; simp
    · rw [upd_ne hb]; exact g.trk0 b e
  · rw [upd_ne (fun z => by rw [z, h] at e; cases e)]; exact g.box b e
  · by_cases hb : b = p
    · subst hb
      rw [h] at e
      cases e
      exact ⟨so, by rw [List.getElem?_set_self hk], hr _ upd_same x⟩
    · have hj : j ≠ k := fun z => hb (g.inj b p k (z ▸ e) h)
      obtain ⟨so', h1, h2⟩ := g.obj b j e
      exact ⟨so', by rw [List.getElem?_set_ne (Ne.symm hj)]; exact h1, h2.ext x (upd_ne hb)⟩
  · by_cases hb : b = p
    · subst hb
      rcases g.new b _ h with z | z | ⟨z, _⟩
      · rcases hk' with q | q <;> (rw [q] at z; cases z)
      · rw [e] at z; cases z
      · cases z
    · rw [upd_ne hb]; exact g.base b u e hk'
theorem mut_ok {r : R} {ds : List D} (I : Rl Γ κ env σ H) (h : HeldR Γ κ H σ v r) (e : mget r env = some ds) : ∃ a vs, v = .ref a ∧ H a = some (.lst vs) ∧ vs.length ≤ sizeLine ∧ RepL Γ.K Γ.cls κ H vs ds ∧
    ∀ vs' ds', vs'.length ≤ sizeLine → RepL Γ.K Γ.cls κ H vs' ds' → Ext κ H κ (upd H a (.lst vs')) ∧ Rl Γ κ (mset r env ds') σ (upd H a (.lst vs')) := by
  cases r with
  | nam i =>
    have h : σ[i]? = some (some v) := h
    unfold mget at e
    simp only at e
    cases q : env.sl[i]? with
    | none => rw [q] at e; cases e
    | some c =>
      have s := I.get q
      rw [q] at e
      cases c with
      | own ds' =>
        cases e
        obtain ⟨a, e1, k1, h0, vs, h2, h3, h4⟩ := s
        rw [h] at e1
        cases e1
        refine ⟨a, vs, rfl, h2, h3, h4, fun vs' ds' l' r' => ?_⟩
        have x : Ext κ H κ (L2.upd H a (.lst vs')) := Ext.upd k1
        have hi : i < env.sl.length := (List.getElem?_eq_some_iff.mp q).1
        have own_i : OwnS env σ i a := ⟨h, _, q, rfl⟩
        refine ⟨x, ⟨by rw [I.len]; simp [mset, En.setC], fun j c ec => ?_, fun j l b o1 o2 => ?_, I.gh.upd k1 h0⟩⟩
        · have ec : (env.sl.set i (C.own ds'))[j]? = some c := ec
          by_cases hj : j = i
          · subst hj
            rw [List.getElem?_set_self hi] at ec
            cases ec
            exact ⟨a, h, k1, h0, vs', upd_same, l', r'.mono x⟩
          · rw [List.getElem?_set_ne (Ne.symm hj)] at ec
            have s := I.get ec
            cases hc : c.isOwn with
            | true =>
              obtain ⟨b, e1, hb⟩ := s.own hc
              have hba : b ≠ a := fun z => hj (I.dist j i a ⟨z ▸ e1, c, ec, hc⟩ own_i)
              exact .mk e1 (hb.ext x hb.facts.1 (upd_ne hba))
            | false =>
              cases c with
              | un => trivial
              | d d => obtain ⟨v, e1, r⟩ := s; exact ⟨v, e1, r.mono x⟩
              | _ => cases hc
        · have old : ∀ m, OwnS (env.setC i (.own ds')) σ m b → OwnS env σ m b := fun m ⟨z1, c, z2, z3⟩ => by
            have z2 : (env.sl.set i (C.own ds'))[m]? = some c := z2
            by_cases hm : m = i
            · subst hm
              exact ⟨z1, _, q, rfl⟩
            · rw [List.getElem?_set_ne (Ne.symm hm)] at z2
              exact ⟨z1, c, z2, z3⟩
          exact I.dist j l b (old j o1) (old l o2)
      | _ => cases e
  | d d =>
    cases d with
    | ref k =>
      unfold mget at e
      simp only at e
      cases q : env.st[k]? with
      | none => rw [q] at e; cases e
      | some so =>
        rw [q] at e
        cases so with
        | lst ds' =>
          cases e
          cases h with
          | @ref a _ hk =>
            obtain ⟨so, g1, g2⟩ := I.gh.obj a k hk
            rw [q] at g1
            cases g1
            obtain ⟨vs, h2, h3, h4⟩ := g2
            refine ⟨a, vs, rfl, h2, h3, h4, fun vs' ds' l' r' => ?_⟩
            have x : Ext κ H κ (L2.upd H a (.lst vs')) := ⟨fun _ _ e => e, fun b e => upd_ne fun z => by rw [z, hk] at e; cases e⟩
            refine ⟨x, I.step x (fun i b hb => ?_) (I.gh.upd_obj (so := .lst ds') hk (fun H' e x' => ⟨vs', e, l', r'.mono x'⟩) (List.getElem?_eq_some_iff.mp q).1)⟩
            obtain ⟨c, _, hc⟩ := I.ownS hb
            exact ⟨hc.facts.1, upd_ne fun z => by have := hc.facts.1; rw [z, hk] at this; cases this⟩
        | _ => cases e
    | _ => cases e
  | own _ => cases e
  | dK _ => cases e
  | dT _ => cases e
abbrev PMu := List D → List D → (List D → D → Prop) → Prop
def MutRef (r : V → List V → Hp → VK → Prop) (p : PMu) : Prop :=
  ∀ (Γ : Gm) (κ : Ka) (H : Hp) (a : Addr) (vs ws : List V) (ds as : List D) (K : List D → D → Prop) (Q' : VK), H a = some (.lst vs) → vs.length ≤ sizeLine → RepL Γ.K Γ.cls κ H vs ds → RepL Γ.K Γ.cls κ H ws as → (κ a ≠ some .frz) → p ds as K →
    (∀ y vs' ds' dy, vs'.length ≤ sizeLine → RepL Γ.K Γ.cls κ H vs' ds' → Rep Γ.K Γ.cls κ H y dy → K ds' dy → Q' y (upd H a (.lst vs'))) → r (.ref a) ws H Q'
def tMut (p : PMu) (to : PTE) (t : PTA) : PTE := fun x e Q => to x e fun r e1 => hold r e1 fun r e1 => (mget r e1).isSome = true ∧ t x e1 fun as e2 => match mget r e2 with
  | some ds => p ds as fun ds' y => Q (.d y) (mset r e2 ds')
  | none => False
theorem mut_fin {r : V → List V → Hp → VK → Prop} {p : PMu} {R2' : R} {ws : List V} {as : List D} {Q : R → En → Prop} {Q' : VK} (hr : MutRef r p) (I : Rl Γ κ env σ H) (h : HeldR Γ κ H σ v R2') (ha : RepL Γ.K Γ.cls κ H ws as)
    (q : match mget R2' env with | some ds => p ds as fun ds' y => Q (.d y) (mset R2' env ds') | none => False)
    (k : ∀ v κ' H' r env', Ext κ H κ' H' → Rl Γ κ' env' σ H' → RelR Γ κ' H' env' σ v r → Q r env' → Q' v H') : r v ws H Q' := by
  cases e1 : mget R2' env with
  | none => rw [e1] at q; exact q.elim
  | some ds =>
    rw [e1] at q
    obtain ⟨a, vs, rfl, h1, h2, h3, h4⟩ := mut_ok I h e1
    refine hr Γ κ H a vs ws ds as _ Q' h1 h2 h3 ha ?_ q fun y vs' ds' dy l' r' ry q' => ?_
    · intro z
      cases R2' with
      | nam i =>
        have h : σ[i]? = some (some (V.ref a)) := h
        unfold mget at e1
        simp only at e1
        cases q : env.sl[i]? with
        | none => rw [q] at e1; cases e1
        | some c =>
          rw [q] at e1
          cases c with
          | own ds' =>
            obtain ⟨c, _, hc⟩ := I.ownS (i := i) (a := a) ⟨h, _, q, rfl⟩
            rw [hc.facts.1] at z; cases z
          | _ => cases e1
      | d d =>
        cases d with
        | ref k => cases h with | ref hk => rw [hk] at z; cases z
        | _ => cases e1
      | _ => cases e1
    · obtain ⟨x, J⟩ := h4 vs' ds' l' r'
      exact k y κ _ (.d dy) (mset R2' env ds') x J (ry.mono x) q'
theorem tyV_mut {r : R} (I : Rl Γ κ env σ H) (h : HeldR Γ κ H σ v r) (e : (mget r env).isSome = true) : tyV Γ.K "list" v H := by
  obtain ⟨ds, e1⟩ := Option.isSome_iff_exists.mp e
  obtain ⟨a, vs, rfl, h1, _⟩ := mut_ok I h e1
  exact .inl ⟨rfl, vs, SqL.of h1⟩
theorem ve_mut {id : String} {name : Str} {apos cpos : Pos} {r : V → List V → Hp → VK → Prop} {p : PMu} {t : PTA} (slot : Slot "list" name id) (hty : typeOf (.builtin id) = pure (.type "method_descriptor")) (hm : ∀ i, MtR (Y.X i) id r) (hr : MutRef r p) (ho : VE Y o to) (ha : VA Y (e :: es) t)
    (hbase : ∀ X : Cx, attributeBase o name X.env (eval o X.env) = eval o X.env := by intro _; rfl)
    (hfew : ∀ X : Cx, ((backTo cpos (starEach (e :: es) X.env)).all (fun x => !x.1) && (backToKw cpos (keywordEach [] X.env)).all (fun x => x.1.isSome)
      && decide ((e :: es).length + ([] : List Keyword).length + (if ([] : List Keyword).isEmpty then 0 else 1) < 30)) = true := by intro _; rfl)
    (hline : (apos.endLine == cpos.line) = true := by rfl) (hs : ∀ X : Cx, starEach (e :: es) X.env = (false, eval e X.env) :: starEach es X.env := by intro _; rfl) (hplain : ∀ X : Cx, (backTo cpos (starEach es X.env)).any (·.1) = false := by intro _; rfl) :
    VE Y (.Call (.Attribute o name apos) (e :: es) [] cpos) (tMut p to t) := by
  obtain ⟨ro, po, fo⟩ := ho.ex
  obtain ⟨ra, pa', fa⟩ := ha.ex
  refine ⟨⟨fun E => tBM Y.K "list" r (ro E) (ra E), fun i => ?_, fun Γ σ κ H env Q Q' hK I q k => ?_⟩⟩
  · have h2 := pe_bm PySem.F.plainAttrs_list slot hty (hm i) (po i) (pa' i) (hbase _) (hfew _) hline (hs _) (hplain _)
    rw [Y.hK i] at h2
    exact h2
  · refine fo Γ σ κ H env _ _ hK I q fun v κ1 H1 r1 e1 x1 I1 h1 q1 => ?_
    refine hold_ok I1 h1 q1 fun κ2 r2 x2 I2 h2 q2 => ?_
    rw [← hK.k]
    refine ⟨tyV_mut I2 h2 q2.1, fa Γ σ κ2 H1 e1 _ _ hK I2 q2.2 fun vs κ3 H3 as e3 x3 I3 h3 q3 => ?_⟩
    exact mut_fin hr I3 (h2.ext x3) h3 q3 fun v' κ' H' r e' x => k v' κ' H' r e' (((x1.trans x2).trans x3).trans x)
theorem ve_mut0 {id : String} {name : Str} {apos cpos : Pos} {r : V → List V → Hp → VK → Prop} {p : PMu} (slot : Slot "list" name id) (hty : typeOf (.builtin id) = pure (.type "method_descriptor")) (hm : ∀ i, MtR (Y.X i) id r) (hr : MutRef r p) (ho : VE Y o to)
    (hbase : ∀ X : Cx, attributeBase o name X.env (eval o X.env) = eval o X.env := by intro _; rfl) (hline : (apos.endLine == cpos.line) = true := by rfl) :
    VE Y (.Call (.Attribute o name apos) [] [] cpos) (tMut p to tNil) := by
  obtain ⟨ro, po, fo⟩ := ho.ex
  refine ⟨⟨fun E => tBM0 Y.K "list" r (ro E), fun i => ?_, fun Γ σ κ H env Q Q' hK I q k => ?_⟩⟩
  · have h2 := pe_bm0 PySem.F.plainAttrs_list slot hty (hm i) (po i) (hbase _) hline
    rw [Y.hK i] at h2
    exact h2
  · refine fo Γ σ κ H env _ _ hK I q fun v κ1 H1 r1 e1 x1 I1 h1 q1 => ?_
    refine hold_ok I1 h1 q1 fun κ2 r2 x2 I2 h2 q2 => ?_
    rw [← hK.k]
    refine ⟨tyV_mut I2 h2 q2.1, ?_⟩
    exact mut_fin hr I2 h2 (.nil) q2.2 fun v' κ' H' r e' x => k v' κ' H' r e' ((x1.trans x2).trans x)
def mAppend : PMu := fun ds as K => match as with
  | [y] => ds.length < sizeLine ∧ K (ds ++ [y]) .non
  | _ => False
theorem ref_append : MutRef rAppend mAppend := by
  intro Γ κ H a vs ws ds as K Q' h1 h2 h3 h4 hk q k
  match as, ws, h4, q with
  | [y], _, .cons (v := w) r .nil, q => exact ⟨a, vs, w, rfl, rfl, h1, by rw [h3.length]; exact q.1, k .non (vs ++ [w]) (ds ++ [y]) .non (by rw [List.length_append, h3.length]; exact q.1) (h3.append (.cons r .nil)) .non q.2⟩
@[irreducible] def mPop : PMu := fun ds as K => match as with
  | [] => match ds[ds.length - 1]? with
    | some y => K ds.dropLast y
    | none => False
  | _ => False
theorem ref_pop : MutRef rPop mPop := by
  intro Γ κ H a vs ws ds as K Q' h1 h2 h3 h4 hk q k
  unfold mPop at q
  match as, ws, h4, q with
  | [], _, .nil, q =>
    simp only at q
    cases e : ds[ds.length - 1]? with
    | none => rw [e] at q; exact q.elim
    | some y =>
      rw [e] at q
      obtain ⟨w, e1, r⟩ := h3.get e
      exact ⟨a, vs, w, rfl, rfl, h1, by rw [h3.length]; exact e1, k w vs.dropLast ds.dropLast y (by rw [List.length_dropLast]; omega) h3.dropLast r q⟩
@[irreducible] def mPopAt : PMu := fun ds as K => match as with
  | [.int i] => match ixN ds.length i with
    | some j => match ds[j]? with
      | some y => K (ds.eraseIdx j) y
      | none => False
    | none => False
  | _ => False
theorem ref_popAt : MutRef rPopAt mPopAt := by
  intro Γ κ H a vs ws ds as K Q' h1 h2 h3 h4 hk q k
  unfold mPopAt at q
  match as, ws, h4, q with
  | [.int i], _, .cons r .nil, q =>
    cases r
    simp only at q
    cases e : ixN ds.length i with
    | none => rw [e] at q; exact q.elim
    | some j =>
      rw [e] at q
      simp only at q
      cases e2 : ds[j]? with
      | none => rw [e2] at q; exact q.elim
      | some y =>
        rw [e2] at q
        obtain ⟨s1, s2, s3, s4⟩ := ixN_seq e
        obtain ⟨w, e3, rw'⟩ := h3.get e2
        have hl := line63
        have hl2 := h3.length
        exact ⟨a, vs, i, j, w, rfl, rfl, h1, by omega, by omega, by rw [h3.length]; exact s1, e3, k w (vs.eraseIdx j) (ds.eraseIdx j) y (Nat.le_trans (List.length_eraseIdx_le ..) h2) (h3.eraseIdx j) rw' q⟩
def mExtend : PMu := fun ds as K => match as with
  | [.lst zs] => ds.length + zs.length ≤ sizeLine ∧ K (ds ++ zs) .non
  | _ => False
def mReverse : PMu := fun ds as K => match as with
  | [] => K ds.reverse .non
  | _ => False
section
variable {apos cpos : Pos} {t : PTA}
variable (hbase : ∀ (n : Str) (X : Cx), attributeBase o n X.env (eval o X.env) = eval o X.env)
theorem ve_append (ho : VE Y o to) (ha : VA Y [e] t) (hbase : ∀ X : Cx, attributeBase o "append" X.env (eval o X.env) = eval o X.env := by intro _; rfl)
    (hfew : ∀ X : Cx, ((backTo cpos (starEach [e] X.env)).all (fun x => !x.1) && (backToKw cpos (keywordEach [] X.env)).all (fun x => x.1.isSome)
      && decide (([e] : List Expr).length + ([] : List Keyword).length + (if ([] : List Keyword).isEmpty then 0 else 1) < 30)) = true := by intro _; rfl)
    (hline : (apos.endLine == cpos.line) = true := by rfl) (hs : ∀ X : Cx, starEach [e] X.env = (false, eval e X.env) :: starEach [] X.env := by intro _; rfl) : VE Y (.Call (.Attribute o "append" apos) [e] [] cpos) (tMut mAppend to t) :=
  ve_mut PySem.F.slot_list_append PySem.F.type_list_append (fun _ => mt_append) ref_append ho ha hbase hfew hline hs
theorem ve_popAt (ho : VE Y o to) (ha : VA Y [e] t) (hbase : ∀ X : Cx, attributeBase o "pop" X.env (eval o X.env) = eval o X.env := by intro _; rfl)
    (hfew : ∀ X : Cx, ((backTo cpos (starEach [e] X.env)).all (fun x => !x.1) && (backToKw cpos (keywordEach [] X.env)).all (fun x => x.1.isSome)
      && decide (([e] : List Expr).length + ([] : List Keyword).length + (if ([] : List Keyword).isEmpty then 0 else 1) < 30)) = true := by intro _; rfl)
    (hline : (apos.endLine == cpos.line) = true := by rfl) (hs : ∀ X : Cx, starEach [e] X.env = (false, eval e X.env) :: starEach [] X.env := by intro _; rfl) : VE Y (.Call (.Attribute o "pop" apos) [e] [] cpos) (tMut mPopAt to t) :=
  ve_mut PySem.F.slot_list_pop PySem.F.type_list_pop (fun _ => mt_popAt) ref_popAt ho ha hbase hfew hline hs
theorem ve_pop (ho : VE Y o to) (hbase : ∀ X : Cx, attributeBase o "pop" X.env (eval o X.env) = eval o X.env := by intro _; rfl) (hline : (apos.endLine == cpos.line) = true := by rfl) : VE Y (.Call (.Attribute o "pop" apos) [] [] cpos) (tMut mPop to tNil) :=
  ve_mut0 PySem.F.slot_list_pop PySem.F.type_list_pop (fun _ => mt_pop) ref_pop ho hbase hline
end
/-- list(x) -/
def pList : List D → (R → Prop) → Prop
  | [.lst ds], Q => Q (.own ds)
  | [.tup ds], Q => Q (.own ds)
  | [.str s], Q => Q (.own (signs s))
  | _, _ => False
def rListAll (K : PySem.W.Frag) : List V → Hp → VK → Prop := fun xs H Q => (∃ p ys, xs = [.ref p] ∧ (SqL K H p ys ∨ SqT K H p ys) ∧ ∀ l, H l = none → Q (.ref l) (upd H l (.lst ys))) ∨
  ∃ x : Str, xs = [.str x] ∧ x.length ≤ sizeLine ∧ ∀ l, H l = none → Q (.ref l) (upd H l (.lst (x.cps.toList.map fun c => V.str ⟨#[c]⟩)))
theorem call_listAll {X : Cx} (hc : X.calm = true) : CallR X (.type "list") (rListAll X.K) := CallR.or call_list_of (PuE.call_listS hc)
theorem signs_rep {s : List Nat} (hs : ∀ c ∈ s, c < 1114112) : RepL Γ.K Γ.cls κ H (s.map fun c => V.str ⟨#[c]⟩) (signs s) := by
  induction s with
  | nil => exact .nil
  | cons c s ih => exact .cons (.str [c] ⟨by show 1 ≤ sizeLine; decide, fun d hd => by
      have : d = c := by simpa using hd
      rw [this]; exact hs c (by simp)⟩) (ih fun d hd => hs d (List.mem_cons_of_mem _ hd))
theorem signs_length (s : List Nat) : (signs s).length = s.length := by unfold signs; rw [List.length_map]
theorem ref_list : CallRef rListAll pList := by
  intro Γ σ κ H env vs ds Q Q' I h q k
  match ds, vs, h, q with
  | [.lst ds], _, .cons h .nil, q =>
    obtain ⟨a, ws, rfl, h1, h2, h3⟩ := h
    exact .inl ⟨a, ws, rfl, .inl (SqL.of h1), fun l hl => k _ κ _ (.own ds) (Ext.upd_new I.gh hl) (I.upd_new hl) (new_lst I hl h2 h3) q⟩
  | [.tup ds], _, .cons h .nil, q =>
    obtain ⟨a, ws, rfl, h1, h2, h3⟩ := Rep.sqT h
    exact .inl ⟨a, ws, rfl, .inr h1, fun l hl => k _ κ _ (.own ds) (Ext.upd_new I.gh hl) (I.upd_new hl) (new_lst I hl h2 h3) q⟩
  | [.str s], _, .cons h .nil, q =>
    obtain ⟨rfl, hs⟩ := Rep.strE h
    refine .inr ⟨_, rfl, by rw [str_len]; exact hs.1, fun l hl => ?_⟩
    have hl2 : (s.map fun c => V.str ⟨#[c]⟩).length ≤ sizeLine := by rw [List.length_map]; exact hs.1
    exact k _ κ _ (.own (signs s)) (Ext.upd_new I.gh hl) (I.upd_new hl) (new_lst I hl hl2 (signs_rep hs.2)) q
theorem ve_list {p' : Pos} {t : PTR} (hm : ∀ i, (Y.X i).mg "list" = none) (ha : VR Y [e] t) (hc : ∀ i, (Y.X i).calm = true := by intro _; rfl) (hg : ∀ i, Gl (Y.X i) "list" := by intro _; rfl) (he : ∀ X : Cx, starEach [e] X.env = (false, eval e X.env) :: starEach [] X.env := by intro _; rfl) : VE Y (.Call (.Name "list" p') [e] [] pos) (tCallP pList t) :=
  ve_callTy (fun i => call_listAll (hc i)) ref_list hm ha hg (he := he)
/-- tuple(x) -/
def pTuple : List D → (R → Prop) → Prop
  | [.lst ds], Q => Q (.d (.tup ds))
  | [.tup ds], Q => Q (.d (.tup ds))
  | _, _ => False
def rTuple (K : PySem.W.Frag) : List V → Hp → VK → Prop := fun xs H Q => ∃ p ys, xs = [.ref p] ∧ ((SqL K H p ys ∧ PuE.nT H ys Q) ∨ (SqT K H p ys ∧ Q (.ref p) H))
theorem ref_tuple : CallRef rTuple pTuple := by
  intro Γ σ κ H env vs ds Q Q' I h q k
  match ds, vs, h, q with
  | [.lst ds], _, .cons h .nil, q =>
    obtain ⟨a, ws, rfl, h1, h2, h3⟩ := h
    refine ⟨a, ws, rfl, .inl ⟨SqL.of h1, ?_⟩⟩
    exact new_tupB I h2 h3 fun κ' H' p x1 I1 r1 => k _ _ _ (.d (.tup ds)) x1 I1 r1 q
  | [.tup ds], _, .cons h .nil, q =>
    have h0 : Rep Γ.K Γ.cls κ H _ (.tup ds) := h
    obtain ⟨a, ws, rfl, h1, h2, h3⟩ := Rep.sqT h
    exact ⟨a, ws, rfl, .inr ⟨h1, k _ κ H (.d (.tup ds)) (.refl ..) I h0 q⟩⟩
theorem ve_tuple {p' : Pos} {t : PTR} (hm : ∀ i, (Y.X i).mg "tuple" = none) (ha : VR Y [e] t) (hg : ∀ i, Gl (Y.X i) "tuple" := by intro _; rfl) (he : ∀ X : Cx, starEach [e] X.env = (false, eval e X.env) :: starEach [] X.env := by intro _; rfl) : VE Y (.Call (.Name "tuple" p') [e] [] pos) (tCallP pTuple t) :=
  ve_callTy (r := rTuple) (fun i => PuE.call_tuple_ofB) ref_tuple hm ha hg (he := he)
/-- min, max of two ints -/
def pMin2 : List D → (R → Prop) → Prop
  | [.int i, .int j], Q => Q (.d (.int (if j < i then j else i)))
  | _, _ => False
def pMax2 : List D → (R → Prop) → Prop
  | [.int i, .int j], Q => Q (.d (.int (if j > i then j else i)))
  | _, _ => False
/-- all, any of a list of bools -/
def blL : List D → Option (List Bool)
  | [] => some []
  | .bl b :: ds => match blL ds with
    | some r => some (b :: r)
    | none => none
  | _ => none
theorem blL_rep : ∀ {ds : List D} {vs : List V} {r : List Bool}, RepL Γ.K Γ.cls κ H vs ds → blL ds = some r → vs = r.map V.bl
  | [], _, _, h, e => by cases h; cases e; rfl
  | .bl b :: ds, _, _, .cons h1 h2, e => by
    unfold blL at e
    cases q : blL ds with
    | none => rw [q] at e; cases e
    | some r' => rw [q] at e; cases e; cases h1; rw [blL_rep h2 q]; rfl
  | .non :: _, _, _, _, e => by simp [blL] at e
  | .str _ :: _, _, _, _, e => by simp [blL] at e
  | .int _ :: _, _, _, _, e => by simp [blL] at e
  | .tup _ :: _, _, _, _, e => by simp [blL] at e
  | .lst _ :: _, _, _, _, e => by simp [blL] at e
  | .scr _ :: _, _, _, _, e => by simp [blL] at e
  | .box :: _, _, _, _, e => by simp [blL] at e
  | .ref _ :: _, _, _, _, e => by simp [blL] at e
  | .cls _ :: _, _, _, _, e => by simp [blL] at e
  | .exc _ _ _ :: _, _, _, _, e => by simp [blL] at e
@[irreducible] def pAll : List D → (R → Prop) → Prop
  | [.lst ds], Q => match blL ds with
    | some r => Q (.d (.bl (r.all id)))
    | none => False
  | _, _ => False
@[irreducible] def pAny : List D → (R → Prop) → Prop
  | [.lst ds], Q => match blL ds with
    | some r => Q (.d (.bl (r.any id)))
    | none => False
  | _, _ => False
theorem ref_all : CallRef rAll pAll := by
  intro Γ σ κ H env vs ds Q Q' I h q k
  unfold pAll at q
  match ds, vs, h, q with
  | [.lst ds], _, .cons h .nil, q =>
    obtain ⟨a, ws, rfl, h1, h2, h3⟩ := h
    simp only at q
    cases e : blL ds with
    | none => rw [e] at q; exact q.elim
    | some r =>
      rw [e] at q
      refine ⟨a, r, rfl, ?_, k _ κ H (.d (.bl _)) (.refl ..) I (.bl _) q⟩
      rw [← blL_rep h3 e]
      exact SqL.of h1
theorem ve_all {p' : Pos} {t : PTR} (hm : ∀ i, (Y.X i).mg "all" = none) (ha : VR Y [e] t) (hc : ∀ i, (Y.X i).calm = true := by intro _; rfl) (hg : ∀ i, Gl (Y.X i) "all" := by intro _; rfl) (he : ∀ X : Cx, starEach [e] X.env = (false, eval e X.env) :: starEach [] X.env := by intro _; rfl) : VE Y (.Call (.Name "all" p') [e] [] pos) (tCallP pAll t) :=
  ve_callB (fun i => cr_all (hc i)) ref_all hm ha hg (he := he)
/-- int(b), int(n) -/
def pInt : List D → (R → Prop) → Prop
  | [.int i], Q => Q (.d (.int i))
  | [.bl b], Q => Q (.d (.int (if b then 1 else 0)))
  | _, _ => False
theorem ref_int : CallRef (fun _ xs H Q => (∃ i, xs = [.int i] ∧ Q (.int i) H) ∨ ∃ k, xs = [.bl k] ∧ Q (.int (if k then 1 else 0)) H) pInt := by
  intro Γ σ κ H env vs ds Q Q' I h q k
  match ds, vs, h, q with
  | [.int i], _, .cons h .nil, q => cases h; exact .inl ⟨i, rfl, k _ κ H (.d (.int _)) (.refl ..) I (.int _) q⟩
  | [.bl b], _, .cons h .nil, q => cases h; exact .inr ⟨b, rfl, k _ κ H (.d (.int _)) (.refl ..) I (.int _) q⟩
theorem ve_int1 {p' : Pos} {t : PTR} (hm : ∀ i, (Y.X i).mg "int" = none) (ha : VR Y [e] t) (hg : ∀ i, Gl (Y.X i) "int" := by intro _; rfl) (he : ∀ X : Cx, starEach [e] X.env = (false, eval e X.env) :: starEach [] X.env := by intro _; rfl) : VE Y (.Call (.Name "int" p') [e] [] pos) (tCallP pInt t) :=
  ve_callTy (fun i => call_int1) ref_int hm ha hg (he := he)
/-- reversed(text) -/
def iRevP (te : PTE) : PTI := fun x e Q => te x e fun r e1 => fz r e1 fun d e2 => match d with
  | .str s => Q (signs s).reverse e2
  | _ => False
/-- isinstance(x, a built-in type) -/
def D.tyN : D → Option String
  | .non => some "NoneType"
  | .bl _ => some "bool"
  | .int _ => some "int"
  | .str _ => some "str"
  | .lst _ => some "list"
  | .tup _ => some "tuple"
  | _ => none
def tIsi (T : String) (te : PTE) : PTE := fun x e Q => te x e fun r e1 => match rv r e1 with
  | some d => match d.tyN with
    | some u => match kitB u T with
      | some b => Q (.d (.bl b)) e1
      | none => False
    | none => False
  | none => False
theorem ve_isi {T : String} {x2 : Str} {p' p2 : Pos} (hm : ∀ i, (Y.X i).mg "isinstance" = none) (hm2 : ∀ i, (Y.X i).mg x2 = none) (he : VE Y e te) (hv2 : bootBuiltins x2 = some (.type T) := by decide +kernel) (hg : ∀ i, Gl (Y.X i) "isinstance" := by intro _; rfl) (hg2 : ∀ i, Gl (Y.X i) x2 := by intro _; rfl)
    (hn2 : x2 ≠ "__name__" := by decide) (hd2 : (x2 == ("__debug__" : Str)) = false := by decide)
    (hs : ∀ X : Cx, starEach [e, .Name x2 p2] X.env = (false, eval e X.env) :: starEach [.Name x2 p2] X.env := by intro _; rfl) (hpl : ∀ X : Cx, (backTo pos (starEach [.Name x2 p2] X.env)).any (·.1) = false := by intro _; rfl) : VE Y (.Call (.Name "isinstance" p') [e, .Name x2 p2] [] pos) (tIsi T te) := by
  obtain ⟨ra, pa, fa⟩ := he.ex
  refine ⟨⟨fun E => tCB (rIsi Y.K) (L2.tCons (ra E) (L2.tCons (tC (.ty T)) L2.tNil)), fun i => ?_, fun Γ σ κ H env Q Q' hK I q k => ?_⟩⟩
  · have h1 : CallR (Y.X i) (.builtin "isinstance") (rIsi Y.K) := by have := call_isi (X := Y.X i); rw [Y.hK i] at this; exact this
    exact pe_callB h1 (hg i) (hm i) (by decide +kernel) (pa_cons (pa i) (pa_cons (pe_bltn (hg2 i) (hm2 i) hv2 rfl hn2 hd2) pa_nil) (hs _)) (by decide) (by decide) (hs _) (hpl _)
  · refine fa Γ σ κ H env _ _ hK I q fun v κ1 H1 r1 e1 x1 I1 h1 q1 => ?_
    cases e' : rv r1 e1 with
    | none => rw [e'] at q1; exact q1.elim
    | some d =>
      rw [e'] at q1
      simp only at q1
      have rt := rv_ok I1 h1 e'
      cases e2 : d.tyN with
      | none => rw [e2] at q1; exact q1.elim
      | some u =>
        rw [e2] at q1
        simp only at q1
        cases e3 : kitB u T with
        | none => rw [e3] at q1; exact q1.elim
        | some b =>
          rw [e3] at q1
          have ty : TyX Y.K H1 v (.type u) := by
            cases d with
            | non => cases e2; cases rt; exact .base .non
            | bl b => cases e2; cases rt; exact .base (.bl b)
            | int i => cases e2; cases rt; exact .base (.int i)
            | str s => cases e2; obtain ⟨rfl, _⟩ := Rep.strE rt; exact .base (.str _)
            | lst ds => cases e2; obtain ⟨a, ws, rfl, g1, _⟩ := rt; exact .base (.lst g1)
            | tup ds =>
              cases e2
              have rt : Rep Γ.K Γ.cls κ1 H1 v (.tup ds) := rt
              cases rt with
              | tup _ _ g1 _ _ => exact .base (.tup g1)
              | tupF _ _ _ _ g1 _ _ => exact .fTuple g1
            | _ => cases e2
          exact ⟨v, .ty T, .type u, .type T, b, rfl, .ty T, ty, kit_ty e3, k _ κ1 H1 (.d (.bl b)) e1 x1 I1 (.bl b) q1⟩
end
end Pu
set_option maxRecDepth 100000
set_option maxHeartbeats 1000000
namespace PuE
open PySem L2 PySem.Spec PyProof.Rows
def rRepS : R2 := fun x y H Q => ∃ (s : List Nat) (k : Int), x = .str ⟨s.toArray⟩ ∧ y = .int k ∧ -(2 ^ 63) ≤ k ∧ k < 2 ^ 63 ∧ s.length * k.toNat ≤ 16777216 ∧ Q (.str ⟨(List.replicate k.toNat s).flatten.toArray⟩) H
theorem fold_rep (s : List Nat) : ∀ (m : Nat) (acc : List Nat), (List.replicate m s.toArray).foldl (· ++ ·) acc.toArray = (acc ++ (List.replicate m s).flatten).toArray
  | 0, acc => by simp
  | m + 1, acc => by
    rw [List.replicate_succ, List.foldl_cons, List.append_toArray, fold_rep s m, List.replicate_succ, List.flatten_cons, List.append_assoc]
theorem op_repS {X : Cx} : OpR X (binaryOp .Mult) rRepS := by
  intro pins s σ H x y v u Q I rx ry h
  obtain ⟨l, k, rfl, rfl, h1, h2, hz, q⟩ := h
  obtain ⟨t, rfl⟩ := rx
  obtain ⟨t', rfl⟩ := ry
  have hline : (sizeLine : Nat) = 16777216 := sizeLine_eq
  have hlen : (⟨l.toArray⟩ : Str).length = l.length := rfl
  refine PySem.P.mul_str ?_ ?_ ?_ ?_
  · rw [decide_eq_false (by omega), decide_eq_false (by omega)]; rfl
  · intro hk hn
    rw [hlen]
    intro z
    have hk1 : 1 ≤ k := by omega
    have h3 : (l.length : Int) * k ≤ 16777216 := by
      have : ((l.length * k.toNat : Nat) : Int) ≤ 16777216 := by omega
      rw [Int.natCast_mul, Int.toNat_of_nonneg (by omega)] at this
      exact this
    have h4 : (l.length : Int) ≤ (2 ^ 63 - 1) / k := by
      rw [Int.le_ediv_iff_mul_le (by omega)]
      omega
    omega
  · intro hk hn
    rw [hlen]
    unfold Builtin.Str.tooLong
    simp only [decide_eq_false_iff_not]
    omega
  · have fin : ∀ (y : Str) (s' : Shared), True := fun _ _ => trivial
    by_cases hk : k < 1
    · rw [if_pos hk]
      have e : k.toNat = 0 := by omega
      rw [e] at q
      exact ⟨by decide, .str ⟨([] : List Nat).toArray⟩, H, I.tok _, ⟨_, rfl⟩, q⟩
    · rw [if_neg hk]
      by_cases hb : (k == 1 || (⟨l.toArray⟩ : Str).length == 0) = true
      · rw [if_pos hb]
        have e : (List.replicate k.toNat l).flatten = l := by
          rw [Bool.or_eq_true] at hb
          rcases hb with hb | hb
          · have : k = 1 := by simpa using hb
            subst this
            simp
          · have : l = [] := by
              rw [hlen] at hb
              exact List.eq_nil_of_length_eq_zero (by simpa using hb)
            subst this
            simp
        rw [e] at q
        exact ⟨.str ⟨l.toArray⟩, H, I, ⟨_, rfl⟩, q⟩
      · rw [if_neg hb]
        have e : (⟨(List.replicate k.toNat (⟨l.toArray⟩ : Str).cps).foldl (· ++ ·) #[]⟩ : Str) = ⟨(List.replicate k.toNat l).flatten.toArray⟩ := by
          have := fold_rep l k.toNat []
          rw [List.nil_append] at this
          show (⟨(List.replicate k.toNat l.toArray).foldl (· ++ ·) ([] : List Nat).toArray⟩ : Str) = _
          rw [this]
        rw [e]
        refine ⟨?_, .str ⟨(List.replicate k.toNat l).flatten.toArray⟩, H, I.tok _, ⟨_, rfl⟩, q⟩
        show (List.replicate k.toNat l).flatten.toArray.size ≤ _
        rw [List.size_toArray, List.length_flatten, List.map_replicate, List.sum_replicate_nat, hline, Nat.mul_comm]
        exact hz
end PuE
set_option maxRecDepth 100000
set_option maxHeartbeats 4000000
namespace Pu
open PySem L2
section
variable {Γ Γ' : Gm} {κ κ' : Ka} {H H' : Hp} {env env' : En} {σ : Sl} {v : V} {st : Sto} {Y : Fam} {a b e o : Expr} {es : List Expr} {ta tb te to ti : PTE} {pos : Pos}
def pMul (d e : D) (Q : R → Prop) : Prop := match d, e with
  | .int i, .int j => CMul i j ∧ Q (.d (.int (i * j)))
  | .lst xs, .int k => (-(2 ^ 63) ≤ k ∧ k < 2 ^ 63) ∧ xs.length * k.toNat ≤ sizeLine ∧ Q (.own (List.replicate k.toNat xs).flatten)
  | .str s, .int k => (-(2 ^ 63) ≤ k ∧ k < 2 ^ 63) ∧ s.length * k.toNat ≤ 16777216 ∧ Q (.d (.str (List.replicate k.toNat s).flatten))
  | _, _ => False
def rMulAll : PySem.W.Frag → R2 := fun _ x y H Q => rI CMul (fun i j => .int (i * j)) x y H Q ∨ rRep x y H Q ∨ PuE.rRepS x y H Q
theorem o_mul (X : Cx) : OpR X (binaryOp .Mult) (rMulAll X.K) := OpR.or op_mul (OpR.or op_rep PuE.op_repS)
theorem ref_mul : OpRef rMulAll pMul := by
  intro Γ σ κ H env v u d e Q Q' I hd he q k
  cases d with
  | int i =>
    cases e with
    | int j => cases hd; cases he; exact .inl ⟨i, j, rfl, rfl, q.1, k _ κ H (.d (.int (i * j))) (.refl ..) I (.int _) q.2⟩
    | _ => exact False.elim q
  | lst xs =>
    cases e with
    | int j =>
      cases he
      obtain ⟨a, vs, rfl, h1, h2, h3⟩ := hd
      obtain ⟨⟨q1, q2⟩, q3, q4⟩ := q
      have rr : ∀ n : Nat, RepL Γ.K Γ.cls κ H (List.replicate n vs).flatten (List.replicate n xs).flatten := fun n => by
        induction n with
        | zero => exact .nil
        | succ n ih =>
          rw [List.replicate_succ, List.replicate_succ, List.flatten_cons, List.flatten_cons]
          exact h3.append ih
      refine .inr (.inl ⟨a, j, vs, rfl, rfl, h1, q1, q2, by rw [h3.length]; exact q3, fun p hp => ?_⟩)
      refine k _ κ _ (.own _) (Ext.upd_new I.gh hp) (I.upd_new hp) (new_lst I hp ?_ (rr _)) q4
      rw [List.length_flatten, List.map_replicate, List.sum_replicate_nat, h3.length, Nat.mul_comm]
      exact q3
    | _ => exact False.elim q
  | str s =>
    cases e with
    | int j =>
      cases he
      obtain ⟨rfl, hs⟩ := Rep.strE hd
      obtain ⟨⟨q1, q2⟩, q3, q4⟩ := q
      refine .inr (.inr ⟨s, j, rfl, rfl, q1, q2, q3, k _ κ H (.d (.str _)) (.refl ..) I (.str _ ⟨?_, fun c hc => ?_⟩) q4⟩)
      · rw [List.length_flatten, List.map_replicate, List.sum_replicate_nat, Nat.mul_comm, sizeLine_eq]
        exact q3
      · obtain ⟨l, hl, hc⟩ := List.mem_flatten.mp hc
        rw [(List.mem_replicate.mp hl).2] at hc
        exact hs.2 c hc
    | _ => exact False.elim q
  | _ => exact False.elim q
theorem ve_mul (ha : VE Y a ta) (hb : VE Y b tb) : VE Y (.BinOp a .Mult b pos) (t2 ta tb pMul) := ve_op o_mul ref_mul ha hb
theorem ve_neg (ha : VE Y a ta) : VE Y (.UnaryOp .USub a pos) (t1 ta fun d Q => match d with | .int i => Q (.d (.int (-i))) | _ => False) := by
  obtain ⟨ra, pa, fa⟩ := ha.ex
  refine ⟨⟨fun E => tUn (rU fun i => .int (-i)) (ra E), fun i => pe_un un_neg (pa i), fun Γ σ κ H env Q Q' hK I q k => ?_⟩⟩
  refine fa Γ σ κ H env _ _ hK I q fun v κ1 H1 r1 e1 x1 I1 h1 q1 => ?_
  cases e' : rv r1 e1 with
  | none => rw [e'] at q1; exact q1.elim
  | some d =>
    rw [e'] at q1
    have rt := rv_ok I1 h1 e'
    cases d with
    | int i => cases rt; exact ⟨i, rfl, k _ κ1 H1 (.d (.int (-i))) e1 x1 I1 (.int _) q1⟩
    | _ => exact q1.elim
def setAt (r : R) (dv : D) (i : Int) (e : En) (Q : En → Prop) : Prop := match r with
  | .d .box => (i = 0 ∨ i = 1) ∧ (match dv with | .int _ => Q e | _ => False)
  | r => match mget r e with
    | some ds => match ixN ds.length i with
      | some j => Q (mset r e (ds.set j dv))
      | none => False
    | none => False
def sSetIx (te to ti : PTE) : PTS := fun x P e => te x e fun r0 e1 => fz r0 e1 fun dv e2 => to x e2 fun ro e3 => hold ro e3 fun ro e3 => ti x e3 fun ri e4 => match rv ri e4 with
  | some (.int i) => setAt ro dv i e4 P.nx
  | _ => False
theorem Gh.upd_box {p : Addr} {i j : Int} (g : Gh Γ κ st H) (h : κ p = some .box) : Gh Γ κ st (L2.upd H p (.lst [.int i, .int j])) := by
  have x : Ext κ H κ (L2.upd H p (.lst [.int i, .int j])) := ⟨fun _ _ e => e, fun a e => upd_ne fun z => by rw [z, h] at e; cases e⟩
  refine ⟨g.sub, g.new, fun b y e => ?_, fun b e => ?_, fun b e => ?_, fun b k e => ?_, g.inj, fun b u e hk' => ?_⟩
  · by_cases hb : b = p
    · rw [hb, upd_same]; simp
    · rw [upd_ne hb]; exact g.trk b y e
  · by_cases hb : b = p
    · rw [hb, upd_same]; simp
    · rw [upd_ne hb]; exact g.trk0 b e
  · by_cases hb : b = p
    · exact ⟨i, j, by rw [hb, upd_same]⟩
    · rw [upd_ne hb]; exact g.box b e
  · have hb : b ≠ p := fun z => by rw [z, h] at e; cases e
    obtain ⟨so', h1, h2⟩ := g.obj b k e
    exact ⟨so', h1, h2.ext x (upd_ne hb)⟩
  · by_cases hb : b = p
    · subst hb
      rcases g.new b _ h with z | z | ⟨z, _⟩
      · rcases hk' with q | q <;> (rw [q] at z; cases z)
      · rw [e] at z; cases z
      · cases z
    · rw [upd_ne hb]; exact g.base b u e hk'
theorem vs_setIx {i : Expr} {tpos : Pos} (he : VE Y e te) (ho : VE Y o to) (hi : VE Y i ti) (ha : ∀ (X : Cx) v, assign (.Subscript o i tpos) X.env v = (do
      let ov ← holding [v] (eval o X.env)
      let iv ← holding [v, ov] (eval i X.env)
      standAt tpos
      holding [v, ov, iv] (setItem ov iv v)
      release [v, ov, iv] []) := by intro _ _; rfl)
    (hs : ∀ i', swapsWithSole [.Subscript o i tpos] e pos.line (Y.X i').env = pure false := by intro _; rfl) (hw : ∀ i', swappedStores [.Subscript o i tpos] e (Y.X i').env = pure none := by intro _; rfl)
    (h1 : ∀ X : Cx, (assignEach [.Subscript o i tpos] X.env).map (·.2) = [assign (.Subscript o i tpos) X.env] := by intro _; rfl) : VS Y (.Assign [.Subscript o i tpos] e pos) (sSetIx te to ti) := by
  obtain ⟨re, pe, fe⟩ := he.ex
  obtain ⟨ro, po, fo⟩ := ho.ex
  obtain ⟨ri, pi, fi⟩ := hi.ex
  refine ⟨⟨fun E => tAsg (re E) (gSub (ro E) (ri E) rSetL), fun j => ps_asg (pe j) (pg_sub (po j) (pi j) set_list (ha _)) (hs j) (hw j) (h1 _), fun Γ σ κ H env P P' hK I q l => ?_⟩⟩
  refine fe Γ σ κ H env _ _ hK I q fun v κ1 H1 r1 e1 x1 I1 h1 q1 => ?_
  refine fz_ok I1 h1 q1 fun κ2 dv e2 x2 I2 h2 q2 => ?_
  refine fo Γ σ κ2 H1 e2 _ _ hK I2 q2 fun ov κ3 H3 r3 e3 x3 I3 h3 q3 => ?_
  refine hold_ok I3 h3 q3 fun κ4 r4 x4 I4 h4 q4 => ?_
  refine fi Γ σ κ4 H3 e3 _ _ hK I4 q4 fun iv κ5 H5 r5 e5 x5 I5 h5 q5 => ?_
  have hv : Rep Γ.K Γ.cls κ5 H5 v dv := ((h2.mono x3).mono x4).mono x5
  have hr := h4.ext x5
  have x15 := (((x1.trans x2).trans x3).trans x4).trans x5
  cases e' : rv r5 e5 with
  | none => rw [e'] at q5; exact q5.elim
  | some d =>
    rw [e'] at q5
    have rt := rv_ok I5 h5 e'
    cases d with
    | int i =>
      cases rt
      have gen : (match mget r4 e5 with
          | some ds => match ixN ds.length i with
            | some j => P.nx (mset r4 e5 (ds.set j dv))
            | none => False
          | none => False) → rSetL ov (.int i) v H5 fun H6 => P'.nx σ H6 := fun q => by
        cases em : mget r4 e5 with
        | none => rw [em] at q; exact q.elim
        | some ds =>
          rw [em] at q
          simp only at q
          cases en : ixN ds.length i with
          | none => rw [en] at q; exact q.elim
          | some j =>
            rw [en] at q
            obtain ⟨a, vs, rfl, g1, g2, g3, g4⟩ := mut_ok I5 hr em
            obtain ⟨x6, I6⟩ := g4 (vs.set j v) (ds.set j dv) (by rw [List.length_set]; exact g2) (g3.set j hv)
            exact ⟨a, vs, i, j, rfl, rfl, g1, by rw [g3.length]; exact en, l.1 σ κ5 _ _ (x15.trans x6) I6 q⟩
      cases r4 with
      | d z =>
        cases z with
        | box =>
          cases hr with
          | @box a hk =>
            obtain ⟨m, n, hx⟩ := I5.gh.box a hk
            obtain ⟨hi, q5⟩ := q5
            cases dv with
            | int y =>
              cases hv
              have fin : ∀ m' n' : Int, P'.nx σ (upd H5 a (.lst [.int m', .int n'])) := fun m' n' => by
                have x6 : Ext κ5 H5 κ5 (upd H5 a (.lst [.int m', .int n'])) := ⟨fun _ _ e => e, fun b e => upd_ne fun z => by rw [z, hk] at e; cases e⟩
                refine l.1 σ κ5 _ e5 (x15.trans x6) (I5.step (st' := e5.st) x6 (fun j b hb => ?_) (I5.gh.upd_box hk)) q5
                obtain ⟨c, _, hc⟩ := I5.ownS hb
                exact ⟨hc.facts.1, upd_ne fun z => by have := hc.facts.1; rw [z, hk] at this; cases this⟩
              rcases hi with rfl | rfl
              · exact ⟨a, _, 0, 0, rfl, rfl, hx, rfl, fin y n⟩
              · exact ⟨a, _, 1, 1, rfl, rfl, hx, rfl, fin m y⟩
            | _ => exact q5.elim
        | _ => exact gen q5
      | nam _ => exact gen q5
      | own _ => exact gen q5
      | dK _ => exact gen q5
      | dT _ => exact gen q5
    | _ => exact q5.elim
def boxed (m : PM) : PM := fun ds st Q => m ds st fun c st' => ∃ i j, c = .own [.int i, .int j] ∧ Q (.d .box) st'
theorem FnG.boxed {P : Program} {w : World} {K : PySem.W.Frag} {mg : Str → Option Value} {base : Heap} {ps : List Str} {f : Addr} {fd : FuncData} {k : Nat} {cls : Cl} {flds : Nat → List Str} {m : PM}
    (F : FnG P w K mg base CX0 k f fd ps (sp0 K cls flds m)) : FnG P w K mg base CX0 k f fd ps (sp0 K cls flds (boxed m)) :=
  F.imp fun vs H Q E ⟨κ, ds, st, Q', g, r, hm, fin⟩ => ⟨κ, ds, st, _, g, r, hm, fun v κ' H' c st' g' rc ⟨i, j, hc, q⟩ => by
    subst hc
    obtain ⟨a, rfl, h1, h2, vs, h3, h4, h5⟩ := rc
    have x : Ext κ' H' (put κ' a .box) H' := Ext.put h1
    have hx : ∃ i j, H' a = some (.lst [.int i, .int j]) := by
      cases h5 with
      | cons r1 r2 => cases r1; cases r2 with
        | cons r2 r3 => cases r2; cases r3; exact ⟨_, _, h3⟩
    refine fin (.ref a) (put κ' a .box) H' (.d .box) st' ?_ (.box put_same) q
    have ne : ∀ b y, κ' b = some y → b ≠ a := fun b y e z => by rw [z, h1] at e; cases e
    refine ⟨fun b y e => x.1 b y (g'.sub b y e), fun b y e => ?_, fun b y e => ?_, g'.trk0, fun b e => ?_, fun b k e => ?_, fun b c k e1 e2 => ?_, g'.base⟩
    · by_cases hb : b = a
      · subst hb; exact .inr (.inl h2)
      · rw [put_ne hb] at e; exact g'.new b y e
    · by_cases hb : b = a
      · subst hb; rw [h3]; simp
      · rw [put_ne hb] at e; exact g'.trk b y e
    · by_cases hb : b = a
      · subst hb; exact hx
      · rw [put_ne hb] at e; exact g'.box b e
    · by_cases hb : b = a
      · subst hb; rw [put_same] at e; cases e
      · rw [put_ne hb] at e
        obtain ⟨so, g1, g2⟩ := g'.obj b k e
        exact ⟨so, g1, g2.ext x rfl⟩
    · have hb : b ≠ a := fun z => by subst z; rw [put_same] at e1; cases e1
      have hc : c ≠ a := fun z => by subst z; rw [put_same] at e2; cases e2
      rw [put_ne hb] at e1
      rw [put_ne hc] at e2
      exact g'.inj b c k e1 e2⟩
end
end Pu
set_option maxRecDepth 100000
set_option maxHeartbeats 4000000
namespace Pu
open PySem L2 PySem.Spec PyProof.Rows
section
variable {X : Cx} {tg : Expr}
def iAnyH (K : PySem.W.Frag) (tl : TE) : TI := fun σ H R => tl σ H fun x H1 => (∃ a, x = .ref a ∧ (∃ xs, SqL K H1 a xs) ∧ R (Itl K a) H1) ∨ (∃ a, x = .ref a ∧ (∃ xs, SqT K H1 a xs) ∧ R (Itt K a) H1) ∨ ∃ y, x = .str y ∧ R (Its y) H1
theorem pi_any {l : Expr} {tl : TE} (hl : PE X l tl) : PI X tg l (iAnyH X.K tl) := by
  refine ⟨fun pins s σ H R I h => ?_⟩
  refine thn (hl.run pins s σ H _ I h) fun v s1 ⟨x, H1, I1, r1, q1⟩ => ?_
  rcases q1 with ⟨a, e, ⟨xs, hq⟩, q⟩ | ⟨a, e, ⟨xs, hq⟩, q⟩ | ⟨y, e, q⟩
  · subst e
    cases r1
    obtain ⟨its, rv, p, hz⟩ := I1.list hq
    refine wpAny_pyIter_list p.isList ?_
    refine ⟨s1.heap.objs.size, [s1.heap.objs.size], _, _, H1, rfl, I1.kept (t' := s1.toks) fun b o e => Heap.get?_push_of_some _ e, turn_list a _, ⟨_, Heap.get?_push_size _ rfl, rfl, rfl⟩, fun b hb => ?_, q⟩
    have e : b = s1.heap.objs.size := by simpa using hb
    subst e
    exact I1.fpOk (Nat.le_refl _) (I1.hok.fresh (Nat.le_refl _))
  · subst e
    cases r1
    obtain ⟨its, rv, p, hz⟩ := I1.tuple hq
    refine wpAny_pyIter_tuple (show s1.heap.IsTuple a its.toArray from p) ?_
    refine ⟨s1.heap.objs.size, [s1.heap.objs.size], _, _, H1, rfl, I1.kept (t' := s1.toks) fun b o e => Heap.get?_push_of_some _ e, turn_tuple a _, ⟨_, Heap.get?_push_size _ rfl, rfl, rfl⟩, fun b hb => ?_, q⟩
    have e : b = s1.heap.objs.size := by simpa using hb
    subst e
    exact I1.fpOk (Nat.le_refl _) (I1.hok.fresh (Nat.le_refl _))
  · subst e
    obtain ⟨t, rfl⟩ := r1
    cases ha : y.cps.all (· < 128)
    · exact wpAny_pyIter_wide ha (pi_one (tk := s1.toks) I1 _ (turn_str _ y t "str_iterator" (.inr rfl)) ⟨_, Heap.get?_push_size _ rfl, rfl, rfl⟩ q)
    · exact wpAny_pyIter_ascii ha (pi_one (tk := s1.toks) I1 _ (turn_str _ y t "str_ascii_iterator" (.inl rfl)) ⟨_, Heap.get?_push_size _ rfl, rfl, rfl⟩ q)
end
section
variable {Γ Γ' : Gm} {κ κ' : Ka} {H H' : Hp} {env env' : En} {σ : Sl} {v : V} {st : Sto} {Y : Fam} {a b e o : Expr} {es : List Expr} {ta tb te to ti : PTE} {pos : Pos}
/-- the small letters, the capitals -/
def SM : List Nat := [97, 98, 99, 100, 101, 102, 103, 104, 105, 106, 107, 108, 109, 110, 111, 112, 113, 114, 115, 116, 117, 118, 119, 120, 121, 122]
def CP : List Nat := [65, 66, 67, 68, 69, 70, 71, 72, 73, 74, 75, 76, 77, 78, 79, 80, 81, 82, 83, 84, 85, 86, 87, 88, 89, 90]
/-- what one walks in a value -/
def D.walk : D → Option (List D)
  | .lst ds => some ds
  | .tup ds => some ds
  | .str s => some (signs s)
  | _ => none
def iAny (te : PTE) : PTI := fun x e Q => te x e fun r e1 => fz r e1 fun d e2 => match d.walk with
  | some ds => Q ds e2
  | none => False
theorem vi_any {tg : Expr} (he : VE Y e te) : VI Y tg e (iAny te) := by
  obtain ⟨ra, pa, fa⟩ := he.ex
  refine ⟨⟨fun E => iAnyH Y.K (ra E), fun i => by have := pi_any (tg := tg) (pa i); rw [Y.hK i] at this; exact this, fun Γ σ κ H env Q Q' hK I q k => ?_⟩⟩
  refine fa Γ σ κ H env _ _ hK I q fun v κ1 H1 r1 e1 x1 I1 h1 q1 => ?_
  refine fz_ok I1 h1 q1 fun κ2 d e2 x2 I2 h2 q2 => ?_
  rw [← hK.k]
  cases d with
  | lst ds =>
    cases h2 with
    | lst g1 g2 g3 g4 => exact .inl ⟨_, rfl, ⟨_, SqL.of g2⟩, k _ κ2 H1 ds e2 (x1.trans x2) I2 (src_list g1 g2 g4) q2⟩
  | tup ds =>
    obtain ⟨a, vs, rfl, g1, _, _⟩ := h2.sqT
    exact .inr (.inl ⟨a, rfl, ⟨vs, g1⟩, k _ κ2 H1 ds e2 (x1.trans x2) I2 (src_tup (vs := vs) h2) q2⟩)
  | str s =>
    obtain ⟨rfl, hs⟩ := h2.strE
    exact .inr (.inr ⟨_, rfl, k _ κ2 H1 (signs s) e2 (x1.trans x2) I2 (src_str hs) q2⟩)
  | _ => exact False.elim q2
/-- a def of the text behind the top -/
structure DefOk (K : PySem.W.Frag) (mg : Str → Option Value) (x : Str) (st : Stmt) (ps : List Str) (f : Addr) (fd : FuncData) : Prop where
  fn : Fun K x x st f fd
  b : Binds K fd ps []
  g : mg x = some (.ref f)
theorem hu0 {P : Program} {w : World} {K : PySem.W.Frag} {mg : Str → Option Value} {base : Heap} {N : List Str} {qual : Str} {sc : Scope} {f : Addr} {k : Nat} {cls : Cl} {flds : Nat → List Str} : Hu (fam0 P w K mg base N qual sc f k cls flds) := fun i => by
  have h := i.hr.un
  show (i.A.deeper (envOfC qual sc i.s.heap.objs.size f i.cdv)).units + 65 < cLine
  omega
theorem hg0 {P : Program} {w : World} {K : PySem.W.Frag} {mg : Str → Option Value} {base : Heap} {N : List Str} {qual : Str} {sc : Scope} {f : Addr} {k : Nat} {cls : Cl} {flds : Nat → List Str} : ∀ i, ((fam0 P w K mg base N qual sc f k cls flds).X i).A.guards = some [] := fun i => i.gd
theorem hg_blk {sc : Scope} (h : ∀ i, (Y.X i).A.guards = some []) : ∀ i, ((Y.blk sc).X i).A.guards = some [] := fun p => h p.1
theorem hu_blk {sc : Scope} (h : Hu Y) : Hu (Y.blk sc) := fun p => h p.1
abbrev pSub : D → D → (R → Prop) → Prop := pI (fun _ _ => True) fun i j => .int (i - j)
abbrev pMod : D → D → (R → Prop) → Prop := pI (fun _ j => 0 < j) fun i j => .int (i % j)
abbrev pFdiv : D → D → (R → Prop) → Prop := pI CDivW fun i j => .int (i / j)
abbrev pPow : D → D → (R → Prop) → Prop := pI CPow fun i j => .int (i ^ j.toNat)
def pNeg : D → (R → Prop) → Prop := fun d Q => match d with | .int i => Q (.d (.int (-i))) | _ => False
end
end Pu
set_option maxRecDepth 100000
set_option maxHeartbeats 1000000
namespace Pu
open PySem L2 PySem.Spec PyProof.Rows
/-- a sign that a text shows as it is -/
def PlainC (c : Nat) : Prop := 32 ≤ c ∧ c < 127 ∧ c ≠ 39 ∧ c ≠ 92
instance (c : Nat) : Decidable (PlainC c) := by unfold PlainC; infer_instance
mutual
/-- what is shown plainly -/
def D.rok : D → Bool
  | .non => true
  | .bl _ => true
  | .int i => decide (i.natAbs.log2 < 1920)
  | .str s => s.all fun c => decide (PlainC c)
  | .lst ds => D.rokL ds
  | .tup ds => D.rokL ds
  | _ => false
def D.rokL : List D → Bool
  | [] => true
  | d :: ds => d.rok && D.rokL ds
end
mutual
def D.rlen : D → Nat
  | .non => 4
  | .bl _ => 5
  | .int _ => 1921
  | .str s => s.length + 2
  | .lst ds => D.rlenL ds + 2
  | .tup ds => D.rlenL ds + 3
  | _ => 0
def D.rlenL : List D → Nat
  | [] => 0
  | d :: ds => d.rlen + 2 + D.rlenL ds
end
/-- what repr shows -/
def shw (d : D) : List Nat := d.py.shown.cps.toList
end Pu
set_option maxRecDepth 100000
set_option maxHeartbeats 1000000
namespace Pu
open PySem L2 PySem.Spec PyProof.Rows
/-- repr(x) -/
def pRepr : List D → (R → Prop) → Prop
  | [d], Q => d.ok 64 = true ∧ d.rok = true ∧ d.rlen ≤ 16777216 ∧ Q (.d (.str (shw d)))
  | _, _ => False
theorem minD_strs (x : List Nat) : ∀ xs : List (List Nat), PySem.W.minD (.str ⟨x.toArray⟩) (xs.map fun s => .str ⟨s.toArray⟩) = .str ⟨(xs.foldl (fun a y => if y < a then y else a) x).toArray⟩ := by
  intro xs
  unfold PySem.W.minD
  induction xs generalizing x with
  | nil => rfl
  | cons y xs ih =>
    rw [List.map_cons, List.foldl_cons, List.foldl_cons, PySem.W.dataLt_str]
    by_cases h : y < x
    · rw [if_pos (by simpa using h), if_pos h]; exact ih y
    · rw [if_neg (by simpa using h), if_neg h]; exact ih x
def minS (x : List Nat) (r : List (List Nat)) : List Nat := r.foldl (fun a y => if y < a then y else a) x
def vS (s : List Nat) : V := .str ⟨s.toArray⟩
theorem dpAll_strs {K : PySem.W.Frag} {H : Hp} : ∀ r : List (List Nat), DpAll K H (r.map vS) (r.map fun s => PyData.str ⟨s.toArray⟩)
  | [] => .nil
  | x :: r => .cons (.str _) (dpAll_strs r)
theorem alike_strs (r : List (List Nat)) : PySem.W.AlikeAll (r.map fun s => PyData.str ⟨s.toArray⟩) := by
  constructor
  · intro x hx y hy
    obtain ⟨a, _, rfl⟩ := List.mem_map.mp hx
    obtain ⟨b, _, rfl⟩ := List.mem_map.mp hy
    simp [PySem.W.alike]
  · intro x hx
    obtain ⟨a, _, rfl⟩ := List.mem_map.mp hx
    exact fun z => nomatch z
theorem depth_strs (r : List (List Nat)) : PyData.depthAll (r.map fun s => PyData.str ⟨s.toArray⟩) ≤ 1 := by
  induction r with
  | nil => simp [PyData.depthAll]
  | cons x r ih =>
    simp only [List.map_cons, PyData.depthAll, PyData.depth]
    omega
def rMinSq (K : PySem.W.Frag) : List V → Hp → VK → Prop := fun xs H Q => ∃ p x r, xs = [.ref p] ∧ (SqL K H p ((x :: r).map vS) ∨ SqT K H p ((x :: r).map vS)) ∧ Q (vS (minS x r)) H
section
variable {X : Cx}
theorem call_minSq (hc : X.calm = true) (hu : X.A.units + 65 < cLine) : CallR X (.builtin "min") (rMinSq X.K) := by
  intro pins s σ H xs us Q I r h
  obtain ⟨p, x, rr, rfl, hs, q⟩ := h
  have fin : ∀ (v : Value) (h' : Heap) (tk : Tok) (bs : List Addr), Reads h' v (PySem.W.minD (.str ⟨x.toArray⟩) (rr.map fun s => PyData.str ⟨s.toArray⟩)) bs → (∀ b o, s.heap.get? b = some o → h'.get? b = some o) → EP X pins σ Q v { s with heap := h', toks := tk } := by
    intro v h' tk bs rd hk
    rw [minD_strs] at rd
    cases rd
    exact ⟨vS (minS x rr), H, I.kept hk, ⟨_, rfl⟩, q⟩
  have hdep := depth_strs (x :: rr)
  rcases hs with hs | hs
  · obtain ⟨its, rv, hl, _⟩ := I.list hs
    rw [Vals.ref1 r]
    obtain ⟨as, rd⟩ := Dp.readsAll I _ _ _ (dpAll_strs (x :: rr)) rv
    exact PySem.W.min_list_data (I.ok.hd hc) hl.isList rd (alike_strs (x :: rr)) (Nat.lt_of_le_of_lt (Nat.add_le_add_left hdep _) (by omega)) fun i v h' tk bs _ rd hk => fin v h' tk bs rd hk
  · obtain ⟨its, rv, hl, _⟩ := I.tuple hs
    rw [Vals.ref1 r]
    obtain ⟨as, rd⟩ := Dp.readsAll I _ _ _ (dpAll_strs (x :: rr)) rv
    exact PySem.W.min_tuple_data (I.ok.hd hc) hl rd (alike_strs (x :: rr)) (Nat.lt_of_le_of_lt (Nat.add_le_add_left hdep _) (by omega)) fun i v h' tk bs _ rd hk => fin v h' tk bs rd hk
end
theorem minS_mem (x : List Nat) (r : List (List Nat)) : minS x r ∈ x :: r := by
  unfold minS
  induction r generalizing x with
  | nil => simp
  | cons y r ih =>
    rw [List.foldl_cons]
    split
    · exact List.mem_cons_of_mem _ (ih y)
    · have := ih x
      rcases List.mem_cons.mp this with h | h
      · rw [h]; simp
      · exact List.mem_cons_of_mem _ (List.mem_cons_of_mem _ h)
/-- min of a list, of a tuple of texts; of two texts -/
def pMin1 : List D → (R → Prop) → Prop
  | [d], Q => match strL d.items with
    | some (x :: r) => Q (.d (.str (minS x r)))
    | _ => False
  | _, _ => False
def pMin2S : List D → (R → Prop) → Prop
  | [.str x, .str y], Q => Q (.d (.str (if y < x then y else x)))
  | _, _ => False
section
variable {Γ : Gm} {κ : Ka} {H : Hp} {Y : Fam} {e a b : Expr} {pos : Pos}
theorem ref_min1 : CallRef rMinSq pMin1 := by
  intro Γ σ κ H env vs ds Q Q' I h q k
  match ds, vs, h, q with
  | [d], _, .cons (v := v) hd .nil, q =>
    unfold pMin1 at q
    simp only at q
    cases e1 : strL d.items with
    | none => rw [e1] at q; exact q.elim
    | some l =>
      rw [e1] at q
      cases l with
      | nil => exact q.elim
      | cons x r =>
        have fin : ∀ vs' : List V, RepL Γ.K Γ.cls κ H vs' d.items → vs' = (x :: r).map vS ∧ Q' (vS (minS x r)) H := fun vs' hr => by
          obtain ⟨e2, e3⟩ := strL_rep hr e1
          exact ⟨e2, k _ κ H (.d (.str (minS x r))) (.refl ..) I (.str _ (e3 _ (minS_mem x r))) q⟩
        cases d with
        | lst ds =>
          obtain ⟨a, ws, rfl, g1, g2, g3⟩ := hd
          obtain ⟨e2, q2⟩ := fin ws g3
          subst e2
          exact ⟨a, x, r, rfl, .inl (SqL.of g1), q2⟩
        | tup ds =>
          obtain ⟨a, ws, rfl, g1, g2, g3⟩ := Rep.sqT hd
          obtain ⟨e2, q2⟩ := fin ws g3
          subst e2
          exact ⟨a, x, r, rfl, .inr g1, q2⟩
        | _ => simp [D.items, strL] at e1
theorem ve_min1 {p' : Pos} {t : PTR} (hu : Hu Y) (hm : ∀ i, (Y.X i).mg "min" = none) (ha : VR Y [e] t) (hc : ∀ i, (Y.X i).calm = true := by intro _; rfl) (hg : ∀ i, Gl (Y.X i) "min" := by intro _; rfl) (he : ∀ X : Cx, starEach [e] X.env = (false, eval e X.env) :: starEach [] X.env := by intro _; rfl) : VE Y (.Call (.Name "min" p') [e] [] pos) (tCallP pMin1 t) :=
  ve_callB (fun i => call_minSq (hc i) (hu i)) ref_min1 hm ha hg (he := he)
end
end Pu
set_option maxRecDepth 100000
set_option maxHeartbeats 4000000
namespace PuE
open PySem PySem.Spec PyProof.Rows L2 RT PySem.W
section
variable {prog : Program} {w : World} {A : Around} {E : Value → Shared → Prop} {s : Shared}
theorem ks_gather {R : List Value → Shared → Prop} {x : Str} {t : Tok} (hh : A.handled = none) (hn : x.cps.size ≤ sizeLine)
    (h : ∀ (h' : Heap) (tk : Nat) (acc : Array Value), (∀ b o, s.heap.get? b = some o → h'.get? b = some o) → ItemsOf (SignAt x) acc x.cps.size → R acc.toList { s with heap := h', toks := tk }) :
    wpAny (model prog w) A (collect (.str x t)) R E s := by
  unfold collect
  refine wpAny_bind (wpAny_runValue (codeAny_builtin entry_proto_collect' ?_))
  rw [Around.under_plainId PySem.F.plain_proto_collect _]
  show wpAny _ A.in1 (newList [] >>= fun l => again (.builtin "list.__iadd__" ⟨[l, .str x t], []⟩)) _ _ s
  refine wpAny_bind (wpAny_newObj_type ?_)
  refine wpAny_pure ⟨plainId_quiet PySem.F.plain_list_iadd _, codeAny_builtin entry_list_iadd' ?_⟩
  rw [Around.under_plainId PySem.F.plain_list_iadd _]
  have hS₁ : (s.heap.push { cls := .type "list", data := .seq ([] : List Value).toArray }).get? s.heap.objs.size = some { cls := .type "list", data := .seq #[] } := Heap.get?_push_size _ rfl
  show wpAny _ A.in1 (Builtin.List.listExtendWith (.ref s.heap.objs.size) (.str x t) (.ref s.heap.objs.size)) _ _ _
  have key := ks_extend (prog := prog) (w := w) (A := A) (x := x) (t := t) (s := { s with heap := s.heap.push { cls := .type "list", data := .seq ([] : List Value).toArray } })
    (R := fun (q : Result) (s' : Shared) => ∃ (h' : Heap) (tk : Nat) (acc' : Array Value) (c' : Nat), q = .ok (.ret (.ref s.heap.objs.size)) ∧ s' = { s with heap := h', toks := tk } ∧
      (∀ b o, s.heap.get? b = some o → h'.get? b = some o) ∧ h'.get? s.heap.objs.size = some { cls := .type "list", dict := none, data := .seq acc' c', slots := #[] } ∧ ItemsOf (SignAt x) acc' x.cps.size)
    hh s.heap.objs.size (.ref s.heap.objs.size) 0 hS₁
    (fun h' tk acc' c' hk hS' hacc => ⟨h', tk, acc', c', rfl, rfl, fun b o e => hk b o (Nat.ne_of_lt (Heap.lt_size e)) (Heap.get?_push_of_some _ e), hS', hacc⟩) hn
  refine wpAny_mono key (fun fin s' z => ?_) fun e s' z => ?_
  · cases fin with
    | done f =>
      obtain ⟨h', tk, acc', c', e, rfl, hk, hS', hacc⟩ := z
      cases e
      show wpAny _ A (load s.heap.objs.size >>= _) _ _ _
      exact wpAny_bind (wpAny_load hS' (wpAny_pure (h h' tk acc' hk hacc)))
    | again c₁ =>
      refine ⟨z.1, codeAny_mono z.2 fun q s₂ y => ?_⟩
      obtain ⟨h', tk, acc', c', rfl, rfl, hk, hS', hacc⟩ := y
      show wpAny _ A (load s.heap.objs.size >>= _) _ _ _
      exact wpAny_bind (wpAny_load hS' (wpAny_pure (h h' tk acc' hk hacc)))
  · obtain ⟨_, _, _, _, e', _⟩ := z
    cases e'
end
def rSortStr : List V → Hp → VK → Prop := fun xs H Q => ∃ x : Str, xs = [.str x] ∧ x.cps.size < 64 ∧
    ∀ ys p, ys.Perm (x.cps.toList.map fun c => (⟨#[c]⟩ : Str)) → sortedS ys = true → H p = none → Q (.ref p) (upd H p (.lst (ys.map V.str)))
theorem call_sortStr {X : Cx} (hcalm : X.calm = true) : CallR X (.builtin "sorted") rSortStr := by
  intro pins s σ H xs us Q I r q
  obtain ⟨x, ex, h64, q⟩ := q
  subst ex
  obtain ⟨u, rfl, t, rfl⟩ := vals1 r
  have h16 : x.cps.size ≤ sizeLine := by rw [sizeLine_eq]; omega
  refine Calls.call_function_entry PyProof.Rows.kind_sorted PyProof.Rows.plain_sorted PyProof.Rows.entry_sorted (PyProof.Rows.args_sorted1 _) ?_
  unfold Builtin.«sorted»
  refine wpAny_bind (m := checkCount "sorted" 1 1 _) (wpAny_pure ?_)
  refine wpAny_bind (ks_gather (A := X.A.in1) (I.ok.hd hcalm) h16 fun h' tk acc hk hacc => ?_)
  have hl : (x.cps.toList.map fun c => (⟨#[c]⟩ : Str)).length = x.cps.size := by rw [List.length_map, Array.length_toList]
  have hal : acc.toList.length = (x.cps.toList.map fun c => (⟨#[c]⟩ : Str)).length := by rw [Array.length_toList, hacc.1, hl]
  have hS : StrsAre acc.toList (x.cps.toList.map fun c => (⟨#[c]⟩ : Str)) := strs_at hal fun j v e => by
    obtain ⟨c, u, e1, e2⟩ := hacc.2 j v (by rw [← Array.getElem?_toList]; exact e)
    exact ⟨⟨#[c]⟩, u, by rw [List.getElem?_map, Array.getElem?_toList, e1]; rfl, e2⟩
  have I1 : Inv X pins σ H { s with heap := h', toks := tk } := I.kept hk
  refine wpAny_bind (wpAny_newList ?_ (by rw [hal, hl, sizeLine_eq]; omega))
  have hoL : (h'.push (seqObj "list" acc.toList.toArray 0)).get? h'.objs.size = some (seqObj "list" acc.toList.toArray 0) := Heap.get?_push_size _ rfl
  show wpAny _ _ _ _ _ { s with heap := h'.push (seqObj "list" acc.toList.toArray 0), toks := tk }
  refine wpAny_bind (wpAny_holding (wpAny_call_entry PyProof.Rows.slot_list_sort ⟨_, hoL, rfl⟩ PyProof.Rows.entry_list_sort
    (list_sort_treeK strKind_oneLt (s := { s with heap := h'.push (seqObj "list" acc.toList.toArray 0), toks := tk }) hoL hS.keysOf (fun v₁ v₂ rest e => keyKind_strs (by rw [← e]; exact hS)) (by rw [hal, hl]; exact h64) fun st' hp hs => ⟨_, rfl, ?_⟩)
    (PyProof.Rows.args_list_sort _)))
  obtain ⟨ys, g1, g2, g3⟩ := sorted_out_str hS hp hs
  obtain ⟨e', he'⟩ := PyProof.Rows.sortedHeap_at (vs := acc.toList) (out := (arrOf st').map (·.2)) hoL
  have hlen : (ys.map V.str).length ≤ sizeLine := by
    rw [List.length_map, g2.length_eq, hl]
    exact h16
  refine wpAny_pure ⟨_, rfl, .ref h'.objs.size, upd H h'.objs.size (.lst (ys.map V.str)), I1.laid (t' := tk) (fun b u e => ?_) (Nat.le_refl _)
    (show ObjOk X.prog X.w _ _ _ (.lst (ys.map V.str)) from ⟨hlen, ((arrOf st').map (·.2)).toList, e', vals_of_strs g1, by rw [Array.toArray_toList]; exact he'⟩), rfl, q ys _ g2 g3 (I1.hok.fresh (Nat.le_refl _))⟩
  have hb : b < h'.objs.size := Heap.lt_size e
  rw [PyProof.Rows.sortedHeap_old (Nat.ne_of_lt hb) (by rw [size_push']; exact Nat.lt_succ_of_lt hb)]
  exact Heap.get?_push_of_some _ e
end PuE
set_option maxRecDepth 100000
set_option maxHeartbeats 4000000
namespace PuE
open PySem PySem.Spec PyProof.Rows L2 SrtO
end PuE
namespace Pu
open PySem L2 PySem.Spec PyProof.Rows
def pr2 (p : Int × Int) : D := .tup [.int p.1, .int p.2]
def prL : List D → Option (List (Int × Int))
  | [] => some []
  | .tup [.int i, .int j] :: ds => match prL ds with
    | some r => some ((i, j) :: r)
    | none => none
  | _ => none
def D.seqs : D → Option (List D)
  | .lst ds => some ds
  | .tup ds => some ds
  | _ => none
/-- sorted(list or tuple of pairs of ints) -/
def pSortP : List D → (R → Prop) → Prop
  | [d], Q => match d.seqs with
    | some ds => match prL ds with
      | some ps => ∀ qs : List (Int × Int), qs.Perm ps → qs.Pairwise (fun x y => SrtO.lexB y x = false) → Q (.own (qs.map pr2))
      | none => False
    | none => False
  | _, _ => False
end Pu
set_option maxRecDepth 100000
set_option maxHeartbeats 4000000
namespace PuE
open PySem PySem.Spec PyProof.Rows L2 PySem.W
def SqB (K : PySem.W.Frag) (H : Hp) (t : Bool) (a : Addr) (xs : List V) : Prop := if t = true then SqT K H a xs else SqL K H a xs
def ItB (h : Heap) (t : Bool) (it a : Addr) (i : Nat) : Prop := if t = true then h.IsTupleIter it a i else h.IsListIter it a i
theorem ItB.keep {h h' : Heap} {t : Bool} {it a : Addr} {i : Nat} (x : ItB h t it a i) (k : ∀ o, h.get? it = some o → h'.get? it = some o) : ItB h' t it a i := by
  unfold ItB at *
  cases t with
  | true => obtain ⟨o, ho, r⟩ := x; exact ⟨o, k o ho, r⟩
  | false => obtain ⟨o, ho, r⟩ := x; exact ⟨o, k o ho, r⟩
theorem ItB.obj {h : Heap} {t : Bool} {it a : Addr} {i : Nat} (x : ItB h t it a i) : ∃ o, h.get? it = some o ∧ ∀ v, o.data ≠ .cell v := by
  unfold ItB at x
  cases t with
  | true => obtain ⟨o, ho, _, hd⟩ := x; exact ⟨o, ho, fun v q => by rw [hd] at q; cases q⟩
  | false => obtain ⟨o, ho, _, hd⟩ := x; exact ⟨o, ho, fun v q => by rw [hd] at q; cases q⟩
theorem drawsB {X : Cx} {pins : List (Addr × Obj)} {σ : L2.St} {H : Hp} {s : Shared} (I : Inv X pins σ H s) (hc : X.calm = true) {t : Bool} {a it : Addr} {xs : List V} (hq : SqB X.K H t a xs) (hne : a ≠ it) :
    ∃ (its : List Value) (St : Nat → Heap → Prop), Vals xs its ∧ xs.length ≤ sizeLine ∧ Draws X.prog X.w X.A.in1 it [it, a] its.length (fun i v => its[i]? = some v) St ∧ (∀ i, ItB s.heap t it a i → St i s.heap) ∧ (∀ i h, St i h → ItB h t it a i) := by
  unfold SqB at hq
  cases t with
  | true =>
    obtain ⟨its, rv, p, hz⟩ := I.tuple hq
    have D := Draws.tuple (prog := X.prog) (w := X.w) (A := X.A.in1) (I.ok.hd hc) it a hne its.toArray
    have e1 : its.toArray.size = its.length := List.size_toArray
    rw [e1] at D
    refine ⟨its, _, rv, hz, ⟨D.live, D.frame, fun i s Q E h1 h2 h3 => D.item i s Q E h1 h2 fun x h' tk y => h3 x h' tk (by simpa using y), D.done⟩, fun i h => ⟨h, p⟩, fun i h x => x.1⟩
  | false =>
    obtain ⟨its, rv, p, hz⟩ := I.list hq
    have D := Draws.list (prog := X.prog) (w := X.w) (A := X.A.in1) (I.ok.hd hc) it a hne its.toArray
    have e1 : its.toArray.size = its.length := List.size_toArray
    rw [e1] at D
    refine ⟨its, _, rv, hz, ⟨D.live, D.frame, fun i s Q E h1 h2 h3 => D.item i s Q E h1 h2 fun x h' tk y => h3 x h' tk (by simpa using y), D.done⟩, fun i h => ⟨h, p.isList⟩, fun i h x => x.1⟩
theorem SqB.inj {X : Cx} {pins : List (Addr × Obj)} {σ : L2.St} {H : Hp} {s : Shared} (I : Inv X pins σ H s) {t : Bool} {a : Addr} {xs ys : List V} (h : SqB X.K H t a xs) (g : SqB X.K H t a ys) : xs = ys := by
  unfold SqB at h g
  cases t with
  | true => exact I.tuple_inj h g
  | false => exact I.list_inj h g
def Izb (K : PySem.W.Frag) (ta : Bool) (a : Addr) (tb : Bool) (b : Addr) : It :=
  ⟨fun i H => ∃ (xs ys : List V) (x y : V), SqB K H ta a xs ∧ SqB K H tb b ys ∧ xs[i]? = some x ∧ ys[i]? = some y,
    fun i H v H' => ∃ T x y, v = .ref T ∧ H T = none ∧ H' = upd H T (.tup [x, y]) ∧ (∀ xs, SqB K H ta a xs → xs[i]? = some x) ∧ ∀ ys, SqB K H tb b ys → ys[i]? = some y,
    fun i H => ∃ xs ys : List V, SqB K H ta a xs ∧ SqB K H tb b ys ∧ i ≤ xs.length ∧ i ≤ ys.length ∧ (i = xs.length ∨ i = ys.length)⟩
theorem turn_zb {P : Program} {w : World} {K : PySem.W.Frag} {elts : List Expr} {kk : Nat} {tpos : Pos} {ta tb : Bool} {a b z TI TO i1 i2 : Addr} (S : ZipSep2 z TI TO i1 i2 [i1, a] [i2, b]) (n1 : a ≠ i1) (n2 : b ≠ i2) :
    Turn P w K (.Tuple elts kk tpos) (Izb K ta a tb b) [z, TI, TO, i1, i2] z (fun i h => IsZip h z TI TO .none ∧ IsTupOf2 h TI (.ref i1) (.ref i2) ∧ (∃ x y, IsTupOf2 h TO x y) ∧ ItB h ta i1 a i ∧ ItB h tb i2 b i) where
  mem := by simp
  obj := fun i h st c hc => by
    obtain ⟨hz, hTI, ⟨x, y, hTO⟩, h1, h2⟩ := st
    have e' : c = z ∨ c = TI ∨ c = TO ∨ c = i1 ∨ c = i2 := by simpa using hc
    rcases e' with q | q | q | q | q
    · rw [q]; exact ⟨_, hz, fun v q => nomatch q⟩
    · rw [q]; exact ⟨_, hTI, fun v q => nomatch q⟩
    · rw [q]; exact ⟨_, hTO, fun v q => nomatch q⟩
    · rw [q]; exact h1.obj
    · rw [q]; exact h2.obj
  keep := fun i h h' st k => by
    obtain ⟨hz, hTI, ⟨x, y, hTO⟩, h1, h2⟩ := st
    exact ⟨k z (by simp) _ hz, k TI (by simp) _ hTI, ⟨x, y, k TO (by simp) _ hTO⟩, h1.keep fun o q => k i1 (by simp) o q, h2.keep fun o q => k i2 (by simp) o q⟩
  item := by
    intro X hP hw hK hc i pins s σ H E I hf st hg
    subst hP hw hK
    obtain ⟨hz, hTI, ⟨x0, y0, hTO⟩, h1, h2⟩ := st
    obtain ⟨xs, ys, x, y, hqx, hqy, hx, hy⟩ := hg
    obtain ⟨its, St1, rv, _, D1, d1, d1'⟩ := drawsB I hc (it := i1) hqx n1
    obtain ⟨its2, St2, rv2, _, D2, d2, d2'⟩ := drawsB I hc (it := i2) hqy n2
    obtain ⟨u, hu, ru⟩ := rv.get hx
    obtain ⟨u2, hu2, ru2⟩ := rv2.get hy
    have hzl : z < s.heap.objs.size := Heap.lt_size hz
    refine wpAny_pyNext_zipD2_item S D1 D2 hz hTI hTO (d1 i h1) (d2 i h2) (List.getElem?_eq_some_iff.mp hu).1 (List.getElem?_eq_some_iff.mp hu2).1 fun v1 v2 h' tk p1 p2 z' TO' g1 g2 hT hsz hk => ?_
    have p1 : its[i]? = some v1 := p1
    have p2 : its2[i]? = some v2 := p2
    rw [hu] at p1
    rw [hu2] at p2
    cases p1
    cases p2
    refine ⟨_, rfl, wpAny_letOwnedTupleGo_zip (s := { s with heap := h', toks := tk }) z' fun h'' z'' sb => ?_⟩
    have hT2 : h''.get? s.heap.objs.size = some { cls := .type "tuple", data := .seq #[u, u2] } := (sb.2 _ (Nat.ne_of_gt hzl)).trans hT
    have new : ObjOk X.prog X.w (upd H s.heap.objs.size (.tup [x, y])) h'' s.heap.objs.size (.tup [x, y]) :=
      ⟨by show 2 ≤ sizeLine; decide, [u, u2], .cons ru (.cons ru2 .nil), ⟨_, hT2, rfl, _, rfl⟩⟩
    have I1 : Inv X pins σ (upd H s.heap.objs.size (.tup [x, y])) { s with heap := h'', toks := tk } :=
      I.turnedNew (t' := tk) (ch := [z, TI, TO, i1, i2]) (fun c o hb q => (sb.2 c (fun q' => hb (by simp [q']))).trans (hk c o (fun q' => hb (by simp [q'])) (fun q' => hb (by simp [q'])) (fun q' => hb (by simp [q'])) (fun q' => hb (by simp [q'])) q)) hf (Nat.le_refl _) new
    refine ⟨.ref s.heap.objs.size, _, I1, rfl, ⟨_, x, y, rfl, I.hok.fresh (Nat.le_refl _), rfl, fun l hl => by rw [SqB.inj I hl hqx]; exact hx, fun l hl => by rw [SqB.inj I hl hqy]; exact hy⟩, ⟨z'', ?_, ⟨u, u2, ?_⟩, ?_, ?_⟩, fun c hcm => ?_⟩
    · have k1 := hk _ _ S.TIz S.TITO S.TIi1 S.TIi2 hTI
      exact (sb.2 _ S.TIz).trans k1
    · exact (sb.2 _ S.TOz).trans TO'
    · exact (d1' _ _ g1).keep fun o q => (sb.2 _ (Ne.symm S.zi1)).trans q
    · exact (d2' _ _ g2).keep fun o q => (sb.2 _ (Ne.symm S.zi2)).trans q
    · have hlt : c < s.heap.objs.size := by
        have e' : c = z ∨ c = TI ∨ c = TO ∨ c = i1 ∨ c = i2 := by simpa using hcm
        rcases e' with q | q | q | q | q
        · rw [q]; exact hzl
        · rw [q]; exact Heap.lt_size hTI
        · rw [q]; exact Heap.lt_size hTO
        · rw [q]; obtain ⟨_, e1, _⟩ := h1.obj; exact Heap.lt_size e1
        · rw [q]; obtain ⟨_, e2, _⟩ := h2.obj; exact Heap.lt_size e2
      rw [upd_ne (Nat.ne_of_lt hlt)]
      exact (hf c hcm).1
  done := by
    intro X hP hw hK hc i pins s σ H E I hf st hg
    subst hP hw hK
    obtain ⟨hz, hTI, ⟨x0, y0, hTO⟩, h1, h2⟩ := st
    obtain ⟨xs, ys, hqx, hqy, le1, le2, hend⟩ := hg
    obtain ⟨its, St1, rv, _, D1, d1, d1'⟩ := drawsB I hc (it := i1) hqx n1
    obtain ⟨its2, St2, rv2, _, D2, d2, d2'⟩ := drawsB I hc (it := i2) hqy n2
    have l1 := rv.length
    have l2 := rv2.length
    exact wpAny_pyNext_zipD2_end S D1 D2 hz hTI hTO (d1 i h1) (d2 i h2) (by omega) (by omega) (by omega) fun h' tk hk => ⟨rfl, I.turnedL (t' := tk) (ch := [z, TI, TO, i1, i2]) (fun c o hb q =>
      hk c o (fun q' => hb (by simp [q'])) (fun q' => hb (by simp [q'])) (fun q' => hb (by simp [q'])) (fun q' => hb (by simp [q'])) q) hf⟩
  self := fun A i s Q E st h => wpAny_pyIter_zip st.1 h
def iZipB (K : PySem.W.Frag) (ta : TA) : TI := fun σ H R => ta σ H fun vs H1 => ∃ a b t1 t2 xs ys, vs = [.ref a, .ref b] ∧ SqB K H1 t1 a xs ∧ SqB K H1 t2 b ys ∧ R (Izb K t1 a t2 b) H1
theorem beginsB {X : Cx} {pins : List (Addr × Obj)} {σ : L2.St} {H : Hp} {s : Shared} (I : Inv X pins σ H s) {t : Bool} {a : Addr} {xs : List V} (hq : SqB X.K H t a xs) :
    ∃ o Hh, Begins (.ref a) o Hh ∧ Hh s.heap ∧ a < s.heap.objs.size ∧ ∀ h' N, h'.get? N = some o → ItB h' t N a 0 := by
  unfold SqB at hq
  cases t with
  | true =>
    obtain ⟨its, rv, p, hz⟩ := I.tuple hq
    have p : s.heap.IsTuple a its.toArray := p
    exact ⟨_, _, begins_tuple a its.toArray, p, by obtain ⟨o, ho, _⟩ := p; exact Heap.lt_size ho, fun h' N h => ⟨_, h, rfl, rfl⟩⟩
  | false =>
    obtain ⟨its, rv, p, hz⟩ := I.list hq
    exact ⟨_, _, begins_list a its.toArray, p.isList, p.lt, fun h' N h => ⟨_, h, rfl, rfl⟩⟩
theorem pi_zipB {X : Cx} {e e2 : Expr} {ta : TA} {p pos tpos : Pos} {elts : List Expr} {kk : Nat} (hg : Gl X "zip") (hm : X.mg "zip" = none) (ha : PA X [e, e2] ta)
    (hs : starEach [e, e2] X.env = (false, eval e X.env) :: starEach [e2] X.env := by rfl) (hpl : (backTo pos (starEach [e2] X.env)).any (·.1) = false := by rfl) :
    PI X (.Tuple elts kk tpos) (.Call (.Name "zip" p) [e, e2] [] pos) (iZipB X.K ta) := by
  refine ⟨fun pins s σ H R I h => ?_⟩
  refine Call_ (ld_blt I hg hm PyProof.Rows.boot_zip (PyProof.Rows.callWith_type1 (thn (ha.run pos pins s σ H _ I h) fun us s1 ⟨vs, H1, I1, r1, q1⟩ => ?_) hs hpl))
  obtain ⟨a, b, t1, t2, xs, ys, ex, hqx, hqy, q⟩ := q1
  subst ex
  cases r1 with
  | cons r rr =>
    cases rr with
    | cons r' rr =>
      cases rr
      cases r
      cases r'
      obtain ⟨o1, G1, B1, h1, la, w1⟩ := beginsB I1 hqx
      obtain ⟨o2, G2, B2, h2, lb, w2⟩ := beginsB I1 hqy
      refine zip_begins2 B1 B2 h1 h2 fun h' hz hTI hTO g1 g2 hsz hk => wpAny_pyIter_zip hz ?_
      have I2 : Inv X pins σ H1 { s1 with heap := h' } := I1.kept (t' := s1.toks) hk
      have S := zip_sep2 (N := s1.heap.objs.size) (fp1 := [a]) (fp2 := [b]) (fun c hc => by rw [show c = a from (by simpa using hc)]; exact la) (fun c hc => by rw [show c = b from (by simpa using hc)]; exact lb)
      refine ⟨s1.heap.objs.size + 4, [s1.heap.objs.size + 4, s1.heap.objs.size + 2, s1.heap.objs.size + 3, s1.heap.objs.size, s1.heap.objs.size + 1], _, _, H1, rfl, I2, turn_zb S (Nat.ne_of_lt la) (Nat.ne_of_lt (Nat.lt_succ_of_lt lb)), ⟨hz, hTI, ⟨_, _, hTO⟩, w1 _ _ g1, w2 _ _ g2⟩, fun c hcm => ?_, q⟩
      have e' : c = s1.heap.objs.size + 4 ∨ c = s1.heap.objs.size + 2 ∨ c = s1.heap.objs.size + 3 ∨ c = s1.heap.objs.size ∨ c = s1.heap.objs.size + 1 := by simpa using hcm
      have hle : s1.heap.objs.size ≤ c := by
        rcases e' with z | z | z | z | z
        · rw [z]; exact Nat.le_add_right _ _
        · rw [z]; exact Nat.le_add_right _ _
        · rw [z]; exact Nat.le_add_right _ _
        · rw [z]; exact Nat.le_refl _
        · rw [z]; exact Nat.le_add_right _ _
      exact I1.fpOk hle (I1.hok.fresh hle)
/-- how often a sign stands in a text -/
theorem occ_all (x y : Str) (hy : y.length = 1) (hi : Nat) : ∀ (l : List Nat) (st : Array Nat × Nat), (∀ j ∈ l, st.snd ≤ j) → l.Pairwise (· < ·) → st.fst.size + l.length ≤ hi + 1 → (forIn l st (StrLaws.occBody x y hi (hi + 1))).run.fst.size = st.fst.size + (l.filter fun j => decide (j + 1 ≤ hi) && Builtin.Str.subAt x y j).length
  | [], st, _, _, _ => by simp
  | a :: l, st, hf, hp, hs => by
    rw [List.forIn_cons]
    rw [List.pairwise_cons] at hp
    rw [List.length_cons] at hs
    unfold StrLaws.occBody
    by_cases c : a + 1 ≤ hi ∧ Builtin.Str.subAt x y a = true
    · rw [if_pos ⟨⟨⟨by omega, hf a (by simp)⟩, by rw [hy]; exact c.1⟩, c.2⟩, List.filter_cons_of_pos (by simp [c.1, c.2])]
      have := occ_all x y hy hi l (st.fst.push a, a + y.length) (fun j hj => by have := hp.1 j hj; show a + y.length ≤ j; omega) hp.2 (by simp; omega)
      rw [List.length_cons]
      refine Eq.trans this ?_
      simp
      omega
    · rw [if_neg (fun z => c ⟨by have := z.1.2; rw [hy] at this; exact this, z.2⟩), List.filter_cons_of_neg (by
        intro z
        rw [Bool.and_eq_true, decide_eq_true_eq] at z
        exact c z)]
      exact occ_all x y hy hi l (st.fst, st.snd) (fun j hj => hf j (List.mem_cons_of_mem _ hj)) hp.2 (by show st.fst.size + _ ≤ _; omega)
theorem count_places (c : Nat) : ∀ (l : List Nat) (k n : Nat), k + l.length = n → ((List.range' k (l.length + 1)).filter fun j => decide (j + 1 ≤ n) && decide (l[j - k]? = some c)).length = l.count c
  | [], k, n, h => by
    have : ¬ k + 1 ≤ n := by simp at h; omega
    simp [List.range'_succ, this]
  | x :: l, k, n, h => by
    rw [List.length_cons, List.range'_succ]
    have h1 : k + 1 ≤ n := by simp at h; omega
    have ih := count_places c l (k + 1) n (by simp at h; omega)
    have e : ((List.range' (k + 1) (l.length + 1)).filter fun j => decide (j + 1 ≤ n) && decide ((x :: l)[j - k]? = some c)) = (List.range' (k + 1) (l.length + 1)).filter fun j => decide (j + 1 ≤ n) && decide (l[j - (k + 1)]? = some c) := by
      apply List.filter_congr
      intro j hj
      rw [List.mem_range'_1] at hj
      have : j - k = (j - (k + 1)) + 1 := by omega
      rw [this, List.getElem?_cons_succ]
    by_cases hc : x = c
    · rw [List.filter_cons_of_pos (by simp [h1, hc]), e, List.length_cons, ih, hc, List.count_cons_self]
    · rw [List.filter_cons_of_neg (by simp [hc]), e, ih, List.count_cons_of_ne hc]
theorem count_sign (l : List Nat) (c : Nat) : Txt.count ⟨l.toArray⟩ ⟨#[c]⟩ = (l.count c : Nat) := by
  unfold Txt.count
  rw [StrLaws.occ_eq]
  have hl : (⟨l.toArray⟩ : Str).length = l.length := by show l.toArray.size = _; simp
  rw [hl, Nat.sub_zero, Array.length_toList, occ_all _ _ rfl l.length _ (#[], 0) (fun j _ => Nat.zero_le _) List.pairwise_lt_range' (by simp)]
  have e : ((List.range' 0 (l.length + 1)).filter fun j => decide (j + 1 ≤ l.length) && Builtin.Str.subAt ⟨l.toArray⟩ ⟨#[c]⟩ j) = (List.range' 0 (l.length + 1)).filter fun j => decide (j + 1 ≤ l.length) && decide (l[j - 0]? = some c) := by
    apply List.filter_congr
    intro j _
    have h := StrLaws.subAt_one ⟨l.toArray⟩ c j
    rw [hl] at h
    have h : (j + 1 ≤ l.length ∧ Builtin.Str.subAt ⟨l.toArray⟩ ⟨#[c]⟩ j = true) ↔ l[j]? = some c := by
      refine Iff.trans h ?_
      simp
    rw [Bool.eq_iff_iff, Bool.and_eq_true, Bool.and_eq_true, decide_eq_true_eq, decide_eq_true_eq, Nat.sub_zero]
    constructor
    · exact fun z => ⟨z.1, h.mp z⟩
    · exact fun z => h.mpr z.2
  rw [e, count_places c l 0 l.length (by omega)]
  simp
end PuE
namespace Pu
open PySem L2 PySem.Spec PyProof.Rows
section
variable {Γ Γ' : Gm} {κ κ' : Ka} {H H' : Hp} {env env' : En} {σ : Sl} {v : V} {st : Sto} {Y : Fam} {a b e o : Expr} {es : List Expr} {ta tb te to ti : PTE} {pos : Pos}
def zipF : List D → List D → List D
  | x :: xs, y :: ys => .tup [x, y] :: zipF xs ys
  | _, _ => []
theorem zipF_get : ∀ (xs ys : List D) (i : Nat), (zipF xs ys)[i]? = match xs[i]?, ys[i]? with | some x, some y => some (.tup [x, y]) | _, _ => none
  | [], ys, i => by simp [zipF]
  | x :: xs, [], i => by
    simp only [zipF, List.getElem?_nil]
    cases (x :: xs)[i]? <;> rfl
  | x :: xs, y :: ys, 0 => by simp [zipF]
  | x :: xs, y :: ys, i + 1 => by
    rw [zipF, List.getElem?_cons_succ, List.getElem?_cons_succ, List.getElem?_cons_succ, zipF_get xs ys i]
theorem zipF_len : ∀ (xs ys : List D), (zipF xs ys).length = min xs.length ys.length
  | [], ys => by simp [zipF]
  | x :: xs, [] => by simp [zipF]
  | x :: xs, y :: ys => by
    rw [zipF, List.length_cons, zipF_len xs ys, List.length_cons, List.length_cons]
    omega
/-- a list or tuple that stays, as it is walked -/
def D.side : D → Option (Bool × List D)
  | .lst ds => some (false, ds)
  | .tup ds => some (true, ds)
  | _ => none
theorem side_ok {d : D} {t : Bool} {ds : List D} (h : Rep Γ.K Γ.cls κ H v d) (e : d.side = some (t, ds)) : ∃ a, v = .ref a ∧ ∀ (κ1 : Ka) (H1 : Hp), Ext κ H κ1 H1 → ∃ vs, PuE.SqB Γ.K H1 t a vs ∧ RepL Γ.K Γ.cls κ1 H1 vs ds := by
  cases d with
  | lst xs =>
    cases e
    cases h with
    | lst g1 g2 g3 g4 => exact ⟨_, rfl, fun κ1 H1 x => ⟨_, SqL.of ((x.2 _ g1).trans g2), g4.mono x⟩⟩
  | tup xs =>
    cases e
    obtain ⟨a, vs, rfl, _⟩ := h.sqT
    refine ⟨a, rfl, fun κ1 H1 x => ?_⟩
    obtain ⟨b, ws, e0, h1, _, r⟩ := (h.mono x).sqT
    cases e0
    exact ⟨ws, h1, r⟩
  | _ => cases e
theorem src_zb {a b : Addr} {t1 t2 : Bool} {ds es : List D} (hz : ∀ d ∈ ds, isPr d = false) (h1 : ∀ (κ1 : Ka) (H1 : Hp), Ext κ H κ1 H1 → ∃ vs, PuE.SqB Γ.K H1 t1 a vs ∧ RepL Γ.K Γ.cls κ1 H1 vs ds) (h2 : ∀ (κ1 : Ka) (H1 : Hp), Ext κ H κ1 H1 → ∃ vs, PuE.SqB Γ.K H1 t2 b vs ∧ RepL Γ.K Γ.cls κ1 H1 vs es) : Src Γ.K Γ.cls κ H (PuE.Izb Γ.K t1 a t2 b) (zipF ds es) := by
  intro Γ2 hK hc σ κ1 H1 env i I x
  rw [← hK, ← hc] at h1 h2
  rw [← hK]
  obtain ⟨vs, s1, r1⟩ := h1 κ1 H1 x
  obtain ⟨ws, s2, r2⟩ := h2 κ1 H1 x
  refine ⟨fun d e => ?_, fun e => ⟨vs, ws, s1, s2, ?_⟩⟩
  · rw [zipF_get] at e
    cases q1 : ds[i]? with
    | none => rw [q1] at e; cases e
    | some y1 =>
      cases q2 : es[i]? with
      | none => rw [q1, q2] at e; cases e
      | some y2 =>
        rw [q1, q2] at e
        cases e
        obtain ⟨v1, e1, p1⟩ := r1.get q1
        obtain ⟨v2, e2, p2⟩ := r2.get q2
        refine ⟨⟨vs, ws, v1, v2, s1, s2, e1, e2⟩, fun w H' yy => ?_⟩
        obtain ⟨T, z1, z2, rfl, hT, rfl, hz1, hz2⟩ := yy
        have hz1 := hz1 vs s1
        have hz2 := hz2 ws s2
        rw [e1] at hz1
        rw [e2] at hz2
        cases hz1
        cases hz2
        exact ⟨_, new_tup (by show (isPr y1 && [y2].all isPr) = false; rw [hz _ (List.mem_of_getElem? q1)]; rfl) I hT (by show 2 ≤ sizeLine; decide) (.cons p1 (.cons p2 .nil))⟩
  · rw [zipF_len] at e
    have l1 := r1.length
    have l2 := r2.length
    omega
def iZipP (t : PTR) : PTI := fun x e Q => t x e fun rs e1 => match rs with
  | [r1, r2] => fz r1 e1 fun d1 e2 => fz r2 e2 fun d2 e3 => match d1.side, d2.side with
    | some (_, ds), some (_, es) => (∀ d ∈ ds, isPr d = false) ∧ Q (zipF ds es) e3
    | _, _ => False
  | _ => False
theorem vi_zip {elts : List Expr} {kk : Nat} {tpos : Pos} {p : Pos} {t : PTR} {e2 : Expr} (hm : ∀ i, (Y.X i).mg "zip" = none) (ha : VR Y [e, e2] t) (hg : ∀ i, Gl (Y.X i) "zip" := by intro _; rfl)
    (hs : ∀ X : Cx, starEach [e, e2] X.env = (false, eval e X.env) :: starEach [e2] X.env := by intro _; rfl) (hpl : ∀ X : Cx, (backTo pos (starEach [e2] X.env)).any (·.1) = false := by intro _; rfl) :
    VI Y (.Tuple elts kk tpos) (.Call (.Name "zip" p) [e, e2] [] pos) (iZipP t) := by
  obtain ⟨ra, pa, fa⟩ := ha.ex
  refine ⟨⟨fun E => PuE.iZipB Y.K (ra E), fun i => by have := PuE.pi_zipB (elts := elts) (kk := kk) (tpos := tpos) (p := p) (pos := pos) (hg i) (hm i) (pa i) (hs _) (hpl _); rw [Y.hK i] at this; exact this, fun Γ σ κ H env Q Q' hK I q k => ?_⟩⟩
  refine fa Γ σ κ H env _ _ hK I q fun vs κ1 H1 rs e1 x1 I1 h1 q1 => ?_
  match rs, vs, h1, q1 with
  | [r1, r2], [v1, v2], .cons h1 (.cons h2 .nil), q1 =>
    refine fz_ok I1 h1.rel q1 fun κ2 d1 e2 x2 I2 g1 q2 => ?_
    refine fz_ok I2 (h2.ext x2).rel q2 fun κ3 d2 e3 x3 I3 g2 q3 => ?_
    rw [← hK.k]
    cases s1 : d1.side with
    | none => rw [s1] at q3; exact q3.elim
    | some p1 =>
      cases s2 : d2.side with
      | none => rw [s1, s2] at q3; exact q3.elim
      | some p2 =>
        obtain ⟨t1, ds⟩ := p1
        obtain ⟨t2, es⟩ := p2
        rw [s1, s2] at q3
        obtain ⟨a, rfl, w1⟩ := side_ok (g1.mono x3) s1
        obtain ⟨b, rfl, w2⟩ := side_ok g2 s2
        obtain ⟨xs, z1, _⟩ := w1 κ3 H1 (.refl ..)
        obtain ⟨ys, z2, _⟩ := w2 κ3 H1 (.refl ..)
        exact ⟨a, b, t1, t2, xs, ys, rfl, z1, z2, k _ κ3 H1 _ e3 ((x1.trans x2).trans x3) I3 (src_zb q3.1 w1 w2) q3.2⟩
  | [], _, _, q1 => exact False.elim q1
  | [_], _, _, q1 => exact False.elim q1
  | _ :: _ :: _ :: _, _, _, q1 => exact False.elim q1
/-- sum of ints -/
def intL : List D → Option (List Int)
  | [] => some []
  | .int i :: ds => match intL ds with
    | some r => some (i :: r)
    | none => none
  | _ => none
theorem intL_map (r : List Int) : intL (r.map D.int) = some r := by
  induction r with
  | nil => rfl
  | cons x r ih => simp only [List.map_cons, intL, ih]
theorem intL_rep : ∀ {ds : List D} {vs : List V} {r : List Int}, RepL Γ.K Γ.cls κ H vs ds → intL ds = some r → vs = r.map V.int
  | [], _, _, h, e => by cases h; cases e; rfl
  | d :: ds, _, _, h, e => by
    cases h with
    | cons h1 h2 =>
      match d, h1, e with
      | .int i, h1, e =>
        unfold intL at e
        cases q : intL ds with
        | none => rw [q] at e; cases e
        | some r' =>
          rw [q] at e
          cases e
          cases h1
          rw [intL_rep h2 q]
          rfl
def pSum : List D → (R → Prop) → Prop
  | [.lst ds], Q => match intL ds with
    | some r => Q (.d (.int r.sum))
    | none => False
  | _, _ => False
theorem ref_sum : CallRef rSum pSum := by
  intro Γ σ κ H env vs ds Q Q' I h q k
  match ds, vs, h, q with
  | [.lst ds], _, .cons (v := v) hd .nil, q =>
    unfold pSum at q
    simp only at q
    cases e1 : intL ds with
    | none => rw [e1] at q; exact q.elim
    | some r =>
      rw [e1] at q
      obtain ⟨a, ws, rfl, g1, g2, g3⟩ := hd
      have e2 := intL_rep g3 e1
      subst e2
      exact ⟨a, r, rfl, SqL.of g1, k _ κ H (.d (.int r.sum)) (.refl ..) I (.int _) q⟩
theorem ve_sum {p' : Pos} {t : PTR} (hm : ∀ i, (Y.X i).mg "sum" = none) (ha : VR Y [e] t) (hc : ∀ i, (Y.X i).calm = true := by intro _; rfl) (hg : ∀ i, Gl (Y.X i) "sum" := by intro _; rfl) (he : ∀ X : Cx, starEach [e] X.env = (false, eval e X.env) :: starEach [] X.env := by intro _; rfl) : VE Y (.Call (.Name "sum" p') [e] [] pos) (tCallP pSum t) :=
  ve_callB (fun i => cr_sum (hc i)) ref_sum hm ha hg (he := he)
/-- text.count(sign) -/
def pCount (d : D) (ds : List D) (Q : R → Prop) : Prop := match d, ds with
  | .str l, [.str [c]] => Q (.d (.int (l.count c : Nat)))
  | _, _ => False
theorem ref_count : MtRef "str" (fun _ x xs H Q => ∃ a b, x = .str a ∧ xs = [.str b] ∧ Q (.int (Txt.count a b)) H) pCount := by
  intro Γ σ κ H env v d vs ds Q Q' I hd hs q k
  match d, ds, vs, hd, hs, q with
  | .str l, [.str [c]], _, hd, .cons hx .nil, q =>
    obtain ⟨rfl, _⟩ := Rep.strE hd
    obtain ⟨rfl, _⟩ := Rep.strE hx
    refine ⟨_, _, rfl, rfl, ?_⟩
    have e : Txt.count ⟨l.toArray⟩ ⟨[c].toArray⟩ = (l.count c : Nat) := PuE.count_sign l c
    rw [e]
    exact k _ κ H (.d (.int (l.count c : Nat))) (.refl ..) I (.int _) q
theorem ve_count {apos cpos : Pos} {t : PTR} (ho : VE Y o to) (ha : VR Y [e] t) (hbase : ∀ X : Cx, attributeBase o "count" X.env (eval o X.env) = eval o X.env := by intro _; rfl)
    (hfew : ∀ X : Cx, ((backTo cpos (starEach [e] X.env)).all (fun x => !x.1) && (backToKw cpos (keywordEach [] X.env)).all (fun x => x.1.isSome)
      && decide (([e] : List Expr).length + ([] : List Keyword).length + (if ([] : List Keyword).isEmpty then 0 else 1) < 30)) = true := by intro _; rfl)
    (hline : (apos.endLine == cpos.line) = true := by rfl) (hs : ∀ X : Cx, starEach [e] X.env = (false, eval e X.env) :: starEach [] X.env := by intro _; rfl) :
    VE Y (.Call (.Attribute o "count" apos) [e] [] cpos) (tMeth "str" pCount to t) :=
  ve_meth PySem.F.plainAttrs_str PySem.F.slot_str_count PySem.F.type_str_count (fun _ => mt_count) ref_count ho ha hbase hfew hline hs
/-- name += int -/
def sAug (i : Nat) (te : PTE) : PTS := fun x P e => match e.sl[i]? with
  | some (.d (.int a)) => te x e fun r e1 => match rv r e1 with
    | some (.int b) => i < e1.sl.length ∧ P.nx (e1.setC i (.d (.int (a + b))))
    | _ => False
  | _ => False
theorem vs_aug {i : Nat} {x : Str} {p' : Pos} (hN : ∀ j, (Y.X j).N.Nodup) (he : VE Y e te) (hi : ∀ j, (Y.X j).N[i]? = some x := by intro _; rfl) (hx : ∀ j, Loc (Y.X j).env.scope x := by first | exact fun _ => Or.inl rfl | exact fun _ => Or.inr rfl)
    (hf : ∀ j, (Y.X j).fn x = true ∨ (Y.X j).env.scope.names.lookup x = some .local := by first | exact fun _ => .inl rfl | exact fun _ => .inr rfl | assumption) : VS Y (.AugAssign (.Name x p') .Add e pos) (sAug i te) := by
  obtain ⟨ra, pa, fa⟩ := he.ex
  refine ⟨⟨fun E => tAug i (ra E) (ipI fun a b => a + b), fun j => ps_aug (hN j) (hi j) (hx j) (pa j) ip_add (hf j), fun Γ σ κ H env P P' hK I q l => ?_⟩⟩
  unfold sAug at q
  cases q0 : env.sl[i]? with
  | none => rw [q0] at q; exact q.elim
  | some c =>
    rw [q0] at q
    cases c with
    | d d0 =>
      cases d0 with
      | int a =>
        have sx := I.get q0
        obtain ⟨v0, ev, rv0⟩ := sx
        cases rv0
        refine ⟨.int a, ev, ?_⟩
        refine fa Γ σ κ H env _ _ hK I q fun v κ1 H1 r1 e1 x1 I1 h1 q1 => ?_
        cases e' : rv r1 e1 with
        | none => rw [e'] at q1; exact q1.elim
        | some d1 =>
          rw [e'] at q1
          have rt := rv_ok I1 h1 e'
          cases d1 with
          | int b =>
            cases rt
            refine ⟨a, b, rfl, rfl, ?_⟩
            exact asg_ok (v := .int (a + b)) (r := .d (.int (a + b))) I1 (by rw [I1.len]; exact q1.1) (.int _) q1.2 fun κ2 e2 x2 I2 q2 => l.1 _ κ2 H1 e2 (x1.trans x2) I2 q2
          | _ => exact q1.elim
      | _ => exact q.elim
    | _ => exact q.elim
end
end Pu
set_option maxRecDepth 100000
set_option maxHeartbeats 1000000
namespace Pu
open PySem L2 PySem.Spec PyProof.Rows
/-- sorted(list of texts), sorted(text): some order of them that never falls -/
def pSortT : List D → (R → Prop) → Prop
  | [.lst ds], Q => match strL ds with
    | some r => r.length < 64 ∧ ∀ r' : List (List Nat), r'.Perm r → sortedS (r'.map fun s => (⟨s.toArray⟩ : Str)) = true → Q (.own (r'.map D.str))
    | none => False
  | [.str s], Q => s.length < 64 ∧ ∀ r' : List (List Nat), r'.Perm (s.map fun c => [c]) → sortedS (r'.map fun s => (⟨s.toArray⟩ : Str)) = true → Q (.own (r'.map D.str))
  | _, _ => False
def rSortTS (K : PySem.W.Frag) : List V → Hp → VK → Prop := fun xs H Q => rSortedS K xs H Q ∨ PuE.rSortStr xs H Q
section
variable {Γ : Gm} {κ : Ka} {H : Hp} {Y : Fam} {e a b : Expr} {pos : Pos} {σ : Sl} {env : En}
theorem perm_strs {ys : List Str} {r : List (List Nat)} (hp : ys.Perm (r.map fun s => (⟨s.toArray⟩ : Str))) : ∃ r' : List (List Nat), ys = (r'.map fun s => (⟨s.toArray⟩ : Str)) ∧ r'.Perm r := by
  refine ⟨ys.map fun y => y.cps.toList, ?_, ?_⟩
  · rw [List.map_map]
    conv => lhs; rw [← List.map_id ys]
    apply List.map_congr_left
    intro y _
    show y = ⟨y.cps.toList.toArray⟩
    simp
  · have := hp.map fun y : Str => y.cps.toList
    rw [List.map_map] at this
    have e : (r.map ((fun y : Str => y.cps.toList) ∘ fun s => (⟨s.toArray⟩ : Str))) = r := by
      conv => rhs; rw [← List.map_id r]
      apply List.map_congr_left
      intro y _
      simp
    rw [e] at this
    exact this
theorem rep_strs : ∀ {r' : List (List Nat)}, (∀ s ∈ r', SOk s) → RepL Γ.K Γ.cls κ H (r'.map fun s => V.str ⟨s.toArray⟩) (r'.map D.str)
  | [], _ => .nil
  | x :: r', h => .cons (.str x (h x (by simp))) (rep_strs fun s hs => h s (List.mem_cons_of_mem _ hs))
theorem sort_fin {ys : List Str} {r : List (List Nat)} {p : Addr} {Q : R → Prop} {Q' : VK} (I : Rl Γ κ env σ H) (h64 : r.length < 64) (e3 : ∀ s ∈ r, SOk s) (hp : ys.Perm (r.map fun s => (⟨s.toArray⟩ : Str))) (hs : sortedS ys = true) (hpn : H p = none)
    (q2 : ∀ r' : List (List Nat), r'.Perm r → sortedS (r'.map fun s => (⟨s.toArray⟩ : Str)) = true → Q (.own (r'.map D.str)))
    (k : ∀ v' κ' H' r, Ext κ H κ' H' → Rl Γ κ' env σ H' → RelR Γ κ' H' env σ v' r → Q r → Q' v' H') : Q' (.ref p) (upd H p (.lst (ys.map V.str))) := by
  obtain ⟨r', hr1, hr2⟩ := perm_strs hp
  subst hr1
  rw [List.map_map]
  refine k _ κ _ (.own _) (Ext.upd_new I.gh hpn) (I.upd_new hpn) (new_lst I hpn ?_ (rep_strs fun s hs => e3 s (hr2.mem_iff.mp hs))) (q2 r' hr2 hs)
  rw [List.length_map, hr2.length_eq, sizeLine_eq]
  omega
theorem ref_sortT : CallRef rSortTS pSortT := by
  intro Γ σ κ H env vs ds Q Q' I h q k
  match ds, vs, h, q with
  | [.lst ds], _, .cons (v := v) hd .nil, q =>
    unfold pSortT at q
    simp only at q
    cases e1 : strL ds with
    | none => rw [e1] at q; exact q.elim
    | some r =>
      rw [e1] at q
      obtain ⟨q1, q2⟩ := q
      obtain ⟨a, ws, rfl, g1, g2, g3⟩ := hd
      obtain ⟨e2, e3⟩ := strL_rep g3 e1
      subst e2
      refine .inl ⟨a, r.map fun s => (⟨s.toArray⟩ : Str), rfl, ?_, by rw [List.length_map]; exact q1, fun ys p hp hs hpn => ?_⟩
      · rw [List.map_map]; exact SqL.of g1
      · exact sort_fin I q1 e3 hp hs hpn q2 k
  | [.str s], _, .cons (v := v) hd .nil, q =>
    obtain ⟨q1, q2⟩ := q
    obtain ⟨rfl, hs⟩ := Rep.strE hd
    refine .inr ⟨_, rfl, by simpa using q1, fun ys p hp hss hpn => ?_⟩
    refine sort_fin (r := s.map fun c => [c]) I (by rw [List.length_map]; exact q1) (fun x hx => ?_) ?_ hss hpn q2 k
    · obtain ⟨c, hc, rfl⟩ := List.mem_map.mp hx
      exact hs.one hc
    · rw [List.map_map]
      have e : (⟨s.toArray⟩ : Str).cps.toList = s := by simp
      rw [e] at hp
      exact hp
theorem ve_sortT {p' : Pos} {t : PTR} (hm : ∀ i, (Y.X i).mg "sorted" = none) (ha : VR Y [e] t) (hc : ∀ i, (Y.X i).calm = true := by intro _; rfl) (hg : ∀ i, Gl (Y.X i) "sorted" := by intro _; rfl) (he : ∀ X : Cx, starEach [e] X.env = (false, eval e X.env) :: starEach [] X.env := by intro _; rfl) : VE Y (.Call (.Name "sorted" p') [e] [] pos) (tCallP pSortT t) :=
  ve_callB (r := rSortTS) (fun i => CallR.or cr_sortedS (PuE.call_sortStr (hc i))) ref_sortT hm ha hg (he := he)
end
end Pu
set_option maxRecDepth 100000
set_option maxHeartbeats 4000000
namespace PuE
open PySem PySem.Spec PyProof.Rows L2 PySem.W
theorem meets_enum_any {v : Value} {o : Obj} {H : Heap → Prop} (B : Begins v o H) :
    Meets (Builtin.«enumerate.__new__» ⟨[.type "enumerate", v], []⟩) (fun _ R s => H s.heap ∧
      R (.ok (.ret (.ref (s.heap.push o).objs.size))) { s with heap := (s.heap.push o).push { cls := .type "enumerate", data := .fields #[.none, .bool false, .ref s.heap.objs.size, rawInt 0, .none, .none] } }) :=
  .of_wp fun prog w A R s z => by
    obtain ⟨hp, g, d, tk, os⟩ := s
    obtain ⟨z1, z⟩ := z
    have hs0 := sub_enumerate
    have it1 : ∀ {A' : Around} {E : Value → Shared → Prop} {Q : Value → Shared → Prop}, Q (.ref hp.objs.size) ⟨hp.push o, g, d, tk, os⟩ → wpAny (model prog w) A' (pyIter v) Q E ⟨hp, g, d, tk, os⟩ :=
      fun q => B.iter prog w _ _ ⟨hp, g, d, tk, os⟩ _ z1 q
    wp_walk using it1
    refine wpAny_stack_any fun st => wpAny_pure ?_
    split
    · rename_i c _ _ _ _ _
      cases (c == Value.type "enumerate")
      · wp_walk using it1
        exact ⟨_, rfl, z⟩
      · wp_walk using it1
        exact ⟨_, rfl, z⟩
    · wp_walk using it1
      exact ⟨_, rfl, z⟩
section
variable {prog : Program} {w : World} {A : Around} {E : Value → Shared → Prop} {s : Shared}
theorem call_enum_any {v : Value} {o : Obj} {H : Heap → Prop} {Q : Value → Shared → Prop} (B : Begins v o H) (h1 : H s.heap)
    (h : ∀ h', IsEnum h' (s.heap.objs.size + 1) s.heap.objs.size ((0 : Nat) : Int) .none → h'.get? s.heap.objs.size = some o → (∀ b o, s.heap.get? b = some o → h'.get? b = some o) → Q (.ref (s.heap.objs.size + 1)) { s with heap := h' }) :
    wpAny (model prog w) A (call (.type "enumerate") [v]) Q E s := by
  refine callType_new F.called_enumerate (by decide) (F.typeCall_enumerate_1 _) (F.newCall_enumerate_1 _) (fun obj => F.args_object_init_2 obj _) F.entry_enumerate_new
    (meets_enum_any B) ⟨h1, ?_⟩
  have hz : (s.heap.push o).objs.size = s.heap.objs.size + 1 := Heap.size_push ..
  show _ ∧ _
  rw [hz]
  have e1 := Heap.get?_push_size (s.heap.push o) (o := { cls := .type "enumerate", data := .fields #[.none, .bool false, .ref s.heap.objs.size, rawInt 0, .none, .none] }) rfl
  rw [hz] at e1
  exact ⟨⟨_, e1, rfl⟩, h _ e1 (Heap.get?_push_of_some _ (Heap.get?_push_size _ B.free)) fun b o x => Heap.get?_push_of_some _ (Heap.get?_push_of_some _ x)⟩
end
/-- the signs of x, each in a new pair -/
def Ies (x : Str) : It :=
  ⟨fun i _ => i < x.cps.size, fun i H v H' => ∃ T c, v = .ref T ∧ H T = none ∧ H' = upd H T (.tup [.int (i : Nat), .str ⟨#[c]⟩]) ∧ x.cps[i]? = some c, fun i _ => x.cps.size ≤ i⟩
/-- the items of the tuple at a, each in a new pair -/
def Iet (K : PySem.W.Frag) (a : Addr) : It :=
  ⟨fun i H => ∃ (xs : List V) (x : V), SqT K H a xs ∧ xs[i]? = some x, fun i H v H' => ∃ T x, v = .ref T ∧ H T = none ∧ H' = upd H T (.tup [.int (i : Nat), x]) ∧ ∀ xs, SqT K H a xs → xs[i]? = some x, fun i H => ∃ xs : List V, SqT K H a xs ∧ xs.length ≤ i⟩
/-- one turn, whatever is drawn -/
theorem turn_en {X : Cx} {pins : List (Addr × Obj)} {s : Shared} {σ : L2.St} {H : Hp} {E : Value → Shared → Prop} {e it : Addr} {fp : List Addr} {n i : Nat} {Pd : Nat → Value → Prop} {St : Nat → Heap → Prop} {old : Value} {elts : List Expr} {kk : Nat} {tpos : Pos} {R : V → Hp → Heap → Prop}
    (D : Draws X.prog X.w X.A.in1 it fp n Pd St) (I : Inv X pins σ H s) (hf : ∀ b ∈ [e, it], FpOk X pins H b) (he : IsEnum s.heap e it ((i : Nat) : Int) old) (hst : St i s.heap) (hlt : i < n) (hne : e ≠ it) (hef : e ∉ fp)
    (hR : ∀ u h2, Pd i u → St (i + 1) h2 → ∃ x, RelV x u ∧ ∀ T, H T = none → R (.ref T) (upd H T (.tup [.int (i : Nat), x])) h2) :
    wpAny (model X.prog X.w) X.A (pyNext (.ref e)) (fun r s1 => ∃ u, r = some u ∧
      wpAny (model X.prog X.w) X.A (letOwnedTupleGo (.Tuple elts kk tpos) (.ref e) u) (fun _ s2 => ∃ x H', Inv X pins σ H' s2 ∧ RelV x u ∧ R x H' s2.heap ∧ (∃ old, IsEnum s2.heap e it ((i + 1 : Nat) : Int) old) ∧ St (i + 1) s2.heap ∧ ∀ b ∈ [e, it], H' b = none) E s1) E s := by
  have hel : e < s.heap.objs.size := Heap.lt_size he
  have hil : it < s.heap.objs.size := by obtain ⟨_, y⟩ := D.live _ _ hst; exact Heap.lt_size y
  refine wpAny_pyNext_enum_itemD D he hst hlt hne hef fun u h' tk hP ho hs' hT hsz hk => ?_
  refine ⟨_, rfl, wpAny_letOwnedTupleGo_enum (s := { s with heap := h', toks := tk + 1 }) ho fun h'' he' sb => ?_⟩
  have hs2 : St (i + 1) h'' := D.frame _ _ _ hs' fun b hb o y => (sb.2 b fun q => hef (q ▸ hb)).trans y
  obtain ⟨x, rx, hx⟩ := hR u h'' hP hs2
  have hT2 : h''.get? s.heap.objs.size = some { cls := .type "tuple", data := .seq #[.int i tk, u] } := (sb.2 _ (Nat.ne_of_gt hel)).trans hT
  have new : ObjOk X.prog X.w (upd H s.heap.objs.size (.tup [.int (i : Nat), x])) h'' s.heap.objs.size (.tup [.int (i : Nat), x]) :=
    ⟨by show 2 ≤ sizeLine; decide, [.int i tk, u], .cons ⟨_, rfl⟩ (.cons rx .nil), ⟨_, hT2, rfl, _, rfl⟩⟩
  have I1 : Inv X pins σ (upd H s.heap.objs.size (.tup [.int (i : Nat), x])) { s with heap := h'', toks := tk + 1 } :=
    I.turnedNew (ch := [e, it]) (fun b ob hb q => (sb.2 b (fun z => hb (by simp [z]))).trans (hk b ob (fun z => hb (by simp [z])) (fun z => hb (by simp [z])) q)) hf (Nat.le_refl _) new
  refine ⟨.ref s.heap.objs.size, _, I1, rfl, hx _ (I.hok.fresh (Nat.le_refl _)), ⟨u, ?_⟩, hs2, fun b hb => ?_⟩
  · have e1 : ((i + 1 : Nat) : Int) = (i : Int) + 1 := by omega
    rw [e1]; exact he'
  · have hb' : b < s.heap.objs.size := by
      have e' : b = e ∨ b = it := by simpa using hb
      rcases e' with z | z
      · rw [z]; exact hel
      · rw [z]; exact hil
    rw [upd_ne (Nat.ne_of_lt hb')]
    exact (hf b hb).1
theorem turn_enS {P : Program} {w : World} {K : PySem.W.Frag} {elts : List Expr} {kk : Nat} {tpos : Pos} (e it : Addr) (x : Str) (t : Tok) :
    Turn P w K (.Tuple elts kk tpos) (Ies x) [e, it] e (fun i h => (∃ old, IsEnum h e it ((i : Nat) : Int) old) ∧ h.IsStrIter it (strIterType x) x t i ∧ e ≠ it) where
  mem := by simp
  obj := fun i h st b hb => by
    obtain ⟨⟨old, he⟩, ⟨o, ho, hc, hd⟩, _⟩ := st
    have e' : b = e ∨ b = it := by simpa using hb
    rcases e' with z | z
    · rw [z]; exact ⟨_, he, fun v q => nomatch q⟩
    · rw [z]; exact ⟨o, ho, fun v q => by rw [hd] at q; cases q⟩
  keep := fun i h h' st k => by
    obtain ⟨⟨old, he⟩, ⟨o, ho, r⟩, hne⟩ := st
    exact ⟨⟨old, k e (by simp) _ he⟩, ⟨o, k it (by simp) o ho, r⟩, hne⟩
  item := by
    intro X hP hw hK hc i pins s σ H E I hf st hg
    subst hP hw hK
    obtain ⟨⟨old, he⟩, hit, hne⟩ := st
    have D := Draws.text (prog := X.prog) (w := X.w) (A := X.A.in1) (I.ok.hd hc) it x t
    refine wpAny_mono (turn_en (elts := elts) (kk := kk) (tpos := tpos) (R := fun v H' _ => (Ies x).yld i H v H') D I hf he hit hg hne (by simpa using hne) fun u h2 hP _ => ?_) (fun r s1 ⟨u, e1, q⟩ => ⟨u, e1, wpAny_mono q (fun _ s2 ⟨v, H', a, b, c, d, f, g⟩ => ⟨v, H', a, b, c, ⟨d, f, hne⟩, g⟩) fun _ _ z => z⟩) fun _ _ z => z
    obtain ⟨c, u', hcx, rfl⟩ := hP
    exact ⟨.str ⟨#[c]⟩, ⟨u', rfl⟩, fun T hT => ⟨T, c, rfl, hT, rfl, hcx⟩⟩
  done := by
    intro X hP hw hK hc i pins s σ H E I hf st hg
    subst hP hw hK
    obtain ⟨⟨old, he⟩, hit, hne⟩ := st
    obtain ⟨f0, f1, f2, f3, f4, f5⟩ := hf it (by simp)
    have hg : x.cps.size ≤ i := hg
    have hx : x.cps[i]? = none := by simp; omega
    have hT : s.TypeIs (.ref e) "enumerate" := ⟨_, he, rfl⟩
    unfold pyNext
    refine wpAny_bind (wpAny_attempt (wpAny_callSpecial?_slot (name := Str.ofString "__next__") hT F.slot_enumerate_next
      (wpAny_call_entry F.slot_enumerate_next hT F.entry_enumerate_next ?_ (F.args_enumerate_next_1 _))))
    show wpAny _ _ (field (.ref e) 2 >>= _) _ _ _
    refine wpAny_bind (wpAny_field he rfl (x := .ref it) rfl ?_)
    refine wpAny_bind ?_
    have fin : ∀ (h' : Heap) (b : Addr), Heap.ExtBut it s.heap h' → (∃ o, h'.get? b = some o ∧ o.cls = .type "StopIteration") →
      wpAny (model X.prog X.w) X.A.in1 (Builtin.SmallTypes.nextOf (.ref it)) (fun _ _ => True) (fun _ _ => True) s → True := fun _ _ _ _ _ => trivial
    have go : ∀ {Q : Value → Shared → Prop} {Ee : Value → Shared → Prop}, (∀ h' e, Heap.ExtBut it s.heap h' → (∃ o, h'.get? e = some o ∧ o.cls = .type "StopIteration") → Ee (.ref e) { s with heap := h' }) → wpAny (model X.prog X.w) X.A.in1 (Builtin.SmallTypes.nextOf (.ref it)) Q Ee s := by
      intro Q Ee q
      cases ha : x.cps.all (· < 128)
      · simp only [strIterType, ha, Bool.false_eq_true, if_false] at hit
        exact wpAny_nextOf_wide_end (I.ok.hd hc) hit hx q
      · simp only [strIterType, ha, if_true] at hit
        exact wpAny_nextOf_ascii_end (I.ok.hd hc) hit hx q
    refine go fun h' x' he' hx' => ?_
    obtain ⟨o, ho, hcl⟩ := hx'
    refine wpAny_bind (wpAny_isInstance (T := "StopIteration") (b := true) ⟨o, ho, hcl⟩ isSubtype_stop ?_)
    exact wpAny_pure ⟨rfl, I.turned (t' := s.toks) (fun b o hb q => he' b o hb q) f0 f1 f3 f4 f5⟩
  self := fun A i s Q E st h => let ⟨⟨_, he⟩, _⟩ := st; wpAny_pyIter_enum he h
theorem turn_enT {P : Program} {w : World} {K : PySem.W.Frag} {elts : List Expr} {kk : Nat} {tpos : Pos} (a e it : Addr) :
    Turn P w K (.Tuple elts kk tpos) (Iet K a) [e, it] e (fun i h => (∃ old, IsEnum h e it ((i : Nat) : Int) old) ∧ h.IsTupleIter it a i ∧ e ≠ it ∧ a ≠ it ∧ e ≠ a) where
  mem := by simp
  obj := fun i h st b hb => by
    obtain ⟨⟨old, he⟩, ⟨o, ho, hc, hd⟩, _⟩ := st
    have e' : b = e ∨ b = it := by simpa using hb
    rcases e' with z | z
    · rw [z]; exact ⟨_, he, fun v q => nomatch q⟩
    · rw [z]; exact ⟨o, ho, fun v q => by rw [hd] at q; cases q⟩
  keep := fun i h h' st k => by
    obtain ⟨⟨old, he⟩, ⟨o, ho, r⟩, hne⟩ := st
    exact ⟨⟨old, k e (by simp) _ he⟩, ⟨o, k it (by simp) o ho, r⟩, hne⟩
  item := by
    intro X hP hw hK hc i pins s σ H E I hf st hg
    subst hP hw hK
    obtain ⟨⟨old, he⟩, hit, hne, hne2, hne3⟩ := st
    obtain ⟨xs, x, hq, hx⟩ := hg
    obtain ⟨its, rv, p, hz⟩ := I.tuple hq
    obtain ⟨u, hu, ru⟩ := rv.get hx
    have D := Draws.tuple (prog := X.prog) (w := X.w) (A := X.A.in1) (I.ok.hd hc) it a hne2 its.toArray
    have hlt : i < its.toArray.size := by simpa using (List.getElem?_eq_some_iff.mp hu).1
    refine wpAny_mono (turn_en (elts := elts) (kk := kk) (tpos := tpos) (R := fun v H' _ => (Iet X.K a).yld i H v H') D I hf he ⟨hit, p⟩ hlt hne (by simp [hne, hne3]) fun u' h2 hP _ => ?_) (fun r s1 ⟨u, e1, q⟩ => ⟨u, e1, wpAny_mono q (fun _ s2 ⟨v, H', a, b, c, d, f, g⟩ => ⟨v, H', a, b, c, ⟨d, f.1, hne, hne2, hne3⟩, g⟩) fun _ _ z => z⟩) fun _ _ z => z
    have hP : its.toArray[i]? = some u' := hP
    rw [List.getElem?_toArray, hu] at hP
    cases hP
    exact ⟨x, ru, fun T hT => ⟨T, x, rfl, hT, rfl, fun ys hy => by rw [I.tuple_inj hy hq]; exact hx⟩⟩
  done := by
    intro X hP hw hK hc i pins s σ H E I hf st hg
    subst hP hw hK
    obtain ⟨⟨old, he⟩, hit, hne, hne2, hne3⟩ := st
    obtain ⟨xs, hq, hx⟩ := hg
    obtain ⟨its, rv, p, hz⟩ := I.tuple hq
    obtain ⟨f0, f1, f2, f3, f4, f5⟩ := hf it (by simp)
    have hl := rv.length
    have hxn : its.toArray[i]? = none := by simp; omega
    have hT : s.TypeIs (.ref e) "enumerate" := ⟨_, he, rfl⟩
    unfold pyNext
    refine wpAny_bind (wpAny_attempt (wpAny_callSpecial?_slot (name := Str.ofString "__next__") hT F.slot_enumerate_next
      (wpAny_call_entry F.slot_enumerate_next hT F.entry_enumerate_next ?_ (F.args_enumerate_next_1 _))))
    show wpAny _ _ (field (.ref e) 2 >>= _) _ _ _
    refine wpAny_bind (wpAny_field he rfl (x := .ref it) rfl ?_)
    refine wpAny_bind (wpAny_nextOf_tuple_end (I.ok.hd hc) hit p hxn fun h' x' he' hx' => ?_)
    obtain ⟨o, ho, hcl⟩ := hx'
    refine wpAny_bind (wpAny_isInstance (T := "StopIteration") (b := true) ⟨o, ho, hcl⟩ isSubtype_stop ?_)
    exact wpAny_pure ⟨rfl, I.turned (t' := s.toks) (fun b o hb q => he' b o hb q) f0 f1 f3 f4 f5⟩
  self := fun A i s Q E st h => let ⟨⟨_, he⟩, _⟩ := st; wpAny_pyIter_enum he h
def iEnumA (K : PySem.W.Frag) (ta : TA) : TI := fun σ H R => ta σ H fun vs H1 => (∃ a xs, vs = [.ref a] ∧ SqL K H1 a xs ∧ R (Ite K a) H1) ∨ (∃ a xs, vs = [.ref a] ∧ SqT K H1 a xs ∧ R (Iet K a) H1) ∨ ∃ y, vs = [.str y] ∧ R (Ies y) H1
theorem pi_enumA {X : Cx} {e : Expr} {ta : TA} {p pos tpos : Pos} {elts : List Expr} {kk : Nat} (hg : Gl X "enumerate") (hm : X.mg "enumerate" = none) (ha : PA X [e] ta) (hs : starEach [e] X.env = [(false, eval e X.env)] := by rfl) :
    PI X (.Tuple elts kk tpos) (.Call (.Name "enumerate" p) [e] [] pos) (iEnumA X.K ta) := by
  refine ⟨fun pins s σ H R I h => ?_⟩
  refine Call_ (ld_blt I hg hm boot_enumerate (PyProof.Rows.callWith_type1 (thn (ha.run pos pins s σ H _ I h) fun us s1 ⟨vs, H1, I1, r1, q1⟩ => ?_) hs rfl))
  have fresh : ∀ b ∈ [s1.heap.objs.size + 1, s1.heap.objs.size], FpOk X pins H1 b := fun b hb => by
    have e' : b = s1.heap.objs.size + 1 ∨ b = s1.heap.objs.size := by simpa using hb
    have hle : s1.heap.objs.size ≤ b := by
      rcases e' with z | z
      · rw [z]; exact Nat.le_add_right _ _
      · rw [z]; exact Nat.le_refl _
    exact I1.fpOk hle (I1.hok.fresh hle)
  rcases q1 with ⟨a, xs, ex, hq, q⟩ | ⟨a, xs, ex, hq, q⟩ | ⟨y, ex, q⟩
  · subst ex
    cases r1 with
    | cons r rr =>
      cases rr
      cases r
      obtain ⟨its, rv, p', hz⟩ := I1.list hq
      refine call_enum_any (begins_list a its.toArray) p'.isList fun h' he hit hk => wpAny_pyIter_enum he ?_
      have I2 : Inv X pins σ H1 { s1 with heap := h' } := I1.kept (t' := s1.toks) hk
      exact ⟨s1.heap.objs.size + 1, [s1.heap.objs.size + 1, s1.heap.objs.size], _, _, H1, rfl, I2, turn_enum a (s1.heap.objs.size + 1) s1.heap.objs.size, ⟨⟨.none, he⟩, ⟨_, hit, rfl, rfl⟩, Nat.succ_ne_self _⟩, fresh, q⟩
  · subst ex
    cases r1 with
    | cons r rr =>
      cases rr
      cases r
      obtain ⟨its, rv, p', hz⟩ := I1.tuple hq
      have hal : a < s1.heap.objs.size := by obtain ⟨o, ho, _⟩ := p'; exact Heap.lt_size ho
      refine call_enum_any (begins_tuple a its.toArray) (show s1.heap.IsTuple a its.toArray from p') fun h' he hit hk => wpAny_pyIter_enum he ?_
      have I2 : Inv X pins σ H1 { s1 with heap := h' } := I1.kept (t' := s1.toks) hk
      exact ⟨s1.heap.objs.size + 1, [s1.heap.objs.size + 1, s1.heap.objs.size], _, _, H1, rfl, I2, turn_enT a (s1.heap.objs.size + 1) s1.heap.objs.size, ⟨⟨.none, he⟩, ⟨_, hit, rfl, rfl⟩, Nat.succ_ne_self _, Nat.ne_of_lt hal, Nat.ne_of_gt (Nat.lt_succ_of_lt hal)⟩, fresh, q⟩
  · subst ex
    cases r1 with
    | cons r rr =>
      cases rr
      obtain ⟨t, rfl⟩ := r
      refine call_enum_any (begins_text y t) trivial fun h' he hit hk => wpAny_pyIter_enum he ?_
      have I2 : Inv X pins σ H1 { s1 with heap := h' } := I1.kept (t' := s1.toks) hk
      exact ⟨s1.heap.objs.size + 1, [s1.heap.objs.size + 1, s1.heap.objs.size], _, _, H1, rfl, I2, turn_enS (s1.heap.objs.size + 1) s1.heap.objs.size y t, ⟨⟨.none, he⟩, ⟨_, hit, rfl, rfl⟩, Nat.succ_ne_self _⟩, fresh, q⟩
end PuE
namespace Pu
open PySem L2 PySem.Spec PyProof.Rows
section
variable {Γ Γ' : Gm} {κ κ' : Ka} {H H' : Hp} {env env' : En} {σ : Sl} {v : V} {st : Sto} {Y : Fam} {a b e o : Expr} {es : List Expr} {ta tb te to ti : PTE} {pos : Pos}
def enumF : Nat → List D → List D
  | _, [] => []
  | i, d :: ds => .tup [.int i, d] :: enumF (i + 1) ds
theorem enumF_get : ∀ (ds : List D) (k i : Nat), (enumF k ds)[i]? = ds[i]?.map fun d => .tup [.int ((k + i : Nat) : Int), d]
  | [], _, _ => by simp [enumF]
  | d :: ds, k, 0 => by simp [enumF]
  | d :: ds, k, i + 1 => by
    have e1 : k + 1 + i = k + (i + 1) := by omega
    rw [enumF, List.getElem?_cons_succ, List.getElem?_cons_succ, enumF_get ds (k + 1) i, e1]
theorem enumF_length : ∀ (ds : List D) (k : Nat), (enumF k ds).length = ds.length
  | [], _ => rfl
  | d :: ds, k => by simp [enumF, enumF_length ds]
theorem pair_new {T : Addr} {x : V} {d : D} {i : Nat} (I : Rl Γ κ env σ H) (h : H T = none) (r : Rep Γ.K Γ.cls κ H x d) :
    ∃ κ', Ext κ H κ' (upd H T (.tup [.int (i : Nat), x])) ∧ Rl Γ κ' env σ (upd H T (.tup [.int (i : Nat), x])) ∧ Rep Γ.K Γ.cls κ' (upd H T (.tup [.int (i : Nat), x])) (.ref T) (.tup [.int (i : Nat), d]) :=
  ⟨_, new_tup (by simp [ordL, isPr]) I h (by show 2 ≤ sizeLine; decide) (.cons (.int _) (.cons r .nil))⟩
theorem src_enL {a : Addr} {vs : List V} {ds : List D} (hk : κ a = some .frz) (ha : H a = some (.lst vs)) (r : RepL Γ.K Γ.cls κ H vs ds) : Src Γ.K Γ.cls κ H (Ite Γ.K a) (enumF 0 ds) := by
  intro Γ2 hK hc
  rw [← hK, ← hc] at r
  rw [← hK]
  intro σ κ1 H1 env i I x
  have h1 : SqL Γ2.K H1 a vs := SqL.of ((x.2 a hk).trans ha)
  refine ⟨fun d e => ?_, fun e => ⟨vs, h1, by rw [r.length, ← e, enumF_length]; exact Nat.le_refl _⟩⟩
  rw [enumF_get] at e
  cases q : ds[i]? with
  | none => rw [q] at e; cases e
  | some y =>
    rw [q] at e
    cases e
    obtain ⟨v, e1, r1⟩ := r.get q
    refine ⟨⟨vs, v, h1, e1⟩, fun w H' yy => ?_⟩
    obtain ⟨T, z, rfl, hT, rfl, hz⟩ := yy
    have hz := hz vs h1
    rw [e1] at hz
    cases hz
    rw [Nat.zero_add]
    exact pair_new I hT (r1.mono x)
theorem src_enT {a : Addr} {vs : List V} {ds : List D} (h : Rep Γ.K Γ.cls κ H (.ref a) (.tup ds)) : Src Γ.K Γ.cls κ H (PuE.Iet Γ.K a) (enumF 0 ds) := by
  intro Γ2 hK hc
  rw [← hK, ← hc] at h
  rw [← hK]
  intro σ κ1 H1 env i I x
  obtain ⟨b, vs, e0, h1, _, r⟩ := (h.mono x).sqT
  cases e0
  refine ⟨fun d e => ?_, fun e => ⟨vs, h1, by rw [r.length, ← e, enumF_length]; exact Nat.le_refl _⟩⟩
  rw [enumF_get] at e
  cases q : ds[i]? with
  | none => rw [q] at e; cases e
  | some y =>
    rw [q] at e
    cases e
    obtain ⟨v, e1, r1⟩ := r.get q
    refine ⟨⟨vs, v, h1, e1⟩, fun w H' yy => ?_⟩
    obtain ⟨T, z, rfl, hT, rfl, hz⟩ := yy
    have hz := hz vs h1
    rw [e1] at hz
    cases hz
    rw [Nat.zero_add]
    exact pair_new I hT r1
theorem src_enS {K : PySem.W.Frag} {cl : Cl} {s : List Nat} (hs : SOk s) : Src K cl κ H (PuE.Ies ⟨s.toArray⟩) (enumF 0 (signs s)) := by
  intro Γ2 hK hc σ κ1 H1 env i I x
  have hl : (signs s).length = s.length := signs_length s
  refine ⟨fun d e => ?_, fun e => ?_⟩
  · rw [enumF_get] at e
    unfold signs at e
    rw [List.getElem?_map] at e
    cases q : s[i]? with
    | none => rw [q] at e; cases e
    | some c =>
      rw [q] at e
      cases e
      refine ⟨by show i < (⟨s.toArray⟩ : Str).cps.size; simpa using (List.getElem?_eq_some_iff.mp q).1, fun v H' y => ?_⟩
      obtain ⟨T, c', rfl, hT, rfl, e1⟩ := y
      have e1 : s.toArray[i]? = some c' := e1
      rw [List.getElem?_toArray, q] at e1
      cases e1
      rw [Nat.zero_add]
      exact pair_new I hT (.str _ (hs.one (List.mem_of_getElem? q)))
  · show (⟨s.toArray⟩ : Str).cps.size ≤ i
    rw [← e, enumF_length, hl]
    simp
def D.walkE : D → Option (List D)
  | .lst ds => some ds
  | .tup ds => some ds
  | .str s => some (signs s)
  | _ => none
def iEnumP (t : PTR) : PTI := fun x e Q => t x e fun rs e1 => match rs with
  | [r] => fz r e1 fun d e2 => match d.walkE with
    | some ds => Q (enumF 0 ds) e2
    | none => False
  | _ => False
theorem vi_enum {elts : List Expr} {kk : Nat} {tpos : Pos} {p : Pos} {t : PTR} (hm : ∀ i, (Y.X i).mg "enumerate" = none) (ha : VR Y [e] t) (hg : ∀ i, Gl (Y.X i) "enumerate" := by intro _; rfl) (hs : ∀ X : Cx, starEach [e] X.env = [(false, eval e X.env)] := by intro _; rfl) :
    VI Y (.Tuple elts kk tpos) (.Call (.Name "enumerate" p) [e] [] pos) (iEnumP t) := by
  obtain ⟨ra, pa, fa⟩ := ha.ex
  refine ⟨⟨fun E => PuE.iEnumA Y.K (ra E), fun i => by have := PuE.pi_enumA (elts := elts) (kk := kk) (tpos := tpos) (p := p) (pos := pos) (hg i) (hm i) (pa i) (hs _); rw [Y.hK i] at this; exact this, fun Γ σ κ H env Q Q' hK I q k => ?_⟩⟩
  refine fa Γ σ κ H env _ _ hK I q fun vs κ1 H1 rs e1 x1 I1 h1 q1 => ?_
  match rs, vs, h1, q1 with
  | [r], [v], .cons h1 .nil, q1 =>
    refine fz_ok I1 h1.rel q1 fun κ2 d e2 x2 I2 h2 q2 => ?_
    rw [← hK.k]
    cases d with
    | lst ds =>
      cases h2 with
      | lst g1 g2 g3 g4 => exact .inl ⟨_, _, rfl, SqL.of g2, k _ κ2 H1 _ e2 (x1.trans x2) I2 (src_enL g1 g2 g4) q2⟩
    | tup ds =>
      obtain ⟨a, vs, rfl, g1, _, _⟩ := h2.sqT
      exact .inr (.inl ⟨a, vs, rfl, g1, k _ κ2 H1 _ e2 (x1.trans x2) I2 (src_enT (vs := vs) h2) q2⟩)
    | str s =>
      obtain ⟨rfl, hs⟩ := h2.strE
      exact .inr (.inr ⟨_, rfl, k _ κ2 H1 _ e2 (x1.trans x2) I2 (src_enS hs) q2⟩)
    | _ => exact False.elim q2
  | [], _, _, q1 => exact False.elim q1
  | _ :: _ :: _, _, _, q1 => exact False.elim q1
end
end Pu
set_option maxRecDepth 100000
set_option maxHeartbeats 4000000
namespace Pu
open PySem L2
section
variable {K : PySem.W.Frag} {cl : Cl} {Γ Γ' : Gm} {κ κ' : Ka} {H H' : Hp} {env env' : En} {σ : Sl} {v : V} {st : Sto} {Y : Fam} {a b e o i : Expr} {es : List Expr} {ta tb te to ti : PTE} {pos : Pos}
def keyD : D → Option Key
  | .int i => some (.inl i)
  | .str s => some (.inr ⟨s.toArray⟩)
  | _ => none
theorem keyD_rep {d : D} {k : Key} (h : Rep K cl κ H v d) (e : keyD d = some k) : v = kV k := by
  cases d with
  | int i => cases e; cases h; rfl
  | str s => cases e; obtain ⟨rfl, _⟩ := h.strE; rfl
  | _ => cases e
def getK (kvs : List (Key × D)) (k : Key) : Option D := (kvs.find? fun kv => decide (kv.1 = k)).map (·.2)
def setK (kvs : List (Key × D)) (k : Key) (d : D) : List (Key × D) :=
  if (kvs.any fun kv => decide (kv.1 = k)) = true then kvs.map (fun kv => if kv.1 = k then (kv.1, d) else kv) else kvs ++ [(k, d)]
theorem PR.any : ∀ {ds : List (Key × D)} {vs : List (Key × V)} (k : Key), PR K cl κ H vs ds → (vs.any fun kv => decide (kv.1 = k)) = ds.any fun kv => decide (kv.1 = k)
  | [], _, _, h => by cases h; rfl
  | d :: ds, _, k, h => by cases h with | cons h1 h2 => rw [List.any_cons, List.any_cons, PR.any k h2]
theorem PR.appendP : ∀ {ds es : List (Key × D)} {vs ws : List (Key × V)}, PR K cl κ H vs ds → PR K cl κ H ws es → PR K cl κ H (vs ++ ws) (ds ++ es)
  | [], _, _, _, h, g => by cases h; exact g
  | _ :: _, _, _, _, h, g => by cases h with | cons h1 h2 => exact .cons h1 (PR.appendP h2 g)
theorem PR.repl {v : V} {d : D} (r : Rep K cl κ H v d) (k : Key) : ∀ {ds : List (Key × D)} {vs : List (Key × V)}, PR K cl κ H vs ds → PR K cl κ H (vs.map fun kv => if kv.1 = k then (kv.1, v) else kv) (ds.map fun kv => if kv.1 = k then (kv.1, d) else kv)
  | [], _, h => by cases h; exact .nil
  | (j, y) :: ds, _, h => by
    cases h with
    | cons h1 h2 =>
      rw [List.map_cons, List.map_cons]
      by_cases e : j = k
      · rw [if_pos e, if_pos e]; exact .cons r (PR.repl r k h2)
      · rw [if_neg e, if_neg e]; exact .cons h1 (PR.repl r k h2)
theorem PR.put {v : V} {d : D} (r : Rep K cl κ H v d) (k : Key) {ds : List (Key × D)} {vs : List (Key × V)} (h : PR K cl κ H vs ds) : PR K cl κ H (putK vs k v) (setK ds k d) := by
  unfold putK setK
  rw [PR.any k h]
  by_cases e : (ds.any fun kv => decide (kv.1 = k)) = true
  · rw [if_pos e, if_pos e]; exact PR.repl r k h
  · rw [if_neg e, if_neg e]; exact PR.appendP h (.cons r .nil)
theorem PR.find (k : Key) : ∀ {ds : List (Key × D)} {vs : List (Key × V)}, PR K cl κ H vs ds → (getK ds k = none ∧ valV vs k = none) ∨ ∃ d v, getK ds k = some d ∧ valV vs k = some v ∧ Rep K cl κ H v d
  | [], _, h => by cases h; exact .inl ⟨rfl, rfl⟩
  | (j, y) :: ds, _, h => by
    cases h with
    | @cons _ w _ _ _ h1 h2 =>
      by_cases e : j = k
      · refine .inr ⟨y, w, ?_, valV_pos e, h1⟩
        unfold getK
        rw [List.find?_cons_of_pos (by simpa using e)]
        rfl
      · have e1 : getK ((j, y) :: ds) k = getK ds k := by
          unfold getK
          rw [List.find?_cons_of_neg (by simpa using e)]
        rw [e1, valV_neg e]
        exact PR.find k h2
def kget : R → En → Option (List (Key × D))
  | .nam i, e => match e.sl[i]? with
    | some (.dK ds) => some ds
    | _ => none
  | .d (.ref k), e => match e.st[k]? with
    | some (.dK ds) => some ds
    | _ => none
  | _, _ => none
def kset : R → En → List (Key × D) → En
  | .nam i, e, ds => e.setC i (.dK ds)
  | .d (.ref k), e, ds => ⟨e.sl, e.st.set k (.dK ds)⟩
  | _, e, _ => e
theorem dct_ok {r : R} {ds : List (Key × D)} (I : Rl Γ κ env σ H) (h : HeldR Γ κ H σ v r) (e : kget r env = some ds) : ∃ a vs, v = .ref a ∧ H a = some (.dK vs) ∧ PR Γ.K Γ.cls κ H vs ds ∧
    ∀ vs' ds', PR Γ.K Γ.cls κ H vs' ds' → Ext κ H κ (upd H a (.dK vs')) ∧ Rl Γ κ (kset r env ds') σ (upd H a (.dK vs')) := by
  cases r with
  | nam i =>
    have h : σ[i]? = some (some v) := h
    unfold kget at e
    simp only at e
    cases q : env.sl[i]? with
    | none => rw [q] at e; cases e
    | some c =>
      have s := I.get q
      rw [q] at e
      cases c with
      | dK ds' =>
        cases e
        obtain ⟨a, e1, k1, h0, vs, h2, h4⟩ := s
        rw [h] at e1
        cases e1
        refine ⟨a, vs, rfl, h2, h4, fun vs' ds' r' => ?_⟩
        have x : Ext κ H κ (L2.upd H a (.dK vs')) := Ext.upd k1
        have hi : i < env.sl.length := (List.getElem?_eq_some_iff.mp q).1
        have own_i : OwnS env σ i a := ⟨h, _, q, rfl⟩
        refine ⟨x, ⟨by rw [I.len]; simp [kset, En.setC], fun j c ec => ?_, fun j l b o1 o2 => ?_, I.gh.upd k1 h0⟩⟩
        · have ec : (env.sl.set i (C.dK ds'))[j]? = some c := ec
          by_cases hj : j = i
          · subst hj
            rw [List.getElem?_set_self hi] at ec
            cases ec
            exact ⟨a, h, k1, h0, vs', upd_same, r'.mono x⟩
          · rw [List.getElem?_set_ne (Ne.symm hj)] at ec
            have s := I.get ec
            cases hc : c.isOwn with
            | true =>
              obtain ⟨b, e1, hb⟩ := s.own hc
              have hba : b ≠ a := fun z => hj (I.dist j i a ⟨z ▸ e1, c, ec, hc⟩ own_i)
              exact .mk e1 (hb.ext x hb.facts.1 (upd_ne hba))
            | false =>
              cases c with
              | un => trivial
              | d d => obtain ⟨v, e1, r⟩ := s; exact ⟨v, e1, r.mono x⟩
              | _ => cases hc
        · have old : ∀ m, OwnS (env.setC i (.dK ds')) σ m b → OwnS env σ m b := fun m ⟨z1, c, z2, z3⟩ => by
            have z2 : (env.sl.set i (C.dK ds'))[m]? = some c := z2
            by_cases hm : m = i
            · subst hm
              exact ⟨z1, _, q, rfl⟩
            · rw [List.getElem?_set_ne (Ne.symm hm)] at z2
              exact ⟨z1, c, z2, z3⟩
          exact I.dist j l b (old j o1) (old l o2)
      | _ => cases e
  | d d =>
    cases d with
    | ref k =>
      unfold kget at e
      simp only at e
      cases q : env.st[k]? with
      | none => rw [q] at e; cases e
      | some so =>
        rw [q] at e
        cases so with
        | dK ds' =>
          cases e
          cases h with
          | @ref a _ hk =>
            obtain ⟨so, g1, g2⟩ := I.gh.obj a k hk
            rw [q] at g1
            cases g1
            obtain ⟨vs, h2, h4⟩ := g2
            refine ⟨a, vs, rfl, h2, h4, fun vs' ds' r' => ?_⟩
            have x : Ext κ H κ (L2.upd H a (.dK vs')) := ⟨fun _ _ e => e, fun b e => upd_ne fun z => by rw [z, hk] at e; cases e⟩
            refine ⟨x, I.step x (fun i b hb => ?_) (I.gh.upd_obj (so := .dK ds') hk (fun H' e x' => ⟨vs', e, r'.mono x'⟩) (List.getElem?_eq_some_iff.mp q).1)⟩
            obtain ⟨c, _, hc⟩ := I.ownS hb
            exact ⟨hc.facts.1, upd_ne fun z => by have := hc.facts.1; rw [z, hk] at this; cases this⟩
        | _ => cases e
    | _ => cases e
  | _ => cases e
/-- a dict that is read: one's own, an object's, or data -/
def kgetR : R → En → Option (List (Key × D))
  | .d (.dck ks ds), _ => some (ks.zip ds)
  | r, e => kget r e
theorem dctR_ok {r : R} {ds : List (Key × D)} (I : Rl Γ κ env σ H) (h : HeldR Γ κ H σ v r) (e : kgetR r env = some ds) : ∃ a vs, v = .ref a ∧ H a = some (.dK vs) ∧ PR Γ.K Γ.cls κ H vs ds := by
  have key : kget r env = some ds → ∃ a vs, v = .ref a ∧ H a = some (.dK vs) ∧ PR Γ.K Γ.cls κ H vs ds := fun e => by
    obtain ⟨a, vs, h1, h2, h3, _⟩ := dct_ok I h e
    exact ⟨a, vs, h1, h2, h3⟩
  cases r with
  | d d =>
    cases d with
    | dck ks ds' =>
      cases e
      cases h with
      | dck h1 h2 h3 h4 => exact ⟨_, _, rfl, h2, PR.zipKV h3 h4⟩
    | _ => exact key e
  | _ => exact key e
/-- {} -/
def tDict0 : PTE := fun _ e Q => Q (.dK []) e
theorem ve_dict0 : VE Y (.Dict [] [] pos) tDict0 :=
  ⟨⟨fun _ => tDNewK, fun _ => pe_dnewK, fun Γ σ κ H env Q Q' hK I q k p hp => k _ κ _ (.dK []) env (Ext.upd_new I.gh hp) (I.upd_new hp) (new_dK I hp .nil) q⟩⟩
/-- d[k] -/
def tDG (to ti : PTE) : PTE := fun x e Q => to x e fun r e1 => hold r e1 fun r e1 => ti x e1 fun ri e2 => match kgetR r e2 with
  | some kvs => match rv ri e2 with
    | some kd => match keyD kd with
      | some k => match getK kvs k with
        | some d => Q (.d d) e2
        | none => False
      | none => False
    | none => False
  | none => False
/-- k in d -/
def tDI (neg : Bool) (ti to : PTE) : PTE := fun x e Q => ti x e fun ri e1 => hold ri e1 fun ri e1 => to x e1 fun r e2 => match kgetR r e2 with
  | some kvs => match rv ri e2 with
    | some kd => match keyD kd with
      | some k => Q (.d (.bl (if neg then !(getK kvs k).isSome else (getK kvs k).isSome))) e2
      | none => False
    | none => False
  | none => False
theorem kget_rel {r : R} {kvs : List (Key × D)} (h : RelR Γ κ H env σ v r) (e : kgetR r env = some kvs) : HeldR Γ κ H σ v r := by
  cases r with
  | nam i => exact h
  | d d => exact h
  | _ => cases e
theorem din_ref {neg : Bool} {ro ri : XK → TE}
    (fi : ∀ (Γ : Gm) (σ : Sl) (κ : Ka) (H : Hp) (env : En) (Q : R → En → Prop) (Q' : VK), GK Y Γ → Rl Γ κ env σ H → ti Γ.x env Q → (∀ v κ' H' r env', Ext κ H κ' H' → Rl Γ κ' env' σ H' → RelR Γ κ' H' env' σ v r → Q r env' → Q' v H') → ri Γ.E σ H Q')
    (fo : ∀ (Γ : Gm) (σ : Sl) (κ : Ka) (H : Hp) (env : En) (Q : R → En → Prop) (Q' : VK), GK Y Γ → Rl Γ κ env σ H → to Γ.x env Q → (∀ v κ' H' r env', Ext κ H κ' H' → Rl Γ κ' env' σ H' → RelR Γ κ' H' env' σ v r → Q r env' → Q' v H') → ro Γ.E σ H Q')
    {Q : R → En → Prop} {Q' : VK} (hK : GK Y Γ) (I : Rl Γ κ env σ H) (q : tDI neg ti to Γ.x env Q)
    (k : ∀ v κ' H' r env', Ext κ H κ' H' → Rl Γ κ' env' σ H' → RelR Γ κ' H' env' σ v r → Q r env' → Q' v H') :
    ri Γ.E σ H fun y H1 => ro Γ.E σ H1 fun x H2 => ∃ a o, x = .ref a ∧ DGet H2 a y o ∧ Q' (.bl (if neg then !o.isSome else o.isSome)) H2 := by
  refine fi Γ σ κ H env _ _ hK I q fun iv κ1 H1 r1 e1 x1 I1 h1 q1 => ?_
  refine hold_ok I1 h1 q1 fun κ2 r2 x2 I2 h2 q2 => ?_
  refine fo Γ σ κ2 H1 e1 _ _ hK I2 q2 fun v κ3 H3 r3 e3 x3 I3 h3 q3 => ?_
  cases e1' : kgetR r3 e3 with
  | none => rw [e1'] at q3; exact q3.elim
  | some kvs =>
    rw [e1'] at q3
    cases e2' : rv r2 e3 with
    | none => rw [e2'] at q3; exact q3.elim
    | some kd =>
      rw [e2'] at q3
      cases e3' : keyD kd with
      | none => simp only [e3'] at q3
      | some kk =>
        simp only [e3'] at q3
        obtain ⟨a, vs, rfl, g1, g2⟩ := dctR_ok I3 (kget_rel h3 e1') e1'
        have ek := keyD_rep (K := Γ.K) (cl := Γ.cls) (κ := κ3) (H := H3) (v := iv) (d := kd) (by
          have := rv_ok I3 (h2.ext x3).rel e2'
          cases kd with
          | lst _ => cases e3'
          | _ => exact this) e3'
        subst ek
        rcases PR.find kk g2 with ⟨z1, z2⟩ | ⟨d, v, z1, z2, z3⟩
        · rw [z1] at q3
          exact ⟨a, none, rfl, z2 ▸ DGet.k g1, k _ κ3 H3 (.d (.bl _)) e3 ((x1.trans x2).trans x3) I3 (.bl _) q3⟩
        · rw [z1] at q3
          exact ⟨a, some v, rfl, z2 ▸ DGet.k g1, k _ κ3 H3 (.d (.bl _)) e3 ((x1.trans x2).trans x3) I3 (.bl _) q3⟩
theorem vt_of_pc {op : CmpOp} {t : PTE} {rd : XK → TE} {o i : Expr} (hm : behindInMarks op o = false) (p : ∀ j, PC (Y.X j) op i o (rd (Y.E j)))
    (f : ∀ (Γ : Gm) (σ : Sl) (κ : Ka) (H : Hp) (env : En) (Q : R → En → Prop) (Q' : VK), GK Y Γ → Rl Γ κ env σ H → t Γ.x env Q → (∀ v κ' H' r env', Ext κ H κ' H' → Rl Γ κ' env' σ H' → RelR Γ κ' H' env' σ v r → Q r env' → Q' v H') → rd Γ.E σ H Q') : VT Y (.Compare i [op] [o] pos) (tB t) := by
  refine ⟨⟨fun E => L2.tB (rd E), fun j => pt_cmp (p j) hm, fun Γ σ κ H env Q Q' hK I q k => ?_⟩⟩
  refine f Γ σ κ H env _ _ hK I q fun v κ1 H1 r1 e1 x1 I1 h1 q1 => ?_
  obtain ⟨c, rfl, q1⟩ := bl_of (P := fun _ => True) I1 h1 q1
  exact ⟨c, rfl, k c κ1 H1 e1 x1 I1 q1⟩
theorem vt_dnin (hu : Hu Y) (hi : VE Y i ti) (ho : VE Y o to) (hm : behindInMarks .NotIn o = false := by rfl) : VT Y (.Compare i [.NotIn] [o] pos) (tB (tDI true ti to)) := by
  obtain ⟨ro, po, fo⟩ := ho.ex
  obtain ⟨ri, pi, fi⟩ := hi.ex
  exact vt_of_pc (rd := fun E => tDNotIn (ri E) (ro E)) hm (fun j => pc_dnotin (by have := hu j; omega) (pi j) (po j)) (fun Γ σ κ H env Q Q' hK I q k => din_ref (neg := true) fi fo hK I q k)
/-- d[k] = v -/
def sDPt (te to ti : PTE) : PTS := fun x P e => te x e fun r0 e1 => fz r0 e1 fun dv e2 => to x e2 fun ro e3 => hold ro e3 fun ro e3 => ti x e3 fun ri e4 => match kget ro e4 with
  | some kvs => match rv ri e4 with
    | some kd => match keyD kd with
      | some k => kvs.length < sizeLine ∧ P.nx (kset ro e4 (setK kvs k dv))
      | none => False
    | none => False
  | none => False
theorem PR.lengthK : ∀ {ds : List (Key × D)} {vs : List (Key × V)}, PR K cl κ H vs ds → vs.length = ds.length
  | [], _, h => by cases h; rfl
  | d :: ds, _, h => by cases h with | cons h1 h2 => simp [PR.lengthK h2]
theorem vs_dput {tpos : Pos} (hu : Hu Y) (he : VE Y e te) (ho : VE Y o to) (hi : VE Y i ti)
    (hs : ∀ j, swapsWith e (some (.Subscript o i tpos)) pos.line (Y.X j).env = pure false := by intro _; rfl) : VS Y (.Assign [.Subscript o i tpos] e pos) (sDPt te to ti) := by
  obtain ⟨re, pe, fe⟩ := he.ex
  obtain ⟨ro, po, fo⟩ := ho.ex
  obtain ⟨ri, pi, fi⟩ := hi.ex
  refine ⟨⟨fun E => sDPut (ro E) (ri E) (re E), fun j => ps_dput (by have := hu j; omega) (po j) (pi j) (pe j) (hs j), fun Γ σ κ H env P P' hK I q l => ?_⟩⟩
  refine fe Γ σ κ H env _ _ hK I q fun v κ1 H1 r1 e1 x1 I1 h1 q1 => ?_
  refine fz_ok I1 h1 q1 fun κ2 dv e2 x2 I2 h2 q2 => ?_
  refine fo Γ σ κ2 H1 e2 _ _ hK I2 q2 fun ov κ3 H3 r3 e3 x3 I3 h3 q3 => ?_
  refine hold_ok I3 h3 q3 fun κ4 r4 x4 I4 h4 q4 => ?_
  refine fi Γ σ κ4 H3 e3 _ _ hK I4 q4 fun iv κ5 H5 r5 e5 x5 I5 h5 q5 => ?_
  have hv : Rep Γ.K Γ.cls κ5 H5 v dv := ((h2.mono x3).mono x4).mono x5
  have x15 := (((x1.trans x2).trans x3).trans x4).trans x5
  cases e1' : kget r4 e5 with
  | none => rw [e1'] at q5; exact q5.elim
  | some kvs =>
    rw [e1'] at q5
    cases e2' : rv r5 e5 with
    | none => rw [e2'] at q5; exact q5.elim
    | some kd =>
      rw [e2'] at q5
      cases e3' : keyD kd with
      | none => simp only [e3'] at q5
      | some kk =>
        simp only [e3'] at q5
        obtain ⟨a, vs, rfl, g1, g2, g3⟩ := dct_ok I5 (h4.ext x5) e1'
        have ek := keyD_rep (K := Γ.K) (cl := Γ.cls) (κ := κ5) (H := H5) (v := iv) (d := kd) (by
          have := rv_ok I5 h5 e2'
          cases kd with
          | lst _ => cases e3'
          | _ => exact this) e3'
        subst ek
        obtain ⟨x6, I6⟩ := g3 _ _ (PR.put hv kk g2)
        exact ⟨a, _, rfl, DPut.k g1 (by rw [PR.lengthK g2]; exact q5.1), l.1 σ κ5 _ _ (x15.trans x6) I6 q5.2⟩
end
end Pu
set_option maxRecDepth 100000
set_option maxHeartbeats 4000000
namespace PuE
open PySem PySem.Spec PyProof.Rows L2 HT
end PuE
namespace Pu
open PySem L2
section
variable {Γ Γ' : Gm} {κ κ' : Ka} {H H' : Hp} {env env' : En} {σ : Sl} {v : V} {st : Sto} {Y : Fam} {a b e o : Expr} {es : List Expr} {ta tb te to ti : PTE} {pos : Pos}
def pBack (d : D) (Q : R → Prop) : Prop := match d with
  | .lst ds => Q (.own ds.reverse)
  | .tup ds => Q (.d (.tup ds.reverse))
  | .str s => Q (.d (.str s.reverse))
  | _ => False
/-- a statement that is never reached -/
def sNever : PTS := fun _ _ _ => False
end
end Pu
set_option maxRecDepth 100000
set_option maxHeartbeats 4000000
namespace Pu
open PySem L2
section
variable {Γ Γ' : Gm} {κ κ' : Ka} {H H' : Hp} {env env' : En} {σ : Sl} {v : V} {st : Sto} {Y : Fam} {a b e o i o2 i2 : Expr} {es : List Expr} {ta tb te to ti to2 ti2 : PTE} {pos : Pos}
def subA (to ti : PTE) (dv : D) (x : PX) (e : En) (Q : En → Prop) : Prop := to x e fun ro e3 => hold ro e3 fun ro e3 => ti x e3 fun ri e4 => match rv ri e4 with
  | some (.int i) => setAt ro dv i e4 Q
  | _ => False
def sSwIx (te to ti to2 ti2 : PTE) : PTS := fun x P e => te x e fun r0 e1 => fz r0 e1 fun dv e2 => match dv with
  | .tup [d1, d2] => subA to ti d1 x e2 fun e3 => subA to2 ti2 d2 x e3 P.nx
  | _ => False
end
end Pu
set_option maxRecDepth 100000
set_option maxHeartbeats 4000000
namespace PuE
open PySem PySem.Spec PyProof.Rows L2 SrtO
abbrev Itm := Int ⊕ List Nat
abbrev ltN (a b : List Itm) : Bool := (listOrd itemOrd).blt a b
/-- a tuple of such items in the heap -/
def IsTupS (h : Heap) (shape : Nat → Bool) (v : Value) (l : List Itm) : Prop := ∃ a o xs n, v = .ref a ∧ h.get? a = some o ∧ o.cls = .type "tuple" ∧ o.data = .seq xs n ∧ tupItems shape 0 xs.toList = some l ∧ l ≠ []
theorem IsTupS.keeps {h h' : Heap} {shape : Nat → Bool} {v : Value} {l : List Itm} (x : IsTupS h shape v l) (k : ∀ b o, h.get? b = some o → o.cls = .type "tuple" → h'.get? b = some o) : IsTupS h' shape v l := by
  obtain ⟨a, o, xs, n, e, ho, hc, r⟩ := x
  exact ⟨a, o, xs, n, e, k a o ho hc, hc, r⟩
def isS : Itm → Bool
  | .inl _ => false
  | .inr _ => true
end PuE
namespace Pu
open PySem L2 PySem.Spec PyProof.Rows PuE
def itD : Itm → D
  | .inl i => .int i
  | .inr l => .str l
def itsD : List D → Option (List Itm)
  | [] => some []
  | .int i :: ds => (itsD ds).map (Sum.inl i :: ·)
  | .str l :: ds => (itsD ds).map (Sum.inr l :: ·)
  | _ => none
def tsD : List D → Option (List (List Itm))
  | [] => some []
  | .tup xs :: ds => match itsD xs, tsD ds with
    | some l, some r => some (l :: r)
    | _, _ => none
  | _ => none
def trD (l : List Itm) : D := .tup (l.map itD)
/-- sorted(list or tuple of such tuples) -/
def pSortN : List D → (R → Prop) → Prop
  | [d], Q => match d.seqs with
    | some ds => match tsD ds with
      | some ls => ∃ sh : List Bool, sh ≠ [] ∧ (∀ l ∈ ls, l.map isS = sh) ∧ ∀ qs : List (List Itm), qs.Perm ls → qs.Pairwise (fun x y => ltN y x = false) → Q (.own (qs.map trD))
      | none => False
    | none => False
  | _, _ => False
end Pu
set_option maxRecDepth 100000
set_option maxHeartbeats 4000000
namespace PuE
open PySem PySem.Spec PyProof.Rows L2
end PuE
set_option maxRecDepth 100000
set_option maxHeartbeats 4000000
namespace Pu
open PySem L2 PuE
section
variable {α : Type} [DecidableEq α] {K : PySem.W.Frag} {cl : Cl} {κ : Ka} {H : Hp}
def getA (kvs : List (α × D)) (k : α) : Option D := (kvs.find? fun kv => decide (kv.1 = k)).map (·.2)
def setA (kvs : List (α × D)) (k : α) (d : D) : List (α × D) :=
  if (kvs.any fun kv => decide (kv.1 = k)) = true then kvs.map (fun kv => if kv.1 = k then (kv.1, d) else kv) else kvs ++ [(k, d)]
def mergeA (kvs more : List (α × D)) : List (α × D) := more.foldl (fun acc kv => setA acc kv.1 kv.2) kvs
end
section
variable {K : PySem.W.Frag} {cl : Cl} {Γ Γ' : Gm} {κ κ' : Ka} {H H' : Hp} {env env' : En} {σ : Sl} {v : V} {st : Sto} {Y : Fam} {a b c e o i : Expr} {es : List Expr} {ta tb tc te to ti : PTE} {pos : Pos}
def keyL : List D → Option (List Key)
  | [] => some []
  | d :: ds => match keyD d with
    | some k => match keyL ds with
      | some ks => some (k :: ks)
      | none => none
    | none => none
/-- a tuple's key -/
def tupK : D → Option (List Key)
  | .tup ds => keyL ds
  | _ => none
def tget : R → En → Option (List (List Key × D))
  | .nam i, e => match e.sl[i]? with
    | some (.dT ds) => some ds
    | _ => none
  | .d (.ref k), e => match e.st[k]? with
    | some (.dT ds) => some ds
    | _ => none
  | _, _ => none
def tset : R → En → List (List Key × D) → En
  | .nam i, e, ds => e.setC i (.dT ds)
  | .d (.ref k), e, ds => ⟨e.sl, e.st.set k (.dT ds)⟩
  | _, e, _ => e
def tgetR : R → En → Option (List (List Key × D))
  | .d (.dct ks ds), _ => some (ks.zip ds)
  | r, e => tget r e
/-- {}, to be filled by tuples -/
def tDictT0 : PTE := fun _ e Q => Q (.dT []) e
/-- d[k], k a tuple -/
def tDGT (to ti : PTE) : PTE := fun x e Q => to x e fun r e1 => hold r e1 fun r e1 => ti x e1 fun ri e2 => match tgetR r e2 with
  | some kvs => match rv ri e2 with
    | some kd => match tupK kd with
      | some k => match getA kvs k with
        | some d => Q (.d d) e2
        | none => False
      | none => False
    | none => False
  | none => False
/-- d[k] = v, k a tuple -/
def sDPtT (te to ti : PTE) : PTS := fun x P e => te x e fun r0 e1 => fz r0 e1 fun dv e2 => to x e2 fun ro e3 => hold ro e3 fun ro e3 => ti x e3 fun ri e4 => match tget ro e4 with
  | some kvs => match rv ri e4 with
    | some kd => match tupK kd with
      | some k => kvs.length < sizeLine ∧ P.nx (tset ro e4 (setA kvs k dv))
      | none => False
    | none => False
  | none => False
def tCallT (p : List (List Key × D) → (R → Prop) → Prop) (t : PTR) : PTE := fun x e Q => t x e fun rs e1 => match rs with
  | [r] => match tgetR r e1 with
    | some kvs => p kvs (fun r => Q r e1)
    | none => False
  | _ => False
/-- len(d) -/
def pLenT (kvs : List (List Key × D)) (Q : R → Prop) : Prop := Q (.d (.int kvs.length))
/-- list(d) -/
def invK : Key → D
  | .inl i => .int i
  | .inr s => .str s.cps.toList
def isIK : Key → Bool
  | .inl _ => true
  | .inr _ => false
def pListT (kvs : List (List Key × D)) (Q : R → Prop) : Prop := kvs.length ≤ sizeLine ∧ (∀ kv ∈ kvs, kv.1.length ≤ sizeLine ∧ kv.1.all isIK = true) ∧ Q (.own (kvs.map fun kv => .tup (kv.1.map invK)))
theorem IsKeys.len {H : Hp} {vs : List (List Key × V)} {bs : List Addr} (h : IsKeys H vs bs) : vs.length = bs.length := Paired.length h
def pairsT : List D → Option (List (List Key × D))
  | [] => some []
  | .tup [kd, v] :: r => match tupK kd with
    | some k => match pairsT r with
      | some kvs => some ((k, v) :: kvs)
      | none => none
    | none => none
  | _ => none
def pairsK : List D → Option (List (Key × D))
  | [] => some []
  | .tup [kd, v] :: r => match keyD kd with
    | some k => match pairsK r with
      | some kvs => some ((k, v) :: kvs)
      | none => none
    | none => none
  | _ => none
def pDictT : List D → (R → Prop) → Prop
  | [.lst ds], Q => match pairsT ds with
    | some kvs => Q (.dT (mergeA [] kvs))
    | none => False
  | _, _ => False
def pDictK : List D → (R → Prop) → Prop
  | [.lst ds], Q => match pairsK ds with
    | some kvs => Q (.dK (mergeA [] kvs))
    | none => False
  | _, _ => False
def tChn (g g' : Int → Int → Bool) (ta tb tc : PTE) : PTE := fun x e Q => ta x e fun r0 e1 => match rv r0 e1 with
  | some (.int i) => tb x e1 fun r1 e2 => match rv r1 e2 with
    | some (.int j) => if g i j = true then tc x e2 fun r2 e3 => match rv r2 e3 with
        | some (.int k) => Q (.d (.bl (g' j k))) e3
        | _ => False
      else Q (.d (.bl false)) e2
    | _ => False
  | _ => False
def pMMI (f : Int → List Int → Int) : List D → (R → Prop) → Prop
  | [d], Q => match intL d.items with
    | some (x :: r) => Q (.d (.int (f x r)))
    | _ => False
  | _, _ => False
end
end Pu
set_option maxRecDepth 100000
set_option maxHeartbeats 4000000
namespace PuE
open PySem PySem.Spec PyProof.Rows SS
/-- how many unlike ones of the first so many -/
def unl (xs : List Str) : Nat → Nat
  | 0 => 0
  | i + 1 => if (xs.take i).any (· == xs.getD i Str.empty) then unl xs i else unl xs i + 1
end PuE
namespace PuE
open PySem PySem.Spec PyProof.Rows L2
end PuE
namespace Pu
open PySem L2 PuE
section
variable {Γ Γ' : Gm} {κ κ' : Ka} {H H' : Hp} {env env' : En} {σ : Sl} {v : V} {st : Sto} {Y : Fam} {a b e : Expr} {es : List Expr} {ta tb te : PTE} {pos : Pos}
/-- how many unlike texts -/
def unlT (ls : List (List Nat)) : Nat := unl (ls.map fun l => (⟨l.toArray⟩ : Str)) ls.length
def pLenS (d : D) (Q : R → Prop) : Prop := match d with
  | .lst ds => match strL ds with
    | some ls => ls.length < 64 ∧ Q (.d (.int (unlT ls)))
    | none => False
  | _ => False
end
end Pu
set_option maxRecDepth 100000
set_option maxHeartbeats 4000000
namespace PuE
open PySem PySem.Spec PyProof.Rows L2
end PuE
namespace Pu
open PySem L2 PuE
section
variable {Γ Γ' : Gm} {κ κ' : Ka} {H H' : Hp} {env env' : En} {σ : Sl} {v : V} {st : Sto} {Y : Fam} {a b c d e : Expr} {es : List Expr} {ta tb tc td te : PTE} {pos : Pos}
def tChn3 (g1 g2 g3 : Int → Int → Bool) (ta tb tc td : PTE) : PTE := fun x e Q => ta x e fun r0 e1 => match rv r0 e1 with
  | some (.int i) => tb x e1 fun r1 e2 => match rv r1 e2 with
    | some (.int j) => if g1 i j = true then tc x e2 fun r2 e3 => match rv r2 e3 with
        | some (.int k) => if g2 j k = true then td x e3 fun r3 e4 => match rv r3 e4 with
            | some (.int l) => Q (.d (.bl (g3 k l))) e4
            | _ => False
          else Q (.d (.bl false)) e3
        | _ => False
      else Q (.d (.bl false)) e2
    | _ => False
  | _ => False
end
end Pu
set_option maxRecDepth 100000
set_option maxHeartbeats 4000000
namespace Pu
open PySem L2
section
variable {Γ Γ' : Gm} {κ κ' : Ka} {H H' : Hp} {env env' : En} {σ : Sl} {v : V} {st : Sto} {Y : Fam} {a b c d e : Expr} {es : List Expr} {ta tb tc td te : PTE} {pos : Pos}
def pLtT (d e : D) (Q : R → Prop) : Prop := match d, e with
  | .tup xs, .tup ys => match intL xs, intL ys with
    | some ns, some ms => Q (.d (.bl (HT.lexLt ns ms)))
    | _, _ => False
  | _, _ => False
end
end Pu
set_option maxRecDepth 100000
set_option maxHeartbeats 4000000
namespace Pu
open PySem PySem.Spec PyProof.Rows L2 PuE
mutual
/-- the value v is the key k -/
inductive NV (H : Hp) : NestedKey → V → Prop
  | int (i : Int) : NV H (.num i) (.int i)
  | text (x : Str) : NV H (.text x) (.str x)
  | tup {a : Addr} {ks : List NestedKey} {vs : List V} : Rd H a (.tup vs) → NVs H ks vs → NV H (.tup ks) (.ref a)
inductive NVs (H : Hp) : List NestedKey → List V → Prop
  | nil : NVs H [] []
  | cons {k : NestedKey} {v : V} {ks : List NestedKey} {vs : List V} : NV H k v → NVs H ks vs → NVs H (k :: ks) (v :: vs)
end
section
variable {K : PySem.W.Frag} {cl : Cl} {κ : Ka} {H : Hp}
mutual
theorem NV.of : ∀ (d : D) (v : V) (k : NestedKey), Rep K cl κ H v d → nkD d = some k → NV H k v
  | .int i, _, _, h, e => by cases h; cases e; exact .int i
  | .str s, _, _, h, e => by cases h; cases e; exact .text _
  | .tup ds, _, k, h, e => by
    unfold nkD at e
    cases e1 : nkL ds with
    | none => rw [e1] at e; cases e
    | some ks =>
      rw [e1] at e
      cases e
      cases h with
      | tup _ h0 h1 h2 h3 => exact .tup (.inl h1) (NVs.of ds _ _ h3 e1)
      | tupF _ _ _ h0 h1 h2 h3 => exact .tup (.inr ⟨_, h1⟩) (NVs.of ds _ _ h3 e1)
  | .non, _, _, _, e => by cases e
  | .bl _, _, _, _, e => by cases e
  | .lst _, _, _, _, e => by cases e
  | .scr _, _, _, _, e => by cases e
  | .box, _, _, _, e => by cases e
  | .ref _, _, _, _, e => by cases e
  | .cls _, _, _, _, e => by cases e
  | .exc .., _, _, _, e => by cases e
  | .dct .., _, _, _, e => by cases e
  | .dck .., _, _, _, e => by cases e
  | .dcn .., _, _, _, e => by cases e
theorem NVs.of : ∀ (ds : List D) (vs : List V) (ks : List NestedKey), RepL K cl κ H vs ds → nkL ds = some ks → NVs H ks vs
  | [], _, _, h, e => by cases h; cases e; exact .nil
  | d :: ds, _, ks, h, e => by
    cases h with
    | cons h1 h2 =>
      unfold nkL at e
      cases e1 : nkD d with
      | none => rw [e1] at e; cases e
      | some k =>
        rw [e1] at e
        cases e2 : nkL ds with
        | none => rw [e2] at e; cases e
        | some kr =>
          rw [e2] at e
          cases e
          exact .cons (NV.of d _ _ h1 e1) (NVs.of ds _ _ h2 e2)
end
end
section
variable {X : Cx}
theorem NVs.get {H : Hp} : ∀ {ks : List NestedKey} {vs : List V} {j : Nat} {k : NestedKey}, NVs H ks vs → ks[j]? = some k → ∃ v, vs[j]? = some v ∧ NV H k v
  | [], _, _, _, _, e => by simp at e
  | k :: ks, _, 0, k', h, e => by
    cases h with
    | cons h1 h2 => cases e; exact ⟨_, rfl, h1⟩
  | k :: ks, _, j + 1, k', h, e => by
    cases h with
    | cons h1 h2 =>
      obtain ⟨v, g1, g2⟩ := NVs.get (j := j) h2 (by simpa using e)
      exact ⟨v, by simpa using g1, g2⟩
end
section
variable {Γ Γ' : Gm} {κ κ' : Ka} {H H' : Hp} {env env' : En} {σ : Sl} {v : V} {st : Sto} {Y : Fam} {a b c e o i : Expr} {es : List Expr} {ta tb tc te to ti : PTE} {pos : Pos}
def pairsN : List D → Option (List (NestedKey × D × Int))
  | [] => some []
  | .tup [kd, .int v] :: r => match nkD kd with
    | some k => match pairsN r with
      | some kvs => some ((k, kd, v) :: kvs)
      | none => none
    | none => none
  | _ => none
def pDictN : List D → (R → Prop) → Prop
  | [.lst ds], Q => match pairsN ds with
    | some kvs => (kvs.map (·.1)).Nodup ∧ (∀ p ∈ kvs, p.1.depth ≤ 8 ∧ ∃ ds, p.2.1 = .tup ds) ∧ Q (.d (.dcn (kvs.map (·.2.1)) (kvs.map (·.2.2))))
    | none => False
  | _, _ => False
/-- the number of a key -/
def getN (ks : List D) (is : List Int) (kd : D) : Option Int := match nkD kd with
  | some k => match nkL ks with
    | some nks => ((nks.zip is).find? fun p => decide (p.1 = k)).map (·.2)
    | none => none
  | none => none
def pGN (d kd : D) (Q : R → Prop) : Prop := match d with
  | .dcn ks is => match getN ks is kd with
    | some i => Q (.d (.int i))
    | none => False
  | _ => False
/-- a, b, .. = a list of that length -/
def gLs (n : Nat) (t : PTGs) : PTG := fun d e Q => match d with
  | .lst ds => ds.length = n ∧ t ds e Q
  | _ => False
end
end Pu
set_option maxRecDepth 100000
set_option maxHeartbeats 4000000
namespace Pu
open PySem PySem.Spec PyProof.Rows L2 PuE
section
variable {Γ Γ' : Gm} {κ κ' : Ka} {H H' : Hp} {Y : Fam} {e : Expr} {te : PTE} {pos : Pos}
def iRevT (te : PTE) : PTI := fun x e Q => te x e fun r e1 => fz r e1 fun d e2 => match d with
  | .tup ds => Q ds.reverse e2
  | _ => False
end
end Pu
set_option maxRecDepth 100000
set_option maxHeartbeats 4000000
namespace Pu
open PySem L2 PuE
section
variable {Γ Γ' : Gm} {κ κ' : Ka} {H H' : Hp} {env env' : En} {σ : Sl} {v : V} {st : Sto} {Y : Fam} {a b c d e : Expr} {es : List Expr} {ta tb tc td te : PTE} {pos : Pos}
def tChS (g g' : List Nat → List Nat → Bool) (ta tb tc : PTE) : PTE := fun x e Q => ta x e fun r0 e1 => match rv r0 e1 with
  | some (.str i) => tb x e1 fun r1 e2 => match rv r1 e2 with
    | some (.str j) => if g i j = true then tc x e2 fun r2 e3 => match rv r2 e3 with
        | some (.str k) => Q (.d (.bl (g' j k))) e3
        | _ => False
      else Q (.d (.bl false)) e2
    | _ => False
  | _ => False
end
end Pu
set_option maxRecDepth 100000
set_option maxHeartbeats 4000000
namespace Pu
open PySem L2 PuE
end Pu
set_option maxRecDepth 100000
set_option maxHeartbeats 4000000
namespace PuE
open PySem PySem.Spec PyProof.Rows L2 RT PySem.W
end PuE
namespace Pu
open PySem L2 PuE
end Pu
set_option maxRecDepth 100000
set_option maxHeartbeats 4000000
namespace PuE
open PySem PySem.Spec PyProof.Rows L2 RT PySem.W
end PuE
namespace Pu
open PySem L2 PuE
end Pu
set_option maxRecDepth 100000
set_option maxHeartbeats 4000000
namespace PuE
open PySem PySem.Spec PyProof.Rows L2
end PuE
namespace Pu
open PySem L2 PuE
end Pu
set_option maxRecDepth 100000
set_option maxHeartbeats 4000000
namespace Pu
open PySem L2 PuE
end Pu
set_option maxRecDepth 100000
set_option maxHeartbeats 1000000
namespace PuE
open PySem PySem.Spec PyProof.Rows L2
end PuE
namespace Pu
open PySem L2 PySem.Spec PyProof.Rows PuE
end Pu
set_option maxRecDepth 100000
set_option maxHeartbeats 4000000
namespace PuE
open PySem PySem.Spec PyProof.Rows L2
end PuE
namespace Pu
open PySem L2 PuE
end Pu
set_option maxRecDepth 100000
set_option maxHeartbeats 4000000
namespace PuE
open PySem PySem.Spec PyProof.Rows L2
end PuE
namespace Pu
open PySem L2 PuE
section
variable {Γ Γ' : Gm} {κ κ' : Ka} {H H' : Hp} {env env' : En} {σ : Sl} {v : V} {st : Sto} {Y : Fam} {a b c d e : Expr} {es : List Expr} {ta tb tc td te : PTE} {pos : Pos}
def pLtN (d e : D) (Q : R → Prop) : Prop := match d, e with
  | .tup xs, .tup ys => match itsD xs, itsD ys with
    | some l, some m => l.map isS = m.map isS ∧ Q (.d (.bl (ltN l m)))
    | _, _ => False
  | _, _ => False
end
end Pu
set_option maxRecDepth 100000
set_option maxHeartbeats 4000000
namespace Pu
open PySem L2
end Pu
set_option maxRecDepth 100000
set_option maxHeartbeats 4000000
namespace Pu
open PySem L2
end Pu
set_option maxRecDepth 100000
set_option maxHeartbeats 4000000
namespace Pu
open PySem L2
end Pu
set_option maxRecDepth 100000
set_option maxHeartbeats 4000000
namespace Pu
open PySem L2 PySem.Spec PyProof.Rows
end Pu
set_option maxRecDepth 100000
set_option maxHeartbeats 4000000
namespace Pu
open PySem L2 PySem.Spec PyProof.Rows
section
variable {Γ Γ' : Gm} {κ κ' : Ka} {H H' : Hp} {env env' : En} {σ : Sl} {v : V} {st : Sto} {Y : Fam} {a b e : Expr} {es : List Expr} {ta tb te : PTE} {pos : Pos}
abbrev PMX := List D → Sto → (C → Sto → Prop) → PX → Prop
theorem Gh.same (g : Gh Γ κ st H) (hK : Γ'.K = Γ.K := by rfl) (hc : Γ'.cls = Γ.cls := by rfl) (h0 : Γ'.H0 = Γ.H0 := by rfl) (hk : Γ'.k0 = Γ.k0 := by rfl) : Gh Γ' κ st H :=
  ⟨by rw [hk]; exact g.sub, by rw [hk, h0]; exact g.new, g.trk, by rw [h0]; exact g.trk0, g.box, fun a k e => let ⟨so, h1, h2⟩ := g.obj a k e; ⟨so, h1, h2.switch hK hc⟩, g.inj, by rw [hk, h0]; exact g.base⟩
/-- a call of a def that may raise -/
def tCallX (m : PMX) (t : PTA) : PTE := fun x e Q => t x e fun ds e1 => m ds e1.st (fun c st' => Q c.toR ⟨e1.sl, st'⟩) x
def sRaise (c n : Nat) (t : PTA) : PTS := fun x D e => t x e fun ds e1 => ds.length = n ∧ x ⟨c, ds⟩ e1.st
/-- fl: the names of the fields; cb: which classes the clause takes; n: how many slots -/
def sTry (n i : Nat) (fl : Nat → List Str) (cb : Nat → Bool) (tb ts : PTS) : PTS := fun x D e => (e.sl.all fun c => !c.isOwn) = true ∧ i < n ∧
  tb (fun ex st => cb ex.c = true ∧ ts noX { nx := fun e' => D.nx (wipeE [i] e'), rt := D.rt, bk := fun e' => D.bk (wipeE [i] e'), ct := fun e' => D.ct (wipeE [i] e') } ⟨(List.replicate n C.un).set i (.d (.exc ex.c (fl ex.c) ex.ds)), st⟩) D e
theorem RelC.same {c : C} (hK : Γ'.K = Γ.K) (hc : Γ'.cls = Γ.cls) (h0 : ∀ a, Γ.H0 a = none → Γ'.H0 a = none) (h : RelC Γ κ H v c) : RelC Γ' κ H v c := by
  cases c with
  | un => exact h.elim
  | d d => show Rep Γ'.K Γ'.cls κ H v d; rw [hK, hc]; exact h
  | own ds => obtain ⟨a, e, h1⟩ := h; exact ⟨a, e, OwnC.switch hK hc (h0 a h1.facts.2.1) h1⟩
  | dK ds => obtain ⟨a, e, h1⟩ := h; exact ⟨a, e, OwnC.switch hK hc (h0 a h1.facts.2.1) h1⟩
  | dT ds => obtain ⟨a, e, h1⟩ := h; exact ⟨a, e, OwnC.switch hK hc (h0 a h1.facts.2.1) h1⟩
def tIsX (tb : Nat → Option Bool) (te : PTE) : PTE := fun x e Q => te x e fun r e1 => match rv r e1 with
  | some (.exc c _ _) => match tb c with
    | some b => Q (.d (.bl b)) e1
    | none => False
  | _ => False
/-- the class named by x2: one of the program, or a built-in one -/
def NmC (X : Cx) (x : Str) (c : V) (cv : Value) : Prop := (∃ C : Addr, c = .ref C ∧ cv = .ref C ∧ X.mg x = some (.ref C)) ∨ (∃ T, c = .ty T ∧ cv = .type T ∧ X.mg x = none ∧ bootBuiltins x = some (.type T) ∧ x ≠ "__name__")
theorem NmC.rel {X : Cx} {x : Str} {c : V} {cv : Value} (h : NmC X x c cv) : ∀ u, RelV c u → u = cv := by
  rcases h with ⟨C, rfl, rfl, _⟩ | ⟨T, rfl, rfl, _⟩
  · exact fun u r => r
  · exact fun u r => r
/-- names of classes -/
inductive NmCs (X : Cx) : List Expr → List V → List Value → Prop
  | nil : NmCs X [] [] []
  | cons {x : Str} {p : Pos} {es : List Expr} {c : V} {cv : Value} {cs : List V} {cvs : List Value} (hg : Gl X x) (hd : (x == ("__debug__" : Str)) = false) (h : NmC X x c cv) (hs : starEach (.Name x p :: es) X.env = (false, eval (.Name x p) X.env) :: starEach es X.env) (r : NmCs X es cs cvs) : NmCs X (.Name x p :: es) (c :: cs) (cv :: cvs)
theorem NmCs.rel {X : Cx} {es : List Expr} {cs : List V} {cvs : List Value} (h : NmCs X es cs cvs) : ∀ us, Vals cs us → us = cvs := by
  induction h with
  | nil => intro us r; cases r; rfl
  | cons hg hd h hs r ih =>
    intro us q
    cases q with
    | cons q1 q2 => rw [h.rel _ q1, ih _ q2]
/-- e.f -/
def xlk (n : Str) (ns : List Str) (ds : List D) : Option D := ((ns.zip ds).reverse).lookup n
def tXA (n : Str) (cb : Nat → Bool) (te : PTE) : PTE := fun x e Q => te x e fun r e1 => match rv r e1 with
  | some (.exc c ns ds) => cb c = true ∧ match xlk n ns ds with
    | some d => Q (.d d) e1
    | none => False
  | _ => False
theorem PR.zip {K : PySem.W.Frag} {cl : Cl} : ∀ {ns : List Str} {ds : List D} {vs : List V}, RepL K cl κ H vs ds → PR K cl κ H (ns.zip vs) (ns.zip ds)
  | [], _, _, _ => by simp only [List.zip_nil_left]; exact .nil
  | _ :: _, [], _, h => by cases h; exact .nil
  | _ :: ns, d :: ds, _, h => by cases h with | cons h1 h2 => exact .cons h1 (PR.zip h2)
theorem PR.lookup {K : PySem.W.Frag} {cl : Cl} {n : Str} {d : D} : ∀ {ds : List (Str × D)} {vs : List (Str × V)}, PR K cl κ H vs ds → ds.lookup n = some d → ∃ v, vs.lookup n = some v ∧ Rep K cl κ H v d
  | [], _, h, e => by simp at e
  | (m, y) :: ds, _, h, e => by
    cases h with
    | @cons _ v _ _ _ h1 h2 =>
      rw [List.lookup_cons] at e ⊢
      by_cases z : (n == m) = true
      · rw [z] at e ⊢
        cases e
        exact ⟨_, rfl, h1⟩
      · rw [Bool.eq_false_iff.mpr z] at e ⊢
        exact PR.lookup h2 e
end
end Pu
set_option maxRecDepth 100000
set_option maxHeartbeats 4000000
namespace Pu
open PySem L2 PySem.Spec PyProof.Rows
/-- tables by number -/
def tbl (bs : List Bool) : Nat → Option Bool := fun c => bs[c]?
def cbl (n : Nat) : Nat → Bool := fun c => decide (c < n)
end Pu
set_option maxRecDepth 100000
set_option maxHeartbeats 4000000
namespace Pu
open PySem L2 PySem.Spec PyProof.Rows
section
variable {Γ Γ' : Gm} {κ κ' : Ka} {H H' : Hp} {env env' : En} {σ : Sl} {v : V} {st : Sto} {Y : Fam} {a b e : Expr} {es : List Expr} {ta tb te : PTE} {pos : Pos}
/-- C(e, ..) as a value -/
def tMkX (c : Nat) (ns : List Str) (t : PTA) : PTE := fun x e Q => t x e fun ds e1 => ds.length = ns.length ∧ Q (.d (.exc c ns ds)) e1
def tMk0 (c : Nat) : PTE := fun _ e Q => Q (.d (.exc c [] [])) e
def sRaise0 (c : Nat) : PTS := fun x D e => x ⟨c, []⟩ e.st
end
end Pu
set_option maxRecDepth 100000
set_option maxHeartbeats 4000000
namespace Pu
open PySem L2 PySem.Spec PyProof.Rows
section
variable {Γ Γ' : Gm} {κ κ' : Ka} {H H' : Hp} {env env' : En} {σ : Sl} {v : V} {st : Sto} {Y : Fam} {a b e : Expr} {es : List Expr} {ta tb te : PTE} {pos : Pos}
def sTry0 (n : Nat) (cb : Nat → Bool) (tb ts : PTS) : PTS := fun x D e => (e.sl.all fun c => !c.isOwn) = true ∧
  tb (fun ex st => cb ex.c = true ∧ ts noX D ⟨List.replicate n C.un, st⟩) D e
end
end Pu
set_option maxRecDepth 100000
set_option maxHeartbeats 4000000
namespace Pu
open PySem L2
theorem forR_inv {g : PTG} {tb : PTS} {x : PX} {P : PEn} (I : List D → En → Prop) (h : ∀ d r e, I (d :: r) e → ∀ N : En → Prop, (∀ e', I r e' → N e') → g d e fun e' => tb x { P with nx := N, ct := N, bk := P.nx } e') (hd : ∀ e, I [] e → P.nx e) :
    ∀ (ds : List D) (e : En), I ds e → forR g tb x P ds e
  | [], e, hi => hd e hi
  | d :: r, e, hi => h d r e hi (forR g tb x P r) fun e' hi' => forR_inv I h hd r e' hi'
/-- all related, one by one -/
inductive All2 {α β : Type} (R : α → β → Prop) : List α → List β → Prop
  | nil : All2 R [] []
  | cons {a : α} {b : β} {as : List α} {bs : List β} : R a b → All2 R as bs → All2 R (a :: as) (b :: bs)
theorem All2.length {α β : Type} {R : α → β → Prop} : ∀ {as : List α} {bs : List β}, All2 R as bs → bs.length = as.length
  | _, _, .nil => rfl
  | _, _, .cons _ h => by simp [h.length]
theorem lcR_rel {g : PTG} {te : PTE} {vs : List Nat} {e : En} {Q : List D → En → Prop} (R : D → D → Prop) :
    ∀ (ds acc : List D), (∀ d ∈ ds, ∀ K : D → En → Prop, (∀ y, R d y → K y e) → g d e fun e1 => te noX e1 fun r e3 => fz r e3 fun y e4 => K y (wipeE vs e4)) → (∀ ys, All2 R ds ys → Q (acc ++ ys) e) → lcR g cYes te vs ds acc e Q
  | [], acc, _, k => by have := k [] .nil; rw [List.append_nil] at this; exact this
  | d :: ds, acc, h, k => by
    refine h d (by simp) (fun y e' => lcR g cYes te vs ds (acc ++ [y]) e' Q) fun y r => ?_
    exact lcR_rel R ds (acc ++ [y]) (fun d' hd => h d' (List.mem_cons_of_mem _ hd)) fun ys hy => by
      have := k (y :: ys) (.cons r hy)
      rw [List.append_assoc]
      exact this
theorem lcR_map {g : PTG} {te : PTE} {vs : List Nat} {e : En} {Q : List D → En → Prop} (f : D → D) :
    ∀ (ds acc : List D), (∀ d ∈ ds, ∀ K : D → En → Prop, K (f d) e → g d e fun e1 => te noX e1 fun r e3 => fz r e3 fun y e4 => K y (wipeE vs e4)) → Q (acc ++ ds.map f) e → lcR g cYes te vs ds acc e Q
  | [], acc, _, k => by rw [List.map_nil, List.append_nil] at k; exact k
  | d :: ds, acc, h, k => by
    refine h d (by simp) (fun y e' => lcR g cYes te vs ds (acc ++ [y]) e' Q) ?_
    exact lcR_map f ds (acc ++ [f d]) (fun d' hd => h d' (List.mem_cons_of_mem _ hd)) (by rw [List.append_assoc]; exact k)
/-- with one test -/
theorem lcR_filter {g : PTG} {tt : PTT} {te : PTE} {vs : List Nat} {e : En} {Q : List D → En → Prop} (p : D → Bool) (f : D → D) :
    ∀ (ds acc : List D), (∀ d ∈ ds, ∀ K : Option D → En → Prop, K (if p d = true then some (f d) else none) e → g d e fun e1 => tt noX e1 fun b e2 => if b = true then te noX e2 fun r e3 => fz r e3 fun y e4 => K (some y) (wipeE vs e4) else K none (wipeE vs e2)) →
      Q (acc ++ (ds.filter p).map f) e → lcR g tt te vs ds acc e Q
  | [], acc, _, k => by rw [List.filter_nil, List.map_nil, List.append_nil] at k; exact k
  | d :: ds, acc, h, k => by
    refine h d (by simp) (fun o e' => match o with | some y => lcR g tt te vs ds (acc ++ [y]) e' Q | none => lcR g tt te vs ds acc e' Q) ?_
    by_cases hp : p d = true
    · rw [if_pos hp]
      refine lcR_filter p f ds (acc ++ [f d]) (fun d' hd => h d' (List.mem_cons_of_mem _ hd)) ?_
      rw [List.filter_cons_of_pos hp, List.map_cons] at k
      rw [List.append_assoc]
      exact k
    · rw [if_neg hp]
      refine lcR_filter p f ds acc (fun d' hd => h d' (List.mem_cons_of_mem _ hd)) ?_
      rw [List.filter_cons_of_neg hp] at k
      exact k
theorem rngI_length (lo : Int) (n : Nat) : (rngI lo n).length = n := by unfold rngI; simp
theorem rngI_mem {lo : Int} {n : Nat} {d : D} (h : d ∈ rngI lo n) : ∃ i : Nat, i < n ∧ d = .int (lo + i) := by
  unfold rngI at h
  obtain ⟨i, hi, rfl⟩ := List.mem_map.mp h
  exact ⟨i, List.mem_range.mp hi, rfl⟩
theorem rngI_succ (lo : Int) (n : Nat) : rngI lo (n + 1) = .int lo :: rngI (lo + 1) n := by
  unfold rngI
  rw [List.range_succ_eq_map, List.map_cons, List.map_map]
  congr 1
  · simp
  · apply List.map_congr_left
    intro i _
    simp only [Function.comp, D.int.injEq]
    omega
theorem line_eq : (sizeLine : Nat) = 16777216 := sizeLine_eq
theorem strL_map (r : List (List Nat)) : strL (r.map D.str) = some r := by
  induction r with
  | nil => rfl
  | cons x r ih => simp only [List.map_cons, strL, ih]
theorem joinN_nil (r : List (List Nat)) : joinN [] r = r.flatten := by
  induction r with
  | nil => rfl
  | cons x r ih =>
    cases r with
    | nil => simp [joinN]
    | cons y r => simp only [joinN, List.nil_append, ih, List.flatten_cons]
theorem joinN_signs (w : List Nat) : joinN [] (w.map fun c => [c]) = w := by
  rw [joinN_nil]
  induction w with
  | nil => rfl
  | cons c w ih => simp [ih]
theorem okL_map {f : α → D} {n : Nat} {xs : List α} (h : ∀ x ∈ xs, (f x).ok n = true) : D.okL (xs.map f) n = true := by
  induction xs with
  | nil => rfl
  | cons x xs ih =>
    simp only [List.map_cons, D.okL]
    rw [h x (by simp), ih fun y hy => h y (List.mem_cons_of_mem _ hy)]
    rfl
end Pu
set_option maxRecDepth 100000
set_option maxHeartbeats 4000000
namespace Pu
open PySem L2 PySem.Spec PyProof.Rows
/-- the law's promise, at its script -/
def spLaw (K : PySem.W.Frag) : Sp := fun vs H Q _ => ∃ (a : Addr) (ns : List Int), vs = [.ref a] ∧ SqL K H a (ns.map V.int) ∧ ns.length ≤ 63 ∧ ∀ H', Q (.bl true) H'
theorem nofrz {k : Kd} {p : Prop} (e : k = .frz) (h : k ≠ .frz := by intro z; cases z) : p := absurd e h
theorem gh_start {K : PySem.W.Frag} {H : Hp} {κ : Ka} {cls : Cl} {flds : Nat → List Str} {E : XK} {x : PX} (h : ∀ a k, κ a = some k → k = .frz ∧ H a ≠ none) : Gh ⟨K, H, κ, cls, flds, E, x⟩ κ [] H :=
  ⟨fun _ _ e => e, fun _ _ e => .inl e, fun a k e => (h a k e).2, fun _ e => e, fun a e => nofrz (h a _ e).1, fun a k e => nofrz (h a _ e).1, fun a b k e _ => nofrz (h a _ e).1, fun a o e _ => e⟩
theorem script_rep {K : PySem.W.Frag} {H : Hp} {a : Addr} {ns : List Int} {cls : Cl} (h : SqL K H a (ns.map V.int)) (hl : ns.length ≤ 63) : ∃ κ : Ka, (∀ a k, κ a = some k → k = .frz ∧ H a ≠ none) ∧ Rep K cls κ H (.ref a) (.scr ns.length) := by
  rcases h with h | h
  · refine ⟨fun b => if b = a then some .frz else none, fun b k e => ?_, .scr (.inl ⟨if_pos rfl, h⟩) rfl hl⟩
    have e : (if b = a then some Kd.frz else none) = some k := e
    by_cases hb : b = a
    · rw [if_pos hb] at e
      cases e
      subst hb
      refine ⟨rfl, fun z => ?_⟩
      rcases h with h | ⟨o, h⟩
      · rw [h] at z; cases z
      · rw [h] at z; cases z
    · rw [if_neg hb] at e; cases e
  · exact ⟨fun _ => none, fun a k e => (by cases e), .scr (.inr h) rfl hl⟩
theorem walk {l : PySem.W.OpenLaw} {q : Program} {loose : List Str} {XP : (Str → Option Value) → Heap → Prop} {YP : World → Heap → Prop} {d : DefRec} {K : Params → PySem.W.Frag} {k : Nat} (hr : Room k callerA) (hn : l.most = some 63) (hdf : d.params.defaults = [])
    (hY : ∀ (w : World) (h : Heap), YP w h → (K w.params).In h)
    (F : ∀ (w : World) (mg : Str → Option Value) (fa : Addr) (h : Heap), (K w.params).In h → h.Ns mainGlobals mg → mg d.name = some (.ref fa) →
      ∃ fd : FuncData, (∀ (s : Shared) (u : Value), BindsTo s fd ⟨[u], []⟩ [("_law_script", u)]) ∧ ∀ base : Heap, (K w.params).In base → base.Ns mainGlobals mg → FnG l.prog w (K w.params) mg base CX0 k fa fd ["_law_script"] (spLaw (K w.params))) :
    PySem.W.WalkO q loose XP YP l.row.toRowW d [] (fun f vs => PySem.call f vs) :=
  walkG (sp := spLaw) hr hn hdf hY F fun _ _ a ns hl hS => ⟨a, ns, rfl, hS, hl, fun _ => rfl⟩
end Pu
set_option maxRecDepth 100000
set_option maxHeartbeats 4000000
namespace Pu
open PySem L2
/-- what rewriting shall not enter -/
def Tg {β : Type} (_ : β) : Type := Unit
structure HB (β : Type) : Type where
  b : β
  h : Tg b := ()
def opt {α : Type} (o : Option α) (h : HB (α → Prop)) : Prop := match o with
  | some a => h.b a
  | none => False
theorem opt_some {α : Type} (a : α) (f : α → Prop) : opt (some a) (HB.mk f ()) = f a := rfl
theorem opt_of {α : Type} {o : Option α} {a : α} {f : α → Prop} (h : o = some a) (q : f a) : opt o (HB.mk f ()) := by rw [h]; exact q
def br (b : Bool) (h : HB (Prop × Prop)) : Prop := if b = true then h.b.1 else h.b.2
theorem br_true (p q : Prop) : br true (HB.mk (p, q) ()) = p := rfl
theorem br_false (p q : Prop) : br false (HB.mk (p, q) ()) = q := rfl
theorem br_intro {b : Bool} {p q : Prop} (h1 : b = true → p) (h2 : b = false → q) : br b (HB.mk (p, q) ()) := by
  cases b
  · exact h2 rfl
  · exact h1 rfl
theorem br_pos {b : Bool} {p q : Prop} (h : b = true) (h1 : p) : br b (HB.mk (p, q) ()) := by rw [h]; exact h1
theorem br_neg {b : Bool} {p q : Prop} (h : b = false) (h1 : q) : br b (HB.mk (p, q) ()) := by rw [h]; exact h1
def nameC (c : C) (h : HB (Nat × En × (R → En → Prop))) : Prop := match c with
  | .un => False
  | .d d => h.b.2.2 (.d d) h.b.2.1
  | _ => h.b.2.2 (.nam h.b.1) h.b.2.1
theorem nameC_d {d i e Q} : nameC (.d d) (HB.mk (i, e, Q) ()) = Q (.d d) e := rfl
theorem nameC_own {d i e Q} : nameC (.own d) (HB.mk (i, e, Q) ()) = Q (.nam i) e := rfl
theorem nameC_dK {d i e Q} : nameC (.dK d) (HB.mk (i, e, Q) ()) = Q (.nam i) e := rfl
theorem nameC_dT {d i e Q} : nameC (.dT d) (HB.mk (i, e, Q) ()) = Q (.nam i) e := rfl
theorem x_name {i x e Q} : tName i x e Q = (opt e.sl[i]? <| HB.mk (fun c => nameC c (HB.mk (i, e, Q) ())) ()) := by
  unfold tName opt
  cases e.sl[i]? with
  | none => rfl
  | some c => cases c <;> rfl
def fzC (c : C) (h : HB (Nat × En × (D → En → Prop))) : Prop := match c with
  | .d d => h.b.2.2 d h.b.2.1
  | .own ds => h.b.2.2 (.lst ds) (h.b.2.1.setC h.b.1 (.d (.lst ds)))
  | .dK kvs => h.b.2.2 (.dck (kvs.map Prod.fst) (kvs.map Prod.snd)) (h.b.2.1.setC h.b.1 (.d (.dck (kvs.map Prod.fst) (kvs.map Prod.snd))))
  | .dT kvs => h.b.2.2 (.dct (kvs.map Prod.fst) (kvs.map Prod.snd)) (h.b.2.1.setC h.b.1 (.d (.dct (kvs.map Prod.fst) (kvs.map Prod.snd))))
  | _ => False
theorem fzC_d {d i e Q} : fzC (.d d) (HB.mk (i, e, Q) ()) = Q d e := rfl
theorem fzC_own {d i e Q} : fzC (.own d) (HB.mk (i, e, Q) ()) = Q (.lst d) (e.setC i (.d (.lst d))) := rfl
theorem fzC_dK {kvs i e Q} : fzC (.dK kvs) (HB.mk (i, e, Q) ()) = Q (.dck (kvs.map Prod.fst) (kvs.map Prod.snd)) (e.setC i (.d (.dck (kvs.map Prod.fst) (kvs.map Prod.snd)))) := rfl
theorem fzC_dT {kvs i e Q} : fzC (.dT kvs) (HB.mk (i, e, Q) ()) = Q (.dct (kvs.map Prod.fst) (kvs.map Prod.snd)) (e.setC i (.d (.dct (kvs.map Prod.fst) (kvs.map Prod.snd)))) := rfl
theorem x_fzn {i e Q} : fz (.nam i) e Q = (opt e.sl[i]? <| HB.mk (fun c => fzC c (HB.mk (i, e, Q) ())) ()) := by
  show (match e.sl[i]? with | some (.d d) => Q d e | some (.own ds) => Q (.lst ds) (e.setC i (.d (.lst ds))) | some (.dK kvs) => Q (.dck (kvs.map Prod.fst) (kvs.map Prod.snd)) (e.setC i (.d (.dck (kvs.map Prod.fst) (kvs.map Prod.snd)))) | some (.dT kvs) => Q (.dct (kvs.map Prod.fst) (kvs.map Prod.snd)) (e.setC i (.d (.dct (kvs.map Prod.fst) (kvs.map Prod.snd)))) | _ => False) = _
  unfold opt
  cases e.sl[i]? with
  | none => rfl
  | some c => cases c <;> rfl
theorem x_fzK {kvs e Q} : fz (.dK kvs) e Q = Q (.dck (kvs.map Prod.fst) (kvs.map Prod.snd)) e := rfl
theorem x_fzT {kvs e Q} : fz (.dT kvs) e Q = Q (.dct (kvs.map Prod.fst) (kvs.map Prod.snd)) e := rfl
theorem x_fzd {d e Q} : fz (.d d) e Q = Q d e := rfl
theorem x_fzo {d e Q} : fz (.own d) e Q = Q (.lst d) e := rfl
def rvC : Option C → Option D
  | some (.d d) => some d
  | some (.own ds) => some (.lst ds)
  | _ => none
theorem rvC_d {d} : rvC (some (.d d)) = some d := rfl
theorem rvC_own {d} : rvC (some (.own d)) = some (.lst d) := rfl
theorem x_rvn {i e} : rv (.nam i) e = rvC e.sl[i]? := by
  show (match e.sl[i]? with | some (.d d) => some d | some (.own ds) => some (.lst ds) | _ => none) = _
  unfold rvC
  cases e.sl[i]? with
  | none => rfl
  | some c => cases c <;> rfl
theorem x_rvd {d e} : rv (.d d) e = some d := rfl
theorem x_rvo {d e} : rv (.own d) e = some (.lst d) := rfl
def retC (c : C) (h : HB (PEn × En)) : Prop := match c with
  | .un => False
  | c => h.b.1.rt c h.b.2
theorem retC_d {D d e} : retC (.d d) (HB.mk (D, e) ()) = D.rt (.d d) e := rfl
theorem retC_own {D d e} : retC (.own d) (HB.mk (D, e) ()) = D.rt (.own d) e := rfl
theorem x_retn {D i e} : retR D (.nam i) e = (opt e.sl[i]? <| HB.mk (fun c => retC c (HB.mk (D, e) ())) ()) := by
  unfold retR opt
  simp only
  cases e.sl[i]? with
  | none => rfl
  | some c => cases c <;> rfl
theorem x_retd {D d e} : retR D (.d d) e = D.rt (.d d) e := rfl
theorem x_reto {D d e} : retR D (.own d) e = D.rt (.own d) e := rfl
theorem x_hd {d e Q} : hold (.d d) e Q = Q (.d d) e := rfl
theorem x_ho {d e Q} : hold (.own d) e Q = Q (.d (.lst d)) e := rfl
theorem x_hn {i e Q} : hold (.nam i) e Q = Q (.nam i) e := rfl
theorem x_ad {i d e Q} : asgR i (.d d) e Q = Q (e.setC i (.d d)) := rfl
theorem x_ao {i d e Q} : asgR i (.own d) e Q = Q (e.setC i (.own d)) := rfl
theorem x_an {i j e Q} : asgR i (.nam j) e Q = fz (.nam j) e fun d e1 => Q (e1.setC i (.d d)) := rfl
theorem x_set {l s i c} : En.setC ⟨l, s⟩ i c = ⟨l.set i c, s⟩ := rfl
/-- statements -/
theorem x_seq {t u x D e} : sSeq t u x D e = t x { D with nx := u x D } e := rfl
theorem x_next {x D e} : sNext x D e = D.nx e := rfl
theorem x_break {x D e} : sBreak x D e = D.bk e := rfl
theorem x_cont {x D e} : sCont x D e = D.ct e := rfl
theorem x_drop {t x D e} : sDrop t x D e = t x e fun _ e1 => D.nx e1 := rfl
theorem x_ret {t x D e} : sRet t x D e = t x e fun r e1 => retR D r e1 := rfl
theorem x_retN {x D e} : sRetN x D e = D.rt (.d .non) e := rfl
theorem x_if {c t u x D e} : sIf c t u x D e = c x e fun b e1 => br b (HB.mk ((t x D e1), (u x D e1)) ()) := rfl
theorem x_asg {i t x D e} : sAsg i t x D e = t x e fun r e1 => i < e1.sl.length ∧ asgR i r e1 D.nx := rfl
theorem x_asgG {g t x D e} : sAsgG g t x D e = t x e fun r e1 => fz r e1 fun d e2 => g d e2 D.nx := rfl
def forH (ds : List D) (e : En) (h : HB (PTG × PTS × PX × PEn)) : Prop := forR h.b.1 h.b.2.1 h.b.2.2.1 h.b.2.2.2 ds e
def whH (e : En) (h : HB (PTT × PTS × PX × PEn)) : Prop := sWhile h.b.1 h.b.2.1 h.b.2.2.1 h.b.2.2.2 e
theorem x_while {c tb x P e} : sWhile c tb x P e = whH e (HB.mk (c, tb, x, P) ()) := rfl
def lcH (ds : List D) (e : En) (h : HB (PTG × PTT × PTE × List Nat × (List D → En → Prop))) : Prop := lcR h.b.1 h.b.2.1 h.b.2.2.1 h.b.2.2.2.1 ds [] e h.b.2.2.2.2
theorem x_for {ti g tb x D e} : sFor ti g tb x D e = ti x e fun items e1 => forH items e1 (HB.mk (g, tb, x, D) ()) := rfl
/-- expressions -/
def k2c (o1 o2 : Option D) (e : En) (h : HB ((D → D → (R → Prop) → Prop) × (R → En → Prop))) : Prop := match o1, o2 with
  | some a, some b => h.b.1 a b fun r => h.b.2 r e
  | _, _ => False
def k2b (r1 r2 : R) (e : En) (h : HB ((D → D → (R → Prop) → Prop) × (R → En → Prop))) : Prop := k2c (rv r1 e) (rv r2 e) e h
def k2a (r : R) (e : En) (h : HB (PTE × PX × (D → D → (R → Prop) → Prop) × (R → En → Prop))) : Prop := hold r e fun r e => h.b.1 h.b.2.1 e fun r2 e2 => k2b r r2 e2 (HB.mk h.b.2.2 ())
theorem x_2 {ta tb p x e Q} : t2 ta tb p x e Q = ta x e fun r1 e1 => k2a r1 e1 (HB.mk (tb, x, p, Q) ()) := by
  unfold t2 k2a k2b k2c
  rfl
theorem x_k2ad {d tb p x e Q} : k2a (.d d) e (HB.mk (tb, x, p, Q) ()) = tb x e fun r2 e2 => k2b (.d d) r2 e2 (HB.mk (p, Q) ()) := rfl
theorem x_k2ao {d tb p x e Q} : k2a (.own d) e (HB.mk (tb, x, p, Q) ()) = tb x e fun r2 e2 => k2b (.d (.lst d)) r2 e2 (HB.mk (p, Q) ()) := rfl
theorem x_k2an {i tb p x e Q} : k2a (.nam i) e (HB.mk (tb, x, p, Q) ()) = tb x e fun r2 e2 => k2b (.nam i) r2 e2 (HB.mk (p, Q) ()) := rfl
theorem x_k2b {r1 r2 e h} : k2b r1 r2 e h = k2c (rv r1 e) (rv r2 e) e h := rfl
theorem x_k2c {a b e p Q} : k2c (some a) (some b) e (HB.mk (p, Q) ()) = p a b fun r => Q r e := rfl
def k1c (o : Option D) (e : En) (h : HB ((D → (R → Prop) → Prop) × (R → En → Prop))) : Prop := match o with
  | some a => h.b.1 a fun r => h.b.2 r e
  | _ => False
theorem x_1 {ta p x e Q} : t1 ta p x e Q = ta x e fun r1 e1 => k1c (rv r1 e1) e1 (HB.mk (p, Q) ()) := by
  unfold t1 k1c
  rfl
theorem x_k1c {a e p Q} : k1c (some a) e (HB.mk (p, Q) ()) = p a fun r => Q r e := rfl
theorem x_D {d x e Q} : tD d x e Q = Q (.d d) e := rfl
def bC (d : D) (h : HB (Bool → Prop)) : Prop := match d with
  | .bl b => h.b b
  | _ => False
theorem bC_b {b f} : bC (.bl b) (HB.mk f ()) = f b := rfl
def kBc (o : Option D) (e : En) (h : HB (Bool → En → Prop)) : Prop := match o with
  | some (.bl b) => h.b b e
  | _ => False
theorem x_B {t x e Q} : tB t x e Q = t x e fun r e1 => kBc (rv r e1) e1 (HB.mk Q ()) := by
  unfold tB kBc
  rfl
theorem x_kBc {b e Q} : kBc (some (.bl b)) e (HB.mk Q ()) = Q b e := rfl
def kAn (c : Bool) (e : En) (h : HB (PTT × PX × (Bool → En → Prop))) : Prop := br c (HB.mk ((h.b.1 h.b.2.1 e h.b.2.2), (h.b.2.2 false e)) ())
theorem x_and {t u x e Q} : tAnd t u x e Q = t x e fun c e1 => kAn c e1 (HB.mk (u, x, Q) ()) := rfl
theorem x_kAn {c u x e Q} : kAn c e (HB.mk (u, x, Q) ()) = br c (HB.mk ((u x e Q), (Q false e)) ()) := rfl
def kOr (c : Bool) (e : En) (h : HB (PTT × PX × (Bool → En → Prop))) : Prop := br c (HB.mk ((h.b.2.2 true e), (h.b.1 h.b.2.1 e h.b.2.2)) ())
theorem x_or {t u x e Q} : tOr t u x e Q = t x e fun c e1 => kOr c e1 (HB.mk (u, x, Q) ()) := rfl
theorem x_kOr {c u x e Q} : kOr c e (HB.mk (u, x, Q) ()) = br c (HB.mk ((Q true e), (u x e Q)) ()) := rfl
def kNo (c : Bool) (e : En) (h : HB (Bool → En → Prop)) : Prop := h.b (!c) e
theorem x_not {t x e Q} : tNot t x e Q = t x e fun c e1 => kNo c e1 (HB.mk Q ()) := rfl
theorem x_kNo {c e Q} : kNo c e (HB.mk Q ()) = Q (!c) e := rfl
def kAV (o : Option D) (e : En) (h : HB (PTE × PX × (R → En → Prop))) : Prop := match o with
  | some (.bl c) => br c (HB.mk ((h.b.1 h.b.2.1 e h.b.2.2), (h.b.2.2 (.d (.bl false)) e)) ())
  | _ => False
theorem x_andV {ta tb x e Q} : tAndV ta tb x e Q = ta x e fun r e1 => kAV (rv r e1) e1 (HB.mk (tb, x, Q) ()) := by
  unfold tAndV kAV br
  rfl
theorem x_kAV {c tb x e Q} : kAV (some (.bl c)) e (HB.mk (tb, x, Q) ()) = br c (HB.mk ((tb x e Q), (Q (.d (.bl false)) e)) ()) := rfl
def kOV (o : Option D) (e : En) (h : HB (PTE × PX × (R → En → Prop))) : Prop := match o with
  | some (.bl c) => br c (HB.mk ((h.b.2.2 (.d (.bl true)) e), (h.b.1 h.b.2.1 e h.b.2.2)) ())
  | _ => False
theorem x_orV {ta tb x e Q} : tOrV ta tb x e Q = ta x e fun r e1 => kOV (rv r e1) e1 (HB.mk (tb, x, Q) ()) := by
  unfold tOrV kOV br
  rfl
theorem x_kOV {c tb x e Q} : kOV (some (.bl c)) e (HB.mk (tb, x, Q) ()) = br c (HB.mk ((Q (.d (.bl true)) e), (tb x e Q)) ()) := rfl
def kNV (o : Option D) (e : En) (h : HB (R → En → Prop)) : Prop := match o with
  | some (.bl c) => h.b (.d (.bl (!c))) e
  | _ => False
theorem x_notV {ta x e Q} : tNotV ta x e Q = ta x e fun r e1 => kNV (rv r e1) e1 (HB.mk Q ()) := by
  unfold tNotV kNV
  rfl
theorem x_kNV {c e Q} : kNV (some (.bl c)) e (HB.mk Q ()) = Q (.d (.bl (!c))) e := rfl
theorem x_tif {t ta tb x e Q} : tIf t ta tb x e Q = t x e fun c e1 => br c (HB.mk ((ta x e1 Q), (tb x e1 Q)) ()) := rfl
theorem x_nil {x e Q} : tNil x e Q = Q [] e := rfl
def kC2 (d : D) (ds : List D) (e : En) (h : HB (List D → En → Prop)) : Prop := h.b (d :: ds) e
theorem x_kC2 {d ds e Q} : kC2 d ds e (HB.mk Q ()) = Q (d :: ds) e := rfl
def kC1 (r : R) (e : En) (h : HB (PTA × PX × (List D → En → Prop))) : Prop := fz r e fun d e2 => h.b.1 h.b.2.1 e2 fun ds e3 => kC2 d ds e3 (HB.mk h.b.2.2 ())
def kC3 (c : Option C) (i : Nat) (e : En) (h : HB (PTA × PX × (List D → En → Prop))) : Prop := match c with
  | some (.d d) => h.b.1 h.b.2.1 e fun ds e3 => kC2 d ds e3 (HB.mk h.b.2.2 ())
  | some (.own d) => h.b.1 h.b.2.1 (e.setC i (.d (.lst d))) fun ds e3 => kC2 (.lst d) ds e3 (HB.mk h.b.2.2 ())
  | some (.dK kvs) => h.b.1 h.b.2.1 (e.setC i (.d (.dck (kvs.map Prod.fst) (kvs.map Prod.snd)))) fun ds e3 => kC2 (.dck (kvs.map Prod.fst) (kvs.map Prod.snd)) ds e3 (HB.mk h.b.2.2 ())
  | some (.dT kvs) => h.b.1 h.b.2.1 (e.setC i (.d (.dct (kvs.map Prod.fst) (kvs.map Prod.snd)))) fun ds e3 => kC2 (.dct (kvs.map Prod.fst) (kvs.map Prod.snd)) ds e3 (HB.mk h.b.2.2 ())
  | _ => False
theorem x_cons {ta tr x e Q} : tCons ta tr x e Q = ta x e fun r e1 => kC1 r e1 (HB.mk (tr, x, Q) ()) := rfl
theorem x_kC1d {d tr x e Q} : kC1 (.d d) e (HB.mk (tr, x, Q) ()) = tr x e fun ds e3 => kC2 d ds e3 (HB.mk Q ()) := rfl
theorem x_kC1o {d tr x e Q} : kC1 (.own d) e (HB.mk (tr, x, Q) ()) = tr x e fun ds e3 => kC2 (.lst d) ds e3 (HB.mk Q ()) := rfl
theorem x_kC1k {kvs tr x e Q} : kC1 (.dK kvs) e (HB.mk (tr, x, Q) ()) = tr x e fun ds e3 => kC2 (.dck (kvs.map Prod.fst) (kvs.map Prod.snd)) ds e3 (HB.mk Q ()) := rfl
theorem x_kC1t {kvs tr x e Q} : kC1 (.dT kvs) e (HB.mk (tr, x, Q) ()) = tr x e fun ds e3 => kC2 (.dct (kvs.map Prod.fst) (kvs.map Prod.snd)) ds e3 (HB.mk Q ()) := rfl
theorem x_kC1n {i tr x e Q} : kC1 (.nam i) e (HB.mk (tr, x, Q) ()) = kC3 e.sl[i]? i e (HB.mk (tr, x, Q) ()) := by
  unfold kC1 kC3
  rw [x_fzn]
  unfold opt fzC
  cases e.sl[i]? with
  | none => rfl
  | some c => cases c <;> rfl
theorem x_kC3d {i d tr x e Q} : kC3 (some (.d d)) i e (HB.mk (tr, x, Q) ()) = tr x e fun ds e3 => kC2 d ds e3 (HB.mk Q ()) := rfl
theorem x_kC3o {i d tr x e Q} : kC3 (some (.own d)) i e (HB.mk (tr, x, Q) ()) = tr x (e.setC i (.d (.lst d))) fun ds e3 => kC2 (.lst d) ds e3 (HB.mk Q ()) := rfl
theorem x_kC3k {i kvs tr x e Q} : kC3 (some (.dK kvs)) i e (HB.mk (tr, x, Q) ()) = tr x (e.setC i (.d (.dck (kvs.map Prod.fst) (kvs.map Prod.snd)))) fun ds e3 => kC2 (.dck (kvs.map Prod.fst) (kvs.map Prod.snd)) ds e3 (HB.mk Q ()) := rfl
theorem x_kC3t {i kvs tr x e Q} : kC3 (some (.dT kvs)) i e (HB.mk (tr, x, Q) ()) = tr x (e.setC i (.d (.dct (kvs.map Prod.fst) (kvs.map Prod.snd)))) fun ds e3 => kC2 (.dct (kvs.map Prod.fst) (kvs.map Prod.snd)) ds e3 (HB.mk Q ()) := rfl
def kTu (ds : List D) (e : En) (h : HB (R → En → Prop)) : Prop := ds.length ≤ sizeLine ∧ h.b (.d (.tup ds)) e
theorem x_tup {t x e Q} : tTup t x e Q = t x e fun ds e1 => kTu ds e1 (HB.mk Q ()) := rfl
theorem x_kTu {ds e Q} : kTu ds e (HB.mk Q ()) = (ds.length ≤ sizeLine ∧ Q (.d (.tup ds)) e) := rfl
def kLs (ds : List D) (e : En) (h : HB (R → En → Prop)) : Prop := ds.length ≤ sizeLine ∧ h.b (.own ds) e
theorem x_lst {t x e Q} : tLst t x e Q = t x e fun ds e1 => kLs ds e1 (HB.mk Q ()) := rfl
theorem x_kLs {ds e Q} : kLs ds e (HB.mk Q ()) = (ds.length ≤ sizeLine ∧ Q (.own ds) e) := rfl
theorem x_rnil {x e Q} : rNil x e Q = Q [] e := rfl
def kR2 (r : R) (rs : List R) (e : En) (h : HB (List R → En → Prop)) : Prop := h.b (r :: rs) e
theorem x_kR2 {r rs e Q} : kR2 r rs e (HB.mk Q ()) = Q (r :: rs) e := rfl
def kR1 (r : R) (e : En) (h : HB (PTR × PX × (List R → En → Prop))) : Prop := hold r e fun r e2 => h.b.1 h.b.2.1 e2 fun rs e3 => kR2 r rs e3 (HB.mk h.b.2.2 ())
theorem x_rcons {ta tr x e Q} : rCons ta tr x e Q = ta x e fun r e1 => kR1 r e1 (HB.mk (tr, x, Q) ()) := rfl
theorem x_kR1d {d tr x e Q} : kR1 (.d d) e (HB.mk (tr, x, Q) ()) = tr x e fun rs e3 => kR2 (.d d) rs e3 (HB.mk Q ()) := rfl
theorem x_kR1o {d tr x e Q} : kR1 (.own d) e (HB.mk (tr, x, Q) ()) = tr x e fun rs e3 => kR2 (.d (.lst d)) rs e3 (HB.mk Q ()) := rfl
theorem x_kR1n {i tr x e Q} : kR1 (.nam i) e (HB.mk (tr, x, Q) ()) = tr x e fun rs e3 => kR2 (.nam i) rs e3 (HB.mk Q ()) := rfl
def kCP (o : Option (List D)) (e : En) (h : HB ((List D → (R → Prop) → Prop) × (R → En → Prop))) : Prop := match o with
  | some ds => h.b.1 ds fun r => h.b.2 r e
  | _ => False
theorem x_callP {p t x e Q} : tCallP p t x e Q = t x e fun rs e1 => kCP (rvL rs e1) e1 (HB.mk (p, Q) ()) := by
  unfold tCallP kCP
  congr 1; funext rs e1
  cases rvL rs e1 <;> rfl
theorem x_kCP {ds e p Q} : kCP (some ds) e (HB.mk (p, Q) ()) = p ds fun r => Q r e := rfl
def consO : Option D → Option (List D) → Option (List D)
  | some a, some l => some (a :: l)
  | _, _ => none
theorem consO_s {a l} : consO (some a) (some l) = some (a :: l) := rfl
theorem x_rvLc {r rs e} : rvL (r :: rs) e = consO (rv r e) (rvL rs e) := by
  simp only [rvL]
  cases rv r e <;> cases rvL rs e <;> rfl
theorem x_rvLn {e} : rvL [] e = some [] := rfl
def kM3 (o : Option D) (os : Option (List D)) (e : En) (h : HB ((D → List D → (R → Prop) → Prop) × (R → En → Prop))) : Prop := match o, os with
  | some d, some ds => h.b.1 d ds fun r => h.b.2 r e
  | _, _ => False
def kM2 (r : R) (rs : List R) (e : En) (h : HB ((D → List D → (R → Prop) → Prop) × (R → En → Prop))) : Prop := kM3 (rv r e) (rvL rs e) e h
def kM1 (o : Option D) (r : R) (e : En) (h : HB (String × PTR × PX × (D → List D → (R → Prop) → Prop) × (R → En → Prop))) : Prop := match o with
  | some d => D.isTy h.b.1 d ∧ h.b.2.1 h.b.2.2.1 e fun rs e2 => kM2 r rs e2 (HB.mk h.b.2.2.2 ())
  | _ => False
def kM0 (r : R) (e : En) (h : HB (String × PTR × PX × (D → List D → (R → Prop) → Prop) × (R → En → Prop))) : Prop := hold r e fun r e => kM1 (rv r e) r e h
theorem x_meth {T p to t x e Q} : tMeth T p to t x e Q = to x e fun r e1 => kM0 r e1 (HB.mk (T, t, x, p, Q) ()) := by
  unfold tMeth kM0 kM1 kM2 kM3
  congr 1; funext r e1; congr 1; funext r e1
  cases rv r e1 with
  | none => simp
  | some d =>
    rfl
theorem x_kM0d {d e h} : kM0 (.d d) e h = kM1 (some d) (.d d) e h := rfl
theorem x_kM0o {d e h} : kM0 (.own d) e h = kM1 (some (.lst d)) (.d (.lst d)) e h := rfl
theorem x_kM0n {i e h} : kM0 (.nam i) e h = kM1 (rv (.nam i) e) (.nam i) e h := rfl
theorem x_kM1 {d r e T t x p Q} : kM1 (some d) r e (HB.mk (T, t, x, p, Q) ()) = (D.isTy T d ∧ t x e fun rs e2 => kM2 r rs e2 (HB.mk (p, Q) ())) := rfl
theorem x_kM2 {r rs e h} : kM2 r rs e h = kM3 (rv r e) (rvL rs e) e h := rfl
theorem x_kM3 {d ds e p Q} : kM3 (some d) (some ds) e (HB.mk (p, Q) ()) = p d ds fun r => Q r e := rfl
theorem x_meth0 {T p to x e Q} : tMeth0 T p to x e Q = to x e fun r e1 => opt (rv r e1) <| HB.mk (fun d => D.isTy T d ∧ p d [] fun r => Q r e1) () := by
  unfold tMeth0 opt
  congr 1; funext r e1
  cases rv r e1 <;> rfl
theorem isTy_s {l} : D.isTy "str" (.str l) = True := by simp [D.isTy]
theorem isTy_l {l} : D.isTy "list" (.lst l) = True := by simp [D.isTy]
def kU3 (o : Option (List D)) (r : R) (ds : List D) (e : En) (h : HB (PMu × (R → En → Prop))) : Prop := match o with
  | some l => h.b.1 l ds fun ds' y => h.b.2 (.d y) (mset r e ds')
  | _ => False
def kU2 (r : R) (ds : List D) (e : En) (h : HB (PMu × (R → En → Prop))) : Prop := kU3 (mget r e) r ds e h
def kU1 (r : R) (e : En) (h : HB (PMu × PTA × PX × (R → En → Prop))) : Prop := hold r e fun r e => (mget r e).isSome = true ∧ h.b.2.1 h.b.2.2.1 e fun as e2 => kU2 r as e2 (HB.mk (h.b.1, h.b.2.2.2) ())
theorem x_mut {p to t x e Q} : tMut p to t x e Q = to x e fun r e1 => kU1 r e1 (HB.mk (p, t, x, Q) ()) := by
  unfold tMut kU1 kU2 kU3
  congr 1; funext r e1; congr 1; funext r e1; congr 2; funext as e2
  cases mget r e2 <;> rfl
theorem x_kU1n {i e p t x Q} : kU1 (.nam i) e (HB.mk (p, t, x, Q) ()) = ((mget (.nam i) e).isSome = true ∧ t x e fun as e2 => kU2 (.nam i) as e2 (HB.mk (p, Q) ())) := rfl
theorem x_kU1d {d e p t x Q} : kU1 (.d d) e (HB.mk (p, t, x, Q) ()) = ((mget (.d d) e).isSome = true ∧ t x e fun as e2 => kU2 (.d d) as e2 (HB.mk (p, Q) ())) := rfl
theorem x_kU2 {r ds e h} : kU2 r ds e h = kU3 (mget r e) r ds e h := rfl
theorem x_kU3 {l r ds e p Q} : kU3 (some l) r ds e (HB.mk (p, Q) ()) = p l ds fun ds' y => Q (.d y) (mset r e ds') := rfl
def mgC : Option C → Option (List D)
  | some (.own ds) => some ds
  | _ => none
theorem mgC_own {ds} : mgC (some (.own ds)) = some ds := rfl
theorem x_mg {i e} : mget (.nam i) e = mgC e.sl[i]? := by
  show (match e.sl[i]? with | some (.own ds) => some ds | _ => none) = _
  unfold mgC
  cases e.sl[i]? with
  | none => rfl
  | some c => cases c <;> rfl
theorem x_ms {i e ds} : mset (.nam i) e ds = e.setC i (.own ds) := rfl
def kS3 (o : Option D) (lo hi : Option Int) (e : En) (h : HB (R → En → Prop)) : Prop := match o with
  | some d => pSl d lo hi fun r => h.b r e
  | _ => False
def kS2 (r : R) (lo hi : Option Int) (e : En) (h : HB (R → En → Prop)) : Prop := kS3 (rv r e) lo hi e h
def kS1 (r : R) (lo : Option Int) (e : En) (h : HB (PTO × PX × (R → En → Prop))) : Prop := h.b.1 h.b.2.1 e fun hi e3 => kS2 r lo hi e3 (HB.mk h.b.2.2 ())
def kS0 (r : R) (e : En) (h : HB (PTO × PTO × PX × (R → En → Prop))) : Prop := hold r e fun r e => h.b.1 h.b.2.2.1 e fun lo e2 => kS1 r lo e2 (HB.mk h.b.2 ())
theorem x_sl {te tl th x e Q} : tSl te tl th x e Q = te x e fun r e1 => kS0 r e1 (HB.mk (tl, th, x, Q) ()) := by
  unfold tSl kS0 kS1 kS2 kS3
  congr 1; funext r e1; congr 1; funext r e1; congr 1; funext lo e2; congr 1; funext hi e3
  cases rv r e3 <;> rfl
theorem x_kS0d {d e tl th x Q} : kS0 (.d d) e (HB.mk (tl, th, x, Q) ()) = tl x e fun lo e2 => kS1 (.d d) lo e2 (HB.mk (th, x, Q) ()) := rfl
theorem x_kS0o {d e tl th x Q} : kS0 (.own d) e (HB.mk (tl, th, x, Q) ()) = tl x e fun lo e2 => kS1 (.d (.lst d)) lo e2 (HB.mk (th, x, Q) ()) := rfl
theorem x_kS0n {i e tl th x Q} : kS0 (.nam i) e (HB.mk (tl, th, x, Q) ()) = tl x e fun lo e2 => kS1 (.nam i) lo e2 (HB.mk (th, x, Q) ()) := rfl
theorem x_kS1 {r lo e th x Q} : kS1 r lo e (HB.mk (th, x, Q) ()) = th x e fun hi e3 => kS2 r lo hi e3 (HB.mk Q ()) := rfl
theorem x_kS2 {r lo hi e h} : kS2 r lo hi e h = kS3 (rv r e) lo hi e h := rfl
theorem x_kS3 {d lo hi e Q} : kS3 (some d) lo hi e (HB.mk Q ()) = pSl d lo hi fun r => Q r e := rfl
theorem x_on {x e Q} : oNone x e Q = Q none e := rfl
def iC (d : D) (h : HB (Int → Prop)) : Prop := match d with
  | .int b => h.b b
  | _ => False
theorem iC_i {b f} : iC (.int b) (HB.mk f ()) = f b := rfl
def kOs (o : Option D) (e : En) (h : HB (Option Int → En → Prop)) : Prop := match o with
  | some (.int i) => h.b (some i) e
  | _ => False
theorem x_os {t x e Q} : oSome t x e Q = t x e fun r e1 => kOs (rv r e1) e1 (HB.mk Q ()) := by
  unfold oSome kOs
  rfl
theorem x_kOs {i e Q} : kOs (some (.int i)) e (HB.mk Q ()) = Q (some i) e := rfl
theorem x_lc {ti g tt te vs x e Q} : cLc ti g tt te vs x e Q = ti x e fun items e1 => items.length ≤ sizeLine ∧ plainC e1.sl vs = true ∧ lcH items (wipeE vs e1) (HB.mk (g, tt, te, vs, fun acc e2 => Q (.own acc) (restE vs e1 e2)) ()) := rfl
theorem x_any {te x e Q} : iAny te x e Q = te x e fun r e1 => fz r e1 fun d e2 => opt d.walk <| HB.mk (fun ds => Q ds e2) () := by
  unfold iAny opt
  congr 1; funext r e1; congr 1; funext d e2
  cases d.walk <;> rfl
theorem walk_l {ds} : D.walk (.lst ds) = some ds := rfl
theorem walk_t {ds} : D.walk (.tup ds) = some ds := rfl
theorem walk_s {s} : D.walk (.str s) = some (signs s) := rfl
theorem x_pure {p t x e Q} : iPure p t x e Q = t x e fun rs e1 => opt (rvL rs e1) <| HB.mk (fun ds => p ds fun l => Q l e1) () := by
  unfold iPure opt
  congr 1; funext rs e1
  cases rvL rs e1 <;> rfl
def sC (d : D) (h : HB (List Nat → Prop)) : Prop := match d with
  | .str s => h.b s
  | _ => False
theorem sC_s {b f} : sC (.str b) (HB.mk f ()) = f b := rfl
theorem x_rev {t x e Q} : iRevP t x e Q = t x e fun r e1 => fz r e1 fun d e2 => sC d <| HB.mk (fun s => Q (signs s).reverse e2) () := by
  unfold iRevP sC
  rfl
def kCa (ds : List D) (e : En) (h : HB (PM × (R → En → Prop))) : Prop := h.b.1 ds e.st fun c st' => h.b.2 c.toR ⟨e.sl, st'⟩
theorem x_call {m t x e Q} : tCall0 m t x e Q = t x e fun ds e1 => kCa ds e1 (HB.mk (m, Q) ()) := rfl
theorem x_kCa {m : PM} {ds e Q} : kCa ds e (HB.mk (m, Q) ()) = m ds e.st fun c st' => Q c.toR ⟨e.sl, st'⟩ := rfl
theorem toR_d {d} : C.toR (.d d) = .d d := rfl
theorem toR_o {d} : C.toR (.own d) = .own d := rfl
theorem x_gn {i d e Q} : gName i d e Q = (i < e.sl.length ∧ Q (e.setC i (.d d))) := rfl
theorem x_gnil {e Q} : gNil [] e Q = Q e := by unfold gNil; exact propext ⟨fun h => h.2, fun h => ⟨rfl, h⟩⟩
theorem x_gcons {t u d ds e Q} : gCons t u (d :: ds) e Q = t d e fun e1 => u ds e1 Q := rfl
theorem x_isi {T te x e Q} : tIsi T te x e Q = te x e fun r e1 => opt (rv r e1) <| HB.mk (fun d => opt d.tyN <| HB.mk (fun u => opt (kitB u T) <| HB.mk (fun b => Q (.d (.bl b)) e1) ()) ()) () := by
  unfold tIsi opt
  congr 1; funext r e1
  cases rv r e1 with
  | none => rfl
  | some d =>
    simp only
    cases d.tyN with
    | none => rfl
    | some u => simp only; cases kitB u T <;> rfl
/-- operators -/
theorem a_ii {i j Q} : pAdd (.int i) (.int j) Q = Q (.d (.int (i + j))) := rfl
theorem a_ss {s t Q} : pAdd (.str s) (.str t) Q = (s.length + t.length ≤ sizeLine ∧ Q (.d (.str (s ++ t)))) := rfl
theorem a_ll {s t Q} : pAdd (.lst s) (.lst t) Q = (s.length + t.length ≤ sizeLine ∧ Q (.own (s ++ t))) := rfl
theorem a_tt {s t Q} : pAdd (.tup s) (.tup t) Q = (s.length + t.length ≤ sizeLine ∧ Q (.d (.tup (s ++ t)))) := rfl
theorem a_I {C f i j Q} : pI C f (.int i) (.int j) Q = (C i j ∧ Q (.d (f i j))) := rfl
theorem a_neg {i Q} : pNeg (.int i) Q = Q (.d (.int (-i))) := rfl
theorem a_mul {i j Q} : pMul (.int i) (.int j) Q = (CMul i j ∧ Q (.d (.int (i * j)))) := rfl
theorem a_mulL {xs k Q} : pMul (.lst xs) (.int k) Q = ((-(2 ^ 63) ≤ k ∧ k < 2 ^ 63) ∧ xs.length * k.toNat ≤ sizeLine ∧ Q (.own (List.replicate k.toNat xs).flatten)) := rfl
theorem a_mulS {xs : List Nat} {k Q} : pMul (.str xs) (.int k) Q = ((-(2 ^ 63) ≤ k ∧ k < 2 ^ 63) ∧ xs.length * k.toNat ≤ 16777216 ∧ Q (.d (.str (List.replicate k.toNat xs).flatten))) := rfl
theorem a_eq {d e Q} : pEq d e Q = (d.ok 64 = true ∧ e.ok 64 = true ∧ Q (.d (.bl (D.eq d e)))) := rfl
theorem a_ne {d e Q} : pNe d e Q = (d.ok 64 = true ∧ e.ok 64 = true ∧ Q (.d (.bl (!D.eq d e)))) := rfl
theorem a_lt {i j Q} : pLt (.int i) (.int j) Q = Q (.d (.bl (decide (i < j)))) := rfl
theorem a_le {i j Q} : pLe (.int i) (.int j) Q = Q (.d (.bl (decide (i ≤ j)))) := rfl
theorem a_gt {i j Q} : pGt (.int i) (.int j) Q = Q (.d (.bl (decide (j < i)))) := rfl
theorem a_ge {i j Q} : pGe (.int i) (.int j) Q = Q (.d (.bl (decide (j ≤ i)))) := rfl
theorem a_ltS {i j Q} : pLt (.str i) (.str j) Q = Q (.d (.bl (decide (i < j)))) := rfl
theorem a_leS {i j Q} : pLe (.str i) (.str j) Q = Q (.d (.bl (!decide (j < i)))) := rfl
theorem a_inS {c l Q} : pIn false (.str [c]) (.str l) Q = Q (.d (.bl (decide (c ∈ l)))) := rfl
theorem a_ninS {c l Q} : pIn true (.str [c]) (.str l) Q = Q (.d (.bl (!decide (c ∈ l)))) := rfl
theorem a_inL {d l Q} : pIn false d (.lst l) Q = (d.ok 64 = true ∧ D.okL l 63 = true ∧ Q (.d (.bl (l.any fun z => D.eq z d)))) := rfl
theorem a_ninL {d l Q} : pIn true d (.lst l) Q = (d.ok 64 = true ∧ D.okL l 63 = true ∧ Q (.d (.bl (!l.any fun z => D.eq z d)))) := rfl
theorem a_inT {d l Q} : pIn false d (.tup l) Q = (d.flat = true ∧ l.all D.flat = true ∧ Q (.d (.bl (l.any fun z => D.eq z d)))) := rfl
theorem a_ninT {d l Q} : pIn true d (.tup l) Q = (d.flat = true ∧ l.all D.flat = true ∧ Q (.d (.bl (!l.any fun z => D.eq z d)))) := rfl
theorem a_ixL {l i Q} : pIx (.lst l) (.int i) Q = (opt (atI l i) <| HB.mk (fun y => Q (.d y)) ()) := by
  show (match atI l i with | some y => Q (.d y) | none => False) = _
  unfold opt
  cases atI l i <;> rfl
theorem a_ixT {l i Q} : pIx (.tup l) (.int i) Q = (opt (atI l i) <| HB.mk (fun y => Q (.d y)) ()) := by
  show (match atI l i with | some y => Q (.d y) | none => False) = _
  unfold opt
  cases atI l i <;> rfl
theorem a_ixS {l i Q} : pIx (.str l) (.int i) Q = (opt (atI l i) <| HB.mk (fun c => Q (.d (.str [c]))) ()) := by
  show (match atI l i with | some y => Q (.d (.str [y])) | none => False) = _
  unfold opt
  cases atI l i <;> rfl
theorem a_ixR {n i Q} : pIx (.scr n) (.int i) Q = ((0 ≤ i ∧ i < n) ∧ ∀ z, Q (.d (.int z))) := rfl
theorem a_ixB {i Q} : pIx .box (.int i) Q = ((i = 0 ∨ i = 1) ∧ ∀ z, Q (.d (.int z))) := rfl
theorem a_slL {l lo hi Q} : pSl (.lst l) lo hi Q = Q (.own (cut l lo hi)) := rfl
theorem a_slT {l lo hi Q} : pSl (.tup l) lo hi Q = Q (.d (.tup (cut l lo hi))) := rfl
theorem a_slS {l lo hi Q} : pSl (.str l) lo hi Q = Q (.d (.str (cut l lo hi))) := rfl
theorem a_lenS {s Q} : pLen [.str s] Q = Q (.d (.int s.length)) := rfl
theorem a_lenL {s Q} : pLen [.lst s] Q = Q (.d (.int s.length)) := rfl
theorem a_lenT {s Q} : pLen [.tup s] Q = Q (.d (.int s.length)) := rfl
theorem a_lenR {n Q} : pLen [.scr n] Q = Q (.d (.int n)) := rfl
theorem a_join {s x Q} : pJoin (.str s) [x] Q = (opt (strL x.items) <| HB.mk (fun r => (r.map List.length).sum + r.length * s.length ≤ 16777216 ∧ Q (.d (.str (joinN s r)))) ()) := by
  show (match strL x.items with | some r => _ | none => False) = _
  unfold opt
  cases strL x.items <;> rfl
theorem items_l {l} : D.items (.lst l) = l := rfl
theorem items_t {l} : D.items (.tup l) = l := rfl
theorem a_ixof {l c Q} : pIndexS (.str l) [.str [c]] Q = (c ∈ l ∧ Q (.d (.int (ixOf c l)))) := rfl
theorem a_ixofL {l y Q} : pIndexL (.lst l) [y] Q = (y.ok 64 = true ∧ D.okL l 63 = true ∧ (l.any fun z => D.eq z y) = true ∧ Q (.d (.int (ixD y l)))) := rfl
theorem a_rng1 {j Q} : pRng1 [.int j] Q = ((-(2 ^ 62) ≤ j ∧ j < 2 ^ 62) ∧ Q (rngI 0 j.toNat)) := rfl
theorem a_rng2 {i j Q} : pRng2 [.int i, .int j] Q = ((-(2 ^ 62) ≤ i ∧ i < 2 ^ 62 ∧ -(2 ^ 62) ≤ j ∧ j < 2 ^ 62) ∧ Q (rngI i (j - i).toNat)) := rfl
theorem a_min2 {i j Q} : pMin2 [.int i, .int j] Q = Q (.d (.int (min i j))) := by
  show Q (.d (.int (if j < i then j else i))) = _
  congr 3; rw [Int.min_def]; split <;> split <;> omega
theorem a_max2 {i j Q} : pMax2 [.int i, .int j] Q = Q (.d (.int (max i j))) := by
  show Q (.d (.int (if j > i then j else i))) = _
  congr 3; rw [Int.max_def]; split <;> split <;> omega
theorem a_lstS {s Q} : pList [.str s] Q = Q (.own (signs s)) := rfl
theorem a_lstL {s Q} : pList [.lst s] Q = Q (.own s) := rfl
theorem a_lstT {s Q} : pList [.tup s] Q = Q (.own s) := rfl
theorem a_int {s Q} : pInt [.int s] Q = Q (.d (.int s)) := rfl
theorem a_intB {s Q} : pInt [.bl s] Q = Q (.d (.int (if s then 1 else 0))) := rfl
theorem a_isN {neg d Q} : pIsN neg d .non Q = Q (.d (.bl (if neg then !d.isNon else d.isNon))) := rfl
def popAtH (ds as : List D) (h : HB (List D → D → Prop)) : Prop := mPopAt ds as h.b
theorem x_popAt {ds as K} : mPopAt ds as K = popAtH ds as (HB.mk K ()) := rfl
def allH (ds : List D) (h : HB (R → Prop)) : Prop := pAll [.lst ds] h.b
theorem x_all {ds Q} : pAll [.lst ds] Q = allH ds (HB.mk Q ()) := rfl
def anyH (ds : List D) (h : HB (R → Prop)) : Prop := pAny [.lst ds] h.b
theorem x_anyB {ds Q} : pAny [.lst ds] Q = anyH ds (HB.mk Q ()) := rfl
theorem a_isB {neg a b Q} : pIsN neg (.bl a) (.bl b) Q = Q (.d (.bl (if neg then !decide (a = b) else decide (a = b)))) := rfl
theorem m_app {ds y K} : mAppend ds [y] K = (ds.length < sizeLine ∧ K (ds ++ [y]) .non) := rfl
theorem a_pop {ds K} : mPop ds [] K = (opt ds[ds.length - 1]? <| HB.mk (fun y => K ds.dropLast y) ()) := by
  unfold mPop opt
  simp only
  cases ds[ds.length - 1]? <;> rfl
/-- data -/
theorem ok_s {s n} : D.ok (.str s) n = true := rfl
theorem ok_i {s n} : D.ok (.int s) n = true := rfl
theorem ok_b {s n} : D.ok (.bl s) n = true := rfl
theorem ok_n {n} : D.ok .non n = true := rfl
theorem ok_l {ds n} : D.ok (.lst ds) (n + 1) = D.okL ds n := rfl
theorem ok_t {ds n} : D.ok (.tup ds) (n + 1) = D.okL ds n := rfl
theorem okL_n {n} : D.okL [] n = true := rfl
theorem okL_c {d ds n} : D.okL (d :: ds) n = (d.ok n && D.okL ds n) := rfl
theorem e_ss {x y} : D.eq (.str x) (.str y) = decide (x = y) := by simp only [D.eq]; rw [Bool.eq_iff_iff]; simp
theorem e_ii {x y} : D.eq (.int x) (.int y) = decide (x = y) := by simp only [D.eq]; rw [Bool.eq_iff_iff]; simp
theorem e_bb {x y} : D.eq (.bl x) (.bl y) = decide (x = y) := by cases x <;> cases y <;> rfl
theorem e_ll {x y} : D.eq (.lst x) (.lst y) = D.eqL x y := by simp only [D.eq]
theorem e_tt {x y} : D.eq (.tup x) (.tup y) = D.eqL x y := by simp only [D.eq]
theorem eL_nn : D.eqL [] [] = true := by simp only [D.eqL]
theorem eL_cc {a x b y} : D.eqL (a :: x) (b :: y) = (D.eq a b && D.eqL x y) := by simp only [D.eqL]
theorem eL_nc {b y} : D.eqL [] (b :: y) = false := by simp only [D.eqL]
theorem eL_cn {b y} : D.eqL (b :: y) [] = false := by simp only [D.eqL]
theorem ty_s {s} : D.tyN (.str s) = some "str" := rfl
theorem ty_i {s} : D.tyN (.int s) = some "int" := rfl
theorem ty_l {s} : D.tyN (.lst s) = some "list" := rfl
theorem ty_b {s} : D.tyN (.bl s) = some "bool" := rfl
theorem sline : (sizeLine : Nat) = 16777216 := sizeLine_eq
end Pu
set_option maxRecDepth 100000
set_option maxHeartbeats 4000000
namespace Pu
open PySem L2
theorem forH_inv {g : PTG} {tb : PTS} {x : PX} {P : PEn} (I : List D → En → Prop) {ds : List D} {e : En} (h0 : I ds e) (hd : ∀ e, I [] e → P.nx e) (h : ∀ d r e, I (d :: r) e → ∀ N : En → Prop, (∀ e', I r e' → N e') → g d e fun e' => tb x { P with nx := N, ct := N, bk := P.nx } e') :
    forH ds e (HB.mk (g, tb, x, P) ()) := forR_inv I h hd ds e h0
/-- over the signs of a text: what is behind, what is to come -/
theorem forH_signs {g : PTG} {tb : PTS} {x : PX} {P : PEn} (w : List Nat) (I : List Nat → List Nat → En → Prop) {e : En} (h0 : I [] w e) (hd : ∀ e, I w [] e → P.nx e) (h : ∀ pre c suf e, pre ++ c :: suf = w → I pre (c :: suf) e → ∀ N : En → Prop, (∀ e', I (pre ++ [c]) suf e' → N e') → g (.str [c]) e fun e' => tb x { P with nx := N, ct := N, bk := P.nx } e') :
    forH (signs w) e (HB.mk (g, tb, x, P) ()) := by
  refine forH_inv (fun rest e => ∃ pre suf, pre ++ suf = w ∧ rest = signs suf ∧ I pre suf e) ⟨[], w, rfl, rfl, h0⟩ ?_ ?_
  · rintro e ⟨pre, suf, h1, h2, h3⟩
    cases suf with
    | nil => rw [List.append_nil] at h1; subst h1; exact hd e h3
    | cons c suf => cases h2
  · rintro d r e ⟨pre, suf, h1, h2, h3⟩ N hN
    cases suf with
    | nil => cases h2
    | cons c suf =>
      cases h2
      exact h pre c suf e h1 h3 N fun e' h' => hN e' ⟨pre ++ [c], suf, by rw [← h1]; simp, rfl, h'⟩
/-- over a range from i on: the turns done -/
theorem forH_rng {g : PTG} {tb : PTS} {x : PX} {P : PEn} (lo : Int) (n : Nat) (I : Nat → En → Prop) {e : En} (h0 : I 0 e) (hd : ∀ e, I n e → P.nx e) (h : ∀ j e, j < n → I j e → ∀ N : En → Prop, (∀ e', I (j + 1) e' → N e') → g (.int (lo + j)) e fun e' => tb x { P with nx := N, ct := N, bk := P.nx } e') :
    forH (rngI lo n) e (HB.mk (g, tb, x, P) ()) := by
  refine forH_inv (fun rest e => ∃ j, j ≤ n ∧ rest = rngI (lo + j) (n - j) ∧ I j e) ⟨0, by omega, by simp, h0⟩ ?_ ?_
  · rintro e ⟨j, h1, h2, h3⟩
    have := congrArg List.length h2
    rw [rngI_length] at this
    simp at this
    have e0 : j = n := by omega
    subst e0
    exact hd e h3
  · rintro d r e ⟨j, h1, h2, h3⟩ N hN
    have hl := congrArg List.length h2
    rw [rngI_length] at hl
    simp at hl
    obtain ⟨z, hz⟩ : ∃ z, n - j = z + 1 := ⟨n - j - 1, by omega⟩
    rw [hz, rngI_succ] at h2
    cases h2
    exact h j e (by omega) h3 N fun e' h' => hN e' ⟨j + 1, by omega, by rw [show n - (j + 1) = z by omega]; congr 1; push_cast; omega, h'⟩
/-- over a mapped list -/
theorem forH_map {α : Type} (f : α → D) {g : PTG} {tb : PTS} {x : PX} {P : PEn} (w : List α) (I : List α → List α → En → Prop) {e : En} (h0 : I [] w e) (hd : ∀ e, I w [] e → P.nx e) (h : ∀ pre c suf e, pre ++ c :: suf = w → I pre (c :: suf) e → ∀ N : En → Prop, (∀ e', I (pre ++ [c]) suf e' → N e') → g (f c) e fun e' => tb x { P with nx := N, ct := N, bk := P.nx } e') :
    forH (w.map f) e (HB.mk (g, tb, x, P) ()) := by
  refine forH_inv (fun rest e => ∃ pre suf, pre ++ suf = w ∧ rest = suf.map f ∧ I pre suf e) ⟨[], w, rfl, rfl, h0⟩ ?_ ?_
  · rintro e ⟨pre, suf, h1, h2, h3⟩
    cases suf with
    | nil => rw [List.append_nil] at h1; subst h1; exact hd e h3
    | cons c suf => cases h2
  · rintro d r e ⟨pre, suf, h1, h2, h3⟩ N hN
    cases suf with
    | nil => cases h2
    | cons c suf =>
      cases h2
      exact h pre c suf e h1 h3 N fun e' h' => hN e' ⟨pre ++ [c], suf, by rw [← h1]; simp, rfl, h'⟩
theorem least_nat {R : Nat → Prop} (h : ∃ n, R n) : ∃ n, R n ∧ ∀ k, R k → n ≤ k := by
  obtain ⟨n, hn⟩ := h
  induction n using Nat.strongRecOn with
  | _ n ih =>
    by_cases z : ∃ k, k < n ∧ R k
    · obtain ⟨k, h1, h2⟩ := z
      exact ih k h1 h2
    · exact ⟨n, hn, fun k hk => Nat.le_of_not_lt fun hl => z ⟨k, hl, hk⟩⟩
theorem wh_on {c : PTT} {tb : PTS} {x : PX} {P : PEn} {e : En} {α : Type} (st : α → En) (W : α → Prop) (μ : α → Nat) (a0 : α) (he : e = st a0) (h0 : W a0)
    (h : ∀ a, W a → ∀ N : En → Prop, (∀ a', W a' → μ a' < μ a → N (st a')) → c x (st a) fun b e1 => br b (HB.mk (tb x { P with nx := N, ct := N, bk := P.nx } e1, P.nx e1) ())) : whH e (HB.mk (c, tb, x, P) ()) := by
  classical
  let R : En → Nat → Prop := fun e n => ∃ a, e = st a ∧ W a ∧ μ a = n
  let m : En → Nat := fun e => if h : ∃ n, R e n then Classical.choose (least_nat h) else 0
  have key : ∀ e, (∃ n, R e n) → R e (m e) ∧ ∀ k, R e k → m e ≤ k := fun e hh => by
    have z : m e = Classical.choose (least_nat hh) := dif_pos hh
    rw [z]
    exact Classical.choose_spec (least_nat hh)
  refine ⟨fun e => ∃ a, e = st a ∧ W a, m, ⟨a0, he, h0⟩, ?_⟩
  intro e ⟨a1, h1, h2⟩
  obtain ⟨⟨a, g1, g2, g3⟩, _⟩ := key e ⟨_, a1, h1, h2, rfl⟩
  subst g1
  exact h a g2 (fun e' => (∃ a, e' = st a ∧ W a) ∧ m e' < m (st a)) fun a' w' l' => ⟨⟨a', rfl, w'⟩, Nat.lt_of_le_of_lt ((key (st a') ⟨_, a', rfl, w', rfl⟩).2 _ ⟨a', rfl, w', rfl⟩) (by rw [← g3]; exact l')⟩
theorem at_last {α : Type} {l : List α} {a : α} {f : α → Prop} (h : l.getLast? = some a) (q : f a) : opt (atI l (-1)) (HB.mk f ()) := by
  refine opt_of ?_ q
  unfold atI ixN
  rw [if_neg (by omega)]
  have hl : l ≠ [] := fun z => by subst z; cases h
  have hp : 0 < l.length := List.length_pos_iff.mpr hl
  rw [if_pos (by omega)]
  have : ((-1 : Int) + (l.length : Int)).toNat = l.length - 1 := by omega
  simp only [Option.bind_some, this]
  rw [List.getLast?_eq_getElem?] at h
  exact h
theorem at_head {α : Type} {l : List α} {a : α} {f : α → Prop} (h : l.head? = some a) (q : f a) : opt (atI l 0) (HB.mk f ()) := by
  refine opt_of ?_ q
  cases l with
  | nil => cases h
  | cons b l => cases h; unfold atI ixN; simp
theorem lcH_map {g : PTG} {te : PTE} {vs : List Nat} {e : En} {Q : List D → En → Prop} {ds : List D} (f : D → D) (h : ∀ d ∈ ds, ∀ K : D → En → Prop, K (f d) e → g d e fun e1 => te noX e1 fun r e3 => fz r e3 fun y e4 => K y (wipeE vs e4)) (q : Q (ds.map f) e) : lcH ds e (HB.mk (g, cYes, te, vs, Q) ()) :=
  lcR_map f ds [] h (by simpa using q)
theorem lcH_rel {g : PTG} {te : PTE} {vs : List Nat} {e : En} {Q : List D → En → Prop} {ds : List D} (R : D → D → Prop) (h : ∀ d ∈ ds, ∀ K : D → En → Prop, (∀ y, R d y → K y e) → g d e fun e1 => te noX e1 fun r e3 => fz r e3 fun y e4 => K y (wipeE vs e4)) (q : ∀ ys, All2 R ds ys → Q ys e) : lcH ds e (HB.mk (g, cYes, te, vs, Q) ()) :=
  lcR_rel R ds [] h (by simpa using q)
theorem lcH_filter {g : PTG} {tt : PTT} {te : PTE} {vs : List Nat} {e : En} {Q : List D → En → Prop} {ds : List D} (p : D → Bool) (f : D → D) (h : ∀ d ∈ ds, ∀ K : Option D → En → Prop, K (if p d = true then some (f d) else none) e → g d e fun e1 => tt noX e1 fun b e2 => if b = true then te noX e2 fun r e3 => fz r e3 fun y e4 => K (some y) (wipeE vs e4) else K none (wipeE vs e2)) (q : Q ((ds.filter p).map f) e) : lcH ds e (HB.mk (g, tt, te, vs, Q) ()) :=
  lcR_filter p f ds [] h (by simpa using q)
theorem x_ite {b : Bool} {p q : Prop} : (if b = true then p else q) = br b (HB.mk (p, q) ()) := rfl
theorem x_gtup {n t ds e Q} : gTup n t (.tup ds) e Q = (ds.length = n ∧ t ds e Q) := rfl
theorem x_yes {x e Q} : cYes x e Q = Q true e := rfl
theorem strL_signs (w : List Nat) : strL (signs w) = some (w.map fun c => [c]) := by
  have e : signs w = (w.map fun c => [c]).map D.str := by unfold signs; rw [List.map_map]; rfl
  rw [e, strL_map]
theorem len_signs {w : List Nat} (h : w.length ≤ 16777216) : ((w.map fun c => [c]).map List.length).sum + (w.map fun c => [c]).length * ([] : List Nat).length ≤ 16777216 := by
  have : ((w.map fun c => [c]).map List.length) = List.replicate w.length 1 := by
    rw [List.map_map, List.eq_replicate_iff]
    refine ⟨by simp, fun b hb => ?_⟩
    obtain ⟨a, _, rfl⟩ := List.mem_map.mp hb
    rfl
  rw [this, List.sum_replicate_nat]
  simp
  exact h
theorem len_signs' {w : List Nat} (h : w.length ≤ 16777216) : ((w.map fun c => [c]).map List.length).sum + (w.map fun c => [c]).length * 0 ≤ 16777216 := len_signs h
theorem signs_len (w : List Nat) : (signs w).length = w.length := by unfold signs; simp
theorem signs_app (v w : List Nat) : signs v ++ signs w = signs (v ++ w) := by unfold signs; rw [List.map_append]
theorem signs_snoc (v : List Nat) (c : Nat) : signs v ++ [.str [c]] = signs (v ++ [c]) := signs_app v [c]
theorem mem_signs {w : List Nat} {d : D} (h : d ∈ signs w) : ∃ c, c ∈ w ∧ d = .str [c] := by
  unfold signs at h
  obtain ⟨c, hc, rfl⟩ := List.mem_map.mp h
  exact ⟨c, hc, rfl⟩
theorem blL_true : ∀ {ds : List D}, (∀ d ∈ ds, d = .bl true) → blL ds = some (List.replicate ds.length true)
  | [], _ => rfl
  | d :: ds, h => by
    rw [h d (by simp)]
    simp only [blL]
    rw [blL_true fun d hd => h d (List.mem_cons_of_mem _ hd)]
    rfl
theorem pAll_true {ds : List D} {Q : R → Prop} (h : ∀ d ∈ ds, d = .bl true) (q : Q (.d (.bl true))) : pAll [.lst ds] Q := by
  unfold pAll
  simp only
  rw [blL_true h]
  have : (List.replicate ds.length true).all id = true := by simp
  simp only [this]
  exact q
theorem allH_true {ds : List D} {Q : R → Prop} (h : ∀ d ∈ ds, d = .bl true) (q : Q (.d (.bl true))) : allH ds (HB.mk Q ()) := pAll_true h q
theorem ixN_nat {n : Nat} {i : Int} (h0 : 0 ≤ i) (h1 : i < n) : ixN n i = some i.toNat := by
  unfold ixN
  rw [if_pos h0, if_pos h1]
/-- the last, the first -/
theorem atI_last {α : Type} (l : List α) : atI l (-1) = l.getLast? := by
  unfold atI ixN
  rw [if_neg (by omega)]
  by_cases h : l = []
  · subst h; rfl
  · have hp : 0 < l.length := List.length_pos_iff.mpr h
    rw [if_pos (by omega)]
    have : ((-1 : Int) + (l.length : Int)).toNat = l.length - 1 := by omega
    simp only [Option.bind_some, this]
    rw [List.getLast?_eq_getElem?]
theorem popAt_ok {ds : List D} {i : Int} {K : List D → D → Prop} (h0 : 0 ≤ i) (h1 : i < ds.length) (h : ∀ j (hj : j < ds.length), K (ds.eraseIdx j) ds[j]) : mPopAt ds [.int i] K := by
  unfold mPopAt
  simp only
  rw [ixN_nat h0 h1]
  have hj : i.toNat < ds.length := by omega
  simp only [List.getElem?_eq_getElem hj]
  exact h _ hj
theorem sIx_k (n d k : Nat) : HT.sIx n d (some (k : Int)) = min k n := HT.sIx_nat n d k
theorem cut_take {α : Type} (xs : List α) (k : Nat) : cut xs none (some (k : Int)) = xs.take k := by
  unfold cut
  rw [sIx_k]
  have e1 : HT.sIx xs.length 0 none = 0 := rfl
  rw [e1, List.drop_zero, Nat.sub_zero, List.take_eq_take_iff]
  omega
theorem cut_drop {α : Type} (xs : List α) (k : Nat) : cut xs (some (k : Int)) none = xs.drop k := by
  unfold cut
  rw [sIx_k]
  have e2 : HT.sIx xs.length xs.length none = xs.length := rfl
  rw [e2]
  rw [List.take_of_length_le (by simp)]
  by_cases h : k ≤ xs.length
  · rw [Nat.min_eq_left h]
  · rw [Nat.min_eq_right (by omega), List.drop_length, List.drop_of_length_le (by omega)]
theorem sIx_m1 (n d : Nat) : HT.sIx n d (some (-1)) = n - 1 := by
  show (if ((-1 : Int)) < 0 then ((-1 : Int) + (n : Int)).toNat else min (-1 : Int).toNat n) = _
  rw [if_pos (by omega)]
  omega
theorem cut_inner {α : Type} (xs : List α) : cut xs (some 1) (some (-1)) = xs.tail.dropLast := by
  unfold cut
  have e1 : HT.sIx xs.length 0 (some 1) = min 1 xs.length := HT.sIx_nat _ _ 1
  rw [e1, sIx_m1]
  cases xs with
  | nil => rfl
  | cons a l =>
    rw [List.length_cons, Nat.min_eq_left (by omega), List.dropLast_eq_take]
    simp
theorem a_repr {d Q} : pRepr [d] Q = (d.ok 64 = true ∧ d.rok = true ∧ d.rlen ≤ 16777216 ∧ Q (.d (.str (shw d)))) := rfl
def minH (ds : List D) (h : HB (R → Prop)) : Prop := pMin1 [.lst ds] h.b
theorem x_min1 {ds Q} : pMin1 [.lst ds] Q = minH ds (HB.mk Q ()) := rfl
theorem minH_ok {ds : List D} {x : List Nat} {r : List (List Nat)} {Q : R → Prop} (h : ds = (x :: r).map D.str) (q : Q (.d (.str (minS x r)))) : minH ds (HB.mk Q ()) := by
  subst h
  show (match strL ((x :: r).map D.str) with | some (x :: r) => Q (.d (.str (minS x r))) | _ => False)
  rw [strL_map]
  exact q
theorem a_min2S {x y Q} : pMin2S [.str x, .str y] Q = Q (.d (.str (if y < x then y else x))) := rfl
end Pu
set_option maxRecDepth 100000
set_option maxHeartbeats 4000000
namespace Pu
open PySem L2
theorem x_dict0 {x e Q} : tDict0 x e Q = Q (.dK []) e := rfl
theorem x_aK {i d e Q} : asgR i (.dK d) e Q = Q (e.setC i (.dK d)) := rfl
def kgC : Option C → Option (List (Key × D))
  | some (.dK ds) => some ds
  | _ => none
theorem kgC_dK {ds} : kgC (some (.dK ds)) = some ds := rfl
theorem x_kg {i e} : kget (.nam i) e = kgC e.sl[i]? := by
  show (match e.sl[i]? with | some (.dK ds) => some ds | _ => none) = _
  unfold kgC
  cases e.sl[i]? with
  | none => rfl
  | some c => cases c <;> rfl
theorem x_kgRn {i e} : kgetR (.nam i) e = kget (.nam i) e := rfl
theorem x_kgRf {ks ds e} : kgetR (.d (.dck ks ds)) e = some (ks.zip ds) := rfl
theorem x_zips {α β : Type} {l : List (α × β)} : (l.map Prod.fst).zip (l.map Prod.snd) = l := zip_split l
theorem x_ks {i e ds} : kset (.nam i) e ds = e.setC i (.dK ds) := rfl
/-- keys: ints, texts -/
def kI (i : Int) : Key := .inl i
def kS (s : List Nat) : Key := .inr ⟨s.toArray⟩
theorem key_i {i} : keyD (.int i) = some (kI i) := rfl
theorem key_s {s} : keyD (.str s) = some (kS s) := rfl
theorem kI_eq {i j} : (kI i = kI j) = (i = j) := by unfold kI; simp
theorem kS_eq {i j} : (kS i = kS j) = (i = j) := by unfold kS; simp
theorem x_dg {to ti x e Q} : tDG to ti x e Q = to x e fun r e1 => hold r e1 fun r e1 => ti x e1 fun ri e2 => opt (kgetR r e2) <| HB.mk (fun kvs => opt (rv ri e2) <| HB.mk (fun kd => opt (keyD kd) <| HB.mk (fun k => opt (getK kvs k) <| HB.mk (fun d => Q (.d d) e2) ()) ()) ()) () := by
  unfold tDG opt
  congr 1; funext r e1; congr 1; funext r e1; congr 1; funext ri e2
  cases kgetR r e2 with
  | none => rfl
  | some kvs =>
    simp only
    cases rv ri e2 with
    | none => rfl
    | some kd =>
      simp only
      cases keyD kd with
      | none => rfl
      | some k => simp only; cases getK kvs k <;> rfl
theorem x_di {neg ti to x e Q} : tDI neg ti to x e Q = ti x e fun ri e1 => hold ri e1 fun ri e1 => to x e1 fun r e2 => opt (kgetR r e2) <| HB.mk (fun kvs => opt (rv ri e2) <| HB.mk (fun kd => opt (keyD kd) <| HB.mk (fun k => Q (.d (.bl (if neg then !(getK kvs k).isSome else (getK kvs k).isSome))) e2) ()) ()) () := by
  unfold tDI opt
  congr 1; funext r e1; congr 1; funext r e1; congr 1; funext ri e2
  cases kgetR ri e2 with
  | none => rfl
  | some kvs =>
    simp only
    cases rv r e2 with
    | none => rfl
    | some kd =>
      simp only
      cases keyD kd <;> rfl
theorem x_dpt {te to ti x P e} : sDPt te to ti x P e = te x e fun r0 e1 => fz r0 e1 fun dv e2 => to x e2 fun ro e3 => hold ro e3 fun ro e3 => ti x e3 fun ri e4 => opt (kget ro e4) <| HB.mk (fun kvs => opt (rv ri e4) <| HB.mk (fun kd => opt (keyD kd) <| HB.mk (fun k => kvs.length < sizeLine ∧ P.nx (kset ro e4 (setK kvs k dv))) ()) ()) () := by
  unfold sDPt opt
  congr 1; funext r e1; congr 1; funext r e1; congr 1; funext ri e2; congr 1; funext ri e2; congr 1; funext ri2 e4
  cases kget ri e4 with
  | none => rfl
  | some kvs =>
    simp only
    cases rv ri2 e4 with
    | none => rfl
    | some kd =>
      simp only
      cases keyD kd <;> rfl
def oneR (rs : List R) (h : HB (R → Prop)) : Prop := match rs with
  | [r] => h.b r
  | _ => False
theorem oneR_1 {r f} : oneR [r] (HB.mk f ()) = f r := rfl
theorem x_enum {t x e Q} : iEnumP t x e Q = t x e fun rs e1 => oneR rs <| HB.mk (fun r => fz r e1 fun d e2 => opt d.walkE <| HB.mk (fun ds => Q (enumF 0 ds) e2) ()) () := by
  unfold iEnumP opt oneR
  congr 1; funext rs e1
  match rs with
  | [] => rfl
  | [r] =>
    show fz r e1 _ = fz r e1 _
    congr 1; funext d e2
    cases d.walkE <;> rfl
  | _ :: _ :: _ => rfl
theorem walkE_l {ds} : D.walkE (.lst ds) = some ds := rfl
theorem walkE_t {ds} : D.walkE (.tup ds) = some ds := rfl
theorem walkE_s {s} : D.walkE (.str s) = some (signs s) := rfl
theorem a_backL {ds Q} : pBack (.lst ds) Q = Q (.own ds.reverse) := rfl
theorem a_backS {s Q} : pBack (.str s) Q = Q (.d (.str s.reverse)) := rfl
theorem a_backT {ds Q} : pBack (.tup ds) Q = Q (.d (.tup ds.reverse)) := rfl
theorem x_never {x P e} : sNever x P e = False := rfl
theorem ty_t {s} : D.tyN (.tup s) = some "tuple" := rfl
theorem a_tupL {s Q} : pTuple [.lst s] Q = Q (.d (.tup s)) := rfl
theorem a_tupT {s Q} : pTuple [.tup s] Q = Q (.d (.tup s)) := rfl
/-- sorted, as a list -/
def insS (x : List Nat) : List (List Nat) → List (List Nat)
  | [] => [x]
  | y :: r => if y < x then y :: insS x r else x :: y :: r
def srt : List (List Nat) → List (List Nat)
  | [] => []
  | x :: r => insS x (srt r)
def Asc : List (List Nat) → Prop
  | [] => True
  | x :: r => (∀ y ∈ r, ¬ y < x) ∧ Asc r
theorem insS_perm (x : List Nat) : ∀ r, (insS x r).Perm (x :: r)
  | [] => .refl _
  | y :: r => by
    unfold insS
    split
    · exact ((insS_perm x r).cons y).trans (.swap ..)
    · exact .refl _
theorem srt_perm : ∀ r, (srt r).Perm r
  | [] => .refl _
  | x :: r => (insS_perm x (srt r)).trans ((srt_perm r).cons x)
theorem insS_asc {x : List Nat} : ∀ {r : List (List Nat)}, Asc r → Asc (insS x r)
  | [], _ => ⟨by simp, trivial⟩
  | y :: r, ⟨h1, h2⟩ => by
    unfold insS
    split
    · rename_i h
      refine ⟨fun z hz => ?_, insS_asc h2⟩
      rcases List.mem_cons.mp ((insS_perm x r).mem_iff.mp hz) with e | e
      · rw [e]; exact fun q => List.lt_irrefl _ (List.lt_trans q h)
      · exact h1 z e
    · rename_i h
      refine ⟨fun z hz => ?_, h1, h2⟩
      rcases List.mem_cons.mp hz with e | e
      · rw [e]; exact h
      · exact fun q => absurd (List.lt_of_le_of_lt (List.not_lt.mp (h1 z e)) q) h
theorem srt_asc : ∀ r, Asc (srt r)
  | [] => trivial
  | x :: r => insS_asc (srt_asc r)
theorem asc_unique : ∀ {a b : List (List Nat)}, Asc a → Asc b → a.Perm b → a = b
  | [], b, _, _, p => by rw [List.perm_nil.mp p.symm]
  | x :: r, b, ⟨h1, h2⟩, hb, p => by
    cases b with
    | nil => exact absurd p.length_eq (by simp)
    | cons y t =>
      obtain ⟨g1, g2⟩ := hb
      have e : x = y := by
        have hx : x ∈ y :: t := p.mem_iff.mp (by simp)
        have hy : y ∈ x :: r := p.mem_iff.mpr (by simp)
        rcases List.mem_cons.mp hx with e | e
        · exact e
        · rcases List.mem_cons.mp hy with e' | e'
          · exact e'.symm
          · exact List.le_antisymm (List.not_lt.mp (h1 y e')) (List.not_lt.mp (g1 x e))
      subst e
      rw [asc_unique h2 g2 ((List.perm_cons _).mp p)]
theorem srt_eq {a b : List (List Nat)} (p : a.Perm b) : srt a = srt b := asc_unique (srt_asc a) (srt_asc b) (((srt_perm a).trans p).trans (srt_perm b).symm)
theorem srt_len (r : List (List Nat)) : (srt r).length = r.length := (srt_perm r).length_eq
theorem srt_mem {r : List (List Nat)} {x : List Nat} : x ∈ srt r ↔ x ∈ r := (srt_perm r).mem_iff
theorem asc_cons2 {x y : List Nat} {r : List (List Nat)} (h1 : ¬ y < x) (h2 : Asc (y :: r)) : Asc (x :: y :: r) := by
  refine ⟨fun z hz => ?_, h2⟩
  rcases List.mem_cons.mp hz with e | e
  · rw [e]; exact h1
  · exact fun q => h1 (List.lt_of_le_of_lt (List.not_lt.mp (h2.1 z e)) q)
theorem asc_ris : ∀ {r : List (List Nat)} {x : List Nat}, PyProof.Rows.risingS ⟨x.toArray⟩ (r.map fun s => (⟨s.toArray⟩ : Str)) = true → Asc (x :: r)
  | [], _, _ => ⟨by simp, trivial⟩
  | y :: r, x, h => by
    simp only [List.map_cons, PyProof.Rows.risingS, Bool.and_eq_true] at h
    obtain ⟨h1, h2⟩ := h
    refine asc_cons2 ?_ (asc_ris h2)
    rw [PyProof.Rows.ltCps_eq] at h1
    simpa using h1
theorem asc_of : ∀ {r : List (List Nat)}, PyProof.Rows.sortedS (r.map fun s => (⟨s.toArray⟩ : Str)) = true → Asc r
  | [], _ => trivial
  | x :: r, h => asc_ris h
def sortH (ds : List D) (h : HB (R → Prop)) : Prop := pSortT [.lst ds] h.b
theorem x_sort {ds Q} : pSortT [.lst ds] Q = sortH ds (HB.mk Q ()) := rfl
theorem sort_ok {ds : List D} {r : List (List Nat)} {Q : R → Prop} (h : ds = r.map D.str) (hl : r.length < 64) (q : Q (.own ((srt r).map D.str))) : sortH ds (HB.mk Q ()) := by
  subst h
  show pSortT _ _
  unfold pSortT
  simp only [strL_map]
  refine ⟨hl, fun r' p s => ?_⟩
  rw [asc_unique (asc_of s) (srt_asc r) (p.trans (srt_perm r).symm)]
  exact q
def sortSH (w : List Nat) (h : HB (R → Prop)) : Prop := pSortT [.str w] h.b
theorem x_sortS {w Q} : pSortT [.str w] Q = sortSH w (HB.mk Q ()) := rfl
end Pu
set_option maxRecDepth 100000
set_option maxHeartbeats 4000000
namespace Pu
open PySem L2
theorem m_ext {ds zs K} : mExtend ds [.lst zs] K = (ds.length + zs.length ≤ sizeLine ∧ K (ds ++ zs) .non) := rfl
theorem m_rev {ds K} : mReverse ds [] K = K ds.reverse .non := rfl
def enF {α : Type} : Nat → List α → List (Nat × α)
  | _, [] => []
  | i, a :: l => (i, a) :: enF (i + 1) l
theorem enF_len {α : Type} : ∀ (l : List α) (i : Nat), (enF i l).length = l.length
  | [], _ => rfl
  | a :: l, i => by simp [enF, enF_len l]
theorem enF_map {α : Type} (f : α → D) : ∀ (l : List α) (i : Nat), enumF i (l.map f) = (enF i l).map fun p => .tup [.int (p.1 : Nat), f p.2]
  | [], _ => rfl
  | a :: l, i => by
    rw [List.map_cons, enumF, enF, List.map_cons, enF_map f l (i + 1)]
theorem All2.get {α β : Type} {R : α → β → Prop} : ∀ {as : List α} {bs : List β} {i : Nat} {a : α}, All2 R as bs → as[i]? = some a → ∃ b, bs[i]? = some b ∧ R a b
  | _, _, 0, _, .cons h t, e => by simp at e; subst e; exact ⟨_, rfl, h⟩
  | _, _, i + 1, _, .cons h t, e => by
    obtain ⟨b, h1, h2⟩ := All2.get (i := i) t (by simpa using e)
    exact ⟨b, by simpa using h1, h2⟩
/-- comprehensions over mapped lists -/
theorem lcR_fm {α : Type} {g : PTG} {tt : PTT} {te : PTE} {vs : List Nat} {e : En} {Q : List D → En → Prop} (g0 : α → D) (p : α → Bool) (f : α → D) :
    ∀ (l : List α) (acc : List D), (∀ a ∈ l, ∀ K : Option D → En → Prop, K (if p a = true then some (f a) else none) e → g (g0 a) e fun e1 => tt noX e1 fun b e2 => if b = true then te noX e2 fun r e3 => fz r e3 fun y e4 => K (some y) (wipeE vs e4) else K none (wipeE vs e2)) →
      Q (acc ++ (l.filter p).map f) e → lcR g tt te vs (l.map g0) acc e Q
  | [], acc, _, k => by rw [List.filter_nil, List.map_nil, List.append_nil] at k; exact k
  | a :: l, acc, h, k => by
    refine h a (by simp) (fun o e' => match o with | some y => lcR g tt te vs (l.map g0) (acc ++ [y]) e' Q | none => lcR g tt te vs (l.map g0) acc e' Q) ?_
    by_cases hp : p a = true
    · rw [if_pos hp]
      refine lcR_fm g0 p f l (acc ++ [f a]) (fun d' hd => h d' (List.mem_cons_of_mem _ hd)) ?_
      rw [List.filter_cons_of_pos hp, List.map_cons] at k
      rw [List.append_assoc]
      exact k
    · rw [if_neg hp]
      refine lcR_fm g0 p f l acc (fun d' hd => h d' (List.mem_cons_of_mem _ hd)) ?_
      rw [List.filter_cons_of_neg hp] at k
      exact k
theorem lcH_fm {α : Type} {g : PTG} {tt : PTT} {te : PTE} {vs : List Nat} {e : En} {Q : List D → En → Prop} {l : List α} {g0 : α → D} (p : α → Bool) (f : α → D) (h : ∀ a ∈ l, ∀ K : Option D → En → Prop, K (if p a = true then some (f a) else none) e → g (g0 a) e fun e1 => tt noX e1 fun b e2 => if b = true then te noX e2 fun r e3 => fz r e3 fun y e4 => K (some y) (wipeE vs e4) else K none (wipeE vs e2)) (q : Q ((l.filter p).map f) e) : lcH (l.map g0) e (HB.mk (g, tt, te, vs, Q) ()) :=
  lcR_fm g0 p f l [] h (by simpa using q)
theorem lcH_mm {α : Type} {g : PTG} {te : PTE} {vs : List Nat} {e : En} {Q : List D → En → Prop} {l : List α} {g0 : α → D} (f : α → D) (h : ∀ a ∈ l, ∀ K : D → En → Prop, K (f a) e → g (g0 a) e fun e1 => te noX e1 fun r e3 => fz r e3 fun y e4 => K y (wipeE vs e4)) (q : Q (l.map f) e) : lcH (l.map g0) e (HB.mk (g, cYes, te, vs, Q) ()) := by
  refine lcR_fm g0 (fun _ => true) f l [] (fun a ha K k => ?_) ?_
  · have k : K (some (f a)) e := k
    exact h a ha (fun y e' => K (some y) e') k
  · have : l.filter (fun _ => true) = l := List.filter_eq_self.mpr fun _ _ => rfl
    rw [this]
    simpa using q
theorem ixOf_lt {c : Nat} {l : List Nat} (h : c ∈ l) : ixOf c l < l.length := (List.getElem?_eq_some_iff.mp (ixOf_spec h).1).1
end Pu
set_option maxRecDepth 100000
set_option maxHeartbeats 4000000
namespace Pu
open PySem L2
def sortPH (d : D) (h : HB (R → Prop)) : Prop := pSortP [d] h.b
theorem x_sortP {d Q} : pSortP [d] Q = sortPH d (HB.mk Q ()) := rfl
end Pu
set_option maxRecDepth 100000
set_option maxHeartbeats 4000000
namespace Pu
open PySem L2
theorem a_slR {n lo hi Q} : pSl (.scr n) lo hi Q = ∀ ns : List Int, ns.length = (cut (List.range n) lo hi).length → Q (.own (ns.map D.int)) := rfl
def twoR (rs : List R) (h : HB (R → R → Prop)) : Prop := match rs with
  | [r1, r2] => h.b r1 r2
  | _ => False
theorem twoR_2 {r1 r2 f} : twoR [r1, r2] (HB.mk f ()) = f r1 r2 := rfl
def sideH (d : D) (h : HB (List D → Prop)) : Prop := match d.side with
  | some (_, ds) => h.b ds
  | none => False
theorem side_l {ds f} : sideH (.lst ds) (HB.mk f ()) = f ds := rfl
theorem side_t {ds f} : sideH (.tup ds) (HB.mk f ()) = f ds := rfl
theorem x_zip {t x e Q} : iZipP t x e Q = t x e fun rs e1 => twoR rs <| HB.mk (fun r1 r2 => fz r1 e1 fun d1 e2 => fz r2 e2 fun d2 e3 => sideH d1 <| HB.mk (fun ds => sideH d2 <| HB.mk (fun es => (∀ d ∈ ds, isPr d = false) ∧ Q (zipF ds es) e3) ()) ()) () := by
  unfold iZipP twoR sideH
  congr 1; funext rs e1
  match rs with
  | [] => rfl
  | [r] => rfl
  | [r1, r2] =>
    show fz r1 e1 _ = fz r1 e1 _
    congr 1; funext d1 e2
    congr 1; funext d2 e3
    cases d1.side with
    | none => cases d2.side <;> rfl
    | some p => cases d2.side <;> rfl
  | _ :: _ :: _ :: _ => rfl
def sumH (ds : List D) (h : HB (R → Prop)) : Prop := pSum [.lst ds] h.b
theorem x_sum {ds Q} : pSum [.lst ds] Q = sumH ds (HB.mk Q ()) := rfl
theorem sum_ok {ds : List D} {ns : List Int} {Q : R → Prop} (h : ds = ns.map D.int) (q : Q (.d (.int ns.sum))) : sumH ds (HB.mk Q ()) := by
  subst h
  show pSum _ _
  unfold pSum
  simp only [intL_map]
  exact q
theorem a_count {l c Q} : pCount (.str l) [.str [c]] Q = Q (.d (.int (l.count c : Nat))) := rfl
def augC (c : C) (h : HB (Nat × PTE × PX × PEn × En)) : Prop := match c with
  | .d (.int a) => h.b.2.1 h.b.2.2.1 h.b.2.2.2.2 fun r e1 => match rv r e1 with
    | some (.int b) => h.b.1 < e1.sl.length ∧ h.b.2.2.2.1.nx (e1.setC h.b.1 (.d (.int (a + b))))
    | _ => False
  | _ => False
theorem augC_i {i te x P e a} : augC (.d (.int a)) (HB.mk (i, te, x, P, e) ()) = te x e fun r e1 => opt (rv r e1) <| HB.mk (fun d => iC d <| HB.mk (fun b => i < e1.sl.length ∧ P.nx (e1.setC i (.d (.int (a + b))))) ()) () := by
  show te x e _ = te x e _
  congr 1; funext r e1
  unfold opt iC
  cases rv r e1 with
  | none => rfl
  | some d => cases d <;> rfl
theorem x_aug {i te x P e} : sAug i te x P e = (opt e.sl[i]? <| HB.mk (fun c => augC c (HB.mk (i, te, x, P, e) ())) ()) := by
  unfold sAug opt augC
  cases e.sl[i]? with
  | none => rfl
  | some c =>
    cases c with
    | d d => cases d <;> rfl
    | _ => rfl
end Pu
set_option maxRecDepth 100000
set_option maxHeartbeats 4000000
namespace Pu
open PySem L2
def twoD (ds : List D) (h : HB (D → D → Prop)) : Prop := match ds with
  | [d1, d2] => h.b d1 d2
  | _ => False
theorem twoD_2 {d1 d2 f} : twoD [d1, d2] (HB.mk f ()) = f d1 d2 := rfl
theorem x_par {i j t x P e} : sPar i j t x P e = t x e fun ds e1 => twoD ds <| HB.mk (fun d1 d2 => i < e1.sl.length ∧ j < e1.sl.length ∧ P.nx ((e1.setC i (.d d1)).setC j (.d d2))) () := by
  unfold sPar twoD
  rfl
theorem x_raise {c n t x D e} : sRaise c n t x D e = t x e fun ds e1 => ds.length = n ∧ x ⟨c, ds⟩ e1.st := rfl
theorem x_callX {m t x e Q} : tCallX m t x e Q = t x e fun ds e1 => m ds e1.st (fun c st' => Q c.toR ⟨e1.sl, st'⟩) x := rfl
/-- what the clause does with an exception -/
def trH (n i : Nat) (fl : Nat → List Str) (cb : Nat → Bool) (h : HB (PTS × PEn)) : PX := fun ex st => cb ex.c = true ∧ h.b.1 noX { nx := fun e' => h.b.2.nx (wipeE [i] e'), rt := h.b.2.rt, bk := fun e' => h.b.2.bk (wipeE [i] e'), ct := fun e' => h.b.2.ct (wipeE [i] e') } ⟨(List.replicate n C.un).set i (.d (.exc ex.c (fl ex.c) ex.ds)), st⟩
def noOwn (l : List C) : Prop := (l.all fun c => !c.isOwn) = true
theorem ow_nil : noOwn [] = True := by simp [noOwn]
theorem ow_un {l} : noOwn (.un :: l) = noOwn l := by simp [noOwn, C.isOwn]
theorem ow_d {d l} : noOwn (.d d :: l) = noOwn l := by simp [noOwn, C.isOwn]
theorem x_try {n i fl cb tb ts x D e} : sTry n i fl cb tb ts x D e = (noOwn e.sl ∧ i < n ∧ tb (trH n i fl cb (HB.mk (ts, D) ())) D e) := rfl
theorem x_subA {to ti dv x e Q} : subA to ti dv x e Q = to x e fun ro e3 => hold ro e3 fun ro e3 => ti x e3 fun ri e4 => opt (rv ri e4) <| HB.mk (fun d => iC d <| HB.mk (fun i => setAt ro dv i e4 Q) ()) () := by
  unfold subA opt iC
  congr 1; funext ro e3; congr 1; funext ro e3; congr 1; funext ri e4
  cases rv ri e4 with
  | none => rfl
  | some d => cases d <;> rfl
theorem x_setN {k dv i e Q} : setAt (.nam k) dv i e Q = (opt (mget (.nam k) e) <| HB.mk (fun ds => opt (ixN ds.length i) <| HB.mk (fun j => Q (mset (.nam k) e (ds.set j dv))) ()) ()) := by
  unfold opt
  show (match mget (.nam k) e with | some ds => (match ixN ds.length i with | some j => Q (mset (.nam k) e (ds.set j dv)) | none => False) | none => False) = _
  cases mget (.nam k) e with
  | none => rfl
  | some ds =>
    simp only
    cases ixN ds.length i <;> rfl
def D.two : D → Option (D × D)
  | .tup [a, b] => some (a, b)
  | _ => none
theorem a_two {a b : D} : D.two (.tup [a, b]) = some (a, b) := rfl
theorem x_swIx {te to ti to2 ti2 x P e} : sSwIx te to ti to2 ti2 x P e = te x e fun r0 e1 => fz r0 e1 fun dv e2 => opt dv.two <| HB.mk (fun p => subA to ti p.1 x e2 fun e3 => subA to2 ti2 p.2 x e3 P.nx) () := by
  unfold sSwIx opt
  congr 1; funext r0 e1; congr 1; funext dv e2
  split
  · rfl
  · rename_i h
    cases hd : D.two dv with
    | none => rfl
    | some p =>
      unfold D.two at hd
      split at hd
      · exact absurd rfl (h _ _)
      · cases hd
theorem x_mkX {c ns t x e Q} : tMkX c ns t x e Q = t x e fun ds e1 => ds.length = ns.length ∧ Q (.d (.exc c ns ds)) e1 := rfl
theorem x_mk0 {c x e Q} : tMk0 c x e Q = Q (.d (.exc c [] [])) e := rfl
theorem x_raise0 {c x D e} : sRaise0 c x D e = x ⟨c, []⟩ e.st := rfl
def D.exB (tb : Nat → Option Bool) : D → Option Bool
  | .exc c _ _ => tb c
  | _ => none
theorem a_exB {tb c ns ds} : D.exB tb (.exc c ns ds) = tb c := rfl
theorem a_tbl {bs c} : tbl bs c = bs[c]? := rfl
theorem a_cbl {n c} : cbl n c = decide (c < n) := rfl
theorem x_isX {tb te x e Q} : tIsX tb te x e Q = te x e fun r e1 => opt (rv r e1) <| HB.mk (fun d => opt (d.exB tb) <| HB.mk (fun b => Q (.d (.bl b)) e1) ()) () := by
  unfold tIsX opt
  congr 1; funext r e1
  cases rv r e1 with
  | none => rfl
  | some d =>
    cases d with
    | exc c ns ds =>
      simp only [D.exB]
      cases tb c <;> rfl
    | _ => rfl
def D.exA (n : Str) (cb : Nat → Bool) : D → Option D
  | .exc c ns ds => if cb c = true then xlk n ns ds else none
  | _ => none
theorem x_xattr {n cb te x e Q} : tXA n cb te x e Q = te x e fun r e1 => opt (rv r e1) <| HB.mk (fun d => opt (d.exA n cb) <| HB.mk (fun y => Q (.d y) e1) ()) () := by
  unfold tXA opt
  congr 1; funext r e1
  cases rv r e1 with
  | none => rfl
  | some d =>
    cases d with
    | exc c ns ds =>
      simp only [D.exA]
      cases cb c with
      | false => exact propext ⟨fun h => absurd h.1 Bool.false_ne_true, fun h => h.elim⟩
      | true =>
        simp only [true_and, if_true]
        cases xlk n ns ds <;> rfl
    | _ => rfl
end Pu
set_option maxRecDepth 100000
set_option maxHeartbeats 4000000
namespace Pu
open PySem L2 PySem.Spec PyProof.Rows PuE
theorem x_dictT0 {x e Q} : tDictT0 x e Q = Q (.dT []) e := rfl
theorem x_aT {i d e Q} : asgR i (.dT d) e Q = Q (e.setC i (.dT d)) := rfl
theorem toR_T {d} : C.toR (.dT d) = .dT d := rfl
theorem toR_K {d} : C.toR (.dK d) = .dK d := rfl
theorem retC_dT {D d e} : retC (.dT d) (HB.mk (D, e) ()) = D.rt (.dT d) e := rfl
theorem retC_dK {D d e} : retC (.dK d) (HB.mk (D, e) ()) = D.rt (.dK d) e := rfl
theorem x_retT {D d e} : retR D (.dT d) e = D.rt (.dT d) e := rfl
theorem x_retK {D d e} : retR D (.dK d) e = D.rt (.dK d) e := rfl
def tgC : Option C → Option (List (List Key × D))
  | some (.dT ds) => some ds
  | _ => none
theorem tgC_dT {ds} : tgC (some (.dT ds)) = some ds := rfl
theorem x_tgg {i e} : tget (.nam i) e = tgC e.sl[i]? := by
  show (match e.sl[i]? with | some (.dT ds) => some ds | _ => none) = _
  unfold tgC
  cases e.sl[i]? with
  | none => rfl
  | some c => cases c <;> rfl
theorem x_tgRn {i e} : tgetR (.nam i) e = tget (.nam i) e := rfl
theorem x_tgRf {ks ds e} : tgetR (.d (.dct ks ds)) e = some (ks.zip ds) := rfl
theorem x_tss {i e ds} : tset (.nam i) e ds = e.setC i (.dT ds) := rfl
theorem tupK_t {ds} : tupK (.tup ds) = keyL ds := rfl
def consK : Option Key → Option (List Key) → Option (List Key)
  | some k, some ks => some (k :: ks)
  | _, _ => none
theorem consK_s {k ks} : consK (some k) (some ks) = some (k :: ks) := rfl
theorem keyL_n : keyL [] = some [] := rfl
theorem keyL_c {d ds} : keyL (d :: ds) = consK (keyD d) (keyL ds) := by
  rw [keyL]
  cases keyD d with
  | none => rfl
  | some k => simp only; cases keyL ds <;> rfl
theorem x_dgT {to ti x e Q} : tDGT to ti x e Q = to x e fun r e1 => hold r e1 fun r e1 => ti x e1 fun ri e2 => opt (tgetR r e2) <| HB.mk (fun kvs => opt (rv ri e2) <| HB.mk (fun kd => opt (tupK kd) <| HB.mk (fun k => opt (getA kvs k) <| HB.mk (fun d => Q (.d d) e2) ()) ()) ()) () := by
  unfold tDGT opt
  congr 1; funext r e1; congr 1; funext r e1; congr 1; funext ri e2
  cases tgetR r e2 with
  | none => rfl
  | some kvs =>
    simp only
    cases rv ri e2 with
    | none => rfl
    | some kd =>
      simp only
      cases tupK kd with
      | none => rfl
      | some k => simp only; cases getA kvs k <;> rfl
theorem x_dptT {te to ti x P e} : sDPtT te to ti x P e = te x e fun r0 e1 => fz r0 e1 fun dv e2 => to x e2 fun ro e3 => hold ro e3 fun ro e3 => ti x e3 fun ri e4 => opt (tget ro e4) <| HB.mk (fun kvs => opt (rv ri e4) <| HB.mk (fun kd => opt (tupK kd) <| HB.mk (fun k => kvs.length < sizeLine ∧ P.nx (tset ro e4 (setA kvs k dv))) ()) ()) () := by
  unfold sDPtT opt
  congr 1; funext r e1; congr 1; funext r e1; congr 1; funext ri e2; congr 1; funext ri e2; congr 1; funext ri2 e4
  cases tget ri e4 with
  | none => rfl
  | some kvs =>
    simp only
    cases rv ri2 e4 with
    | none => rfl
    | some kd =>
      simp only
      cases tupK kd <;> rfl
theorem x_callT {p t x e Q} : tCallT p t x e Q = t x e fun rs e1 => oneR rs <| HB.mk (fun r => opt (tgetR r e1) <| HB.mk (fun kvs => p kvs fun r => Q r e1) ()) () := by
  unfold tCallT opt oneR
  congr 1; funext rs e1
  match rs with
  | [] => rfl
  | [r] => simp only; cases tgetR r e1 <;> rfl
  | _ :: _ :: _ => rfl
theorem a_lenTT {kvs Q} : pLenT kvs Q = Q (.d (.int kvs.length)) := rfl
theorem a_listT {kvs Q} : pListT kvs Q = (kvs.length ≤ sizeLine ∧ (∀ kv ∈ kvs, kv.1.length ≤ sizeLine ∧ kv.1.all isIK = true) ∧ Q (.own (kvs.map fun kv => .tup (kv.1.map invK)))) := rfl
theorem a_dictT {ds Q} : pDictT [.lst ds] Q = (opt (pairsT ds) <| HB.mk (fun kvs => Q (.dT (mergeA [] kvs))) ()) := by
  unfold pDictT opt
  simp only
  cases pairsT ds <;> rfl
theorem a_dictK {ds Q} : pDictK [.lst ds] Q = (opt (pairsK ds) <| HB.mk (fun kvs => Q (.dK (mergeA [] kvs))) ()) := by
  unfold pDictK opt
  simp only
  cases pairsK ds <;> rfl
theorem x_chn {g g' ta tb tc x e Q} : tChn g g' ta tb tc x e Q = ta x e fun r0 e1 => opt (rv r0 e1) <| HB.mk (fun d => iC d <| HB.mk (fun i => tb x e1 fun r1 e2 => opt (rv r1 e2) <| HB.mk (fun d => iC d <| HB.mk (fun j => br (g i j) (HB.mk ((tc x e2 fun r2 e3 => opt (rv r2 e3) <| HB.mk (fun d => iC d <| HB.mk (fun k => Q (.d (.bl (g' j k))) e3) ()) ()), (Q (.d (.bl false)) e2)) ())) ()) ()) ()) () := by
  unfold tChn opt iC br
  congr 1; funext r0 e1
  cases rv r0 e1 with
  | none => rfl
  | some d =>
    cases d with
    | int i =>
      simp only
      congr 1; funext r1 e2
      cases rv r1 e2 with
      | none => rfl
      | some d =>
        cases d with
        | int j =>
          simp only
          congr 1
          congr 1; funext r2 e3
          cases rv r2 e3 with
          | none => rfl
          | some d => cases d <;> rfl
        | _ => rfl
    | _ => rfl
theorem a_mmT {f : Int → List Int → Int} {i j : Int} {Q} : pMMI f [.tup [.int i, .int j]] Q = Q (.d (.int (f i [j]))) := rfl
theorem fold1 {f : Int → Int → Int} {i j : Int} : [j].foldl f i = f i j := rfl
def sortNH (d : D) (h : HB (R → Prop)) : Prop := pSortN [d] h.b
theorem x_sortN {d Q} : pSortN [d] Q = sortNH d (HB.mk Q ()) := rfl
def nT (l : List Nat) : List Itm := l.map fun n : Nat => (Sum.inl (n : Int) : Itm)
end Pu
set_option maxRecDepth 100000
set_option maxHeartbeats 4000000
namespace Pu
open PySem L2
theorem a_lenSS {ds Q} : pLenS (.lst ds) Q = (opt (strL ds) <| HB.mk (fun ls => ls.length < 64 ∧ Q (.d (.int (unlT ls)))) ()) := by
  unfold opt
  show (match strL ds with | some ls => _ | none => False) = _
  cases strL ds <;> rfl
theorem a_ltT {xs ys Q} : pLtT (.tup xs) (.tup ys) Q = (opt (intL xs) <| HB.mk (fun ns => opt (intL ys) <| HB.mk (fun ms => Q (.d (.bl (HT.lexLt ns ms)))) ()) ()) := by
  unfold opt
  show (match intL xs, intL ys with | some ns, some ms => _ | _, _ => False) = _
  cases intL xs with
  | none => rfl
  | some ns => cases intL ys <;> rfl
theorem intL_n : intL [] = some [] := rfl
def consI (i : Int) : Option (List Int) → Option (List Int)
  | some l => some (i :: l)
  | none => none
theorem consI_s {i l} : consI i (some l) = some (i :: l) := rfl
theorem intL_c {i ds} : intL (.int i :: ds) = consI i (intL ds) := by
  rw [intL]
  cases intL ds <;> rfl
def consS (i : List Nat) : Option (List (List Nat)) → Option (List (List Nat))
  | some l => some (i :: l)
  | none => none
theorem consS_s {i l} : consS i (some l) = some (i :: l) := rfl
theorem strL_n : strL [] = some [] := rfl
theorem strL_c {i ds} : strL (.str i :: ds) = consS i (strL ds) := by
  rw [strL]
  cases strL ds <;> rfl
theorem x_chn3 {g1 g2 g3 ta tb tc td x e Q} : tChn3 g1 g2 g3 ta tb tc td x e Q = ta x e fun r0 e1 => opt (rv r0 e1) <| HB.mk (fun d => iC d <| HB.mk (fun i => tb x e1 fun r1 e2 => opt (rv r1 e2) <| HB.mk (fun d => iC d <| HB.mk (fun j => br (g1 i j) (HB.mk ((tc x e2 fun r2 e3 => opt (rv r2 e3) <| HB.mk (fun d => iC d <| HB.mk (fun k => br (g2 j k) (HB.mk ((td x e3 fun r3 e4 => opt (rv r3 e4) <| HB.mk (fun d => iC d <| HB.mk (fun l => Q (.d (.bl (g3 k l))) e4) ()) ()), (Q (.d (.bl false)) e3)) ())) ()) ()), (Q (.d (.bl false)) e2)) ())) ()) ()) ()) () := by
  unfold tChn3 opt iC br
  congr 1; funext r0 e1
  cases rv r0 e1 with
  | none => rfl
  | some d =>
    cases d with
    | int i =>
      simp only
      congr 1; funext r1 e2
      cases rv r1 e2 with
      | none => rfl
      | some d =>
        cases d with
        | int j =>
          simp only
          congr 1
          congr 1; funext r2 e3
          cases rv r2 e3 with
          | none => rfl
          | some d =>
            cases d with
            | int k =>
              simp only
              congr 1
              congr 1; funext r3 e4
              cases rv r3 e4 with
              | none => rfl
              | some d => cases d <;> rfl
            | _ => rfl
        | _ => rfl
    | _ => rfl
end Pu
set_option maxRecDepth 100000
set_option maxHeartbeats 4000000
namespace Pu
open PySem L2
end Pu
set_option maxRecDepth 100000
set_option maxHeartbeats 4000000
namespace Pu
open PySem L2
theorem a_dictN {ds Q} : pDictN [.lst ds] Q = (opt (pairsN ds) <| HB.mk (fun kvs => (kvs.map (·.1)).Nodup ∧ (∀ p ∈ kvs, p.1.depth ≤ 8 ∧ ∃ ds, p.2.1 = .tup ds) ∧ Q (.d (.dcn (kvs.map (·.2.1)) (kvs.map (·.2.2))))) ()) := by
  unfold pDictN opt
  simp only
  cases pairsN ds <;> rfl
theorem a_gN {ks is kd Q} : pGN (.dcn ks is) kd Q = (opt (getN ks is kd) <| HB.mk (fun i => Q (.d (.int i))) ()) := by
  unfold opt
  show (match getN ks is kd with | some i => Q (.d (.int i)) | none => False) = _
  cases getN ks is kd <;> rfl
theorem x_gls {n t ds e Q} : gLs n t (.lst ds) e Q = (ds.length = n ∧ t ds e Q) := rfl
def tC (d : D) (h : HB (List D → Prop)) : Prop := match d with
  | .tup s => h.b s
  | _ => False
theorem tC_s {b f} : tC (.tup b) (HB.mk f ()) = f b := rfl
theorem x_revT {t x e Q} : iRevT t x e Q = t x e fun r e1 => fz r e1 fun d e2 => tC d <| HB.mk (fun s => Q s.reverse e2) () := by
  unfold iRevT tC
  congr 1
end Pu
set_option maxRecDepth 100000
set_option maxHeartbeats 4000000
namespace Pu
open PySem L2
theorem x_chS {g g' ta tb tc x e Q} : tChS g g' ta tb tc x e Q = ta x e fun r0 e1 => opt (rv r0 e1) <| HB.mk (fun d => sC d <| HB.mk (fun i => tb x e1 fun r1 e2 => opt (rv r1 e2) <| HB.mk (fun d => sC d <| HB.mk (fun j => br (g i j) (HB.mk ((tc x e2 fun r2 e3 => opt (rv r2 e3) <| HB.mk (fun d => sC d <| HB.mk (fun k => Q (.d (.bl (g' j k))) e3) ()) ()), (Q (.d (.bl false)) e2)) ())) ()) ()) ()) () := by
  unfold tChS opt sC br
  congr 1; funext r0 e1
  cases rv r0 e1 with
  | none => rfl
  | some d =>
    cases d with
    | str i =>
      simp only
      congr 1; funext r1 e2
      cases rv r1 e2 with
      | none => rfl
      | some d =>
        cases d with
        | str j =>
          simp only
          congr 1
          congr 1; funext r2 e3
          cases rv r2 e3 with
          | none => rfl
          | some d => cases d <;> rfl
        | _ => rfl
    | _ => rfl
end Pu
set_option maxRecDepth 100000
set_option maxHeartbeats 4000000
namespace Pu
open PySem L2 PuE
def ltNH (d e : D) (h : HB (R → Prop)) : Prop := pLtN d e h.b
theorem x_ltN {d e Q} : pLtN d e Q = ltNH d e (HB.mk Q ()) := rfl
/-- what the clause without a name does with an exception -/
def trH0 (n : Nat) (cb : Nat → Bool) (h : HB (PTS × PEn)) : PX := fun ex st => cb ex.c = true ∧ h.b.1 noX h.b.2 ⟨List.replicate n C.un, st⟩
theorem x_try0 {n cb tb ts x D e} : sTry0 n cb tb ts x D e = (noOwn e.sl ∧ tb (trH0 n cb (HB.mk (ts, D) ())) D e) := rfl
end Pu
set_option maxRecDepth 100000
set_option maxHeartbeats 4000000
namespace Pu
open PySem L2
section
variable {Γ Γ' : Gm} {κ κ' : Ka} {H H' : Hp} {env env' : En} {σ : Sl} {v : V} {st : Sto} {Y : Fam} {e o value : Expr} {te tv : PTE} {pos pos' : Pos}
/-- an attribute of an object of the class c -/
def getF (c : Nat) (f : Str) (st : Sto) : D → Option D
  | .ref k => match st[k]? with
    | some (.ins c' fs) => if c' = c then fs.lookup f else none
    | _ => none
  | _ => none
def tFldP (c : Nat) (f : Str) (te : PTE) : PTE := fun x e Q => te x e fun r e1 => match rv r e1 with
  | some d => match getF c f e1.st d with
    | some y => Q (.d y) e1
    | none => False
  | none => False
theorem Gh.put_obj {a : Addr} {so : SO} (g : Gh Γ κ st H) (h : κ a = none) (h0 : Γ.H0 a = none) (ht : H a ≠ none) (hr : ObjR Γ (put κ a (.obj st.length)) H a so) : Gh Γ (put κ a (.obj st.length)) (st ++ [so]) H := by
  have nk : Γ.k0 a = none := by
    cases q : Γ.k0 a with
    | none => rfl
    | some x => have := g.sub a x q; rw [h] at this; cases this
  have ne : ∀ b x, κ b = some x → b ≠ a := fun b x e z => by rw [z, h] at e; cases e
  have lt : ∀ b k, κ b = some (.obj k) → k < st.length := fun b k e => by
    obtain ⟨so, h1, _⟩ := g.obj b k e
    exact (List.getElem?_eq_some_iff.mp h1).1
  refine ⟨fun b x e => (Ext.put (H := H) h).1 b x (g.sub b x e), fun b x e => ?_, fun b x e => ?_, g.trk0, fun b e => ?_, fun b k e => ?_, fun b c k e1 e2 => ?_, g.base⟩
  · by_cases hb : b = a
    · subst hb; exact .inr (.inl h0)
    · rw [put_ne hb] at e; exact g.new b x e
  · by_cases hb : b = a
    · subst hb; exact ht
    · rw [put_ne hb] at e; exact g.trk b x e
  · by_cases hb : b = a
    · subst hb; rw [put_same] at e; cases e
    · rw [put_ne hb] at e; exact g.box b e
  · by_cases hb : b = a
    · subst hb
      rw [put_same] at e
      cases e
      exact ⟨so, by simp, hr⟩
    · rw [put_ne hb] at e
      obtain ⟨so', h1, h2⟩ := g.obj b k e
      exact ⟨so', by rw [List.getElem?_append_left (lt b k e)]; exact h1, h2.ext (Ext.put h) rfl⟩
  · by_cases hb : b = a
    · subst hb
      by_cases hc : c = b
      · exact hc.symm
      · rw [put_same] at e1
        rw [put_ne hc] at e2
        cases e1
        exact absurd (lt c _ e2) (by omega)
    · rw [put_ne hb] at e1
      by_cases hc : c = a
      · subst hc
        rw [put_same] at e2
        cases e2
        exact absurd (lt b _ e1) (by omega)
      · rw [put_ne hc] at e2
        exact g.inj b c k e1 e2
/-- what is kept in an object: data, or a new list or dict as an object of its own -/
def kp : R → En → (D → En → Prop) → Prop
  | .d d, e, Q => Q d e
  | .own ds, e, Q => Q (.ref e.st.length) ⟨e.sl, e.st ++ [.lst ds]⟩
  | .dK kvs, e, Q => Q (.ref e.st.length) ⟨e.sl, e.st ++ [.dK kvs]⟩
  | .dT kvs, e, Q => Q (.ref e.st.length) ⟨e.sl, e.st ++ [.dT kvs]⟩
  | .nam i, e, Q => match e.sl[i]? with
    | some (.d d) => Q d e
    | _ => False
theorem kp_own {a : Addr} {so : SO} {Q : D → En → Prop} {P : Prop} (I : Rl Γ κ env σ H) (h : κ a = none) (h0 : Γ.H0 a = none) (ht : H a ≠ none) (ho : ∀ i, ¬ OwnS env σ i a) (hr : ∀ κ', Ext κ H κ' H → ObjR Γ κ' H a so)
    (q : Q (.ref env.st.length) ⟨env.sl, env.st ++ [so]⟩) (k : ∀ κ' d env', Ext κ H κ' H → Rl Γ κ' env' σ H → Rep Γ.K Γ.cls κ' H (.ref a) d → Q d env' → P) : P := by
  have x : Ext κ H (put κ a (.obj env.st.length)) H := Ext.put h
  refine k _ _ _ x (I.step x (fun i b hb => ⟨?_, rfl⟩) (I.gh.put_obj h h0 ht (hr _ x))) (.ref put_same) q
  have hba : b ≠ a := fun z => ho i (z ▸ hb)
  rw [put_ne hba]
  obtain ⟨c, _, hc⟩ := I.ownS hb
  exact hc.facts.1
theorem kp_ok {r : R} {Q : D → En → Prop} {P : Prop} (I : Rl Γ κ env σ H) (h : RelR Γ κ H env σ v r) (q : kp r env Q)
    (k : ∀ κ' d env', Ext κ H κ' H → Rl Γ κ' env' σ H → Rep Γ.K Γ.cls κ' H v d → Q d env' → P) : P := by
  cases r with
  | d d => exact k κ d env (.refl ..) I h q
  | own ds =>
    obtain ⟨a, rfl, hc, ho⟩ := h
    obtain ⟨f1, f2, f3⟩ := hc.facts
    obtain ⟨_, _, vs, h1, h2, h3⟩ := hc
    exact kp_own (so := .lst ds) I f1 f2 f3 ho (fun κ' x => ⟨vs, h1, h2, h3.mono x⟩) q k
  | dK ds =>
    obtain ⟨a, rfl, hc, ho⟩ := h
    obtain ⟨f1, f2, f3⟩ := hc.facts
    obtain ⟨_, _, vs, h1, h3⟩ := hc
    exact kp_own (so := .dK ds) I f1 f2 f3 ho (fun κ' x => ⟨vs, h1, h3.mono x⟩) q k
  | dT ds =>
    obtain ⟨a, rfl, hc, ho⟩ := h
    obtain ⟨f1, f2, f3⟩ := hc.facts
    obtain ⟨_, _, vs, h1, h3⟩ := hc
    exact kp_own (so := .dT ds) I f1 f2 f3 ho (fun κ' x => ⟨vs, h1, h3.mono x⟩) q k
  | nam i =>
    have h : σ[i]? = some (some v) := h
    unfold kp at q
    simp only at q
    cases c : env.sl[i]? with
    | none => rw [c] at q; exact q.elim
    | some y =>
      rw [c] at q
      cases y with
      | d d =>
        obtain ⟨w, e1, r⟩ := I.get c
        rw [h] at e1
        cases e1
        exact k κ d env (.refl ..) I r q
      | _ => exact q.elim
def setFD (f : Str) (d : D) : List (Str × D) → List (Str × D)
  | [] => [(f, d)]
  | (g, x) :: r => if g = f then (g, d) :: r else (g, x) :: setFD f d r
def putFS (c : Nat) (f : Str) (d : D) (ro : D) (e : En) (N : En → Prop) : Prop := match ro with
  | .ref k => match e.st[k]? with
    | some (.ins c' fs) => c' = c ∧ fs.length < 1000 ∧ N ⟨e.sl, e.st.set k (.ins c (setFD f d fs))⟩
    | _ => False
  | _ => False
def sFldP (c : Nat) (f : Str) (te tv : PTE) : PTS := fun x P e => tv x e fun r0 e1 => kp r0 e1 fun d e2 => te x e2 fun ro e3 => match rv ro e3 with
  | some o => putFS c f d o e3 P.nx
  | none => False
end
end Pu
set_option maxRecDepth 100000
set_option maxHeartbeats 4000000
namespace Pu
open PySem L2 PySem.Spec PyProof.Rows
section
variable {Γ Γ' : Gm} {κ κ' : Ka} {H H' : Hp} {env env' : En} {σ : Sl} {v : V} {st : Sto} {Y : Fam} {e o value : Expr} {es : List Expr} {to : PTE} {t : PTA} {pos apos p : Pos}
/-- an object of the class c that has no attribute of the name -/
def noF (c : Nat) (f : Str) (st : Sto) (d : D) : Prop := match d with
  | .ref k => match st[k]? with
    | some (.ins c' fs) => c' = c ∧ fs.lookup f = none
    | _ => False
  | _ => False
def tMethP (c : Nat) (nm : Str) (m : PM) (to : PTE) (t : PTA) : PTE := fun x e Q => to x e fun ro e1 => match rv ro e1 with
  | some d => noF c nm e1.st d ∧ t x e1 fun ds e2 => m (d :: ds) e2.st fun c st' => Q c.toR ⟨e2.sl, st'⟩
  | none => False
def tMakeP (c : Nat) (m : PM) (t : PTA) : PTE := fun x e Q => t x e fun ds e1 => m (.ref e1.st.length :: ds) (e1.st ++ [.ins c []]) fun r st' => r = .d .non ∧ Q (.d (.ref e1.st.length)) ⟨e1.sl, st'⟩
end
end Pu
set_option maxRecDepth 100000
set_option maxHeartbeats 4000000
namespace Pu
open PySem L2 PySem.Spec PyProof.Rows
section
variable {Γ Γ' : Gm} {κ κ' : Ka} {H H' : Hp} {env env' : En} {σ : Sl} {v : V} {st : Sto} {Y : Fam} {a b e o value : Expr} {te tv ta tb : PTE} {pos pos' : Pos}
def sFldZ (c : Nat) (f : Str) (te tv : PTE) : PTS := fun x P e => tv x e fun r0 e1 => fz r0 e1 fun d e2 => te x e2 fun ro e3 => match rv ro e3 with
  | some o => putFS c f d o e3 P.nx
  | none => False
/-- what a value reads as: a list of the store as its things -/
def rdO (st : Sto) : D → D
  | .ref k => match st[k]? with
    | some (.lst ds) => .lst ds
    | _ => .ref k
  | d => d
def t2O (ta tb : PTE) (p : D → D → (R → Prop) → Prop) : PTE := fun x env Q => ta x env fun r1 e1 => hold r1 e1 fun r1 e1 => tb x e1 fun r2 e2 =>
  match rv r1 e2, rv r2 e2 with
  | some d1, some d2 => p (rdO e2.st d1) (rdO e2.st d2) (fun r => Q r e2)
  | _, _ => False
end
end Pu
set_option maxRecDepth 100000
set_option maxHeartbeats 4000000
namespace PuE
open PySem PySem.Spec PyProof.Rows L2
end PuE
namespace Pu
open PySem L2 PuE
section
variable {Γ Γ' : Gm} {κ κ' : Ka} {H H' : Hp} {env env' : En} {σ : Sl} {v : V} {st : Sto} {Y : Fam} {a b c d e : Expr} {es : List Expr} {ta tb tc td te : PTE} {pos : Pos}
def pGtN (d e : D) (Q : R → Prop) : Prop := match d, e with
  | .tup xs, .tup ys => match itsD xs, itsD ys with
    | some l, some m => l.map isS = m.map isS ∧ Q (.d (.bl (ltN m l)))
    | _, _ => False
  | _, _ => False
end
end Pu
set_option maxRecDepth 100000
set_option maxHeartbeats 4000000
namespace PuE
open PySem PySem.Spec PyProof.Rows L2
/-- the first place of a pair -/
def ixPr (k : Int × Int) (ps : List (Int × Int)) : Nat := @List.idxOf _ instBEqOfDecidableEq k ps
end PuE
namespace Pu
open PySem L2 PuE
section
variable {Γ Γ' : Gm} {κ κ' : Ka} {H H' : Hp} {env env' : En} {σ : Sl} {v : V} {st : Sto} {Y : Fam} {a b e o : Expr} {es : List Expr} {ta tb te to : PTE} {pos : Pos}
def prI : D → Option (Int × Int)
  | .tup [.int a, .int b] => some (a, b)
  | _ => none
def prsI : List D → Option (List (Int × Int))
  | [] => some []
  | d :: ds => (prI d).bind fun p => (prsI ds).map fun ps => p :: ps
def pIndexT (d : D) (ds : List D) (Q : R → Prop) : Prop := match d, ds with
  | .tup l, [y] => match prsI l, prI y with
    | some ps, some k => k ∈ ps ∧ Q (.d (.int (ixPr k ps : Nat)))
    | _, _ => False
  | _, _ => False
def tMethT (p : D → List D → (R → Prop) → Prop) (to : PTE) (t : PTR) : PTE := fun x e Q => to x e fun r e1 => hold r e1 fun r e1 => (match rv r e1 with
  | some (.tup ds) => ordL ds = true
  | _ => False) ∧ t x e1 fun rs e2 => match rv r e2, rvL rs e2 with
    | some d, some ds => p d ds (fun r => Q r e2)
    | _, _ => False
end
end Pu
set_option maxRecDepth 100000
set_option maxHeartbeats 4000000
namespace PuE
open PySem PySem.Spec PyProof.Rows L2
end PuE
namespace Pu
open PySem L2 PuE
section
variable {Γ Γ' : Gm} {κ κ' : Ka} {H H' : Hp} {env env' : En} {σ : Sl} {v : V} {st : Sto} {Y : Fam} {a b c d e o : Expr} {es : List Expr} {ta tb tc td te to : PTE} {pos : Pos}
def pSplit (d : D) (ds : List D) (Q : R → Prop) : Prop := match d, ds with
  | .str l, [.str s] => s ≠ [] ∧ s.all (· < 256) = true ∧ l.length + 2 ≤ 16777216 ∧ Q (.own ((TL.spl s 0 [] l).map D.str))
  | _, _ => False
def pStrI : List D → (R → Prop) → Prop
  | [.int i], Q => 0 ≤ i ∧ i < 2 ^ 64 ∧ Q (.d (.str (TL.numL i.toNat)))
  | _, _ => False
def pIntS : List D → (R → Prop) → Prop
  | [.str a], Q => a.all (fun c => decide (48 ≤ c) && decide (c ≤ 57)) = true ∧ a ≠ [] ∧ a.length ≤ 640 ∧ Q (.d (.int (NumText.digitsVal a : Nat)))
  | _, _ => False
def f3I (d : D) (h : HB (Int → Prop)) : Prop := match d with
  | .int i => 0 ≤ i ∧ i < 2 ^ 64 ∧ h.b i
  | _ => False
def tFs3P (ta : PTE) (s : List Nat) (tb : PTE) : PTE := fun x e Q => ta x e fun r e1 => fz r e1 fun d1 e2 => f3I d1 (HB.mk (fun i => tb x e2 fun r2 e3 => fz r2 e3 fun d2 e4 => f3I d2 (HB.mk (fun j => Q (.d (.str (TL.numL i.toNat ++ s ++ TL.numL j.toNat))) e4) ())) ())
end
end Pu
set_option maxRecDepth 100000
set_option maxHeartbeats 4000000
namespace PuE
open PySem PySem.Spec PyProof.Rows L2 PySem.W
def Izs (K : PySem.W.Frag) (a : Str) (tb : Bool) (b : Addr) : It :=
  ⟨fun i H => ∃ (c : Nat) (ys : List V) (y : V), SqB K H tb b ys ∧ a.cps[i]? = some c ∧ ys[i]? = some y,
    fun i H v H' => ∃ T c y, v = .ref T ∧ H T = none ∧ H' = upd H T (.tup [.str ⟨#[c]⟩, y]) ∧ a.cps[i]? = some c ∧ ∀ ys, SqB K H tb b ys → ys[i]? = some y,
    fun i H => ∃ ys : List V, SqB K H tb b ys ∧ i ≤ a.cps.size ∧ i ≤ ys.length ∧ (i = a.cps.size ∨ i = ys.length)⟩
def iZipS (K : PySem.W.Frag) (ta : TA) : TI := fun σ H R => ta σ H fun vs H1 => ∃ a b t2 ys, vs = [.str a, .ref b] ∧ SqB K H1 t2 b ys ∧ R (Izs K a t2 b) H1
end PuE
namespace Pu
open PySem L2 PySem.Spec PyProof.Rows
section
variable {Γ Γ' : Gm} {κ κ' : Ka} {H H' : Hp} {env env' : En} {σ : Sl} {v : V} {st : Sto} {Y : Fam} {a b e o : Expr} {es : List Expr} {ta tb te to ti : PTE} {pos : Pos}
def iZipS (t : PTR) : PTI := fun x e Q => t x e fun rs e1 => match rs with
  | [r1, r2] => fz r1 e1 fun d1 e2 => fz r2 e2 fun d2 e3 => match d1, d2.side with
    | .str l, some (_, es) => Q (zipF (signs l) es) e3
    | _, _ => False
  | _ => False
end
end Pu
set_option maxRecDepth 100000
set_option maxHeartbeats 4000000
namespace Pu
open PySem L2 PySem.Spec PyProof.Rows
section
variable {Γ Γ' : Gm} {κ κ' : Ka} {H H' : Hp} {env env' : En} {σ : Sl} {v : V} {st : Sto} {Y : Fam} {a b e o : Expr} {es : List Expr} {ta tb te to ti : PTE} {pos : Pos}
def sParO (i j : Nat) (ta tb : PTE) : PTS := fun x D e => ta x e fun r1 e1 => fz r1 e1 fun d1 e2 => tb x e2 fun r2 e3 => i < e3.sl.length ∧ j < e3.sl.length ∧ asgR j r2 e3 fun e4 => D.nx (e4.setC i (.d d1))
end
end Pu
set_option maxRecDepth 100000
set_option maxHeartbeats 4000000
namespace Pu
open PySem L2 PuE
def kF (r : R) (e : En) (h : HB (Nat × Str × (R → En → Prop))) : Prop := opt (rv r e) (HB.mk (fun d => opt (getF h.b.1 h.b.2.1 e.st d) (HB.mk (fun y => h.b.2.2 (.d y) e) ())) ())
theorem x_fld {c f te x e Q} : tFldP c f te x e Q = te x e fun r e1 => kF r e1 (HB.mk (c, f, Q) ()) := by
  unfold tFldP kF opt
  congr 1; funext r e1
  cases rv r e1 with
  | none => rfl
  | some d =>
    simp only
    cases getF c f e1.st d <;> rfl
theorem x_kF {r e c f Q} : kF r e (HB.mk (c, f, Q) ()) = opt (rv r e) (HB.mk (fun d => opt (getF c f e.st d) (HB.mk (fun y => Q (.d y) e) ())) ()) := rfl
def putH (d : D) (o : D) (e : En) (h : HB (Nat × Str × (En → Prop))) : Prop := putFS h.b.1 h.b.2.1 d o e h.b.2.2
def kSF (d : D) (ro : R) (e : En) (h : HB (Nat × Str × (En → Prop))) : Prop := opt (rv ro e) (HB.mk (fun o => putH d o e h) ())
theorem x_kSF {d ro e h} : kSF d ro e h = opt (rv ro e) (HB.mk (fun o => putH d o e h) ()) := rfl
theorem x_sfldZ {c f te tv x P e} : sFldZ c f te tv x P e = tv x e fun r0 e1 => fz r0 e1 fun d e2 => te x e2 fun ro e3 => kSF d ro e3 (HB.mk (c, f, P.nx) ()) := by
  unfold sFldZ kSF opt putH
  congr 1; funext r0 e1; congr 1; funext d e2; congr 1; funext ro e3
  cases rv ro e3 <;> rfl
theorem x_sfldP {c f te tv x P e} : sFldP c f te tv x P e = tv x e fun r0 e1 => kp r0 e1 fun d e2 => te x e2 fun ro e3 => kSF d ro e3 (HB.mk (c, f, P.nx) ()) := by
  unfold sFldP kSF opt putH
  congr 1; funext r0 e1; congr 1; funext d e2; congr 1; funext ro e3
  cases rv ro e3 <;> rfl
theorem x_kpd {d e Q} : kp (.d d) e Q = Q d e := rfl
theorem x_kpo {ds e Q} : kp (.own ds) e Q = Q (.ref e.st.length) ⟨e.sl, e.st ++ [.lst ds]⟩ := rfl
theorem x_kpK {ds e Q} : kp (.dK ds) e Q = Q (.ref e.st.length) ⟨e.sl, e.st ++ [.dK ds]⟩ := rfl
theorem x_kpT {ds e Q} : kp (.dT ds) e Q = Q (.ref e.st.length) ⟨e.sl, e.st ++ [.dT ds]⟩ := rfl
def kpC (c : C) (h : HB (En × (D → En → Prop))) : Prop := match c with
  | .d d => h.b.2 d h.b.1
  | _ => False
theorem x_kpC {d e Q} : kpC (.d d) (HB.mk (e, Q) ()) = Q d e := rfl
theorem x_kpn {i e Q} : kp (.nam i) e Q = opt e.sl[i]? (HB.mk (fun c => kpC c (HB.mk (e, Q) ())) ()) := by
  show (match e.sl[i]? with | some (.d d) => Q d e | _ => False) = _
  unfold opt
  cases e.sl[i]? with
  | none => rfl
  | some c => cases c <;> rfl
def k2cO (o1 o2 : Option D) (e : En) (h : HB ((D → D → (R → Prop) → Prop) × (R → En → Prop))) : Prop := match o1, o2 with
  | some a, some b => h.b.1 (rdO e.st a) (rdO e.st b) fun r => h.b.2 r e
  | _, _ => False
def k2bO (r1 r2 : R) (e : En) (h : HB ((D → D → (R → Prop) → Prop) × (R → En → Prop))) : Prop := k2cO (rv r1 e) (rv r2 e) e h
def k2aO (r : R) (e : En) (h : HB (PTE × PX × (D → D → (R → Prop) → Prop) × (R → En → Prop))) : Prop := hold r e fun r e => h.b.1 h.b.2.1 e fun r2 e2 => k2bO r r2 e2 (HB.mk h.b.2.2 ())
theorem x_2O {ta tb p x e Q} : t2O ta tb p x e Q = ta x e fun r1 e1 => k2aO r1 e1 (HB.mk (tb, x, p, Q) ()) := by
  unfold t2O k2aO k2bO k2cO
  rfl
theorem x_k2adO {d tb p x e Q} : k2aO (.d d) e (HB.mk (tb, x, p, Q) ()) = tb x e fun r2 e2 => k2bO (.d d) r2 e2 (HB.mk (p, Q) ()) := rfl
theorem x_k2aoO {d tb p x e Q} : k2aO (.own d) e (HB.mk (tb, x, p, Q) ()) = tb x e fun r2 e2 => k2bO (.d (.lst d)) r2 e2 (HB.mk (p, Q) ()) := rfl
theorem x_k2anO {i tb p x e Q} : k2aO (.nam i) e (HB.mk (tb, x, p, Q) ()) = tb x e fun r2 e2 => k2bO (.nam i) r2 e2 (HB.mk (p, Q) ()) := rfl
theorem x_k2bO {r1 r2 e h} : k2bO r1 r2 e h = k2cO (rv r1 e) (rv r2 e) e h := rfl
theorem x_k2cO {a b e p Q} : k2cO (some a) (some b) e (HB.mk (p, Q) ()) = p (rdO e.st a) (rdO e.st b) fun r => Q r e := rfl
def kIM (ro : R) (e : En) (h : HB (Nat × Str × PTA × PX × PM × (R → En → Prop))) : Prop := opt (rv ro e) (HB.mk (fun d => noF h.b.1 h.b.2.1 e.st d ∧ h.b.2.2.1 h.b.2.2.2.1 e fun ds e2 => kCa (d :: ds) e2 (HB.mk h.b.2.2.2.2 ())) ())
theorem x_im {c nm m to t x e Q} : tMethP c nm m to t x e Q = to x e fun ro e1 => kIM ro e1 (HB.mk (c, nm, t, x, m, Q) ()) := by
  unfold tMethP kIM opt kCa
  congr 1; funext ro e1
  cases rv ro e1 <;> rfl
theorem x_kIM {ro e c nm t x m Q} : kIM ro e (HB.mk (c, nm, t, x, m, Q) ()) = opt (rv ro e) (HB.mk (fun d => noF c nm e.st d ∧ t x e fun ds e2 => kCa (d :: ds) e2 (HB.mk (m, Q) ())) ()) := rfl
def kMk (ds : List D) (e : En) (h : HB (Nat × PM × (R → En → Prop))) : Prop := h.b.2.1 (.ref e.st.length :: ds) (e.st ++ [.ins h.b.1 []]) fun r st' => r = .d .non ∧ h.b.2.2 (.d (.ref e.st.length)) ⟨e.sl, st'⟩
theorem x_make {c m t x e Q} : tMakeP c m t x e Q = t x e fun ds e1 => kMk ds e1 (HB.mk (c, m, Q) ()) := rfl
theorem x_kMk {m : PM} {ds e c Q} : kMk ds e (HB.mk (c, m, Q) ()) = m (.ref e.st.length :: ds) (e.st ++ [.ins c []]) fun r st' => r = .d .non ∧ Q (.d (.ref e.st.length)) ⟨e.sl, st'⟩ := rfl
def gtNH (d e : D) (h : HB (R → Prop)) : Prop := pGtN d e h.b
theorem x_gtN {d e Q} : pGtN d e Q = gtNH d e (HB.mk Q ()) := rfl
def mT1 (o : Option D) (r : R) (e : En) (h : HB (PTR × PX × (D → List D → (R → Prop) → Prop) × (R → En → Prop))) : Prop := match o with
  | some (.tup ds) => ordL ds = true ∧ h.b.1 h.b.2.1 e fun rs e2 => kM2 r rs e2 (HB.mk h.b.2.2 ())
  | _ => False
def kMT (r : R) (e : En) (h : HB (PTR × PX × (D → List D → (R → Prop) → Prop) × (R → En → Prop))) : Prop := hold r e fun r e => mT1 (rv r e) r e h
theorem x_methT {p to t x e Q} : tMethT p to t x e Q = to x e fun r e1 => kMT r e1 (HB.mk (t, x, p, Q) ()) := by
  unfold tMethT kMT mT1 kM2 kM3
  congr 1; funext r e1; congr 1; funext r e1
  cases rv r e1 with
  | none => simp
  | some d =>
    cases d with
    | tup ds => rfl
    | _ => simp
theorem x_kMTd {d : D} {e h} : kMT (.d d) e h = mT1 (some d) (.d d) e h := rfl
theorem x_mT1 {ds r e t x p Q} : mT1 (some (.tup ds)) r e (HB.mk (t, x, p, Q) ()) = (ordL ds = true ∧ t x e fun rs e2 => kM2 r rs e2 (HB.mk (p, Q) ())) := rfl
def prK (o : Option (Int × Int)) (h : HB (List (Int × Int) × (R → Prop))) : Prop := match o with
  | some k => k ∈ h.b.1 ∧ h.b.2 (.d (.int (ixPr k h.b.1 : Nat)))
  | none => False
theorem x_prK {k ps Q} : prK (some k) (HB.mk (ps, Q) ()) = (k ∈ ps ∧ Q (.d (.int (ixPr k ps : Nat)))) := rfl
theorem x_ixT {l y Q} : pIndexT (.tup l) [y] Q = opt (prsI l) (HB.mk (fun ps => prK (prI y) (HB.mk (ps, Q) ())) ()) := by
  unfold pIndexT opt prK
  cases h1 : prsI l with
  | none => simp only [h1]
  | some ps => cases h2 : prI y <;> simp only [h1, h2]
theorem x_prI {a b : Int} : prI (.tup [.int a, .int b]) = some (a, b) := rfl
theorem FnG.lawS {P : Program} {w : PySem.World} {K : PySem.W.Frag} {mg : Str → Option Value} {base : Heap} {ps : List Str} {f : Addr} {fd : PySem.FuncData} {k : Nat} {cls : Cl} {flds : Nat → List Str} {m : PM}
    (hm : ∀ n s Q, n ≤ 63 → (∀ s', Q (.d (.bl true)) s') → m [.scr n] s Q) (F : FnG P w K mg base CX0 k f fd ps (sp0 K cls flds m)) : FnG P w K mg base CX0 k f fd ps (spLaw K) :=
  F.imp fun vs H Q E ⟨a, ns, e, hS, hl, q⟩ => by
    subst e
    obtain ⟨κ, hκ, hr⟩ := script_rep (cls := cls) hS hl
    refine ⟨κ, [.scr ns.length], [], fun c _ => c = .d (.bl true), gh_start hκ, .cons hr .nil, hm _ _ _ hl fun _ => rfl, fun v κ' H' c st' g r e => ?_⟩
    subst e
    have r : Rep K cls κ' H' v (.bl true) := r
    cases r
    exact q H'
theorem x_splitA {l s Q} : pSplit (.str l) [.str s] Q = (s ≠ [] ∧ s.all (· < 256) = true ∧ l.length + 2 ≤ 16777216 ∧ Q (.own ((TL.spl s 0 [] l).map D.str))) := rfl
theorem x_strI {i Q} : pStrI [.int i] Q = (0 ≤ i ∧ i < 2 ^ 64 ∧ Q (.d (.str (TL.numL i.toNat)))) := rfl
theorem x_intS {a Q} : pIntS [.str a] Q = (a.all (fun c => decide (48 ≤ c) && decide (c ≤ 57)) = true ∧ a ≠ [] ∧ a.length ≤ 640 ∧ Q (.d (.int (PySem.NumText.digitsVal a : Nat)))) := rfl
theorem x_fs3 {ta s tb x e Q} : tFs3P ta s tb x e Q = ta x e fun r e1 => fz r e1 fun d1 e2 => f3I d1 (HB.mk (fun i => tb x e2 fun r2 e3 => fz r2 e3 fun d2 e4 => f3I d2 (HB.mk (fun j => Q (.d (.str (TL.numL i.toNat ++ s ++ TL.numL j.toNat))) e4) ())) ()) := rfl
theorem x_f3I {i p} : f3I (.int i) (HB.mk p ()) = (0 ≤ i ∧ i < 2 ^ 64 ∧ p i) := rfl
theorem x_zipS {t x e Q} : iZipS t x e Q = t x e fun rs e1 => twoR rs <| HB.mk (fun r1 r2 => fz r1 e1 fun d1 e2 => fz r2 e2 fun d2 e3 => sC d1 <| HB.mk (fun l => sideH d2 <| HB.mk (fun es => Q (zipF (signs l) es) e3) ()) ()) () := by
  unfold iZipS twoR sideH sC
  congr 1; funext rs e1
  match rs with
  | [] => rfl
  | [r] => rfl
  | [r1, r2] =>
    show fz r1 e1 _ = fz r1 e1 _
    congr 1; funext d1 e2
    congr 1; funext d2 e3
    cases d1 with
    | str l => cases d2.side <;> rfl
    | _ => rfl
  | _ :: _ :: _ :: _ => rfl
theorem x_parO {i j ta tb x D e} : sParO i j ta tb x D e = ta x e fun r1 e1 => fz r1 e1 fun d1 e2 => tb x e2 fun r2 e3 => i < e3.sl.length ∧ j < e3.sl.length ∧ asgR j r2 e3 fun e4 => D.nx (e4.setC i (.d d1)) := rfl
end Pu
set_option maxRecDepth 100000
set_option maxHeartbeats 4000000
namespace Pu
open PySem L2 PySem.Spec PyProof.Rows
section
variable {Γ Γ' : Gm} {κ κ' : Ka} {H H' : Hp} {env env' : En} {σ : Sl} {v : V} {st : Sto} {Y : Fam} {a b e o i : Expr} {es : List Expr} {ta tb te to ti : PTE} {pos : Pos}
/-- name = e, the value data from then on -/
def sAsgZ (i : Nat) (te : PTE) : PTS := fun x D e => te x e fun r e1 => fz r e1 fun d e2 => i < e2.sl.length ∧ D.nx (e2.setC i (.d d))
/-- name = e, a new list or dict an object of the store from then on -/
def sAsgK (i : Nat) (te : PTE) : PTS := fun x D e => te x e fun r e1 => kp r e1 fun d e2 => i < e2.sl.length ∧ D.nx (e2.setC i (.d d))
theorem vs_setK {i : Nat} {x : Str} {p' : Pos} (hN : ∀ j, (Y.X j).N.Nodup) (he : VE Y e te) (hi : ∀ j, (Y.X j).N[i]? = some x := by intro _; rfl) (hx : ∀ j, Loc (Y.X j).env.scope x := by first | exact fun _ => Or.inl rfl | exact fun _ => Or.inr rfl)
    (hs : ∀ j, swapsWith e (some (.Name x p')) pos.line (Y.X j).env = pure false := by intro _; rfl)
    (hf : ∀ j, (Y.X j).fn x = true ∨ (Y.X j).env.scope.names.lookup x = some .local := by first | exact fun _ => .inl rfl | exact fun _ => .inr rfl | assumption) : VS Y (.Assign [.Name x p'] e pos) (sAsgK i te) := by
  obtain ⟨ra, pa, fa⟩ := he.ex
  refine ⟨⟨fun E => tAsg (ra E) (L2.gName i), fun j => ps_set (hN j) (hi j) (hx j) (pa j) (hs j) (hf j), fun Γ σ κ H env D D' hK I q l => ?_⟩⟩
  refine fa Γ σ κ H env _ _ hK I q fun v κ1 H1 r1 e1 x1 I1 h1 q1 => ?_
  refine kp_ok I1 h1 q1 fun κ2 d e2 x2 I2 h2 q2 => ?_
  exact asg_ok I2 (r := .d d) (by rw [I2.len]; exact q2.1) h2 q2.2 fun κ3 e3 x3 I3 q3 => l.1 _ κ3 H1 e3 ((x1.trans x2).trans x3) I3 q3
def lkT (kvs : List (List Nat × Int)) (s : List Nat) : Option Int := (kvs.find? fun p => p.1 == s).map (·.2)
def tGD (kvs : List (List Nat × Int)) (ti : PTE) : PTE := fun x e Q => ti x e fun r e1 => match rv r e1 with
  | some (.str s) => match lkT kvs s with
    | some n => Q (.d (.int n)) e1
    | none => False
  | _ => False
def pCase (f : Nat → Nat) (d : D) (ds : List D) (Q : R → Prop) : Prop := match d, ds with
  | .str l, [] => l.all (· < 128) = true ∧ l.length ≤ 5592405 ∧ (∀ c ∈ l, f c < 1114112) ∧ Q (.d (.str (l.map f)))
  | _, _ => False
end
end Pu
set_option maxRecDepth 100000
set_option maxHeartbeats 4000000
namespace Pu
open PySem L2 PySem.Spec PyProof.Rows
end Pu
set_option maxRecDepth 100000
set_option maxHeartbeats 4000000
namespace Pu
open PySem L2 PySem.Spec PyProof.Rows
section
variable {Γ Γ' : Gm} {κ κ' : Ka} {H H' : Hp} {env env' : En} {σ : Sl} {v : V} {st : Sto} {Y : Fam} {a b e o : Expr} {es : List Expr} {ta tb te to : PTE} {t : PTA} {pos apos p : Pos}
def tMethX (c : Nat) (nm : Str) (m : PMX) (to : PTE) (t : PTA) : PTE := fun x e Q => to x e fun ro e1 => match rv ro e1 with
  | some d => noF c nm e1.st d ∧ t x e1 fun ds e2 => m (d :: ds) e2.st (fun c st' => Q c.toR ⟨e2.sl, st'⟩) x
  | none => False
def lcRx (x : PX) (g : PTG) (tt : PTT) (te : PTE) (vs : List Nat) : List D → List D → En → (List D → En → Prop) → Prop
  | [], acc, e, Q => Q acc e
  | d :: ds, acc, e, Q => g d e fun e1 => tt x e1 fun b e2 => if b = true then te x e2 fun r e3 => fz r e3 fun y e4 => lcRx x g tt te vs ds (acc ++ [y]) (wipeE vs e4) Q else lcRx x g tt te vs ds acc (wipeE vs e2) Q
def cLcX (ti : PTI) (g : PTG) (tt : PTT) (te : PTE) (vs : List Nat) : PTE := fun x e Q => ti x e fun items e1 => items.length ≤ sizeLine ∧ plainC e1.sl vs = true ∧
  lcRx x g tt te vs items [] (wipeE vs e1) fun acc e2 => Q (.own acc) (restE vs e1 e2)
end
end Pu
set_option maxRecDepth 100000
set_option maxHeartbeats 4000000
namespace Pu
open PySem L2 PySem.Spec PyProof.Rows
section
variable {Γ Γ' : Gm} {κ κ' : Ka} {H H' : Hp} {env env' : En} {σ : Sl} {v : V} {st : Sto} {Y : Fam} {a b c d e f o i : Expr} {es : List Expr} {ta tb tc td te tf to ti : PTE} {pos apos cpos : Pos}
def dck2 (k1 k2 : Key) (d1 d2 : D) : D := .dck ((setK (setK [] k1 d1) k2 d2).map (·.1)) ((setK (setK [] k1 d1) k2 d2).map (·.2))
def tDisp2 (ta tb tc td : PTE) : PTE := fun x e Q => ta x e fun r1 e1 => fz r1 e1 fun y1 e1 => tb x e1 fun r2 e2 => fz r2 e2 fun y2 e2 => tc x e2 fun r3 e3 => fz r3 e3 fun y3 e3 => td x e3 fun r4 e4 => fz r4 e4 fun y4 e4 => match keyD y1, keyD y3 with
  | some k1, some k2 => Q (.d (dck2 k1 k2 y2 y4)) e4
  | _, _ => False
/-- d.get(k, x) -/
def tDGK2 (to ti tf : PTE) : PTE := fun x e Q => to x e fun r e1 => hold r e1 fun r e1 => (kgetR r e1).isSome = true ∧ ti x e1 fun ri e2 => fz ri e2 fun kd e2 => tf x e2 fun rd e3 => fz rd e3 fun dd e3 => match kgetR r e3 with
  | some kvs => match keyD kd with
    | some k => Q (.d ((getK kvs k).getD dd)) e3
    | none => False
  | none => False
def mClear : PMu := fun ds as K => match as with
  | [] => K [] .non
  | _ => False
end
end Pu
set_option maxRecDepth 100000
set_option maxHeartbeats 4000000
namespace Pu
open PySem L2 PuE
theorem x_asgZ {i t x D e} : sAsgZ i t x D e = t x e fun r e1 => fz r e1 fun d e2 => i < e2.sl.length ∧ D.nx (e2.setC i (.d d)) := rfl
theorem x_asgK {i t x D e} : sAsgK i t x D e = t x e fun r e1 => kp r e1 fun d e2 => i < e2.sl.length ∧ D.nx (e2.setC i (.d d)) := rfl
def kGD (o : Option D) (e : En) (h : HB (List (List Nat × Int) × (R → En → Prop))) : Prop := match o with
  | some (.str s) => opt (lkT h.b.1 s) (HB.mk (fun n => h.b.2 (.d (.int n)) e) ())
  | _ => False
theorem x_gd {kvs ti x e Q} : tGD kvs ti x e Q = ti x e fun r e1 => kGD (rv r e1) e1 (HB.mk (kvs, Q) ()) := by
  unfold tGD kGD opt
  congr 1; funext r e1
  cases rv r e1 with
  | none => rfl
  | some d =>
    cases d with
    | str s => simp only; cases lkT kvs s <;> rfl
    | _ => rfl
theorem x_kGD {s e kvs Q} : kGD (some (.str s)) e (HB.mk (kvs, Q) ()) = opt (lkT kvs s) (HB.mk (fun n => Q (.d (.int n)) e) ()) := rfl
theorem x_case {f l Q} : pCase f (.str l) [] Q = (l.all (· < 128) = true ∧ l.length ≤ 5592405 ∧ (∀ c ∈ l, f c < 1114112) ∧ Q (.d (.str (l.map f)))) := rfl
def kIMX (ro : R) (e : En) (h : HB (Nat × Str × PTA × PX × PMX × (R → En → Prop))) : Prop := opt (rv ro e) (HB.mk (fun d => noF h.b.1 h.b.2.1 e.st d ∧ h.b.2.2.1 h.b.2.2.2.1 e fun ds e2 => h.b.2.2.2.2.1 (d :: ds) e2.st (fun c st' => h.b.2.2.2.2.2 c.toR ⟨e2.sl, st'⟩) h.b.2.2.2.1) ())
theorem x_imX {c nm m to t x e Q} : tMethX c nm m to t x e Q = to x e fun ro e1 => kIMX ro e1 (HB.mk (c, nm, t, x, m, Q) ()) := by
  unfold tMethX kIMX opt
  congr 1; funext ro e1
  cases rv ro e1 <;> rfl
theorem x_kIMX {ro e c nm t x m Q} : kIMX ro e (HB.mk (c, nm, t, x, m, Q) ()) = opt (rv ro e) (HB.mk (fun d => noF c nm e.st d ∧ t x e fun ds e2 => m (d :: ds) e2.st (fun c st' => Q c.toR ⟨e2.sl, st'⟩) x) ()) := rfl
def lcXH (ds : List D) (e : En) (h : HB (PX × PTG × PTT × PTE × List Nat × (List D → En → Prop))) : Prop := lcRx h.b.1 h.b.2.1 h.b.2.2.1 h.b.2.2.2.1 h.b.2.2.2.2.1 ds [] e h.b.2.2.2.2.2
theorem x_lcX {ti g tt te vs x e Q} : cLcX ti g tt te vs x e Q = ti x e fun items e1 => items.length ≤ sizeLine ∧ plainC e1.sl vs = true ∧ lcXH items (wipeE vs e1) (HB.mk (x, g, tt, te, vs, fun acc e2 => Q (.own acc) (restE vs e1 e2)) ()) := rfl
theorem x_ksr {k e ds} : kset (.d (.ref k)) e ds = ⟨e.sl, e.st.set k (.dK ds)⟩ := rfl
theorem x_msr {k e ds} : mset (.d (.ref k)) e ds = ⟨e.sl, e.st.set k (.lst ds)⟩ := rfl
theorem mg_of {k : Nat} {e : En} {ds : List D} (h : e.st[k]? = some (.lst ds)) : mget (.d (.ref k)) e = some ds := by
  unfold mget
  simp only [h]
def kD2 (o1 o2 : Option Key) (y2 y4 : D) (e : En) (h : HB (R → En → Prop)) : Prop := match o1, o2 with
  | some k1, some k2 => h.b (.d (dck2 k1 k2 y2 y4)) e
  | _, _ => False
theorem x_disp2 {ta tb tc td x e Q} : tDisp2 ta tb tc td x e Q = ta x e fun r1 e1 => fz r1 e1 fun y1 e1 => tb x e1 fun r2 e2 => fz r2 e2 fun y2 e2 => tc x e2 fun r3 e3 => fz r3 e3 fun y3 e3 => td x e3 fun r4 e4 => fz r4 e4 fun y4 e4 => kD2 (keyD y1) (keyD y3) y2 y4 e4 (HB.mk Q ()) := by
  unfold tDisp2 kD2
  rfl
theorem x_kD2 {k1 k2 y2 y4 e Q} : kD2 (some k1) (some k2) y2 y4 e (HB.mk Q ()) = Q (.d (dck2 k1 k2 y2 y4)) e := rfl
def kG2 (o1 : Option (List (Key × D))) (o2 : Option Key) (dd : D) (e : En) (h : HB (R → En → Prop)) : Prop := match o1, o2 with
  | some kvs, some k => h.b (.d ((getK kvs k).getD dd)) e
  | _, _ => False
theorem x_dgk2 {to ti tf x e Q} : tDGK2 to ti tf x e Q = to x e fun r e1 => hold r e1 fun r e1 => (kgetR r e1).isSome = true ∧ ti x e1 fun ri e2 => fz ri e2 fun kd e2 => tf x e2 fun rd e3 => fz rd e3 fun dd e3 => kG2 (kgetR r e3) (keyD kd) dd e3 (HB.mk Q ()) := by
  unfold tDGK2 kG2
  congr 1; funext r e1; congr 1; funext r e1; congr 2; funext ri e2; congr 1; funext kd e2; congr 1; funext rd e3; congr 1; funext dd e3
  cases kgetR r e3 with
  | none => rfl
  | some kvs => cases keyD kd <;> rfl
theorem x_kG2 {kvs k dd e Q} : kG2 (some kvs) (some k) dd e (HB.mk Q ()) = Q (.d ((getK kvs k).getD dd)) e := rfl
theorem x_clear {ds K} : mClear ds [] K = K [] .non := rfl
end Pu
set_option maxRecDepth 100000
set_option maxHeartbeats 4000000
namespace Pu
open PySem L2 PySem.Spec PyProof.Rows
/-- at a a tuple of these texts -/
def KTup (K : PySem.W.Frag) (a : Addr) (ws : List (List Nat)) : Prop := (∃ (o : Obj) (its : Array Value) (n : Nat), K.lookup a = some o ∧ o.cls = .type "tuple" ∧ o.data = .seq its n ∧ its.size ≤ sizeLine ∧ Vals (ws.map fun w => V.str ⟨w.toArray⟩) its.toList) ∧ ∀ w ∈ ws, SOk w
section
variable {Γ Γ' : Gm} {κ κ' : Ka} {H H' : Hp} {env env' : En} {σ : Sl} {v : V} {st : Sto} {Y : Fam} {a b e o i : Expr} {es : List Expr} {ta tb te to ti : PTE} {pos : Pos} {K : PySem.W.Frag}
def lkL (kvs : List (List Nat × List (List Nat))) (s : List Nat) : Option (List (List Nat)) := (kvs.find? fun p => p.1 == s).map (·.2)
def GT (K : PySem.W.Frag) (w : World) (d : Addr) (kvs : List (List Nat × List (List Nat))) : Prop := ∀ p ∈ kvs, ∃ a, KDct K w d ⟨p.1.toArray⟩ (.ref a) ∧ KTup K a p.2
theorem GT.get {w : World} {d : Addr} {kvs : List (List Nat × List (List Nat))} {s : List Nat} {ws : List (List Nat)} (h : GT K w d kvs) (g : lkL kvs s = some ws) : ∃ a, KDct K w d ⟨s.toArray⟩ (.ref a) ∧ KTup K a ws := by
  unfold lkL at g
  obtain ⟨p, hp, ep⟩ := Option.map_eq_some_iff.mp g
  have h1 := List.find?_some hp
  have z := h p (List.mem_of_find?_eq_some hp)
  rw [show p.1 = s from by simpa using h1, ep] at z
  exact z
/-- for x in NAME[e] -/
def iGT (kvs : List (List Nat × List (List Nat))) (ti : PTE) : PTI := fun x e Q => ti x e fun r e1 => match rv r e1 with
  | some (.str s) => match lkL kvs s with
    | some ws => Q (ws.map D.str) e1
    | none => False
  | _ => False
/-- for x, y in zip(NAME[e], f) -/
def iZipG (kvs : List (List Nat × List (List Nat))) (ti tb : PTE) : PTI := fun x e Q => ti x e fun r e1 => match rv r e1 with
  | some (.str s) => match lkL kvs s with
    | some ws => tb x e1 fun r2 e2 => fz r2 e2 fun d2 e3 => match d2.side with
      | some (_, es) => Q (zipF (ws.map D.str) es) e3
      | _ => False
    | none => False
  | _ => False
/-- e in NAME, a tuple of texts -/
def tKIn (neg : Bool) (ws : List (List Nat)) (ta : PTE) : PTE := fun x e Q => ta x e fun r e1 => match rv r e1 with
  | some (.str s) => Q (.d (.bl (if neg then !decide (s ∈ ws) else decide (s ∈ ws)))) e1
  | _ => False
/-- e in NAME, a dict of the module with text keys; asked of what is in it alone -/
def tKHas (ks : List (List Nat)) (ta : PTE) : PTE := fun x e Q => ta x e fun r e1 => match rv r e1 with
  | some (.str s) => s ∈ ks ∧ Q (.d (.bl true)) e1
  | _ => False
end
end Pu
set_option maxRecDepth 100000
set_option maxHeartbeats 4000000
namespace PuE
open PySem PySem.Spec PyProof.Rows L2
end PuE
namespace Pu
open PySem L2 PuE
section
variable {Γ Γ' : Gm} {κ κ' : Ka} {H H' : Hp} {env env' : En} {σ : Sl} {v : V} {st : Sto} {Y : Fam} {a b c d e e2 o : Expr} {es : List Expr} {ta tb tc td te to : PTE} {pos : Pos}
def par1 (s l : List Nat) : List (List Nat) := match TL.par s [] l with
  | some (a, b) => [a, b]
  | none => [l]
def pSplit1 (d : D) (ds : List D) (Q : R → Prop) : Prop := match d, ds with
  | .str l, [.str s, .int k] => k = 1 ∧ s ≠ [] ∧ s.all (· < 256) = true ∧ l.length + 2 ≤ 16777216 ∧ Q (.own ((par1 s l).map D.str))
  | _, _ => False
def pStrA : List D → (R → Prop) → Prop
  | [.int i], Q => 0 ≤ i ∧ i < 2 ^ 64 ∧ Q (.d (.str (TL.numL i.toNat)))
  | [.str s], Q => Q (.d (.str s))
  | _, _ => False
end
end Pu
set_option maxRecDepth 100000
set_option maxHeartbeats 4000000
namespace PySem
open PySem.Spec PyProof.Rows PySem.W
section
variable {prog : Program} {w : World} {A : Around} {E : Value → Shared → Prop} {s : Shared} {z TI TO i1 i2 l1 l2 S : Addr} {xs ys : Array Value} {i n : Nat}
def ZSt (h : Heap) (z TI TO i1 i2 l1 l2 S : Addr) (i : Nat) : Prop := IsPair h TI (.ref i1) (.ref i2) ∧ (∃ a b, IsPair h TO a b) ∧ h.IsListIter i1 l1 i ∧ h.IsListIter i2 l2 i ∧
  (IsZip h z TI TO .none ∨ ∃ T f oT, IsZipHeld h z TI TO T f ∧ h.get? T = some oT ∧ T ≠ z ∧ T ≠ i1 ∧ T ≠ i2 ∧ T ≠ TO ∧ T ≠ S)
theorem iter_keep {h h' : Heap} {it l : Addr} {k : Nat} (x : h.IsListIter it l k) (q : ∀ o, h.get? it = some o → h'.get? it = some o) : h'.IsListIter it l k := by
  obtain ⟨o, ho, r⟩ := x; exact ⟨o, q o ho, r⟩
theorem ZSt.keep {h h' : Heap} (x : ZSt h z TI TO i1 i2 l1 l2 S i) (k : ∀ b o, b ≠ S → h.get? b = some o → h'.get? b = some o) (hz : z ≠ S) (hTI : TI ≠ S) (hTO : TO ≠ S) (h1 : i1 ≠ S) (h2 : i2 ≠ S) : ZSt h' z TI TO i1 i2 l1 l2 S i := by
  obtain ⟨a1, ⟨a, b, a2⟩, a3, a4, a5⟩ := x
  refine ⟨k _ _ hTI a1, ⟨a, b, k _ _ hTO a2⟩, iter_keep a3 (k _ · h1), iter_keep a4 (k _ · h2), ?_⟩
  rcases a5 with e | ⟨T, f, oT, e1, e2, e3, e4, e5, e6, e7⟩
  · exact .inl (k _ _ hz e)
  · exact .inr ⟨T, f, oT, k _ _ hz e1, k _ _ e7 e2, e3, e4, e5, e6, e7⟩
end
end PySem
namespace PuE
open PySem PySem.Spec PyProof.Rows L2 PySem.W
end PuE
namespace Pu
open PySem L2 PySem.Spec PyProof.Rows
section
variable {Γ Γ' : Gm} {κ κ' : Ka} {H H' : Hp} {env env' : En} {σ : Sl} {v : V} {st : Sto} {Y : Fam} {a b e o : Expr} {es : List Expr} {ta tb te to : PTE} {pos : Pos}
def tTZ (t : PTR) : PTE := fun x e Q => t x e fun rs e1 => match rs with
  | [r1, r2] => fz r1 e1 fun d1 e2 => fz r2 e2 fun d2 e3 => match d1, d2 with
    | .lst ds, .lst es => (∀ d ∈ ds, ∃ s, d = .str s) ∧ Q (.d (.tup (zipF ds es))) e3
    | _, _ => False
  | _ => False
end
end Pu
set_option maxRecDepth 100000
set_option maxHeartbeats 4000000
namespace PuE
open PySem PySem.Spec PyProof.Rows L2 RT PySem.W
end PuE
namespace Pu
open PySem L2 PySem.Spec PyProof.Rows
end Pu
set_option maxRecDepth 100000
set_option maxHeartbeats 4000000
namespace Pu
open PySem L2 PuE
def kKI (o : Option D) (e : En) (h : HB (Bool × List (List Nat) × (R → En → Prop))) : Prop := match o with
  | some (.str s) => h.b.2.2 (.d (.bl (if h.b.1 then !decide (s ∈ h.b.2.1) else decide (s ∈ h.b.2.1)))) e
  | _ => False
theorem x_kin {neg ws ta x e Q} : tKIn neg ws ta x e Q = ta x e fun r e1 => kKI (rv r e1) e1 (HB.mk (neg, ws, Q) ()) := by
  unfold tKIn kKI
  congr 1
theorem x_kKI {s e ws Q} : kKI (some (.str s)) e (HB.mk (false, ws, Q) ()) = Q (.d (.bl (decide (s ∈ ws)))) e := rfl
def kKH (o : Option D) (e : En) (h : HB (List (List Nat) × (R → En → Prop))) : Prop := match o with
  | some (.str s) => s ∈ h.b.1 ∧ h.b.2 (.d (.bl true)) e
  | _ => False
theorem x_khas {ks ta x e Q} : tKHas ks ta x e Q = ta x e fun r e1 => kKH (rv r e1) e1 (HB.mk (ks, Q) ()) := by
  unfold tKHas kKH
  congr 1
theorem x_kKH {s e ks Q} : kKH (some (.str s)) e (HB.mk (ks, Q) ()) = (s ∈ ks ∧ Q (.d (.bl true)) e) := rfl
def kIG (o : Option D) (e : En) (h : HB (List (List Nat × List (List Nat)) × (List (List Nat) → En → Prop))) : Prop := match o with
  | some (.str s) => opt (lkL h.b.1 s) (HB.mk (fun ws => h.b.2 ws e) ())
  | _ => False
theorem x_igt {kvs ti x e Q} : iGT kvs ti x e Q = ti x e fun r e1 => kIG (rv r e1) e1 (HB.mk (kvs, fun ws e2 => Q (ws.map D.str) e2) ()) := by
  unfold iGT kIG opt
  congr 1; funext r e1
  cases rv r e1 with
  | none => rfl
  | some d =>
    cases d with
    | str s => simp only; cases lkL kvs s <;> rfl
    | _ => rfl
theorem x_izg {kvs ti tb x e Q} : iZipG kvs ti tb x e Q = ti x e fun r e1 => kIG (rv r e1) e1 (HB.mk (kvs, fun ws e2 => tb x e2 fun r2 e3 => fz r2 e3 fun d2 e4 => sideH d2 (HB.mk (fun es => Q (zipF (ws.map D.str) es) e4) ())) ()) := by
  unfold iZipG kIG opt
  congr 1; funext r e1
  cases rv r e1 with
  | none => rfl
  | some d =>
    cases d with
    | str s =>
      simp only
      cases lkL kvs s with
      | none => rfl
      | some ws =>
        simp only
        congr 1; funext r2 e3
        congr 1; funext d2 e4
        unfold sideH
        cases d2.side with
        | none => rfl
        | some p => rfl
    | _ => rfl
theorem x_kIG {s e kvs Q} : kIG (some (.str s)) e (HB.mk (kvs, Q) ()) = opt (lkL kvs s) (HB.mk (fun ws => Q ws e) ()) := rfl
def tzC (d1 d2 : D) (h : HB (List D → List D → Prop)) : Prop := match d1, d2 with
  | .lst ds, .lst es => h.b ds es
  | _, _ => False
theorem x_tzC {ds es f} : tzC (.lst ds) (.lst es) (HB.mk f ()) = f ds es := rfl
theorem x_tz {t x e Q} : tTZ t x e Q = t x e fun rs e1 => twoR rs <| HB.mk (fun r1 r2 => fz r1 e1 fun d1 e2 => fz r2 e2 fun d2 e3 => tzC d1 d2 <| HB.mk (fun ds es => (∀ d ∈ ds, ∃ s, d = .str s) ∧ Q (.d (.tup (zipF ds es))) e3) ()) () := by
  unfold tTZ twoR tzC
  congr 1
theorem x_split1 {l s k Q} : pSplit1 (.str l) [.str s, .int k] Q = (k = 1 ∧ s ≠ [] ∧ s.all (· < 256) = true ∧ l.length + 2 ≤ 16777216 ∧ Q (.own ((par1 s l).map D.str))) := rfl
theorem x_strAi {i Q} : pStrA [.int i] Q = (0 ≤ i ∧ i < 2 ^ 64 ∧ Q (.d (.str (TL.numL i.toNat)))) := rfl
theorem x_strAs {s Q} : pStrA [.str s] Q = Q (.d (.str s)) := rfl
end Pu
set_option maxRecDepth 100000
set_option maxHeartbeats 4000000
namespace L2
open PySem PySem.Spec PyProof.Rows RT
section
variable {X : Cx}
def rRemD (K : PySem.W.Frag) : V → List V → Hp → VK → Prop := fun x xs H Q => ∃ (a : Addr) (vs : List V) (y : V) (d : PyData) (ds : List PyData) (j : Nat) (z : PyData), x = V.ref a ∧ xs = [y] ∧ H a = some (.lst vs) ∧ DpAll K H vs ds ∧ Dp K H y d ∧
  SeqAt.shaped (.list ds) = true ∧ SeqAt.shaped d = true ∧ ds[j]? = some z ∧ PyData.eqv z d = true ∧ (∀ (m : Nat) (z' : PyData), m < j → ds[m]? = some z' → PyData.eqv z' d = false) ∧ Q .non (upd H a (.lst (vs.eraseIdx j)))
theorem mt_removeD (hu : X.A.units + 65 < cLine) : MtM X "list.remove" (rRemD X.K) := by
  intro pins s σ H x xs v us Q I rx rxs h
  obtain ⟨a, vs, y, d, ds, j, z, rfl, rfl, hH, ha, hy, sl, sd, hz, hzj, hno, q⟩ := h
  cases rx
  obtain ⟨uy, rfl, ry⟩ := rxs.one
  obtain ⟨bs, r1⟩ := Dp.reads I d y uy hy ry
  have hxs : PyData.canLayAll0 ds = true := SeqAt.canLay_of_shaped sl
  have hroom : X.A.units + 1 + min (PyData.depthAll ds) d.depth < cLine := room_in_shaped sd hu
  obtain ⟨hlen, its, n, rv, hl, e⟩ := I.lstM hH
  obtain ⟨as, h4⟩ := Dp.readsAll I ds _ its ha rv
  have hn : its.length = ds.length := SeqAt.ReadsAll.length ds its as h4
  have hmap : its.map (SeqAt.readOf s.heap) = ds := SeqAt.readsAll_map ds its as hxs h4
  have hvl := rv.length
  have hsl := sizeLine_eq
  obtain ⟨hjd, _⟩ := List.getElem?_eq_some_iff.mp hz
  have hjl : j < its.length := by omega
  have hj : j < its.toArray.size := by simpa using hjl
  have at_ : ∀ (m : Nat) (hm : m < its.toArray.size) (z' : PyData), ds[m]? = some z' → SeqAt.readOf s.heap its.toArray[m] = z' := by
    intro m hm z' hz'
    have hml : m < its.length := by simpa using hm
    rw [← hmap, List.getElem?_map, List.getElem?_eq_getElem hml] at hz'
    have e1 : SeqAt.readOf s.heap its[m] = z' := Option.some.inj (show some (SeqAt.readOf s.heap its[m]) = some z' from hz')
    simpa using e1
  refine call_meets PySem.F.slot_list_remove ⟨_, e, rfl⟩ PySem.F.entry_list_remove (PySem.F.args_list_remove_2 _ _)
    (SeqAt.list_removeAt a its.toArray n _ _ uy (fun u => PyData.eqv (SeqAt.readOf s.heap u) d) j hj ?_ ?_ (by rw [List.size_toArray]; omega)) ⟨e, SeqAt.items_eqAt (vs := its.toArray) (show ReadsAll s.heap its.toArray.toList ds as from h4) r1 hxs (SeqAt.canLay_of_shaped sd) hroom, ?_⟩
  · show PyData.eqv (SeqAt.readOf s.heap its.toArray[j]) d = true
    rw [at_ j hj z hz]
    exact hzj
  · intro m hm hmj
    have hmd : m < ds.length := by omega
    have hz' : ds[m]? = some ds[m] := List.getElem?_eq_getElem hmd
    show PyData.eqv (SeqAt.readOf s.heap its.toArray[m]) d = false
    rw [at_ m hm _ hz']
    exact hno m _ hmj hz'
  · have rr := rv.eraseIdx j
    refine ⟨.non, _, I.lset (its' := its.eraseIdx j) (t' := s.toks) hH e ?_ rr ?_, rfl, q⟩
    · show its.toArray.eraseIdxIfInBounds j = (its.eraseIdx j).toArray
      rw [List.eraseIdxIfInBounds_toArray]
    · exact Nat.le_trans (List.length_eraseIdx_le ..) (by omega)
end
end L2
namespace Pu
open PySem L2 PySem.Spec PyProof.Rows
section
variable {Γ : Gm} {κ : Ka} {H : Hp} {Y : Fam} {e a b o : Expr} {es : List Expr} {to : PTE} {pos : Pos} {σ : Sl} {env : En} {v : V}
def MutRefK (r : PySem.W.Frag → V → List V → Hp → VK → Prop) (p : PMu) : Prop :=
  ∀ (Γ : Gm) (κ : Ka) (H : Hp) (a : Addr) (vs ws : List V) (ds as : List D) (K : List D → D → Prop) (Q' : VK), H a = some (.lst vs) → vs.length ≤ sizeLine → RepL Γ.K Γ.cls κ H vs ds → RepL Γ.K Γ.cls κ H ws as → (κ a ≠ some .frz) → p ds as K →
    (∀ y vs' ds' dy, vs'.length ≤ sizeLine → RepL Γ.K Γ.cls κ H vs' ds' → Rep Γ.K Γ.cls κ H y dy → K ds' dy → Q' y (upd H a (.lst vs'))) → r Γ.K (.ref a) ws H Q'
theorem mut_finK {r : PySem.W.Frag → V → List V → Hp → VK → Prop} {p : PMu} {R2' : R} {ws : List V} {as : List D} {Q : R → En → Prop} {Q' : VK} (hr : MutRefK r p) (I : Rl Γ κ env σ H) (h : HeldR Γ κ H σ v R2') (ha : RepL Γ.K Γ.cls κ H ws as)
    (q : match mget R2' env with | some ds => p ds as fun ds' y => Q (.d y) (mset R2' env ds') | none => False)
    (k : ∀ v κ' H' r env', Ext κ H κ' H' → Rl Γ κ' env' σ H' → RelR Γ κ' H' env' σ v r → Q r env' → Q' v H') : r Γ.K v ws H Q' := by
  cases e1 : mget R2' env with
  | none => rw [e1] at q; exact q.elim
  | some ds =>
    rw [e1] at q
    obtain ⟨a, vs, rfl, h1, h2, h3, h4⟩ := mut_ok I h e1
    refine hr Γ κ H a vs ws ds as _ Q' h1 h2 h3 ha ?_ q fun y vs' ds' dy l' r' ry q' => ?_
    · intro z
      cases R2' with
      | nam i =>
        have h : σ[i]? = some (some (V.ref a)) := h
        unfold mget at e1
        simp only at e1
        cases q : env.sl[i]? with
        | none => rw [q] at e1; cases e1
        | some c =>
          rw [q] at e1
          cases c with
          | own ds' =>
            obtain ⟨c, _, hc⟩ := I.ownS (i := i) (a := a) ⟨h, _, q, rfl⟩
            rw [hc.facts.1] at z; cases z
          | _ => cases e1
      | d d =>
        cases d with
        | ref k => cases h with | ref hk => rw [hk] at z; cases z
        | _ => cases e1
      | _ => cases e1
    · obtain ⟨x, J⟩ := h4 vs' ds' l' r'
      exact k y κ _ (.d dy) (mset R2' env ds') x J (ry.mono x) q'
theorem ve_mutK {id : String} {name : Str} {apos cpos : Pos} {r : PySem.W.Frag → V → List V → Hp → VK → Prop} {p : PMu} {t : PTA} (slot : Slot "list" name id) (hty : typeOf (.builtin id) = pure (.type "method_descriptor")) (hm : ∀ i, MtR (Y.X i) id (r (Y.X i).K)) (hr : MutRefK r p) (ho : VE Y o to) (ha : VA Y (e :: es) t)
    (hbase : ∀ X : Cx, attributeBase o name X.env (eval o X.env) = eval o X.env := by intro _; rfl)
    (hfew : ∀ X : Cx, ((backTo cpos (starEach (e :: es) X.env)).all (fun x => !x.1) && (backToKw cpos (keywordEach [] X.env)).all (fun x => x.1.isSome)
      && decide ((e :: es).length + ([] : List Keyword).length + (if ([] : List Keyword).isEmpty then 0 else 1) < 30)) = true := by intro _; rfl)
    (hline : (apos.endLine == cpos.line) = true := by rfl) (hs : ∀ X : Cx, starEach (e :: es) X.env = (false, eval e X.env) :: starEach es X.env := by intro _; rfl) (hplain : ∀ X : Cx, (backTo cpos (starEach es X.env)).any (·.1) = false := by intro _; rfl) :
    VE Y (.Call (.Attribute o name apos) (e :: es) [] cpos) (tMut p to t) := by
  obtain ⟨ro, po, fo⟩ := ho.ex
  obtain ⟨ra, pa', fa⟩ := ha.ex
  refine ⟨⟨fun E => tBM Y.K "list" (r Y.K) (ro E) (ra E), fun i => ?_, fun Γ σ κ H env Q Q' hK I q k => ?_⟩⟩
  · have h2 := pe_bm PySem.F.plainAttrs_list slot hty (hm i) (po i) (pa' i) (hbase _) (hfew _) hline (hs _) (hplain _)
    rw [Y.hK i] at h2
    exact h2
  · refine fo Γ σ κ H env _ _ hK I q fun v κ1 H1 r1 e1 x1 I1 h1 q1 => ?_
    refine hold_ok I1 h1 q1 fun κ2 r2 x2 I2 h2 q2 => ?_
    rw [← hK.k]
    refine ⟨tyV_mut I2 h2 q2.1, fa Γ σ κ2 H1 e1 _ _ hK I2 q2.2 fun vs κ3 H3 as e3 x3 I3 h3 q3 => ?_⟩
    exact mut_finK hr I3 (h2.ext x3) h3 q3 fun v' κ' H' r e' x => k v' κ' H' r e' (((x1.trans x2).trans x3).trans x)
def mRemD : PMu := fun ds as K => match as with
  | [y] => y.ok 64 = true ∧ D.okL ds 63 = true ∧ (ds.any fun z => D.eq z y) = true ∧ K (ds.eraseIdx (ixD y ds)) .non
  | _ => False
theorem rep_erase : ∀ {vs : List V} {ds : List D} (j : Nat), RepL Γ.K Γ.cls κ H vs ds → RepL Γ.K Γ.cls κ H (vs.eraseIdx j) (ds.eraseIdx j)
  | [], [], _, _ => by simpa using RepL.nil
  | _ :: _, _ :: _, 0, .cons _ h => h
  | _ :: _, _ :: _, j + 1, .cons g h => .cons g (rep_erase j h)
theorem ref_remD : MutRefK rRemD mRemD := by
  intro Γ κ H a vs ws ds as K Q' h1 h2 h3 h4 hk q k
  match as, ws, h4, q with
  | [y], _, .cons hx .nil, q =>
    obtain ⟨q1, q2, q3, q4⟩ := q
    have okl : D.ok (.lst ds) 64 = true := by simpa [D.ok] using q2
    obtain ⟨g1, g2⟩ := RepL.dp (n := 63) h3 q2
    obtain ⟨b1, b2⟩ := Rep.dp hx q1
    have sh : ∀ d : D, d.ok 64 = true → d.py.canLay0 = true → SeqAt.shaped d.py = true := fun d h h' => by
      unfold SeqAt.shaped
      rw [h', decide_eq_true (D.ok_depth d 64 h)]
      rfl
    obtain ⟨z, e1, e2, e3⟩ := ixD_spec q1 q2 q3
    refine ⟨a, vs, _, y.py, D.pyL ds, ixD y ds, z, rfl, rfl, h1, g1, b1, sh (.lst ds) okl (by simp only [D.py, PyData.canLay0]; exact g2), sh y q1 b2, e1, e2, e3, k .non _ _ .non ?_ (rep_erase _ h3) .non q4⟩
    exact Nat.le_trans (List.length_eraseIdx_le ..) h2
theorem ve_remD {apos cpos : Pos} {t : PTA} (hu : Hu Y) (ho : VE Y o to) (ha : VA Y [e] t) (hbase : ∀ X : Cx, attributeBase o "remove" X.env (eval o X.env) = eval o X.env := by intro _; rfl)
    (hfew : ∀ X : Cx, ((backTo cpos (starEach [e] X.env)).all (fun x => !x.1) && (backToKw cpos (keywordEach [] X.env)).all (fun x => x.1.isSome)
      && decide (([e] : List Expr).length + ([] : List Keyword).length + (if ([] : List Keyword).isEmpty then 0 else 1) < 30)) = true := by intro _; rfl)
    (hline : (apos.endLine == cpos.line) = true := by rfl) (hs : ∀ X : Cx, starEach [e] X.env = (false, eval e X.env) :: starEach [] X.env := by intro _; rfl) : VE Y (.Call (.Attribute o "remove" apos) [e] [] cpos) (tMut mRemD to t) :=
  ve_mutK PySem.F.slot_list_remove PySem.F.type_list_remove (fun i => mt_removeD (hu i)) ref_remD ho ha hbase hfew hline hs
end
end Pu
set_option maxRecDepth 100000
set_option maxHeartbeats 4000000
namespace Pu
open PySem L2 PySem.Spec PyProof.Rows
section
variable {Γ Γ' : Gm} {κ κ' : Ka} {H H' : Hp} {env env' : En} {σ : Sl} {v : V} {st : Sto} {Y : Fam} {a b e o i : Expr} {es : List Expr} {ta tb te to ti : PTE} {pos : Pos} {body : List Stmt} {t : PTS}
/-- a list of the store read where it stands -/
def rvD (d : D) (e : En) : Option D := match d with
  | .ref k => match e.st[k]? with
    | some (.lst ds) => some (.lst ds)
    | _ => some d
  | _ => some d
def rvS (r : R) (e : En) : Option D := match rv r e with
  | some d => rvD d e
  | none => none
theorem rvS_ok {r : R} {d : D} (I : Rl Γ κ env σ H) (h : RelR Γ κ H env σ v r) (e : rvS r env = some d) : RepT Γ κ H v d := by
  unfold rvS at e
  cases e1 : rv r env with
  | none => rw [e1] at e; cases e
  | some d1 =>
    rw [e1] at e
    have rt := rv_ok I h e1
    unfold rvD at e
    cases d1 with
    | ref k =>
      simp only at e
      have rt : Rep Γ.K Γ.cls κ H v (.ref k) := rt
      cases rt with
      | @ref a _ hk =>
        obtain ⟨so, g1, g2⟩ := I.gh.obj _ k hk
        rw [g1] at e
        cases so with
        | lst ds =>
          cases e
          obtain ⟨vs, q1, q2, q3⟩ := g2
          exact ⟨_, vs, rfl, q1, q2, q3⟩
        | _ => cases e; exact .ref hk
    | _ => cases e; exact rt
def rvLS : List R → En → Option (List D)
  | [], _ => some []
  | r :: rs, e => match rvS r e with
    | none => none
    | some d => match rvLS rs e with
      | none => none
      | some ds => some (d :: ds)
theorem rvLS_ok (I : Rl Γ κ env σ H) : ∀ {rs : List R} {vs : List V} {ds : List D}, HeldL Γ κ H σ vs rs → rvLS rs env = some ds → RepTL Γ κ H vs ds
  | [], _, _, h, e => by cases h; cases e; exact .nil
  | r :: rs, _, ds, h, e => by
    cases h with
    | cons h1 h2 =>
      unfold rvLS at e
      cases e1 : rvS r env with
      | none => rw [e1] at e; cases e
      | some d =>
        rw [e1] at e
        cases e2 : rvLS rs env with
        | none => simp only [e2] at e; cases e
        | some ds =>
          simp only [e2] at e
          cases e
          exact .cons (rvS_ok I h1.rel e1) (rvLS_ok I h2 e2)
def tCallPS (p : List D → (R → Prop) → Prop) (t : PTR) : PTE := fun x e Q => t x e fun rs e1 => match rvLS rs e1 with
  | some ds => p ds (fun r => Q r e1)
  | none => False
theorem callPS {r : PySem.W.Frag → List V → Hp → VK → Prop} {p : List D → (R → Prop) → Prop} {t : PTR} {rd : XK → TA} (hr : CallRef r p)
    (f : ∀ (Γ : Gm) (σ : Sl) (κ : Ka) (H : Hp) (env : En) (Q : List R → En → Prop) (Q' : List V → Hp → Prop), GK Y Γ → Rl Γ κ env σ H → t Γ.x env Q →
    (∀ vs κ' H' rs env', Ext κ H κ' H' → Rl Γ κ' env' σ H' → HeldL Γ κ' H' σ vs rs → Q rs env' → Q' vs H') → rd Γ.E σ H Q')
    {Q : R → En → Prop} {Q' : VK} (hK : GK Y Γ) (I : Rl Γ κ env σ H) (q : tCallPS p t Γ.x env Q)
    (k : ∀ v κ' H' r env', Ext κ H κ' H' → Rl Γ κ' env' σ H' → RelR Γ κ' H' env' σ v r → Q r env' → Q' v H') : tCB (r Y.K) (rd Γ.E) σ H Q' := by
  refine f Γ σ κ H env _ _ hK I q fun vs κ1 H1 rs e1 x1 I1 h1 q1 => ?_
  cases e : rvLS rs e1 with
  | none => rw [e] at q1; exact False.elim q1
  | some ds =>
    rw [e] at q1
    have := hr Γ σ κ1 H1 e1 vs ds _ Q' I1 (rvLS_ok I1 h1 e) q1 fun v' κ' H' r x I' h' q' => k v' κ' H' r e1 (x1.trans x) I' h' q'
    rw [hK.k] at this
    exact this
theorem ve_callBS {x : Str} {id : String} {p' : Pos} {r : PySem.W.Frag → List V → Hp → VK → Prop} {p : List D → (R → Prop) → Prop} {t : PTR} (hc : ∀ i, CallR (Y.X i) (.builtin id) (r (Y.X i).K)) (hr : CallRef r p) (hm : ∀ i, (Y.X i).mg x = none) (ha : VR Y (e :: es) t)
    (hg : ∀ i, Gl (Y.X i) x := by intro _; rfl) (hv : bootBuiltins x = some (.builtin id) := by decide +kernel) (hn : x ≠ "__name__" := by decide) (hdb : (x == ("__debug__" : Str)) = false := by decide)
    (he : ∀ X : Cx, starEach (e :: es) X.env = (false, eval e X.env) :: starEach es X.env := by intro _; rfl) (hpl : ∀ X : Cx, (backTo pos (starEach es X.env)).any (·.1) = false := by intro _; rfl) : VE Y (.Call (.Name x p') (e :: es) [] pos) (tCallPS p t) := by
  obtain ⟨ra, pa, fa⟩ := ha.ex
  exact ⟨⟨fun E => tCB (r Y.K) (ra E), fun i => pe_callB (by have := hc i; rw [Y.hK i] at this; exact this) (hg i) (hm i) hv (pa i) hn hdb (he _) (hpl _), fun Γ σ κ H env Q Q' hK I q k => callPS hr fa hK I q k⟩⟩
theorem ve_lenS {p' : Pos} {t : PTR} (hm : ∀ i, (Y.X i).mg "len" = none) (ha : VR Y [e] t) (hg : ∀ i, Gl (Y.X i) "len" := by intro _; rfl) (he : ∀ X : Cx, starEach [e] X.env = (false, eval e X.env) :: starEach [] X.env := by intro _; rfl) : VE Y (.Call (.Name "len" p') [e] [] pos) (tCallPS pLen t) :=
  ve_callBS (r := rLen) (fun _ => call_len) ref_len hm ha hg (he := he)
def forL (k : Nat) (ds0 : List D) (g : PTG) (tb : PTS) (x : PX) (P : PEn) : List D → En → Prop
  | [], e => e.st[k]? = some (.lst ds0) ∧ P.nx e
  | d :: ds, e => e.st[k]? = some (.lst ds0) ∧ g d e fun e' => tb x { P with nx := forL k ds0 g tb x P ds, ct := forL k ds0 g tb x P ds, bk := P.nx } e'
def refL (r : R) (e : En) : Option (Nat × List D) := match r with
  | .d (.ref k) => match e.st[k]? with
    | some (.lst ds) => some (k, ds)
    | _ => none
  | _ => none
def sForL (te : PTE) (g : PTG) (tb : PTS) : PTS := fun x D e => te x e fun r e1 => match refL r e1 with
  | some (k, ds) => forL k ds g tb x D ds e1
  | none => False
theorem vs_forL {tg it : Expr} {g : PTG} {vs : List Nat} (hp : ∀ i, PassesOwn (model (Y.X i).prog (Y.X i).w) (Y.X i).A (Y.X i).env (Y.X i).xe) (hi : VE Y it te) (hg : VG Y tg vs g) (hb : VSs Y body t)
    (hc : ∀ i, (Y.X i).calm = true := by intro _; rfl) (hs : ∀ (X : Cx) x, foldedSetIterable it X.env x = pure x := by intro _ _; rfl) : VS Y (.For tg it body [] pos) (sForL te g t) := by
  obtain ⟨ri, pi, fi⟩ := hi.ex
  obtain ⟨rg, pg, fg⟩ := hg.ex
  obtain ⟨rb, pb, fb⟩ := hb.ex
  refine ⟨⟨fun E => tFor (iAnyH Y.K (ri E)) rg (rb E), fun i => ps_for (hp i) (hc i) (by have := pi_any (tg := tg) (pi i); rw [Y.hK i] at this; exact this) (pg i) (pb i) (hs _), fun Γ σ κ H env D D' hK I q l => ?_⟩⟩
  refine fi Γ σ κ H env _ _ hK I q fun v κ1 H1 r1 e1 x1 I1 h1 q1 => ?_
  cases r1 with
  | d d =>
    cases d with
    | ref k =>
      unfold refL at q1
      simp only at q1
      have h1 : Rep Γ.K Γ.cls κ1 H1 v (.ref k) := h1
      cases h1 with
      | @ref a _ hk =>
        obtain ⟨so, g1, g2⟩ := I1.gh.obj _ k hk
        rw [g1] at q1
        cases so with
        | lst ds =>
          have q1 : forL k ds g t Γ.x D ds e1 := q1
          have lst : ∀ (κ2 : Ka) (H2 : Hp) (e2 : En) (σ2 : Sl), Ext κ1 H1 κ2 H2 → Rl Γ κ2 e2 σ2 H2 → e2.st[k]? = some (.lst ds) → ∃ vs, H2 a = some (.lst vs) ∧ RepL Γ.K Γ.cls κ2 H2 vs ds := fun κ2 H2 e2 σ2 x2 I2 es => by
            obtain ⟨so, g1, g2⟩ := I2.gh.obj a k (x2.1 a _ hk)
            rw [es] at g1
            cases g1
            obtain ⟨vs, w1, _, w2⟩ := g2
            exact ⟨vs, w1, w2⟩
          obtain ⟨vs0, w1, w2⟩ := lst κ1 H1 e1 σ (.refl ..) I1 g1
          refine .inl ⟨a, rfl, ⟨vs0, SqL.of w1⟩, ?_⟩
          refine ⟨fun i m σ2 H2 => ∃ κ2 e2, Ext κ1 H1 κ2 H2 ∧ Rl Γ κ2 e2 σ2 H2 ∧ m = ds.length - i ∧ i ≤ ds.length ∧ forL k ds g t Γ.x D (ds.drop i) e2, ⟨_, κ1, e1, .refl .., I1, rfl, Nat.zero_le _, q1⟩, ?_⟩
          rintro i m σ2 H2 ⟨κ2, e2, x2, I2, rfl, hi, q2⟩
          by_cases hlt : i < ds.length
          · have hd : ds.drop i = ds[i] :: ds.drop (i + 1) := List.drop_eq_getElem_cons hlt
            rw [hd] at q2
            obtain ⟨qs, q2⟩ := q2
            obtain ⟨vs, w1, w2⟩ := lst κ2 H2 e2 σ2 x2 I2 qs
            obtain ⟨u, ev, ru⟩ := w2.get (List.getElem?_eq_getElem hlt)
            refine .inr ⟨⟨vs, u, SqL.of w1, ev⟩, fun σ' H' => ∃ κ' e', Ext κ1 H1 κ' H' ∧ Rl Γ κ' e' σ' H' ∧ forL k ds g t Γ.x D (ds.drop (i + 1)) e', fun σ' H' ⟨κ', e', x', I', q'⟩ => ⟨ds.length - (i + 1), by omega, κ', e', x', I', rfl, hlt, q'⟩, fun w H' y => ?_⟩
            obtain ⟨rfl, y⟩ := y
            have y := y vs (SqL.of w1)
            rw [ev] at y
            cases y
            refine fg Γ σ2 κ2 H' e2 u _ _ _ hK I2 ru q2 fun σ4 e4 _ I4 q4 => ?_
            exact fb Γ σ4 κ2 H' e4 _ _ hK I4 q4 ⟨fun σ' κ' H' e' x' I' q' => ⟨κ', e', x2.trans x', I', q'⟩, fun v κ' H' c e' x' gg r q' => l.2.1 v κ' H' c e' (x1.trans (x2.trans x')) gg r q', fun σ' κ' H' e' x' I' q' => l.1 σ' κ' H' e' (x1.trans (x2.trans x')) I' q', fun σ' κ' H' e' x' I' q' => ⟨κ', e', x2.trans x', I', q'⟩⟩
          · have e : i = ds.length := by omega
            subst e
            rw [List.drop_length] at q2
            obtain ⟨qs, q2⟩ := q2
            obtain ⟨vs, w1, w2⟩ := lst κ2 H2 e2 σ2 x2 I2 qs
            exact .inl ⟨⟨vs, SqL.of w1, by rw [w2.length]; exact Nat.le_refl _⟩, l.1 σ2 κ2 H2 e2 (x1.trans x2) I2 q2⟩
        | _ => exact q1.elim
    | _ => exact q1.elim
  | _ => exact q1.elim
end
end Pu
set_option maxRecDepth 100000
set_option maxHeartbeats 4000000
namespace Pu
open PySem L2 PySem.Spec PyProof.Rows
section
variable {Γ Γ' : Gm} {κ κ' : Ka} {H H' : Hp} {env env' : En} {σ : Sl} {v : V} {Y : Fam} {a b e o i : Expr} {es : List Expr} {ta tb te to ti : PTE} {pos : Pos}
def lcRL (k : Nat) (ds0 : List D) (g : PTG) (tt : PTT) (te : PTE) (vs : List Nat) : List D → List D → En → (List D → En → Prop) → Prop
  | [], acc, e, Q => e.st[k]? = some (.lst ds0) ∧ Q acc e
  | d :: ds, acc, e, Q => e.st[k]? = some (.lst ds0) ∧ g d e fun e1 => tt noX e1 fun b e2 => if b = true then te noX e2 fun r e3 => fz r e3 fun y e4 => lcRL k ds0 g tt te vs ds (acc ++ [y]) (wipeE vs e4) Q else lcRL k ds0 g tt te vs ds acc (wipeE vs e2) Q
theorem lcRL.st {k : Nat} {ds0 : List D} {g : PTG} {tt : PTT} {te : PTE} {vs : List Nat} {ds acc : List D} {e : En} {Q : List D → En → Prop} (h : lcRL k ds0 g tt te vs ds acc e Q) : e.st[k]? = some (.lst ds0) := by
  cases ds with
  | nil => exact h.1
  | cons d ds => exact h.1
def cLcL (ta : PTE) (g : PTG) (tt : PTT) (te : PTE) (vs : List Nat) : PTE := fun x e Q => ta x e fun r e1 => match refL r e1 with
  | some (k, ds) => ds.length ≤ sizeLine ∧ plainC e1.sl vs = true ∧ lcRL k ds g tt te vs ds [] (wipeE vs e1) fun acc e2 => Q (.own acc) (restE vs e1 e2)
  | none => False
theorem src_ref {K : PySem.W.Frag} {cl : Cl} {a : Addr} {k : Nat} {ds : List D} (hk : κ a = some (.obj k)) : ∀ (Γ : Gm), Γ.K = K → Γ.cls = cl → ∀ (σ : Sl) (κ1 : Ka) (H1 : Hp) (env : En) (i : Nat), Rl Γ κ1 env σ H1 → Ext κ H κ1 H1 → env.st[k]? = some (.lst ds) →
  (∀ d, ds[i]? = some d → (Itl K a).go i H1 ∧ ∀ v H', (Itl K a).yld i H1 v H' → ∃ κ', Ext κ1 H1 κ' H' ∧ Rl Γ κ' env σ H' ∧ Rep Γ.K Γ.cls κ' H' v d) ∧ (ds.length = i → (Itl K a).stop i H1) := by
  intro Γ2 hK hc σ κ1 H1 env i I x es
  obtain ⟨so, g1, g2⟩ := I.gh.obj a k (x.1 a _ hk)
  rw [es] at g1
  cases g1
  obtain ⟨vs, w1, _, w2⟩ := g2
  have h1 : SqL K H1 a vs := SqL.of w1
  refine ⟨fun d e => ?_, fun e => ⟨vs, h1, by rw [w2.length, e]; exact Nat.le_refl _⟩⟩
  obtain ⟨v, e1, r1⟩ := w2.get e
  refine ⟨⟨vs, v, h1, e1⟩, fun w H' y => ?_⟩
  obtain ⟨rfl, y⟩ := y
  have := y vs h1
  rw [e1] at this
  cases this
  exact ⟨κ1, .refl .., I, r1⟩
theorem lc_refL {scope : Scope} {tg it elt : Expr} {ifs : List Expr} {own : List (Str × Nat)} {ta : PTE} {g : PTG} {tt : PTT} {te : PTE} {vs : List Nat} {ri : XK → TE} {rg : TG} {rt : TT} {re : TE}
    (hv : own.map (·.2) = vs)
    (fi : ∀ (Γ : Gm) (σ : Sl) (κ : Ka) (H : Hp) (env : En) (Q : R → En → Prop) (Q' : VK), GK Y Γ → Rl Γ κ env σ H → ta Γ.x env Q →
    (∀ v κ' H' r env', Ext κ H κ' H' → Rl Γ κ' env' σ H' → RelR Γ κ' H' env' σ v r → Q r env' → Q' v H') → ri Γ.E σ H Q')
    (fg : ∀ (Γ : Gm) (σ : Sl) (κ : Ka) (H : Hp) (env : En) (v : V) (d : D) (Q : En → Prop) (Q' : Sl → Hp → Prop), GK (Y.blk scope) Γ → Rl Γ κ env σ H → Rep Γ.K Γ.cls κ H v d → g d env Q →
    (∀ σ' env', Off vs σ σ' → Rl Γ κ env' σ' H → Q env' → Q' σ' H) → rg v σ H Q')
    (ft : ∀ (Γ : Gm) (σ : Sl) (κ : Ka) (H : Hp) (env : En) (Q : Bool → En → Prop) (Q' : Bool → Hp → Prop), GK (Y.blk scope) Γ → Γ.E = E0 → Rl Γ κ env σ H → tt Γ.x env Q →
    (∀ b κ' H' env', Ext κ H κ' H' → Rl Γ κ' env' σ H' → Q b env' → Q' b H') → rt σ H Q')
    (fe : ∀ (Γ : Gm) (σ : Sl) (κ : Ka) (H : Hp) (env : En) (Q : R → En → Prop) (Q' : VK), GK (Y.blk scope) Γ → Γ.E = E0 → Rl Γ κ env σ H → te Γ.x env Q →
    (∀ v κ' H' r env', Ext κ H κ' H' → Rl Γ κ' env' σ H' → RelR Γ κ' H' env' σ v r → Q r env' → Q' v H') → re σ H Q')
    {Q : R → En → Prop} {Q' : VK} (hK : GK Y Γ) (I : Rl Γ κ env σ H) (q : cLcL ta g tt te vs Γ.x env Q)
    (k : ∀ v κ' H' r env', Ext κ H κ' H' → Rl Γ κ' env' σ H' → RelR Γ κ' H' env' σ v r → Q r env' → Q' v H') : L2.tLc (iAnyH Y.K (ri Γ.E)) rg rt re (own.map (·.2)) σ H Q' := by
  rw [hv]
  refine fi Γ σ κ H env _ _ hK I q fun v κ1 H1 r1 e1 x1 I1 h1 q1 => ?_
  obtain ⟨a, k0, items, rfl, hk, g1, hs, hz, hp, q1⟩ : ∃ (a : Addr) (k0 : Nat) (items : List D), v = .ref a ∧ κ1 a = some (.obj k0) ∧ e1.st[k0]? = some (.lst items) ∧ (∃ xs, SqL Y.K H1 a xs) ∧ items.length ≤ sizeLine ∧ plainC e1.sl vs = true ∧ lcRL k0 items g tt te vs items [] (wipeE vs e1) fun acc e2 => Q (.own acc) (restE vs e1 e2) := by
    cases r1 with
    | d d =>
      cases d with
      | ref k0 =>
        unfold refL at q1
        simp only at q1
        have h1 : Rep Γ.K Γ.cls κ1 H1 v (.ref k0) := h1
        cases h1 with
        | @ref a _ hk =>
          obtain ⟨so, g1, g2⟩ := I1.gh.obj _ k0 hk
          rw [g1] at q1
          cases so with
          | lst ds =>
            obtain ⟨vs0, w1, _, _⟩ := g2
            exact ⟨a, k0, ds, rfl, hk, g1, ⟨vs0, SqL.of w1⟩, q1.1, q1.2.1, q1.2.2⟩
          | _ => exact q1.elim
      | _ => exact q1.elim
    | _ => exact q1.elim
  have src := src_ref (K := Γ.K) (cl := Γ.cls) (H := H1) (ds := items) hk
  rw [hK.k] at src
  refine .inl ⟨a, rfl, hs, ?_⟩
  intro D hD
  have kD1 : κ1 D = none := I1.gh.nokap hD
  have hD0 : Γ.H0 D = none := I1.gh.nokap0 hD
  have nk : Γ.k0 D = none := by
    cases z : Γ.k0 D with
    | none => rfl
    | some x => have := I1.gh.sub D x z; rw [kD1] at this; cases this
  have x2 : Ext κ1 H1 κ1 (upd H1 D (.lst [])) := Ext.upd_new I1.gh hD
  have I2 := (I1.upd_new (o := .lst []) hD)
  refine ⟨fun i m H2 => ∃ κ2 e2 acc vacc, Ext κ1 H1 κ2 H2 ∧ Rl Γ κ2 e2 (L2.wipe σ vs) H2 ∧ m = items.length - i ∧ i ≤ items.length ∧ H2 D = some (.lst vacc) ∧ RepL Γ.K Γ.cls κ2 H2 vacc acc ∧ κ2 D = none ∧ (∀ j, ¬ OwnS e2 (L2.wipe σ vs) j D) ∧ acc.length ≤ i ∧
      lcRL k0 items g tt te vs (items.drop i) acc e2 (fun acc e2 => Q (.own acc) (restE vs e1 e2)), ⟨_, κ1, wipeE vs e1, [], [], x2, I2.wipe, rfl, Nat.zero_le _, upd_same, .nil, kD1, (fun j hj => I1.fresh hD j hj.unwipe), Nat.le_refl _, q1⟩, ?_⟩
  rintro i m H2 ⟨κ2, e2, acc, vacc, y2, J2, rfl, hi, hD2, ra, kD, oD, la, q2⟩
  obtain ⟨s1, s2⟩ := src Γ hK.k rfl _ κ2 H2 e2 i J2 y2 q2.st
  by_cases hlt : i < items.length
  · have hd : items.drop i = items[i] :: items.drop (i + 1) := List.drop_eq_getElem_cons hlt
    have qs := q2.st
    rw [hd] at q2
    obtain ⟨_, q2⟩ := q2
    have P2 := J2.prot hD2 kD oD
    have gk : GK (Y.blk scope) (Γ.prot D (.lst vacc)) := ⟨hK.k, hK.c, hK.f, fun _ _ _ _ _ _ _ _ z _ _ => False.elim z⟩
    obtain ⟨go, _⟩ := s1 items[i] (List.getElem?_eq_getElem hlt)
    refine .inr ⟨go, fun H' => ∃ κ' e' acc' vacc', Ext κ1 H1 κ' H' ∧ Rl Γ κ' e' (L2.wipe σ vs) H' ∧ H' D = some (.lst vacc') ∧ RepL Γ.K Γ.cls κ' H' vacc' acc' ∧ κ' D = none ∧ (∀ j, ¬ OwnS e' (L2.wipe σ vs) j D) ∧ acc'.length ≤ i + 1 ∧
      lcRL k0 items g tt te vs (items.drop (i + 1)) acc' e' (fun acc e2 => Q (.own acc) (restE vs e1 e2)), fun H' ⟨κ', e', acc', vacc', z1, z2, z3, z4, z5, z6, z7, z8⟩ => ⟨items.length - (i + 1), by omega, κ', e', acc', vacc', z1, z2, rfl, hlt, z3, z4, z5, z6, z7, z8⟩, fun w H' yl => ?_⟩
    -- the item, with the new list standing still
    obtain ⟨s1', _⟩ := src (Γ.prot D (.lst vacc)) hK.k rfl _ κ2 H2 e2 i P2 y2 qs
    obtain ⟨_, yy⟩ := s1' items[i] (List.getElem?_eq_getElem hlt)
    obtain ⟨κ3, y3, P3, r3⟩ := yy w H' yl
    refine fg (Γ.prot D (.lst vacc)) _ κ3 H' e2 w _ _ _ gk P3 r3 q2 fun σ4 e4 o4 P4 q4 => ?_
    refine ⟨wipe_off o4, ft (Γ.prot D (.lst vacc)) σ4 κ3 H' e4 _ _ gk rfl P4 q4 fun bb κ5 H5 e5 y5 P5 q5 => ?_⟩
    have w4 : L2.wipe σ4 vs = L2.wipe σ vs := wipe_off o4
    cases bb with
    | true =>
      rw [if_pos rfl] at q5 ⊢
      refine fe (Γ.prot D (.lst vacc)) σ4 κ5 H5 e5 _ _ gk rfl P5 q5 fun u κ6 H6 r6 e6 y6 P6 h6 q6 => ?_
      refine fz_ok P6 h6 q6 fun κ7 d e7 y7 P7 r7 q7 => ?_
      obtain ⟨J7, k7, hD7, o7⟩ := P7.unprot nk hD0
      have y27 : Ext κ2 H2 κ7 H6 := ((y3.trans y5).trans y6).trans y7
      refine ⟨vacc, hD7, Nat.lt_of_le_of_lt (by rw [ra.length]; exact la) (Nat.lt_of_lt_of_le hlt hz), ?_⟩
      have y8 : Ext κ7 H6 κ7 (upd H6 D (.lst (vacc ++ [u]))) := Ext.upd k7
      have J8 : Rl Γ κ7 e7 σ4 (upd H6 D (.lst (vacc ++ [u]))) := J7.step (st' := e7.st) y8 (fun j c hj => ⟨by
        obtain ⟨c', _, hc⟩ := J7.ownS hj
        exact hc.facts.1, upd_ne fun z => o7 j (z ▸ hj)⟩) (J7.gh.upd k7 hD0)
      have J9 : Rl Γ κ7 (wipeE vs e7) (L2.wipe σ vs) (upd H6 D (.lst (vacc ++ [u]))) := by rw [← w4]; exact J8.wipe
      refine ⟨κ7, wipeE vs e7, acc ++ [d], vacc ++ [u], y2.trans (y27.trans y8), J9, upd_same, (ra.mono (y27.trans y8)).append (.cons (r7.mono y8) .nil), k7, fun j hj => ?_, by simp only [List.length_append, List.length_singleton]; omega, q7⟩
      rw [← w4] at hj
      exact o7 j hj.unwipe
    | false =>
      rw [if_neg Bool.false_ne_true] at q5 ⊢
      obtain ⟨J7, k7, hD7, o7⟩ := P5.unprot nk hD0
      have y27 : Ext κ2 H2 κ5 H5 := y3.trans y5
      refine ⟨κ5, wipeE vs e5, acc, vacc, y2.trans y27, by rw [← w4]; exact J7.wipe, hD7, ra.mono y27, k7, fun j hj => ?_, by omega, q5⟩
      rw [← w4] at hj
      exact o7 j hj.unwipe
  · have e : i = items.length := by omega
    subst e
    rw [List.drop_length] at q2
    obtain ⟨_, q2⟩ := q2
    refine .inl ⟨s2 rfl, ?_⟩
    have J3 : Rl Γ κ2 (restE vs e1 e2) σ H2 := Rl.rest I1 hp y2 J2
    refine k (.ref D) κ2 H2 (.own acc) (restE vs e1 e2) (x1.trans y2) J3 ⟨D, rfl, ⟨kD, hD0, vacc, hD2, by rw [ra.length]; exact Nat.le_trans la hz, ra⟩, fun j hj => ?_⟩ q2
    exact oD j (hj.unrest hp)
theorem vs_setLcK {i : Nat} {y : Str} {py spos : Pos} {scope : Scope} {tg it elt : Expr} {ifs : List Expr} {own : List (Str × Nat)} {ti : PTI} {g : PTG} {tt : PTT} {vs : List Nat} (hN : ∀ i, (Y.X i).N.Nodup) (hi : VI Y tg it ti) (ok : ∀ i, BlkOk (Y.X i).N (Y.X i).env.scope scope own) (hg : VG (Y.blk scope) tg vs g) (ht : VTs (Y.blk scope) ifs tt) (he : VE (Y.blk scope) elt te)
    (hy : ∀ j, (Y.X j).N[i]? = some y := by intro _; rfl) (hyl : ∀ j, (Y.X j).env.scope.names.lookup y = some .local := by intro _; rfl)
    (hsw : ∀ j, swapsWith (.ListComp elt [⟨tg, it, ifs, 0⟩] scope pos) (some (.Name y py)) spos.line (Y.X j).env = pure true := by intro _; exact sw_true rfl rfl rfl (by decide +kernel))
    (hv : own.map (·.2) = vs := by rfl) (hc : ∀ i, (Y.X i).calm = true := by intro _; rfl) (hs : ∀ (X : Cx) x, foldedSetIterable it X.env x = pure x := by intro _ _; rfl) :
    VS Y (.Assign [.Name y py] (.ListComp elt [⟨tg, it, ifs, 0⟩] scope pos) spos) (sAsgK i (cLc ti g tt te vs)) := by
  obtain ⟨ri, pi, fi⟩ := hi.ex
  obtain ⟨rg, pg, fg⟩ := hg.ex
  obtain ⟨rt, pt, ft⟩ := ht.ex
  obtain ⟨re, pe, fe⟩ := he.ex
  have pg' : ∀ (i : Y.ι) (s : Shared) (H : Hp) (C : Addr) (cl : List (Str × Addr)) (fp : List Addr), PG ((Y.X i).blk s H scope (compEnvC scope cl C (Y.X i).env) fp) tg rg := fun i s H C cl fp => pg (i, s, H, C, cl, fp)
  have pt' : ∀ (i : Y.ι) (s : Shared) (H : Hp) (C : Addr) (cl : List (Str × Addr)) (fp : List Addr), PTs ((Y.X i).blk s H scope (compEnvC scope cl C (Y.X i).env) fp) ifs (rt E0) := fun i s H C cl fp => pt (i, s, H, C, cl, fp)
  have pe' : ∀ (i : Y.ι) (s : Shared) (H : Hp) (C : Addr) (cl : List (Str × Addr)) (fp : List Addr), PE ((Y.X i).blk s H scope (compEnvC scope cl C (Y.X i).env) fp) elt (re E0) := fun i s H C cl fp => pe (i, s, H, C, cl, fp)
  refine ⟨⟨fun E => tAsg (L2.tLc (ri E) rg (rt E0) (re E0) (own.map (·.2))) (L2.gName i), fun j => ps_setLc (hc j) (hN j) (hy j) (hyl j) (hsw j) (pi j) (ok j) (pg' j) (pt' j) (pe' j) (hs _), fun Γ σ κ H env D D' hK I q l => ?_⟩⟩
  refine lc_ref (it := it) (elt := elt) (ifs := ifs) (tg := tg) hv fi fg (fun Γ σ κ H env Q Q' gk eE I q k => by rw [← eE]; exact ft Γ σ κ H env Q Q' gk I q k) (fun Γ σ κ H env Q Q' gk eE I q k => by rw [← eE]; exact fe Γ σ κ H env Q Q' gk I q k) hK I q fun v κ1 H1 r1 e1 x1 I1 h1 q1 => ?_
  refine kp_ok I1 h1 q1 fun κ2 d e2 x2 I2 h2 q2 => ?_
  exact asg_ok I2 (r := .d d) (by rw [I2.len]; exact q2.1) h2 q2.2 fun κ3 e3 x3 I3 q3 => l.1 _ κ3 H1 e3 ((x1.trans x2).trans x3) I3 q3
theorem vs_setLcL {i : Nat} {y : Str} {py spos : Pos} {scope : Scope} {tg it elt : Expr} {ifs : List Expr} {own : List (Str × Nat)} {ta : PTE} {g : PTG} {tt : PTT} {vs : List Nat} (hN : ∀ i, (Y.X i).N.Nodup) (hi : VE Y it ta) (ok : ∀ i, BlkOk (Y.X i).N (Y.X i).env.scope scope own) (hg : VG (Y.blk scope) tg vs g) (ht : VTs (Y.blk scope) ifs tt) (he : VE (Y.blk scope) elt te)
    (hy : ∀ j, (Y.X j).N[i]? = some y := by intro _; rfl) (hyl : ∀ j, (Y.X j).env.scope.names.lookup y = some .local := by intro _; rfl)
    (hsw : ∀ j, swapsWith (.ListComp elt [⟨tg, it, ifs, 0⟩] scope pos) (some (.Name y py)) spos.line (Y.X j).env = pure true := by intro _; exact sw_true rfl rfl rfl (by decide +kernel))
    (hv : own.map (·.2) = vs := by rfl) (hc : ∀ i, (Y.X i).calm = true := by intro _; rfl) (hs : ∀ (X : Cx) x, foldedSetIterable it X.env x = pure x := by intro _ _; rfl) :
    VS Y (.Assign [.Name y py] (.ListComp elt [⟨tg, it, ifs, 0⟩] scope pos) spos) (sAsg i (cLcL ta g tt te vs)) := by
  obtain ⟨ri, pi, fi⟩ := hi.ex
  obtain ⟨rg, pg, fg⟩ := hg.ex
  obtain ⟨rt, pt, ft⟩ := ht.ex
  obtain ⟨re, pe, fe⟩ := he.ex
  have pg' : ∀ (i : Y.ι) (s : Shared) (H : Hp) (C : Addr) (cl : List (Str × Addr)) (fp : List Addr), PG ((Y.X i).blk s H scope (compEnvC scope cl C (Y.X i).env) fp) tg rg := fun i s H C cl fp => pg (i, s, H, C, cl, fp)
  have pt' : ∀ (i : Y.ι) (s : Shared) (H : Hp) (C : Addr) (cl : List (Str × Addr)) (fp : List Addr), PTs ((Y.X i).blk s H scope (compEnvC scope cl C (Y.X i).env) fp) ifs (rt E0) := fun i s H C cl fp => pt (i, s, H, C, cl, fp)
  have pe' : ∀ (i : Y.ι) (s : Shared) (H : Hp) (C : Addr) (cl : List (Str × Addr)) (fp : List Addr), PE ((Y.X i).blk s H scope (compEnvC scope cl C (Y.X i).env) fp) elt (re E0) := fun i s H C cl fp => pe (i, s, H, C, cl, fp)
  refine ⟨⟨fun E => tAsg (L2.tLc (iAnyH Y.K (ri E)) rg (rt E0) (re E0) (own.map (·.2))) (L2.gName i), fun j => ps_setLc (hc j) (hN j) (hy j) (hyl j) (hsw j) (by have := pi_any (tg := tg) (pi j); rw [Y.hK j] at this; exact this) (ok j) (pg' j) (pt' j) (pe' j) (hs _), fun Γ σ κ H env D D' hK I q l => ?_⟩⟩
  refine lc_refL (it := it) (elt := elt) (ifs := ifs) (tg := tg) hv fi fg (fun Γ σ κ H env Q Q' gk eE I q k => by rw [← eE]; exact ft Γ σ κ H env Q Q' gk I q k) (fun Γ σ κ H env Q Q' gk eE I q k => by rw [← eE]; exact fe Γ σ κ H env Q Q' gk I q k) hK I q fun v κ1 H1 r1 e1 x1 I1 h1 q1 => ?_
  exact asg_ok I1 (by rw [I1.len]; exact q1.1) h1 q1.2 fun κ2 e2 x2 I2 q2 => l.1 _ κ2 H1 e2 (x1.trans x2) I2 q2
theorem vs_setLcLK {i : Nat} {y : Str} {py spos : Pos} {scope : Scope} {tg it elt : Expr} {ifs : List Expr} {own : List (Str × Nat)} {ta : PTE} {g : PTG} {tt : PTT} {vs : List Nat} (hN : ∀ i, (Y.X i).N.Nodup) (hi : VE Y it ta) (ok : ∀ i, BlkOk (Y.X i).N (Y.X i).env.scope scope own) (hg : VG (Y.blk scope) tg vs g) (ht : VTs (Y.blk scope) ifs tt) (he : VE (Y.blk scope) elt te)
    (hy : ∀ j, (Y.X j).N[i]? = some y := by intro _; rfl) (hyl : ∀ j, (Y.X j).env.scope.names.lookup y = some .local := by intro _; rfl)
    (hsw : ∀ j, swapsWith (.ListComp elt [⟨tg, it, ifs, 0⟩] scope pos) (some (.Name y py)) spos.line (Y.X j).env = pure true := by intro _; exact sw_true rfl rfl rfl (by decide +kernel))
    (hv : own.map (·.2) = vs := by rfl) (hc : ∀ i, (Y.X i).calm = true := by intro _; rfl) (hs : ∀ (X : Cx) x, foldedSetIterable it X.env x = pure x := by intro _ _; rfl) :
    VS Y (.Assign [.Name y py] (.ListComp elt [⟨tg, it, ifs, 0⟩] scope pos) spos) (sAsgK i (cLcL ta g tt te vs)) := by
  obtain ⟨ri, pi, fi⟩ := hi.ex
  obtain ⟨rg, pg, fg⟩ := hg.ex
  obtain ⟨rt, pt, ft⟩ := ht.ex
  obtain ⟨re, pe, fe⟩ := he.ex
  have pg' : ∀ (i : Y.ι) (s : Shared) (H : Hp) (C : Addr) (cl : List (Str × Addr)) (fp : List Addr), PG ((Y.X i).blk s H scope (compEnvC scope cl C (Y.X i).env) fp) tg rg := fun i s H C cl fp => pg (i, s, H, C, cl, fp)
  have pt' : ∀ (i : Y.ι) (s : Shared) (H : Hp) (C : Addr) (cl : List (Str × Addr)) (fp : List Addr), PTs ((Y.X i).blk s H scope (compEnvC scope cl C (Y.X i).env) fp) ifs (rt E0) := fun i s H C cl fp => pt (i, s, H, C, cl, fp)
  have pe' : ∀ (i : Y.ι) (s : Shared) (H : Hp) (C : Addr) (cl : List (Str × Addr)) (fp : List Addr), PE ((Y.X i).blk s H scope (compEnvC scope cl C (Y.X i).env) fp) elt (re E0) := fun i s H C cl fp => pe (i, s, H, C, cl, fp)
  refine ⟨⟨fun E => tAsg (L2.tLc (iAnyH Y.K (ri E)) rg (rt E0) (re E0) (own.map (·.2))) (L2.gName i), fun j => ps_setLc (hc j) (hN j) (hy j) (hyl j) (hsw j) (by have := pi_any (tg := tg) (pi j); rw [Y.hK j] at this; exact this) (ok j) (pg' j) (pt' j) (pe' j) (hs _), fun Γ σ κ H env D D' hK I q l => ?_⟩⟩
  refine lc_refL (it := it) (elt := elt) (ifs := ifs) (tg := tg) hv fi fg (fun Γ σ κ H env Q Q' gk eE I q k => by rw [← eE]; exact ft Γ σ κ H env Q Q' gk I q k) (fun Γ σ κ H env Q Q' gk eE I q k => by rw [← eE]; exact fe Γ σ κ H env Q Q' gk I q k) hK I q fun v κ1 H1 r1 e1 x1 I1 h1 q1 => ?_
  refine kp_ok I1 h1 q1 fun κ2 d e2 x2 I2 h2 q2 => ?_
  exact asg_ok I2 (r := .d d) (by rw [I2.len]; exact q2.1) h2 q2.2 fun κ3 e3 x3 I3 q3 => l.1 _ κ3 H1 e3 ((x1.trans x2).trans x3) I3 q3
end
end Pu
set_option maxRecDepth 100000
set_option maxHeartbeats 4000000
namespace Pu
open PySem L2 PuE
def forLH (k : Nat) (ds : List D) (e : En) (h : HB (PTG × PTS × PX × PEn)) : Prop := forL k ds h.b.1 h.b.2.1 h.b.2.2.1 h.b.2.2.2 ds e
theorem x_forL {te g tb x D e} : sForL te g tb x D e = te x e fun r e1 => opt (refL r e1) <| HB.mk (fun p => forLH p.1 p.2 e1 (HB.mk (g, tb, x, D) ())) () := by
  unfold sForL opt forLH
  congr 1; funext r e1
  cases refL r e1 <;> rfl
theorem refL_of {k : Nat} {e : En} {ds : List D} (h : e.st[k]? = some (.lst ds)) : refL (.d (.ref k)) e = some (k, ds) := by
  unfold refL
  simp only [h]
theorem forL_map {α : Type} (f : α → D) {g : PTG} {tb : PTS} {x : PX} {P : PEn} {k : Nat} (w : List α) (I : List α → List α → En → Prop) {e : En} (h0 : I [] w e) (hs : ∀ pre suf e, I pre suf e → e.st[k]? = some (.lst (w.map f))) (hd : ∀ e, I w [] e → P.nx e)
    (h : ∀ pre c suf e, pre ++ c :: suf = w → I pre (c :: suf) e → ∀ N : En → Prop, (∀ e', I (pre ++ [c]) suf e' → N e') → g (f c) e fun e' => tb x { P with nx := N, ct := N, bk := P.nx } e') :
    forLH k (w.map f) e (HB.mk (g, tb, x, P) ()) := by
  have key : ∀ (suf pre : List α) (e : En), pre ++ suf = w → I pre suf e → forL k (w.map f) g tb x P (suf.map f) e := by
    intro suf
    induction suf with
    | nil => intro pre e h1 h2; rw [List.append_nil] at h1; subst h1; exact ⟨hs _ _ e h2, hd e h2⟩
    | cons c suf ih => intro pre e h1 h2; exact ⟨hs _ _ e h2, h pre c suf e h1 h2 _ fun e' h' => ih (pre ++ [c]) e' (by rw [← h1]; simp) h'⟩
  exact key w [] e rfl h0
theorem x_callPS {p t x e Q} : tCallPS p t x e Q = t x e fun rs e1 => opt (rvLS rs e1) <| HB.mk (fun ds => p ds fun r => Q r e1) () := by
  unfold tCallPS opt
  congr 1; funext rs e1
  cases rvLS rs e1 <;> rfl
theorem rvLS_one {k : Nat} {e : En} {ds : List D} (h : e.st[k]? = some (.lst ds)) : rvLS [.d (.ref k)] e = some [.lst ds] := by
  unfold rvLS rvS
  simp only [rv, rvD, h, rvLS]
def lcLH (k : Nat) (ds : List D) (e : En) (h : HB (PTG × PTT × PTE × List Nat × (List D → En → Prop))) : Prop := lcRL k ds h.b.1 h.b.2.1 h.b.2.2.1 h.b.2.2.2.1 ds [] e h.b.2.2.2.2
theorem x_lcL {ta g tt te vs x e Q} : cLcL ta g tt te vs x e Q = ta x e fun r e1 => opt (refL r e1) <| HB.mk (fun p => p.2.length ≤ sizeLine ∧ plainC e1.sl vs = true ∧ lcLH p.1 p.2 (wipeE vs e1) (HB.mk (g, tt, te, vs, fun acc e2 => Q (.own acc) (restE vs e1 e2)) ())) () := by
  unfold cLcL opt lcLH
  congr 1; funext r e1
  cases refL r e1 <;> rfl
theorem lcLH_fm {α : Type} {k : Nat} {g : PTG} {tt : PTT} {te : PTE} {vs : List Nat} {e : En} {Q : List D → En → Prop} {l : List α} {g0 : α → D} (p : α → Bool) (f : α → D) (hs : e.st[k]? = some (.lst (l.map g0))) (h : ∀ a ∈ l, ∀ K : Option D → En → Prop, K (if p a = true then some (f a) else none) e → g (g0 a) e fun e1 => tt noX e1 fun b e2 => if b = true then te noX e2 fun r e3 => fz r e3 fun y e4 => K (some y) (wipeE vs e4) else K none (wipeE vs e2)) (q : Q ((l.filter p).map f) e) : lcLH k (l.map g0) e (HB.mk (g, tt, te, vs, Q) ()) := by
  have key : ∀ (m : List α) (acc : List D), (∀ a ∈ m, a ∈ l) → Q (acc ++ (m.filter p).map f) e → lcRL k (l.map g0) g tt te vs (m.map g0) acc e Q := by
    intro m
    induction m with
    | nil => intro acc _ k; rw [List.filter_nil, List.map_nil, List.append_nil] at k; exact ⟨hs, k⟩
    | cons a m ih =>
      intro acc hm q
      refine ⟨hs, ?_⟩
      refine h a (hm a (by simp)) (fun o e' => match o with | some y => lcRL k (l.map g0) g tt te vs (m.map g0) (acc ++ [y]) e' Q | none => lcRL k (l.map g0) g tt te vs (m.map g0) acc e' Q) ?_
      by_cases hp : p a = true
      · rw [if_pos hp]
        refine ih (acc ++ [f a]) (fun d hd => hm d (List.mem_cons_of_mem _ hd)) ?_
        rw [List.filter_cons_of_pos hp, List.map_cons] at q
        rw [List.append_assoc]
        exact q
      · rw [if_neg hp]
        refine ih acc (fun d hd => hm d (List.mem_cons_of_mem _ hd)) ?_
        rw [List.filter_cons_of_neg hp] at q
        exact q
  exact key l [] (fun _ h => h) (by simpa using q)
theorem lcLH_mm {α : Type} {k : Nat} {g : PTG} {te : PTE} {vs : List Nat} {e : En} {Q : List D → En → Prop} {l : List α} {g0 : α → D} (f : α → D) (hs : e.st[k]? = some (.lst (l.map g0))) (h : ∀ a ∈ l, ∀ K : D → En → Prop, K (f a) e → g (g0 a) e fun e1 => te noX e1 fun r e3 => fz r e3 fun y e4 => K y (wipeE vs e4)) (q : Q (l.map f) e) : lcLH k (l.map g0) e (HB.mk (g, cYes, te, vs, Q) ()) := by
  refine lcLH_fm (fun _ => true) f hs (fun a ha K k => ?_) ?_
  · have k : K (some (f a)) e := k
    exact h a ha (fun y e' => K (some y) e') k
  · have : l.filter (fun _ => true) = l := List.filter_eq_self.mpr fun _ _ => rfl
    rw [this]
    exact q
theorem set_snoc {s : List SO} {o o' : SO} : (s ++ [o]).set s.length o' = s ++ [o'] := by
  rw [List.set_append]
  simp
theorem get_snoc {s : List SO} {o : SO} : (s ++ [o])[s.length]? = some o := by simp
def remDH (ds as : List D) (h : HB (List D → D → Prop)) : Prop := mRemD ds as h.b
theorem x_remD {ds as K} : mRemD ds as K = remDH ds as (HB.mk K ()) := rfl
end Pu
set_option maxRecDepth 100000
set_option maxHeartbeats 4000000
namespace Pu
open PySem L2
def IsL (c : Nat) : Prop := (65 ≤ c ∧ c ≤ 90) ∨ (97 ≤ c ∧ c ≤ 122)
instance (c : Nat) : Decidable (IsL c) := by unfold IsL; infer_instance
def con (c : Nat) : Nat := if 97 ≤ c then c - 32 else c + 32
theorem con_con {c : Nat} (h : IsL c) : con (con c) = c := by unfold con IsL at *; split <;> split <;> omega
theorem con_L {c : Nat} (h : IsL c) : IsL (con c) := by unfold con IsL at *; split <;> omega
theorem con_ne {c : Nat} (h : IsL c) : con c ≠ c := by unfold con IsL at *; split <;> omega
def m_contrary : PM := fun ds st Q => match ds with
  | [.str [c]] => IsL c ∧ Q (.d (.str [con c])) st
  | _ => False
/-- contrary: slots letter -/
def t_contrary : PTS := sRet (t2 (t2 (tD (.str CP)) (tD (.str SM)) pAdd) (tMeth "str" pIndexS (t2 (tD (.str SM)) (tD (.str CP)) pAdd) (rCons (tName 0) (rNil))) pIx)
abbrev N_contrary : List Str := ["letter"]
theorem ixOf_SMCP {c : Nat} (h : IsL c) : c ∈ SM ++ CP ∧ atI (CP ++ SM) (ixOf c (SM ++ CP) : Nat) = some (con c) := by
  have key : ∀ n : Nat, n < 123 → IsL n → n ∈ SM ++ CP ∧ atI (CP ++ SM) (ixOf n (SM ++ CP) : Nat) = some (con n) := by decide +kernel
  exact key c (by unfold IsL at h; omega) h
theorem len_contrary (ds : List D) (s : Sto) (Q : C → Sto → Prop) (h : m_contrary ds s Q) : ds.length = 1 := by
  unfold m_contrary at h
  split at h
  · rfl
  · exact h.elim
theorem p_contrary (ds : List D) (s : Sto) (Q : C → Sto → Prop) (h : m_contrary ds s Q) : t_contrary noX { nx := fun e => Q (.d .non) e.st, rt := fun c e => Q c e.st } ⟨startC N_contrary ds, s⟩ := by
  unfold m_contrary at h
  split at h
  · rename_i c
    obtain ⟨hc, q⟩ := h
    obtain ⟨h1, h2⟩ := ixOf_SMCP hc
    refine ⟨by decide +kernel, by decide +kernel, rfl, h1, ?_⟩
    show (match atI (CP ++ SM) (ixOf c (SM ++ CP) : Nat) with | some c => Q (.d (.str [c])) s | none => False)
    rw [h2]
    exact q
  · exact h.elim
end Pu
set_option maxRecDepth 100000
set_option maxHeartbeats 4000000
namespace Pu
open PySem L2
def m_law_take : PM := fun ds st Q => match ds with
  | [.box, .int n] => 0 < n ∧ n < 2 ^ 64 ∧ ∀ d : Int, 0 ≤ d → d < n → Q (.d (.int d)) st
  | _ => False
/-- _law_take: slots _law_box_here, _law_many, _law_one, _law_digit -/
def t_law_take : PTS := sSeq (sIf (tB (t2 (t2 (tName 0) (tD (.int 0)) pIx) (tD (.int 0)) pGt)) (sSeq (sAsg 3 (t2 (t2 (tName 0) (tD (.int 0)) pIx) (tName 1) pMod)) (sSeq (sSetIx (t2 (t2 (tName 0) (tD (.int 0)) pIx) (tName 1) pFdiv) (tName 0) (tD (.int 0))) (sRet (tName 3)))) (sNext)) (sSeq (sAsg 2 (t2 (t2 (t2 (tName 0) (tD (.int 1)) pIx) (tD (.int 69623)) pMul) (tD (.int 2147483647)) pMod)) (sSeq (sSetIx (t2 (t2 (t2 (t2 (tName 2) (tD (.int 48271)) pMul) (tD (.int 30103)) pAdd) (tD (.int 2147483629)) pMod) (tD (.int 1)) pAdd) (tName 0) (tD (.int 1))) (sRet (t2 (t2 (t2 (t2 (tName 2) (tD (.int 2147483647)) pMul) (t2 (tName 0) (tD (.int 1)) pIx) pAdd) (tD (.int 8191)) pFdiv) (tName 1) pMod))))
abbrev N_law_take : List Str := ["_law_box_here", "_law_many", "_law_one", "_law_digit"]
theorem len_law_take (ds : List D) (s : Sto) (Q : C → Sto → Prop) (h : m_law_take ds s Q) : ds.length = 2 := by
  unfold m_law_take at h
  split at h
  · rfl
  · exact h.elim
theorem small_log {n : Int} (h0 : 0 < n) (h : n < 2 ^ 64) : CDivW 0 n := by
  refine ⟨h0, ?_⟩
  have : n.natAbs.log2 < 64 := (Nat.log2_lt (by omega)).mpr (by omega)
  omega
theorem cmul_r (i j : Int) (h1 : -(2 ^ 64) < j := by decide) (h2 : j < 2 ^ 64 := by decide) : CMul i j := .inr ⟨h1, h2⟩
theorem cmul_l (i j : Int) (h1 : -(2 ^ 64) < i := by decide) (h2 : i < 2 ^ 64 := by decide) : CMul i j := .inl ⟨h1, h2⟩
theorem lt_of (a b : Nat) (h : a < b := by decide) : a < b := h
theorem p0 (a : Nat) (h : 0 < a := by decide) : (0 : Int) < (a : Int) := by omega
theorem ite_intro {c : Prop} [Decidable c] {a b : Prop} (h1 : c → a) (h2 : ¬ c → b) : if c then a else b := by
  by_cases h : c
  · rw [if_pos h]; exact h1 h
  · rw [if_neg h]; exact h2 h
theorem le_line (n : Nat) (h : n ≤ 16777216 := by decide) : n ≤ sizeLine := by rw [line_eq]; exact h
theorem p_law_take (ds : List D) (s : Sto) (Q : C → Sto → Prop) (h : m_law_take ds s Q) : t_law_take noX { nx := fun e => Q (.d .non) e.st, rt := fun c e => Q c e.st } ⟨startC N_law_take ds, s⟩ := by
  unfold m_law_take at h
  split at h
  · rename_i n
    obtain ⟨h0, h1, q⟩ := h
    have hq : ∀ i : Int, Q (.d (.int (i % n))) s := fun i => q _ (Int.emod_nonneg _ (by omega)) (Int.emod_lt_of_pos _ h0)
    refine ⟨.inl rfl, fun z => ?_⟩
    show if decide (z > 0) = true then _ else _
    split
    · refine ⟨.inl rfl, fun z1 => ⟨h0, lt_of 3 4, ?_⟩⟩
      refine ⟨.inl rfl, fun z2 => ⟨⟨h0, (small_log h0 h1).2⟩, ⟨.inl rfl, ?_⟩⟩⟩
      exact hq z1
    · refine ⟨.inr rfl, fun z1 => ⟨cmul_r _ _, p0 2147483647, lt_of 2 4, ?_⟩⟩
      refine ⟨cmul_r _ _, p0 2147483629, ⟨.inr rfl, ?_⟩⟩
      refine ⟨cmul_r _ _, .inr rfl, fun z2 => ⟨⟨by decide, by decide⟩, h0, ?_⟩⟩
      exact hq _
  · exact h.elim
def mb_law_box : PM := fun ds st Q => match ds with
  | [.scr n, .int k] => 0 ≤ k ∧ k < 2 ^ 40 ∧ ∀ i j : Int, Q (.own [.int i, .int j]) st
  | _ => False
def m_law_box : PM := fun ds st Q => match ds with
  | [.scr n, .int k] => 0 ≤ k ∧ k < 2 ^ 40 ∧ Q (.d .box) st
  | _ => False
theorem len_law_box (ds : List D) (s : Sto) (Q : C → Sto → Prop) (h : mb_law_box ds s Q) : ds.length = 2 := by
  unfold mb_law_box at h
  split at h
  · rfl
  · exact h.elim
theorem box_law_box (ds : List D) (s : Sto) (Q : C → Sto → Prop) (h : m_law_box ds s Q) : boxed mb_law_box ds s Q := by
  unfold m_law_box at h
  split at h
  · exact ⟨h.1, h.2.1, fun i j => ⟨i, j, rfl, h.2.2⟩⟩
  · exact h.elim
def t_law_box : PTS := sSeq (sAsg 2 (t2 (t2 (tD (.int 7919)) (tName 1) pMul) (tD (.int 11)) pAdd)) (sSeq (sIf (tB (t2 (tName 1) (tCallP pLen (rCons (tName 0) (rNil))) pLt)) (sAsg 2 (t2 (tName 0) (tName 1) pIx)) (sIf (tB (t2 (tCallP pLen (rCons (tName 0) (rNil))) (tD (.int 0)) pGt)) (sAsg 2 (t2 (tName 2) (t2 (t2 (t2 (tName 0) (t2 (tName 1) (tCallP pLen (rCons (tName 0) (rNil))) pMod) pIx) (tD (.int 2147483629)) pMod) (tD (.int 69623)) pMul) pAdd)) (sNext))) (sSeq (sAsg 3 (t2 (t2 (t2 (t2 (t2 (tName 2) (tD (.int 2147483629)) pMod) (t2 (tD (.int 104729)) (tName 1) pMul) pAdd) (tD (.int 1)) pAdd) (tD (.int 5)) pPow) (tD (.int 2147483647)) pMod)) (sRet (tLst (tCons (t2 (tLst (tCons (tD (.int 0)) (tCons (tName 2) (tNil)))) (tCallP pInt (rCons (t2 (tName 2) (t2 (tD (.int 10)) (tD (.int 18)) pPow) pGe) (rNil))) pIx) (tCons (t2 (t2 (tName 3) (tD (.int 2147483646)) pMod) (tD (.int 1)) pAdd) (tNil)))))))
abbrev N_law_box : List Str := ["_law_script", "_law_k", "_law_cell", "_law_seed"]
theorem p_law_box (ds : List D) (s : Sto) (Q : C → Sto → Prop) (h : mb_law_box ds s Q) : t_law_box noX { nx := fun e => Q (.d .non) e.st, rt := fun c e => Q c e.st } ⟨startC N_law_box ds, s⟩ := by
  unfold mb_law_box at h
  split at h
  · rename_i n k
    obtain ⟨h0, h1, q⟩ := h
    have tail : ∀ z : Int, sSeq (sAsg 3 (t2 (t2 (t2 (t2 (t2 (tName 2) (tD (.int 2147483629)) pMod) (t2 (tD (.int 104729)) (tName 1) pMul) pAdd) (tD (.int 1)) pAdd) (tD (.int 5)) pPow) (tD (.int 2147483647)) pMod)) (sRet (tLst (tCons (t2 (tLst (tCons (tD (.int 0)) (tCons (tName 2) (tNil)))) (tCallP pInt (rCons (t2 (tName 2) (t2 (tD (.int 10)) (tD (.int 18)) pPow) pGe) (rNil))) pIx) (tCons (t2 (t2 (tName 3) (tD (.int 2147483646)) pMod) (tD (.int 1)) pAdd) (tNil))))) noX { nx := fun e => Q (.d .non) e.st, rt := fun c e => Q c e.st } ⟨[.d (.scr n), .d (.int k), .d (.int z), .un], s⟩ := by
      intro z
      have m0 := Int.emod_nonneg z (b := 2147483629) (by omega)
      have m1 := Int.emod_lt_of_pos z (b := 2147483629) (by omega)
      refine ⟨p0 2147483629, cmul_l _ _, ⟨by decide, by decide, ?_⟩, p0 2147483647, lt_of 3 4, ?_⟩
      · omega
      refine ⟨le_line 2, ⟨by decide, by decide, by decide⟩, ?_⟩
      show (match atI [D.int 0, D.int z] (if decide (10 ^ 18 ≤ z) then 1 else 0) with | some y => _ | none => _)
      cases decide (10 ^ 18 ≤ z)
      · refine ⟨p0 2147483646, le_line 2, ?_⟩
        exact q 0 _
      · refine ⟨p0 2147483646, le_line 2, ?_⟩
        exact q z _
    refine ⟨cmul_l _ _, lt_of 2 4, ?_⟩
    refine ite_intro (fun c => ?_) fun c => ?_
    · have c := of_decide_eq_true c
      exact ⟨⟨h0, c⟩, fun z => ⟨lt_of 2 4, tail z⟩⟩
    · refine ite_intro (fun c' => ?_) fun c' => tail _
      have c' : (0 : Int) < n := of_decide_eq_true c'
      refine ⟨c', ⟨Int.emod_nonneg _ (by omega), Int.emod_lt_of_pos _ c'⟩, fun z => ⟨p0 2147483629, cmul_r _ _, lt_of 2 4, tail _⟩⟩
  · exact h.elim
def m_law_other : PM := m_contrary
def t_law_other : PTS := sSeq (sAsg 1 (tD (.str SM))) (sSeq (sAsg 2 (tD (.str CP))) (sSeq (sIf (tB (t2 (tName 0) (tName 1) (pIn false))) (sRet (t2 (tName 2) (tMeth "str" pIndexS (tName 1) (rCons (tName 0) (rNil))) pIx)) (sNext)) (sRet (t2 (tName 1) (tMeth "str" pIndexS (tName 2) (rCons (tName 0) (rNil))) pIx))))
abbrev N_law_other : List Str := ["_law_letter", "_law_small", "_law_capital"]
theorem len_law_other (ds : List D) (s : Sto) (Q : C → Sto → Prop) (h : m_law_other ds s Q) : ds.length = 1 := len_contrary ds s Q h
theorem other_fact {c : Nat} (h : IsL c) : (c ∈ SM ∧ atI CP (ixOf c SM : Nat) = some (con c)) ∨ (¬ c ∈ SM ∧ c ∈ CP ∧ atI SM (ixOf c CP : Nat) = some (con c)) := by
  have key : ∀ n : Nat, n < 123 → IsL n → (n ∈ SM ∧ atI CP (ixOf n SM : Nat) = some (con n)) ∨ (¬ n ∈ SM ∧ n ∈ CP ∧ atI SM (ixOf n CP : Nat) = some (con n)) := by decide +kernel
  exact key c (by unfold IsL at h; omega) h
theorem p_law_other (ds : List D) (s : Sto) (Q : C → Sto → Prop) (h : m_law_other ds s Q) : t_law_other noX { nx := fun e => Q (.d .non) e.st, rt := fun c e => Q c e.st } ⟨startC N_law_other ds, s⟩ := by
  unfold m_law_other m_contrary at h
  split at h
  · rename_i c
    obtain ⟨hc, q⟩ := h
    refine ⟨lt_of 1 3, lt_of 2 3, ?_⟩
    refine ite_intro (fun c' => ?_) fun c' => ?_
    · have c' : c ∈ SM := of_decide_eq_true c'
      rcases other_fact hc with ⟨h1, h2⟩ | ⟨h1, _⟩
      · refine ⟨rfl, h1, ?_⟩
        show (match atI CP (ixOf c SM : Nat) with | some c => Q (.d (.str [c])) s | none => False)
        rw [h2]
        exact q
      · exact absurd c' h1
    · have c' : ¬ c ∈ SM := fun z => c' (decide_eq_true z)
      rcases other_fact hc with ⟨h1, h2⟩ | ⟨h1, h2, h3⟩
      · exact absurd h1 c'
      · refine ⟨rfl, h2, ?_⟩
        show (match atI SM (ixOf c CP : Nat) with | some c => Q (.d (.str [c])) s | none => False)
        rw [h3]
        exact q
  · exact h.elim
def turn (w : List Nat) : List Nat := (w.map con).reverse
def IsW (w : List Nat) : Prop := ∀ c ∈ w, IsL c
end Pu
set_option maxRecDepth 100000
set_option maxHeartbeats 4000000
namespace Pu
open PySem L2
theorem signs_erase (w : List Nat) (j : Nat) : (signs w).eraseIdx j = signs (w.eraseIdx j) := by
  unfold signs
  induction w generalizing j with
  | nil => rfl
  | cons c w ih => cases j with
    | zero => rfl
    | succ j => simp only [List.map_cons, List.eraseIdx_cons_succ, ih]
theorem signs_pop {w : List Nat} {i : Int} {K : List D → D → Prop} (h0 : 0 ≤ i) (h1 : i < w.length) (h : ∀ j (hj : j < w.length), K (signs (w.eraseIdx j)) (.str [w[j]])) : mPopAt (signs w) [.int i] K := by
  refine popAt_ok h0 (by rw [signs_len]; exact h1) fun j hj => ?_
  rw [signs_erase]
  have hj' : j < w.length := by rw [signs_len] at hj; exact hj
  have e : (signs w)[j] = .str [w[j]] := List.getElem_map (f := fun c => D.str [c]) (l := w) (i := j) (h := hj)
  rw [e]
  exact h j hj'
structure YardOk (y : List Nat) : Prop where
  nd : y.Nodup
  let_ : ∀ c ∈ y, IsL c
  con_ : ∀ c ∈ y, con c ∈ y
def m_law_yard : PM := fun ds st Q => match ds with
  | [.box, .int few, .int top] => 0 ≤ few ∧ few ≤ top ∧ top ≤ 26 ∧ ∀ y : List Nat, YardOk y → 2 * few ≤ y.length → y.length ≤ 2 * top → Q (.d (.str y)) st
  | _ => False
def t_law_yard : PTS := sSeq (sAsg 3 (tCallP pList (rCons (tD (.str SM)) (rNil)))) (sSeq (sAsg 4 (tLst (tNil))) (sSeq (sFor (iPure pRng1 (rCons (t2 (tName 1) (tCall0 m_law_take (tCons (tName 0) (tCons (t2 (t2 (tName 2) (tName 1) pSub) (tD (.int 1)) pAdd) (tNil)))) pAdd) (rNil))) (gName 5) (sSeq (sAsg 7 (tMut mPopAt (tName 3) (tCons (tCall0 m_law_take (tCons (tName 0) (tCons (tCallP pLen (rCons (tName 3) (rNil))) (tNil)))) (tNil)))) (sAsg 4 (t2 (tName 4) (tLst (tCons (tName 7) (tCons (tCall0 m_law_other (tCons (tName 7) (tNil))) (tNil)))) pAdd)))) (sSeq (sAsg 6 (tD (.str []))) (sSeq (sWhile (tB (t2 (tCallP pLen (rCons (tName 4) (rNil))) (tD (.int 0)) pGt)) (sAsg 6 (t2 (tName 6) (tMut mPopAt (tName 4) (tCons (tCall0 m_law_take (tCons (tName 0) (tCons (tCallP pLen (rCons (tName 4) (rNil))) (tNil)))) (tNil))) pAdd))) (sRet (tName 6))))))
abbrev N_law_yard : List Str := ["_law_box_here", "_law_few", "_law_top", "_law_left", "_law_ends", "_law_k", "_law_found", "_law_letter"]
theorem len_law_yard (ds : List D) (s : Sto) (Q : C → Sto → Prop) (h : m_law_yard ds s Q) : ds.length = 3 := by
  unfold m_law_yard at h
  split at h
  · rfl
  · exact h.elim
/-- the letters that are left, the ends that are taken -/
structure Yi (left ends : List Nat) (j : Nat) : Prop where
  nl : left.Nodup
  sm : ∀ c ∈ left, 97 ≤ c ∧ c ≤ 122
  ne : ends.Nodup
  le : ∀ c ∈ ends, IsL c ∧ con c ∈ ends ∧ c ∉ left ∧ con c ∉ left
  l1 : left.length + j = 26
  l2 : ends.length = 2 * j
theorem not_mem_erase {l : List Nat} (h : l.Nodup) {j : Nat} (hj : j < l.length) : l[j] ∉ l.eraseIdx j := by
  induction l generalizing j with
  | nil => simp at hj
  | cons a l ih =>
    rw [List.nodup_cons] at h
    cases j with
    | zero => simpa using h.1
    | succ j =>
      simp only [List.getElem_cons_succ, List.eraseIdx_cons_succ, List.mem_cons, not_or]
      have hj' : j < l.length := by simpa using hj
      exact ⟨fun e => h.1 (e ▸ List.getElem_mem hj'), ih h.2 hj'⟩
theorem mem_of_erase {l : List Nat} {j c : Nat} (h : c ∈ l.eraseIdx j) : c ∈ l := List.mem_of_mem_eraseIdx h
theorem Yi.step {left ends : List Nat} {j k : Nat} (h : Yi left ends j) (hk : k < left.length) : Yi (left.eraseIdx k) (ends ++ [left[k], con left[k]]) (j + 1) := by
  have hm : left[k] ∈ left := List.getElem_mem hk
  have hs := h.sm _ hm
  generalize hc : left[k] = c at hm hs
  have hcl : IsL c := .inr hs
  have hcon : con c < 97 := by unfold con; split <;> omega
  have nc : ∀ l : List Nat, (∀ x ∈ l, x ∈ left) → con c ∉ l := fun l hl z => by have := h.sm _ (hl _ z); omega
  have n1 : c ∉ ends := fun z => (h.le c z).2.2.1 hm
  have n2 : con c ∉ ends := fun z => by
    have := (h.le _ z).2.2.2
    rw [con_con hcl] at this
    exact this hm
  have e1 : c ∉ left.eraseIdx k := by rw [← hc]; exact not_mem_erase h.nl hk
  refine ⟨h.nl.sublist (List.eraseIdx_sublist ..), fun c hc => h.sm c (mem_of_erase hc), ?_, fun x hx => ?_, ?_, ?_⟩
  · rw [List.nodup_append]
    refine ⟨h.ne, ?_, ?_⟩
    · simp only [List.nodup_cons, List.mem_singleton, List.not_mem_nil, not_false_eq_true, List.nodup_nil, and_true]
      exact fun z => con_ne hcl z.symm
    · intro a ha b hb z
      subst z
      simp only [List.mem_cons, List.not_mem_nil, or_false] at hb
      rcases hb with rfl | rfl
      · exact n1 ha
      · exact n2 ha
  · rw [List.mem_append] at hx
    rcases hx with hx | hx
    · obtain ⟨g1, g2, g3, g4⟩ := h.le x hx
      exact ⟨g1, List.mem_append_left _ g2, fun z => g3 (mem_of_erase z), fun z => g4 (mem_of_erase z)⟩
    · simp only [List.mem_cons, List.not_mem_nil, or_false] at hx
      rcases hx with rfl | rfl
      · exact ⟨hcl, by simp, e1, nc _ fun x hx => mem_of_erase hx⟩
      · exact ⟨con_L hcl, by rw [con_con hcl]; simp, nc _ fun x hx => mem_of_erase hx, by rw [con_con hcl]; exact e1⟩
  · rw [List.length_eraseIdx_of_lt hk]; have := h.l1; omega
  · rw [List.length_append]; have := h.l2; simp; omega
theorem yi0 : Yi SM [] 0 := ⟨by decide +kernel, by decide +kernel, by simp, by simp, by decide, rfl⟩
theorem perm_erase {l : List Nat} {j : Nat} (hj : j < l.length) : l.Perm (l[j] :: l.eraseIdx j) := by
  induction l generalizing j with
  | nil => simp at hj
  | cons a l ih =>
    cases j with
    | zero => exact .refl _
    | succ j =>
      have hj' : j < l.length := by simpa using hj
      simp only [List.getElem_cons_succ, List.eraseIdx_cons_succ]
      exact ((ih hj').cons a).trans (.swap ..)
theorem p_law_yard (ds : List D) (s : Sto) (Q : C → Sto → Prop) (h : m_law_yard ds s Q) : t_law_yard noX { nx := fun e => Q (.d .non) e.st, rt := fun c e => Q c e.st } ⟨startC N_law_yard ds, s⟩ := by
  unfold m_law_yard at h
  split at h
  · rename_i few top
    obtain ⟨h0, h1, h2, q⟩ := h
    refine ⟨lt_of 3 8, le_line 0, lt_of 4 8, trivial, by omega, by omega, fun d hd0 hd1 => ?_⟩
    refine ⟨⟨by omega, by omega⟩, ?_⟩
    refine forR_inv (fun rest e => ∃ (left ends : List Nat) (j : Nat) (c5 c7 : C), e = ⟨[.d .box, .d (.int few), .d (.int top), .own (signs left), .own (signs ends), c5, .un, c7], s⟩ ∧ Yi left ends j ∧ j + rest.length = (few + d).toNat) ?_ ?_ _ _ ?_
    · rintro x r e ⟨left, ends, j, c5, c7, rfl, hy, hj⟩ N hN
      simp only [List.length_cons] at hj
      have l1 := hy.l1
      refine ⟨lt_of 5 8, rfl, ?_⟩
      refine ⟨by rw [signs_len]; omega, by rw [signs_len]; omega, fun i hi0 hi1 => ?_⟩
      rw [signs_len] at hi1
      refine signs_pop hi0 hi1 fun k hk => ?_
      refine ⟨lt_of 7 8, hy.sm _ (List.getElem_mem hk) |> .inr, le_line 2, ?_⟩
      refine ⟨?_, lt_of 4 8, ?_⟩
      · rw [signs_len, hy.l2, line_eq]
        simp
        omega
      · refine hN _ ⟨left.eraseIdx k, ends ++ [left[k], con left[k]], j + 1, .d x, .d (.str [left[k]]), ?_, hy.step hk, by omega⟩
        rw [← signs_app]
        rfl
    · rintro e ⟨left, ends, j, c5, c7, rfl, hy, hj⟩
      simp only [List.length_nil, Nat.add_zero] at hj
      refine ⟨lt_of 6 8, ?_⟩
      refine ⟨fun e => ∃ (rem found : List Nat), e = ⟨[.d .box, .d (.int few), .d (.int top), .own (signs left), .own (signs rem), c5, .d (.str found), c7], s⟩ ∧ (found ++ rem).Perm ends,
        fun e => match e.sl[4]? with | some (C.own l) => l.length | _ => 0, ⟨ends, [], rfl, .refl _⟩, ?_⟩
      rintro e ⟨rem, found, rfl, hp⟩
      have hlen : found.length + rem.length = 2 * j := by rw [← List.length_append, hp.length_eq, hy.l2]
      have l1 := hy.l1
      refine ite_intro (fun c => ?_) fun c => ?_
      · have c : (0 : Int) < (signs rem).length := of_decide_eq_true c
        rw [signs_len] at c
        refine ⟨rfl, ?_⟩
        refine ⟨by rw [signs_len]; exact c, by rw [signs_len]; omega, fun i hi0 hi1 => ?_⟩
        rw [signs_len] at hi1
        refine signs_pop hi0 hi1 fun k hk => ?_
        refine ⟨by rw [line_eq]; simp; omega, lt_of 6 8, ⟨rem.eraseIdx k, found ++ [rem[k]], rfl, ?_⟩, ?_⟩
        · rw [List.append_assoc]
          exact ((perm_erase hk).symm.append_left found).trans hp
        · show (signs (rem.eraseIdx k)).length < (signs rem).length
          rw [signs_len, signs_len, List.length_eraseIdx_of_lt hk]
          omega
      · have c : ¬ (0 : Int) < (signs rem).length := fun z => c (decide_eq_true z)
        rw [signs_len] at c
        have e0 : rem = [] := List.eq_nil_of_length_eq_zero (by omega)
        subst e0
        rw [List.append_nil] at hp
        simp only [List.length_nil] at hlen
        refine q found ⟨hp.nodup_iff.mpr hy.ne, fun c hc => (hy.le c (hp.mem_iff.mp hc)).1, fun c hc => hp.mem_iff.mpr (hy.le c (hp.mem_iff.mp hc)).2.1⟩ (by omega) (by omega)
    · exact ⟨SM, [], 0, _, _, rfl, yi0, by rw [rngI_length]; omega⟩
  · exact h.elim
theorem all2_signs {α : Type} {P : Nat → Prop} : ∀ {as : List α} {ys : List D}, All2 (fun _ y => ∃ c, P c ∧ y = .str [c]) as ys → ∃ w : List Nat, ys = signs w ∧ (∀ c ∈ w, P c) ∧ w.length = as.length
  | [], _, .nil => ⟨[], rfl, by simp, rfl⟩
  | _ :: as, _, .cons ⟨c, hc, e⟩ h => by
    obtain ⟨w, e1, hw, hl⟩ := all2_signs h
    refine ⟨c :: w, by rw [e, e1]; rfl, fun d hd => ?_, by simp [hl]⟩
    rcases List.mem_cons.mp hd with rfl | hd
    · exact hc
    · exact hw d hd
end Pu
set_option maxRecDepth 100000
set_option maxHeartbeats 4000000
namespace Pu
open PySem L2
def m_law_word : PM := fun ds st Q => match ds with
  | [.box, .str y, .int top] => y ≠ [] ∧ y.length < 2 ^ 30 ∧ 0 ≤ top ∧ top ≤ 16777216 ∧ ∀ w : List Nat, (∀ c ∈ w, c ∈ y) → w.length ≤ top → Q (.d (.str w)) st
  | _ => False
def t_law_word : PTS := sRet (tMeth "str" pJoin (tD (.str [])) (rCons (cLc (iPure pRng1 (rCons (tCall0 m_law_take (tCons (tName 0) (tCons (t2 (tName 2) (tD (.int 1)) pAdd) (tNil)))) (rNil))) (gName 3) (cYes) (t2 (tName 1) (tCall0 m_law_take (tCons (tName 0) (tCons (tCallP pLen (rCons (tName 1) (rNil))) (tNil)))) pIx) [3]) (rNil)))
abbrev N_law_word : List Str := ["_law_box_here", "_law_yard_here", "_law_top", "_law_k"]
theorem len_law_word (ds : List D) (s : Sto) (Q : C → Sto → Prop) (h : m_law_word ds s Q) : ds.length = 3 := by
  unfold m_law_word at h
  split at h
  · rfl
  · exact h.elim
theorem p_law_word (ds : List D) (s : Sto) (Q : C → Sto → Prop) (h : m_law_word ds s Q) : t_law_word noX { nx := fun e => Q (.d .non) e.st, rt := fun c e => Q c e.st } ⟨startC N_law_word ds, s⟩ := by
  unfold m_law_word at h
  split at h
  · rename_i y top
    obtain ⟨hy, hy2, h0, h1, q⟩ := h
    have hpos : 0 < y.length := List.length_pos_iff.mpr hy
    refine ⟨rfl, by omega, by omega, fun d hd0 hd1 => ⟨⟨by omega, by omega⟩, ?_⟩⟩
    refine ⟨by rw [rngI_length, line_eq]; omega, rfl, ?_⟩
    refine lcR_rel (fun _ z => ∃ c, c ∈ y ∧ z = .str [c]) _ _ (fun d hd K k => ?_) fun ys hys => ?_
    · refine ⟨lt_of 3 4, by omega, by omega, fun i hi0 hi1 => ?_⟩
      have hi : i.toNat < y.length := by omega
      have e : atI y i = some y[i.toNat] := by unfold atI; rw [ixN_nat hi0 hi1]; exact List.getElem?_eq_getElem hi
      show (match atI y i with | some c => _ | none => _)
      rw [e]
      exact k _ ⟨_, List.getElem_mem hi, rfl⟩
    · obtain ⟨w, rfl, hw, hl⟩ := all2_signs hys
      rw [rngI_length] at hl
      rw [List.nil_append]
      show (match strL (signs w) with | some r => _ | none => _)
      rw [strL_signs]
      refine ⟨len_signs (by omega), ?_⟩
      show Q (.d (.str (joinN [] (w.map fun c => [c])))) s
      rw [joinN_signs]
      exact q w hw (by omega)
  · exact h.elim
theorem e_word {y s Q} {top : Int} : m_law_word [.box, .str y, .int top] s Q = (y ≠ [] ∧ y.length < 2 ^ 30 ∧ 0 ≤ top ∧ top ≤ 16777216 ∧ ∀ w : List Nat, (∀ c ∈ w, c ∈ y) → w.length ≤ top → Q (.d (.str w)) s) := rfl
end Pu
set_option maxRecDepth 100000
set_option maxHeartbeats 4000000
namespace Pu
open PySem L2
local macro_rules | `(tactic| simpa?! only [$xs,*]) => `(tactic| simp -dsimp only [↓opt_some, ↓br_true, ↓br_false, ↓nameC_d, ↓nameC_own, ↓nameC_dK, ↓nameC_dT, ↓x_name, ↓fzC_d, ↓fzC_own, ↓fzC_dK, ↓fzC_dT, ↓x_fzn, ↓x_fzK, ↓x_fzT, ↓x_fzd, ↓x_fzo, ↓x_rvn, ↓x_rvd, ↓x_rvo, ↓retC_d, ↓retC_own, ↓x_retn, ↓x_retd, ↓x_reto, ↓x_hd, ↓x_ho, ↓x_hn, ↓x_ad, ↓x_ao, ↓x_an, ↓x_set, ↓x_seq, ↓x_next, ↓x_break, ↓x_cont, ↓x_drop, ↓x_ret, ↓x_retN, ↓x_if, ↓x_asg, ↓x_asgG, ↓x_while, ↓x_for, ↓x_2, ↓x_k2ad, ↓x_k2ao, ↓x_k2an, ↓x_k2b, ↓x_k2c, ↓x_1, ↓x_k1c, ↓x_D, ↓bC_b, ↓x_B, ↓x_kBc, ↓x_and, ↓x_kAn, ↓x_or, ↓x_kOr, ↓x_not, ↓x_kNo, ↓x_andV, ↓x_kAV, ↓x_orV, ↓x_kOV, ↓x_notV, ↓x_kNV, ↓x_tif, ↓x_nil, ↓x_kC2, ↓x_cons, ↓x_kC1d, ↓x_kC1o, ↓x_kC1k, ↓x_kC1t, ↓x_kC1n, ↓x_kC3d, ↓x_kC3o, ↓x_kC3k, ↓x_kC3t, ↓x_tup, ↓x_kTu, ↓x_lst, ↓x_kLs, ↓x_rnil, ↓x_kR2, ↓x_rcons, ↓x_kR1d, ↓x_kR1o, ↓x_kR1n, ↓x_callP, ↓x_kCP, ↓x_rvLc, ↓x_rvLn, ↓x_meth, ↓x_kM0d, ↓x_kM0o, ↓x_kM0n, ↓x_kM1, ↓x_kM2, ↓x_kM3, ↓x_meth0, ↓x_mut, ↓x_kU1n, ↓x_kU1d, ↓x_kU2, ↓x_kU3, ↓x_mg, ↓x_ms, ↓x_sl, ↓x_kS0d, ↓x_kS0o, ↓x_kS0n, ↓x_kS1, ↓x_kS2, ↓x_kS3, ↓x_on, ↓iC_i, ↓x_os, ↓x_kOs, ↓x_lc, ↓x_any, ↓x_pure, ↓sC_s, ↓x_rev, ↓x_call, ↓x_kCa, ↓x_gn, ↓x_gnil, ↓x_gcons, ↓x_isi, ↓a_ii, ↓a_ss, ↓a_ll, ↓a_tt, ↓a_I, ↓a_neg, ↓a_mul, ↓a_mulL, ↓a_mulS, ↓a_eq, ↓a_ne, ↓a_lt, ↓a_le, ↓a_gt, ↓a_ge, ↓a_ltS, ↓a_leS, ↓a_inS, ↓a_ninS, ↓a_inL, ↓a_ninL, ↓a_inT, ↓a_ninT, ↓a_ixL, ↓a_ixT, ↓a_ixS, ↓a_ixR, ↓a_ixB, ↓a_slL, ↓a_slT, ↓a_slS, ↓a_lenS, ↓a_lenL, ↓a_lenT, ↓a_lenR, ↓a_join, ↓a_ixof, ↓a_ixofL, ↓a_rng1, ↓a_rng2, ↓a_min2, ↓a_max2, ↓a_lstS, ↓a_lstL, ↓a_lstT, ↓a_int, ↓a_intB, ↓a_isN, ↓x_popAt, ↓x_all, ↓x_anyB, ↓a_isB, ↓a_pop, ↓x_dict0, ↓x_aK, ↓x_kg, ↓x_kgRn, ↓x_kgRf, ↓x_zips, ↓x_ks, ↓x_dg, ↓x_di, ↓x_dpt, ↓x_enum, ↓a_backL, ↓a_backS, ↓a_backT, ↓x_never, ↓a_tupL, ↓a_tupT, ↓x_sort, ↓x_sortS, ↓x_sortP, ↓a_slR, ↓x_zip, ↓x_sum, ↓a_count, ↓augC_i, ↓x_aug, ↓x_par, ↓x_raise, ↓x_callX, ↓x_try, ↓x_subA, ↓x_setN, ↓a_two, ↓x_swIx, ↓x_mkX, ↓x_mk0, ↓x_raise0, ↓a_exB, ↓a_tbl, ↓a_cbl, ↓x_isX, ↓x_xattr, ↓x_dictT0, ↓x_aT, ↓retC_dT, ↓retC_dK, ↓x_retT, ↓x_retK, ↓x_tgg, ↓x_tgRn, ↓x_tgRf, ↓x_tss, ↓x_dgT, ↓x_dptT, ↓x_callT, ↓a_lenTT, ↓a_listT, ↓a_dictT, ↓a_dictK, ↓x_chn, ↓a_mmT, ↓x_sortN, ↓a_lenSS, ↓a_ltT, ↓x_chn3, ↓a_dictN, ↓a_gN, ↓x_gls, ↓x_revT, ↓x_chS, ↓x_ltN, ↓x_try0, rvC_d, rvC_own, consO_s, isTy_s, isTy_l, mgC_own, walk_l, walk_t, walk_s, toR_d, toR_o, items_l, items_t, ok_s, ok_i, ok_b, ok_n, ok_l, ok_t, okL_n, okL_c, e_ss, e_ii, e_bb, e_ll, e_tt, eL_nn, eL_cc, eL_nc, eL_cn, ty_s, ty_i, ty_l, ty_b, kgC_dK, key_i, key_s, kI_eq, kS_eq, oneR_1, walkE_l, walkE_t, walkE_s, ty_t, twoR_2, side_l, side_t, twoD_2, ow_nil, ow_un, ow_d, toR_T, toR_K, tgC_dT, tupK_t, consK_s, keyL_n, keyL_c, fold1, intL_n, consI_s, intL_c, consS_s, strL_n, strL_c, tC_s, m_app, m_ext, m_rev, sline, startC, restE, restC, wipeE, wipeC, plainC, List.getElem?_cons_zero, List.getElem?_cons_succ, List.getD_cons_zero, List.getD_cons_succ, List.set_cons_zero, List.set_cons_succ, List.length_cons, List.length_nil, List.map_cons, List.map_nil, List.replicate_succ, List.replicate_zero, List.cons_append, List.nil_append, Nat.reduceAdd, Nat.reduceMul, Int.reduceAdd, Int.reduceSub, Int.reduceMul, Nat.reduceSub, Nat.reduceLT, Nat.reduceLeDiff, Nat.lt_add_one, Int.reduceNeg, Int.reduceLT, Int.reduceLE, Int.reduceToNat, Int.reducePow, Nat.reducePow, List.flatten_cons, List.flatten_nil, List.append_nil, true_and, and_true, true_or, or_true, eq_self, and_self, decide_true, decide_false, Bool.not_true, Bool.not_false, Bool.not_not, Option.isSome_some, Bool.and_true, Bool.true_and, Bool.and_self, reduceIte, ↓reduceIte, Bool.false_eq_true, ite_self, reduceCtorEq, ne_eq, not_false_eq_true, forall_const, ↓x_gtup, ↓a_repr, ↓x_min1, ↓a_min2S, ↓x_yes, ↓x_ite, x_gnil, walk_l, walk_t, walk_s, $xs,*])
def rpush (r : List Nat) (c : Nat) : List Nat := match r with
  | [] => [c]
  | x :: r' => if x = con c then r' else c :: x :: r'
def redR (r w : List Nat) : List Nat := w.foldl rpush r
def red (w : List Nat) : List Nat := (redR [] w).reverse
theorem rpush_W {r : List Nat} {c : Nat} (h : IsW r) (hc : IsL c) : IsW (rpush r c) := by
  unfold rpush
  cases r with
  | nil => intro d hd; rw [List.mem_singleton] at hd; subst hd; exact hc
  | cons x r =>
    simp only
    split
    · exact fun d hd => h d (List.mem_cons_of_mem _ hd)
    · intro d hd
      rcases List.mem_cons.mp hd with rfl | hd
      · exact hc
      · exact h d hd
theorem redR_W {r w : List Nat} (h : IsW r) (hw : IsW w) : IsW (redR r w) := by
  induction w generalizing r with
  | nil => exact h
  | cons c w ih => exact ih (rpush_W h (hw c (by simp))) fun d hd => hw d (List.mem_cons_of_mem _ hd)
theorem rev_W {w : List Nat} (h : IsW w) : IsW w.reverse := fun c hc => h c (List.mem_reverse.mp hc)
theorem red_W {w : List Nat} (hw : IsW w) : IsW (red w) := rev_W (redR_W (by intro c hc; cases hc) hw)
theorem rpush_len (r : List Nat) (c : Nat) : (rpush r c).length ≤ r.length + 1 := by
  unfold rpush
  cases r with
  | nil => simp
  | cons x r => simp only; split <;> simp; omega
theorem redR_len (r w : List Nat) : (redR r w).length ≤ r.length + w.length := by
  induction w generalizing r with
  | nil => simp [redR]
  | cons c w ih =>
    have h1 := ih (rpush r c)
    have h2 := rpush_len r c
    show (redR (rpush r c) w).length ≤ _
    simp only [List.length_cons]
    omega
theorem red_len (w : List Nat) : (red w).length ≤ w.length := by
  unfold red
  rw [List.length_reverse]
  have := redR_len [] w
  simpa using this
theorem redR_app (r v w : List Nat) : redR r (v ++ w) = redR (redR r v) w := by unfold redR; rw [List.foldl_append]
def m_shortened : PM := fun ds st Q => match ds with
  | [.str w] => IsW w ∧ w.length ≤ 16777216 ∧ Q (.d (.str (red w))) st
  | _ => False
theorem e_shortened {w s Q} : m_shortened [.str w] s Q = (IsW w ∧ w.length ≤ 16777216 ∧ Q (.d (.str (red w))) s) := rfl
theorem con_inj {a b : Nat} (ha : IsL a) (hb : IsL b) (h : con a = con b) : a = b := by rw [← con_con ha, h, con_con hb]
theorem e_contrary {c s Q} : m_contrary [.str [c]] s Q = (IsL c ∧ Q (.d (.str [con c])) s) := rfl
theorem e_box {n k s Q} : m_law_box [.scr n, .int k] s Q = (0 ≤ k ∧ k < 2 ^ 40 ∧ Q (.d .box) s) := rfl
theorem e_yard {few top : Int} {s Q} : m_law_yard [.box, .int few, .int top] s Q = (0 ≤ few ∧ few ≤ top ∧ top ≤ 26 ∧ ∀ y : List Nat, YardOk y → 2 * few ≤ y.length → y.length ≤ 2 * top → Q (.d (.str y)) s) := rfl
def t_shortened : PTS := sSeq (sAsg 1 (tLst (tNil))) (sSeq (sFor (iAny (tName 0)) (gName 2) (sIf (tAnd (tB (t2 (tCallP pLen (rCons (tName 1) (rNil))) (tD (.int 0)) pGt)) (tB (t2 (t2 (tName 1) (t1 (tD (.int 1)) pNeg) pIx) (tCall0 m_contrary (tCons (tName 2) (tNil))) pEq))) (sDrop (tMut mPop (tName 1) tNil)) (sDrop (tMut mAppend (tName 1) (tCons (tName 2) (tNil)))))) (sRet (tMeth "str" pJoin (tD (.str [])) (rCons (tName 1) (rNil)))))
abbrev N_shortened : List Str := ["word", "left", "letter"]
theorem len_shortened (ds : List D) (s : Sto) (Q : C → Sto → Prop) (h : m_shortened ds s Q) : ds.length = 1 := by
  unfold m_shortened at h
  split at h
  · rfl
  · exact h.elim
theorem signs_last {r : List Nat} {c : Nat} : (signs (c :: r).reverse)[(signs (c :: r).reverse).length - 1]? = some (.str [c]) := by
  unfold signs
  simp
theorem signs_drop (r : List Nat) : (signs r).dropLast = signs r.dropLast := by unfold signs; rw [List.map_dropLast]
theorem rev_drop (c : Nat) (r : List Nat) : (c :: r).reverse.dropLast = r.reverse := by simp
theorem p_shortened (ds : List D) (s : Sto) (Q : C → Sto → Prop) (h : m_shortened ds s Q) : t_shortened noX { nx := fun e => Q (.d .non) e.st, rt := fun c e => Q c e.st } ⟨startC N_shortened ds, s⟩ := by
  unfold m_shortened at h
  split at h
  · rename_i w
    obtain ⟨hw, hl, q⟩ := h
    unfold t_shortened
    simpa?! only []
    refine forH_signs w (fun pre suf e => ∃ c2, e = ⟨[.d (.str w), .own (signs (redR [] pre).reverse), c2], s⟩) ⟨_, rfl⟩ ?_ ?_
    · rintro e ⟨c2, rfl⟩
      simpa?! only [strL_signs, joinN_signs]
      exact ⟨len_signs' (Nat.le_trans (red_len w) hl), q⟩
    · rintro pre c suf e hp ⟨c2, rfl⟩ N hN
      have hc : IsL c := hw c (by rw [← hp]; simp)
      have hpw : IsW pre := fun d hd => hw d (by rw [← hp]; simp [hd])
      have hrl := redR_len [] pre
      have hpl : pre.length + (suf.length + 1) = w.length := by rw [← hp]; simp
      have fin : ∀ r', r' = redR [] (pre ++ [c]) → N ⟨[.d (.str w), .own (signs r'.reverse), .d (.str [c])], s⟩ := fun r' h => by subst h; exact hN _ ⟨_, rfl⟩
      rw [redR_app] at fin
      generalize redR [] pre = r at hrl fin
      have fin : N ⟨[.d (.str w), .own (signs (rpush r c).reverse), .d (.str [c])], s⟩ := fin _ rfl
      have app : (signs r.reverse).length < 16777216 ∧ (rpush r c = c :: r → N ⟨[.d (.str w), .own (signs r.reverse ++ [.str [c]]), .d (.str [c])], s⟩) := by
        refine ⟨by rw [signs_len, List.length_reverse]; simp at hrl; omega, fun e => ?_⟩
        rw [signs_snoc, ← List.reverse_cons, ← e]
        exact fin
      simpa?! only []
      cases r with
      | nil =>
        refine br_neg (by decide) ?_
        simpa?! only []
        exact ⟨app.1, app.2 rfl⟩
      | cons x r =>
        refine br_pos (decide_eq_true ?_) ?_
        · rw [signs_len]; simp
        simpa?! only [atI_last]
        refine opt_of (a := .str [x]) (by unfold signs; simp) ?_
        simpa?! only [e_contrary]
        refine ⟨hc, ?_⟩
        by_cases hx : x = con c
        · refine br_pos (decide_eq_true (by rw [hx])) ?_
          simpa?! only []
          refine opt_of signs_last ?_
          simpa?! only []
          rw [signs_drop, rev_drop]
          unfold rpush at fin
          simp only [hx, if_pos] at fin
          exact fin
        · refine br_neg (decide_eq_false (by simpa using hx)) ?_
          simpa?! only []
          exact ⟨app.1, app.2 (by unfold rpush; simp only; rw [if_neg hx])⟩
  · exact h.elim
def cyc (w : List Nat) : List Nat := if 1 < w.length ∧ w.head? = w.getLast?.map con then cyc w.tail.dropLast else w
termination_by w.length
decreasing_by simp; omega
def m_shortest : PM := fun ds st Q => match ds with
  | [.str w] => IsW w ∧ w.length ≤ 16777216 ∧ Q (.d (.str (cyc (red w)))) st
  | _ => False
theorem e_shortest {w s Q} : m_shortest [.str w] s Q = (IsW w ∧ w.length ≤ 16777216 ∧ Q (.d (.str (cyc (red w)))) s) := rfl
def t_shortest : PTS := sSeq (sAsg 1 (tCall0 m_shortened (tCons (tName 0) (tNil)))) (sSeq (sWhile (tAnd (tB (t2 (tCallP pLen (rCons (tName 1) (rNil))) (tD (.int 1)) pGt)) (tB (t2 (t2 (tName 1) (tD (.int 0)) pIx) (tCall0 m_contrary (tCons (t2 (tName 1) (t1 (tD (.int 1)) pNeg) pIx) (tNil))) pEq))) (sAsg 1 (tSl (tName 1) (oSome (tD (.int 1))) (oSome (t1 (tD (.int 1)) pNeg))))) (sRet (tName 1)))
abbrev N_shortest : List Str := ["word", "left"]
theorem len_shortest (ds : List D) (s : Sto) (Q : C → Sto → Prop) (h : m_shortest ds s Q) : ds.length = 1 := by
  unfold m_shortest at h
  split at h
  · rfl
  · exact h.elim
theorem ends_of {v : List Nat} (h : 0 < v.length) : ∃ a b, v.head? = some a ∧ v.getLast? = some b ∧ a ∈ v ∧ b ∈ v := by
  have hv : v ≠ [] := List.length_pos_iff.mp h
  refine ⟨v.head hv, v.getLast hv, List.head?_eq_some_head hv, List.getLast?_eq_some_getLast hv, List.head_mem hv, List.getLast_mem hv⟩
theorem cyc_in {v : List Nat} {a b : Nat} (h : 1 < v.length) (ha : v.head? = some a) (hb : v.getLast? = some b) (e : a = con b) : cyc v = cyc v.tail.dropLast := by
  rw [cyc, if_pos ⟨h, by rw [ha, hb, e]; rfl⟩]
theorem cyc_out {v : List Nat} {a b : Nat} (ha : v.head? = some a) (hb : v.getLast? = some b) (e : a ≠ con b) : cyc v = v := by
  rw [cyc, if_neg]
  rw [ha, hb]
  simp
  exact fun _ => e
theorem cyc_one {v : List Nat} (h : ¬ 1 < v.length) : cyc v = v := by rw [cyc, if_neg (fun z => h z.1)]
theorem inner_W {v : List Nat} (h : IsW v) : IsW v.tail.dropLast := fun c hc => h c (List.mem_of_mem_tail (List.dropLast_subset _ hc))
theorem cyc_len (v : List Nat) : (cyc v).length ≤ v.length := by
  generalize hn : v.length = n
  induction n using Nat.strongRecOn generalizing v with
  | _ n ih =>
    rw [cyc]
    split
    · rename_i hc
      have := ih v.tail.dropLast.length (by simp; omega) _ rfl
      simp at this
      omega
    · omega
theorem p_shortest (ds : List D) (s : Sto) (Q : C → Sto → Prop) (h : m_shortest ds s Q) : t_shortest noX { nx := fun e => Q (.d .non) e.st, rt := fun c e => Q c e.st } ⟨startC N_shortest ds, s⟩ := by
  unfold m_shortest at h
  split at h
  · rename_i w
    obtain ⟨hw, hl, q⟩ := h
    unfold t_shortest
    simpa?! only [e_shortened]
    refine ⟨hw, hl, ?_⟩
    refine wh_on (fun v : List Nat => ⟨[.d (.str w), .d (.str v)], s⟩) (fun v => IsW v ∧ cyc v = cyc (red w)) List.length (red w) rfl ⟨red_W hw, rfl⟩ ?_
    rintro v ⟨hv, hc⟩ N hN
    simpa?! only []
    by_cases h1 : 1 < v.length
    · refine br_pos (decide_eq_true (by omega)) ?_
      obtain ⟨a, b, ha, hb, ma, mb⟩ := ends_of (v := v) (by omega)
      simpa?! only []
      refine at_head ha ?_
      simpa?! only []
      refine at_last hb ?_
      simpa?! only [e_contrary]
      refine ⟨hv b mb, ?_⟩
      by_cases e : a = con b
      · refine br_pos (decide_eq_true (by rw [e])) ?_
        simpa?! only [cut_inner]
        exact hN _ ⟨inner_W hv, by rw [← hc, cyc_in h1 ha hb e]⟩ (by simp; omega)
      · refine br_neg (decide_eq_false (by simpa using e)) ?_
        simpa?! only []
        rw [← hc, cyc_out ha hb e] at q
        exact q
    · refine br_neg (decide_eq_false (by omega)) ?_
      simpa?! only []
      rw [← hc, cyc_one h1] at q
      exact q
  · exact h.elim
set_option maxRecDepth 100000
set_option maxHeartbeats 1000000
def sml (c : Nat) : Bool := decide (c ∈ SM)
theorem sml_con {c : Nat} (h : IsL c) : sml (con c) = !sml c := by
  have key : ∀ n : Nat, n < 123 → IsL n → sml (con n) = !sml n := by decide +kernel
  exact key c (by unfold IsL at h; omega) h
def bandW (y : List Nat) : List Nat := (srt ((y.filter sml).map fun c => [c])).flatten
theorem sing_flat : ∀ {L : List (List Nat)}, (∀ x ∈ L, ∃ c, x = [c]) → L = L.flatten.map fun c => [c]
  | [], _ => rfl
  | x :: L, h => by
    obtain ⟨c, rfl⟩ := h x (by simp)
    rw [List.flatten_cons, List.map_append, ← sing_flat fun x hx => h x (List.mem_cons_of_mem _ hx)]
    rfl
theorem band_sing (y : List Nat) : srt ((y.filter sml).map fun c => [c]) = (bandW y).map fun c => [c] := sing_flat fun x hx => by
  obtain ⟨c, _, rfl⟩ := List.mem_map.mp (srt_mem.mp hx)
  exact ⟨c, rfl⟩
theorem band_perm (y : List Nat) : (bandW y).Perm (y.filter sml) := by
  have h := srt_perm ((y.filter sml).map fun c => [c])
  rw [band_sing] at h
  have := h.map (fun l : List Nat => l.headD 0)
  rw [List.map_map, List.map_map] at this
  have e : ((fun l : List Nat => l.headD 0) ∘ fun c => [c]) = id := rfl
  rw [e, List.map_id, List.map_id] at this
  exact this
theorem band_mem {y : List Nat} {c : Nat} : c ∈ bandW y ↔ c ∈ y ∧ sml c = true := by rw [(band_perm y).mem_iff, List.mem_filter]
theorem band_len (y : List Nat) : (bandW y).length ≤ y.length := by rw [(band_perm y).length_eq]; exact List.length_filter_le _ _
theorem band_nodup {y : List Nat} (h : y.Nodup) : (bandW y).Nodup := (band_perm y).nodup_iff.mpr (h.filter _)
theorem band_strs (y : List Nat) : (srt ((y.filter sml).map fun c => [c])).map D.str = signs (bandW y) := by rw [band_sing, List.map_map]; rfl
def smlD (d : D) : Bool := match d with | .str [c] => sml c | _ => false
theorem sml_filter (y : List Nat) : ((signs y).filter smlD).map id = (((y.filter sml).map fun c => [c]).map D.str) := by
  rw [List.map_id, List.map_map]
  unfold signs
  induction y with
  | nil => rfl
  | cons c y ih =>
    rw [List.map_cons, List.filter_cons, List.filter_cons]
    show (if sml c = true then _ else _) = List.map _ (if sml c = true then _ else _)
    split
    · rw [ih]; rfl
    · exact ih
def m_bands : PM := fun ds st Q => match ds with
  | [.str y] => y.length < 64 ∧ Q (.d (.str (bandW y))) st
  | _ => False
theorem e_bands {y s Q} : m_bands [.str y] s Q = (y.length < 64 ∧ Q (.d (.str (bandW y))) s) := rfl
def t_bands : PTS := sRet (tMeth "str" pJoin (tD (.str [])) (rCons (tCallP pSortT (rCons (cLc (iAny (tName 0)) (gName 1) (tB (t2 (tName 1) (tD (.str SM)) (pIn false))) (tName 1) [1]) (rNil))) (rNil)))
abbrev N_bands : List Str := ["yard", "sign"]
theorem len_bands (ds : List D) (s : Sto) (Q : C → Sto → Prop) (h : m_bands ds s Q) : ds.length = 1 := by
  unfold m_bands at h
  split at h
  · rfl
  · exact h.elim
theorem p_bands (ds : List D) (s : Sto) (Q : C → Sto → Prop) (h : m_bands ds s Q) : t_bands noX { nx := fun e => Q (.d .non) e.st, rt := fun c e => Q c e.st } ⟨startC N_bands ds, s⟩ := by
  unfold m_bands at h
  split at h
  · rename_i y
    obtain ⟨hl, q⟩ := h
    unfold t_bands
    simpa?! only []
    refine ⟨by rw [signs_len]; omega, ?_⟩
    refine lcH_filter smlD id (fun d hd K k => ?_) ?_
    · obtain ⟨c, hc, rfl⟩ := mem_signs hd
      have k : K (if sml c = true then some (.str [c]) else none) ⟨[.d (.str y), .un], s⟩ := k
      simpa?! only []
      unfold sml at k
      refine br_intro (fun z => ?_) fun z => ?_
      · rw [z] at k
        simpa?! only []
        exact k
      · rw [z] at k
        simpa?! only []
        exact k
    · rw [sml_filter]
      simpa?! only []
      refine sort_ok rfl ?_ ?_
      · rw [List.length_map]
        exact Nat.lt_of_le_of_lt (List.length_filter_le _ _) hl
      · rw [band_strs]
        simpa?! only [strL_signs, joinN_signs]
        exact ⟨len_signs' (by have := band_len y; omega), q⟩
  · exact h.elim
set_option maxRecDepth 100000
set_option maxHeartbeats 1000000
abbrev Sd := Nat × Nat
def sd (p : Sd) : D := .tup [.int (p.1 : Nat), .int (p.2 : Nat)]
def oD (o : List Sd) : D := .tup (o.map sd)
set_option maxRecDepth 100000
set_option maxHeartbeats 1000000
set_option maxRecDepth 100000
set_option maxHeartbeats 1000000
theorem ixOf_app_mem {c : Nat} : ∀ {l m : List Nat}, c ∈ l → ixOf c (l ++ m) = ixOf c l
  | [], _, h => by cases h
  | x :: l, m, h => by
    show (if x = c then 0 else ixOf c (l ++ m) + 1) = if x = c then 0 else ixOf c l + 1
    by_cases e : x = c
    · rw [if_pos e, if_pos e]
    · rw [if_neg e, if_neg e, ixOf_app_mem ((List.mem_cons.mp h).resolve_left fun z => e z.symm)]
theorem ixOf_app_not {c : Nat} : ∀ {l m : List Nat}, c ∉ l → ixOf c (l ++ m) = l.length + ixOf c m
  | [], m, _ => by simp
  | x :: l, m, h => by
    show (if x = c then 0 else ixOf c (l ++ m) + 1) = _
    rw [if_neg (fun z => h (by simp [z])), ixOf_app_not (fun z => h (List.mem_cons_of_mem _ z)), List.length_cons]
    omega
theorem ixOf_inj {a b : Nat} {l : List Nat} (ha : a ∈ l) (hb : b ∈ l) (h : ixOf a l = ixOf b l) : a = b := by
  have h1 := (ixOf_spec ha).1
  have h2 := (ixOf_spec hb).1
  rw [h, h2] at h1
  exact (Option.some.inj h1).symm
theorem ixOf_pre {c k : Nat} {l : List Nat} (h : c ∈ l) (hk : ixOf c l < k) : c ∈ l.take k ∧ ixOf c (l.take k) = ixOf c l := by
  have h1 : c ∈ l.take k := List.mem_of_getElem? (i := ixOf c l) (by rw [List.getElem?_take_of_lt hk]; exact (ixOf_spec h).1)
  refine ⟨h1, ?_⟩
  have := ixOf_app_mem (m := l.drop k) h1
  rw [List.take_append_drop] at this
  exact this.symm
theorem ixOf_post {c k : Nat} {l : List Nat} (h : c ∈ l) (hk : k ≤ ixOf c l) : c ∉ l.take k ∧ c ∈ l.drop k ∧ ixOf c l = k + ixOf c (l.drop k) := by
  have hl := ixOf_lt h
  have h1 : c ∉ l.take k := fun z => by
    have := ixOf_app_mem (m := l.drop k) z
    rw [List.take_append_drop] at this
    have := ixOf_lt z
    rw [List.length_take] at this
    omega
  have h2 := ixOf_app_not (m := l.drop k) h1
  rw [List.take_append_drop, List.length_take] at h2
  refine ⟨h1, ?_, by omega⟩
  have : c ∈ l.take k ++ l.drop k := by rw [List.take_append_drop]; exact h
  exact (List.mem_append.mp this).resolve_left h1
theorem take_drop_dis {l : List Nat} (h : l.Nodup) {c k : Nat} (h1 : c ∈ l.take k) : c ∉ l.drop k := fun h2 => by
  have : (l.take k ++ l.drop k).Nodup := by rw [List.take_append_drop]; exact h
  rw [List.nodup_append] at this
  exact this.2.2 c h1 c h2 rfl
/-- what is behind the i-th round the text -/
theorem rest_ix {y : List Nat} (h : y.Nodup) {i b : Nat} (hi : i < y.length) (hb : b ∈ y) (ne : ixOf b y ≠ i) :
    b ∈ y.drop (i + 1) ++ y.take i ∧ ixOf b (y.drop (i + 1) ++ y.take i) = if i < ixOf b y then ixOf b y - i - 1 else y.length - i - 1 + ixOf b y := by
  by_cases c : i < ixOf b y
  · obtain ⟨_, h2, h3⟩ := ixOf_post (k := i + 1) hb c
    refine ⟨List.mem_append_left _ h2, ?_⟩
    rw [ixOf_app_mem h2, if_pos c]
    omega
  · have c' : ixOf b y < i := by omega
    obtain ⟨h2, h3⟩ := ixOf_pre hb c'
    have h4 : b ∉ y.drop (i + 1) := take_drop_dis h (ixOf_pre hb (k := i + 1) (by omega)).1
    refine ⟨List.mem_append_right _ h2, ?_⟩
    rw [ixOf_app_not h4, if_neg c, h3, List.length_drop]
    omega
/-- whether q comes ahead of r, from p on -/
def cyc3 (p q r : Nat) : Bool := decide ((p < q ∧ q < r) ∨ (q < r ∧ r < p) ∨ (r < p ∧ p < q))
def m_goes_round : PM := fun ds st Q => match ds with
  | [.str y, .str [a], .str [b], .str [c]] => y.Nodup ∧ y.length ≤ 64 ∧ a ∈ y ∧ b ∈ y ∧ c ∈ y ∧ a ≠ b ∧ a ≠ c ∧ Q (.d (.bl (cyc3 (ixOf a y) (ixOf b y) (ixOf c y)))) st
  | _ => False
theorem e_goes {y a b c s Q} : m_goes_round [.str y, .str [a], .str [b], .str [c]] s Q = (y.Nodup ∧ y.length ≤ 64 ∧ a ∈ y ∧ b ∈ y ∧ c ∈ y ∧ a ≠ b ∧ a ≠ c ∧ Q (.d (.bl (cyc3 (ixOf a y) (ixOf b y) (ixOf c y)))) s) := rfl
def t_goes_round : PTS := sSeq (sAsg 4 (tMeth "str" pIndexS (tName 0) (rCons (tName 1) (rNil)))) (sSeq (sAsg 5 (t2 (tSl (tName 0) (oSome (t2 (tName 4) (tD (.int 1)) pAdd)) (oNone)) (tSl (tName 0) (oNone) (oSome (tName 4))) pAdd)) (sRet (t2 (tMeth "str" pIndexS (tName 5) (rCons (tName 2) (rNil))) (tMeth "str" pIndexS (tName 5) (rCons (tName 3) (rNil))) pLt)))
abbrev N_goes_round : List Str := ["yard", "x", "y", "z", "at", "rest"]
theorem len_goes_round (ds : List D) (s : Sto) (Q : C → Sto → Prop) (h : m_goes_round ds s Q) : ds.length = 4 := by
  unfold m_goes_round at h
  split at h
  · rfl
  · exact h.elim
theorem p_goes_round (ds : List D) (s : Sto) (Q : C → Sto → Prop) (h : m_goes_round ds s Q) : t_goes_round noX { nx := fun e => Q (.d .non) e.st, rt := fun c e => Q c e.st } ⟨startC N_goes_round ds, s⟩ := by
  unfold m_goes_round at h
  split at h
  · rename_i y a b c
    obtain ⟨hn, hl, ha, hb, hc, ab, ac, q⟩ := h
    have hi := ixOf_lt ha
    obtain ⟨b1, b2⟩ := rest_ix hn hi hb (fun z => ab (ixOf_inj ha hb z.symm))
    obtain ⟨c1, c2⟩ := rest_ix hn hi hc (fun z => ac (ixOf_inj ha hc z.symm))
    unfold t_goes_round
    simpa?! only []
    refine ⟨ha, ?_⟩
    have e1 : ((ixOf a y : Nat) : Int) + 1 = ((ixOf a y + 1 : Nat) : Int) := by omega
    rw [e1]
    simpa?! only [cut_take, cut_drop]
    refine ⟨by rw [List.length_drop, List.length_take]; omega, b1, c1, ?_⟩
    have e2 : decide ((ixOf b (y.drop (ixOf a y + 1) ++ y.take (ixOf a y)) : Int) < (ixOf c (y.drop (ixOf a y + 1) ++ y.take (ixOf a y)) : Nat)) = cyc3 (ixOf a y) (ixOf b y) (ixOf c y) := by
      have n1 : ixOf b y ≠ ixOf a y := fun z => ab (ixOf_inj ha hb z.symm)
      have n2 : ixOf c y ≠ ixOf a y := fun z => ac (ixOf_inj ha hc z.symm)
      have l1 := ixOf_lt hb
      have l2 := ixOf_lt hc
      rw [b2, c2]
      unfold cyc3
      rw [Bool.eq_iff_iff]
      simp only [decide_eq_true_eq]
      split <;> split <;> omega
    rw [e2]
    exact q
  · exact h.elim
theorem perm_nd : ∀ {a b : List Nat}, a.Nodup → b.Nodup → (∀ x, x ∈ a ↔ x ∈ b) → a.Perm b
  | [], b, _, _, h => by
    cases b with
    | nil => exact .refl _
    | cons y b => exact absurd ((h y).mpr (by simp)) (by simp)
  | x :: a, b, ha, hb, h => by
    rw [List.nodup_cons] at ha
    have hx : x ∈ b := (h x).mp (by simp)
    refine ((perm_nd (a := a) (b := b.erase x) ha.2 (hb.erase x) fun z => ?_).cons x).trans (List.perm_cons_erase hx).symm
    rw [hb.mem_erase_iff]
    constructor
    · intro hz
      exact ⟨fun e => ha.1 (e ▸ hz), (h z).mp (List.mem_cons_of_mem _ hz)⟩
    · rintro ⟨h1, h2⟩
      exact (List.mem_cons.mp ((h z).mpr h2)).resolve_left h1
set_option maxRecDepth 100000
set_option maxHeartbeats 1000000
def nt (w : List Nat) (b : Nat) : Int := (w.count b : Nat) - (w.count (con b) : Nat)
def netL (y w : List Nat) : List Int := (bandW y).map (nt w)
def lac (y : List Nat) (a b : Nat) : Int :=
  if a = b then 0 else if cyc3 (ixOf (con a) y) (ixOf (con b) y) (ixOf a y) = cyc3 (ixOf (con a) y) (ixOf b y) (ixOf a y) then 0 else if cyc3 (ixOf (con a) y) (ixOf (con b) y) (ixOf a y) = true then 1 else -1
def crs (y v w : List Nat) : Int := ((bandW y).map fun a => nt v a * ((bandW y).map fun b => nt w b * lac y a b).sum).sum
theorem nt_small {w : List Nat} (b : Nat) (h : w.length ≤ 64) : -(2 ^ 64) < nt w b ∧ nt w b < 2 ^ 64 := by
  have h1 := List.count_le_length (a := b) (l := w)
  have h2 := List.count_le_length (a := con b) (l := w)
  unfold nt
  omega
theorem zip_maps (f g : Nat → D) : ∀ l : List Nat, zipF (l.map f) (l.map g) = l.map fun x => .tup [f x, g x]
  | [] => rfl
  | x :: l => by rw [List.map_cons, List.map_cons, zipF, zip_maps f g l, List.map_cons]
theorem map_ints (f : Nat → Int) (l : List Nat) : (l.map f).map D.int = l.map fun x => .int (f x) := by rw [List.map_map]; rfl
theorem lac_anti {y : List Nat} (hy : YardOk y) {a b : Nat} (ha : a ∈ bandW y) (hb : b ∈ bandW y) : lac y b a = - lac y a b := by
  obtain ⟨ay, as⟩ := band_mem.mp ha
  obtain ⟨b1, bs⟩ := band_mem.mp hb
  have ca := hy.con_ a ay
  have cb := hy.con_ b b1
  by_cases e : a = b
  · subst e; unfold lac; rw [if_pos rfl]; rfl
  have e' : ¬ b = a := fun z => e z.symm
  have small : ∀ {x z : Nat}, x ∈ y → sml x = true → sml z = true → con x ≠ z := fun hx h1 h2 q => by
    have := sml_con (hy.let_ _ hx)
    rw [q, h1, h2] at this
    cases this
  have d1 : ixOf a y ≠ ixOf b y := fun z => e (ixOf_inj ay b1 z)
  have d2 : ixOf (con a) y ≠ ixOf b y := fun z => small ay as bs (ixOf_inj ca b1 z)
  have d3 : ixOf (con a) y ≠ ixOf a y := fun z => small ay as as (ixOf_inj ca ay z)
  have d4 : ixOf (con b) y ≠ ixOf a y := fun z => small b1 bs as (ixOf_inj cb ay z)
  have d5 : ixOf (con b) y ≠ ixOf b y := fun z => small b1 bs bs (ixOf_inj cb b1 z)
  have d6 : ixOf (con a) y ≠ ixOf (con b) y := fun z => e (by
    have := ixOf_inj ca cb z
    have h := congrArg con this
    rw [con_con (hy.let_ _ ay), con_con (hy.let_ _ b1)] at h
    exact h)
  unfold lac
  rw [if_neg e, if_neg e']
  generalize ixOf a y = p at *
  generalize ixOf (con a) y = p' at *
  generalize ixOf b y = q at *
  generalize ixOf (con b) y = q' at *
  cases hA : cyc3 p' q' p <;> cases hB : cyc3 p' q p <;> cases hC : cyc3 q' p' q <;> cases hD : cyc3 q' p q <;>
    first
    | rfl
    | (exfalso
       unfold cyc3 at hA hB hC hD
       simp only [decide_eq_true_eq, decide_eq_false_iff_not] at hA hB hC hD
       omega)
theorem sum_mul_left (c : Int) (g : Nat → Int) : ∀ l : List Nat, c * (l.map g).sum = (l.map fun b => c * g b).sum
  | [] => by simp
  | b :: l => by rw [List.map_cons, List.sum_cons, Int.mul_add, sum_mul_left c g l, List.map_cons, List.sum_cons]
theorem sum_add (f g : Nat → Int) : ∀ l : List Nat, (l.map fun b => f b + g b).sum = (l.map f).sum + (l.map g).sum
  | [] => rfl
  | b :: l => by
    simp only [List.map_cons, List.sum_cons, sum_add f g l]
    omega
theorem sum_zero : ∀ l : List Nat, (l.map fun _ => (0 : Int)).sum = 0
  | [] => rfl
  | _ :: l => by simp only [List.map_cons, List.sum_cons, sum_zero l]; rfl
theorem sum_swap (t : Nat → Nat → Int) (m : List Nat) : ∀ l : List Nat, (l.map fun a => (m.map fun b => t a b).sum).sum = (m.map fun b => (l.map fun a => t a b).sum).sum
  | [] => by simp only [List.map_nil, List.sum_nil]; exact (sum_zero m).symm
  | a :: l => by
    rw [List.map_cons, List.sum_cons, sum_swap t m l, ← sum_add]
    congr 1
theorem sum_congr {f g : Nat → Int} {l : List Nat} (h : ∀ a ∈ l, f a = g a) : (l.map f).sum = (l.map g).sum := by rw [List.map_congr_left h]
def m_net : PM := fun ds st Q => match ds with
  | [.str y, .str w] => IsW y ∧ y.length < 64 ∧ Q (.d (.tup ((netL y w).map D.int))) st
  | _ => False
theorem e_net {y w s Q} : m_net [.str y, .str w] s Q = (IsW y ∧ y.length < 64 ∧ Q (.d (.tup ((netL y w).map D.int))) s) := rfl
def t_net : PTS := sRet (tCallP pTuple (rCons (cLc (iAny (tCall0 m_bands (tCons (tName 0) (tNil)))) (gName 2) (cYes) (t2 (tMeth "str" pCount (tName 1) (rCons (tName 2) (rNil))) (tMeth "str" pCount (tName 1) (rCons (tCall0 m_contrary (tCons (tName 2) (tNil))) (rNil))) pSub) [2]) (rNil)))
abbrev N_net : List Str := ["yard", "word", "name"]
theorem len_net (ds : List D) (s : Sto) (Q : C → Sto → Prop) (h : m_net ds s Q) : ds.length = 2 := by
  unfold m_net at h
  split at h
  · rfl
  · exact h.elim
theorem p_net (ds : List D) (s : Sto) (Q : C → Sto → Prop) (h : m_net ds s Q) : t_net noX { nx := fun e => Q (.d .non) e.st, rt := fun c e => Q c e.st } ⟨startC N_net ds, s⟩ := by
  unfold m_net at h
  split at h
  · rename_i y w
    obtain ⟨hy, hl, q⟩ := h
    have bl := band_len y
    unfold t_net
    simpa?! only [e_bands]
    refine ⟨hl, by rw [signs_len]; omega, ?_⟩
    refine lcH_mm (l := bandW y) (g0 := fun c => .str [c]) (fun b => .int (nt w b)) (fun b hb K k => ?_) ?_
    · simpa?! only [e_contrary]
      exact ⟨hy b (band_mem.mp hb).1, k⟩
    · simpa?! only []
      unfold netL at q
      rw [map_ints] at q
      exact q
  · exact h.elim
def m_lies_across : PM := fun ds st Q => match ds with
  | [.str y, .str [a], .str [b]] => YardOk y ∧ y.length ≤ 64 ∧ a ∈ bandW y ∧ b ∈ bandW y ∧ Q (.d (.int (lac y a b))) st
  | _ => False
theorem e_lies {y a b s Q} : m_lies_across [.str y, .str [a], .str [b]] s Q = (YardOk y ∧ y.length ≤ 64 ∧ a ∈ bandW y ∧ b ∈ bandW y ∧ Q (.d (.int (lac y a b))) s) := rfl
def t_lies_across : PTS := sSeq (sIf (tB (t2 (tName 1) (tName 2) pEq)) (sRet (tD (.int 0))) (sNext)) (sSeq (sPar 3 4 (tCons (tCall0 m_contrary (tCons (tName 1) (tNil))) (tCons (tCall0 m_contrary (tCons (tName 2) (tNil))) (tNil)))) (sSeq (sAsg 5 (tCall0 m_goes_round (tCons (tName 0) (tCons (tName 3) (tCons (tName 4) (tCons (tName 1) (tNil))))))) (sSeq (sIf (tB (t2 (tName 5) (tCall0 m_goes_round (tCons (tName 0) (tCons (tName 3) (tCons (tName 2) (tCons (tName 1) (tNil)))))) pEq)) (sRet (tD (.int 0))) (sNext)) (sRet (t2 (tLst (tCons (t1 (tD (.int 1)) pNeg) (tCons (tD (.int 1)) (tNil)))) (tCallP pInt (rCons (tName 5) (rNil))) pIx)))))
abbrev N_lies_across : List Str := ["yard", "x", "y", "low", "high", "comes"]
theorem len_lies_across (ds : List D) (s : Sto) (Q : C → Sto → Prop) (h : m_lies_across ds s Q) : ds.length = 3 := by
  unfold m_lies_across at h
  split at h
  · rfl
  · exact h.elim
theorem p_lies_across (ds : List D) (s : Sto) (Q : C → Sto → Prop) (h : m_lies_across ds s Q) : t_lies_across noX { nx := fun e => Q (.d .non) e.st, rt := fun c e => Q c e.st } ⟨startC N_lies_across ds, s⟩ := by
  unfold m_lies_across at h
  split at h
  · rename_i y a b
    obtain ⟨hy, hl, ha, hb, q⟩ := h
    obtain ⟨ay, as⟩ := band_mem.mp ha
    obtain ⟨b1, bs⟩ := band_mem.mp hb
    have small : ∀ {x z : Nat}, x ∈ y → sml x = true → sml z = true → con x ≠ z := fun hx h1 h2 q => by
      have := sml_con (hy.let_ _ hx)
      rw [q, h1, h2] at this
      cases this
    unfold t_lies_across
    unfold lac at q
    simpa?! only []
    by_cases e : a = b
    · subst e
      rw [if_pos rfl] at q
      refine br_pos (by simp) ?_
      simpa?! only []
      exact q
    · rw [if_neg e] at q
      refine br_neg (by simpa using e) ?_
      have ne : con a ≠ con b := fun z => e (by
        have h := congrArg con z
        rw [con_con (hy.let_ _ ay), con_con (hy.let_ _ b1)] at h
        exact h)
      simpa?! only [x_par, twoD_2, e_contrary, e_goes]
      have n1 : ¬ con a = a := small ay as as
      have n2 : ¬ con a = b := small ay as bs
      have ca := hy.con_ a ay
      have cb := hy.con_ b b1
      refine ⟨hy.let_ a ay, hy.let_ b b1, hy.nd, hl, ca, cb, ay, ne, n1, hy.nd, hl, ca, b1, ay, n2, n1, ?_⟩
      cases hA : cyc3 (ixOf (con a) y) (ixOf (con b) y) (ixOf a y) <;> cases hB : cyc3 (ixOf (con a) y) (ixOf b y) (ixOf a y) <;> rw [hA, hB] at q
      · refine br_pos (by decide) ?_
        simpa?! only []
        exact q
      · refine br_neg (by decide) ?_
        simpa?! only []
        refine opt_of (a := .int (-1)) rfl ?_
        simpa?! only []
        exact q
      · refine br_neg (by decide) ?_
        simpa?! only []
        refine opt_of (a := .int 1) rfl ?_
        simpa?! only []
        exact q
      · refine br_pos (by decide) ?_
        simpa?! only []
        exact q
  · exact h.elim
def tabD (y : List Nat) : D := .tup ((bandW y).map fun a => .tup ((bandW y).map fun b => .int (lac y a b)))
def m_table : PM := fun ds st Q => match ds with
  | [.str y] => YardOk y ∧ y.length < 64 ∧ Q (.d (tabD y)) st
  | _ => False
theorem e_table {y s Q} : m_table [.str y] s Q = (YardOk y ∧ y.length < 64 ∧ Q (.d (tabD y)) s) := rfl
def t_table : PTS := sSeq (sAsg 1 (tCall0 m_bands (tCons (tName 0) (tNil)))) (sRet (tCallP pTuple (rCons (cLc (iAny (tName 1)) (gName 2) (cYes) (tCallP pTuple (rCons (cLc (iAny (tName 1)) (gName 3) (cYes) (tCall0 m_lies_across (tCons (tName 0) (tCons (tName 2) (tCons (tName 3) (tNil))))) [3]) (rNil))) [2]) (rNil))))
abbrev N_table : List Str := ["yard", "names", "x", "y"]
theorem len_table (ds : List D) (s : Sto) (Q : C → Sto → Prop) (h : m_table ds s Q) : ds.length = 1 := by
  unfold m_table at h
  split at h
  · rfl
  · exact h.elim
theorem p_table (ds : List D) (s : Sto) (Q : C → Sto → Prop) (h : m_table ds s Q) : t_table noX { nx := fun e => Q (.d .non) e.st, rt := fun c e => Q c e.st } ⟨startC N_table ds, s⟩ := by
  unfold m_table at h
  split at h
  · rename_i y
    obtain ⟨hy, hl, q⟩ := h
    have bl := band_len y
    unfold t_table
    simpa?! only [e_bands]
    refine ⟨hl, by rw [signs_len]; omega, ?_⟩
    refine lcH_mm (l := bandW y) (g0 := fun c => .str [c]) (fun a => .tup ((bandW y).map fun b => .int (lac y a b))) (fun a ha K k => ?_) ?_
    · simpa?! only []
      refine ⟨by rw [signs_len]; omega, ?_⟩
      refine lcH_mm (l := bandW y) (g0 := fun c => .str [c]) (fun b => .int (lac y a b)) (fun b hb K2 k2 => ?_) ?_
      · simpa?! only [e_lies]
        exact ⟨hy, by omega, ha, hb, k2⟩
      · simpa?! only []
        exact k
    · simpa?! only []
      exact q
  · exact h.elim
def m_crossed : PM := fun ds st Q => match ds with
  | [.str y, .str v, .str w] => YardOk y ∧ y.length < 64 ∧ v.length ≤ 64 ∧ w.length ≤ 64 ∧ Q (.d (.int (crs y v w))) st
  | _ => False
theorem e_crossed {y v w s Q} : m_crossed [.str y, .str v, .str w] s Q = (YardOk y ∧ y.length < 64 ∧ v.length ≤ 64 ∧ w.length ≤ 64 ∧ Q (.d (.int (crs y v w))) s) := rfl
def t_crossed : PTS := sSeq (sAsg 3 (tD (.int 0))) (sSeq (sAsg 4 (tCall0 m_net (tCons (tName 0) (tCons (tName 2) (tNil))))) (sSeq (sFor (iZipP (rCons (tCall0 m_net (tCons (tName 0) (tCons (tName 1) (tNil)))) (rCons (tCall0 m_table (tCons (tName 0) (tNil))) (rNil)))) (gTup 2 (gCons (gName 5) (gCons (gName 6) (gNil)))) (sAug 3 (t2 (tName 5) (tCallP pSum (rCons (cLc (iZipP (rCons (tName 4) (rCons (tName 6) (rNil)))) (gTup 2 (gCons (gName 7) (gCons (gName 8) (gNil)))) (cYes) (t2 (tName 7) (tName 8) pMul) [7, 8]) (rNil))) pMul))) (sRet (tName 3))))
abbrev N_crossed : List Str := ["yard", "one", "other", "total", "second", "many", "row", "more", "sign"]
theorem len_crossed (ds : List D) (s : Sto) (Q : C → Sto → Prop) (h : m_crossed ds s Q) : ds.length = 3 := by
  unfold m_crossed at h
  split at h
  · rfl
  · exact h.elim
theorem p_crossed (ds : List D) (s : Sto) (Q : C → Sto → Prop) (h : m_crossed ds s Q) : t_crossed noX { nx := fun e => Q (.d .non) e.st, rt := fun c e => Q c e.st } ⟨startC N_crossed ds, s⟩ := by
  unfold m_crossed at h
  split at h
  · rename_i y v w
    obtain ⟨hy, hl, hv, hw, q⟩ := h
    have bl := band_len y
    unfold t_crossed
    simpa?! only [e_net, e_table, tabD]
    refine ⟨hy.let_, hl, hy.let_, hl, hy, hl, ?_⟩
    have ez : zipF ((netL y v).map D.int) ((bandW y).map fun a => .tup ((bandW y).map fun b => .int (lac y a b))) = (bandW y).map fun a => .tup [.int (nt v a), .tup ((bandW y).map fun b => .int (lac y a b))] := by
      unfold netL
      rw [map_ints, zip_maps]
    rw [ez]
    unfold crs at q
    refine ⟨fun d hd => by obtain ⟨_, _, rfl⟩ := List.mem_map.mp hd; rfl, ?_⟩
    refine forH_map (fun a => .tup [.int (nt v a), .tup ((bandW y).map fun b => .int (lac y a b))]) (bandW y) (fun pre suf e => ∃ c5 c6 : C, e = ⟨[.d (.str y), .d (.str v), .d (.str w), .d (.int ((pre.map fun a => nt v a * ((bandW y).map fun b => nt w b * lac y a b).sum).sum)), .d (.tup ((netL y w).map D.int)), c5, c6, .un, .un], s⟩) ⟨_, _, rfl⟩ ?_ ?_
    · rintro e ⟨c5, c6, rfl⟩
      simpa?! only []
      exact q
    · rintro pre a suf e hp ⟨c5, c6, rfl⟩ N hN
      have ez2 : zipF ((netL y w).map D.int) ((bandW y).map fun b => .int (lac y a b)) = (bandW y).map fun b => .tup [.int (nt w b), .int (lac y a b)] := by
        unfold netL
        rw [map_ints, zip_maps]
      simpa?! only [ez2]
      refine ⟨fun d hd => by obtain ⟨_, _, rfl⟩ := List.mem_map.mp hd; rfl, ?_⟩
      refine ⟨by rw [List.length_map]; omega, ?_⟩
      refine lcH_mm (l := bandW y) (g0 := fun b => .tup [.int (nt w b), .int (lac y a b)]) (fun b => .int (nt w b * lac y a b)) (fun b hb K k => ?_) ?_
      · simpa?! only []
        have h := nt_small (w := w) b hw
        exact ⟨cmul_l _ _ h.1 h.2, k⟩
      · simpa?! only []
        refine sum_ok (ns := (bandW y).map fun b => nt w b * lac y a b) (by rw [List.map_map]; rfl) ?_
        simpa?! only []
        have h := nt_small (w := v) a hv
        refine ⟨cmul_l _ _ h.1 h.2, ?_⟩
        have := hN _ ⟨.d (.int (nt v a)), .d (.tup ((bandW y).map fun b => .int (lac y a b))), rfl⟩
        rw [List.map_append, List.sum_append] at this
        simp only [List.map_cons, List.map_nil, List.sum_cons, List.sum_nil, Int.add_zero] at this
        exact this
  · exact h.elim
set_option maxRecDepth 100000
set_option maxHeartbeats 4000000
def RedS : List Nat → Prop
  | [] => True
  | [_] => True
  | a :: b :: l => b ≠ con a ∧ RedS (b :: l)
theorem RedS.tail {a : Nat} {l : List Nat} (h : RedS (a :: l)) : RedS l := by
  cases l with
  | nil => trivial
  | cons b l => exact h.2
/-- no two that cancel stand together -/
def NoAdj : List Nat → Prop
  | [] => True
  | [_] => True
  | a :: b :: l => a ≠ con b ∧ NoAdj (b :: l)
theorem redR_noadj {r w : List Nat} (h : NoAdj w) (hh : ∀ x c, r.head? = some x → w.head? = some c → x ≠ con c) : redR r w = w.reverse ++ r := by
  induction w generalizing r with
  | nil => rfl
  | cons c w ih =>
    have e : rpush r c = c :: r := by
      unfold rpush
      cases r with
      | nil => rfl
      | cons x r => simp only; rw [if_neg (hh x c rfl rfl)]
    show redR (rpush r c) w = _
    rw [e]
    cases w with
    | nil => rfl
    | cons d w =>
      rw [ih h.2 fun x y hx hy => by cases hx; cases hy; exact h.1]
      simp
theorem red_noadj {w : List Nat} (h : NoAdj w) : red w = w := by
  unfold red
  rw [redR_noadj h fun x c hx => by cases hx]
  simp
theorem noadj_of {w : List Nat} (h : ∀ k a b, w[k]? = some a → w[k + 1]? = some b → a ≠ con b) : NoAdj w := by
  induction w with
  | nil => trivial
  | cons a w ih =>
    cases w with
    | nil => trivial
    | cons b w => exact ⟨h 0 a b rfl rfl, ih fun k x y hx hy => h (k + 1) x y hx hy⟩
set_option maxRecDepth 100000
set_option maxHeartbeats 1000000
def rot (l : List Nat) (k : Nat) : List Nat := l.drop k ++ l.take k
def rotL (l : List Nat) : List (List Nat) := (List.range l.length).map (rot l)
def ringL (l : List Nat) : List Nat := match rotL l with
  | [] => []
  | x :: r => minS x r
def ring (w : List Nat) : List Nat := ringL (cyc (red w))
theorem rot_W {l : List Nat} (h : IsW l) (k : Nat) : IsW (rot l k) := fun c hc => (List.mem_append.mp hc).elim (fun z => h c (List.mem_of_mem_drop z)) fun z => h c (List.mem_of_mem_take z)
theorem rot_len (l : List Nat) (k : Nat) : (rot l k).length = l.length := by
  unfold rot
  rw [List.length_append, Nat.add_comm, ← List.length_append, List.take_append_drop]
theorem ringL_rot {l : List Nat} (h : l ≠ []) : ∃ k, k < l.length ∧ ringL l = rot l k := by
  unfold ringL
  cases e : rotL l with
  | nil =>
    unfold rotL at e
    rw [List.map_eq_nil_iff, List.range_eq_nil] at e
    exact absurd (List.eq_nil_of_length_eq_zero e) h
  | cons x r =>
    have hm := minS_mem x r
    rw [← e] at hm
    obtain ⟨k, hk, hr⟩ := List.mem_map.mp hm
    exact ⟨k, List.mem_range.mp hk, hr.symm⟩
theorem ringL_W {l : List Nat} (h : IsW l) : IsW (ringL l) := by
  by_cases e : l = []
  · subst e; intro c hc; cases hc
  · obtain ⟨k, _, hr⟩ := ringL_rot e
    rw [hr]
    exact rot_W h k
theorem ringL_len (l : List Nat) : (ringL l).length = l.length := by
  by_cases e : l = []
  · subst e; rfl
  · obtain ⟨k, _, hr⟩ := ringL_rot e
    rw [hr, rot_len]
theorem core_len (w : List Nat) : (cyc (red w)).length ≤ w.length := Nat.le_trans (cyc_len _) (red_len w)
def rotD (l : List Nat) (d : D) : D := match d with
  | .int i => .str (rot l i.toNat)
  | d => d
theorem rots_map (l : List Nat) : (rngI 0 l.length).map (rotD l) = (rotL l).map D.str := by
  unfold rngI rotL
  rw [List.map_map, List.map_map]
  apply List.map_congr_left
  intro i _
  show D.str (rot l ((0 : Int) + (i : Nat)).toNat) = D.str (rot l i)
  congr 2
  omega
theorem rotL_cons {l : List Nat} (h : l ≠ []) : ∃ x r, rotL l = x :: r ∧ ringL l = minS x r := by
  unfold ringL
  cases e : rotL l with
  | nil =>
    unfold rotL at e
    rw [List.map_eq_nil_iff, List.range_eq_nil] at e
    exact absurd (List.eq_nil_of_length_eq_zero e) h
  | cons x r => exact ⟨x, r, rfl, rfl⟩
def m_ring : PM := fun ds st Q => match ds with
  | [.str w] => IsW w ∧ w.length ≤ 65536 ∧ Q (.d (.str (ring w))) st
  | _ => False
theorem e_ring {w s Q} : m_ring [.str w] s Q = (IsW w ∧ w.length ≤ 65536 ∧ Q (.d (.str (ring w))) s) := rfl
def t_ring : PTS := sSeq (sAsg 1 (tCall0 m_shortest (tCons (tName 0) (tNil)))) (sSeq (sIf (tB (t2 (tName 1) (tD (.str [])) pEq)) (sRet (tD (.str []))) (sNext)) (sRet (tCallP pMin1 (rCons (cLc (iPure pRng1 (rCons (tCallP pLen (rCons (tName 1) (rNil))) (rNil))) (gName 2) (cYes) (t2 (tSl (tName 1) (oSome (tName 2)) (oNone)) (tSl (tName 1) (oNone) (oSome (tName 2))) pAdd) [2]) (rNil)))))
abbrev N_ring : List Str := ["word", "left", "k"]
theorem len_ring (ds : List D) (s : Sto) (Q : C → Sto → Prop) (h : m_ring ds s Q) : ds.length = 1 := by
  unfold m_ring at h
  split at h
  · rfl
  · exact h.elim
theorem p_ring (ds : List D) (s : Sto) (Q : C → Sto → Prop) (h : m_ring ds s Q) : t_ring noX { nx := fun e => Q (.d .non) e.st, rt := fun c e => Q c e.st } ⟨startC N_ring ds, s⟩ := by
  unfold m_ring at h
  split at h
  · rename_i w
    obtain ⟨hw, hl, q⟩ := h
    unfold t_ring
    simpa?! only [e_shortest]
    have hcl := core_len w
    refine ⟨hw, by omega, ?_⟩
    unfold ring at q
    generalize cyc (red w) = l at q hcl
    by_cases e : l = []
    · refine br_pos (decide_eq_true e) ?_
      simpa?! only []
      subst e
      exact q
    · refine br_neg (decide_eq_false e) ?_
      simpa?! only []
      refine ⟨⟨by omega, by omega⟩, by rw [rngI_length]; omega, ?_⟩
      rw [Int.toNat_natCast]
      refine lcH_map (rotD l) (fun d hd K k => ?_) ?_
      · obtain ⟨i, hi, rfl⟩ := rngI_mem hd
        rw [Int.zero_add] at k ⊢
        simpa?! only [cut_take, cut_drop]
        have := rot_len l i
        unfold rot at this
        rw [List.length_append] at this
        refine ⟨by omega, ?_⟩
        have k : K (.str (rot l (i : Int).toNat)) ⟨[.d (.str w), .d (.str l), .un], s⟩ := k
        rw [Int.toNat_natCast] at k
        exact k
      · rw [rots_map]
        obtain ⟨x, r, h1, h2⟩ := rotL_cons e
        rw [h2] at q
        simpa?! only []
        exact minH_ok (by rw [h1]) q
  · exact h.elim
set_option maxRecDepth 100000
set_option maxHeartbeats 1000000
def Per (l : List Nat) (k : Nat) : Prop := ∀ i, i < l.length → l[(i + k) % l.length]? = l[i]?
theorem Per.sub {l : List Nat} {a r : Nat} (h : Per l a) (e : (a + r) % l.length = 0) : Per l r := fun i hi => by
  have hm : (i + r) % l.length < l.length := Nat.mod_lt _ (by omega)
  have := h _ hm
  rw [Nat.mod_add_mod] at this
  have e2 : (i + r + a) % l.length = i := by
    have : i + r + a = i + (a + r) := by omega
    rw [this, Nat.add_mod, e, Nat.add_zero, Nat.mod_mod, Nat.mod_eq_of_lt hi]
  rw [e2] at this
  exact this.symm
theorem rot_full (l : List Nat) : rot l l.length = l := by unfold rot; simp
set_option maxRecDepth 100000
set_option maxHeartbeats 1000000
set_option maxRecDepth 100000
set_option maxHeartbeats 1000000
/-- one is a turn of the other -/
def Rt (a b : List Nat) : Prop := ∃ k, k ≤ a.length ∧ b = rot a k
theorem Rt.refl (a : List Nat) : Rt a a := ⟨0, by omega, by unfold rot; simp⟩
theorem Rt.of_eq {a b : List Nat} (h : a = b) : Rt a b := h ▸ Rt.refl a
theorem Rt.len {a b : List Nat} (h : Rt a b) : b.length = a.length := by obtain ⟨k, _, rfl⟩ := h; exact rot_len a k
theorem Rt.app (u v : List Nat) : Rt (u ++ v) (v ++ u) := ⟨u.length, by simp, by unfold rot; simp⟩
theorem Rt.split {a b : List Nat} (h : Rt a b) : ∃ u v, a = u ++ v ∧ b = v ++ u := by
  obtain ⟨k, _, rfl⟩ := h
  exact ⟨a.take k, a.drop k, (List.take_append_drop k a).symm, rfl⟩
theorem Rt.symm {a b : List Nat} (h : Rt a b) : Rt b a := by
  obtain ⟨u, v, rfl, rfl⟩ := h.split
  exact Rt.app v u
theorem Rt.trans {a b c : List Nat} (h : Rt a b) (g : Rt b c) : Rt a c := by
  obtain ⟨u, v, rfl, rfl⟩ := h.split
  obtain ⟨p, q, e, rfl⟩ := g.split
  rcases List.append_eq_append_iff.mp e with ⟨t, e1, e2⟩ | ⟨t, e1, e2⟩
  · subst e1
    subst e2
    have z := Rt.app t (q ++ v)
    simpa [List.append_assoc] using z
  · subst e1
    subst e2
    have z := Rt.app (u ++ p) t
    simpa [List.append_assoc] using z
theorem Rt.rot_ {a : List Nat} {k : Nat} (h : k ≤ a.length) : Rt a (rot a k) := ⟨k, h, rfl⟩
/-- the least turn hangs on the class alone -/
theorem minS_le (x : List Nat) (r : List (List Nat)) : ∀ z ∈ x :: r, ¬ z < minS x r := by
  unfold minS
  induction r generalizing x with
  | nil => intro z hz; rw [List.mem_singleton] at hz; subst hz; exact List.lt_irrefl z
  | cons y r ih =>
    intro z hz
    rw [List.foldl_cons]
    by_cases h : y < x
    · rw [if_pos h]
      rcases List.mem_cons.mp hz with rfl | hz
      · intro q
        exact ih y y (by simp) (List.lt_trans h q)
      · exact ih y z hz
    · rw [if_neg h]
      rcases List.mem_cons.mp hz with rfl | hz
      · exact ih z z (by simp)
      · rcases List.mem_cons.mp hz with rfl | hz
        · intro q
          have h2 := ih x x (by simp)
          exact h2 (List.lt_of_le_of_lt (List.not_lt.mp h) q)
        · exact ih x z (List.mem_cons_of_mem _ hz)
theorem minS_same {x y : List Nat} {r s : List (List Nat)} (h : ∀ z, z ∈ x :: r ↔ z ∈ y :: s) : minS x r = minS y s := by
  have h1 := minS_le x r (minS y s) ((h _).mpr (minS_mem y s))
  have h2 := minS_le y s (minS x r) ((h _).mp (minS_mem x r))
  exact List.le_antisymm (List.not_lt.mp h1) (List.not_lt.mp h2)
theorem mem_rotL {l z : List Nat} (h : l ≠ []) : z ∈ rotL l ↔ Rt l z := by
  unfold rotL
  have hp := List.length_pos_iff.mpr h
  constructor
  · intro hz
    obtain ⟨k, hk, rfl⟩ := List.mem_map.mp hz
    exact Rt.rot_ (by have := List.mem_range.mp hk; omega)
  · rintro ⟨k, hk, rfl⟩
    by_cases e : k = l.length
    · refine List.mem_map.mpr ⟨0, List.mem_range.mpr hp, ?_⟩
      rw [e, rot_full]
      unfold rot
      simp
    · exact List.mem_map.mpr ⟨k, List.mem_range.mpr (by omega), rfl⟩
theorem ringL_same {a b : List Nat} (h : Rt a b) : ringL a = ringL b := by
  by_cases ha : a = []
  · subst ha
    have := h.len
    rw [List.eq_nil_of_length_eq_zero this]
  · have hb : b ≠ [] := fun z => by
      have := h.len
      rw [z] at this
      exact ha (List.eq_nil_of_length_eq_zero this.symm)
    obtain ⟨x, r, e1, e2⟩ := rotL_cons ha
    obtain ⟨y, s, e3, e4⟩ := rotL_cons hb
    rw [e2, e4]
    refine minS_same fun z => ?_
    rw [← e1, ← e3, mem_rotL ha, mem_rotL hb]
    exact ⟨fun g => h.symm.trans g, fun g => h.trans g⟩
theorem cyc_stop {v : List Nat} (h : ∀ a b, v.head? = some a → v.getLast? = some b → 1 < v.length → a ≠ con b) : cyc v = v := by
  by_cases h1 : 1 < v.length
  · obtain ⟨a, b, ha, hb, _, _⟩ := ends_of (v := v) (by omega)
    exact cyc_out ha hb (h a b ha hb h1)
  · exact cyc_one h1
set_option maxRecDepth 100000
set_option maxHeartbeats 1000000
def itr (f : Nat → Nat) : Nat → Nat → Nat
  | 0, x => x
  | k + 1, x => f (itr f k x)
theorem itr_add (f : Nat → Nat) (j : Nat) : ∀ k x, itr f (k + j) x = itr f k (itr f j x)
  | 0, x => by rw [Nat.zero_add]; rfl
  | k + 1, x => by rw [Nat.succ_add]; show f _ = f _; rw [itr_add f j k x]
def fstK (p : Nat → Bool) : Nat → Nat → Nat
  | 0, k => k
  | m + 1, k => if p k = true then k else fstK p m (k + 1)
theorem fstK_spec (p : Nat → Bool) : ∀ (m k j : Nat), k ≤ j → j < k + m → p j = true → p (fstK p m k) = true ∧ k ≤ fstK p m k ∧ fstK p m k ≤ j ∧ ∀ i, k ≤ i → i < fstK p m k → p i = false
  | 0, k, j, h1, h2, _ => by omega
  | m + 1, k, j, h1, h2, h3 => by
    unfold fstK
    by_cases h : p k = true
    · rw [if_pos h]
      exact ⟨h, Nat.le_refl _, h1, fun i a b => by omega⟩
    · rw [if_neg h]
      have hj : k ≠ j := fun e => h (e ▸ h3)
      obtain ⟨a, b, c, d⟩ := fstK_spec p m (k + 1) j (by omega) (by omega) h3
      refine ⟨a, by omega, c, fun i i1 i2 => ?_⟩
      by_cases e : i = k
      · subst e; simpa using h
      · exact d i (by omega) i2
def per (f : Nat → Nat) (n x : Nat) : Nat := fstK (fun k => decide (itr f k x = x)) n 1
def cyw (f : Nat → Nat) (n x : Nat) : List Nat := (List.range (per f n x)).map fun k => itr f k x
/-- f goes about within l, one to one -/
structure About (f : Nat → Nat) (l : List Nat) : Prop where
  maps : ∀ x ∈ l, f x ∈ l
  inj : ∀ x ∈ l, ∀ z ∈ l, f x = f z → x = z
theorem nodup_le : ∀ {a b : List Nat}, a.Nodup → (∀ x ∈ a, x ∈ b) → a.length ≤ b.length
  | [], _, _, _ => Nat.zero_le _
  | x :: a, b, h, s => by
    rw [List.nodup_cons] at h
    have hx := s x (by simp)
    have := nodup_le (b := b.erase x) h.2 fun z hz => by
      have ne : z ≠ x := fun e => h.1 (by rw [← e]; exact hz)
      exact (List.mem_erase_of_ne ne).mpr (s z (List.mem_cons_of_mem _ hz))
    rw [List.length_erase_of_mem hx] at this
    have hp := List.length_pos_of_mem hx
    rw [List.length_cons]
    omega
section
variable {f : Nat → Nat} {l : List Nat} {x : Nat}
theorem About.it (A : About f l) (hx : x ∈ l) : ∀ k, itr f k x ∈ l
  | 0 => hx
  | k + 1 => A.maps _ (A.it hx k)
theorem About.itinj (A : About f l) {x z : Nat} (hx : x ∈ l) (hz : z ∈ l) : ∀ k, itr f k x = itr f k z → x = z
  | 0, h => h
  | k + 1, h => A.itinj hx hz k (A.inj _ (A.it hx k) _ (A.it hz k) h)
theorem About.back (A : About f l) (hx : x ∈ l) {i j : Nat} (hij : i < j) (h : itr f i x = itr f j x) : itr f (j - i) x = x := by
  have e : j = i + (j - i) := by omega
  rw [e, itr_add] at h
  exact (A.itinj hx (A.it hx _) i h).symm
theorem About.ret (A : About f l) (hx : x ∈ l) : ∃ k, 1 ≤ k ∧ k ≤ l.length ∧ itr f k x = x := by
  by_cases h : ((List.range (l.length + 1)).map fun k => itr f k x).Nodup
  · have := nodup_le h fun z hz => by
      obtain ⟨k, _, rfl⟩ := List.mem_map.mp hz
      exact A.it hx k
    simp at this
    omega
  · have : ∃ i j, i < j ∧ j ≤ l.length ∧ itr f i x = itr f j x := by
      refine Classical.byContradiction fun hn => h ?_
      rw [List.nodup_iff_pairwise_ne, List.pairwise_map]
      refine List.Pairwise.imp_of_mem ?_ List.pairwise_lt_range
      intro a b ha hb hab e
      have := List.mem_range.mp hb
      exact hn ⟨a, b, hab, by omega, e⟩
    obtain ⟨i, j, h1, h2, h3⟩ := this
    exact ⟨j - i, by omega, by omega, A.back hx h1 h3⟩
theorem About.pero (A : About f l) (hx : x ∈ l) : 1 ≤ per f l.length x ∧ per f l.length x ≤ l.length ∧ itr f (per f l.length x) x = x ∧ ∀ i, 1 ≤ i → i < per f l.length x → itr f i x ≠ x := by
  obtain ⟨k, k1, k2, k3⟩ := A.ret hx
  obtain ⟨a, b, c, d⟩ := fstK_spec (fun k => decide (itr f k x = x)) l.length 1 k k1 (by omega) (by simpa using k3)
  refine ⟨b, Nat.le_trans c k2, of_decide_eq_true a, fun i i1 i2 => ?_⟩
  have := d i i1 i2
  simpa using this
theorem About.mod (A : About f l) (hx : x ∈ l) (k : Nat) : itr f k x = itr f (k % per f l.length x) x := by
  obtain ⟨h1, _, h3, _⟩ := A.pero hx
  generalize per f l.length x = p at h1 h3
  have e : ∀ m, itr f (m * p) x = x := fun m => by
    induction m with
    | zero => rw [Nat.zero_mul]; rfl
    | succ m ih => rw [Nat.succ_mul, itr_add, h3, ih]
  conv => lhs; rw [← Nat.mod_add_div k p, Nat.mul_comm]
  rw [itr_add, e]
theorem About.mem (A : About f l) (hx : x ∈ l) {z : Nat} : z ∈ cyw f l.length x ↔ ∃ k, z = itr f k x := by
  unfold cyw
  rw [List.mem_map]
  constructor
  · rintro ⟨k, _, rfl⟩; exact ⟨k, rfl⟩
  · rintro ⟨k, rfl⟩
    obtain ⟨h1, _, _, _⟩ := A.pero hx
    exact ⟨k % per f l.length x, List.mem_range.mpr (Nat.mod_lt _ (by omega)), (A.mod hx k).symm⟩
theorem About.sub (A : About f l) (hx : x ∈ l) {z : Nat} (h : z ∈ cyw f l.length x) : z ∈ l := by
  obtain ⟨k, rfl⟩ := (A.mem hx).mp h
  exact A.it hx k
theorem About.self (A : About f l) (hx : x ∈ l) : x ∈ cyw f l.length x := (A.mem hx).mpr ⟨0, rfl⟩
theorem About.symm (A : About f l) (hx : x ∈ l) {z : Nat} (h : z ∈ cyw f l.length x) : x ∈ cyw f l.length z := by
  obtain ⟨k, rfl⟩ := (A.mem hx).mp h
  obtain ⟨h1, _, h3, _⟩ := A.pero hx
  refine (A.mem (A.it hx k)).mpr ⟨per f l.length x * k - k, ?_⟩
  rw [← itr_add]
  have e : per f l.length x * k - k + k = per f l.length x * k := by
    have : k ≤ per f l.length x * k := Nat.le_mul_of_pos_left k (by omega)
    omega
  rw [e, A.mod hx, Nat.mul_mod_right]
  rfl
theorem About.trans (A : About f l) (hx : x ∈ l) {z w : Nat} (h : z ∈ cyw f l.length x) (g : w ∈ cyw f l.length z) : w ∈ cyw f l.length x := by
  obtain ⟨k, rfl⟩ := (A.mem hx).mp h
  obtain ⟨j, rfl⟩ := (A.mem (A.it hx k)).mp g
  exact (A.mem hx).mpr ⟨j + k, (itr_add f k j x).symm⟩
theorem About.same (A : About f l) (hx : x ∈ l) {z : Nat} (h : z ∈ cyw f l.length x) (w : Nat) : w ∈ cyw f l.length z ↔ w ∈ cyw f l.length x :=
  ⟨fun g => A.trans hx h g, fun g => A.trans (A.sub hx h) (A.symm hx h) g⟩
theorem cyw_len (f : Nat → Nat) (n x : Nat) : (cyw f n x).length = per f n x := by unfold cyw; simp
/-- from another of its letters the cycle is it begun there -/
theorem About.rt (A : About f l) (hx : x ∈ l) {z : Nat} (h : z ∈ cyw f l.length x) : Rt (cyw f l.length x) (cyw f l.length z) := by
  unfold cyw at h
  obtain ⟨k, hk, rfl⟩ := List.mem_map.mp h
  have hk := List.mem_range.mp hk
  have hz := A.it hx k
  obtain ⟨p1, p2, p3, p4⟩ := A.pero hx
  obtain ⟨q1, q2, q3, q4⟩ := A.pero hz
  have e : per f l.length (itr f k x) = per f l.length x := by
    have h1 : itr f (per f l.length x) (itr f k x) = itr f k x := by
      rw [← itr_add, Nat.add_comm, itr_add, p3]
    have h2 : itr f (per f l.length (itr f k x)) x = x := by
      have h := q3
      rw [← itr_add, Nat.add_comm, itr_add] at h
      exact A.itinj (A.it hx _) hx k h
    have g1 : ¬ per f l.length x < per f l.length (itr f k x) := fun c => q4 _ p1 c h1
    have g2 : ¬ per f l.length (itr f k x) < per f l.length x := fun c => p4 _ q1 c h2
    omega
  refine ⟨k, by rw [cyw_len]; omega, ?_⟩
  unfold cyw
  rw [e]
  generalize per f l.length x = p at hk p3
  apply List.ext_getElem?
  intro i
  unfold rot
  by_cases hi : i < p - k
  · rw [List.getElem?_append_left (by simp; omega), List.getElem?_drop, List.getElem?_map, List.getElem?_map, List.getElem?_range (by omega), List.getElem?_range (by omega)]
    show some (itr f i (itr f k x)) = some (itr f (k + i) x)
    rw [← itr_add, Nat.add_comm]
  · rw [List.getElem?_append_right (by simp; omega), List.length_drop, List.length_map, List.length_range]
    by_cases hp : i < p
    · rw [List.getElem?_take_of_lt (by omega), List.getElem?_map, List.getElem?_map, List.getElem?_range (by omega), List.getElem?_range (by omega)]
      show some (itr f i (itr f k x)) = some (itr f (i - (p - k)) x)
      rw [← itr_add]
      have e2 : i + k = (i - (p - k)) + p := by omega
      rw [e2, itr_add, p3]
    · rw [List.getElem?_eq_none (by simp; omega), List.getElem?_eq_none (by simp; omega)]
end
/-- one of each cycle, by the order of a list -/
def reps (g : Nat → List Nat) : List Nat → List Nat
  | [] => []
  | x :: l => x :: reps g (l.filter fun z => !decide (z ∈ g x))
termination_by l => l.length
decreasing_by
  simp only [List.length_unattach, List.length_cons]
  exact Nat.lt_succ_of_le (Nat.le_trans (List.length_filter_le _ _) (by rw [List.length_attach]; exact Nat.le_refl _))
theorem mff {p : Nat → Bool} {l : List Nat} {z : Nat} (h : z ∈ l.filter p) : z ∈ l := (List.mem_filter.mp h).1
theorem reps_nil (g : Nat → List Nat) : reps g [] = [] := by rw [reps]
theorem reps_cons (g : Nat → List Nat) (x : Nat) (l : List Nat) : reps g (x :: l) = x :: reps g (l.filter fun z => !decide (z ∈ g x)) := by rw [reps]
theorem filt_comm (p q : Nat → Bool) (l : List Nat) : (l.filter p).filter q = (l.filter q).filter p := by
  rw [List.filter_filter, List.filter_filter]
  apply List.filter_congr
  intro x _
  exact Bool.and_comm _ _
theorem reps_mem (g : Nat → List Nat) {z : Nat} : ∀ {l : List Nat}, z ∈ reps g l → z ∈ l := by
  intro l
  generalize hn : l.length = n
  induction n using Nat.strongRecOn generalizing l with
  | _ n ih =>
    cases l with
    | nil => rw [reps_nil]; exact id
    | cons x l =>
      rw [reps_cons]
      intro h
      rcases List.mem_cons.mp h with e | h
      · simp [e]
      · exact List.mem_cons_of_mem _ (mff (ih _ (by simp at hn; have := List.length_filter_le (fun z => !decide (z ∈ g x)) l; omega) rfl h))
/-- g tells classes of what is in S -/
structure Cls (S : List Nat) (g : Nat → List Nat) : Prop where
  self : ∀ x ∈ S, x ∈ g x
  symm : ∀ x ∈ S, ∀ z ∈ g x, x ∈ g z
  sub : ∀ x ∈ S, ∀ z ∈ g x, z ∈ S
  same : ∀ x ∈ S, ∀ z ∈ g x, ∀ w, w ∈ g z ↔ w ∈ g x
theorem reps_take {β : Type} {S : List Nat} {g : Nat → List Nat} (G : Cls S g) {h : Nat → β} (hh : ∀ x ∈ S, ∀ z ∈ g x, h z = h x) : ∀ {l : List Nat} {x : Nat}, (∀ z ∈ l, z ∈ S) → x ∈ l →
    ((reps g l).map h).Perm (h x :: (reps g (l.filter fun z => !decide (z ∈ g x))).map h) := by
  intro l
  generalize hn : l.length = n
  induction n using Nat.strongRecOn generalizing l with
  | _ n ih =>
    intro x hl hx
    cases l with
    | nil => cases hx
    | cons y l =>
      have hy := hl y (by simp)
      have hxS := hl x hx
      rw [reps_cons, List.map_cons]
      by_cases c : y ∈ g x
      · rw [List.filter_cons_of_neg (by simp [c]), hh x hxS y c]
        have e : (l.filter fun z => !decide (z ∈ g y)) = l.filter fun z => !decide (z ∈ g x) := by
          apply List.filter_congr
          intro z _
          rw [Bool.eq_iff_iff]
          simp [G.same x hxS y c z]
        rw [e]
      · have hxl : x ∈ l := by
          rcases List.mem_cons.mp hx with e | e
          · subst e; exact absurd (G.self _ hy) c
          · exact e
        have cx : x ∉ g y := fun q => c (G.symm y hy x q)
        rw [List.filter_cons_of_pos (by simp [c]), reps_cons, List.map_cons, filt_comm]
        have hlen := List.length_filter_le (fun z => !decide (z ∈ g y)) l
        have := ih _ (by simp at hn; omega) (l := l.filter fun z => !decide (z ∈ g y)) rfl (x := x) (fun z hz => hl z (List.mem_cons_of_mem _ (mff hz))) (List.mem_filter.mpr ⟨hxl, by simp [cx]⟩)
        exact (this.cons (h y)).trans (.swap ..)
theorem reps_perm {β : Type} {S : List Nat} {g : Nat → List Nat} (G : Cls S g) {h : Nat → β} (hh : ∀ x ∈ S, ∀ z ∈ g x, h z = h x) : ∀ {l m : List Nat}, (∀ z ∈ l, z ∈ S) → l.Perm m → ((reps g l).map h).Perm ((reps g m).map h) := by
  intro l
  generalize hn : l.length = n
  induction n using Nat.strongRecOn generalizing l with
  | _ n ih =>
    intro m hl p
    cases l with
    | nil => rw [List.perm_nil.mp p.symm]
    | cons x l =>
      have hx : x ∈ m := p.mem_iff.mp (by simp)
      refine List.Perm.trans ?_ (reps_take G hh (fun z hz => hl z (p.mem_iff.mpr hz)) hx).symm
      rw [reps_cons, List.map_cons]
      refine List.Perm.cons _ (ih _ (by simp at hn; have := List.length_filter_le (fun z => !decide (z ∈ g x)) l; omega) rfl (fun z hz => hl z (List.mem_cons_of_mem _ (mff hz))) ?_)
      have := p.filter fun z => !decide (z ∈ g x)
      rw [List.filter_cons_of_neg (by simp [G.self x (hl x (by simp))])] at this
      exact this
/-- one by one, what is in a word told already left out -/
def told (g : Nat → List Nat) : List Nat → List Nat → List Nat
  | _, [] => []
  | W, x :: l => if x ∈ W then told g W l else x :: told g (W ++ g x) l
theorem told_reps (g : Nat → List Nat) : ∀ (l W : List Nat), told g W l = reps g (l.filter fun z => !decide (z ∈ W))
  | [], W => by rw [List.filter_nil, reps_nil]; rfl
  | x :: l, W => by
    unfold told
    by_cases h : x ∈ W
    · rw [if_pos h, List.filter_cons_of_neg (by simp [h]), told_reps g l W]
    · rw [if_neg h, List.filter_cons_of_pos (by simp [h]), reps_cons, told_reps g l (W ++ g x), List.filter_filter]
      congr 2
      apply List.filter_congr
      intro z _
      rw [Bool.eq_iff_iff]
      simp
      exact And.comm
set_option maxRecDepth 100000
set_option maxHeartbeats 1000000
def nxt (y : List Nat) (i : Nat) : Nat := y.getD ((i + 1) % y.length) 0
def gs (y : List Nat) (c : Nat) : Nat := nxt y (ixOf (con c) y)
def rimW (y : List Nat) (x : Nat) : List Nat := cyw (gs y) y.length x
def rimsL (y : List Nat) : List (List Nat) := srt ((reps (rimW y) y).map fun x => ringL (rimW y x))
section
variable {y : List Nat}
theorem nxt_get (h : 0 < y.length) (i : Nat) : y[(i + 1) % y.length]? = some (nxt y i) := by
  have hl : (i + 1) % y.length < y.length := Nat.mod_lt _ h
  unfold nxt
  rw [List.getElem?_eq_getElem hl, List.getD_eq_getElem?_getD, List.getElem?_eq_getElem hl]
  rfl
theorem nxt_mem (h : 0 < y.length) (i : Nat) : nxt y i ∈ y := List.mem_of_getElem? (nxt_get h i)
theorem succ_mod {n i : Nat} (h : i < n) : (i + 1) % n = if i + 1 = n then 0 else i + 1 := by
  split
  · rename_i e; rw [e, Nat.mod_self]
  · exact Nat.mod_eq_of_lt (by omega)
theorem nxt_inj (hn : y.Nodup) {i j : Nat} (hi : i < y.length) (hj : j < y.length) (h : nxt y i = nxt y j) : i = j := by
  have e1 := nxt_get (y := y) (by omega) i
  have e2 := nxt_get (y := y) (by omega) j
  rw [h, ← e2] at e1
  have := (List.getElem?_inj (Nat.mod_lt _ (by omega)) hn).mp e1
  rw [succ_mod hi, succ_mod hj] at this
  split at this <;> split at this <;> omega
theorem ix_get (hn : y.Nodup) {i c : Nat} (h : y[i]? = some c) : ixOf c y = i := by
  have hm := List.mem_of_getElem? h
  have h1 := (ixOf_spec hm).1
  rw [← h] at h1
  exact (List.getElem?_inj (ixOf_lt hm) hn).mp h1
variable (hy : YardOk y) (h2 : 2 ≤ y.length)
include hy h2
theorem gs_about : About (gs y) y := by
  refine ⟨fun x _ => nxt_mem (by omega) _, fun a ha b hb h => ?_⟩
  have ca := hy.con_ a ha
  have cb := hy.con_ b hb
  have := ixOf_inj ca cb (nxt_inj hy.nd (ixOf_lt ca) (ixOf_lt cb) h)
  exact con_inj (hy.let_ a ha) (hy.let_ b hb) this
theorem gs_ne {a : Nat} (ha : a ∈ y) : gs y a ≠ con a := by
  have ca := hy.con_ a ha
  intro e
  have h1 := nxt_get (y := y) (by omega) (ixOf (con a) y)
  have e : nxt y (ixOf (con a) y) = con a := e
  rw [e] at h1
  have := ix_get hy.nd h1
  rw [succ_mod (ixOf_lt ca)] at this
  have := ixOf_lt ca
  split at * <;> omega
theorem rim_cls : Cls y (rimW y) :=
  have A := gs_about hy h2
  ⟨fun x hx => A.self hx, fun x hx z hz => A.symm hx hz, fun x hx z hz => A.sub hx hz, fun x hx z hz w => A.same hx hz w⟩
theorem rim_sub {x : Nat} (hx : x ∈ y) : ∀ z ∈ rimW y x, z ∈ y := fun z hz => (gs_about hy h2).sub hx hz
theorem rim_W {x : Nat} (hx : x ∈ y) : IsW (rimW y x) := fun z hz => hy.let_ z (rim_sub hy h2 hx z hz)
theorem rim_len {x : Nat} (hx : x ∈ y) : 1 ≤ (rimW y x).length ∧ (rimW y x).length ≤ y.length := by
  unfold rimW
  rw [cyw_len]
  obtain ⟨a, b, _, _⟩ := (gs_about hy h2).pero hx
  exact ⟨a, b⟩
theorem rim_core {x : Nat} (hx : x ∈ y) : ring (rimW y x) = ringL (rimW y x) := by
  obtain ⟨p1, p2, p3, p4⟩ := (gs_about hy h2).pero hx
  have A := gs_about hy h2
  have hna : NoAdj (rimW y x) := noadj_of fun k a b ha hb e => by
    unfold rimW cyw at ha hb
    rw [List.getElem?_map] at ha hb
    have k1 : k + 1 < per (gs y) y.length x := by
      apply Classical.byContradiction
      intro z
      rw [List.getElem?_eq_none (by simp; omega)] at hb
      cases hb
    rw [List.getElem?_range (by omega)] at ha
    rw [List.getElem?_range k1] at hb
    cases ha
    cases hb
    have hm := A.it hx k
    have h := gs_ne hy h2 hm
    apply h
    show itr (gs y) (k + 1) x = con (itr (gs y) k x)
    have e : itr (gs y) k x = con (itr (gs y) (k + 1) x) := e
    rw [e, con_con (hy.let_ _ (A.it hx (k + 1)))]
  unfold ring
  rw [red_noadj hna, cyc_stop fun a b ha hb _ e => ?_]
  unfold rimW cyw at ha hb
  have ea : a = x := by
    cases hp : per (gs y) y.length x with
    | zero => omega
    | succ p =>
      rw [hp, List.range_succ_eq_map] at ha
      simp only [List.map_cons, List.head?_cons, Option.some.injEq] at ha
      exact ha.symm
  have eb : b = itr (gs y) (per (gs y) y.length x - 1) x := by
    rw [List.getLast?_eq_getElem?, List.getElem?_map, List.length_map, List.length_range, List.getElem?_range (by omega)] at hb
    cases hb
    rfl
  have hm := A.it hx (per (gs y) y.length x - 1)
  have h := gs_ne hy h2 hm
  rw [← eb] at h
  apply h
  rw [← e, ea]
  have : itr (gs y) (per (gs y) y.length x - 1 + 1) x = x := by
    rw [show per (gs y) y.length x - 1 + 1 = per (gs y) y.length x by omega]; exact p3
  rw [eb]
  exact this
theorem rim_same {x : Nat} (hx : x ∈ y) {z : Nat} (hz : z ∈ rimW y x) : ringL (rimW y z) = ringL (rimW y x) := (ringL_same ((gs_about hy h2).rt hx hz)).symm
theorem rims_of {l : List Nat} (p : l.Perm y) : srt ((reps (rimW y) l).map fun x => ringL (rimW y x)) = rimsL y :=
  srt_eq (reps_perm (rim_cls hy h2) (h := fun x => ringL (rimW y x)) (fun x hx z hz => rim_same hy h2 hx hz) (fun z hz => p.mem_iff.mp hz) p)
theorem rim_next {x z : Nat} (hx : x ∈ y) : (z ∈ rimW y x) ↔ ∃ e ∈ rimW y x, gs y e = z := by
  have A := gs_about hy h2
  obtain ⟨p1, p2, p3, p4⟩ := A.pero hx
  constructor
  · intro h
    obtain ⟨k, rfl⟩ := (A.mem hx).mp h
    refine ⟨itr (gs y) (k + per (gs y) y.length x - 1) x, (A.mem hx).mpr ⟨_, rfl⟩, ?_⟩
    show itr (gs y) (k + per (gs y) y.length x - 1 + 1) x = _
    rw [show k + per (gs y) y.length x - 1 + 1 = k + per (gs y) y.length x by omega, itr_add, p3]
  · rintro ⟨e, he, rfl⟩
    obtain ⟨k, rfl⟩ := (A.mem hx).mp he
    exact (A.mem hx).mpr ⟨k + 1, rfl⟩
end
theorem reps_len (g : Nat → List Nat) (l : List Nat) : (reps g l).length ≤ l.length := by
  generalize hn : l.length = n
  induction n using Nat.strongRecOn generalizing l with
  | _ n ih =>
    cases l with
    | nil => rw [reps_nil]; simp
    | cons x l =>
      rw [reps_cons]
      have h1 := List.length_filter_le (fun z => !decide (z ∈ g x)) l
      simp at hn
      have := ih _ (by omega) (l.filter fun z => !decide (z ∈ g x)) rfl
      simp
      omega
theorem rimsL_mem {y w : List Nat} (hy : YardOk y) (h2 : 2 ≤ y.length) (h : w ∈ rimsL y) : IsW w ∧ w.length ≤ y.length := by
  unfold rimsL at h
  obtain ⟨x, hx, rfl⟩ := List.mem_map.mp (srt_mem.mp h)
  have hx := reps_mem _ hx
  refine ⟨ringL_W (rim_W hy h2 hx), ?_⟩
  rw [ringL_len]
  exact (rim_len hy h2 hx).2
theorem emod_nat (a b : Nat) : ((a : Int) + 1) % (b : Int) = (((a + 1) % b : Nat) : Int) := by
  rw [Int.natCast_emod]; rfl
def m_rim_from : PM := fun ds st Q => match ds with
  | [.str y, .int at_] => YardOk y ∧ 2 ≤ y.length ∧ y.length ≤ 64 ∧ 0 ≤ at_ ∧ at_ < y.length ∧ Q (.d (.str (rimW y (nxt y at_.toNat)))) st
  | _ => False
theorem e_rimf {y : List Nat} {at_ : Int} {s Q} : m_rim_from [.str y, .int at_] s Q = (YardOk y ∧ 2 ≤ y.length ∧ y.length ≤ 64 ∧ 0 ≤ at_ ∧ at_ < y.length ∧ Q (.d (.str (rimW y (nxt y at_.toNat)))) s) := rfl
def t_rim_from : PTS := sSeq (sAsg 2 (tD (.str []))) (sSeq (sAsg 3 (tName 1)) (sSeq (sWhile (tOr (tB (t2 (tName 2) (tD (.str [])) pEq)) (tB (t2 (tName 3) (tName 1) pNe))) (sSeq (sAsg 4 (t2 (tName 0) (t2 (t2 (tName 3) (tD (.int 1)) pAdd) (tCallP pLen (rCons (tName 0) (rNil))) pMod) pIx)) (sSeq (sAsg 2 (t2 (tName 2) (tName 4) pAdd)) (sAsg 3 (tMeth "str" pIndexS (tName 0) (rCons (tCall0 m_contrary (tCons (tName 4) (tNil))) (rNil))))))) (sRet (tName 2))))
abbrev N_rim_from : List Str := ["yard", "at", "found", "here", "end"]
theorem len_rim_from (ds : List D) (s : Sto) (Q : C → Sto → Prop) (h : m_rim_from ds s Q) : ds.length = 2 := by
  unfold m_rim_from at h
  split at h
  · rfl
  · exact h.elim
def hereN (y : List Nat) (i x : Nat) : Nat → Nat
  | 0 => i
  | j + 1 => ixOf (con (itr (gs y) j x)) y
def endC (y : List Nat) (x : Nat) : Nat → C
  | 0 => .un
  | j + 1 => .d (.str [itr (gs y) j x])
theorem p_rim_from (ds : List D) (s : Sto) (Q : C → Sto → Prop) (h : m_rim_from ds s Q) : t_rim_from noX { nx := fun e => Q (.d .non) e.st, rt := fun c e => Q c e.st } ⟨startC N_rim_from ds, s⟩ := by
  unfold m_rim_from at h
  split at h
  · rename_i y at_
    obtain ⟨hy, h2, hl, a0, a1, q⟩ := h
    obtain ⟨i, rfl⟩ : ∃ i : Nat, at_ = (i : Int) := ⟨at_.toNat, by omega⟩
    rw [Int.toNat_natCast] at q
    have hi : i < y.length := by omega
    have A := gs_about hy h2
    have hx := nxt_mem (y := y) (by omega) i
    obtain ⟨p1, p2, p3, p4⟩ := A.pero hx
    unfold t_rim_from
    simpa?! only []
    have hr : ∀ j, nxt y (hereN y i (nxt y i) j) = itr (gs y) j (nxt y i) := fun j => by cases j <;> rfl
    have hrl : ∀ j, hereN y i (nxt y i) j < y.length := fun j => by
      cases j with
      | zero => exact hi
      | succ j => exact ixOf_lt (hy.con_ _ (A.it hx j))
    refine wh_on (fun j : Nat => ⟨[.d (.str y), .d (.int (i : Nat)), .d (.str ((List.range j).map fun k => itr (gs y) k (nxt y i))), .d (.int (hereN y i (nxt y i) j : Nat)), endC y (nxt y i) j], s⟩) (fun j => j ≤ per (gs y) y.length (nxt y i)) (fun j => per (gs y) y.length (nxt y i) - j) 0 rfl (Nat.zero_le _) ?_
    intro j hj N hN
    have body : j < per (gs y) y.length (nxt y i) → (sSeq (sAsg 4 (t2 (tName 0) (t2 (t2 (tName 3) (tD (.int 1)) pAdd) (tCallP pLen (rCons (tName 0) (rNil))) pMod) pIx)) (sSeq (sAsg 2 (t2 (tName 2) (tName 4) pAdd)) (sAsg 3 (tMeth "str" pIndexS (tName 0) (rCons (tCall0 m_contrary (tCons (tName 4) (tNil))) (rNil)))))) noX { nx := N, rt := fun c e => Q c e.st, ct := N, bk := (sRet (tName 2)) noX { nx := fun e => Q (.d .non) e.st, rt := fun c e => Q c e.st } } ⟨[.d (.str y), .d (.int (i : Nat)), .d (.str ((List.range j).map fun k => itr (gs y) k (nxt y i))), .d (.int (hereN y i (nxt y i) j : Nat)), endC y (nxt y i) j], s⟩ := by
      intro hlt
      simpa?! only []
      refine ⟨by omega, ?_⟩
      rw [emod_nat]
      refine opt_of (atI_nat (nxt_get (by omega) _)) ?_
      rw [hr]
      simpa?! only [e_contrary]
      have hm := A.it hx j
      refine ⟨by rw [List.length_map, List.length_range]; omega, hy.let_ _ hm, hy.con_ _ hm, ?_⟩
      have := hN (j + 1) (by omega) (by omega)
      have e : (List.range (j + 1)).map (fun k => itr (gs y) k (nxt y i)) = (List.range j).map (fun k => itr (gs y) k (nxt y i)) ++ [itr (gs y) j (nxt y i)] := by
        rw [List.range_succ, List.map_append]; rfl
      rw [e] at this
      exact this
    simpa?! only []
    by_cases j0 : j = 0
    · subst j0
      refine br_pos (by simp) ?_
      exact body (by omega)
    · refine br_neg (by simp; omega) ?_
      simpa?! only []
      by_cases je : j = per (gs y) y.length (nxt y i)
      · have e : hereN y i (nxt y i) j = i := nxt_inj hy.nd (hrl j) hi (by rw [hr, je, p3])
        refine br_neg (by rw [e]; simp) ?_
        simpa?! only []
        subst je
        exact q
      · have e : hereN y i (nxt y i) j ≠ i := fun z => p4 j (by omega) (by omega) (by rw [← hr, z])
        refine br_pos (by simp; omega) ?_
        exact body (by omega)
  · exact h.elim
set_option maxRecDepth 100000
set_option maxHeartbeats 1000000
theorem getK_map (k j : Key) (d : D) : ∀ kvs : List (Key × D), getK (kvs.map fun kv => if kv.1 = k then (kv.1, d) else kv) j = (getK kvs j).map fun x => if j = k then d else x
  | [] => rfl
  | (a, x) :: r => by
    have ih := getK_map k j d r
    unfold getK at ih ⊢
    rw [List.map_cons, List.find?_cons, List.find?_cons]
    by_cases h1 : a = k
    · rw [if_pos h1]
      by_cases h2 : a = j
      · simp [h2.symm.trans h1, h2]
      · simp only [h2, decide_false]; exact ih
    · rw [if_neg h1]
      by_cases h2 : a = j
      · have : ¬ j = k := fun z => h1 (h2.trans z)
        simp [h2, this]
      · simp only [h2, decide_false]; exact ih
theorem getK_snoc (k j : Key) (d : D) : ∀ kvs : List (Key × D), getK (kvs ++ [(k, d)]) j = match getK kvs j with | some x => some x | none => if j = k then some d else none
  | [] => by
    unfold getK
    rw [List.nil_append, List.find?_cons]
    by_cases h : k = j
    · simp [h]
    · have : ¬ j = k := fun z => h z.symm
      simp [h, this]
  | (a, x) :: r => by
    have ih := getK_snoc k j d r
    unfold getK at ih ⊢
    rw [List.cons_append, List.find?_cons, List.find?_cons]
    by_cases h2 : a = j
    · simp [h2]
    · simp only [h2, decide_false]; exact ih
theorem anyK (k : Key) : ∀ kvs : List (Key × D), (kvs.any fun kv => decide (kv.1 = k)) = (getK kvs k).isSome
  | [] => rfl
  | (a, x) :: r => by
    have ih := anyK k r
    unfold getK at ih ⊢
    rw [List.any_cons, List.find?_cons]
    by_cases h : a = k
    · simp [h]
    · simp only [h, decide_false, Bool.false_or]; exact ih
theorem getK_set (kvs : List (Key × D)) (k j : Key) (d : D) : getK (setK kvs k d) j = if j = k then some d else getK kvs j := by
  unfold setK
  rw [anyK]
  cases h : getK kvs k with
  | some x =>
    rw [if_pos (by rfl), getK_map]
    by_cases e : j = k
    · rw [e, h]; simp
    · rw [if_neg e]
      cases getK kvs j with
      | none => rfl
      | some y => simp [e]
  | none =>
    rw [if_neg (by simp), getK_snoc]
    by_cases e : j = k
    · subst e; rw [h]
    · rw [if_neg e, if_neg e]
      cases getK kvs j <;> rfl
theorem setK_len (kvs : List (Key × D)) (k : Key) (d : D) : (setK kvs k d).length ≤ kvs.length + 1 := by
  unfold setK
  split
  · simp
  · simp
theorem told_snoc (g : Nat → List Nat) (x : Nat) : ∀ (l W : List Nat), told g W (l ++ [x]) = told g W l ++ if x ∈ W ++ (told g W l).flatMap g then [] else [x]
  | [], W => by
    show (if x ∈ W then told g W [] else x :: told g (W ++ g x) []) = _
    by_cases h : x ∈ W
    · simp [told, h]
    · simp [told, h]
  | a :: l, W => by
    show (if a ∈ W then told g W (l ++ [x]) else a :: told g (W ++ g a) (l ++ [x])) = (if a ∈ W then told g W l else a :: told g (W ++ g a) l) ++ _
    by_cases h : a ∈ W
    · have e : told g W (a :: l) = told g W l := by rw [told, if_pos h]
      rw [if_pos h, if_pos h, told_snoc g x l W, e]
    · rw [if_neg h, if_neg h, told_snoc g x l (W ++ g a)]
      have e : told g W (a :: l) = a :: told g (W ++ g a) l := by rw [told, if_neg h]
      rw [e, List.flatMap_cons, List.append_assoc, List.cons_append]
/-- the letters behind the places, place by place -/
def nxts (y : List Nat) : List Nat := (List.range y.length).map (nxt y)
theorem nxts_perm {y : List Nat} (hy : YardOk y) (h2 : 2 ≤ y.length) : (nxts y).Perm y := by
  refine perm_nd ?_ hy.nd fun c => ?_
  · unfold nxts
    rw [List.nodup_iff_pairwise_ne, List.pairwise_map]
    refine List.Pairwise.imp_of_mem ?_ List.pairwise_lt_range
    intro a b ha hb hab e
    have := nxt_inj hy.nd (List.mem_range.mp ha) (List.mem_range.mp hb) e
    omega
  · unfold nxts
    constructor
    · intro h
      obtain ⟨i, _, rfl⟩ := List.mem_map.mp h
      exact nxt_mem (by omega) i
    · intro h
      have hi := ixOf_lt h
      have hg := (ixOf_spec h).1
      by_cases z : ixOf c y = 0
      · refine List.mem_map.mpr ⟨y.length - 1, List.mem_range.mpr (by omega), ?_⟩
        have := nxt_get (y := y) (by omega) (y.length - 1)
        rw [show y.length - 1 + 1 = y.length by omega, Nat.mod_self, ← z, hg] at this
        exact (Option.some.inj this).symm
      · refine List.mem_map.mpr ⟨ixOf c y - 1, List.mem_range.mpr (by omega), ?_⟩
        have := nxt_get (y := y) (by omega) (ixOf c y - 1)
        rw [show ixOf c y - 1 + 1 = ixOf c y by omega, Nat.mod_eq_of_lt hi, hg] at this
        exact (Option.some.inj this).symm
def m_rims : PM := fun ds st Q => match ds with
  | [.str y] => YardOk y ∧ 2 ≤ y.length ∧ y.length ≤ 16 ∧ Q (.own ((rimsL y).map D.str)) st
  | _ => False
theorem e_rims {y s Q} : m_rims [.str y] s Q = (YardOk y ∧ 2 ≤ y.length ∧ y.length ≤ 16 ∧ Q (.own ((rimsL y).map D.str)) s) := rfl
def t_rims : PTS := sSeq (sAsg 1 (tLst (tNil))) (sSeq (sAsg 2 (tDict0)) (sSeq (sFor (iPure pRng1 (rCons (tCallP pLen (rCons (tName 0) (rNil))) (rNil))) (gName 3) (sIf (tB (tDI true (tName 3) (tName 2))) (sSeq (sAsg 4 (tCall0 m_rim_from (tCons (tName 0) (tCons (tName 3) (tNil))))) (sSeq (sFor (iAny (tName 4)) (gName 5) (sDPt (tD (.bl true)) (tName 2) (tMeth "str" pIndexS (tName 0) (rCons (tCall0 m_contrary (tCons (tName 5) (tNil))) (rNil))))) (sDrop (tMut mAppend (tName 1) (tCons (tCall0 m_ring (tCons (tName 4) (tNil))) (tNil)))))) (sNext))) (sRet (tCallP pSortT (rCons (tName 1) (rNil))))))
abbrev N_rims : List Str := ["yard", "found", "met", "at", "word", "end"]
theorem len_rims (ds : List D) (s : Sto) (Q : C → Sto → Prop) (h : m_rims ds s Q) : ds.length = 1 := by
  unfold m_rims at h
  split at h
  · rfl
  · exact h.elim
theorem told_len (g : Nat → List Nat) : ∀ (l W : List Nat), (told g W l).length ≤ l.length
  | [], _ => Nat.le_refl _
  | x :: l, W => by
    unfold told
    split
    · have := told_len g l W; simp; omega
    · have := told_len g l (W ++ g x); simp; omega
theorem p_rims (ds : List D) (s : Sto) (Q : C → Sto → Prop) (h : m_rims ds s Q) : t_rims noX { nx := fun e => Q (.d .non) e.st, rt := fun c e => Q c e.st } ⟨startC N_rims ds, s⟩ := by
  unfold m_rims at h
  split at h
  · rename_i y
    obtain ⟨hy, h2, hl, q⟩ := h
    have A := gs_about hy h2
    unfold t_rims
    simpa?! only []
    refine ⟨⟨by omega, by omega⟩, ?_⟩
    refine forH_rng 0 _ (fun j e => ∃ (kvs : List (Key × D)) (c3 c4 c5 : C), e = ⟨[.d (.str y), .own ((told (rimW y) [] ((nxts y).take j)).map fun x => .str (ringL (rimW y x))), .dK kvs, c3, c4, c5], s⟩ ∧
      kvs.length ≤ 16 * j ∧ ∀ p, p < y.length → ((getK kvs (kI (p : Nat))).isSome = true ↔ nxt y p ∈ (told (rimW y) [] ((nxts y).take j)).flatMap (rimW y))) ⟨[], .un, .un, .un, by simp [told], by simp, by simp [told, getK]⟩ ?_ ?_
    · rintro e ⟨kvs, c3, c4, c5, rfl, h3, h4⟩
      simpa?! only []
      have e1 : (nxts y).take (Int.toNat (y.length : Nat)) = nxts y := by
        rw [Int.toNat_natCast]
        exact List.take_of_length_le (by unfold nxts; simp)
      rw [e1, told_reps]
      have e2 : (nxts y).filter (fun z => !decide (z ∈ ([] : List Nat))) = nxts y := List.filter_eq_self.mpr fun z _ => by simp
      rw [e2]
      refine sort_ok (r := (reps (rimW y) (nxts y)).map fun x => ringL (rimW y x)) (by rw [List.map_map]; rfl) ?_ ?_
      · rw [List.length_map]
        have := reps_len (rimW y) (nxts y)
        have : (nxts y).length = y.length := by unfold nxts; simp
        omega
      · rw [rims_of hy h2 (nxts_perm hy h2)]
        simpa?! only []
        exact q
    · rintro j e hj ⟨kvs, c3, c4, c5, rfl, h3, h4⟩ N hN
      have hj : j < y.length := by omega
      have hx := nxt_mem (y := y) (by omega) j
      have et : (nxts y).take (j + 1) = (nxts y).take j ++ [nxt y j] := by
        rw [List.take_succ]
        unfold nxts
        rw [List.getElem?_map, List.getElem?_range hj]
        rfl
      have ts := told_snoc (rimW y) (nxt y j) ((nxts y).take j) []
      rw [← et, List.nil_append] at ts
      have tl := told_len (rimW y) ((nxts y).take j) []
      rw [List.length_take] at tl
      have hpj := h4 j hj
      generalize told (rimW y) [] ((nxts y).take j) = T at h4 ts tl hpj
      simpa?! only []
      have ej : (0 : Int) + (j : Nat) = (j : Nat) := by omega
      rw [ej]
      by_cases c : nxt y j ∈ T.flatMap (rimW y)
      · rw [if_pos c, List.append_nil] at ts
        refine br_neg (by simp [hpj.mpr c]) ?_
        simpa?! only []
        exact hN _ ⟨kvs, _, _, _, by rw [ts], by omega, by rw [ts]; exact h4⟩
      · rw [if_neg c] at ts
        have cn : (getK kvs (kI (j : Nat))).isSome = false := by
          cases z : (getK kvs (kI (j : Nat))).isSome with
          | false => rfl
          | true => exact absurd (hpj.mp z) c
        refine br_pos (by simp [cn]) ?_
        simpa?! only [e_rimf]
        refine ⟨hy, h2, by omega, by omega, by omega, ?_⟩
        rw [Int.toNat_natCast]
        have rl := rim_len hy h2 hx
        have rs := rim_sub hy h2 hx
        have rn := fun z => rim_next hy h2 (z := z) hx
        have rW := rim_W hy h2 hx
        have rc := rim_core hy h2 hx
        refine forH_signs (rimW y (nxt y j)) (fun pre suf e => ∃ (kvs : List (Key × D)) (c5 : C), e = ⟨[.d (.str y), .own (T.map fun x => .str (ringL (rimW y x))), .dK kvs, .d (.int (j : Nat)), .d (.str (rimW y (nxt y j))), c5], s⟩ ∧
          kvs.length ≤ 16 * j + pre.length ∧ ∀ p, p < y.length → ((getK kvs (kI (p : Nat))).isSome = true ↔ nxt y p ∈ T.flatMap (rimW y) ∨ ∃ e ∈ pre, gs y e = nxt y p)) ⟨kvs, _, rfl, by simpa using h3, fun p hp => by rw [h4 p hp]; simp⟩ ?_ ?_
        · rintro e ⟨kvs, c5, rfl, g3, g4⟩
          simpa?! only [e_ring]
          refine ⟨rW, by omega, by rw [List.length_map]; omega, ?_⟩
          rw [rc]
          refine hN _ ⟨kvs, .d (.int (j : Nat)), .d (.str (rimW y (nxt y j))), c5, ?_, by omega, fun p hp => ?_⟩
          · rw [ts, List.map_append]
            rfl
          · rw [g4 p hp, ts, List.flatMap_append, List.mem_append]
            simp only [List.flatMap_cons, List.flatMap_nil, List.append_nil]
            rw [rn]
        · rintro pre c suf e hp ⟨kvs, c5, rfl, g3, g4⟩ M hM
          have hc : c ∈ rimW y (nxt y j) := by rw [← hp]; simp
          have hcy := rs c hc
          have hcc := hy.con_ c hcy
          have pl : pre.length < (rimW y (nxt y j)).length := by rw [← hp]; simp
          simpa?! only [e_contrary]
          refine ⟨hy.let_ c hcy, hcc, by omega, ?_⟩
          refine hM _ ⟨_, _, rfl, ?_, fun p hpp => ?_⟩
          · have := setK_len kvs (kI (ixOf (con c) y : Nat)) (.bl true)
            simp
            omega
          · rw [getK_set]
            by_cases e : p = ixOf (con c) y
            · rw [if_pos (by rw [e])]
              simp only [Option.isSome_some, true_iff]
              exact .inr ⟨c, by simp, by rw [e]; rfl⟩
            · rw [if_neg (by rw [kI_eq]; omega), g4 p hpp]
              constructor
              · rintro (h | ⟨e', he, h⟩)
                · exact .inl h
                · exact .inr ⟨e', by simp [he], h⟩
              · rintro (h | ⟨e', he, h⟩)
                · exact .inl h
                · rcases List.mem_append.mp he with he | he
                  · exact .inr ⟨e', he, h⟩
                  · have he : e' = c := by simpa using he
                    subst he
                    exact absurd (nxt_inj hy.nd (ixOf_lt hcc) hpp (show nxt y (ixOf (con e') y) = _ from h)).symm e
  · exact h.elim
def hands (y : List Nat) : Int := ((y.length : Int) / 2 + 1 - (rimsL y).length) / 2
def m_handles : PM := fun ds st Q => match ds with
  | [.str y] => YardOk y ∧ 2 ≤ y.length ∧ y.length ≤ 16 ∧ Q (.d (.int (hands y))) st
  | _ => False
theorem e_handles {y s Q} : m_handles [.str y] s Q = (YardOk y ∧ 2 ≤ y.length ∧ y.length ≤ 16 ∧ Q (.d (.int (hands y))) s) := rfl
def t_handles : PTS := sRet (t2 (t2 (t2 (t2 (tCallP pLen (rCons (tName 0) (rNil))) (tD (.int 2)) pFdiv) (tD (.int 1)) pAdd) (tCallP pLen (rCons (tCall0 m_rims (tCons (tName 0) (tNil))) (rNil))) pSub) (tD (.int 2)) pFdiv)
abbrev N_handles : List Str := ["yard"]
theorem len_handles (ds : List D) (s : Sto) (Q : C → Sto → Prop) (h : m_handles ds s Q) : ds.length = 1 := by
  unfold m_handles at h
  split at h
  · rfl
  · exact h.elim
theorem p_handles (ds : List D) (s : Sto) (Q : C → Sto → Prop) (h : m_handles ds s Q) : t_handles noX { nx := fun e => Q (.d .non) e.st, rt := fun c e => Q c e.st } ⟨startC N_handles ds, s⟩ := by
  unfold m_handles at h
  split at h
  · rename_i y
    obtain ⟨hy, h2, hl, q⟩ := h
    unfold t_handles
    simpa?! only [e_rims]
    have cd : ∀ i : Int, CDivW i 2 := fun i => ⟨by omega, by decide⟩
    refine ⟨cd _, hy, h2, hl, cd _, ?_⟩
    rw [List.length_map]
    exact q
  · exact h.elim
set_option maxRecDepth 100000
set_option maxHeartbeats 1000000
/-- a place strictly between a band's ends, going round from the capital's -/
def btwn (p' p x : Nat) : Bool := if p' < p then decide (p' < x ∧ x < p) else decide (p' < x ∨ x < p)
def hB (y : List Nat) (b c : Nat) : Int := if btwn (ixOf (con b) y) (ixOf b y) (ixOf c y) = true then 1 else 0
def lac2 (y : List Nat) (b c : Nat) : Int := hB y b c - hB y b (con c)
theorem lac_hB {y : List Nat} (hy : YardOk y) {a b : Nat} (ha : a ∈ bandW y) (hb : b ∈ bandW y) : lac y a b = lac2 y b a := by
  obtain ⟨ay, as⟩ := band_mem.mp ha
  obtain ⟨b1, bs⟩ := band_mem.mp hb
  have ca := hy.con_ a ay
  have cb := hy.con_ b b1
  have small : ∀ {x z : Nat}, x ∈ y → sml x = true → sml z = true → con x ≠ z := fun hx h1 h2 q => by
    have := sml_con (hy.let_ _ hx)
    rw [q, h1, h2] at this
    cases this
  have d5 : ixOf (con b) y ≠ ixOf b y := fun z => small b1 bs bs (ixOf_inj cb b1 z)
  by_cases e : a = b
  · subst e
    unfold lac lac2 hB btwn
    rw [if_pos rfl]
    generalize ixOf a y = p at *
    generalize ixOf (con a) y = p' at *
    simp only [Nat.lt_irrefl, and_false, false_and, or_self]
    split <;> simp <;> split <;> split <;> omega
  have d1 : ixOf a y ≠ ixOf b y := fun z => e (ixOf_inj ay b1 z)
  have d2 : ixOf (con a) y ≠ ixOf b y := fun z => small ay as bs (ixOf_inj ca b1 z)
  have d3 : ixOf (con a) y ≠ ixOf a y := fun z => small ay as as (ixOf_inj ca ay z)
  have d4 : ixOf (con b) y ≠ ixOf a y := fun z => small b1 bs as (ixOf_inj cb ay z)
  have d6 : ixOf (con a) y ≠ ixOf (con b) y := fun z => e (by
    have := ixOf_inj ca cb z
    have h := congrArg con this
    rw [con_con (hy.let_ _ ay), con_con (hy.let_ _ b1)] at h
    exact h)
  unfold lac lac2 hB
  rw [if_neg e]
  generalize ixOf a y = p at *
  generalize ixOf (con a) y = p' at *
  generalize ixOf b y = q at *
  generalize ixOf (con b) y = q' at *
  cases hA : cyc3 p' q' p <;> cases hB : cyc3 p' q p <;> cases hC : btwn q' q p <;> cases hD : btwn q' q p' <;>
    first
    | rfl
    | (exfalso
       unfold cyc3 at hA hB
       unfold btwn at hC hD
       by_cases hq : q' < q
       · rw [if_pos hq] at hC hD
         simp only [decide_eq_true_eq, decide_eq_false_iff_not] at hA hB hC hD
         omega
       · rw [if_neg hq] at hC hD
         simp only [decide_eq_true_eq, decide_eq_false_iff_not] at hA hB hC hD
         omega)
theorem hB_next {y : List Nat} (hy : YardOk y) (h2 : 2 ≤ y.length) {b c : Nat} (hb : b ∈ y) (hc : c ∈ y) : hB y b (gs y c) - hB y b (con c) = (if c = b then 1 else 0) - (if gs y c = b then 1 else 0) := by
  have cb := hy.con_ b hb
  have cc := hy.con_ c hc
  have g1 := nxt_get (y := y) (by omega) (ixOf (con c) y)
  have g2 : ixOf (gs y c) y = (ixOf (con c) y + 1) % y.length := ix_get hy.nd g1
  have gm : gs y c ∈ y := nxt_mem (by omega) _
  have e1 : (c = b) ↔ ixOf (con c) y = ixOf (con b) y := ⟨fun z => by rw [z], fun z => con_inj (hy.let_ c hc) (hy.let_ b hb) (ixOf_inj cc cb z)⟩
  have e2 : (gs y c = b) ↔ ixOf (gs y c) y = ixOf b y := ⟨fun z => by rw [z], fun z => ixOf_inj gm hb z⟩
  have l1 := ixOf_lt cc
  have l2 := ixOf_lt cb
  have l3 := ixOf_lt hb
  have d5 : ixOf (con b) y ≠ ixOf b y := fun z => con_ne (hy.let_ b hb) (ixOf_inj cb hb z)
  rw [succ_mod l1] at g2
  unfold hB
  simp only [e1, e2, g2]
  generalize ixOf (con c) y = q at *
  generalize ixOf b y = p at *
  generalize ixOf (con b) y = p' at *
  generalize y.length = n at *
  clear g1 e1 e2 g2 gm cc cb
  unfold btwn
  by_cases hp : p' < p
  · simp only [if_pos hp, decide_eq_true_eq]
    by_cases hq : q + 1 = n
    · rw [if_pos hq]; split <;> split <;> split <;> split <;> omega
    · rw [if_neg hq]; split <;> split <;> split <;> split <;> omega
  · simp only [if_neg hp, decide_eq_true_eq]
    by_cases hq : q + 1 = n
    · rw [if_pos hq]; split <;> split <;> split <;> split <;> omega
    · rw [if_neg hq]; split <;> split <;> split <;> split <;> omega
theorem rim_part {y : List Nat} (hy : YardOk y) (h2 : 2 ≤ y.length) {b x : Nat} (hb : b ∈ y) (hx : x ∈ y) : ∀ m : Nat, itr (gs y) m x ∈ y ∧ ((List.range m).map fun k => lac2 y b (itr (gs y) k x)).sum = (hB y b x - hB y b (itr (gs y) m x)) + ((if x = b then 1 else 0) - (if itr (gs y) m x = b then 1 else 0))
  | 0 => ⟨hx, by simp only [itr, List.range_zero, List.map_nil, List.sum_nil]; omega⟩
  | m + 1 => by
    obtain ⟨i1, i2⟩ := rim_part hy h2 hb hx m
    have s := hB_next hy h2 hb i1
    have e : itr (gs y) (m + 1) x = gs y (itr (gs y) m x) := rfl
    rw [e]
    refine ⟨(gs_about hy h2).maps _ i1, ?_⟩
    rw [List.range_succ, List.map_append, List.sum_append, i2]
    simp only [List.map_cons, List.map_nil, List.sum_cons, List.sum_nil]
    unfold lac2
    omega
theorem rim_zero {y : List Nat} (hy : YardOk y) (h2 : 2 ≤ y.length) {b x : Nat} (hb : b ∈ y) (hx : x ∈ y) : ((rimW y x).map (lac2 y b)).sum = 0 := by
  obtain ⟨_, _, hp, _⟩ := (gs_about hy h2).pero hx
  obtain ⟨_, h⟩ := rim_part hy h2 hb hx (per (gs y) y.length x)
  rw [hp] at h
  unfold rimW cyw
  rw [List.map_map]
  refine Eq.trans ?_ (h.trans (by omega))
  rfl
theorem lac2_con {y : List Nat} (hy : YardOk y) {b c : Nat} (hc : c ∈ y) : lac2 y b (con c) = - lac2 y b c := by
  unfold lac2
  rw [con_con (hy.let_ c hc)]
  omega
theorem sum_one {f : Nat → Int} {c : Nat} : ∀ {l : List Nat}, l.Nodup → (l.map fun a => (if a = c then 1 else 0) * f a).sum = if c ∈ l then f c else 0
  | [], _ => by simp
  | a :: l, h => by
    obtain ⟨h1, h2⟩ := List.nodup_cons.mp h
    rw [List.map_cons, List.sum_cons, sum_one h2]
    by_cases e : a = c
    · subst e
      rw [if_pos rfl, if_neg h1, if_pos (by simp)]
      omega
    · rw [if_neg e]
      have : (c ∈ a :: l) ↔ c ∈ l := by rw [List.mem_cons]; exact ⟨fun z => z.elim (fun q => absurd q.symm e) id, .inr⟩
      simp only [this]
      omega
set_option maxRecDepth 100000
set_option maxHeartbeats 1000000
theorem net_sum {y : List Nat} (hy : YardOk y) {b : Nat} (hb : b ∈ bandW y) : ∀ {v : List Nat}, (∀ c ∈ v, c ∈ y) → ((bandW y).map fun a => nt v a * lac y a b).sum = (v.map (lac2 y b)).sum
  | [], _ => by
    rw [show (fun a => nt [] a * lac y a b) = fun _ => 0 from funext fun a => by unfold nt; simp, sum_zero]
    rfl
  | c :: v, h => by
    have hc := h c (by simp)
    have cc := hy.con_ c hc
    have ih := net_sum hy hb (v := v) fun d hd => h d (List.mem_cons_of_mem _ hd)
    rw [List.map_cons, List.sum_cons, ← ih]
    have nd := band_nodup hy.nd
    have key : ∀ a ∈ bandW y, nt (c :: v) a * lac y a b = ((if a = c then 1 else 0) * lac y a b + (if a = con c then 1 else 0) * (- lac y a b)) + nt v a * lac y a b := fun a ha => by
      have ay := (band_mem.mp ha).1
      have e1 : (con a = c) ↔ a = con c := ⟨fun z => by rw [← z, con_con (hy.let_ a ay)], fun z => by rw [z, con_con (hy.let_ c hc)]⟩
      have e2 : nt (c :: v) a = (if a = c then 1 else 0) - (if a = con c then 1 else 0) + nt v a := by
        unfold nt
        rw [List.count_cons, List.count_cons]
        have q1 : (c == a) = decide (a = c) := by rw [Bool.eq_iff_iff, beq_iff_eq, decide_eq_true_eq]; exact eq_comm
        have q2 : (c == con a) = decide (a = con c) := by rw [Bool.eq_iff_iff]; simp only [beq_iff_eq, decide_eq_true_eq]; rw [← e1]; exact eq_comm
        rw [q1, q2]
        simp only [decide_eq_true_eq]
        by_cases z1 : a = c
        · by_cases z2 : a = con c
          · rw [if_pos z1, if_pos z2, if_pos z1, if_pos z2]; omega
          · rw [if_pos z1, if_neg z2, if_pos z1, if_neg z2]; omega
        · by_cases z2 : a = con c
          · rw [if_neg z1, if_pos z2, if_neg z1, if_pos z2]; omega
          · rw [if_neg z1, if_neg z2, if_neg z1, if_neg z2]; omega
      rw [e2, Int.add_mul, Int.sub_mul]
      simp only [Int.mul_neg]
      omega
    rw [List.map_congr_left key, sum_add, sum_add, sum_one nd, sum_one nd]
    congr 1
    by_cases sc : sml c = true
    · have m1 : c ∈ bandW y := band_mem.mpr ⟨hc, sc⟩
      have m2 : con c ∉ bandW y := fun z => by
        have := (band_mem.mp z).2
        rw [sml_con (hy.let_ c hc), sc] at this
        cases this
      rw [if_pos m1, if_neg m2, lac_hB hy m1 hb]
      omega
    · have sc2 : sml (con c) = true := by rw [sml_con (hy.let_ c hc)]; simpa using sc
      have m1 : c ∉ bandW y := fun z => sc (band_mem.mp z).2
      have m2 : con c ∈ bandW y := band_mem.mpr ⟨cc, sc2⟩
      rw [if_neg m1, if_pos m2, lac_hB hy m2 hb, lac2_con hy hc]
      omega
theorem crs_rim {y : List Nat} (hy : YardOk y) (h2 : 2 ≤ y.length) {x : Nat} (hx : x ∈ y) {v : List Nat} (hv : ∀ a, nt v a = nt (rimW y x) a) (w : List Nat) : crs y v w = 0 := by
  unfold crs
  rw [show (fun a => nt v a * ((bandW y).map fun b => nt w b * lac y a b).sum) = fun a => ((bandW y).map fun b => nt v a * (nt w b * lac y a b)).sum from funext fun a => sum_mul_left _ _ _, sum_swap]
  rw [sum_congr (g := fun _ => 0) fun b hb => ?_, sum_zero]
  rw [sum_congr (g := fun a => nt w b * (nt (rimW y x) a * lac y a b)) fun a _ => by rw [hv, ← Int.mul_assoc, ← Int.mul_assoc, Int.mul_comm (nt (rimW y x) a)], ← sum_mul_left, net_sum hy hb (rim_sub hy h2 hx), rim_zero hy h2 (band_mem.mp hb).1 hx]
  simp
set_option maxRecDepth 100000
set_option maxHeartbeats 1000000
def clrStep (row o : List Int) (k : Nat) : List Int := if row.getD k 0 ≠ 0 then List.zipWith (fun a b => a * o.getD k 0 - b * row.getD k 0) row o else row
def clr : List Int → List (Nat × List Int) → List Int
  | row, [] => row
  | row, (k, o) :: ps => clr (clrStep row o k) ps
def smL (n : Nat) (l : List Int) : Bool := decide (l.length = n) && l.all fun x => decide (-(2 ^ 60) < x ∧ x < 2 ^ 60)
def clrOk (n : Nat) : List Int → List (Nat × List Int) → Bool
  | row, [] => smL n row
  | row, (k, o) :: ps => smL n row && smL n o && decide (k < n) && clrOk n (clrStep row o k) ps
def plc (l : List Int) : List Nat := ((enF 0 l).filter fun p => decide (p.2 ≠ 0)).map (·.1)
def rkNext (ps : List (Nat × List Int)) (l : List Int) : List (Nat × List Int) := match plc l with
  | [] => ps
  | k :: _ => ps ++ [(k, l)]
def rkGo : List (List Int) → List (Nat × List Int) → List (Nat × List Int)
  | [], ps => ps
  | r :: rs, ps => rkGo rs (rkNext ps (clr r ps))
def rkOk (n : Nat) : List (List Int) → List (Nat × List Int) → Bool
  | [], _ => true
  | r :: rs, ps => clrOk n r ps && rkOk n rs (rkNext ps (clr r ps))
def rk (T : List (List Int)) : Nat := (rkGo T []).length
def lfRow (f : List Int) (k : Nat) (row : List Int) : List Int := List.zipWith (fun a b => a * f.getD k 0 - b * row.getD k 0) row f
def lfStep (k : Nat) (s : List (List Int) × Nat) : List (List Int) × Nat := match s.1.filter fun row => decide (row.getD k 0 ≠ 0) with
  | [] => s
  | f :: _ => ((s.1.erase f).map (lfRow f k), s.2 + 1)
def lfGo : List Nat → List (List Int) × Nat → List (List Int) × Nat
  | [], s => s
  | k :: ks, s => lfGo ks (lfStep k s)
def lfOk (n : Nat) : List Nat → List (List Int) × Nat → Bool
  | [], _ => true
  | k :: ks, s => s.1.all (smL n) && lfOk n ks (lfStep k s)
def lf (T : List (List Int)) : Nat := (lfGo (List.range T.length) (T, 0)).2
/-- the rank of such a table by what it holds -/
def pfR (T : List (List Int)) : Nat := match T with
  | [[_, a], _] => if a = 0 then 0 else 2
  | [[_, a, b], [_, _, c], _] => if a = 0 ∧ b = 0 ∧ c = 0 then 0 else 2
  | [[_, a, b, c], [_, _, d, e], [_, _, _, f], _] => if a * f - b * e + c * d ≠ 0 then 4 else if a = 0 ∧ b = 0 ∧ c = 0 ∧ d = 0 ∧ e = 0 ∧ f = 0 then 0 else 2
  | _ => 0
def chkT (T : List (List Int)) : Bool := rkOk T.length T [] && lfOk T.length (List.range T.length) (T, 0) && decide (rk T = pfR T) && decide (lf T = pfR T)
def tri : List Int := [-1, 0, 1]
def two : List Int := [-1, 1]
def tab1 : List (List Int) := [[0]]
def tab2 (a : Int) : List (List Int) := [[0, a], [-a, 0]]
def tab3 (a b c : Int) : List (List Int) := [[0, a, b], [-a, 0, c], [-b, -c, 0]]
def tab4 (a b c d e f : Int) : List (List Int) := [[0, a, b, c], [-a, 0, d, e], [-b, -d, 0, f], [-c, -e, -f, 0]]
theorem all_mem {α : Type} {l : List α} {p : α → Bool} (h : l.all p = true) {x : α} (hx : x ∈ l) : p x = true := List.all_eq_true.mp h x hx
theorem chk1 : chkT tab1 = true := by decide +kernel
theorem chk2 : (tri.all fun a => chkT (tab2 a)) = true := by decide +kernel
theorem chk3 : (tri.all fun a => tri.all fun b => tri.all fun c => chkT (tab3 a b c)) = true := by decide +kernel
theorem chk4_000 : (tri.all fun d => tri.all fun e => tri.all fun f => chkT (tab4 (-1) (-1) (-1) d e f)) = true := by decide +kernel
theorem chk4_001 : (tri.all fun d => tri.all fun e => tri.all fun f => chkT (tab4 (-1) (-1) 0 d e f)) = true := by decide +kernel
theorem chk4_002 : (tri.all fun d => tri.all fun e => tri.all fun f => chkT (tab4 (-1) (-1) 1 d e f)) = true := by decide +kernel
theorem chk4_010 : (tri.all fun d => tri.all fun e => tri.all fun f => chkT (tab4 (-1) 0 (-1) d e f)) = true := by decide +kernel
theorem chk4_011 : (tri.all fun d => tri.all fun e => tri.all fun f => chkT (tab4 (-1) 0 0 d e f)) = true := by decide +kernel
theorem chk4_012 : (tri.all fun d => tri.all fun e => tri.all fun f => chkT (tab4 (-1) 0 1 d e f)) = true := by decide +kernel
theorem chk4_020 : (tri.all fun d => tri.all fun e => tri.all fun f => chkT (tab4 (-1) 1 (-1) d e f)) = true := by decide +kernel
theorem chk4_021 : (tri.all fun d => tri.all fun e => tri.all fun f => chkT (tab4 (-1) 1 0 d e f)) = true := by decide +kernel
theorem chk4_022 : (tri.all fun d => tri.all fun e => tri.all fun f => chkT (tab4 (-1) 1 1 d e f)) = true := by decide +kernel
theorem chk4_100 : (tri.all fun d => tri.all fun e => tri.all fun f => chkT (tab4 0 (-1) (-1) d e f)) = true := by decide +kernel
theorem chk4_101 : (tri.all fun d => tri.all fun e => tri.all fun f => chkT (tab4 0 (-1) 0 d e f)) = true := by decide +kernel
theorem chk4_102 : (tri.all fun d => tri.all fun e => tri.all fun f => chkT (tab4 0 (-1) 1 d e f)) = true := by decide +kernel
theorem chk4_110 : (tri.all fun d => tri.all fun e => tri.all fun f => chkT (tab4 0 0 (-1) d e f)) = true := by decide +kernel
theorem chk4_111 : (tri.all fun d => tri.all fun e => tri.all fun f => chkT (tab4 0 0 0 d e f)) = true := by decide +kernel
theorem chk4_112 : (tri.all fun d => tri.all fun e => tri.all fun f => chkT (tab4 0 0 1 d e f)) = true := by decide +kernel
theorem chk4_120 : (tri.all fun d => tri.all fun e => tri.all fun f => chkT (tab4 0 1 (-1) d e f)) = true := by decide +kernel
theorem chk4_121 : (tri.all fun d => tri.all fun e => tri.all fun f => chkT (tab4 0 1 0 d e f)) = true := by decide +kernel
theorem chk4_122 : (tri.all fun d => tri.all fun e => tri.all fun f => chkT (tab4 0 1 1 d e f)) = true := by decide +kernel
theorem chk4_200 : (tri.all fun d => tri.all fun e => tri.all fun f => chkT (tab4 1 (-1) (-1) d e f)) = true := by decide +kernel
theorem chk4_201 : (tri.all fun d => tri.all fun e => tri.all fun f => chkT (tab4 1 (-1) 0 d e f)) = true := by decide +kernel
theorem chk4_202 : (tri.all fun d => tri.all fun e => tri.all fun f => chkT (tab4 1 (-1) 1 d e f)) = true := by decide +kernel
theorem chk4_210 : (tri.all fun d => tri.all fun e => tri.all fun f => chkT (tab4 1 0 (-1) d e f)) = true := by decide +kernel
theorem chk4_211 : (tri.all fun d => tri.all fun e => tri.all fun f => chkT (tab4 1 0 0 d e f)) = true := by decide +kernel
theorem chk4_212 : (tri.all fun d => tri.all fun e => tri.all fun f => chkT (tab4 1 0 1 d e f)) = true := by decide +kernel
theorem chk4_220 : (tri.all fun d => tri.all fun e => tri.all fun f => chkT (tab4 1 1 (-1) d e f)) = true := by decide +kernel
theorem chk4_221 : (tri.all fun d => tri.all fun e => tri.all fun f => chkT (tab4 1 1 0 d e f)) = true := by decide +kernel
theorem chk4_222 : (tri.all fun d => tri.all fun e => tri.all fun f => chkT (tab4 1 1 1 d e f)) = true := by decide +kernel
theorem chk4 {a b c d e f : Int} (ha : a ∈ tri) (hb : b ∈ tri) (hc : c ∈ tri) (hd : d ∈ tri) (he : e ∈ tri) (hf : f ∈ tri) : chkT (tab4 a b c d e f) = true := by
  have three : ∀ {x : Int}, x ∈ tri → x = -1 ∨ x = 0 ∨ x = 1 := fun h => by simpa [tri] using h
  rcases three ha with rfl | rfl | rfl <;> rcases three hb with rfl | rfl | rfl <;> rcases three hc with rfl | rfl | rfl
  · exact all_mem (all_mem (all_mem chk4_000 hd) he) hf
  · exact all_mem (all_mem (all_mem chk4_001 hd) he) hf
  · exact all_mem (all_mem (all_mem chk4_002 hd) he) hf
  · exact all_mem (all_mem (all_mem chk4_010 hd) he) hf
  · exact all_mem (all_mem (all_mem chk4_011 hd) he) hf
  · exact all_mem (all_mem (all_mem chk4_012 hd) he) hf
  · exact all_mem (all_mem (all_mem chk4_020 hd) he) hf
  · exact all_mem (all_mem (all_mem chk4_021 hd) he) hf
  · exact all_mem (all_mem (all_mem chk4_022 hd) he) hf
  · exact all_mem (all_mem (all_mem chk4_100 hd) he) hf
  · exact all_mem (all_mem (all_mem chk4_101 hd) he) hf
  · exact all_mem (all_mem (all_mem chk4_102 hd) he) hf
  · exact all_mem (all_mem (all_mem chk4_110 hd) he) hf
  · exact all_mem (all_mem (all_mem chk4_111 hd) he) hf
  · exact all_mem (all_mem (all_mem chk4_112 hd) he) hf
  · exact all_mem (all_mem (all_mem chk4_120 hd) he) hf
  · exact all_mem (all_mem (all_mem chk4_121 hd) he) hf
  · exact all_mem (all_mem (all_mem chk4_122 hd) he) hf
  · exact all_mem (all_mem (all_mem chk4_200 hd) he) hf
  · exact all_mem (all_mem (all_mem chk4_201 hd) he) hf
  · exact all_mem (all_mem (all_mem chk4_202 hd) he) hf
  · exact all_mem (all_mem (all_mem chk4_210 hd) he) hf
  · exact all_mem (all_mem (all_mem chk4_211 hd) he) hf
  · exact all_mem (all_mem (all_mem chk4_212 hd) he) hf
  · exact all_mem (all_mem (all_mem chk4_220 hd) he) hf
  · exact all_mem (all_mem (all_mem chk4_221 hd) he) hf
  · exact all_mem (all_mem (all_mem chk4_222 hd) he) hf
theorem sgn2 {a s t : Int} (hs : s ∈ two) (ht : t ∈ two) : pfR (tab2 (s * t * a)) = pfR (tab2 a) := by
  have pm : ∀ {x : Int}, x ∈ two → x = -1 ∨ x = 1 := fun h => by simpa [two] using h
  unfold tab2 pfR
  rcases pm hs with rfl | rfl <;> rcases pm ht with rfl | rfl <;> simp
theorem sgn3 {a b c s t u : Int} (hs : s ∈ two) (ht : t ∈ two) (hu : u ∈ two) : pfR (tab3 (s * t * a) (s * u * b) (t * u * c)) = pfR (tab3 a b c) := by
  have pm : ∀ {x : Int}, x ∈ two → x = -1 ∨ x = 1 := fun h => by simpa [two] using h
  unfold tab3 pfR
  rcases pm hs with rfl | rfl <;> rcases pm ht with rfl | rfl <;> rcases pm hu with rfl | rfl <;> simp
theorem sgn4 {a b c d e f s t u v : Int} (hs : s ∈ two) (ht : t ∈ two) (hu : u ∈ two) (hv : v ∈ two) : pfR (tab4 (s * t * a) (s * u * b) (s * v * c) (t * u * d) (t * v * e) (u * v * f)) = pfR (tab4 a b c d e f) := by
  have pm : ∀ {x : Int}, x ∈ two → x = -1 ∨ x = 1 := fun h => by simpa [two] using h
  have key : ∀ p q : Int, (p = q ∨ p = -q) → ((p ≠ 0) ↔ (q ≠ 0)) := fun p q h => by omega
  unfold tab4 pfR
  have e1 : ((s * t * a) * (u * v * f) - (s * u * b) * (t * v * e) + (s * v * c) * (t * u * d) ≠ 0) ↔ (a * f - b * e + c * d ≠ 0) := key _ _ (by
    rcases pm hs with rfl | rfl <;> rcases pm ht with rfl | rfl <;> rcases pm hu with rfl | rfl <;> rcases pm hv with rfl | rfl <;> first
      | (refine .inl ?_; simp only [Int.neg_mul, Int.mul_neg, Int.one_mul, Int.mul_one, Int.neg_neg]; done)
      | (refine .inl ?_; simp only [Int.neg_mul, Int.mul_neg, Int.one_mul, Int.mul_one, Int.neg_neg]; omega)
      | (refine .inr ?_; simp only [Int.neg_mul, Int.mul_neg, Int.one_mul, Int.mul_one, Int.neg_neg]; omega))
  have e2 : (s * t * a = 0 ∧ s * u * b = 0 ∧ s * v * c = 0 ∧ t * u * d = 0 ∧ t * v * e = 0 ∧ u * v * f = 0) ↔ (a = 0 ∧ b = 0 ∧ c = 0 ∧ d = 0 ∧ e = 0 ∧ f = 0) := by
    rcases pm hs with rfl | rfl <;> rcases pm ht with rfl | rfl <;> rcases pm hu with rfl | rfl <;> rcases pm hv with rfl | rfl <;> simp
  simp only [e1, e2]
set_option maxRecDepth 100000
set_option maxHeartbeats 1000000
def lacP (p p' q q' : Nat) : Int := if cyc3 p' q' p = cyc3 p' q p then 0 else if cyc3 p' q' p = true then 1 else -1
def partner : List (Nat × Nat) → Nat → Nat
  | [], x => x
  | (p, q) :: r, x => if x = p then q else if x = q then p else partner r x
def stP (prs : List (Nat × Nat)) (N x : Nat) : Nat := (partner prs x + 1) % N
def cycN (prs : List (Nat × Nat)) (N : Nat) : Nat := (told (cyw (stP prs N) N) [] (List.range N)).length
def tabP (prs : List (Nat × Nat)) : List (List Int) := prs.map fun a => prs.map fun b => if a = b then 0 else lacP a.1 a.2 b.1 b.2
def leafP (prs : List (Nat × Nat)) : Bool := decide (((pfR (tabP prs) : Nat) : Int) = 2 * ((((2 * prs.length : Nat) : Int) / 2 + 1 - (cycN prs (2 * prs.length) : Nat)) / 2))
def usedP (prs : List (Nat × Nat)) (x : Nat) : Bool := prs.any fun a => decide (a.1 = x ∨ a.2 = x)
def walkP (N : Nat) : Nat → List (Nat × Nat) → Bool
  | 0, acc => leafP acc
  | k + 1, acc => (List.range N).all fun p => usedP acc p || (List.range N).all fun q => !decide (p < q) || usedP acc q || walkP N k (acc ++ [(p, q)])
theorem wP1 : walkP 2 1 [] = true := by decide +kernel
theorem wP2 : walkP 4 2 [] = true := by decide +kernel
theorem wP3 : walkP 6 3 [] = true := by decide +kernel
set_option maxRecDepth 100000
set_option maxHeartbeats 1000000
theorem map_ix {y : List Nat} (hn : y.Nodup) : y.map (fun c => ixOf c y) = List.range y.length := by
  refine List.ext_getElem (by simp) fun i h1 h2 => ?_
  rw [List.getElem_map, List.getElem_range]
  rw [List.length_map] at h1
  exact ix_get hn (List.getElem?_eq_getElem h1)
theorem told_ix {g g' : Nat → List Nat} {f : Nat → Nat} {S : List Nat} (hf : ∀ a ∈ S, ∀ b ∈ S, f a = f b → a = b) (hg : ∀ x ∈ S, g' (f x) = (g x).map f ∧ ∀ z ∈ g x, z ∈ S) :
    ∀ (l W : List Nat), (∀ x ∈ l, x ∈ S) → (∀ x ∈ W, x ∈ S) → told g' (W.map f) (l.map f) = (told g W l).map f
  | [], _, _, _ => rfl
  | x :: l, W, hl, hW => by
    have hx := hl x (by simp)
    have hl' : ∀ z ∈ l, z ∈ S := fun z hz => hl z (List.mem_cons_of_mem _ hz)
    have e : (f x ∈ W.map f) ↔ x ∈ W := by
      rw [List.mem_map]
      exact ⟨fun ⟨z, hz, q⟩ => hf z (hW z hz) x hx q ▸ hz, fun h => ⟨x, h, rfl⟩⟩
    show (if f x ∈ W.map f then told g' (W.map f) (l.map f) else f x :: told g' (W.map f ++ g' (f x)) (l.map f)) = (if x ∈ W then told g W l else x :: told g (W ++ g x) l).map f
    by_cases h : x ∈ W
    · rw [if_pos h, if_pos (e.mpr h), told_ix hf hg l W hl' hW]
    · rw [if_neg h, if_neg (fun z => h (e.mp z)), (hg x hx).1, ← List.map_append, told_ix hf hg l (W ++ g x) hl' (fun z hz => (List.mem_append.mp hz).elim (hW z) ((hg x hx).2 z)), List.map_cons]
theorem fstK_congr {p q : Nat → Bool} : ∀ (n i : Nat), (∀ k, p k = q k) → fstK p n i = fstK q n i := fun n i h => by rw [funext h]
theorem cyw_ix {g st f : Nat → Nat} {S : List Nat} (hS : ∀ x ∈ S, g x ∈ S) (hf : ∀ a ∈ S, ∀ b ∈ S, f a = f b → a = b) (hg : ∀ x ∈ S, f (g x) = st (f x)) (n : Nat) {x : Nat} (hx : x ∈ S) : cyw st n (f x) = (cyw g n x).map f := by
  have hit : ∀ k, itr g k x ∈ S ∧ f (itr g k x) = itr st k (f x) := fun k => by
    induction k with
    | zero => exact ⟨hx, rfl⟩
    | succ k ih => exact ⟨hS _ ih.1, by show f (g _) = st _; rw [hg _ ih.1, ih.2]⟩
  have hp : per st n (f x) = per g n x := by
    unfold per
    refine fstK_congr n 1 fun k => ?_
    rw [← (hit k).2]
    exact Bool.eq_iff_iff.mpr (by simp only [decide_eq_true_eq]; exact ⟨fun z => hf _ (hit k).1 _ hx z, fun z => by rw [z]⟩)
  unfold cyw
  rw [hp, List.map_map]
  exact List.map_congr_left fun k _ => ((hit k).2).symm
def prO (y : List Nat) (b : Nat) : Nat × Nat := if ixOf b y < ixOf (con b) y then (ixOf b y, ixOf (con b) y) else (ixOf (con b) y, ixOf b y)
theorem partner_of {y : List Nat} (hy : YardOk y) {c : Nat} (hc : c ∈ y) : ∀ {bs : List Nat}, (∀ b ∈ bs, b ∈ y) → (c ∈ bs ∨ con c ∈ bs) → partner (bs.map (prO y)) (ixOf c y) = ixOf (con c) y
  | [], _, h => by rcases h with h | h <;> cases h
  | b :: bs, hb, h => by
    have b1 := hb b (by simp)
    have cb := hy.con_ b b1
    have cc := hy.con_ c hc
    rw [List.map_cons]
    have e1 : (ixOf c y = ixOf b y) ↔ c = b := ⟨ixOf_inj hc b1, fun z => by rw [z]⟩
    have e2 : (ixOf c y = ixOf (con b) y) ↔ c = con b := ⟨ixOf_inj hc cb, fun z => by rw [z]⟩
    have step : partner (prO y b :: bs.map (prO y)) (ixOf c y) = if c = b then ixOf (con b) y else if c = con b then ixOf b y else partner (bs.map (prO y)) (ixOf c y) := by
      unfold prO
      split
      · show (if ixOf c y = ixOf b y then _ else if ixOf c y = ixOf (con b) y then _ else _) = _
        simp only [e1, e2]
      · show (if ixOf c y = ixOf (con b) y then _ else if ixOf c y = ixOf b y then _ else _) = _
        simp only [e1, e2]
        by_cases z1 : c = b
        · have : ¬ b = con b := fun q => con_ne (hy.let_ b b1) q.symm
          subst z1
          rw [if_neg this, if_pos rfl, if_pos rfl]
        · by_cases z2 : c = con b
          · rw [if_pos z2, if_neg z1, if_pos z2]
          · rw [if_neg z2, if_neg z1, if_neg z1, if_neg z2]
    rw [step]
    by_cases z1 : c = b
    · rw [if_pos z1, z1]
    · rw [if_neg z1]
      by_cases z2 : c = con b
      · rw [if_pos z2, z2, con_con (hy.let_ b b1)]
      · rw [if_neg z2]
        refine partner_of hy hc (fun x hx => hb x (List.mem_cons_of_mem _ hx)) ?_
        rcases h with h | h
        · rcases List.mem_cons.mp h with h | h
          · exact absurd h z1
          · exact .inl h
        · rcases List.mem_cons.mp h with h | h
          · exact absurd (by rw [← h, con_con (hy.let_ c hc)]) z2
          · exact .inr h
theorem band_or {y : List Nat} (hy : YardOk y) {c : Nat} (hc : c ∈ y) : c ∈ bandW y ∨ con c ∈ bandW y := by
  by_cases sc : sml c = true
  · exact .inl (band_mem.mpr ⟨hc, sc⟩)
  · exact .inr (band_mem.mpr ⟨hy.con_ c hc, by rw [sml_con (hy.let_ c hc)]; simpa using sc⟩)
theorem rims_cyc {y : List Nat} (hy : YardOk y) (h2 : 2 ≤ y.length) : (rimsL y).length = cycN ((bandW y).map (prO y)) y.length := by
  unfold rimsL
  rw [srt_len, List.length_map]
  have e0 : reps (rimW y) y = told (rimW y) [] y := by
    rw [told_reps, List.filter_eq_self.mpr fun z _ => by simp]
  have A := gs_about hy h2
  have inj : ∀ a ∈ y, ∀ b ∈ y, ixOf a y = ixOf b y → a = b := fun a ha b hb h => ixOf_inj ha hb h
  have key := told_ix (g := rimW y) (g' := cyw (stP ((bandW y).map (prO y)) y.length) y.length) (f := fun c => ixOf c y) (S := y) inj (fun x hx => ⟨cyw_ix (S := y) A.maps inj (fun c hc => ?_) y.length hx, fun z hz => A.sub hx hz⟩) y [] (fun _ h => h) (fun _ h => by cases h)
  · rw [e0]
    unfold cycN
    rw [map_ix hy.nd] at key
    have key : told (cyw (stP ((bandW y).map (prO y)) y.length) y.length) [] (List.range y.length) = _ := key
    rw [key, List.length_map]
  · unfold stP
    show ixOf (gs y c) y = _
    rw [partner_of hy hc (fun b hb => (band_mem.mp hb).1) (band_or hy hc)]
    exact ix_get hy.nd (nxt_get (y := y) (by omega) (ixOf (con c) y))
set_option maxRecDepth 100000
set_option maxHeartbeats 1000000
theorem wP4_0 : ((List.range 8).all fun q => !decide (0 < q) || walkP 8 3 [(0, q)]) = true := by decide +kernel
theorem wP4_1 : ((List.range 8).all fun q => !decide (1 < q) || walkP 8 3 [(1, q)]) = true := by decide +kernel
theorem wP4_2 : ((List.range 8).all fun q => !decide (2 < q) || walkP 8 3 [(2, q)]) = true := by decide +kernel
theorem wP4_3 : ((List.range 8).all fun q => !decide (3 < q) || walkP 8 3 [(3, q)]) = true := by decide +kernel
theorem wP4_4 : ((List.range 8).all fun q => !decide (4 < q) || walkP 8 3 [(4, q)]) = true := by decide +kernel
theorem wP4_5 : ((List.range 8).all fun q => !decide (5 < q) || walkP 8 3 [(5, q)]) = true := by decide +kernel
theorem wP4_6 : ((List.range 8).all fun q => !decide (6 < q) || walkP 8 3 [(6, q)]) = true := by decide +kernel
theorem wP4_7 : ((List.range 8).all fun q => !decide (7 < q) || walkP 8 3 [(7, q)]) = true := by decide +kernel
theorem wP4 : walkP 8 4 [] = true := by
  show ((List.range 8).all fun p => usedP [] p || (List.range 8).all fun q => !decide (p < q) || usedP [] q || walkP 8 3 ([] ++ [(p, q)])) = true
  rw [List.all_eq_true]
  intro p hp
  have h : ((List.range 8).all fun q => !decide (p < q) || walkP 8 3 [(p, q)]) = true := by
    have hp := List.mem_range.mp hp
    match p, hp with
    | 0, _ => exact wP4_0
    | 1, _ => exact wP4_1
    | 2, _ => exact wP4_2
    | 3, _ => exact wP4_3
    | 4, _ => exact wP4_4
    | 5, _ => exact wP4_5
    | 6, _ => exact wP4_6
    | 7, _ => exact wP4_7
  show (false || _) = true
  rw [Bool.false_or, List.all_eq_true]
  intro q hq
  have := List.all_eq_true.mp h q hq
  show (!decide (p < q) || false || walkP 8 3 [(p, q)]) = true
  rw [Bool.or_false]
  exact this
set_option maxRecDepth 100000
set_option maxHeartbeats 1000000
def sgB (y : List Nat) (b : Nat) : Int := if ixOf b y < ixOf (con b) y then 1 else -1
def lacO (y : List Nat) (a b : Nat) : Int := if prO y a = prO y b then 0 else lacP (prO y a).1 (prO y a).2 (prO y b).1 (prO y b).2
structure Far (y : List Nat) (a b : Nat) : Prop where
  d1 : ixOf a y ≠ ixOf b y
  d2 : ixOf (con a) y ≠ ixOf b y
  d3 : ixOf (con a) y ≠ ixOf a y
  d4 : ixOf (con b) y ≠ ixOf a y
  d5 : ixOf (con b) y ≠ ixOf b y
  d6 : ixOf (con a) y ≠ ixOf (con b) y
theorem far_of {y : List Nat} (hy : YardOk y) {a b : Nat} (ha : a ∈ bandW y) (hb : b ∈ bandW y) (e : a ≠ b) : Far y a b := by
  obtain ⟨ay, as⟩ := band_mem.mp ha
  obtain ⟨b1, bs⟩ := band_mem.mp hb
  have ca := hy.con_ a ay
  have cb := hy.con_ b b1
  have small : ∀ {x z : Nat}, x ∈ y → sml x = true → sml z = true → con x ≠ z := fun hx h1 h2 q => by
    have := sml_con (hy.let_ _ hx)
    rw [q, h1, h2] at this
    cases this
  exact ⟨fun z => e (ixOf_inj ay b1 z), fun z => small ay as bs (ixOf_inj ca b1 z), fun z => small ay as as (ixOf_inj ca ay z), fun z => small b1 bs as (ixOf_inj cb ay z), fun z => small b1 bs bs (ixOf_inj cb b1 z), fun z => e (by
    have h := congrArg con (ixOf_inj ca cb z)
    rw [con_con (hy.let_ _ ay), con_con (hy.let_ _ b1)] at h
    exact h)⟩
theorem lac_places (y : List Nat) {a b : Nat} (e : a ≠ b) : lac y a b = lacP (ixOf a y) (ixOf (con a) y) (ixOf b y) (ixOf (con b) y) := by
  unfold lac lacP
  rw [if_neg e]
theorem lacP_l {p p' q q' : Nat} (d1 : p ≠ q) (d2 : p' ≠ q) (d3 : p' ≠ p) (d4 : q' ≠ p) (d5 : q' ≠ q) (d6 : p' ≠ q') : lacP p' p q q' = - lacP p p' q q' := by
  unfold lacP
  cases hA : cyc3 p' q' p <;> cases hB : cyc3 p' q p <;> cases hC : cyc3 p q' p' <;> cases hD : cyc3 p q p' <;>
    first
    | rfl
    | (exfalso
       unfold cyc3 at hA hB hC hD
       simp only [decide_eq_true_eq, decide_eq_false_iff_not] at hA hB hC hD
       omega)
theorem lacP_r {p p' q q' : Nat} (d1 : p ≠ q) (d2 : p' ≠ q) (d3 : p' ≠ p) (d4 : q' ≠ p) (d5 : q' ≠ q) (d6 : p' ≠ q') : lacP p p' q' q = - lacP p p' q q' := by
  unfold lacP
  cases hA : cyc3 p' q' p <;> cases hB : cyc3 p' q p <;> rfl
theorem lacP_anti {p p' q q' : Nat} (d1 : p ≠ q) (d2 : p' ≠ q) (d3 : p' ≠ p) (d4 : q' ≠ p) (d5 : q' ≠ q) (d6 : p' ≠ q') : lacP q q' p p' = - lacP p p' q q' := by
  unfold lacP
  cases hA : cyc3 p' q' p <;> cases hB : cyc3 p' q p <;> cases hC : cyc3 q' p' q <;> cases hD : cyc3 q' p q <;>
    first
    | rfl
    | (exfalso
       unfold cyc3 at hA hB hC hD
       simp only [decide_eq_true_eq, decide_eq_false_iff_not] at hA hB hC hD
       omega)
theorem prO_ne {y : List Nat} {a b : Nat} (f : Far y a b) : prO y a ≠ prO y b := by
  obtain ⟨d1, d2, d3, d4, d5, d6⟩ := f
  unfold prO
  split <;> split <;> intro h <;> have h1 := congrArg Prod.fst h <;> simp only at h1 <;> omega
theorem lac_sg {y : List Nat} {a b : Nat} (e : a ≠ b) (f : Far y a b) : lac y a b = sgB y a * sgB y b * lacO y a b := by
  rw [lac_places y e]
  unfold lacO
  rw [if_neg (prO_ne f)]
  obtain ⟨d1, d2, d3, d4, d5, d6⟩ := f
  unfold prO sgB
  by_cases h1 : ixOf a y < ixOf (con a) y <;> by_cases h2 : ixOf b y < ixOf (con b) y
  · rw [if_pos h1, if_pos h2, if_pos h1, if_pos h2]; simp
  · rw [if_pos h1, if_neg h2, if_pos h1, if_neg h2]
    show _ = 1 * -1 * lacP _ _ _ _
    rw [lacP_r d1 d2 d3 d4 d5 d6]; simp
  · rw [if_neg h1, if_pos h2, if_neg h1, if_pos h2]
    show _ = -1 * 1 * lacP _ _ _ _
    rw [lacP_l d1 d2 d3 d4 d5 d6]; simp
  · rw [if_neg h1, if_neg h2, if_neg h1, if_neg h2]
    show _ = -1 * -1 * lacP _ _ _ _
    rw [lacP_l (q := ixOf (con b) y) (q' := ixOf b y) (by omega) (by omega) (by omega) (by omega) (by omega) (by omega), lacP_r d1 d2 d3 d4 d5 d6]; simp
theorem lacO_anti {y : List Nat} {a b : Nat} (f : Far y a b) : lacO y b a = - lacO y a b := by
  unfold lacO
  rw [if_neg (prO_ne f), if_neg (fun z => prO_ne f z.symm)]
  obtain ⟨d1, d2, d3, d4, d5, d6⟩ := f
  unfold prO
  split <;> split <;> (refine lacP_anti ?_ ?_ ?_ ?_ ?_ ?_ <;> simp only <;> omega)
theorem lacO_tri (y : List Nat) (a b : Nat) : lacO y a b ∈ tri := by
  unfold lacO lacP tri
  split
  · decide
  · split
    · decide
    · split <;> decide
theorem sgB_two (y : List Nat) (b : Nat) : sgB y b ∈ two := by unfold sgB two; split <;> decide
def tabL (y : List Nat) : List (List Int) := (bandW y).map fun a => (bandW y).map fun b => lac y a b
theorem tabO_eq (y : List Nat) : tabP ((bandW y).map (prO y)) = (bandW y).map fun a => (bandW y).map fun b => lacO y a b := by
  unfold tabP lacO
  rw [List.map_map]
  refine List.map_congr_left fun a _ => ?_
  show List.map _ (List.map _ _) = _
  rw [List.map_map]
  rfl
theorem lac_self (y : List Nat) (a : Nat) : lac y a a = 0 := by unfold lac; rw [if_pos rfl]
theorem lacO_self (y : List Nat) (a : Nat) : lacO y a a = 0 := by unfold lacO; rw [if_pos rfl]
theorem tri_sg {s t a : Int} (hs : s ∈ two) (ht : t ∈ two) (ha : a ∈ tri) : s * t * a ∈ tri := by
  simp only [two, tri, List.mem_cons, List.not_mem_nil, or_false] at *
  rcases hs with rfl | rfl <;> rcases ht with rfl | rfl <;> rcases ha with rfl | rfl | rfl <;> decide
/-- the table has the rank of the table by places; both ways of counting agree on it -/
theorem tab_chk {y : List Nat} (hy : YardOk y) (h2 : 2 ≤ y.length) (h8 : (bandW y).length ≤ 4) (h0 : bandW y ≠ []) : chkT (tabL y) = true ∧ pfR (tabL y) = pfR (tabP ((bandW y).map (prO y))) := by
  rw [tabO_eq]
  unfold tabL
  have nd := band_nodup hy.nd
  have F : ∀ {a b : Nat}, a ∈ bandW y → b ∈ bandW y → a ≠ b → Far y a b := fun ha hb e => far_of hy ha hb e
  have T := fun a b => lacO_tri y a b
  have S := sgB_two y
  match hb : bandW y, h8, h0 with
  | [a], _, _ =>
    simp only [List.map_cons, List.map_nil, lac_self, lacO_self]
    exact ⟨chk1, trivial⟩
  | [a, b], _, _ =>
    rw [hb] at nd F
    simp only [List.nodup_cons, List.mem_cons, List.not_mem_nil, or_false, not_or] at nd
    have ab := F (a := a) (b := b) (by simp) (by simp) nd.1
    simp only [List.map_cons, List.map_nil, lac_self, lacO_self]
    rw [lacO_anti ab, lac_anti hy (a := a) (b := b) (by rw [hb]; simp) (by rw [hb]; simp), lac_sg nd.1 ab]
    exact ⟨all_mem chk2 (tri_sg (S a) (S b) (T a b)), sgn2 (S a) (S b)⟩
  | [a, b, c], _, _ =>
    rw [hb] at nd F
    simp only [List.nodup_cons, List.mem_cons, List.not_mem_nil, or_false, not_or] at nd
    obtain ⟨⟨n1, n2⟩, n3, _⟩ := nd
    have ab := F (a := a) (b := b) (by simp) (by simp) n1
    have ac := F (a := a) (b := c) (by simp) (by simp) n2
    have bc := F (a := b) (b := c) (by simp) (by simp) n3
    have M : ∀ x ∈ [a, b, c], x ∈ bandW y := fun x hx => by rw [hb]; exact hx
    simp only [List.map_cons, List.map_nil, lac_self, lacO_self]
    rw [lacO_anti ab, lacO_anti ac, lacO_anti bc, lac_anti hy (a := a) (b := b) (M _ (by simp)) (M _ (by simp)), lac_anti hy (a := a) (b := c) (M _ (by simp)) (M _ (by simp)), lac_anti hy (a := b) (b := c) (M _ (by simp)) (M _ (by simp)), lac_sg n1 ab, lac_sg n2 ac, lac_sg n3 bc]
    have ck := all_mem (all_mem (all_mem chk3 (tri_sg (S a) (S b) (T a b))) (tri_sg (S a) (S c) (T a c))) (tri_sg (S b) (S c) (T b c))
    exact ⟨ck, sgn3 (S a) (S b) (S c)⟩
  | [a, b, c, d], _, _ =>
    rw [hb] at nd F
    simp only [List.nodup_cons, List.mem_cons, List.not_mem_nil, or_false, not_or] at nd
    obtain ⟨⟨n1, n2, n3⟩, ⟨n4, n5⟩, n6, _⟩ := nd
    have ab := F (a := a) (b := b) (by simp) (by simp) n1
    have ac := F (a := a) (b := c) (by simp) (by simp) n2
    have ad := F (a := a) (b := d) (by simp) (by simp) n3
    have bc := F (a := b) (b := c) (by simp) (by simp) n4
    have bd := F (a := b) (b := d) (by simp) (by simp) n5
    have cd := F (a := c) (b := d) (by simp) (by simp) n6
    have M : ∀ x ∈ [a, b, c, d], x ∈ bandW y := fun x hx => by rw [hb]; exact hx
    simp only [List.map_cons, List.map_nil, lac_self, lacO_self]
    rw [lacO_anti ab, lacO_anti ac, lacO_anti ad, lacO_anti bc, lacO_anti bd, lacO_anti cd,
      lac_anti hy (a := a) (b := b) (M _ (by simp)) (M _ (by simp)), lac_anti hy (a := a) (b := c) (M _ (by simp)) (M _ (by simp)), lac_anti hy (a := a) (b := d) (M _ (by simp)) (M _ (by simp)), lac_anti hy (a := b) (b := c) (M _ (by simp)) (M _ (by simp)), lac_anti hy (a := b) (b := d) (M _ (by simp)) (M _ (by simp)), lac_anti hy (a := c) (b := d) (M _ (by simp)) (M _ (by simp)),
      lac_sg n1 ab, lac_sg n2 ac, lac_sg n3 ad, lac_sg n4 bc, lac_sg n5 bd, lac_sg n6 cd]
    exact ⟨chk4 (tri_sg (S a) (S b) (T a b)) (tri_sg (S a) (S c) (T a c)) (tri_sg (S a) (S d) (T a d)) (tri_sg (S b) (S c) (T b c)) (tri_sg (S b) (S d) (T b d)) (tri_sg (S c) (S d) (T c d)), sgn4 (S a) (S b) (S c) (S d)⟩
theorem band_two {y : List Nat} (hy : YardOk y) : y.length = 2 * (bandW y).length := by
  have h := perm_nd (a := bandW y ++ (bandW y).map con) (b := y) ?_ hy.nd fun c => ?_
  · rw [← h.length_eq, List.length_append, List.length_map]; omega
  · rw [List.nodup_append]
    refine ⟨band_nodup hy.nd, ?_, ?_⟩
    · rw [List.nodup_iff_pairwise_ne, List.pairwise_map]
      refine List.Pairwise.imp_of_mem (fun {a b} ha hb ne e => ne ?_) (List.nodup_iff_pairwise_ne.mp (band_nodup hy.nd))
      rw [← con_con (hy.let_ _ (band_mem.mp ha).1), e, con_con (hy.let_ _ (band_mem.mp hb).1)]
    · intro a ha b hb e
      obtain ⟨c, hc, rfl⟩ := List.mem_map.mp hb
      have h1 := (band_mem.mp ha).2
      have h2 := sml_con (hy.let_ c (band_mem.mp hc).1)
      rw [← e, h1, (band_mem.mp hc).2] at h2
      cases h2
  · rw [List.mem_append]
    constructor
    · rintro (h | h)
      · exact (band_mem.mp h).1
      · obtain ⟨d, hd, rfl⟩ := List.mem_map.mp h
        exact hy.con_ d (band_mem.mp hd).1
    · intro h
      rcases band_or hy h with h' | h'
      · exact .inl h'
      · exact .inr (List.mem_map.mpr ⟨con c, h', con_con (hy.let_ c h)⟩)
theorem walk_leaf {y : List Nat} (hy : YardOk y) : ∀ (k : Nat) (pre suf : List Nat), suf.length = k → (pre ++ suf).Nodup → (∀ b ∈ pre ++ suf, b ∈ bandW y) → walkP y.length k (pre.map (prO y)) = true → leafP ((pre ++ suf).map (prO y)) = true
  | 0, pre, suf, hl, _, _, h => by
    have : suf = [] := List.length_eq_zero_iff.mp hl
    subst this
    rw [List.append_nil]
    exact h
  | k + 1, pre, [], hl, _, _, _ => by simp at hl
  | k + 1, pre, b :: suf, hl, nd, hm, h => by
    have hb : b ∈ bandW y := hm b (by simp)
    obtain ⟨b1, bs⟩ := band_mem.mp hb
    have cb := hy.con_ b b1
    have l1 := ixOf_lt b1
    have l2 := ixOf_lt cb
    have ne : ixOf b y ≠ ixOf (con b) y := fun z => con_ne (hy.let_ b b1) (ixOf_inj b1 cb z).symm
    have hlt : (prO y b).1 < (prO y b).2 ∧ (prO y b).2 < y.length := by
      unfold prO
      split
      · exact ⟨by assumption, l2⟩
      · exact ⟨by show ixOf (con b) y < ixOf b y; omega, l1⟩
    have used : ∀ x, x = (prO y b).1 ∨ x = (prO y b).2 → usedP (pre.map (prO y)) x = false := fun x hx => by
      unfold usedP
      rw [List.any_eq_false]
      intro q hq
      obtain ⟨a, ha, rfl⟩ := List.mem_map.mp hq
      have nab : a ≠ b := by
        rintro rfl
        rw [List.nodup_append] at nd
        exact nd.2.2 a ha a (by simp) rfl
      obtain ⟨d1, d2, d3, d4, d5, d6⟩ := far_of hy (hm a (by simp [ha])) hb nab
      simp only [decide_eq_true_eq, not_or]
      unfold prO at hx ⊢
      split at hx <;> split <;> simp only at hx ⊢ <;> omega
    have h : ((List.range y.length).all fun p => usedP (pre.map (prO y)) p || (List.range y.length).all fun q => !decide (p < q) || usedP (pre.map (prO y)) q || walkP y.length k (pre.map (prO y) ++ [(p, q)])) = true := h
    have h1 := all_mem h (List.mem_range.mpr (show (prO y b).1 < y.length by omega))
    rw [used _ (.inl rfl), Bool.false_or] at h1
    have h2 := all_mem h1 (List.mem_range.mpr hlt.2)
    rw [used _ (.inr rfl), decide_eq_true hlt.1] at h2
    have h2 : walkP y.length k ((pre ++ [b]).map (prO y)) = true := by rw [List.map_append]; exact h2
    have := walk_leaf hy k (pre ++ [b]) suf (by simpa using hl) (by simpa using nd) (fun x hx => hm x (by simpa using hx)) h2
    simpa using this
theorem rank_hands {y : List Nat} (hy : YardOk y) (h2 : 2 ≤ y.length) (h8 : y.length ≤ 8) : chkT (tabL y) = true ∧ ((rk (tabL y) : Nat) : Int) = 2 * hands y := by
  have bt := band_two hy
  have h0 : bandW y ≠ [] := fun z => by rw [z, List.length_nil] at bt; omega
  obtain ⟨c1, c2⟩ := tab_chk hy h2 (by omega) h0
  refine ⟨c1, ?_⟩
  have c1 : (_ && _ && decide (rk (tabL y) = pfR (tabL y)) && _) = true := c1
  simp only [Bool.and_eq_true, decide_eq_true_eq] at c1
  rw [c1.1.2, c2]
  have w := walk_leaf hy (bandW y).length [] (bandW y) rfl (by simpa using band_nodup hy.nd) (fun b hb => by simpa using hb) (by
    rw [bt]
    have hl : (bandW y).length ≤ 4 := by omega
    have h1 : 1 ≤ (bandW y).length := by omega
    match (bandW y).length, hl, h1 with
    | 1, _, _ => exact wP1
    | 2, _, _ => exact wP2
    | 3, _, _ => exact wP3
    | 4, _, _ => exact wP4)
  rw [List.nil_append] at w
  have w := of_decide_eq_true w
  rw [w, List.length_map, ← bt]
  unfold hands
  rw [rims_cyc hy h2]
end Pu
set_option maxRecDepth 100000
set_option maxHeartbeats 1000000
namespace Pu
open PySem L2
local macro_rules | `(tactic| simpa?! only [$xs,*]) => `(tactic| simp -dsimp only [↓opt_some, ↓br_true, ↓br_false, ↓nameC_d, ↓nameC_own, ↓nameC_dK, ↓nameC_dT, ↓x_name, ↓fzC_d, ↓fzC_own, ↓fzC_dK, ↓fzC_dT, ↓x_fzn, ↓x_fzK, ↓x_fzT, ↓x_fzd, ↓x_fzo, ↓x_rvn, ↓x_rvd, ↓x_rvo, ↓retC_d, ↓retC_own, ↓x_retn, ↓x_retd, ↓x_reto, ↓x_hd, ↓x_ho, ↓x_hn, ↓x_ad, ↓x_ao, ↓x_an, ↓x_set, ↓x_seq, ↓x_next, ↓x_break, ↓x_cont, ↓x_drop, ↓x_ret, ↓x_retN, ↓x_if, ↓x_asg, ↓x_asgG, ↓x_while, ↓x_for, ↓x_2, ↓x_k2ad, ↓x_k2ao, ↓x_k2an, ↓x_k2b, ↓x_k2c, ↓x_1, ↓x_k1c, ↓x_D, ↓bC_b, ↓x_B, ↓x_kBc, ↓x_and, ↓x_kAn, ↓x_or, ↓x_kOr, ↓x_not, ↓x_kNo, ↓x_andV, ↓x_kAV, ↓x_orV, ↓x_kOV, ↓x_notV, ↓x_kNV, ↓x_tif, ↓x_nil, ↓x_kC2, ↓x_cons, ↓x_kC1d, ↓x_kC1o, ↓x_kC1k, ↓x_kC1t, ↓x_kC1n, ↓x_kC3d, ↓x_kC3o, ↓x_kC3k, ↓x_kC3t, ↓x_tup, ↓x_kTu, ↓x_lst, ↓x_kLs, ↓x_rnil, ↓x_kR2, ↓x_rcons, ↓x_kR1d, ↓x_kR1o, ↓x_kR1n, ↓x_callP, ↓x_kCP, ↓x_rvLc, ↓x_rvLn, ↓x_meth, ↓x_kM0d, ↓x_kM0o, ↓x_kM0n, ↓x_kM1, ↓x_kM2, ↓x_kM3, ↓x_meth0, ↓x_mut, ↓x_kU1n, ↓x_kU1d, ↓x_kU2, ↓x_kU3, ↓x_mg, ↓x_ms, ↓x_sl, ↓x_kS0d, ↓x_kS0o, ↓x_kS0n, ↓x_kS1, ↓x_kS2, ↓x_kS3, ↓x_on, ↓iC_i, ↓x_os, ↓x_kOs, ↓x_lc, ↓x_any, ↓x_pure, ↓sC_s, ↓x_rev, ↓x_call, ↓x_kCa, ↓x_gn, ↓x_gnil, ↓x_gcons, ↓x_isi, ↓a_ii, ↓a_ss, ↓a_ll, ↓a_tt, ↓a_I, ↓a_neg, ↓a_mul, ↓a_mulL, ↓a_mulS, ↓a_eq, ↓a_ne, ↓a_lt, ↓a_le, ↓a_gt, ↓a_ge, ↓a_ltS, ↓a_leS, ↓a_inS, ↓a_ninS, ↓a_inL, ↓a_ninL, ↓a_inT, ↓a_ninT, ↓a_ixL, ↓a_ixT, ↓a_ixS, ↓a_ixR, ↓a_ixB, ↓a_slL, ↓a_slT, ↓a_slS, ↓a_lenS, ↓a_lenL, ↓a_lenT, ↓a_lenR, ↓a_join, ↓a_ixof, ↓a_ixofL, ↓a_rng1, ↓a_rng2, ↓a_min2, ↓a_max2, ↓a_lstS, ↓a_lstL, ↓a_lstT, ↓a_int, ↓a_intB, ↓a_isN, ↓x_popAt, ↓x_all, ↓x_anyB, ↓a_isB, ↓a_pop, ↓x_dict0, ↓x_aK, ↓x_kg, ↓x_kgRn, ↓x_kgRf, ↓x_zips, ↓x_ks, ↓x_dg, ↓x_di, ↓x_dpt, ↓x_enum, ↓a_backL, ↓a_backS, ↓a_backT, ↓x_never, ↓a_tupL, ↓a_tupT, ↓x_sort, ↓x_sortS, ↓x_sortP, ↓a_slR, ↓x_zip, ↓x_sum, ↓a_count, ↓augC_i, ↓x_aug, ↓x_par, ↓x_raise, ↓x_callX, ↓x_try, ↓x_subA, ↓x_setN, ↓a_two, ↓x_swIx, ↓x_mkX, ↓x_mk0, ↓x_raise0, ↓a_exB, ↓a_tbl, ↓a_cbl, ↓x_isX, ↓x_xattr, ↓x_dictT0, ↓x_aT, ↓retC_dT, ↓retC_dK, ↓x_retT, ↓x_retK, ↓x_tgg, ↓x_tgRn, ↓x_tgRf, ↓x_tss, ↓x_dgT, ↓x_dptT, ↓x_callT, ↓a_lenTT, ↓a_listT, ↓a_dictT, ↓a_dictK, ↓x_chn, ↓a_mmT, ↓x_sortN, ↓a_lenSS, ↓a_ltT, ↓x_chn3, ↓a_dictN, ↓a_gN, ↓x_gls, ↓x_revT, ↓x_chS, ↓x_ltN, ↓x_try0, ↓x_fld, ↓x_kF, ↓x_kSF, ↓x_sfldZ, ↓x_sfldP, ↓x_kpd, ↓x_kpo, ↓x_kpK, ↓x_kpT, ↓x_kpC, ↓x_kpn, ↓x_2O, ↓x_k2adO, ↓x_k2aoO, ↓x_k2anO, ↓x_k2bO, ↓x_k2cO, ↓x_im, ↓x_kIM, ↓x_make, ↓x_kMk, ↓x_gtN, ↓x_methT, ↓x_kMTd, ↓x_mT1, ↓x_prK, ↓x_ixT, ↓x_prI, ↓x_splitA, ↓x_strI, ↓x_intS, ↓x_fs3, ↓x_f3I, ↓x_zipS, ↓x_parO, ↓x_asgZ, ↓x_asgK, ↓x_gd, ↓x_kGD, ↓x_case, ↓x_imX, ↓x_kIMX, ↓x_lcX, ↓x_ksr, ↓x_msr, ↓x_disp2, ↓x_kD2, ↓x_dgk2, ↓x_kG2, ↓x_clear, ↓x_kin, ↓x_kKI, ↓x_khas, ↓x_kKH, ↓x_igt, ↓x_izg, ↓x_kIG, ↓x_tzC, ↓x_tz, ↓x_split1, ↓x_strAi, ↓x_strAs, ↓x_forL, ↓x_callPS, ↓x_lcL, ↓x_remD, rvC_d, rvC_own, consO_s, isTy_s, isTy_l, mgC_own, walk_l, walk_t, walk_s, toR_d, toR_o, items_l, items_t, ok_s, ok_i, ok_b, ok_n, ok_l, ok_t, okL_n, okL_c, e_ss, e_ii, e_bb, e_ll, e_tt, eL_nn, eL_cc, eL_nc, eL_cn, ty_s, ty_i, ty_l, ty_b, kgC_dK, key_i, key_s, kI_eq, kS_eq, oneR_1, walkE_l, walkE_t, walkE_s, ty_t, twoR_2, side_l, side_t, twoD_2, ow_nil, ow_un, ow_d, toR_T, toR_K, tgC_dT, tupK_t, consK_s, keyL_n, keyL_c, fold1, intL_n, consI_s, intL_c, consS_s, strL_n, strL_c, tC_s, m_app, m_ext, m_rev, sline, startC, restE, restC, wipeE, wipeC, plainC, List.getElem?_cons_zero, List.getElem?_cons_succ, List.getD_cons_zero, List.getD_cons_succ, List.set_cons_zero, List.set_cons_succ, List.length_cons, List.length_nil, List.map_cons, List.map_nil, List.replicate_succ, List.replicate_zero, List.cons_append, List.nil_append, Nat.reduceAdd, Nat.reduceMul, Int.reduceAdd, Int.reduceSub, Int.reduceMul, Nat.reduceSub, Nat.reduceLT, Nat.reduceLeDiff, Nat.lt_add_one, Int.reduceNeg, Int.reduceLT, Int.reduceLE, Int.reduceToNat, Int.reducePow, Nat.reducePow, List.flatten_cons, List.flatten_nil, List.append_nil, true_and, and_true, true_or, or_true, eq_self, and_self, decide_true, decide_false, Bool.not_true, Bool.not_false, Bool.not_not, Option.isSome_some, Bool.and_true, Bool.true_and, Bool.and_self, reduceIte, ↓reduceIte, Bool.false_eq_true, ite_self, reduceCtorEq, ne_eq, not_false_eq_true, forall_const, ↓x_gtup, ↓a_repr, ↓x_min1, ↓a_min2S, ↓x_yes, ↓x_ite, x_gnil, walk_l, walk_t, walk_s, $xs,*])
def kD_ (n : Nat) : D := .int (n : Nat)
def pvD (p : Nat × List Int) : D := .tup [.int (p.1 : Nat), .lst (p.2.map D.int)]
theorem clr_app : ∀ (ps qs : List (Nat × List Int)) (row : List Int), clr row (ps ++ qs) = clr (clr row ps) qs
  | [], _, _ => rfl
  | (k, o) :: ps, qs, row => clr_app ps qs (clrStep row o k)
theorem smL_of {n : Nat} {l : List Int} (h : smL n l = true) : l.length = n ∧ ∀ x ∈ l, -(2 ^ 60) < x ∧ x < 2 ^ 60 := by
  unfold smL at h
  rw [Bool.and_eq_true, decide_eq_true_eq, List.all_eq_true] at h
  exact ⟨h.1, fun x hx => of_decide_eq_true (h.2 x hx)⟩
theorem ix_int {l : List Int} {k : Nat} (h : k < l.length) : atI (l.map D.int) (k : Int) = some (.int (l.getD k 0)) := by
  refine atI_nat ?_
  rw [List.getElem?_map, List.getElem?_eq_getElem h, List.getD_eq_getElem?_getD, List.getElem?_eq_getElem h]
  rfl
theorem zip_ints : ∀ a b : List Int, zipF (a.map D.int) (b.map D.int) = (a.zip b).map fun p => .tup [.int p.1, .int p.2]
  | [], _ => by cases ‹List Int› <;> rfl
  | _ :: _, [] => rfl
  | x :: a, y :: b => by rw [List.map_cons, List.map_cons, zipF, zip_ints a b, List.zip_cons_cons, List.map_cons]
theorem zipW_map {f : Int → Int → Int} (a b : List Int) : List.zipWith f a b = (a.zip b).map fun p => f p.1 p.2 := by
  rw [List.zip, List.map_zipWith]
def m_cleared : PM := fun ds st Q => match ds with
  | [.tup rs, .ref k] => ∃ (n : Nat) (row : List Int) (ps : List (Nat × List Int)), rs = row.map D.int ∧ st[k]? = some (.lst (ps.map pvD)) ∧ n ≤ 64 ∧ clrOk n row ps = true ∧ Q (.own ((clr row ps).map D.int)) st
  | _ => False
theorem e_cleared {rs k s Q} : m_cleared [.tup rs, .ref k] s Q = ∃ (n : Nat) (row : List Int) (ps : List (Nat × List Int)), rs = row.map D.int ∧ s[k]? = some (.lst (ps.map pvD)) ∧ n ≤ 64 ∧ clrOk n row ps = true ∧ Q (.own ((clr row ps).map D.int)) s := rfl
def t_cleared : PTS := sSeq (sAsg 0 (tCallP pList (rCons (tName 0) (rNil)))) (sSeq (sForL (tName 1) (gTup 2 (gCons (gName 2) (gCons (gName 3) (gNil)))) (sIf (tB (t2 (t2 (tName 0) (tName 2) pIx) (tD (.int 0)) pNe)) (sSeq (sAsgG (gTup 2 (gCons (gName 4) (gCons (gName 5) (gNil)))) (tTup (tCons (t2 (tName 3) (tName 2) pIx) (tCons (t2 (tName 0) (tName 2) pIx) (tNil))))) (sAsg 0 (cLc (iZipP (rCons (tName 0) (rCons (tName 3) (rNil)))) (gTup 2 (gCons (gName 6) (gCons (gName 7) (gNil)))) (cYes) (t2 (t2 (tName 6) (tName 4) pMul) (t2 (tName 7) (tName 5) pMul) pSub) [6, 7]))) (sNext))) (sRet (tName 0)))
abbrev N_cleared : List Str := ["row", "pivots", "at", "other", "times", "back", "number", "more"]
theorem len_cleared (ds : List D) (s : Sto) (Q : C → Sto → Prop) (h : m_cleared ds s Q) : ds.length = 2 := by
  unfold m_cleared at h
  split at h
  · rfl
  · exact h.elim
theorem clrOk_sm {n : Nat} {row : List Int} {ps : List (Nat × List Int)} (h : clrOk n row ps = true) : smL n row = true := by
  cases ps with
  | nil => exact h
  | cons p ps =>
    obtain ⟨k, o⟩ := p
    unfold clrOk at h
    simp only [Bool.and_eq_true] at h
    exact h.1.1.1
theorem p_cleared (ds : List D) (s : Sto) (Q : C → Sto → Prop) (h : m_cleared ds s Q) : t_cleared noX { nx := fun e => Q (.d .non) e.st, rt := fun c e => Q c e.st } ⟨startC N_cleared ds, s⟩ := by
  unfold m_cleared at h
  split at h
  · rename_i rs k
    obtain ⟨n, row, ps, rfl, hk, hn, ok, q⟩ := h
    have r0 := smL_of (clrOk_sm ok)
    unfold t_cleared
    simpa?! only []
    refine opt_of (refL_of hk) ?_
    refine forL_map pvD ps (fun pre suf e => ∃ c2 c3 c4 c5 : C, e = ⟨[.own ((clr row pre).map D.int), .d (.ref k), c2, c3, c4, c5, .un, .un], s⟩ ∧ clrOk n (clr row pre) suf = true) ⟨_, _, _, _, rfl, ok⟩ ?_ ?_ ?_
    · rintro pre suf e ⟨c2, c3, c4, c5, rfl, _⟩
      exact hk
    · rintro e ⟨c2, c3, c4, c5, rfl, _⟩
      simpa?! only []
      exact q
    · rintro pre ⟨j, o⟩ suf e hp ⟨c2, c3, c4, c5, rfl, ok1⟩ N hN
      unfold clrOk at ok1
      simp only [Bool.and_eq_true, decide_eq_true_eq] at ok1
      obtain ⟨⟨⟨s1, s2⟩, hj⟩, ok2⟩ := ok1
      have s1 := smL_of s1
      have s2 := smL_of s2
      rw [clr_app] at hN
      have hN : ∀ e', (∃ c2 c3 c4 c5 : C, e' = ⟨[.own ((clrStep (clr row pre) o j).map D.int), .d (.ref k), c2, c3, c4, c5, .un, .un], s⟩ ∧ clrOk n (clrStep (clr row pre) o j) suf = true) → N e' := hN
      generalize clr row pre = R at s1 ok2 hN
      simpa?! only [pvD]
      have jl : j < R.length := by omega
      have jo : j < o.length := by omega
      have gm : ∀ {l : List Int} {i : Nat}, i < l.length → l.getD i 0 ∈ l := fun {l i} h => by
        rw [List.getD_eq_getElem?_getD, List.getElem?_eq_getElem h]
        exact List.getElem_mem h
      have b1 := s1.2 _ (gm jl)
      have b2 := s2.2 _ (gm jo)
      refine opt_of (ix_int jl) ?_
      simpa?! only []
      by_cases z : R.getD j 0 = 0
      · have e : clrStep R o j = R := by unfold clrStep; rw [if_neg (by simpa using z)]
        rw [e] at hN ok2
        refine br_neg (by rw [decide_eq_true z]; rfl) ?_
        simpa?! only []
        exact hN _ ⟨_, _, _, _, rfl, ok2⟩
      · have e : clrStep R o j = (R.zip o).map fun p => p.1 * o.getD j 0 - p.2 * R.getD j 0 := by unfold clrStep; rw [if_pos z, zipW_map]
        rw [e] at hN ok2
        refine br_pos (by rw [decide_eq_false z]; rfl) ?_
        simpa?! only []
        refine opt_of (ix_int jo) ?_
        simpa?! only []
        refine opt_of (ix_int jl) ?_
        simpa?! only [zip_ints]
        refine ⟨fun d hd => by obtain ⟨_, _, rfl⟩ := List.mem_map.mp hd; rfl, by rw [List.length_map, List.length_zip]; omega, ?_⟩
        refine lcH_mm (l := R.zip o) (g0 := fun p => .tup [.int p.1, .int p.2]) (fun p => .int (p.1 * o.getD j 0 - p.2 * R.getD j 0)) (fun p hp K k => ?_) ?_
        · have m1 := s1.2 _ (List.of_mem_zip hp).1
          have m2 := s2.2 _ (List.of_mem_zip hp).2
          simpa?! only []
          exact ⟨cmul_l _ _ (by omega) (by omega), cmul_l _ _ (by omega) (by omega), k⟩
        · simpa?! only []
          rw [List.map_map] at hN
          exact hN _ ⟨_, _, _, _, rfl, ok2⟩
  · exact h.elim
def rowD (r : List Int) : D := .tup (r.map D.int)
theorem tabD_eq (y : List Nat) : tabD y = .tup ((tabL y).map rowD) := by
  unfold tabD tabL rowD
  rw [List.map_map]
  congr 1
  refine List.map_congr_left fun a _ => ?_
  show _ = D.tup (List.map _ (List.map _ _))
  rw [List.map_map]
  rfl
theorem rkGo_app : ∀ (rs ss : List (List Int)) (ps : List (Nat × List Int)), rkGo (rs ++ ss) ps = rkGo ss (rkGo rs ps)
  | [], _, _ => rfl
  | r :: rs, ss, ps => rkGo_app rs ss (rkNext ps (clr r ps))
theorem rkGo_one (rs : List (List Int)) (r : List Int) : rkGo (rs ++ [r]) [] = rkNext (rkGo rs []) (clr r (rkGo rs [])) := by rw [rkGo_app]; rfl
theorem rkNext_len (ps : List (Nat × List Int)) (l : List Int) : (rkNext ps l).length ≤ ps.length + 1 := by
  unfold rkNext
  split <;> simp
theorem rkGo_len : ∀ rs : List (List Int), ∀ ps : List (Nat × List Int), (rkGo rs ps).length ≤ ps.length + rs.length
  | [], ps => Nat.le_refl _
  | r :: rs, ps => by
    have h1 := rkGo_len rs (rkNext ps (clr r ps))
    have h2 := rkNext_len ps (clr r ps)
    unfold rkGo
    simp only [List.length_cons]
    omega
theorem clr_len {n : Nat} : ∀ {ps : List (Nat × List Int)} {row : List Int}, clrOk n row ps = true → (clr row ps).length = n
  | [], row, h => (smL_of h).1
  | (k, o) :: ps, row, h => by
    unfold clrOk at h
    simp only [Bool.and_eq_true] at h
    exact clr_len (ps := ps) h.2
def m_rank : PM := fun ds st Q => match ds with
  | [.str y] => YardOk y ∧ 2 ≤ y.length ∧ y.length ≤ 8 ∧ ∀ o, Q (.d (.int (rk (tabL y) : Nat))) (st ++ [o])
  | _ => False
theorem e_rank {y s Q} : m_rank [.str y] s Q = (YardOk y ∧ 2 ≤ y.length ∧ y.length ≤ 8 ∧ ∀ o, Q (.d (.int (rk (tabL y) : Nat))) (s ++ [o])) := rfl
def t_rank : PTS := sSeq (sAsgK 1 (tLst (tNil))) (sSeq (sFor (iAny (tCall0 m_table (tCons (tName 0) (tNil)))) (gName 2) (sSeq (sAsg 3 (tCall0 m_cleared (tCons (tName 2) (tCons (tName 1) (tNil))))) (sSeq (sAsg 4 (cLc (iEnumP (rCons (tName 3) (rNil))) (gTup 2 (gCons (gName 5) (gCons (gName 6) (gNil)))) (tB (t2 (tName 6) (tD (.int 0)) pNe)) (tName 5) [5, 6])) (sIf (tB (t2 (tCallP pLen (rCons (tName 4) (rNil))) (tD (.int 0)) pGt)) (sDrop (tMut mAppend (tName 1) (tCons (tTup (tCons (t2 (tName 4) (tD (.int 0)) pIx) (tCons (tName 3) (tNil)))) (tNil)))) (sNext))))) (sRet (tCallPS pLen (rCons (tName 1) (rNil)))))
abbrev N_rank : List Str := ["yard", "pivots", "row", "left", "places", "at", "number"]
theorem len_rank (ds : List D) (s : Sto) (Q : C → Sto → Prop) (h : m_rank ds s Q) : ds.length = 1 := by
  unfold m_rank at h
  split at h
  · rfl
  · exact h.elim
theorem p_rank (ds : List D) (s : Sto) (Q : C → Sto → Prop) (h : m_rank ds s Q) : t_rank noX { nx := fun e => Q (.d .non) e.st, rt := fun c e => Q c e.st } ⟨startC N_rank ds, s⟩ := by
  unfold m_rank at h
  split at h
  · rename_i y
    obtain ⟨hy, h2, h8, q⟩ := h
    obtain ⟨ck, _⟩ := rank_hands hy h2 h8
    unfold chkT at ck
    simp only [Bool.and_eq_true] at ck
    have ok := ck.1.1.1
    have tl : (tabL y).length ≤ 8 := by unfold tabL; rw [List.length_map]; have := band_len y; omega
    generalize hn : (tabL y).length = n at ok tl
    unfold t_rank
    simpa?! only [e_table, tabD_eq]
    refine ⟨hy, by omega, ?_⟩
    refine forH_map rowD (tabL y) (fun pre suf e => ∃ c2 c3 c4 : C, e = ⟨[.d (.str y), .d (.ref s.length), c2, c3, c4, .un, .un], s ++ [.lst ((rkGo pre []).map pvD)]⟩ ∧ rkOk n suf (rkGo pre []) = true) ⟨_, _, _, rfl, ok⟩ ?_ ?_
    · rintro e ⟨c2, c3, c4, rfl, _⟩
      simpa?! only []
      refine opt_of (rvLS_one get_snoc) ?_
      simpa?! only []
      rw [List.length_map]
      exact q _
    · rintro pre r suf e hp ⟨c2, c3, c4, rfl, ok1⟩ N hN
      rw [rkGo_one] at hN
      have pl := rkGo_len pre []
      have ppl : pre.length < n := by rw [← hn, ← hp]; simp
      simp only [List.length_nil, Nat.zero_add] at pl
      unfold rkOk at ok1
      simp only [Bool.and_eq_true] at ok1
      generalize rkGo pre [] = ps at ok1 hN pl
      obtain ⟨o1, o2⟩ := ok1
      have cl := clr_len o1
      simpa?! only [rowD, e_cleared]
      refine ⟨n, r, ps, rfl, get_snoc, by omega, o1, ?_⟩
      generalize clr r ps = L at hN cl o2
      simpa?! only [enF_map]
      refine ⟨by rw [List.length_map, enF_len]; omega, ?_⟩
      refine lcH_fm (l := enF 0 L) (g0 := fun p => .tup [.int (p.1 : Nat), .int p.2]) (fun p => decide (p.2 ≠ 0)) (fun p => .int (p.1 : Nat)) (fun p hp K k => ?_) ?_
      · simpa?! only []
        by_cases z : p.2 = 0
        · rw [if_neg (by simpa using z)] at k
          refine br_neg (by rw [decide_eq_true z]; rfl) ?_
          exact k
        · rw [if_pos (by simpa using z)] at k
          refine br_pos (by rw [decide_eq_false z]; rfl) ?_
          simpa?! only []
          exact k
      · have pe : ((enF 0 L).filter fun p => decide (p.2 ≠ 0)).map (fun p => D.int (p.1 : Nat)) = (plc L).map kD_ := by
          unfold plc
          rw [List.map_map]
          rfl
        rw [pe]
        simpa?! only []
        unfold rkNext at hN o2
        rw [List.length_map]
        cases hpl : plc L with
        | nil =>
          rw [hpl] at hN o2
          refine br_neg (by rfl) ?_
          simpa?! only []
          exact hN _ ⟨_, _, _, rfl, o2⟩
        | cons k0 ks =>
          rw [hpl] at hN o2
          refine br_pos (by simp) ?_
          simpa?! only []
          refine ⟨by rw [mg_of get_snoc]; rfl, at_head rfl ?_⟩
          simpa?! only []
          rw [mg_of get_snoc]
          simpa?! only [x_msr, set_snoc]
          refine ⟨by rw [List.length_map]; omega, ?_⟩
          have hN : ∀ e', (∃ c2 c3 c4 : C, e' = ⟨[.d (.str y), .d (.ref s.length), c2, c3, c4, .un, .un], s ++ [.lst ((ps ++ [(k0, L)]).map pvD)]⟩ ∧ rkOk n suf (ps ++ [(k0, L)]) = true) → N e' := hN
          rw [List.map_append] at hN
          exact hN _ ⟨_, _, _, rfl, o2⟩
  · exact h.elim
set_option maxRecDepth 100000
set_option maxHeartbeats 1000000
def lsD (r : List Int) : D := .lst (r.map D.int)
theorem eq_ints : ∀ a b : List Int, D.eqL (a.map D.int) (b.map D.int) = decide (a = b)
  | [], [] => by simp [eL_nn]
  | [], y :: b => by simp [D.eqL]
  | x :: a, [] => by simp [D.eqL]
  | x :: a, y :: b => by
    rw [List.map_cons, List.map_cons, eL_cc, eq_ints a b, e_ii]
    rw [Bool.eq_iff_iff]
    simp
theorem eq_lsD (a b : List Int) : D.eq (lsD a) (lsD b) = decide (a = b) := eq_ints a b
theorem erase_rows {f : List Int} : ∀ {rows : List (List Int)}, f ∈ rows → (rows.map lsD).eraseIdx (ixD (lsD f) (rows.map lsD)) = (rows.erase f).map lsD
  | [], h => by cases h
  | r :: rows, h => by
    rw [List.map_cons, ixD, eq_lsD]
    by_cases e : r = f
    · subst e
      rw [if_pos (by simp), List.erase_cons_head]
      rfl
    · rw [if_neg (by simp [e]), List.erase_cons_tail (by simpa using e)]
      rcases List.mem_cons.mp h with h | h
      · exact absurd h.symm e
      · rw [List.eraseIdx_cons_succ, erase_rows h, List.map_cons]
theorem lfGo_app : ∀ (ks js : List Nat) (t : List (List Int) × Nat), lfGo (ks ++ js) t = lfGo js (lfGo ks t)
  | [], _, _ => rfl
  | k :: ks, js, t => lfGo_app ks js (lfStep k t)
def m_law_left : PM := fun ds st Q => match ds with
  | [.tup rs] => ∃ T : List (List Int), rs = T.map rowD ∧ T.length ≤ 8 ∧ chkT T = true ∧ ∀ s', Q (.d (.int (lf T : Nat))) s'
  | _ => False
theorem e_lleft {rs s Q} : m_law_left [.tup rs] s Q = ∃ T : List (List Int), rs = T.map rowD ∧ T.length ≤ 8 ∧ chkT T = true ∧ ∀ s', Q (.d (.int (lf T : Nat))) s' := rfl
def t_law_left : PTS := sSeq (sAsgK 0 (cLc (iAny (tName 0)) (gName 4) (cYes) (tCallP pList (rCons (tName 4) (rNil))) [4])) (sSeq (sAsg 1 (tD (.int 0))) (sSeq (sFor (iPure pRng1 (rCons (tCallPS pLen (rCons (tName 0) (rNil))) (rNil))) (gName 2) (sSeq (sAsg 3 (cLcL (tName 0) (gName 4) (tB (t2 (t2 (tName 4) (tName 2) pIx) (tD (.int 0)) pNe)) (tName 4) [4])) (sIf (tB (t2 (tName 3) (tLst (tNil)) pNe)) (sSeq (sAsg 1 (t2 (tName 1) (tD (.int 1)) pAdd)) (sSeq (sAsg 5 (t2 (tName 3) (tD (.int 0)) pIx)) (sSeq (sDrop (tMut mRemD (tName 0) (tCons (tName 5) (tNil)))) (sAsgK 0 (cLcL (tName 0) (gName 4) (cYes) (cLc (iZipP (rCons (tName 4) (rCons (tName 5) (rNil)))) (gTup 2 (gCons (gName 6) (gCons (gName 7) (gNil)))) (cYes) (t2 (t2 (tName 6) (t2 (tName 5) (tName 2) pIx) pMul) (t2 (tName 7) (t2 (tName 4) (tName 2) pIx) pMul) pSub) [6, 7]) [4]))))) (sNext)))) (sRet (tName 1))))
abbrev N_law_left : List Str := ["_law_rows", "_law_many", "_law_at", "_law_some", "_law_row", "_law_first", "_law_a", "_law_b"]
theorem len_law_left (ds : List D) (s : Sto) (Q : C → Sto → Prop) (h : m_law_left ds s Q) : ds.length = 1 := by
  unfold m_law_left at h
  split at h
  · rfl
  · exact h.elim
theorem p_law_left (ds : List D) (s : Sto) (Q : C → Sto → Prop) (h : m_law_left ds s Q) : t_law_left noX { nx := fun e => Q (.d .non) e.st, rt := fun c e => Q c e.st } ⟨startC N_law_left ds, s⟩ := by
  unfold m_law_left at h
  split at h
  · rename_i rs
    obtain ⟨T, rfl, tl, ck, q⟩ := h
    unfold chkT at ck
    simp only [Bool.and_eq_true] at ck
    have ok := ck.1.1.2
    generalize hn : T.length = n at ok tl
    unfold t_law_left
    simpa?! only []
    refine ⟨by rw [List.length_map]; omega, ?_⟩
    refine lcH_mm (l := T) (g0 := rowD) lsD (fun r hr K k => ?_) ?_
    · simpa?! only [rowD]
      exact k
    · simpa?! only []
      refine opt_of (rvLS_one get_snoc) ?_
      simpa?! only []
      refine ⟨⟨by omega, by rw [List.length_map]; omega⟩, ?_⟩
      rw [List.length_map, Int.toNat_natCast, hn]
      refine forH_rng 0 n (fun j e => ∃ (k : Nat) (st : Sto) (c2 c3 c5 : C), e = ⟨[.d (.ref k), .d (.int ((lfGo (List.range j) (T, 0)).2 : Nat)), c2, c3, .un, c5, .un, .un], st⟩ ∧ st[k]? = some (.lst ((lfGo (List.range j) (T, 0)).1.map lsD)) ∧ (lfGo (List.range j) (T, 0)).1.length ≤ 8 ∧ (lfGo (List.range j) (T, 0)).2 ≤ j ∧ lfOk n (List.range' j (n - j)) (lfGo (List.range j) (T, 0)) = true) ⟨_, _, _, _, _, rfl, get_snoc, by show T.length ≤ 8; omega, Nat.le_refl _, by rw [← List.range_eq_range']; exact ok⟩ ?_ ?_
      · rintro e ⟨k, st, c2, c3, c5, rfl, _, _, _, _⟩
        simpa?! only []
        unfold lf at q
        rw [hn] at q
        exact q _
      · rintro j e hj ⟨k, st, c2, c3, c5, rfl, h1, h2, h3, h4⟩ N hN
        have e1 : lfGo (List.range (j + 1)) (T, 0) = lfStep j (lfGo (List.range j) (T, 0)) := by rw [List.range_succ, lfGo_app]; rfl
        have e2 : List.range' j (n - j) = j :: List.range' (j + 1) (n - (j + 1)) := by rw [show n - j = (n - (j + 1)) + 1 by omega]; rfl
        rw [e1] at hN
        rw [e2] at h4
        generalize lfGo (List.range j) (T, 0) = t at h1 h2 h3 h4 hN
        obtain ⟨rows, many⟩ := t
        unfold lfOk at h4
        rw [Bool.and_eq_true, List.all_eq_true] at h4
        obtain ⟨sm, h4⟩ := h4
        have h1 : st[k]? = some (.lst (rows.map lsD)) := h1
        have ej : (0 : Int) + (j : Nat) = (j : Nat) := by omega
        simpa?! only []
        rw [ej]
        refine opt_of (refL_of h1) ?_
        simpa?! only []
        have h2 : rows.length ≤ 8 := h2
        have h3 : many ≤ j := h3
        have sm : ∀ x ∈ rows, x.length = n ∧ ∀ z ∈ x, -(2 ^ 60) < z ∧ z < 2 ^ 60 := fun x hx => smL_of (sm x hx)
        refine ⟨by rw [List.length_map]; omega, ?_⟩
        refine lcLH_fm (l := rows) (g0 := lsD) (fun r => decide (r.getD j 0 ≠ 0)) lsD h1 (fun r hr K kk => ?_) ?_
        · have rl := (sm r hr).1
          simpa?! only [lsD]
          refine opt_of (ix_int (by omega)) ?_
          simpa?! only []
          by_cases z : r.getD j 0 = 0
          · rw [if_neg (by simpa using z)] at kk
            refine br_neg (by rw [decide_eq_true z]; rfl) ?_
            exact kk
          · rw [if_pos (by simpa using z)] at kk
            refine br_pos (by rw [decide_eq_false z]; rfl) ?_
            simpa?! only []
            exact kk
        · simpa?! only []
          cases hf : rows.filter fun r => decide (r.getD j 0 ≠ 0) with
          | nil =>
            have es : lfStep j (rows, many) = (rows, many) := by unfold lfStep; simp only [hf]
            rw [es] at hN h4
            simpa?! only []
            exact hN _ ⟨k, st, _, _, _, rfl, h1, h2, Nat.le_succ_of_le h3, h4⟩
          | cons f fs =>
            have es : lfStep j (rows, many) = ((rows.erase f).map (lfRow f j), many + 1) := by unfold lfStep; simp only [hf]
            rw [es] at hN h4
            have fm : f ∈ rows := (List.mem_filter.mp (show f ∈ rows.filter fun r => decide (r.getD j 0 ≠ 0) by rw [hf]; simp)).1
            have ok1 : ∀ (r : List Int) m, (lsD r).ok (m + 2) = true := fun r m => okL_map fun _ _ => rfl
            have okr : ∀ (l : List (List Int)) m, D.okL (l.map lsD) (m + 2) = true := fun l m => okL_map fun x _ => ok1 x m
            have any1 : ((rows.map lsD).any fun z => D.eq z (lsD f)) = true := by
              rw [List.any_eq_true]
              exact ⟨lsD f, List.mem_map.mpr ⟨f, fm, rfl⟩, by rw [eq_lsD]; simp⟩
            have fl := sm f fm
            simpa?! only []
            refine ⟨by rw [ok1, okr fs]; rfl, at_head rfl ?_⟩
            simpa?! only []
            rw [mg_of h1]
            refine ⟨rfl, ?_⟩
            simpa?! only [x_remD]
            refine ⟨ok1 f _, okr rows _, any1, ?_⟩
            rw [erase_rows fm]
            have kl : k < st.length := (List.getElem?_eq_some_iff.mp h1).1
            have h1' : (st.set k (.lst ((rows.erase f).map lsD)))[k]? = some (.lst ((rows.erase f).map lsD)) := by rw [List.getElem?_set_self kl]
            have el : (rows.erase f).length ≤ rows.length := List.length_erase_le
            simpa?! only [x_msr]
            refine opt_of (refL_of h1') ?_
            simpa?! only []
            refine ⟨by rw [List.length_map]; omega, ?_⟩
            refine lcLH_mm (l := rows.erase f) (g0 := lsD) (fun r => lsD (lfRow f j r)) h1' (fun r hr K kk => ?_) ?_
            · have rl := sm r (List.mem_of_mem_erase hr)
              have gm : ∀ {l : List Int} {i : Nat}, i < l.length → l.getD i 0 ∈ l := fun {l i} h => by
                rw [List.getD_eq_getElem?_getD, List.getElem?_eq_getElem h]
                exact List.getElem_mem h
              have b1 := rl.2 _ (gm (i := j) (by omega))
              have b2 := fl.2 _ (gm (i := j) (by omega))
              have el2 : lfRow f j r = (r.zip f).map fun p => p.1 * f.getD j 0 - p.2 * r.getD j 0 := by unfold lfRow; rw [zipW_map]
              rw [el2] at kk
              unfold lsD at kk
              rw [List.map_map] at kk
              simpa?! only [lsD, zip_ints]
              refine ⟨fun d hd => by obtain ⟨_, _, rfl⟩ := List.mem_map.mp hd; rfl, by rw [List.length_map, List.length_zip]; omega, ?_⟩
              refine lcH_mm (l := r.zip f) (g0 := fun p => .tup [.int p.1, .int p.2]) (fun p => .int (p.1 * f.getD j 0 - p.2 * r.getD j 0)) (fun p hp K2 k2 => ?_) ?_
              · have m1 := rl.2 _ (List.of_mem_zip hp).1
                have m2 := fl.2 _ (List.of_mem_zip hp).2
                simpa?! only []
                refine opt_of (ix_int (by omega)) ?_
                simpa?! only []
                refine ⟨cmul_l _ _ (by omega) (by omega), ?_⟩
                refine opt_of (ix_int (by omega)) ?_
                simpa?! only []
                exact ⟨cmul_l _ _ (by omega) (by omega), k2⟩
              · simpa?! only []
                exact kk
            · simpa?! only []
              refine hN _ ⟨_, _, _, _, _, rfl, ?_, by show (List.map _ _).length ≤ 8; rw [List.length_map]; omega, by show many + 1 ≤ j + 1; omega, h4⟩
              rw [get_snoc]
              show _ = some (SO.lst (List.map lsD (List.map (lfRow f j) (rows.erase f))))
              rw [List.map_map]
              rfl
  · exact h.elim
set_option maxRecDepth 100000
set_option maxHeartbeats 1000000
theorem nt_ringL (w : List Nat) (A : Nat) : nt (ringL w) A = nt w A := by
  by_cases e : w = []
  · subst e; rfl
  · obtain ⟨k, _, hr⟩ := ringL_rot e
    rw [hr]
    unfold nt rot
    rw [(List.perm_append_comm (l₁ := w.drop k) (l₂ := w.take k)).count_eq, (List.perm_append_comm (l₁ := w.drop k) (l₂ := w.take k)).count_eq, List.take_append_drop]
theorem crs_rims {y : List Nat} (hy : YardOk y) (h2 : 2 ≤ y.length) {v : List Nat} (hv : v ∈ rimsL y) (w : List Nat) : crs y v w = 0 := by
  unfold rimsL at hv
  obtain ⟨x, hx, rfl⟩ := List.mem_map.mp (srt_mem.mp hv)
  exact crs_rim hy h2 (reps_mem _ hx) (fun a => nt_ringL _ a) w
def tE (y : List Nat) (a b : Nat) : Int := ((tabL y).getD a []).getD b 0
theorem tE_get {y : List Nat} {a : Nat} (ha : a < (tabL y).length) : (tabL y).getD a [] = (bandW y).map (lac y ((bandW y).getD a 0)) := by
  unfold tabL at *
  rw [List.length_map] at ha
  rw [List.getD_eq_getElem?_getD, List.getElem?_map, List.getElem?_eq_getElem ha, List.getD_eq_getElem?_getD, List.getElem?_eq_getElem ha]
  rfl
theorem tE_lac {y : List Nat} {a b : Nat} (ha : a < (tabL y).length) (hb : b < (tabL y).length) : tE y a b = lac y ((bandW y).getD a 0) ((bandW y).getD b 0) := by
  unfold tE
  rw [tE_get ha]
  have hb : b < (bandW y).length := by unfold tabL at hb; rwa [List.length_map] at hb
  rw [List.getD_eq_getElem?_getD, List.getElem?_map, List.getElem?_eq_getElem hb, List.getD_eq_getElem?_getD (l := bandW y) (i := b), List.getElem?_eq_getElem hb]
  rfl
theorem tE_anti {y : List Nat} (hy : YardOk y) {a b : Nat} (ha : a < (tabL y).length) (hb : b < (tabL y).length) : tE y a b = 0 - tE y b a := by
  rw [tE_lac ha hb, tE_lac hb ha]
  have m : ∀ {i : Nat}, i < (tabL y).length → (bandW y).getD i 0 ∈ bandW y := fun {i} h => by
    have h : i < (bandW y).length := by unfold tabL at h; rwa [List.length_map] at h
    rw [List.getD_eq_getElem?_getD, List.getElem?_eq_getElem h]
    exact List.getElem_mem h
  have := lac_anti hy (m ha) (m hb)
  omega
theorem ix_row {y : List Nat} {a : Nat} (ha : a < (tabL y).length) : atI ((tabL y).map rowD) (a : Int) = some (rowD ((tabL y).getD a [])) := by
  refine atI_nat ?_
  rw [List.getElem?_map, List.getElem?_eq_getElem ha, List.getD_eq_getElem?_getD, List.getElem?_eq_getElem ha]
  rfl
theorem row_len {y : List Nat} {a : Nat} (ha : a < (tabL y).length) : ((tabL y).getD a []).length = (tabL y).length := by
  rw [tE_get ha]
  unfold tabL
  rw [List.length_map, List.length_map]
def m_law_right : PM := fun ds st Q => match ds with
  | [.str y, .lst ws] => YardOk y ∧ 2 ≤ y.length ∧ y.length ≤ 8 ∧ (∃ W : List (List Nat), ws = W.map D.str ∧ W.length ≤ 64 ∧ ∀ w ∈ W, w.length ≤ 64) ∧ ∀ s', Q (.d (.bl true)) s'
  | _ => False
theorem e_lright {y ws s Q} : m_law_right [.str y, .lst ws] s Q = (YardOk y ∧ 2 ≤ y.length ∧ y.length ≤ 8 ∧ (∃ W : List (List Nat), ws = W.map D.str ∧ W.length ≤ 64 ∧ ∀ w ∈ W, w.length ≤ 64) ∧ ∀ s', Q (.d (.bl true)) s') := rfl
def t_law_right : PTS := sSeq (sAsg 2 (tCall0 m_table (tCons (tName 0) (tNil)))) (sSeq (sAsg 3 (tCall0 m_rank (tCons (tName 0) (tNil)))) (sSeq (sIf (tOr (tB (tIsi "bool" (tName 3))) (tOr (tB (t2 (tName 3) (t2 (tD (.int 2)) (tCall0 m_handles (tCons (tName 0) (tNil))) pMul) pNe)) (tB (t2 (tName 3) (tCall0 m_law_left (tCons (tName 2) (tNil))) pNe)))) (sRet (tD (.bl false))) (sNext)) (sSeq (sFor (iPure pRng1 (rCons (tCallP pLen (rCons (tName 2) (rNil))) (rNil))) (gName 4) (sIf (tB (t2 (cLc (iPure pRng1 (rCons (tCallP pLen (rCons (tName 2) (rNil))) (rNil))) (gName 6) (cYes) (t2 (t2 (tName 2) (tName 4) pIx) (tName 6) pIx) [6]) (cLc (iPure pRng1 (rCons (tCallP pLen (rCons (tName 2) (rNil))) (rNil))) (gName 6) (cYes) (t2 (tD (.int 0)) (t2 (t2 (tName 2) (tName 6) pIx) (tName 4) pIx) pSub) [6]) pNe)) (sRet (tD (.bl false))) (sNext))) (sSeq (sFor (iAny (tCall0 m_rims (tCons (tName 0) (tNil)))) (gName 5) (sIf (tNot (tB (tCallP pAll (rCons (cLc (iAny (tName 1)) (gName 7) (cYes) (t2 (tCall0 m_crossed (tCons (tName 0) (tCons (tName 5) (tCons (tName 7) (tNil))))) (tD (.int 0)) pEq) [7]) (rNil))))) (sRet (tD (.bl false))) (sNext))) (sRet (tD (.bl true)))))))
abbrev N_law_right : List Str := ["_law_yard_here", "_law_words", "_law_rows", "_law_many", "_law_x", "_law_rim", "_law_y", "_law_word_here"]
theorem len_law_right (ds : List D) (s : Sto) (Q : C → Sto → Prop) (h : m_law_right ds s Q) : ds.length = 2 := by
  unfold m_law_right at h
  split at h
  · rfl
  · exact h.elim
theorem p_law_right (ds : List D) (s : Sto) (Q : C → Sto → Prop) (h : m_law_right ds s Q) : t_law_right noX { nx := fun e => Q (.d .non) e.st, rt := fun c e => Q c e.st } ⟨startC N_law_right ds, s⟩ := by
  unfold m_law_right at h
  split at h
  · rename_i y ws
    obtain ⟨hy, h2, h8, ⟨W, rfl, wl, wl2⟩, q⟩ := h
    obtain ⟨ck, rh⟩ := rank_hands hy h2 h8
    have tl : (tabL y).length ≤ 8 := by unfold tabL; rw [List.length_map]; have := band_len y; omega
    have lr : lf (tabL y) = rk (tabL y) := by
      unfold chkT at ck
      simp only [Bool.and_eq_true, decide_eq_true_eq] at ck
      rw [ck.2, ck.1.2]
    unfold t_law_right
    simpa?! only [e_table, tabD_eq, e_rank]
    refine ⟨hy, by omega, hy, h2, h8, fun o => ?_⟩
    refine opt_of (a := false) (by decide +kernel) ?_
    simpa?! only [e_handles, e_lleft]
    refine ⟨hy, h2, by omega, cmul_l _ _, br_neg (by rw [decide_eq_true rh]; rfl) ?_⟩
    simpa?! only []
    refine ⟨tabL y, rfl, by omega, ck, fun s2 => ?_⟩
    rw [lr]
    simpa?! only []
    refine ⟨⟨by omega, by rw [List.length_map]; omega⟩, ?_⟩
    rw [List.length_map, Int.toNat_natCast]
    refine forH_rng 0 _ (fun j e => ∃ c4 : C, e = ⟨[.d (.str y), .d (.lst (W.map D.str)), .d (.tup ((tabL y).map rowD)), .d (.int (rk (tabL y) : Nat)), c4, .un, .un, .un], s2⟩) ⟨_, rfl⟩ ?_ ?_
    · rintro e ⟨c4, rfl⟩
      simpa?! only [e_rims]
      refine ⟨hy, h2, by omega, ?_⟩
      refine forH_map D.str (rimsL y) (fun _ _ e => ∃ c4 c5 : C, e = ⟨[.d (.str y), .d (.lst (W.map D.str)), .d (.tup ((tabL y).map rowD)), .d (.int (rk (tabL y) : Nat)), c4, c5, .un, .un], s2⟩) ⟨_, _, rfl⟩ ?_ ?_
      · rintro e ⟨c4, c5, rfl⟩
        simpa?! only []
        exact q _
      · rintro pre v suf e hp ⟨c4, c5, rfl⟩ N hN
        have hv : v ∈ rimsL y := by rw [← hp]; simp
        have vl := (rimsL_mem hy h2 hv).2
        simpa?! only []
        refine ⟨by rw [List.length_map]; omega, ?_⟩
        refine lcH_mm (l := W) (g0 := D.str) (fun _ => .bl true) (fun w hw K k => ?_) ?_
        · simpa?! only [e_crossed]
          refine ⟨hy, by omega, by omega, wl2 w hw, ?_⟩
          rw [crs_rims hy h2 hv]
          exact k
        · simpa?! only []
          refine allH_true (fun d hd => ?_) ?_
          · obtain ⟨_, _, rfl⟩ := List.mem_map.mp hd
            rfl
          · simpa?! only []
            exact hN _ ⟨_, _, rfl⟩
    · rintro j e hj ⟨c4, rfl⟩ N hN
      simpa?! only []
      have ej : (0 : Int) + (j : Nat) = (j : Nat) := by omega
      rw [ej]
      refine ⟨⟨by omega, by rw [List.length_map]; omega⟩, by rw [rngI_length, List.length_map]; omega, ?_⟩
      have er : rngI 0 (Int.toNat (((tabL y).map rowD).length : Nat)) = (List.range (tabL y).length).map fun i => .int (0 + (i : Nat)) := by rw [List.length_map, Int.toNat_natCast]; rfl
      rw [er]
      refine lcH_mm (fun i => .int (tE y j i)) (fun i hi K k => ?_) ?_
      · have hi := List.mem_range.mp hi
        have ei : (0 : Int) + (i : Nat) = (i : Nat) := by omega
        simpa?! only []
        rw [ei]
        refine opt_of (ix_row hj) ?_
        simpa?! only [rowD]
        refine opt_of (ix_int (by rw [row_len hj]; exact hi)) ?_
        simpa?! only []
        exact k
      · simpa?! only []
        rw [er]
        refine ⟨⟨by omega, by rw [List.length_map]; omega⟩, by rw [List.length_map, List.length_range]; omega, ?_⟩
        refine lcH_mm (fun i => .int (0 - tE y i j)) (fun i hi K k => ?_) ?_
        · have hi := List.mem_range.mp hi
          have ei : (0 : Int) + (i : Nat) = (i : Nat) := by omega
          simpa?! only []
          rw [ei]
          refine opt_of (ix_row hi) ?_
          simpa?! only [rowD]
          refine opt_of (ix_int (by rw [row_len hi]; exact hj)) ?_
          simpa?! only []
          exact k
        · have ea : ((List.range (tabL y).length).map fun i => D.int (0 - tE y i j)) = (List.range (tabL y).length).map fun i => D.int (tE y j i) := List.map_congr_left fun i hi => by rw [← tE_anti hy hj (List.mem_range.mp hi)]
          rw [ea]
          simpa?! only []
          have okm : ∀ m, D.okL ((List.range (tabL y).length).map fun i => D.int (tE y j i)) m = true := fun m => okL_map fun _ _ => rfl
          have eq1 : D.eqL ((List.range (tabL y).length).map fun i => D.int (tE y j i)) ((List.range (tabL y).length).map fun i => D.int (tE y j i)) = true := by
            have := eq_ints ((List.range (tabL y).length).map fun i => tE y j i) ((List.range (tabL y).length).map fun i => tE y j i)
            rw [List.map_map] at this
            have this : D.eqL ((List.range (tabL y).length).map fun i => D.int (tE y j i)) ((List.range (tabL y).length).map fun i => D.int (tE y j i)) = _ := this
            rw [this]
            simp
          refine ⟨okm _, okm _, br_neg (by rw [eq1]; rfl) ?_⟩
          simpa?! only []
          exact hN _ ⟨_, rfl⟩
  · exact h.elim
theorem words_of {α : Type} : ∀ {as : List α} {ys : List D}, All2 (fun _ d => ∃ w : List Nat, d = .str w ∧ w.length ≤ 8) as ys → ∃ W : List (List Nat), ys = W.map D.str ∧ W.length = as.length ∧ ∀ w ∈ W, w.length ≤ 8
  | [], _, .nil => ⟨[], rfl, rfl, by simp⟩
  | _ :: as, _, .cons ⟨w, e, hw⟩ h => by
    obtain ⟨W, e1, hl, hW⟩ := words_of h
    refine ⟨w :: W, by rw [e, e1]; rfl, by simp [hl], fun d hd => ?_⟩
    rcases List.mem_cons.mp hd with rfl | hd
    · exact hw
    · exact hW d hd
def m_law : PM := fun ds st Q => match ds with
  | [.scr n] => n ≤ 63 ∧ ∀ s', Q (.d (.bl true)) s'
  | _ => False
def t_law : PTS := sSeq (sFor (iPure pRng1 (rCons (t2 (tD (.int 3)) (tCallP pLen (rCons (tSl (tName 0) (oSome (tD (.int 3))) (oSome (tD (.int 12)))) (rNil))) pAdd) (rNil))) (gName 1) (sSeq (sAsg 2 (tCall0 m_law_box (tCons (tName 0) (tCons (tName 1) (tNil))))) (sSeq (sAsg 3 (tCall0 m_law_yard (tCons (tName 2) (tCons (tD (.int 1)) (tCons (tD (.int 4)) (tNil)))))) (sIf (tNot (tB (tCall0 m_law_right (tCons (tName 3) (tCons (cLc (iPure pRng1 (rCons (tD (.int 3)) (rNil))) (gName 4) (cYes) (tCall0 m_law_word (tCons (tName 2) (tCons (tName 3) (tCons (tD (.int 8)) (tNil))))) [4]) (tNil)))))) (sRet (tD (.bl false))) (sNext))))) (sRet (tD (.bl true)))
abbrev N_law : List Str := ["_law_script", "_law_k", "_law_box_here", "_law_yard_here", "_law_turn"]
theorem len_law (ds : List D) (s : Sto) (Q : C → Sto → Prop) (h : m_law ds s Q) : ds.length = 1 := by
  unfold m_law at h
  split at h
  · rfl
  · exact h.elim
theorem law_m (n : Nat) (s : Sto) (Q : C → Sto → Prop) (h : n ≤ 63) (q : ∀ s', Q (.d (.bl true)) s') : m_law [.scr n] s Q := ⟨h, q⟩
theorem p_law (ds : List D) (s : Sto) (Q : C → Sto → Prop) (h : m_law ds s Q) : t_law noX { nx := fun e => Q (.d .non) e.st, rt := fun c e => Q c e.st } ⟨startC N_law ds, s⟩ := by
  unfold m_law at h
  split at h
  · rename_i n
    obtain ⟨hn, q⟩ := h
    unfold t_law
    simpa?! only []
    intro ns hns
    have hnl : ns.length ≤ 63 := by
      have := cut_length (List.range n) (some 3) (some 12)
      rw [List.length_range] at this
      omega
    rw [List.length_map]
    refine ⟨⟨by omega, by omega⟩, ?_⟩
    refine forH_rng 0 _ (fun j e => ∃ (st : Sto) (c1 c2 c3 : C), e = ⟨[.d (.scr n), c1, c2, c3, .un], st⟩) ⟨_, _, _, _, rfl⟩ ?_ ?_
    · rintro e ⟨st, c1, c2, c3, rfl⟩
      simpa?! only []
      exact q _
    · rintro j e hj ⟨st, c1, c2, c3, rfl⟩ N hN
      simpa?! only [e_box, e_yard]
      refine ⟨by omega, by omega, fun y hy y0 y1 => ⟨by rw [rngI_length]; omega, ?_⟩⟩
      refine lcH_rel (fun _ d => ∃ w : List Nat, d = .str w ∧ w.length ≤ 8) (fun d hd K k => ?_) fun ys hys => ?_
      · obtain ⟨i, hi, rfl⟩ := rngI_mem hd
        simpa?! only [e_word]
        refine ⟨fun z => by subst z; simp at y0, by omega, fun w _ hw => k _ ⟨w, rfl, by omega⟩⟩
      · obtain ⟨W, rfl, wl, wl2⟩ := words_of hys
        rw [rngI_length] at wl
        simpa?! only [e_lright]
        refine ⟨hy, by omega, by omega, ⟨W, rfl, by omega, fun w hw => Nat.le_trans (wl2 w hw) (by decide)⟩, fun s' => ?_⟩
        exact hN _ ⟨_, _, _, _, rfl⟩
  · exact h.elim
end Pu
set_option maxRecDepth 100000
set_option maxHeartbeats 4000000
namespace Lw
open PySem L2 Pu
def top (i : Nat) : Stmt := PySem.Challenge.pw_mustmeet_k85_whole_rank_and_handles.main.body.getD i (.Pass ⟨0, 0, 0, 0⟩)
abbrev s_contrary : Stmt := top 3
def t_contrary : PTS := sRet (t2 (t2 (tD (.str CP)) (tD (.str SM)) pAdd) (tMeth "str" pIndexS (t2 (tD (.str SM)) (tD (.str CP)) pAdd) (rCons (tName 0) (rNil))) pIx)
abbrev N_contrary : List Str := ["letter"]
theorem sc_contrary : FnScope N_contrary ["letter"] (defScope s_contrary) := ⟨rfl, rfl, rfl, by decide +kernel, rfl, by decide +kernel, by decide +kernel⟩
abbrev s_bands : Stmt := top 5
def t_bands : PTS := sRet (tMeth "str" pJoin (tD (.str [])) (rCons (tCallP pSortT (rCons (cLc (iAny (tName 0)) (gName 1) (tB (t2 (tName 1) (tD (.str SM)) (pIn false))) (tName 1) [1]) (rNil))) (rNil)))
abbrev N_bands : List Str := ["yard", "sign"]
theorem sc_bands : FnScope N_bands ["yard"] (defScope s_bands) := ⟨rfl, rfl, rfl, by decide +kernel, rfl, by decide +kernel, by decide +kernel⟩
abbrev s_goes_round : Stmt := top 6
def t_goes_round : PTS := sSeq (sAsg 4 (tMeth "str" pIndexS (tName 0) (rCons (tName 1) (rNil)))) (sSeq (sAsg 5 (t2 (tSl (tName 0) (oSome (t2 (tName 4) (tD (.int 1)) pAdd)) (oNone)) (tSl (tName 0) (oNone) (oSome (tName 4))) pAdd)) (sRet (t2 (tMeth "str" pIndexS (tName 5) (rCons (tName 2) (rNil))) (tMeth "str" pIndexS (tName 5) (rCons (tName 3) (rNil))) pLt)))
abbrev N_goes_round : List Str := ["yard", "x", "y", "z", "at", "rest"]
theorem sc_goes_round : FnScope N_goes_round ["yard", "x", "y", "z"] (defScope s_goes_round) := ⟨rfl, rfl, rfl, by decide +kernel, rfl, by decide +kernel, by decide +kernel⟩
abbrev s_net : Stmt := top 8
def t_net : PTS := sRet (tCallP pTuple (rCons (cLc (iAny (tCall0 m_bands (tCons (tName 0) (tNil)))) (gName 2) (cYes) (t2 (tMeth "str" pCount (tName 1) (rCons (tName 2) (rNil))) (tMeth "str" pCount (tName 1) (rCons (tCall0 m_contrary (tCons (tName 2) (tNil))) (rNil))) pSub) [2]) (rNil)))
abbrev N_net : List Str := ["yard", "word", "name"]
theorem sc_net : FnScope N_net ["yard", "word"] (defScope s_net) := ⟨rfl, rfl, rfl, by decide +kernel, rfl, by decide +kernel, by decide +kernel⟩
abbrev s_lies_across : Stmt := top 9
def t_lies_across : PTS := sSeq (sIf (tB (t2 (tName 1) (tName 2) pEq)) (sRet (tD (.int 0))) (sNext)) (sSeq (sPar 3 4 (tCons (tCall0 m_contrary (tCons (tName 1) (tNil))) (tCons (tCall0 m_contrary (tCons (tName 2) (tNil))) (tNil)))) (sSeq (sAsg 5 (tCall0 m_goes_round (tCons (tName 0) (tCons (tName 3) (tCons (tName 4) (tCons (tName 1) (tNil))))))) (sSeq (sIf (tB (t2 (tName 5) (tCall0 m_goes_round (tCons (tName 0) (tCons (tName 3) (tCons (tName 2) (tCons (tName 1) (tNil)))))) pEq)) (sRet (tD (.int 0))) (sNext)) (sRet (t2 (tLst (tCons (t1 (tD (.int 1)) pNeg) (tCons (tD (.int 1)) (tNil)))) (tCallP pInt (rCons (tName 5) (rNil))) pIx)))))
abbrev N_lies_across : List Str := ["yard", "x", "y", "low", "high", "comes"]
theorem sc_lies_across : FnScope N_lies_across ["yard", "x", "y"] (defScope s_lies_across) := ⟨rfl, rfl, rfl, by decide +kernel, rfl, by decide +kernel, by decide +kernel⟩
abbrev s_table : Stmt := top 10
def t_table : PTS := sSeq (sAsg 1 (tCall0 m_bands (tCons (tName 0) (tNil)))) (sRet (tCallP pTuple (rCons (cLc (iAny (tName 1)) (gName 2) (cYes) (tCallP pTuple (rCons (cLc (iAny (tName 1)) (gName 3) (cYes) (tCall0 m_lies_across (tCons (tName 0) (tCons (tName 2) (tCons (tName 3) (tNil))))) [3]) (rNil))) [2]) (rNil))))
abbrev N_table : List Str := ["yard", "names", "x", "y"]
theorem sc_table : FnScope N_table ["yard"] (defScope s_table) := ⟨rfl, rfl, rfl, by decide +kernel, rfl, by decide +kernel, by decide +kernel⟩
abbrev s_crossed : Stmt := top 11
def t_crossed : PTS := sSeq (sAsg 3 (tD (.int 0))) (sSeq (sAsg 4 (tCall0 m_net (tCons (tName 0) (tCons (tName 2) (tNil))))) (sSeq (sFor (iZipP (rCons (tCall0 m_net (tCons (tName 0) (tCons (tName 1) (tNil)))) (rCons (tCall0 m_table (tCons (tName 0) (tNil))) (rNil)))) (gTup 2 (gCons (gName 5) (gCons (gName 6) (gNil)))) (sAug 3 (t2 (tName 5) (tCallP pSum (rCons (cLc (iZipP (rCons (tName 4) (rCons (tName 6) (rNil)))) (gTup 2 (gCons (gName 7) (gCons (gName 8) (gNil)))) (cYes) (t2 (tName 7) (tName 8) pMul) [7, 8]) (rNil))) pMul))) (sRet (tName 3))))
abbrev N_crossed : List Str := ["yard", "one", "other", "total", "second", "many", "row", "more", "sign"]
theorem sc_crossed : FnScope N_crossed ["yard", "one", "other"] (defScope s_crossed) := ⟨rfl, rfl, rfl, by decide +kernel, rfl, by decide +kernel, by decide +kernel⟩
abbrev s_cleared : Stmt := top 12
def t_cleared : PTS := sSeq (sAsg 0 (tCallP pList (rCons (tName 0) (rNil)))) (sSeq (sForL (tName 1) (gTup 2 (gCons (gName 2) (gCons (gName 3) (gNil)))) (sIf (tB (t2 (t2 (tName 0) (tName 2) pIx) (tD (.int 0)) pNe)) (sSeq (sAsgG (gTup 2 (gCons (gName 4) (gCons (gName 5) (gNil)))) (tTup (tCons (t2 (tName 3) (tName 2) pIx) (tCons (t2 (tName 0) (tName 2) pIx) (tNil))))) (sAsg 0 (cLc (iZipP (rCons (tName 0) (rCons (tName 3) (rNil)))) (gTup 2 (gCons (gName 6) (gCons (gName 7) (gNil)))) (cYes) (t2 (t2 (tName 6) (tName 4) pMul) (t2 (tName 7) (tName 5) pMul) pSub) [6, 7]))) (sNext))) (sRet (tName 0)))
abbrev N_cleared : List Str := ["row", "pivots", "at", "other", "times", "back", "number", "more"]
theorem sc_cleared : FnScope N_cleared ["row", "pivots"] (defScope s_cleared) := ⟨rfl, rfl, rfl, by decide +kernel, rfl, by decide +kernel, by decide +kernel⟩
abbrev s_rank : Stmt := top 13
def t_rank : PTS := sSeq (sAsgK 1 (tLst (tNil))) (sSeq (sFor (iAny (tCall0 m_table (tCons (tName 0) (tNil)))) (gName 2) (sSeq (sAsg 3 (tCall0 m_cleared (tCons (tName 2) (tCons (tName 1) (tNil))))) (sSeq (sAsg 4 (cLc (iEnumP (rCons (tName 3) (rNil))) (gTup 2 (gCons (gName 5) (gCons (gName 6) (gNil)))) (tB (t2 (tName 6) (tD (.int 0)) pNe)) (tName 5) [5, 6])) (sIf (tB (t2 (tCallP pLen (rCons (tName 4) (rNil))) (tD (.int 0)) pGt)) (sDrop (tMut mAppend (tName 1) (tCons (tTup (tCons (t2 (tName 4) (tD (.int 0)) pIx) (tCons (tName 3) (tNil)))) (tNil)))) (sNext))))) (sRet (tCallPS pLen (rCons (tName 1) (rNil)))))
abbrev N_rank : List Str := ["yard", "pivots", "row", "left", "places", "at", "number"]
theorem sc_rank : FnScope N_rank ["yard"] (defScope s_rank) := ⟨rfl, rfl, rfl, by decide +kernel, rfl, by decide +kernel, by decide +kernel⟩
abbrev s_shortened : Stmt := top 15
def t_shortened : PTS := sSeq (sAsg 1 (tLst (tNil))) (sSeq (sFor (iAny (tName 0)) (gName 2) (sIf (tAnd (tB (t2 (tCallP pLen (rCons (tName 1) (rNil))) (tD (.int 0)) pGt)) (tB (t2 (t2 (tName 1) (t1 (tD (.int 1)) pNeg) pIx) (tCall0 m_contrary (tCons (tName 2) (tNil))) pEq))) (sDrop (tMut mPop (tName 1) tNil)) (sDrop (tMut mAppend (tName 1) (tCons (tName 2) (tNil)))))) (sRet (tMeth "str" pJoin (tD (.str [])) (rCons (tName 1) (rNil)))))
abbrev N_shortened : List Str := ["word", "left", "letter"]
theorem sc_shortened : FnScope N_shortened ["word"] (defScope s_shortened) := ⟨rfl, rfl, rfl, by decide +kernel, rfl, by decide +kernel, by decide +kernel⟩
abbrev s_shortest : Stmt := top 16
def t_shortest : PTS := sSeq (sAsg 1 (tCall0 m_shortened (tCons (tName 0) (tNil)))) (sSeq (sWhile (tAnd (tB (t2 (tCallP pLen (rCons (tName 1) (rNil))) (tD (.int 1)) pGt)) (tB (t2 (t2 (tName 1) (tD (.int 0)) pIx) (tCall0 m_contrary (tCons (t2 (tName 1) (t1 (tD (.int 1)) pNeg) pIx) (tNil))) pEq))) (sAsg 1 (tSl (tName 1) (oSome (tD (.int 1))) (oSome (t1 (tD (.int 1)) pNeg))))) (sRet (tName 1)))
abbrev N_shortest : List Str := ["word", "left"]
theorem sc_shortest : FnScope N_shortest ["word"] (defScope s_shortest) := ⟨rfl, rfl, rfl, by decide +kernel, rfl, by decide +kernel, by decide +kernel⟩
abbrev s_ring : Stmt := top 17
def t_ring : PTS := sSeq (sAsg 1 (tCall0 m_shortest (tCons (tName 0) (tNil)))) (sSeq (sIf (tB (t2 (tName 1) (tD (.str [])) pEq)) (sRet (tD (.str []))) (sNext)) (sRet (tCallP pMin1 (rCons (cLc (iPure pRng1 (rCons (tCallP pLen (rCons (tName 1) (rNil))) (rNil))) (gName 2) (cYes) (t2 (tSl (tName 1) (oSome (tName 2)) (oNone)) (tSl (tName 1) (oNone) (oSome (tName 2))) pAdd) [2]) (rNil)))))
abbrev N_ring : List Str := ["word", "left", "k"]
theorem sc_ring : FnScope N_ring ["word"] (defScope s_ring) := ⟨rfl, rfl, rfl, by decide +kernel, rfl, by decide +kernel, by decide +kernel⟩
abbrev s_rim_from : Stmt := top 19
def t_rim_from : PTS := sSeq (sAsg 2 (tD (.str []))) (sSeq (sAsg 3 (tName 1)) (sSeq (sWhile (tOr (tB (t2 (tName 2) (tD (.str [])) pEq)) (tB (t2 (tName 3) (tName 1) pNe))) (sSeq (sAsg 4 (t2 (tName 0) (t2 (t2 (tName 3) (tD (.int 1)) pAdd) (tCallP pLen (rCons (tName 0) (rNil))) pMod) pIx)) (sSeq (sAsg 2 (t2 (tName 2) (tName 4) pAdd)) (sAsg 3 (tMeth "str" pIndexS (tName 0) (rCons (tCall0 m_contrary (tCons (tName 4) (tNil))) (rNil))))))) (sRet (tName 2))))
abbrev N_rim_from : List Str := ["yard", "at", "found", "here", "end"]
theorem sc_rim_from : FnScope N_rim_from ["yard", "at"] (defScope s_rim_from) := ⟨rfl, rfl, rfl, by decide +kernel, rfl, by decide +kernel, by decide +kernel⟩
abbrev s_rims : Stmt := top 20
def t_rims : PTS := sSeq (sAsg 1 (tLst (tNil))) (sSeq (sAsg 2 (tDict0)) (sSeq (sFor (iPure pRng1 (rCons (tCallP pLen (rCons (tName 0) (rNil))) (rNil))) (gName 3) (sIf (tB (tDI true (tName 3) (tName 2))) (sSeq (sAsg 4 (tCall0 m_rim_from (tCons (tName 0) (tCons (tName 3) (tNil))))) (sSeq (sFor (iAny (tName 4)) (gName 5) (sDPt (tD (.bl true)) (tName 2) (tMeth "str" pIndexS (tName 0) (rCons (tCall0 m_contrary (tCons (tName 5) (tNil))) (rNil))))) (sDrop (tMut mAppend (tName 1) (tCons (tCall0 m_ring (tCons (tName 4) (tNil))) (tNil)))))) (sNext))) (sRet (tCallP pSortT (rCons (tName 1) (rNil))))))
abbrev N_rims : List Str := ["yard", "found", "met", "at", "word", "end"]
theorem sc_rims : FnScope N_rims ["yard"] (defScope s_rims) := ⟨rfl, rfl, rfl, by decide +kernel, rfl, by decide +kernel, by decide +kernel⟩
abbrev s_handles : Stmt := top 21
def t_handles : PTS := sRet (t2 (t2 (t2 (t2 (tCallP pLen (rCons (tName 0) (rNil))) (tD (.int 2)) pFdiv) (tD (.int 1)) pAdd) (tCallP pLen (rCons (tCall0 m_rims (tCons (tName 0) (tNil))) (rNil))) pSub) (tD (.int 2)) pFdiv)
abbrev N_handles : List Str := ["yard"]
theorem sc_handles : FnScope N_handles ["yard"] (defScope s_handles) := ⟨rfl, rfl, rfl, by decide +kernel, rfl, by decide +kernel, by decide +kernel⟩
abbrev s_law_box : Stmt := top 23
def t_law_box : PTS := sSeq (sAsg 2 (t2 (t2 (tD (.int 7919)) (tName 1) pMul) (tD (.int 11)) pAdd)) (sSeq (sIf (tB (t2 (tName 1) (tCallP pLen (rCons (tName 0) (rNil))) pLt)) (sAsg 2 (t2 (tName 0) (tName 1) pIx)) (sIf (tB (t2 (tCallP pLen (rCons (tName 0) (rNil))) (tD (.int 0)) pGt)) (sAsg 2 (t2 (tName 2) (t2 (t2 (t2 (tName 0) (t2 (tName 1) (tCallP pLen (rCons (tName 0) (rNil))) pMod) pIx) (tD (.int 2147483629)) pMod) (tD (.int 69623)) pMul) pAdd)) (sNext))) (sSeq (sAsg 3 (t2 (t2 (t2 (t2 (t2 (tName 2) (tD (.int 2147483629)) pMod) (t2 (tD (.int 104729)) (tName 1) pMul) pAdd) (tD (.int 1)) pAdd) (tD (.int 5)) pPow) (tD (.int 2147483647)) pMod)) (sRet (tLst (tCons (t2 (tLst (tCons (tD (.int 0)) (tCons (tName 2) (tNil)))) (tCallP pInt (rCons (t2 (tName 2) (t2 (tD (.int 10)) (tD (.int 18)) pPow) pGe) (rNil))) pIx) (tCons (t2 (t2 (tName 3) (tD (.int 2147483646)) pMod) (tD (.int 1)) pAdd) (tNil)))))))
abbrev N_law_box : List Str := ["_law_script", "_law_k", "_law_cell", "_law_seed"]
theorem sc_law_box : FnScope N_law_box ["_law_script", "_law_k"] (defScope s_law_box) := ⟨rfl, rfl, rfl, by decide +kernel, rfl, by decide +kernel, by decide +kernel⟩
abbrev s_law_take : Stmt := top 24
def t_law_take : PTS := sSeq (sIf (tB (t2 (t2 (tName 0) (tD (.int 0)) pIx) (tD (.int 0)) pGt)) (sSeq (sAsg 3 (t2 (t2 (tName 0) (tD (.int 0)) pIx) (tName 1) pMod)) (sSeq (sSetIx (t2 (t2 (tName 0) (tD (.int 0)) pIx) (tName 1) pFdiv) (tName 0) (tD (.int 0))) (sRet (tName 3)))) (sNext)) (sSeq (sAsg 2 (t2 (t2 (t2 (tName 0) (tD (.int 1)) pIx) (tD (.int 69623)) pMul) (tD (.int 2147483647)) pMod)) (sSeq (sSetIx (t2 (t2 (t2 (t2 (tName 2) (tD (.int 48271)) pMul) (tD (.int 30103)) pAdd) (tD (.int 2147483629)) pMod) (tD (.int 1)) pAdd) (tName 0) (tD (.int 1))) (sRet (t2 (t2 (t2 (t2 (tName 2) (tD (.int 2147483647)) pMul) (t2 (tName 0) (tD (.int 1)) pIx) pAdd) (tD (.int 8191)) pFdiv) (tName 1) pMod))))
abbrev N_law_take : List Str := ["_law_box_here", "_law_many", "_law_one", "_law_digit"]
theorem sc_law_take : FnScope N_law_take ["_law_box_here", "_law_many"] (defScope s_law_take) := ⟨rfl, rfl, rfl, by decide +kernel, rfl, by decide +kernel, by decide +kernel⟩
abbrev s_law_other : Stmt := top 25
def t_law_other : PTS := sSeq (sAsg 1 (tD (.str SM))) (sSeq (sAsg 2 (tD (.str CP))) (sSeq (sIf (tB (t2 (tName 0) (tName 1) (pIn false))) (sRet (t2 (tName 2) (tMeth "str" pIndexS (tName 1) (rCons (tName 0) (rNil))) pIx)) (sNext)) (sRet (t2 (tName 1) (tMeth "str" pIndexS (tName 2) (rCons (tName 0) (rNil))) pIx))))
abbrev N_law_other : List Str := ["_law_letter", "_law_small", "_law_capital"]
theorem sc_law_other : FnScope N_law_other ["_law_letter"] (defScope s_law_other) := ⟨rfl, rfl, rfl, by decide +kernel, rfl, by decide +kernel, by decide +kernel⟩
abbrev s_law_yard : Stmt := top 26
def t_law_yard : PTS := sSeq (sAsg 3 (tCallP pList (rCons (tD (.str SM)) (rNil)))) (sSeq (sAsg 4 (tLst (tNil))) (sSeq (sFor (iPure pRng1 (rCons (t2 (tName 1) (tCall0 m_law_take (tCons (tName 0) (tCons (t2 (t2 (tName 2) (tName 1) pSub) (tD (.int 1)) pAdd) (tNil)))) pAdd) (rNil))) (gName 5) (sSeq (sAsg 7 (tMut mPopAt (tName 3) (tCons (tCall0 m_law_take (tCons (tName 0) (tCons (tCallP pLen (rCons (tName 3) (rNil))) (tNil)))) (tNil)))) (sAsg 4 (t2 (tName 4) (tLst (tCons (tName 7) (tCons (tCall0 m_law_other (tCons (tName 7) (tNil))) (tNil)))) pAdd)))) (sSeq (sAsg 6 (tD (.str []))) (sSeq (sWhile (tB (t2 (tCallP pLen (rCons (tName 4) (rNil))) (tD (.int 0)) pGt)) (sAsg 6 (t2 (tName 6) (tMut mPopAt (tName 4) (tCons (tCall0 m_law_take (tCons (tName 0) (tCons (tCallP pLen (rCons (tName 4) (rNil))) (tNil)))) (tNil))) pAdd))) (sRet (tName 6))))))
abbrev N_law_yard : List Str := ["_law_box_here", "_law_few", "_law_top", "_law_left_here", "_law_ends", "_law_k", "_law_found", "_law_letter"]
theorem sc_law_yard : FnScope N_law_yard ["_law_box_here", "_law_few", "_law_top"] (defScope s_law_yard) := ⟨rfl, rfl, rfl, by decide +kernel, rfl, by decide +kernel, by decide +kernel⟩
abbrev s_law_word : Stmt := top 27
def t_law_word : PTS := sRet (tMeth "str" pJoin (tD (.str [])) (rCons (cLc (iPure pRng1 (rCons (tCall0 m_law_take (tCons (tName 0) (tCons (t2 (tName 2) (tD (.int 1)) pAdd) (tNil)))) (rNil))) (gName 3) (cYes) (t2 (tName 1) (tCall0 m_law_take (tCons (tName 0) (tCons (tCallP pLen (rCons (tName 1) (rNil))) (tNil)))) pIx) [3]) (rNil)))
abbrev N_law_word : List Str := ["_law_box_here", "_law_yard_here", "_law_top", "_law_k"]
theorem sc_law_word : FnScope N_law_word ["_law_box_here", "_law_yard_here", "_law_top"] (defScope s_law_word) := ⟨rfl, rfl, rfl, by decide +kernel, rfl, by decide +kernel, by decide +kernel⟩
abbrev s_law_left : Stmt := top 28
def t_law_left : PTS := sSeq (sAsgK 0 (cLc (iAny (tName 0)) (gName 4) (cYes) (tCallP pList (rCons (tName 4) (rNil))) [4])) (sSeq (sAsg 1 (tD (.int 0))) (sSeq (sFor (iPure pRng1 (rCons (tCallPS pLen (rCons (tName 0) (rNil))) (rNil))) (gName 2) (sSeq (sAsg 3 (cLcL (tName 0) (gName 4) (tB (t2 (t2 (tName 4) (tName 2) pIx) (tD (.int 0)) pNe)) (tName 4) [4])) (sIf (tB (t2 (tName 3) (tLst (tNil)) pNe)) (sSeq (sAsg 1 (t2 (tName 1) (tD (.int 1)) pAdd)) (sSeq (sAsg 5 (t2 (tName 3) (tD (.int 0)) pIx)) (sSeq (sDrop (tMut mRemD (tName 0) (tCons (tName 5) (tNil)))) (sAsgK 0 (cLcL (tName 0) (gName 4) (cYes) (cLc (iZipP (rCons (tName 4) (rCons (tName 5) (rNil)))) (gTup 2 (gCons (gName 6) (gCons (gName 7) (gNil)))) (cYes) (t2 (t2 (tName 6) (t2 (tName 5) (tName 2) pIx) pMul) (t2 (tName 7) (t2 (tName 4) (tName 2) pIx) pMul) pSub) [6, 7]) [4]))))) (sNext)))) (sRet (tName 1))))
abbrev N_law_left : List Str := ["_law_rows", "_law_many", "_law_at", "_law_some", "_law_row", "_law_first", "_law_a", "_law_b"]
theorem sc_law_left : FnScope N_law_left ["_law_rows"] (defScope s_law_left) := ⟨rfl, rfl, rfl, by decide +kernel, rfl, by decide +kernel, by decide +kernel⟩
abbrev s_law_right : Stmt := top 29
def t_law_right : PTS := sSeq (sAsg 2 (tCall0 m_table (tCons (tName 0) (tNil)))) (sSeq (sAsg 3 (tCall0 m_rank (tCons (tName 0) (tNil)))) (sSeq (sIf (tOr (tB (tIsi "bool" (tName 3))) (tOr (tB (t2 (tName 3) (t2 (tD (.int 2)) (tCall0 m_handles (tCons (tName 0) (tNil))) pMul) pNe)) (tB (t2 (tName 3) (tCall0 m_law_left (tCons (tName 2) (tNil))) pNe)))) (sRet (tD (.bl false))) (sNext)) (sSeq (sFor (iPure pRng1 (rCons (tCallP pLen (rCons (tName 2) (rNil))) (rNil))) (gName 4) (sIf (tB (t2 (cLc (iPure pRng1 (rCons (tCallP pLen (rCons (tName 2) (rNil))) (rNil))) (gName 6) (cYes) (t2 (t2 (tName 2) (tName 4) pIx) (tName 6) pIx) [6]) (cLc (iPure pRng1 (rCons (tCallP pLen (rCons (tName 2) (rNil))) (rNil))) (gName 6) (cYes) (t2 (tD (.int 0)) (t2 (t2 (tName 2) (tName 6) pIx) (tName 4) pIx) pSub) [6]) pNe)) (sRet (tD (.bl false))) (sNext))) (sSeq (sFor (iAny (tCall0 m_rims (tCons (tName 0) (tNil)))) (gName 5) (sIf (tNot (tB (tCallP pAll (rCons (cLc (iAny (tName 1)) (gName 7) (cYes) (t2 (tCall0 m_crossed (tCons (tName 0) (tCons (tName 5) (tCons (tName 7) (tNil))))) (tD (.int 0)) pEq) [7]) (rNil))))) (sRet (tD (.bl false))) (sNext))) (sRet (tD (.bl true)))))))
abbrev N_law_right : List Str := ["_law_yard_here", "_law_words", "_law_rows", "_law_many", "_law_x", "_law_rim", "_law_y", "_law_word_here"]
theorem sc_law_right : FnScope N_law_right ["_law_yard_here", "_law_words"] (defScope s_law_right) := ⟨rfl, rfl, rfl, by decide +kernel, rfl, by decide +kernel, by decide +kernel⟩
abbrev s_law : Stmt := top 30
def t_law : PTS := sSeq (sFor (iPure pRng1 (rCons (t2 (tD (.int 3)) (tCallP pLen (rCons (tSl (tName 0) (oSome (tD (.int 3))) (oSome (tD (.int 12)))) (rNil))) pAdd) (rNil))) (gName 1) (sSeq (sAsg 2 (tCall0 m_law_box (tCons (tName 0) (tCons (tName 1) (tNil))))) (sSeq (sAsg 3 (tCall0 m_law_yard (tCons (tName 2) (tCons (tD (.int 1)) (tCons (tD (.int 4)) (tNil)))))) (sIf (tNot (tB (tCall0 m_law_right (tCons (tName 3) (tCons (cLc (iPure pRng1 (rCons (tD (.int 3)) (rNil))) (gName 4) (cYes) (tCall0 m_law_word (tCons (tName 2) (tCons (tName 3) (tCons (tD (.int 8)) (tNil))))) [4]) (tNil)))))) (sRet (tD (.bl false))) (sNext))))) (sRet (tD (.bl true)))
abbrev N_law : List Str := ["_law_script", "_law_k", "_law_box_here", "_law_yard_here", "_law_turn"]
theorem sc_law : FnScope N_law ["_law_script"] (defScope s_law) := ⟨rfl, rfl, rfl, by decide +kernel, rfl, by decide +kernel, by decide +kernel⟩
structure Tx (K : PySem.W.Frag) (mg : Str → Option Value) where
  f_contrary : Addr
  fd_contrary : FuncData
  d_contrary : DefOk K mg "contrary" s_contrary ["letter"] f_contrary fd_contrary
  f_bands : Addr
  fd_bands : FuncData
  d_bands : DefOk K mg "bands" s_bands ["yard"] f_bands fd_bands
  f_goes_round : Addr
  fd_goes_round : FuncData
  d_goes_round : DefOk K mg "goes_round" s_goes_round ["yard", "x", "y", "z"] f_goes_round fd_goes_round
  f_net : Addr
  fd_net : FuncData
  d_net : DefOk K mg "net" s_net ["yard", "word"] f_net fd_net
  f_lies_across : Addr
  fd_lies_across : FuncData
  d_lies_across : DefOk K mg "lies_across" s_lies_across ["yard", "x", "y"] f_lies_across fd_lies_across
  f_table : Addr
  fd_table : FuncData
  d_table : DefOk K mg "table" s_table ["yard"] f_table fd_table
  f_crossed : Addr
  fd_crossed : FuncData
  d_crossed : DefOk K mg "crossed" s_crossed ["yard", "one", "other"] f_crossed fd_crossed
  f_cleared : Addr
  fd_cleared : FuncData
  d_cleared : DefOk K mg "cleared" s_cleared ["row", "pivots"] f_cleared fd_cleared
  f_rank : Addr
  fd_rank : FuncData
  d_rank : DefOk K mg "rank" s_rank ["yard"] f_rank fd_rank
  f_shortened : Addr
  fd_shortened : FuncData
  d_shortened : DefOk K mg "shortened" s_shortened ["word"] f_shortened fd_shortened
  f_shortest : Addr
  fd_shortest : FuncData
  d_shortest : DefOk K mg "shortest" s_shortest ["word"] f_shortest fd_shortest
  f_ring : Addr
  fd_ring : FuncData
  d_ring : DefOk K mg "ring" s_ring ["word"] f_ring fd_ring
  f_rim_from : Addr
  fd_rim_from : FuncData
  d_rim_from : DefOk K mg "rim_from" s_rim_from ["yard", "at"] f_rim_from fd_rim_from
  f_rims : Addr
  fd_rims : FuncData
  d_rims : DefOk K mg "rims" s_rims ["yard"] f_rims fd_rims
  f_handles : Addr
  fd_handles : FuncData
  d_handles : DefOk K mg "handles" s_handles ["yard"] f_handles fd_handles
  f_law_box : Addr
  fd_law_box : FuncData
  d_law_box : DefOk K mg "_law_box" s_law_box ["_law_script", "_law_k"] f_law_box fd_law_box
  f_law_take : Addr
  fd_law_take : FuncData
  d_law_take : DefOk K mg "_law_take" s_law_take ["_law_box_here", "_law_many"] f_law_take fd_law_take
  f_law_other : Addr
  fd_law_other : FuncData
  d_law_other : DefOk K mg "_law_other" s_law_other ["_law_letter"] f_law_other fd_law_other
  f_law_yard : Addr
  fd_law_yard : FuncData
  d_law_yard : DefOk K mg "_law_yard" s_law_yard ["_law_box_here", "_law_few", "_law_top"] f_law_yard fd_law_yard
  f_law_word : Addr
  fd_law_word : FuncData
  d_law_word : DefOk K mg "_law_word" s_law_word ["_law_box_here", "_law_yard_here", "_law_top"] f_law_word fd_law_word
  f_law_left : Addr
  fd_law_left : FuncData
  d_law_left : DefOk K mg "_law_left" s_law_left ["_law_rows"] f_law_left fd_law_left
  f_law_right : Addr
  fd_law_right : FuncData
  d_law_right : DefOk K mg "_law_right" s_law_right ["_law_yard_here", "_law_words"] f_law_right fd_law_right
  f_law : Addr
  fd_law : FuncData
  d_law : DefOk K mg "law" s_law ["_law_script"] f_law fd_law
  n_all : mg "all" = none
  n_bool : mg "bool" = none
  n_enumerate : mg "enumerate" = none
  n_int : mg "int" = none
  n_isinstance : mg "isinstance" = none
  n_len : mg "len" = none
  n_list : mg "list" = none
  n_min : mg "min" = none
  n_range : mg "range" = none
  n_sorted : mg "sorted" = none
  n_sum : mg "sum" = none
  n_tuple : mg "tuple" = none
  n_zip : mg "zip" = none
  tk_SMALL : Tok
  c_SMALL : mg "SMALL" = some (.str "abcdefghijklmnopqrstuvwxyz" tk_SMALL)
  tk_CAPITALS : Tok
  c_CAPITALS : mg "CAPITALS" = some (.str "ABCDEFGHIJKLMNOPQRSTUVWXYZ" tk_CAPITALS)
section
variable {P : Program} {w : World} {K : PySem.W.Frag} {mg : Str → Option Value} {base : Heap} (T : Tx K mg)
abbrev cls0 (P : Program) (w : World) : Cl := ⟨fun _ => 0, P, w⟩
abbrev flds0 : Nat → List Str := fun _ => []
theorem w_contrary : VSs (fam0 P w K mg base N_contrary "contrary" (defScope s_contrary) T.f_contrary 0 (cls0 P w) flds0) (defBody s_contrary) t_contrary :=
  vss_one (vs_ret (ve_ix (ve_add (ve_globS CP (fun _ => T.c_CAPITALS)) (ve_globS SM (fun _ => T.c_SMALL))) (ve_indexS (ve_add (ve_globS SM (fun _ => T.c_SMALL)) (ve_globS CP (fun _ => T.c_CAPITALS))) (vr_cons (ve_name 0) (vr_nil)))))
theorem ok_contrary : FnG P w K mg base CX0 1 T.f_contrary T.fd_contrary ["letter"] (sp0 K (cls0 P w) flds0 m_contrary) := fn0 T.d_contrary.fn sc_contrary (w_contrary T) len_contrary p_contrary
theorem w_bands : VSs (fam0 P w K mg base N_bands "bands" (defScope s_bands) T.f_bands 0 (cls0 P w) flds0) (defBody s_bands) t_bands :=
  vss_one (vs_ret (ve_join (ve_str []) (vr_cons (ve_sortT (fun _ => T.n_sorted) (vr_cons (ve_lc (fun _ => sc_bands.nd) (vi_any (ve_name 0)) (fun _ => blkOk_by (own := [("sign", 1)]) (by show blkC N_bands (defScope s_bands) _ _ = true; decide +kernel)) (vg_name (i := 1) (fun _ => sc_bands.nd)) (vts_one (vt_in (hu_blk hu0) (ve_name 1) (ve_globS SM (fun _ => T.c_SMALL)))) (ve_name 1)) (vr_nil))) (vr_nil))))
theorem ok_bands : FnG P w K mg base CX0 1 T.f_bands T.fd_bands ["yard"] (sp0 K (cls0 P w) flds0 m_bands) := fn0 T.d_bands.fn sc_bands (w_bands T) len_bands p_bands
theorem w_goes_round : VSs (fam0 P w K mg base N_goes_round "goes_round" (defScope s_goes_round) T.f_goes_round 0 (cls0 P w) flds0) (defBody s_goes_round) t_goes_round :=
  vss_cons (vs_set (i := 4) (fun _ => sc_goes_round.nd) (ve_indexS (ve_name 0) (vr_cons (ve_name 1) (vr_nil)))) (vss_cons (vs_set (i := 5) (fun _ => sc_goes_round.nd) (ve_add (ve_slice (ve_name 0) (vo_some (ve_add (ve_name 4) (ve_int))) (vo_none)) (ve_slice (ve_name 0) (vo_none) (vo_some (ve_name 4))))) (vss_one (vs_ret (ve_lt (ve_indexS (ve_name 5) (vr_cons (ve_name 2) (vr_nil))) (ve_indexS (ve_name 5) (vr_cons (ve_name 3) (vr_nil)))))))
theorem ok_goes_round : FnG P w K mg base CX0 1 T.f_goes_round T.fd_goes_round ["yard", "x", "y", "z"] (sp0 K (cls0 P w) flds0 m_goes_round) := fn0 T.d_goes_round.fn sc_goes_round (w_goes_round T) len_goes_round p_goes_round
theorem w_net : VSs (fam0 P w K mg base N_net "net" (defScope s_net) T.f_net 1 (cls0 P w) flds0) (defBody s_net) t_net :=
  vss_one (vs_ret (ve_tuple (fun _ => T.n_tuple) (vr_cons (ve_lc (fun _ => sc_net.nd) (vi_any (ve_call0 (fun _ => ok_bands T) (fun p => p.hr.mono (by decide)) hg0 (fun _ => T.d_bands.g) T.d_bands.fn.kp T.d_bands.b (va_cons (ve_name 0) (va_nil)))) (fun _ => blkOk_by (own := [("name", 2)]) (by show blkC N_net (defScope s_net) _ _ = true; decide +kernel)) (vg_name (i := 2) (fun _ => sc_net.nd)) (vts_nil) (ve_sub (ve_count (ve_name 1) (vr_cons (ve_name 2) (vr_nil))) (ve_count (ve_name 1) (vr_cons (ve_call0 (fun _ => ok_contrary T) (fun p => p.1.hr.mono (by decide)) (hg_blk hg0) (fun _ => T.d_contrary.g) T.d_contrary.fn.kp T.d_contrary.b (va_cons (ve_name 2) (va_nil))) (vr_nil))))) (vr_nil))))
theorem ok_net : FnG P w K mg base CX0 2 T.f_net T.fd_net ["yard", "word"] (sp0 K (cls0 P w) flds0 m_net) := fn0 T.d_net.fn sc_net (w_net T) len_net p_net
theorem w_lies_across : VSs (fam0 P w K mg base N_lies_across "lies_across" (defScope s_lies_across) T.f_lies_across 1 (cls0 P w) flds0) (defBody s_lies_across) t_lies_across :=
  vss_cons (vs_if (vt_eq hu0 (ve_name 1) (ve_name 2)) (vss_one (vs_ret (ve_int))) (vss_nil)) (vss_cons (vs_par (i := 3) (j := 4) (fun _ => sc_lies_across.nd) (va_cons (ve_call0 (fun _ => ok_contrary T) (fun p => p.hr.mono (by decide)) hg0 (fun _ => T.d_contrary.g) T.d_contrary.fn.kp T.d_contrary.b (va_cons (ve_name 1) (va_nil))) (va_cons (ve_call0 (fun _ => ok_contrary T) (fun p => p.hr.mono (by decide)) hg0 (fun _ => T.d_contrary.g) T.d_contrary.fn.kp T.d_contrary.b (va_cons (ve_name 2) (va_nil))) (va_nil)))) (vss_cons (vs_set (i := 5) (fun _ => sc_lies_across.nd) (ve_call0 (fun _ => ok_goes_round T) (fun p => p.hr.mono (by decide)) hg0 (fun _ => T.d_goes_round.g) T.d_goes_round.fn.kp T.d_goes_round.b (va_cons (ve_name 0) (va_cons (ve_name 3) (va_cons (ve_name 4) (va_cons (ve_name 1) (va_nil))))))) (vss_cons (vs_if (vt_eq hu0 (ve_name 5) (ve_call0 (fun _ => ok_goes_round T) (fun p => p.hr.mono (by decide)) hg0 (fun _ => T.d_goes_round.g) T.d_goes_round.fn.kp T.d_goes_round.b (va_cons (ve_name 0) (va_cons (ve_name 3) (va_cons (ve_name 2) (va_cons (ve_name 1) (va_nil))))))) (vss_one (vs_ret (ve_int))) (vss_nil)) (vss_one (vs_ret (ve_ix (ve_lst (va_cons (ve_neg (ve_int)) (va_cons (ve_int) (va_nil)))) (ve_int1 (fun _ => T.n_int) (vr_cons (ve_name 5) (vr_nil)))))))))
theorem ok_lies_across : FnG P w K mg base CX0 2 T.f_lies_across T.fd_lies_across ["yard", "x", "y"] (sp0 K (cls0 P w) flds0 m_lies_across) := fn0 T.d_lies_across.fn sc_lies_across (w_lies_across T) len_lies_across p_lies_across
theorem w_table : VSs (fam0 P w K mg base N_table "table" (defScope s_table) T.f_table 2 (cls0 P w) flds0) (defBody s_table) t_table :=
  vss_cons (vs_set (i := 1) (fun _ => sc_table.nd) (ve_call0 (fun _ => ok_bands T) (fun p => p.hr.mono (by decide)) hg0 (fun _ => T.d_bands.g) T.d_bands.fn.kp T.d_bands.b (va_cons (ve_name 0) (va_nil)))) (vss_one (vs_ret (ve_tuple (fun _ => T.n_tuple) (vr_cons (ve_lc (fun _ => sc_table.nd) (vi_any (ve_name 1)) (fun _ => blkOk_by (own := [("x", 2)]) (by show blkC N_table (defScope s_table) _ _ = true; decide +kernel)) (vg_name (i := 2) (fun _ => sc_table.nd)) (vts_nil) (ve_tuple (fun _ => T.n_tuple) (vr_cons (ve_lc (fun _ => sc_table.nd) (vi_any (ve_name 1)) (fun _ => blkOk_by (own := [("y", 3)]) (by show blkC N_table _ _ _ = true; exact rfl)) (vg_name (i := 3) (fun _ => sc_table.nd)) (vts_nil) (ve_call0 (fun _ => ok_lies_across T) (fun p => p.1.1.hr.mono (by decide)) (hg_blk (hg_blk hg0)) (fun _ => T.d_lies_across.g) T.d_lies_across.fn.kp T.d_lies_across.b (va_cons (ve_name 0) (va_cons (ve_name 2) (va_cons (ve_name 3) (va_nil)))))) (vr_nil)))) (vr_nil)))))
theorem ok_table : FnG P w K mg base CX0 3 T.f_table T.fd_table ["yard"] (sp0 K (cls0 P w) flds0 m_table) := fn0 T.d_table.fn sc_table (w_table T) len_table p_table
theorem w_crossed : VSs (fam0 P w K mg base N_crossed "crossed" (defScope s_crossed) T.f_crossed 3 (cls0 P w) flds0) (defBody s_crossed) t_crossed :=
  vss_cons (vs_set (i := 3) (fun _ => sc_crossed.nd) (ve_int)) (vss_cons (vs_set (i := 4) (fun _ => sc_crossed.nd) (ve_call0 (fun _ => ok_net T) (fun p => p.hr.mono (by decide)) hg0 (fun _ => T.d_net.g) T.d_net.fn.kp T.d_net.b (va_cons (ve_name 0) (va_cons (ve_name 2) (va_nil))))) (vss_cons (vs_for (fun _ => PassesOwn.never) (vi_zip (fun _ => T.n_zip) (vr_cons (ve_call0 (fun _ => ok_net T) (fun p => p.hr.mono (by decide)) hg0 (fun _ => T.d_net.g) T.d_net.fn.kp T.d_net.b (va_cons (ve_name 0) (va_cons (ve_name 1) (va_nil)))) (vr_cons (ve_call0 (fun _ => ok_table T) (fun p => p.hr.mono (by decide)) hg0 (fun _ => T.d_table.g) T.d_table.fn.kp T.d_table.b (va_cons (ve_name 0) (va_nil))) (vr_nil)))) (vg_tup (vgs_cons (vg_name (i := 5) (fun _ => sc_crossed.nd)) (vgs_cons (vg_name (i := 6) (fun _ => sc_crossed.nd)) (vgs_nil)))) (vss_one (vs_aug (i := 3) (fun _ => sc_crossed.nd) (ve_mul (ve_name 5) (ve_sum (fun _ => T.n_sum) (vr_cons (ve_lc (fun _ => sc_crossed.nd) (vi_zip (fun _ => T.n_zip) (vr_cons (ve_name 4) (vr_cons (ve_name 6) (vr_nil)))) (fun _ => blkOk_by (own := [("more", 7), ("sign", 8)]) (by show blkC N_crossed (defScope s_crossed) _ _ = true; decide +kernel)) (vg_tup (vgs_cons (vg_name (i := 7) (fun _ => sc_crossed.nd)) (vgs_cons (vg_name (i := 8) (fun _ => sc_crossed.nd)) (vgs_nil)))) (vts_nil) (ve_mul (ve_name 7) (ve_name 8))) (vr_nil))))))) (vss_one (vs_ret (ve_name 3)))))
theorem ok_crossed : FnG P w K mg base CX0 4 T.f_crossed T.fd_crossed ["yard", "one", "other"] (sp0 K (cls0 P w) flds0 m_crossed) := fn0 T.d_crossed.fn sc_crossed (w_crossed T) len_crossed p_crossed
theorem w_cleared : VSs (fam0 P w K mg base N_cleared "cleared" (defScope s_cleared) T.f_cleared 0 (cls0 P w) flds0) (defBody s_cleared) t_cleared :=
  vss_cons (vs_set (i := 0) (fun _ => sc_cleared.nd) (ve_list (fun _ => T.n_list) (vr_cons (ve_name 0) (vr_nil)))) (vss_cons (vs_forL (fun _ => PassesOwn.never) (ve_name 1) (vg_tup (vgs_cons (vg_name (i := 2) (fun _ => sc_cleared.nd)) (vgs_cons (vg_name (i := 3) (fun _ => sc_cleared.nd)) (vgs_nil)))) (vss_one (vs_if (vt_ne hu0 (ve_ix (ve_name 0) (ve_name 2)) (ve_int)) (vss_cons (vs_asgG (ve_tup (va_cons (ve_ix (ve_name 3) (ve_name 2)) (va_cons (ve_ix (ve_name 0) (ve_name 2)) (va_nil)))) (vg_tup (vgs_cons (vg_name (i := 4) (fun _ => sc_cleared.nd)) (vgs_cons (vg_name (i := 5) (fun _ => sc_cleared.nd)) (vgs_nil))))) (vss_one (vs_setLc (i := 0) (fun _ => sc_cleared.nd) (vi_zip (fun _ => T.n_zip) (vr_cons (ve_name 0) (vr_cons (ve_name 3) (vr_nil)))) (fun _ => blkOk_by (own := [("number", 6), ("more", 7)]) (by show blkC N_cleared (defScope s_cleared) _ _ = true; decide +kernel)) (vg_tup (vgs_cons (vg_name (i := 6) (fun _ => sc_cleared.nd)) (vgs_cons (vg_name (i := 7) (fun _ => sc_cleared.nd)) (vgs_nil)))) (vts_nil) (ve_sub (ve_mul (ve_name 6) (ve_name 4)) (ve_mul (ve_name 7) (ve_name 5)))))) (vss_nil)))) (vss_one (vs_ret (ve_name 0))))
theorem ok_cleared : FnG P w K mg base CX0 1 T.f_cleared T.fd_cleared ["row", "pivots"] (sp0 K (cls0 P w) flds0 m_cleared) := fn0 T.d_cleared.fn sc_cleared (w_cleared T) len_cleared p_cleared
theorem w_rank : VSs (fam0 P w K mg base N_rank "rank" (defScope s_rank) T.f_rank 3 (cls0 P w) flds0) (defBody s_rank) t_rank :=
  vss_cons (vs_setK (i := 1) (fun _ => sc_rank.nd) (ve_lst (va_nil))) (vss_cons (vs_for (fun _ => PassesOwn.never) (vi_any (ve_call0 (fun _ => ok_table T) (fun p => p.hr.mono (by decide)) hg0 (fun _ => T.d_table.g) T.d_table.fn.kp T.d_table.b (va_cons (ve_name 0) (va_nil)))) (vg_name (i := 2) (fun _ => sc_rank.nd)) (vss_cons (vs_set (i := 3) (fun _ => sc_rank.nd) (ve_call0 (fun _ => ok_cleared T) (fun p => p.hr.mono (by decide)) hg0 (fun _ => T.d_cleared.g) T.d_cleared.fn.kp T.d_cleared.b (va_cons (ve_name 2) (va_cons (ve_name 1) (va_nil))))) (vss_cons (vs_setLc (i := 4) (fun _ => sc_rank.nd) (vi_enum (fun _ => T.n_enumerate) (vr_cons (ve_name 3) (vr_nil))) (fun _ => blkOk_by (own := [("at", 5), ("number", 6)]) (by show blkC N_rank (defScope s_rank) _ _ = true; decide +kernel)) (vg_tup (vgs_cons (vg_name (i := 5) (fun _ => sc_rank.nd)) (vgs_cons (vg_name (i := 6) (fun _ => sc_rank.nd)) (vgs_nil)))) (vts_one (vt_ne (hu_blk hu0) (ve_name 6) (ve_int))) (ve_name 5)) (vss_one (vs_if (vt_gt (ve_len (fun _ => T.n_len) (vr_cons (ve_name 4) (vr_nil))) (ve_int)) (vss_one (vs_expr (ve_append (ve_name 1) (va_cons (ve_tup (va_cons (ve_ix (ve_name 4) (ve_int)) (va_cons (ve_name 3) (va_nil)))) (va_nil))))) (vss_nil)))))) (vss_one (vs_ret (ve_lenS (fun _ => T.n_len) (vr_cons (ve_name 1) (vr_nil))))))
theorem ok_rank : FnG P w K mg base CX0 4 T.f_rank T.fd_rank ["yard"] (sp0 K (cls0 P w) flds0 m_rank) := fn0 T.d_rank.fn sc_rank (w_rank T) len_rank p_rank
theorem w_shortened : VSs (fam0 P w K mg base N_shortened "shortened" (defScope s_shortened) T.f_shortened 1 (cls0 P w) flds0) (defBody s_shortened) t_shortened :=
  vss_cons (vs_set (i := 1) (fun _ => sc_shortened.nd) (ve_lst (va_nil))) (vss_cons (vs_for (fun _ => PassesOwn.never) (vi_any (ve_name 0)) (vg_name (i := 2) (fun _ => sc_shortened.nd)) (vss_one (vs_if (VW.vt (vw_and (vt_gt (ve_len (fun _ => T.n_len) (vr_cons (ve_name 1) (vr_nil))) (ve_int)) (vw_and1 (vt_eq hu0 (ve_ix (ve_name 1) (ve_neg (ve_int))) (ve_call0 (fun _ => ok_contrary T) (fun p => p.hr.mono (by decide)) hg0 (fun _ => T.d_contrary.g) T.d_contrary.fn.kp T.d_contrary.b (va_cons (ve_name 2) (va_nil))))))) (vss_one (vs_expr (ve_pop (ve_name 1)))) (vss_one (vs_expr (ve_append (ve_name 1) (va_cons (ve_name 2) (va_nil)))))))) (vss_one (vs_ret (ve_join (ve_str []) (vr_cons (ve_name 1) (vr_nil))))))
theorem ok_shortened : FnG P w K mg base CX0 2 T.f_shortened T.fd_shortened ["word"] (sp0 K (cls0 P w) flds0 m_shortened) := fn0 T.d_shortened.fn sc_shortened (w_shortened T) len_shortened p_shortened
theorem w_shortest : VSs (fam0 P w K mg base N_shortest "shortest" (defScope s_shortest) T.f_shortest 2 (cls0 P w) flds0) (defBody s_shortest) t_shortest :=
  vss_cons (vs_set (i := 1) (fun _ => sc_shortest.nd) (ve_call0 (fun _ => ok_shortened T) (fun p => p.hr.mono (by decide)) hg0 (fun _ => T.d_shortened.g) T.d_shortened.fn.kp T.d_shortened.b (va_cons (ve_name 0) (va_nil)))) (vss_cons (vs_while (fun _ => PassesOwn.never) (VW.vt (vw_and (vt_gt (ve_len (fun _ => T.n_len) (vr_cons (ve_name 1) (vr_nil))) (ve_int)) (vw_and1 (vt_eq hu0 (ve_ix (ve_name 1) (ve_int)) (ve_call0 (fun _ => ok_contrary T) (fun p => p.hr.mono (by decide)) hg0 (fun _ => T.d_contrary.g) T.d_contrary.fn.kp T.d_contrary.b (va_cons (ve_ix (ve_name 1) (ve_neg (ve_int))) (va_nil))))))) (vss_one (vs_set (i := 1) (fun _ => sc_shortest.nd) (ve_slice (ve_name 1) (vo_some (ve_int)) (vo_some (ve_neg (ve_int))))))) (vss_one (vs_ret (ve_name 1))))
theorem ok_shortest : FnG P w K mg base CX0 3 T.f_shortest T.fd_shortest ["word"] (sp0 K (cls0 P w) flds0 m_shortest) := fn0 T.d_shortest.fn sc_shortest (w_shortest T) len_shortest p_shortest
theorem w_ring : VSs (fam0 P w K mg base N_ring "ring" (defScope s_ring) T.f_ring 3 (cls0 P w) flds0) (defBody s_ring) t_ring :=
  vss_cons (vs_set (i := 1) (fun _ => sc_ring.nd) (ve_call0 (fun _ => ok_shortest T) (fun p => p.hr.mono (by decide)) hg0 (fun _ => T.d_shortest.g) T.d_shortest.fn.kp T.d_shortest.b (va_cons (ve_name 0) (va_nil)))) (vss_cons (vs_if (vt_eq hu0 (ve_name 1) (ve_str [])) (vss_one (vs_ret (ve_str []))) (vss_nil)) (vss_one (vs_ret (ve_min1 hu0 (fun _ => T.n_min) (vr_cons (ve_lc (fun _ => sc_ring.nd) (vi_range1 (fun _ => T.n_range) (vr_cons (ve_len (fun _ => T.n_len) (vr_cons (ve_name 1) (vr_nil))) (vr_nil))) (fun _ => blkOk_by (own := [("k", 2)]) (by show blkC N_ring (defScope s_ring) _ _ = true; decide +kernel)) (vg_name (i := 2) (fun _ => sc_ring.nd)) (vts_nil) (ve_add (ve_slice (ve_name 1) (vo_some (ve_name 2)) (vo_none)) (ve_slice (ve_name 1) (vo_none) (vo_some (ve_name 2))))) (vr_nil))))))
theorem ok_ring : FnG P w K mg base CX0 4 T.f_ring T.fd_ring ["word"] (sp0 K (cls0 P w) flds0 m_ring) := fn0 T.d_ring.fn sc_ring (w_ring T) len_ring p_ring
theorem w_rim_from : VSs (fam0 P w K mg base N_rim_from "rim_from" (defScope s_rim_from) T.f_rim_from 1 (cls0 P w) flds0) (defBody s_rim_from) t_rim_from :=
  vss_cons (vs_set (i := 2) (fun _ => sc_rim_from.nd) (ve_str [])) (vss_cons (vs_set (i := 3) (fun _ => sc_rim_from.nd) (ve_name 1)) (vss_cons (vs_while (fun _ => PassesOwn.never) (VW.vt (vw_or (vt_eq hu0 (ve_name 2) (ve_str [])) (vw_or1 (vt_ne hu0 (ve_name 3) (ve_name 1))))) (vss_cons (vs_set (i := 4) (fun _ => sc_rim_from.nd) (ve_ix (ve_name 0) (ve_mod (ve_add (ve_name 3) (ve_int)) (ve_len (fun _ => T.n_len) (vr_cons (ve_name 0) (vr_nil)))))) (vss_cons (vs_set (i := 2) (fun _ => sc_rim_from.nd) (ve_add (ve_name 2) (ve_name 4))) (vss_one (vs_set (i := 3) (fun _ => sc_rim_from.nd) (ve_indexS (ve_name 0) (vr_cons (ve_call0 (fun _ => ok_contrary T) (fun p => p.hr.mono (by decide)) hg0 (fun _ => T.d_contrary.g) T.d_contrary.fn.kp T.d_contrary.b (va_cons (ve_name 4) (va_nil))) (vr_nil)))))))) (vss_one (vs_ret (ve_name 2)))))
theorem ok_rim_from : FnG P w K mg base CX0 2 T.f_rim_from T.fd_rim_from ["yard", "at"] (sp0 K (cls0 P w) flds0 m_rim_from) := fn0 T.d_rim_from.fn sc_rim_from (w_rim_from T) len_rim_from p_rim_from
theorem w_rims : VSs (fam0 P w K mg base N_rims "rims" (defScope s_rims) T.f_rims 4 (cls0 P w) flds0) (defBody s_rims) t_rims :=
  vss_cons (vs_set (i := 1) (fun _ => sc_rims.nd) (ve_lst (va_nil))) (vss_cons (vs_set (i := 2) (fun _ => sc_rims.nd) (ve_dict0)) (vss_cons (vs_for (fun _ => PassesOwn.never) (vi_range1 (fun _ => T.n_range) (vr_cons (ve_len (fun _ => T.n_len) (vr_cons (ve_name 0) (vr_nil))) (vr_nil))) (vg_name (i := 3) (fun _ => sc_rims.nd)) (vss_one (vs_if (vt_dnin hu0 (ve_name 3) (ve_name 2)) (vss_cons (vs_set (i := 4) (fun _ => sc_rims.nd) (ve_call0 (fun _ => ok_rim_from T) (fun p => p.hr.mono (by decide)) hg0 (fun _ => T.d_rim_from.g) T.d_rim_from.fn.kp T.d_rim_from.b (va_cons (ve_name 0) (va_cons (ve_name 3) (va_nil))))) (vss_cons (vs_for (fun _ => PassesOwn.never) (vi_any (ve_name 4)) (vg_name (i := 5) (fun _ => sc_rims.nd)) (vss_one (vs_dput hu0 (ve_bl) (ve_name 2) (ve_indexS (ve_name 0) (vr_cons (ve_call0 (fun _ => ok_contrary T) (fun p => p.hr.mono (by decide)) hg0 (fun _ => T.d_contrary.g) T.d_contrary.fn.kp T.d_contrary.b (va_cons (ve_name 5) (va_nil))) (vr_nil)))))) (vss_one (vs_expr (ve_append (ve_name 1) (va_cons (ve_call0 (fun _ => ok_ring T) (fun p => p.hr.mono (by decide)) hg0 (fun _ => T.d_ring.g) T.d_ring.fn.kp T.d_ring.b (va_cons (ve_name 4) (va_nil))) (va_nil))))))) (vss_nil)))) (vss_one (vs_ret (ve_sortT (fun _ => T.n_sorted) (vr_cons (ve_name 1) (vr_nil)))))))
theorem ok_rims : FnG P w K mg base CX0 5 T.f_rims T.fd_rims ["yard"] (sp0 K (cls0 P w) flds0 m_rims) := fn0 T.d_rims.fn sc_rims (w_rims T) len_rims p_rims
theorem w_handles : VSs (fam0 P w K mg base N_handles "handles" (defScope s_handles) T.f_handles 5 (cls0 P w) flds0) (defBody s_handles) t_handles :=
  vss_one (vs_ret (ve_fdiv (ve_sub (ve_add (ve_fdiv (ve_len (fun _ => T.n_len) (vr_cons (ve_name 0) (vr_nil))) (ve_int)) (ve_int)) (ve_len (fun _ => T.n_len) (vr_cons (ve_call0 (fun _ => ok_rims T) (fun p => p.hr.mono (by decide)) hg0 (fun _ => T.d_rims.g) T.d_rims.fn.kp T.d_rims.b (va_cons (ve_name 0) (va_nil))) (vr_nil)))) (ve_int)))
theorem ok_handles : FnG P w K mg base CX0 6 T.f_handles T.fd_handles ["yard"] (sp0 K (cls0 P w) flds0 m_handles) := fn0 T.d_handles.fn sc_handles (w_handles T) len_handles p_handles
theorem w_law_box : VSs (fam0 P w K mg base N_law_box "_law_box" (defScope s_law_box) T.f_law_box 0 (cls0 P w) flds0) (defBody s_law_box) t_law_box :=
  vss_cons (vs_set (i := 2) (fun _ => sc_law_box.nd) (ve_add (ve_mul (ve_int) (ve_name 1)) (ve_int))) (vss_cons (vs_if (vt_lt (ve_name 1) (ve_len (fun _ => T.n_len) (vr_cons (ve_name 0) (vr_nil)))) (vss_one (vs_set (i := 2) (fun _ => sc_law_box.nd) (ve_ix (ve_name 0) (ve_name 1)))) (vss_one (vs_if (vt_gt (ve_len (fun _ => T.n_len) (vr_cons (ve_name 0) (vr_nil))) (ve_int)) (vss_one (vs_set (i := 2) (fun _ => sc_law_box.nd) (ve_add (ve_name 2) (ve_mul (ve_mod (ve_ix (ve_name 0) (ve_mod (ve_name 1) (ve_len (fun _ => T.n_len) (vr_cons (ve_name 0) (vr_nil))))) (ve_int)) (ve_int))))) (vss_nil)))) (vss_cons (vs_set (i := 3) (fun _ => sc_law_box.nd) (ve_mod (ve_pow (ve_add (ve_add (ve_mod (ve_name 2) (ve_int)) (ve_mul (ve_int) (ve_name 1))) (ve_int)) (ve_int)) (ve_int))) (vss_one (vs_ret (ve_lst (va_cons (ve_ix (ve_lst (va_cons (ve_int) (va_cons (ve_name 2) (va_nil)))) (ve_int1 (fun _ => T.n_int) (vr_cons (ve_ge (ve_name 2) (ve_pow (ve_int) (ve_int))) (vr_nil)))) (va_cons (ve_add (ve_mod (ve_name 3) (ve_int)) (ve_int)) (va_nil))))))))
theorem ok_law_box0 : FnG P w K mg base CX0 1 T.f_law_box T.fd_law_box ["_law_script", "_law_k"] (sp0 K (cls0 P w) flds0 mb_law_box) := fn0 T.d_law_box.fn sc_law_box (w_law_box T) len_law_box p_law_box
theorem ok_law_box : FnG P w K mg base CX0 1 T.f_law_box T.fd_law_box ["_law_script", "_law_k"] (sp0 K (cls0 P w) flds0 m_law_box) := Pu.FnG.imp0 (Pu.FnG.boxed (ok_law_box0 T)) box_law_box
theorem w_law_take : VSs (fam0 P w K mg base N_law_take "_law_take" (defScope s_law_take) T.f_law_take 0 (cls0 P w) flds0) (defBody s_law_take) t_law_take :=
  vss_cons (vs_if (vt_gt (ve_ix (ve_name 0) (ve_int)) (ve_int)) (vss_cons (vs_set (i := 3) (fun _ => sc_law_take.nd) (ve_mod (ve_ix (ve_name 0) (ve_int)) (ve_name 1))) (vss_cons (vs_setIx (ve_fdiv (ve_ix (ve_name 0) (ve_int)) (ve_name 1)) (ve_name 0) (ve_int)) (vss_one (vs_ret (ve_name 3))))) (vss_nil)) (vss_cons (vs_set (i := 2) (fun _ => sc_law_take.nd) (ve_mod (ve_mul (ve_ix (ve_name 0) (ve_int)) (ve_int)) (ve_int))) (vss_cons (vs_setIx (ve_add (ve_mod (ve_add (ve_mul (ve_name 2) (ve_int)) (ve_int)) (ve_int)) (ve_int)) (ve_name 0) (ve_int)) (vss_one (vs_ret (ve_mod (ve_fdiv (ve_add (ve_mul (ve_name 2) (ve_int)) (ve_ix (ve_name 0) (ve_int))) (ve_int)) (ve_name 1))))))
theorem ok_law_take : FnG P w K mg base CX0 1 T.f_law_take T.fd_law_take ["_law_box_here", "_law_many"] (sp0 K (cls0 P w) flds0 m_law_take) := fn0 T.d_law_take.fn sc_law_take (w_law_take T) len_law_take p_law_take
theorem w_law_other : VSs (fam0 P w K mg base N_law_other "_law_other" (defScope s_law_other) T.f_law_other 0 (cls0 P w) flds0) (defBody s_law_other) t_law_other :=
  vss_cons (vs_set (i := 1) (fun _ => sc_law_other.nd) (ve_str SM)) (vss_cons (vs_set (i := 2) (fun _ => sc_law_other.nd) (ve_str CP)) (vss_cons (vs_if (vt_in hu0 (ve_name 0) (ve_name 1)) (vss_one (vs_ret (ve_ix (ve_name 2) (ve_indexS (ve_name 1) (vr_cons (ve_name 0) (vr_nil)))))) (vss_nil)) (vss_one (vs_ret (ve_ix (ve_name 1) (ve_indexS (ve_name 2) (vr_cons (ve_name 0) (vr_nil))))))))
theorem ok_law_other : FnG P w K mg base CX0 1 T.f_law_other T.fd_law_other ["_law_letter"] (sp0 K (cls0 P w) flds0 m_law_other) := fn0 T.d_law_other.fn sc_law_other (w_law_other T) len_law_other p_law_other
theorem w_law_yard : VSs (fam0 P w K mg base N_law_yard "_law_yard" (defScope s_law_yard) T.f_law_yard 1 (cls0 P w) flds0) (defBody s_law_yard) t_law_yard :=
  vss_cons (vs_set (i := 3) (fun _ => sc_law_yard.nd) (ve_list (fun _ => T.n_list) (vr_cons (ve_str SM) (vr_nil)))) (vss_cons (vs_set (i := 4) (fun _ => sc_law_yard.nd) (ve_lst (va_nil))) (vss_cons (vs_for (fun _ => PassesOwn.never) (vi_range1 (fun _ => T.n_range) (vr_cons (ve_add (ve_name 1) (ve_call0 (fun _ => ok_law_take T) (fun p => p.hr.mono (by decide)) hg0 (fun _ => T.d_law_take.g) T.d_law_take.fn.kp T.d_law_take.b (va_cons (ve_name 0) (va_cons (ve_add (ve_sub (ve_name 2) (ve_name 1)) (ve_int)) (va_nil))))) (vr_nil))) (vg_name (i := 5) (fun _ => sc_law_yard.nd)) (vss_cons (vs_set (i := 7) (fun _ => sc_law_yard.nd) (ve_popAt (ve_name 3) (va_cons (ve_call0 (fun _ => ok_law_take T) (fun p => p.hr.mono (by decide)) hg0 (fun _ => T.d_law_take.g) T.d_law_take.fn.kp T.d_law_take.b (va_cons (ve_name 0) (va_cons (ve_len (fun _ => T.n_len) (vr_cons (ve_name 3) (vr_nil))) (va_nil)))) (va_nil)))) (vss_one (vs_set (i := 4) (fun _ => sc_law_yard.nd) (ve_add (ve_name 4) (ve_lst (va_cons (ve_name 7) (va_cons (ve_call0 (fun _ => ok_law_other T) (fun p => p.hr.mono (by decide)) hg0 (fun _ => T.d_law_other.g) T.d_law_other.fn.kp T.d_law_other.b (va_cons (ve_name 7) (va_nil))) (va_nil))))))))) (vss_cons (vs_set (i := 6) (fun _ => sc_law_yard.nd) (ve_str [])) (vss_cons (vs_while (fun _ => PassesOwn.never) (vt_gt (ve_len (fun _ => T.n_len) (vr_cons (ve_name 4) (vr_nil))) (ve_int)) (vss_one (vs_set (i := 6) (fun _ => sc_law_yard.nd) (ve_add (ve_name 6) (ve_popAt (ve_name 4) (va_cons (ve_call0 (fun _ => ok_law_take T) (fun p => p.hr.mono (by decide)) hg0 (fun _ => T.d_law_take.g) T.d_law_take.fn.kp T.d_law_take.b (va_cons (ve_name 0) (va_cons (ve_len (fun _ => T.n_len) (vr_cons (ve_name 4) (vr_nil))) (va_nil)))) (va_nil))))))) (vss_one (vs_ret (ve_name 6)))))))
theorem ok_law_yard : FnG P w K mg base CX0 2 T.f_law_yard T.fd_law_yard ["_law_box_here", "_law_few", "_law_top"] (sp0 K (cls0 P w) flds0 m_law_yard) := fn0 T.d_law_yard.fn sc_law_yard (w_law_yard T) len_law_yard p_law_yard
theorem w_law_word : VSs (fam0 P w K mg base N_law_word "_law_word" (defScope s_law_word) T.f_law_word 1 (cls0 P w) flds0) (defBody s_law_word) t_law_word :=
  vss_one (vs_ret (ve_join (ve_str []) (vr_cons (ve_lc (fun _ => sc_law_word.nd) (vi_range1 (fun _ => T.n_range) (vr_cons (ve_call0 (fun _ => ok_law_take T) (fun p => p.hr.mono (by decide)) hg0 (fun _ => T.d_law_take.g) T.d_law_take.fn.kp T.d_law_take.b (va_cons (ve_name 0) (va_cons (ve_add (ve_name 2) (ve_int)) (va_nil)))) (vr_nil))) (fun _ => blkOk_by (own := [("_law_k", 3)]) (by show blkC N_law_word (defScope s_law_word) _ _ = true; decide +kernel)) (vg_name (i := 3) (fun _ => sc_law_word.nd)) (vts_nil) (ve_ix (ve_name 1) (ve_call0 (fun _ => ok_law_take T) (fun p => p.1.hr.mono (by decide)) (hg_blk hg0) (fun _ => T.d_law_take.g) T.d_law_take.fn.kp T.d_law_take.b (va_cons (ve_name 0) (va_cons (ve_len (fun _ => T.n_len) (vr_cons (ve_name 1) (vr_nil))) (va_nil)))))) (vr_nil))))
theorem ok_law_word : FnG P w K mg base CX0 2 T.f_law_word T.fd_law_word ["_law_box_here", "_law_yard_here", "_law_top"] (sp0 K (cls0 P w) flds0 m_law_word) := fn0 T.d_law_word.fn sc_law_word (w_law_word T) len_law_word p_law_word
theorem w_law_left : VSs (fam0 P w K mg base N_law_left "_law_left" (defScope s_law_left) T.f_law_left 0 (cls0 P w) flds0) (defBody s_law_left) t_law_left :=
  vss_cons (vs_setLcK (i := 0) (fun _ => sc_law_left.nd) (vi_any (ve_name 0)) (fun _ => blkOk_by (own := [("_law_row", 4)]) (by show blkC N_law_left (defScope s_law_left) _ _ = true; decide +kernel)) (vg_name (i := 4) (fun _ => sc_law_left.nd)) (vts_nil) (ve_list (fun _ => T.n_list) (vr_cons (ve_name 4) (vr_nil)))) (vss_cons (vs_set (i := 1) (fun _ => sc_law_left.nd) (ve_int)) (vss_cons (vs_for (fun _ => PassesOwn.never) (vi_range1 (fun _ => T.n_range) (vr_cons (ve_lenS (fun _ => T.n_len) (vr_cons (ve_name 0) (vr_nil))) (vr_nil))) (vg_name (i := 2) (fun _ => sc_law_left.nd)) (vss_cons (vs_setLcL (i := 3) (fun _ => sc_law_left.nd) (ve_name 0) (fun _ => blkOk_by (own := [("_law_row", 4)]) (by show blkC N_law_left (defScope s_law_left) _ _ = true; decide +kernel)) (vg_name (i := 4) (fun _ => sc_law_left.nd)) (vts_one (vt_ne (hu_blk hu0) (ve_ix (ve_name 4) (ve_name 2)) (ve_int))) (ve_name 4)) (vss_one (vs_if (vt_ne hu0 (ve_name 3) (ve_lst (va_nil))) (vss_cons (vs_set (i := 1) (fun _ => sc_law_left.nd) (ve_add (ve_name 1) (ve_int))) (vss_cons (vs_set (i := 5) (fun _ => sc_law_left.nd) (ve_ix (ve_name 3) (ve_int))) (vss_cons (vs_expr (ve_remD hu0 (ve_name 0) (va_cons (ve_name 5) (va_nil)))) (vss_one (vs_setLcLK (i := 0) (fun _ => sc_law_left.nd) (ve_name 0) (fun _ => blkOk_by (own := [("_law_row", 4)]) (by show blkC N_law_left (defScope s_law_left) _ _ = true; decide +kernel)) (vg_name (i := 4) (fun _ => sc_law_left.nd)) (vts_nil) (ve_lc (fun _ => sc_law_left.nd) (vi_zip (fun _ => T.n_zip) (vr_cons (ve_name 4) (vr_cons (ve_name 5) (vr_nil)))) (fun _ => blkOk_by (own := [("_law_a", 6), ("_law_b", 7)]) (by show blkC N_law_left _ _ _ = true; exact rfl)) (vg_tup (vgs_cons (vg_name (i := 6) (fun _ => sc_law_left.nd)) (vgs_cons (vg_name (i := 7) (fun _ => sc_law_left.nd)) (vgs_nil)))) (vts_nil) (ve_sub (ve_mul (ve_name 6) (ve_ix (ve_name 5) (ve_name 2))) (ve_mul (ve_name 7) (ve_ix (ve_name 4) (ve_name 2)))))))))) (vss_nil))))) (vss_one (vs_ret (ve_name 1)))))
theorem ok_law_left : FnG P w K mg base CX0 1 T.f_law_left T.fd_law_left ["_law_rows"] (sp0 K (cls0 P w) flds0 m_law_left) := fn0 T.d_law_left.fn sc_law_left (w_law_left T) len_law_left p_law_left
theorem w_law_right : VSs (fam0 P w K mg base N_law_right "_law_right" (defScope s_law_right) T.f_law_right 6 (cls0 P w) flds0) (defBody s_law_right) t_law_right :=
  vss_cons (vs_set (i := 2) (fun _ => sc_law_right.nd) (ve_call0 (fun _ => ok_table T) (fun p => p.hr.mono (by decide)) hg0 (fun _ => T.d_table.g) T.d_table.fn.kp T.d_table.b (va_cons (ve_name 0) (va_nil)))) (vss_cons (vs_set (i := 3) (fun _ => sc_law_right.nd) (ve_call0 (fun _ => ok_rank T) (fun p => p.hr.mono (by decide)) hg0 (fun _ => T.d_rank.g) T.d_rank.fn.kp T.d_rank.b (va_cons (ve_name 0) (va_nil)))) (vss_cons (vs_if (VW.vt (vw_or (vt_val (ve_isi (T := "bool") (fun _ => T.n_isinstance) (fun _ => T.n_bool) (ve_name 3))) (vw_or (vt_ne hu0 (ve_name 3) (ve_mul (ve_int) (ve_call0 (fun _ => ok_handles T) (fun p => p.hr.mono (by decide)) hg0 (fun _ => T.d_handles.g) T.d_handles.fn.kp T.d_handles.b (va_cons (ve_name 0) (va_nil))))) (vw_or1 (vt_ne hu0 (ve_name 3) (ve_call0 (fun _ => ok_law_left T) (fun p => p.hr.mono (by decide)) hg0 (fun _ => T.d_law_left.g) T.d_law_left.fn.kp T.d_law_left.b (va_cons (ve_name 2) (va_nil)))))))) (vss_one (vs_ret (ve_bl))) (vss_nil)) (vss_cons (vs_for (fun _ => PassesOwn.never) (vi_range1 (fun _ => T.n_range) (vr_cons (ve_len (fun _ => T.n_len) (vr_cons (ve_name 2) (vr_nil))) (vr_nil))) (vg_name (i := 4) (fun _ => sc_law_right.nd)) (vss_one (vs_if (vt_ne hu0 (ve_lc (fun _ => sc_law_right.nd) (vi_range1 (fun _ => T.n_range) (vr_cons (ve_len (fun _ => T.n_len) (vr_cons (ve_name 2) (vr_nil))) (vr_nil))) (fun _ => blkOk_by (own := [("_law_y", 6)]) (by show blkC N_law_right (defScope s_law_right) _ _ = true; decide +kernel)) (vg_name (i := 6) (fun _ => sc_law_right.nd)) (vts_nil) (ve_ix (ve_ix (ve_name 2) (ve_name 4)) (ve_name 6))) (ve_lc (fun _ => sc_law_right.nd) (vi_range1 (fun _ => T.n_range) (vr_cons (ve_len (fun _ => T.n_len) (vr_cons (ve_name 2) (vr_nil))) (vr_nil))) (fun _ => blkOk_by (own := [("_law_y", 6)]) (by show blkC N_law_right (defScope s_law_right) _ _ = true; decide +kernel)) (vg_name (i := 6) (fun _ => sc_law_right.nd)) (vts_nil) (ve_sub (ve_int) (ve_ix (ve_ix (ve_name 2) (ve_name 6)) (ve_name 4))))) (vss_one (vs_ret (ve_bl))) (vss_nil)))) (vss_cons (vs_for (fun _ => PassesOwn.never) (vi_any (ve_call0 (fun _ => ok_rims T) (fun p => p.hr.mono (by decide)) hg0 (fun _ => T.d_rims.g) T.d_rims.fn.kp T.d_rims.b (va_cons (ve_name 0) (va_nil)))) (vg_name (i := 5) (fun _ => sc_law_right.nd)) (vss_one (vs_if (vt_not (vt_val (ve_all (fun _ => T.n_all) (vr_cons (ve_lc (fun _ => sc_law_right.nd) (vi_any (ve_name 1)) (fun _ => blkOk_by (own := [("_law_word_here", 7)]) (by show blkC N_law_right (defScope s_law_right) _ _ = true; decide +kernel)) (vg_name (i := 7) (fun _ => sc_law_right.nd)) (vts_nil) (ve_eq (hu_blk hu0) (ve_call0 (fun _ => ok_crossed T) (fun p => p.1.hr.mono (by decide)) (hg_blk hg0) (fun _ => T.d_crossed.g) T.d_crossed.fn.kp T.d_crossed.b (va_cons (ve_name 0) (va_cons (ve_name 5) (va_cons (ve_name 7) (va_nil))))) (ve_int))) (vr_nil))))) (vss_one (vs_ret (ve_bl))) (vss_nil)))) (vss_one (vs_ret (ve_bl)))))))
theorem ok_law_right : FnG P w K mg base CX0 7 T.f_law_right T.fd_law_right ["_law_yard_here", "_law_words"] (sp0 K (cls0 P w) flds0 m_law_right) := fn0 T.d_law_right.fn sc_law_right (w_law_right T) len_law_right p_law_right
theorem w_law : VSs (fam0 P w K mg base N_law "law" (defScope s_law) T.f_law 7 (cls0 P w) flds0) (defBody s_law) t_law :=
  vss_cons (vs_for (fun _ => PassesOwn.never) (vi_range1 (fun _ => T.n_range) (vr_cons (ve_add (ve_int) (ve_len (fun _ => T.n_len) (vr_cons (ve_slice (ve_name 0) (vo_some (ve_int)) (vo_some (ve_int))) (vr_nil)))) (vr_nil))) (vg_name (i := 1) (fun _ => sc_law.nd)) (vss_cons (vs_set (i := 2) (fun _ => sc_law.nd) (ve_call0 (fun _ => ok_law_box T) (fun p => p.hr.mono (by decide)) hg0 (fun _ => T.d_law_box.g) T.d_law_box.fn.kp T.d_law_box.b (va_cons (ve_name 0) (va_cons (ve_name 1) (va_nil))))) (vss_cons (vs_set (i := 3) (fun _ => sc_law.nd) (ve_call0 (fun _ => ok_law_yard T) (fun p => p.hr.mono (by decide)) hg0 (fun _ => T.d_law_yard.g) T.d_law_yard.fn.kp T.d_law_yard.b (va_cons (ve_name 2) (va_cons (ve_int) (va_cons (ve_int) (va_nil)))))) (vss_one (vs_if (vt_not (vt_val (ve_call0 (fun _ => ok_law_right T) (fun p => p.hr.mono (by decide)) hg0 (fun _ => T.d_law_right.g) T.d_law_right.fn.kp T.d_law_right.b (va_cons (ve_name 3) (va_cons (ve_lc (fun _ => sc_law.nd) (vi_range1 (fun _ => T.n_range) (vr_cons (ve_int) (vr_nil))) (fun _ => blkOk_by (own := [("_law_turn", 4)]) (by show blkC N_law (defScope s_law) _ _ = true; decide +kernel)) (vg_name (i := 4) (fun _ => sc_law.nd)) (vts_nil) (ve_call0 (fun _ => ok_law_word T) (fun p => p.1.hr.mono (by decide)) (hg_blk hg0) (fun _ => T.d_law_word.g) T.d_law_word.fn.kp T.d_law_word.b (va_cons (ve_name 2) (va_cons (ve_name 3) (va_cons (ve_int) (va_nil)))))) (va_nil)))))) (vss_one (vs_ret (ve_bl))) (vss_nil)))))) (vss_one (vs_ret (ve_bl)))
theorem ok_law : FnG P w K mg base CX0 8 T.f_law T.fd_law ["_law_script"] (sp0 K (cls0 P w) flds0 m_law) := fn0 T.d_law.fn sc_law (w_law T) len_law p_law
end
theorem all_mk {l : PySem.W.OpenLaw} {w : World} {K : PySem.W.Frag} {h : Heap} {mg : Str → Option Value} {fa f1 f2 f3 f4 f5 f6 f7 f8 f9 f10 f11 f12 f13 f14 f15 f16 f17 f18 f19 f20 f21 f22 f23 : Addr} (X : K.In h) (G : h.Ns mainGlobals mg) (hfa : mg "law" = some (.ref fa))
    {od1 an1 od2 an2 od3 an3 od4 an4 od5 an5 od6 an6 od7 an7 od8 an8 od9 an9 od10 an10 od11 an11 od12 an12 od13 an13 od14 an14 od15 an15 od16 an16 od17 an17 od18 an18 od19 an19 od20 an20 od21 an21 od22 an22 od23 an23 : Option Addr} {sl1 sl2 sl3 sl4 sl5 sl6 sl7 sl8 sl9 sl10 sl11 sl12 sl13 sl14 sl15 sl16 sl17 sl18 sl19 sl20 sl21 sl22 sl23 : Array (Option Value)} {oc1 kV1 dc1 pm1 cd1 ct1 oc2 kV2 dc2 pm2 cd2 ct2 oc3 kV3 dc3 pm3 cd3 ct3 oc4 kV4 dc4 pm4 cd4 ct4 oc5 kV5 dc5 pm5 cd5 ct5 oc6 kV6 dc6 pm6 cd6 ct6 oc7 kV7 dc7 pm7 cd7 ct7 oc8 kV8 dc8 pm8 cd8 ct8 oc9 kV9 dc9 pm9 cd9 ct9 oc10 kV10 dc10 pm10 cd10 ct10 oc11 kV11 dc11 pm11 cd11 ct11 oc12 kV12 dc12 pm12 cd12 ct12 oc13 kV13 dc13 pm13 cd13 ct13 oc14 kV14 dc14 pm14 cd14 ct14 oc15 kV15 dc15 pm15 cd15 ct15 oc16 kV16 dc16 pm16 cd16 ct16 oc17 kV17 dc17 pm17 cd17 ct17 oc18 kV18 dc18 pm18 cd18 ct18 oc19 kV19 dc19 pm19 cd19 ct19 oc20 kV20 dc20 pm20 cd20 ct20 oc21 kV21 dc21 pm21 cd21 ct21 oc22 kV22 dc22 pm22 cd22 ct22 oc23 kV23 dc23 pm23 cd23 ct23 : Value} {gt1 gt2 : Tok} 
        (a1 : PySem.W.nsIn K mainGlobals "contrary" = some (some (.ref f1))) (l1 : K.lookup f1 = some ⟨oc1, od1, .func (PySem.W.fnOf "contrary" "contrary" (defArgs s_contrary) (defBody s_contrary) (defScope s_contrary) .none kV1 dc1 pm1 an1 cd1 ct1), sl1⟩) (c1 : PySem.W.codeIn K cd1 "contrary" = true) (k1 : PySem.W.keepIn K (.ref f1) = true)
    (a2 : PySem.W.nsIn K mainGlobals "bands" = some (some (.ref f2))) (l2 : K.lookup f2 = some ⟨oc2, od2, .func (PySem.W.fnOf "bands" "bands" (defArgs s_bands) (defBody s_bands) (defScope s_bands) .none kV2 dc2 pm2 an2 cd2 ct2), sl2⟩) (c2 : PySem.W.codeIn K cd2 "bands" = true) (k2 : PySem.W.keepIn K (.ref f2) = true)
    (a3 : PySem.W.nsIn K mainGlobals "goes_round" = some (some (.ref f3))) (l3 : K.lookup f3 = some ⟨oc3, od3, .func (PySem.W.fnOf "goes_round" "goes_round" (defArgs s_goes_round) (defBody s_goes_round) (defScope s_goes_round) .none kV3 dc3 pm3 an3 cd3 ct3), sl3⟩) (c3 : PySem.W.codeIn K cd3 "goes_round" = true) (k3 : PySem.W.keepIn K (.ref f3) = true)
    (a4 : PySem.W.nsIn K mainGlobals "net" = some (some (.ref f4))) (l4 : K.lookup f4 = some ⟨oc4, od4, .func (PySem.W.fnOf "net" "net" (defArgs s_net) (defBody s_net) (defScope s_net) .none kV4 dc4 pm4 an4 cd4 ct4), sl4⟩) (c4 : PySem.W.codeIn K cd4 "net" = true) (k4 : PySem.W.keepIn K (.ref f4) = true)
    (a5 : PySem.W.nsIn K mainGlobals "lies_across" = some (some (.ref f5))) (l5 : K.lookup f5 = some ⟨oc5, od5, .func (PySem.W.fnOf "lies_across" "lies_across" (defArgs s_lies_across) (defBody s_lies_across) (defScope s_lies_across) .none kV5 dc5 pm5 an5 cd5 ct5), sl5⟩) (c5 : PySem.W.codeIn K cd5 "lies_across" = true) (k5 : PySem.W.keepIn K (.ref f5) = true)
    (a6 : PySem.W.nsIn K mainGlobals "table" = some (some (.ref f6))) (l6 : K.lookup f6 = some ⟨oc6, od6, .func (PySem.W.fnOf "table" "table" (defArgs s_table) (defBody s_table) (defScope s_table) .none kV6 dc6 pm6 an6 cd6 ct6), sl6⟩) (c6 : PySem.W.codeIn K cd6 "table" = true) (k6 : PySem.W.keepIn K (.ref f6) = true)
    (a7 : PySem.W.nsIn K mainGlobals "crossed" = some (some (.ref f7))) (l7 : K.lookup f7 = some ⟨oc7, od7, .func (PySem.W.fnOf "crossed" "crossed" (defArgs s_crossed) (defBody s_crossed) (defScope s_crossed) .none kV7 dc7 pm7 an7 cd7 ct7), sl7⟩) (c7 : PySem.W.codeIn K cd7 "crossed" = true) (k7 : PySem.W.keepIn K (.ref f7) = true)
    (a8 : PySem.W.nsIn K mainGlobals "cleared" = some (some (.ref f8))) (l8 : K.lookup f8 = some ⟨oc8, od8, .func (PySem.W.fnOf "cleared" "cleared" (defArgs s_cleared) (defBody s_cleared) (defScope s_cleared) .none kV8 dc8 pm8 an8 cd8 ct8), sl8⟩) (c8 : PySem.W.codeIn K cd8 "cleared" = true) (k8 : PySem.W.keepIn K (.ref f8) = true)
    (a9 : PySem.W.nsIn K mainGlobals "rank" = some (some (.ref f9))) (l9 : K.lookup f9 = some ⟨oc9, od9, .func (PySem.W.fnOf "rank" "rank" (defArgs s_rank) (defBody s_rank) (defScope s_rank) .none kV9 dc9 pm9 an9 cd9 ct9), sl9⟩) (c9 : PySem.W.codeIn K cd9 "rank" = true) (k9 : PySem.W.keepIn K (.ref f9) = true)
    (a10 : PySem.W.nsIn K mainGlobals "shortened" = some (some (.ref f10))) (l10 : K.lookup f10 = some ⟨oc10, od10, .func (PySem.W.fnOf "shortened" "shortened" (defArgs s_shortened) (defBody s_shortened) (defScope s_shortened) .none kV10 dc10 pm10 an10 cd10 ct10), sl10⟩) (c10 : PySem.W.codeIn K cd10 "shortened" = true) (k10 : PySem.W.keepIn K (.ref f10) = true)
    (a11 : PySem.W.nsIn K mainGlobals "shortest" = some (some (.ref f11))) (l11 : K.lookup f11 = some ⟨oc11, od11, .func (PySem.W.fnOf "shortest" "shortest" (defArgs s_shortest) (defBody s_shortest) (defScope s_shortest) .none kV11 dc11 pm11 an11 cd11 ct11), sl11⟩) (c11 : PySem.W.codeIn K cd11 "shortest" = true) (k11 : PySem.W.keepIn K (.ref f11) = true)
    (a12 : PySem.W.nsIn K mainGlobals "ring" = some (some (.ref f12))) (l12 : K.lookup f12 = some ⟨oc12, od12, .func (PySem.W.fnOf "ring" "ring" (defArgs s_ring) (defBody s_ring) (defScope s_ring) .none kV12 dc12 pm12 an12 cd12 ct12), sl12⟩) (c12 : PySem.W.codeIn K cd12 "ring" = true) (k12 : PySem.W.keepIn K (.ref f12) = true)
    (a13 : PySem.W.nsIn K mainGlobals "rim_from" = some (some (.ref f13))) (l13 : K.lookup f13 = some ⟨oc13, od13, .func (PySem.W.fnOf "rim_from" "rim_from" (defArgs s_rim_from) (defBody s_rim_from) (defScope s_rim_from) .none kV13 dc13 pm13 an13 cd13 ct13), sl13⟩) (c13 : PySem.W.codeIn K cd13 "rim_from" = true) (k13 : PySem.W.keepIn K (.ref f13) = true)
    (a14 : PySem.W.nsIn K mainGlobals "rims" = some (some (.ref f14))) (l14 : K.lookup f14 = some ⟨oc14, od14, .func (PySem.W.fnOf "rims" "rims" (defArgs s_rims) (defBody s_rims) (defScope s_rims) .none kV14 dc14 pm14 an14 cd14 ct14), sl14⟩) (c14 : PySem.W.codeIn K cd14 "rims" = true) (k14 : PySem.W.keepIn K (.ref f14) = true)
    (a15 : PySem.W.nsIn K mainGlobals "handles" = some (some (.ref f15))) (l15 : K.lookup f15 = some ⟨oc15, od15, .func (PySem.W.fnOf "handles" "handles" (defArgs s_handles) (defBody s_handles) (defScope s_handles) .none kV15 dc15 pm15 an15 cd15 ct15), sl15⟩) (c15 : PySem.W.codeIn K cd15 "handles" = true) (k15 : PySem.W.keepIn K (.ref f15) = true)
    (a16 : PySem.W.nsIn K mainGlobals "_law_box" = some (some (.ref f16))) (l16 : K.lookup f16 = some ⟨oc16, od16, .func (PySem.W.fnOf "_law_box" "_law_box" (defArgs s_law_box) (defBody s_law_box) (defScope s_law_box) .none kV16 dc16 pm16 an16 cd16 ct16), sl16⟩) (c16 : PySem.W.codeIn K cd16 "_law_box" = true) (k16 : PySem.W.keepIn K (.ref f16) = true)
    (a17 : PySem.W.nsIn K mainGlobals "_law_take" = some (some (.ref f17))) (l17 : K.lookup f17 = some ⟨oc17, od17, .func (PySem.W.fnOf "_law_take" "_law_take" (defArgs s_law_take) (defBody s_law_take) (defScope s_law_take) .none kV17 dc17 pm17 an17 cd17 ct17), sl17⟩) (c17 : PySem.W.codeIn K cd17 "_law_take" = true) (k17 : PySem.W.keepIn K (.ref f17) = true)
    (a18 : PySem.W.nsIn K mainGlobals "_law_other" = some (some (.ref f18))) (l18 : K.lookup f18 = some ⟨oc18, od18, .func (PySem.W.fnOf "_law_other" "_law_other" (defArgs s_law_other) (defBody s_law_other) (defScope s_law_other) .none kV18 dc18 pm18 an18 cd18 ct18), sl18⟩) (c18 : PySem.W.codeIn K cd18 "_law_other" = true) (k18 : PySem.W.keepIn K (.ref f18) = true)
    (a19 : PySem.W.nsIn K mainGlobals "_law_yard" = some (some (.ref f19))) (l19 : K.lookup f19 = some ⟨oc19, od19, .func (PySem.W.fnOf "_law_yard" "_law_yard" (defArgs s_law_yard) (defBody s_law_yard) (defScope s_law_yard) .none kV19 dc19 pm19 an19 cd19 ct19), sl19⟩) (c19 : PySem.W.codeIn K cd19 "_law_yard" = true) (k19 : PySem.W.keepIn K (.ref f19) = true)
    (a20 : PySem.W.nsIn K mainGlobals "_law_word" = some (some (.ref f20))) (l20 : K.lookup f20 = some ⟨oc20, od20, .func (PySem.W.fnOf "_law_word" "_law_word" (defArgs s_law_word) (defBody s_law_word) (defScope s_law_word) .none kV20 dc20 pm20 an20 cd20 ct20), sl20⟩) (c20 : PySem.W.codeIn K cd20 "_law_word" = true) (k20 : PySem.W.keepIn K (.ref f20) = true)
    (a21 : PySem.W.nsIn K mainGlobals "_law_left" = some (some (.ref f21))) (l21 : K.lookup f21 = some ⟨oc21, od21, .func (PySem.W.fnOf "_law_left" "_law_left" (defArgs s_law_left) (defBody s_law_left) (defScope s_law_left) .none kV21 dc21 pm21 an21 cd21 ct21), sl21⟩) (c21 : PySem.W.codeIn K cd21 "_law_left" = true) (k21 : PySem.W.keepIn K (.ref f21) = true)
    (a22 : PySem.W.nsIn K mainGlobals "_law_right" = some (some (.ref f22))) (l22 : K.lookup f22 = some ⟨oc22, od22, .func (PySem.W.fnOf "_law_right" "_law_right" (defArgs s_law_right) (defBody s_law_right) (defScope s_law_right) .none kV22 dc22 pm22 an22 cd22 ct22), sl22⟩) (c22 : PySem.W.codeIn K cd22 "_law_right" = true) (k22 : PySem.W.keepIn K (.ref f22) = true)
    (a23 : PySem.W.nsIn K mainGlobals "law" = some (some (.ref f23))) (l23 : K.lookup f23 = some ⟨oc23, od23, .func (PySem.W.fnOf "law" "law" (defArgs s_law) (defBody s_law) (defScope s_law) .none kV23 dc23 pm23 an23 cd23 ct23), sl23⟩) (c23 : PySem.W.codeIn K cd23 "law" = true) (k23 : PySem.W.keepIn K (.ref f23) = true)
    (b1 : PySem.W.nsIn K mainGlobals "all" = some none) (b2 : PySem.W.nsIn K mainGlobals "bool" = some none) (b3 : PySem.W.nsIn K mainGlobals "enumerate" = some none) (b4 : PySem.W.nsIn K mainGlobals "int" = some none) (b5 : PySem.W.nsIn K mainGlobals "isinstance" = some none) (b6 : PySem.W.nsIn K mainGlobals "len" = some none) (b7 : PySem.W.nsIn K mainGlobals "list" = some none) (b8 : PySem.W.nsIn K mainGlobals "min" = some none) (b9 : PySem.W.nsIn K mainGlobals "range" = some none) (b10 : PySem.W.nsIn K mainGlobals "sorted" = some none) (b11 : PySem.W.nsIn K mainGlobals "sum" = some none) (b12 : PySem.W.nsIn K mainGlobals "tuple" = some none) (b13 : PySem.W.nsIn K mainGlobals "zip" = some none) (g1 : PySem.W.nsIn K mainGlobals "SMALL" = some (some (.str "abcdefghijklmnopqrstuvwxyz" gt1))) (g2 : PySem.W.nsIn K mainGlobals "CAPITALS" = some (some (.str "ABCDEFGHIJKLMNOPQRSTUVWXYZ" gt2)))  :
    ∃ fd : FuncData, (∀ (s : Shared) (v : Value), BindsTo s fd ⟨[v], []⟩ [("_law_script", v)]) ∧ ∀ base : Heap, K.In base → base.Ns mainGlobals mg → FnG l.prog w K mg base CX0 8 fa fd ["_law_script"] (spLaw K) := by
  have e := hfa.symm.trans (PySem.W.mg_of X G a23)
  cases e
  have F1 := fun_mk (st := s_contrary) l1 c1 k1
  have B1 := F1.binds (ps := ["letter"]) fun _ _ _ _ _ _ us hl => match us, hl with | [_], _ => rfl
  have F2 := fun_mk (st := s_bands) l2 c2 k2
  have B2 := F2.binds (ps := ["yard"]) fun _ _ _ _ _ _ us hl => match us, hl with | [_], _ => rfl
  have F3 := fun_mk (st := s_goes_round) l3 c3 k3
  have B3 := F3.binds (ps := ["yard", "x", "y", "z"]) fun _ _ _ _ _ _ us hl => match us, hl with | [_, _, _, _], _ => rfl
  have F4 := fun_mk (st := s_net) l4 c4 k4
  have B4 := F4.binds (ps := ["yard", "word"]) fun _ _ _ _ _ _ us hl => match us, hl with | [_, _], _ => rfl
  have F5 := fun_mk (st := s_lies_across) l5 c5 k5
  have B5 := F5.binds (ps := ["yard", "x", "y"]) fun _ _ _ _ _ _ us hl => match us, hl with | [_, _, _], _ => rfl
  have F6 := fun_mk (st := s_table) l6 c6 k6
  have B6 := F6.binds (ps := ["yard"]) fun _ _ _ _ _ _ us hl => match us, hl with | [_], _ => rfl
  have F7 := fun_mk (st := s_crossed) l7 c7 k7
  have B7 := F7.binds (ps := ["yard", "one", "other"]) fun _ _ _ _ _ _ us hl => match us, hl with | [_, _, _], _ => rfl
  have F8 := fun_mk (st := s_cleared) l8 c8 k8
  have B8 := F8.binds (ps := ["row", "pivots"]) fun _ _ _ _ _ _ us hl => match us, hl with | [_, _], _ => rfl
  have F9 := fun_mk (st := s_rank) l9 c9 k9
  have B9 := F9.binds (ps := ["yard"]) fun _ _ _ _ _ _ us hl => match us, hl with | [_], _ => rfl
  have F10 := fun_mk (st := s_shortened) l10 c10 k10
  have B10 := F10.binds (ps := ["word"]) fun _ _ _ _ _ _ us hl => match us, hl with | [_], _ => rfl
  have F11 := fun_mk (st := s_shortest) l11 c11 k11
  have B11 := F11.binds (ps := ["word"]) fun _ _ _ _ _ _ us hl => match us, hl with | [_], _ => rfl
  have F12 := fun_mk (st := s_ring) l12 c12 k12
  have B12 := F12.binds (ps := ["word"]) fun _ _ _ _ _ _ us hl => match us, hl with | [_], _ => rfl
  have F13 := fun_mk (st := s_rim_from) l13 c13 k13
  have B13 := F13.binds (ps := ["yard", "at"]) fun _ _ _ _ _ _ us hl => match us, hl with | [_, _], _ => rfl
  have F14 := fun_mk (st := s_rims) l14 c14 k14
  have B14 := F14.binds (ps := ["yard"]) fun _ _ _ _ _ _ us hl => match us, hl with | [_], _ => rfl
  have F15 := fun_mk (st := s_handles) l15 c15 k15
  have B15 := F15.binds (ps := ["yard"]) fun _ _ _ _ _ _ us hl => match us, hl with | [_], _ => rfl
  have F16 := fun_mk (st := s_law_box) l16 c16 k16
  have B16 := F16.binds (ps := ["_law_script", "_law_k"]) fun _ _ _ _ _ _ us hl => match us, hl with | [_, _], _ => rfl
  have F17 := fun_mk (st := s_law_take) l17 c17 k17
  have B17 := F17.binds (ps := ["_law_box_here", "_law_many"]) fun _ _ _ _ _ _ us hl => match us, hl with | [_, _], _ => rfl
  have F18 := fun_mk (st := s_law_other) l18 c18 k18
  have B18 := F18.binds (ps := ["_law_letter"]) fun _ _ _ _ _ _ us hl => match us, hl with | [_], _ => rfl
  have F19 := fun_mk (st := s_law_yard) l19 c19 k19
  have B19 := F19.binds (ps := ["_law_box_here", "_law_few", "_law_top"]) fun _ _ _ _ _ _ us hl => match us, hl with | [_, _, _], _ => rfl
  have F20 := fun_mk (st := s_law_word) l20 c20 k20
  have B20 := F20.binds (ps := ["_law_box_here", "_law_yard_here", "_law_top"]) fun _ _ _ _ _ _ us hl => match us, hl with | [_, _, _], _ => rfl
  have F21 := fun_mk (st := s_law_left) l21 c21 k21
  have B21 := F21.binds (ps := ["_law_rows"]) fun _ _ _ _ _ _ us hl => match us, hl with | [_], _ => rfl
  have F22 := fun_mk (st := s_law_right) l22 c22 k22
  have B22 := F22.binds (ps := ["_law_yard_here", "_law_words"]) fun _ _ _ _ _ _ us hl => match us, hl with | [_, _], _ => rfl
  have F23 := fun_mk (st := s_law) l23 c23 k23
  have B23 := F23.binds (ps := ["_law_script"]) fun _ _ _ _ _ _ us hl => match us, hl with | [_], _ => rfl
  let T : Tx K mg := ⟨_, _, ⟨F1, B1, PySem.W.mg_of X G a1⟩, _, _, ⟨F2, B2, PySem.W.mg_of X G a2⟩, _, _, ⟨F3, B3, PySem.W.mg_of X G a3⟩, _, _, ⟨F4, B4, PySem.W.mg_of X G a4⟩, _, _, ⟨F5, B5, PySem.W.mg_of X G a5⟩, _, _, ⟨F6, B6, PySem.W.mg_of X G a6⟩, _, _, ⟨F7, B7, PySem.W.mg_of X G a7⟩, _, _, ⟨F8, B8, PySem.W.mg_of X G a8⟩, _, _, ⟨F9, B9, PySem.W.mg_of X G a9⟩, _, _, ⟨F10, B10, PySem.W.mg_of X G a10⟩, _, _, ⟨F11, B11, PySem.W.mg_of X G a11⟩, _, _, ⟨F12, B12, PySem.W.mg_of X G a12⟩, _, _, ⟨F13, B13, PySem.W.mg_of X G a13⟩, _, _, ⟨F14, B14, PySem.W.mg_of X G a14⟩, _, _, ⟨F15, B15, PySem.W.mg_of X G a15⟩, _, _, ⟨F16, B16, PySem.W.mg_of X G a16⟩, _, _, ⟨F17, B17, PySem.W.mg_of X G a17⟩, _, _, ⟨F18, B18, PySem.W.mg_of X G a18⟩, _, _, ⟨F19, B19, PySem.W.mg_of X G a19⟩, _, _, ⟨F20, B20, PySem.W.mg_of X G a20⟩, _, _, ⟨F21, B21, PySem.W.mg_of X G a21⟩, _, _, ⟨F22, B22, PySem.W.mg_of X G a22⟩, _, _, ⟨F23, B23, PySem.W.mg_of X G a23⟩, PySem.W.mg_none_of X G b1, PySem.W.mg_none_of X G b2, PySem.W.mg_none_of X G b3, PySem.W.mg_none_of X G b4, PySem.W.mg_none_of X G b5, PySem.W.mg_none_of X G b6, PySem.W.mg_none_of X G b7, PySem.W.mg_none_of X G b8, PySem.W.mg_none_of X G b9, PySem.W.mg_none_of X G b10, PySem.W.mg_none_of X G b11, PySem.W.mg_none_of X G b12, PySem.W.mg_none_of X G b13, _, PySem.W.mg_of X G g1, _, PySem.W.mg_of X G g2⟩
  exact ⟨_, fun s v => .of_eq rfl, fun base _ _ => Pu.FnG.lawS (cls := cls0 l.prog w) (flds := flds0) law_m (ok_law T)⟩
end Lw
set_option maxRecDepth 100000 in
set_option maxHeartbeats 0 in
theorem PySem.Challenge.cw_mustmeet_k85_whole_rank_and_handles_holds : PySem.Challenge.rw_mustmeet_k85_whole_rank_and_handles.Holds := by
  w_on; o_law; k_head; (case hw => w_witness2)
  k_fill
  refine Pu.walk (k := 8) ⟨rfl, by decide, by decide⟩ (l := PySem.Challenge.rw_mustmeet_k85_whole_rank_and_handles) rfl rfl (fun w h Y => PySem.W.kIn_of Y) ?F
  case F =>
    intro w mg fa h KX G hmg
    refine' Lw.all_mk KX G hmg ?a1 ?l1 ?c1 ?k1 ?a2 ?l2 ?c2 ?k2 ?a3 ?l3 ?c3 ?k3 ?a4 ?l4 ?c4 ?k4 ?a5 ?l5 ?c5 ?k5 ?a6 ?l6 ?c6 ?k6 ?a7 ?l7 ?c7 ?k7 ?a8 ?l8 ?c8 ?k8 ?a9 ?l9 ?c9 ?k9 ?a10 ?l10 ?c10 ?k10 ?a11 ?l11 ?c11 ?k11 ?a12 ?l12 ?c12 ?k12 ?a13 ?l13 ?c13 ?k13 ?a14 ?l14 ?c14 ?k14 ?a15 ?l15 ?c15 ?k15 ?a16 ?l16 ?c16 ?k16 ?a17 ?l17 ?c17 ?k17 ?a18 ?l18 ?c18 ?k18 ?a19 ?l19 ?c19 ?k19 ?a20 ?l20 ?c20 ?k20 ?a21 ?l21 ?c21 ?k21 ?a22 ?l22 ?c22 ?k22 ?a23 ?l23 ?c23 ?k23 ?b1 ?b2 ?b3 ?b4 ?b5 ?b6 ?b7 ?b8 ?b9 ?b10 ?b11 ?b12 ?b13 ?g1 ?g2
    (case a1 => k_is); (case l1 => k_is); (case c1 => k_is); (case k1 => k_is); (case a2 => k_is); (case l2 => k_is); (case c2 => k_is); (case k2 => k_is); (case a3 => k_is); (case l3 => k_is); (case c3 => k_is); (case k3 => k_is); (case a4 => k_is); (case l4 => k_is); (case c4 => k_is); (case k4 => k_is); (case a5 => k_is); (case l5 => k_is); (case c5 => k_is); (case k5 => k_is); (case a6 => k_is); (case l6 => k_is); (case c6 => k_is); (case k6 => k_is); (case a7 => k_is); (case l7 => k_is); (case c7 => k_is); (case k7 => k_is); (case a8 => k_is); (case l8 => k_is); (case c8 => k_is); (case k8 => k_is); (case a9 => k_is); (case l9 => k_is); (case c9 => k_is); (case k9 => k_is); (case a10 => k_is); (case l10 => k_is); (case c10 => k_is); (case k10 => k_is); (case a11 => k_is); (case l11 => k_is); (case c11 => k_is); (case k11 => k_is); (case a12 => k_is); (case l12 => k_is); (case c12 => k_is); (case k12 => k_is); (case a13 => k_is); (case l13 => k_is); (case c13 => k_is); (case k13 => k_is); (case a14 => k_is); (case l14 => k_is); (case c14 => k_is); (case k14 => k_is); (case a15 => k_is); (case l15 => k_is); (case c15 => k_is); (case k15 => k_is); (case a16 => k_is); (case l16 => k_is); (case c16 => k_is); (case k16 => k_is); (case a17 => k_is); (case l17 => k_is); (case c17 => k_is); (case k17 => k_is); (case a18 => k_is); (case l18 => k_is); (case c18 => k_is); (case k18 => k_is); (case a19 => k_is); (case l19 => k_is); (case c19 => k_is); (case k19 => k_is); (case a20 => k_is); (case l20 => k_is); (case c20 => k_is); (case k20 => k_is); (case a21 => k_is); (case l21 => k_is); (case c21 => k_is); (case k21 => k_is); (case a22 => k_is); (case l22 => k_is); (case c22 => k_is); (case k22 => k_is); (case a23 => k_is); (case l23 => k_is); (case c23 => k_is); (case k23 => k_is); (case b1 => k_is); (case b2 => k_is); (case b3 => k_is); (case b4 => k_is); (case b5 => k_is); (case b6 => k_is); (case b7 => k_is); (case b8 => k_is); (case b9 => k_is); (case b10 => k_is); (case b11 => k_is); (case b12 => k_is); (case b13 => k_is); (case g1 => k_is); (case g2 => k_is)
